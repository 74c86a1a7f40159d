import PyProof.Rows.All
import Wide.All
import OpenK.AllK
import Wide.FinOn
import KE.KStateDown
import HandS.ForMost
import HandS.ForExc
import HandS.Style
import HandS.Wide
import HandS.WideBits
import HandS.CallSlots
import HandS.Defaults
import HandS.Walk
import KE.KExcSuper
import KE.KExcIs
import HandS.ExcInit
import HandS.ExcSuper
import HandS.ExcField
import HandS.ExcIs
import HandS.ExcOwn
import HandS.Ends
import PyProof.ReprRoads
import HandS.Head0
import HandS.Head1
import HandS.Head2
import HandS.HeadEnd
import HandS.HeadHook1
import HandS.HeadHook2
import HandS.HeadHook3
import HandS.IsInst
import HandS.RaiseMore
import HandS.NoneIn
import PyProof.Rows.SortShellAny
import HandS.Codes
import PyProof.ReprLen
import PyProof.StrLawsRepr
import PySem.Challenge.RW_treeturns_k50_balanced_trees
set_option Elab.async false
set_option linter.all false
set_option maxRecDepth 100000
set_option maxHeartbeats 4000000
set_option exponentiation.threshold 4000
/-! M0: readings that reckon themselves (by cases on the values at hand), over the hand layer's judgements. -/
namespace M
open PySem PySem.Spec PyProof.Rows L2

/-! ### weakening -/
section
variable {X : Cx}
theorem pe_imp {e : Expr} {t t' : TE} (h : PE X e t) (w : ∀ σ H Q, t' σ H Q → t σ H Q) : PE X e t' := ⟨fun pins s σ H Q I q => h.run pins s σ H Q I (w σ H Q q)⟩
theorem pt_imp {e : Expr} {t t' : TT} (h : PT X e t) (w : ∀ σ H Q, t' σ H Q → t σ H Q) : PT X e t' := ⟨fun pins s σ H Q I q => h.run pins s σ H Q I (w σ H Q q)⟩
theorem ps_imp {e : Stmt} {t t' : TS} (h : PS X e t) (w : ∀ D σ H, t' D σ H → t D σ H) : PS X e t' := ⟨fun pins s σ H D I q => h.run pins s σ H D I (w D σ H q)⟩
theorem pg_imp {e : Expr} {t t' : TG} (h : PG X e t) (w : ∀ v σ H Q, t' v σ H Q → t v σ H Q) : PG X e t' := ⟨fun pins s σ H v u Q I r q => h.run pins s σ H v u Q I r (w v σ H Q q)⟩
theorem pgs_imp {e : List Expr} {t t' : TGs} (h : PGs X e t) (w : ∀ v σ H Q, t' v σ H Q → t v σ H Q) : PGs X e t' := ⟨fun pins s σ H v u Q I r q => h.run pins s σ H v u Q I r (w v σ H Q q)⟩
theorem opR_imp {f : Value → Value → Sem Value} {r r' : R2} (h : OpR X f r) (w : ∀ x y H Q, r' x y H Q → r x y H Q) : OpR X f r' := fun pins s σ H x y v u Q I rx ry q => h pins s σ H x y v u Q I rx ry (w x y H Q q)
theorem ixR_imp {r r' : R2} (h : IxR X r) (w : ∀ x y H Q, r' x y H Q → r x y H Q) : IxR X r' := fun value slice pins s σ H x y v u Q I rx ry q => h value slice pins s σ H x y v u Q I rx ry (w x y H Q q)
theorem slR_imp {r r' : V → Option Int → Option Int → Hp → VK → Prop} (h : SlR X r) (w : ∀ x l u H Q, r' x l u H Q → r x l u H Q) : SlR X r' := fun pins s σ H x v vl vu lo hi sl Q I rx hs pl pu q => h pins s σ H x v vl vu lo hi sl Q I rx hs pl pu (w _ _ _ _ _ q)
theorem callR_imp {f : Value} {r r' : List V → Hp → VK → Prop} (h : CallR X f r) (w : ∀ x H Q, r' x H Q → r x H Q) : CallR X f r' := fun pins s σ H xs us Q I r q => h pins s σ H xs us Q I r (w _ _ _ q)
end

/-! ### texts as lists of codes -/
def S (l : List Nat) : Str := ⟨l.toArray⟩
theorem S_cps (l : List Nat) : (S l).cps.toList = l := by simp [S]
theorem S_len (l : List Nat) : (S l).length = l.length := by simp [S, Str.length]
theorem S_app (a b : List Nat) : S a ++ S b = S (a ++ b) := by
  show (⟨a.toArray ++ b.toArray⟩ : Str) = ⟨(a ++ b).toArray⟩
  rw [← List.append_toArray]
theorem S_inj {a b : List Nat} : S a = S b ↔ a = b := by
  constructor
  · intro h
    have := congrArg (fun s : Str => s.cps.toList) h
    simpa [S] using this
  · rintro rfl; rfl
theorem S_of (z : Str) : S z.cps.toList = z := by
  cases z; simp [S]
theorem S_one (c : Nat) : (⟨#[c]⟩ : Str) = S [c] := rfl
theorem str_S (a b : List Nat) : (V.str (S a) = V.str (S b)) ↔ a = b := by
  rw [V.str.injEq, S_inj]

/-! ### slots -/
abbrev Sl := List (Option V)
def gt : Sl → Nat → Option V
  | [], _ => none
  | x :: _, 0 => x
  | _ :: r, n + 1 => gt r n
theorem gt_some : ∀ {σ : Sl} {i : Nat} {v : V}, gt σ i = some v → σ[i]? = some (some v)
  | [], _, _, h => by cases h
  | x :: _, 0, v, h => by
    have h' : x = some v := h
    rw [h']; rfl
  | _ :: r, n + 1, v, h => by
    have := gt_some (σ := r) (i := n) (v := v) h
    simpa using this
def mVar (i : Nat) : TE := fun σ H Q => match gt σ i with | some v => Q v H | none => False
def mC (v : V) : TE := fun _ H Q => Q v H
section
variable {X : Cx} {a b : Expr} {ta tb : TE} {pos : Pos}
theorem mv (i : Nat) {x : Str} {pos : Pos} (hN : X.N[i]? = some x := by rfl) (hv : Vis X.env.scope x := by first | exact Or.inl rfl | exact Or.inr (Or.inl rfl) | exact Or.inr (Or.inr rfl)) (hd : (x == ("__debug__" : Str)) = false := by decide)
    (hcd : (x == ("__classdict__" : Str)) = false := by decide) : PE X (.Name x pos) (mVar i) := pe_imp (pe_var hN hv hd hcd) fun σ H Q q => by
  unfold mVar at q
  cases e : gt σ i with
  | none => rw [e] at q; exact q.elim
  | some v => rw [e] at q; exact ⟨v, gt_some e, q⟩
theorem me_int {i j pos} : PE X (.Constant (.int i) j pos) (mC (.int i)) := pe_int
theorem me_bl {i j pos} : PE X (.Constant (.bool i) j pos) (mC (.bl i)) := pe_bl
theorem me_non {j pos} : PE X (.Constant .none j pos) (mC .non) := pe_non
theorem me_str (l : List Nat) {x j pos} (h : x = S l) : PE X (.Constant (.str x) j pos) (mC (.str (S l))) := by subst h; exact pe_str
theorem me_gint {x : Str} {i : Int} {t : Tok} {pos : Pos} (hg : Gl X x) (hm : X.mg x = some (.int i t)) (hd : (x == ("__debug__" : Str)) = false := by decide) : PE X (.Name x pos) (mC (.int i)) := pe_glob hg hm ⟨t, rfl⟩ hd
theorem me_gstr (l : List Nat) {x z : Str} {t : Tok} {pos : Pos} (hg : Gl X x) (hm : X.mg x = some (.str z t)) (h : z = S l) (hd : (x == ("__debug__" : Str)) = false := by decide) : PE X (.Name x pos) (mC (.str (S l))) := by
  subst h; exact pe_glob hg hm ⟨t, rfl⟩ hd

/-! ### operators -/
/-- a number below this many bits in all -/
def MulOk (i j : Int) : Prop := i.natAbs.log2 + j.natAbs.log2 < 1000000
theorem MulOk.of {i j : Int} (a b : Nat) (ha : i.natAbs < 2 ^ a) (hb : j.natAbs < 2 ^ b) (h0 : 0 < a := by decide) (h1 : 0 < b := by decide) (h : a + b ≤ 1000000 := by decide) : MulOk i j := wide_mul ha hb h0 h1 h
def DivOk (j : Int) : Prop := 0 < j ∧ j.natAbs.log2 < 9000
theorem DivOk.of {j : Int} (b : Nat) (h : 0 < j) (hb : j.natAbs < 2 ^ b) (h0 : 0 < b := by decide) (h9 : b ≤ 9000 := by decide) : DivOk j := wide_div (i := 0) h hb h0 h9
def mAdd : R2 := fun x y H Q => match x, y with
  | .int i, .int j => Q (.int (i + j)) H
  | .str a, .str b => a.length + b.length ≤ sizeLine ∧ Q (.str (a ++ b)) H
  | .ref a, .ref b => (∃ xs zs, H a = some (.lst xs) ∧ H b = some (.lst zs) ∧ xs.length + zs.length ≤ sizeLine ∧ ∀ p, H p = none → Q (.ref p) (upd H p (.lst (xs ++ zs))))
  | .int i, .bl k => Q (.int (i + b2i k)) H
  | _, _ => False
theorem op_addM : OpR X (binaryOp .Add) mAdd := by
  intro pins s σ H x y v u Q I rx ry q
  unfold mAdd at q
  split at q
  · exact op_add pins s σ H _ _ v u Q I rx ry ⟨_, _, rfl, rfl, q⟩
  · exact op_add_str pins s σ H _ _ v u Q I rx ry ⟨_, _, rfl, rfl, q⟩
  · obtain ⟨xs, zs, h1, h2, h3, h4⟩ := q
    exact op_cat pins s σ H _ _ v u Q I rx ry ⟨_, _, xs, zs, rfl, rfl, h1, h2, h3, h4⟩
  · exact op_add_ib pins s σ H _ _ v u Q I rx ry ⟨_, _, rfl, rfl, q⟩
  · exact q.elim
def mSub : R2 := fun x y H Q => match x, y with
  | .int i, .int j => Q (.int (i - j)) H
  | _, _ => False
theorem op_subM : OpR X (binaryOp .Sub) mSub := opR_imp op_sub fun x y H Q q => by
  unfold mSub at q
  split at q
  · exact ⟨_, _, rfl, rfl, q⟩
  · exact q.elim
def mMul : R2 := fun x y H Q => match x, y with
  | .int i, .int j => MulOk i j ∧ Q (.int (i * j)) H
  | .ref l, .int k => ∃ xs, H l = some (.lst xs) ∧ -(2 ^ 63) ≤ k ∧ k < 2 ^ 63 ∧ xs.length * k.toNat ≤ sizeLine ∧ ∀ p, H p = none → Q (.ref p) (upd H p (.lst (List.replicate k.toNat xs).flatten))
  | _, _ => False
theorem op_mulM : OpR X (binaryOp .Mult) mMul := by
  intro pins s σ H x y v u Q I rx ry q
  unfold mMul at q
  split at q
  · exact op_mulW pins s σ H _ _ v u Q I rx ry ⟨_, _, rfl, rfl, q⟩
  · obtain ⟨xs, h1, h2, h3, h4, h5⟩ := q
    exact op_rep pins s σ H _ _ v u Q I rx ry ⟨_, _, xs, rfl, rfl, h1, h2, h3, h4, h5⟩
  · exact q.elim
def mMod : R2 := fun x y H Q => match x, y with
  | .int i, .int j => 0 < j ∧ Q (.int (i % j)) H
  | _, _ => False
theorem op_modM : OpR X (binaryOp .Mod) mMod := opR_imp op_mod fun x y H Q q => by
  unfold mMod at q
  split at q
  · exact ⟨_, _, rfl, rfl, q⟩
  · exact q.elim
def mDiv : R2 := fun x y H Q => match x, y with
  | .int i, .int j => DivOk j ∧ Q (.int (i / j)) H
  | _, _ => False
theorem op_divM : OpR X (binaryOp .FloorDiv) mDiv := opR_imp op_fdivW fun x y H Q q => by
  unfold mDiv at q
  split at q
  · exact ⟨_, _, rfl, rfl, q⟩
  · exact q.elim
def mPow : R2 := fun x y H Q => match x, y with
  | .int i, .int j => (0 ≤ j ∧ (Builtin.Int.intBits i : Int) * j ≤ 2 ^ 27) ∧ Q (.int (i ^ j.toNat)) H
  | _, _ => False
theorem op_powM : OpR X (binaryOp .Pow) mPow := by
  intro pins s σ H x y v u Q I rx ry q
  unfold mPow at q
  split at q
  · obtain ⟨t, rfl⟩ := rx
    obtain ⟨t', rfl⟩ := ry
    exact pow_int q.1.1 q.1.2 ⟨.int _, H, I.tok _, ⟨_, rfl⟩, q.2⟩
  · exact q.elim

/-! ### comparisons -/
def mEqB (x y : V) : Option Bool := match x, y with
  | .int i, .int j => some (decide (i = j))
  | .str a, .str b => some (decide (a = b))
  | .bl a, .bl b => some (decide (a = b))
  | .non, .non => some true
  | .non, .int _ => some false
  | .non, .str _ => some false
  | .non, .bl _ => some false
  | .int _, .non => some false
  | .str _, .non => some false
  | .bl _, .non => some false
  | .int _, .str _ => some false
  | .str _, .int _ => some false
  | .bl _, .str _ => some false
  | .str _, .bl _ => some false
  | _, _ => none
theorem mEqB_ok {x y : V} {b : Bool} (h : mEqB x y = some b) : scal x y = true ∧ decide (x = y) = b := by
  unfold mEqB at h
  split at h <;> (try cases h) <;> refine ⟨rfl, ?_⟩ <;> simp
/-- == of data, one of both not deep -/
def rEqW (K : PySem.W.Frag) (neg : Bool) : R2 := fun x y H Q => ∃ d e, Dp K H x d ∧ Dp K H y e ∧ d.canLay0 = true ∧ e.canLay0 = true ∧ min d.depth e.depth ≤ 64 ∧ Q (.bl (if neg then !PyData.eqv d e else PyData.eqv d e)) H
theorem op_eqW (hu : X.A.units + 64 < cLine) : OpR X (compareOp .Eq) (rEqW X.K false) := by
  intro pins s σ H x y v u Q I rx ry h
  obtain ⟨d, e, hd, he, sd, se, hm, q⟩ := h
  obtain ⟨as, r1⟩ := Dp.reads I d x v hd rx
  obtain ⟨bs, r2⟩ := Dp.reads I e y u he ry
  exact SeqAt.compareEq_reads r1 r2 sd se (by omega) ⟨.bl _, H, I, rfl, q⟩
theorem op_neW (hu : X.A.units + 64 < cLine) : OpR X (compareOp .NotEq) (rEqW X.K true) := by
  intro pins s σ H x y v u Q I rx ry h
  obtain ⟨d, e, hd, he, sd, se, hm, q⟩ := h
  obtain ⟨as, r1⟩ := Dp.reads I d x v hd rx
  obtain ⟨bs, r2⟩ := Dp.reads I e y u he ry
  exact SeqAt.compareNe_reads r1 r2 sd se (by omega) ⟨.bl _, H, I, rfl, q⟩
def mEq (K : PySem.W.Frag) : R2 := fun x y H Q => match mEqB x y with
  | some b => Q (.bl b) H
  | none => rEqW K false x y H Q
def mNe (K : PySem.W.Frag) : R2 := fun x y H Q => match mEqB x y with
  | some b => Q (.bl (!b)) H
  | none => rEqW K true x y H Q
theorem op_eqM (hu : X.A.units + 64 < cLine) : OpR X (compareOp .Eq) (mEq X.K) := by
  intro pins s σ H x y v u Q I rx ry q
  unfold mEq at q
  split at q
  · rename_i b e
    obtain ⟨h1, h2⟩ := mEqB_ok e
    refine op_eq pins s σ H _ _ v u Q I rx ry ⟨h1, ?_⟩
    rw [h2]; exact q
  · exact op_eqW hu pins s σ H _ _ v u Q I rx ry q
theorem op_neM (hu : X.A.units + 64 < cLine) : OpR X (compareOp .NotEq) (mNe X.K) := by
  intro pins s σ H x y v u Q I rx ry q
  unfold mNe at q
  split at q
  · rename_i b e
    obtain ⟨h1, h2⟩ := mEqB_ok e
    refine op_ne pins s σ H _ _ v u Q I rx ry ⟨h1, ?_⟩
    rw [h2]; exact q
  · exact op_neW hu pins s σ H _ _ v u Q I rx ry q
def mCmp (p : Int → Int → Bool) : R2 := fun x y H Q => match x, y with
  | .int i, .int j => Q (.bl (p i j)) H
  | _, _ => False
theorem cmp_imp {p : Int → Int → Bool} {f : Value → Value → Sem Value} (h : OpR X f (rI0 fun i j => .bl (p i j))) : OpR X f (mCmp p) := opR_imp h fun x y H Q q => by
  unfold mCmp at q
  split at q
  · exact ⟨_, _, rfl, rfl, q⟩
  · exact q.elim
def mLt : R2 := mCmp fun i j => decide (i < j)
def mLe : R2 := mCmp fun i j => decide (i ≤ j)
def mGt : R2 := mCmp fun i j => decide (j < i)
def mGe : R2 := mCmp fun i j => decide (j ≤ i)
theorem op_ltM : OpR X (compareOp .Lt) mLt := cmp_imp op_lt
theorem op_leM : OpR X (compareOp .LtE) mLe := cmp_imp op_le
theorem op_gtM : OpR X (compareOp .Gt) mGt := cmp_imp op_gt
theorem op_geM : OpR X (compareOp .GtE) mGe := cmp_imp op_ge
/-- is None, is not None -/
def isN : V → Bool
  | .non => true
  | _ => false
theorem isN_eq (x : V) : decide (x = .non) = isN x := by cases x <;> simp [isN]
def mIsN : R2 := fun x y H Q => match y with
  | .non => Q (.bl (isN x)) H
  | _ => False
def mNotN : R2 := fun x y H Q => match y with
  | .non => Q (.bl (!isN x)) H
  | _ => False
theorem op_isNM : OpR X (compareOp .Is) mIsN := opR_imp op_isN fun x y H Q q => by
  unfold mIsN at q
  split at q
  · exact ⟨rfl, by rw [isN_eq]; exact q⟩
  · exact q.elim
theorem op_notNM : OpR X (compareOp .IsNot) mNotN := opR_imp op_notN fun x y H Q q => by
  unfold mNotN at q
  split at q
  · exact ⟨rfl, by rw [isN_eq]; exact q⟩
  · exact q.elim
/-- x in a list or tuple of flat things -/
def mInS (K : PySem.W.Frag) : R2 := fun x y H Q => rIn K false x y H Q
def mNinS (K : PySem.W.Frag) : R2 := fun x y H Q => rIn K true x y H Q
theorem op_inSM : OpR X (compareOp .In) (mInS X.K) := op_in_seq
theorem op_ninSM : OpR X (compareOp .NotIn) (mNinS X.K) := op_notIn_seq
/-- one sign in a text -/
def mInC : R2 := fun x y H Q => match x, y with
  | .str c, .str z => ∃ k, c = S [k] ∧ Q (.bl (decide (k ∈ z.cps.toList))) H
  | _, _ => False
theorem op_inCM : OpR X (compareOp .In) mInC := opR_imp op_in_sign fun x y H Q q => by
  unfold mInC at q
  split at q
  · obtain ⟨k, rfl, q⟩ := q
    exact ⟨k, _, rfl, rfl, q⟩
  · exact q.elim
def mNinC : R2 := fun x y H Q => match x, y with
  | .str c, .str z => ∃ k, c = S [k] ∧ Q (.bl (!decide (k ∈ z.cps.toList))) H
  | _, _ => False
theorem op_ninCM : OpR X (compareOp .NotIn) mNinC := opR_imp op_notIn_sign fun x y H Q q => by
  unfold mNinC at q
  split at q
  · obtain ⟨k, rfl, q⟩ := q
    exact ⟨k, _, rfl, rfl, q⟩
  · exact q.elim

/-! ### tests -/
def mTest (t : TE) : TT := fun σ H Q => t σ H fun x H' => match x with
  | .bl k => Q k H'
  | _ => False
def bX (Q : Bool → Hp → Prop) : VK := fun x H' => ∃ k, x = .bl k ∧ Q k H'
theorem bX_of {Q : Bool → Hp → Prop} {x : V} {H : Hp} (q : match x with | .bl k => Q k H | _ => False) : ∃ k, x = .bl k ∧ Q k H := by
  cases x with
  | bl k => exact ⟨k, rfl, q⟩
  | _ => exact q.elim
end
end M

namespace M
open PySem PySem.Spec PyProof.Rows L2

/-! ### a reading's closure: what it wants may be weaker than what is given -/
def cl (t : TE) : TE := fun σ H Q => ∃ Q' : VK, t σ H Q' ∧ ∀ v H', Q' v H' → Q v H'
def clT (t : TT) : TT := fun σ H Q => ∃ Q' : Bool → Hp → Prop, t σ H Q' ∧ ∀ v H', Q' v H' → Q v H'
def clA (t : TA) : TA := fun σ H Q => ∃ Q' : List V → Hp → Prop, t σ H Q' ∧ ∀ v H', Q' v H' → Q v H'
section
variable {X : Cx} {a b c : Expr} {ta tb tc : TE} {pos : Pos} {t u : TT}
theorem pe_cl (h : PE X a ta) : PE X a (cl ta) := ⟨fun pins s σ H Q I ⟨Q', q, w⟩ => thn (h.run pins s σ H Q' I q) fun _ _ ⟨v, H', I', r, z⟩ => ⟨v, H', I', r, w v H' z⟩⟩
theorem pt_cl (h : PT X a t) : PT X a (clT t) := ⟨fun pins s σ H Q I ⟨Q', q, w⟩ => thn (h.run pins s σ H Q' I q) fun _ _ ⟨H', I', z⟩ => ⟨H', I', w _ H' z⟩⟩
theorem pa_cl {es : List Expr} {t : TA} (h : PA X es t) : PA X es (clA t) := ⟨fun pos pins s σ H Q I ⟨Q', q, w⟩ => thn (h.run pos pins s σ H Q' I q) fun _ _ ⟨v, H', I', r, z⟩ => ⟨v, H', I', r, w v H' z⟩⟩
def clR (r : R2) : R2 := fun x y H Q => ∃ Q' : VK, r x y H Q' ∧ ∀ v H', Q' v H' → Q v H'
theorem opR_cl {f : Value → Value → Sem Value} {r : R2} (h : OpR X f r) : OpR X f (clR r) := fun pins s σ H x y v u Q I rx ry ⟨Q', q, w⟩ => thn (h pins s σ H x y v u Q' I rx ry q) fun _ _ ⟨v, H', I', r, z⟩ => ⟨v, H', I', r, w v H' z⟩

/-! ### tests -/
theorem mt_val (h : PE X a ta) (he : ∀ whole, isTrue a X.env whole = (do let v ← whole; standAt a.pos; holding [v] (truthy v)) := by intro _; rfl) : PT X a (mTest ta) :=
  pt_imp (pt_val (pe_cl h) he) fun σ H Q q => ⟨_, q, fun v H' z => bX_of z⟩
theorem mt_cmp {op : CmpOp} {r : R2} (ho : OpR X (compareOp op) r) (ha : PE X a ta) (hb : PE X b tb) (hm : behindInMarks op b = false) : PT X (.Compare a [op] [b] pos) (mTest (tOp r ta tb)) :=
  pt_imp (pt_cmpR (opR_cl ho) (pe_cl ha) (pe_cl hb) hm) fun σ H Q q => ⟨_, q, fun x H1 q1 => ⟨_, q1, fun y H2 q2 => ⟨_, q2, fun z H3 q3 => bX_of q3⟩⟩⟩
def mChain (r r' : R2) (ta tb tc : TE) : TE := fun σ H Q => ta σ H fun x H1 => tb σ H1 fun y H2 => r x y H2 fun z H3 => match z with
  | .bl true => tc σ H3 fun w H4 => r' y w H4 Q
  | .bl false => Q (.bl false) H3
  | _ => False
/-! and, or, not as values -/
def mAndV (ta tb : TE) : TE := fun σ H Q => ta σ H fun x H1 => match x with
  | .bl c => if c = true then tb σ H1 Q else Q (.bl false) H1
  | _ => False
def mOrV (ta tb : TE) : TE := fun σ H Q => ta σ H fun x H1 => match x with
  | .bl c => if c = true then Q (.bl true) H1 else tb σ H1 Q
  | _ => False
def mNotV (ta : TE) : TE := fun σ H Q => ta σ H fun x H1 => match x with
  | .bl c => Q (.bl (!c)) H1
  | _ => False
variable {rest : List Expr}
theorem me_and (ha : PE X a ta) (hb : PE X (.BoolOp .And (b :: rest) pos) tb) : PE X (.BoolOp .And (a :: b :: rest) pos) (mAndV ta tb) :=
  pe_imp (pe_and (pe_cl ha) hb) fun σ H Q q => ⟨_, q, fun x H1 z => by
    cases x with
    | bl c => exact ⟨c, rfl, z⟩
    | _ => exact z.elim⟩
theorem me_or (ha : PE X a ta) (hb : PE X (.BoolOp .Or (b :: rest) pos) tb) : PE X (.BoolOp .Or (a :: b :: rest) pos) (mOrV ta tb) :=
  pe_imp (pe_or (pe_cl ha) hb) fun σ H Q q => ⟨_, q, fun x H1 z => by
    cases x with
    | bl c => exact ⟨c, rfl, z⟩
    | _ => exact z.elim⟩
theorem me_not (ha : PE X a ta) : PE X (.UnaryOp .Not a pos) (mNotV ta) :=
  pe_imp (pe_not (pe_cl ha)) fun σ H Q q => ⟨_, q, fun x H1 z => by
    cases x with
    | bl c => exact ⟨c, rfl, z⟩
    | _ => exact z.elim⟩
def mUn (f : Int → Int) (ta : TE) : TE := fun σ H Q => ta σ H fun x H1 => match x with
  | .int i => Q (.int (f i)) H1
  | _ => False
theorem me_neg (ha : PE X a ta) : PE X (.UnaryOp .USub a pos) (mUn (fun i => -i) ta) :=
  pe_imp (pe_un un_neg (pe_cl ha)) fun σ H Q q => ⟨_, q, fun x H1 z => by
    cases x with
    | int i => exact ⟨i, rfl, z⟩
    | _ => exact z.elim⟩

/-! ### subscripts -/
def mIx (K : PySem.W.Frag) : R2 := fun x y H Q => match x, y with
  | .str z, .int i => z.length ≤ sizeLine ∧ ∃ c, atI z.cps.toList i = some c ∧ Q (.str (S [c])) H
  | .ref p, .int i => ∃ xs v, (SqL K H p xs ∨ SqT K H p xs) ∧ atI xs i = some v ∧ Q v H
  | _, _ => False
theorem ix_M : IxR X (mIx X.K) := ixR_imp ix_seq fun x y H Q q => by
  unfold mIx at q
  split at q
  · obtain ⟨h, c, e, q⟩ := q
    exact .inr (.inr ⟨_, _, c, rfl, rfl, h, e, q⟩)
  · obtain ⟨xs, v, h | h, e, q⟩ := q
    · exact .inl ⟨_, xs, _, v, rfl, rfl, h, e, q⟩
    · exact .inr (.inl ⟨_, xs, _, v, rfl, rfl, h, e, q⟩)
  · exact q.elim
theorem me_ix (ha : PE X a ta) (hb : PE X b tb) (hs : PlainIx b) : PE X (.Subscript a b pos) (tOp (mIx X.K) ta tb) := pe_ix ix_M ha hb hs
def mPart (t : TE) : TO := fun σ H Q => t σ H fun x H1 => match x with
  | .int i => Q (some i) H1
  | _ => False
theorem mo_some (h : PE X a ta) : PO X (some a) (mPart ta) := by
  have z := po_some (pe_cl h)
  exact ⟨fun pins s σ H Q I q => z.run pins s σ H Q I ⟨_, q, fun x H1 y => by
    cases x with
    | int i => exact ⟨i, rfl, y⟩
    | _ => exact y.elim⟩⟩
/-- l[lo:hi] -/
def cutL {α : Type} (l : List α) (lo hi : Option Int) : List α := (l.drop (HT.sIx l.length 0 lo)).take (HT.sIx l.length l.length hi - HT.sIx l.length 0 lo)
def mSl (K : PySem.W.Frag) : V → Option Int → Option Int → Hp → VK → Prop := fun x lo hi H Q => match x with
  | .str z => z.length ≤ sizeLine ∧ Q (.str (S (cutL z.cps.toList lo hi))) H
  | .ref a => (∃ xs, SqL K H a xs ∧ ∀ p, H p = none → Q (.ref p) (upd H p (.lst (cutL xs lo hi))))
  | _ => False
theorem sl_M : SlR X (mSl X.K) := slR_imp (sl_str.or sl_list) fun x lo hi H Q q => by
  unfold mSl at q
  split at q
  · exact .inl ⟨_, rfl, q.1, q.2⟩
  · obtain ⟨xs, h, q⟩ := q
    exact .inr ⟨_, xs, rfl, h, q⟩
  · exact q.elim
theorem me_slice {lo hi : Option Expr} {tl th : TO} {p2 : Pos} (ha : PE X a ta) (hl : PO X lo tl) (hh : PO X hi th) : PE X (.Subscript a (.Slice lo hi none p2) pos) (tSl (mSl X.K) ta tl th) := pe_slice sl_M ha hl hh
end

/-! ### statements -/
section
variable {X : Cx} {pos : Pos}
/-- (a, b, ..) = a tuple -/
def mgTup (K : PySem.W.Frag) (n : Nat) (t : TGs) : TG := fun v σ H Q => match v with
  | .ref a => ∃ xs, SqT K H a xs ∧ xs.length = n ∧ t xs σ H Q
  | _ => False
theorem mg_tup {es : List Expr} {k : Nat} {t : TGs} {n : Nat} (hc : X.calm = true) (h : PGs X es t)
    (hn : (assignEach es X.env).length = n := by rfl) (hst : (assignEach es X.env).findIdx? (·.1) = none := by rfl) : PG X (.Tuple es k pos) (mgTup X.K n t) :=
  pg_imp (pg_tup hc h hn hst) fun v σ H Q q => by
    unfold mgTup at q
    split at q
    · obtain ⟨xs, h, q⟩ := q
      exact ⟨_, xs, rfl, h, q⟩
    · exact q.elim
def mgNil : TGs := fun vs σ H Q => match vs with
  | [] => Q σ H
  | _ => False
def mgCons (t : TG) (u : TGs) : TGs := fun vs σ H Q => match vs with
  | v :: r => t v σ H fun σ' H' => u r σ' H' Q
  | [] => False
theorem mgs_nil : PGs X [] mgNil := pgs_imp pgs_nil fun vs σ H Q q => by
  cases vs with
  | nil => exact ⟨rfl, q⟩
  | cons _ _ => exact q.elim
theorem mgs_cons {e : Expr} {es : List Expr} {t : TG} {u : TGs} (h1 : PG X e t) (h2 : PGs X es u)
    (hs : (assignEach (e :: es) X.env).map (·.2) = assign e X.env :: (assignEach es X.env).map (·.2) := by rfl) : PGs X (e :: es) (mgCons t u) := pgs_imp (pgs_cons h1 h2 hs) fun vs σ H Q q => by
  cases vs with
  | nil => exact q.elim
  | cons v r => exact ⟨v, r, rfl, q⟩
/-- o[i] = v, a list -/
def mSetL : V → V → V → Hp → (Hp → Prop) → Prop := fun o i v H Q => match o, i with
  | .ref p, .int k => ∃ xs j, H p = some (.lst xs) ∧ ixN xs.length k = some j ∧ Q (upd H p (.lst (xs.set j v)))
  | _, _ => False
theorem set_listM : PSet X mSetL := fun pins s σ H o i v ov iv u Q I ro ri rv q => by
  unfold mSetL at q
  split at q
  · obtain ⟨xs, j, h1, h2, q⟩ := q
    exact set_list pins s σ H _ _ v ov iv u Q I ro ri rv ⟨_, xs, _, j, rfl, rfl, h1, h2, q⟩
  · exact q.elim
/-- a, b = x, y -/
def mPar (i j : Nat) (ta : TA) : TS := fun D σ H => ta σ H fun vs H1 => match vs with
  | [v, w] => D.nx ((σ.set i (some v)).set j (some w)) H1
  | _ => False
theorem ms_par {i j : Nat} {x y : Str} {a b : Expr} {ta : TA} {px py pt : Pos} {kt k2 pt2} (hc : X.calm = true) (hN : X.N.Nodup) (hi : X.N[i]? = some x) (hj : X.N[j]? = some y) (hij : i ≠ j)
    (hx : X.env.scope.names.lookup x = some .local) (hy : X.env.scope.names.lookup y = some .local) (ha : PA X [a, b] ta)
    (hw : swappedStores [.Tuple [.Name x px, .Name y py] kt pt] (.Tuple [a, b] k2 pt2) X.env = pure (some [x, y]))
    (hs : swapsWithSole [.Tuple [.Name x px, .Name y py] kt pt] (.Tuple [a, b] k2 pt2) pos.line X.env = pure false := by rfl) :
    PS X (.Assign [.Tuple [.Name x px, .Name y py] kt pt] (.Tuple [a, b] k2 pt2) pos) (mPar i j ta) :=
  ps_imp (ps_par hc hN hi hj hij hx hy (pa_cl ha) hw hs) fun D σ H q => ⟨_, q, fun vs H1 z => by
    split at z
    · exact ⟨_, _, rfl, z⟩
    · exact z.elim⟩
/-- name op= e -/
def mAug (i : Nat) (te : TE) (r : R2) : TS := fun D σ H => match gt σ i with
  | some x => te σ H fun y H1 => r x y H1 fun z H2 => D.nx (σ.set i (some z)) H2
  | none => False
theorem ms_aug {i : Nat} {x : Str} {e : Expr} {te : TE} {op : Operator} {r : R2} {pos' : Pos} (hN : X.N.Nodup) (hi : X.N[i]? = some x) (hx : Loc X.env.scope x) (he : PE X e te) (ho : OpR X (inplaceOp op) r) (hf : X.fn x = true ∨ X.env.scope.names.lookup x = some .local := by first | exact .inl rfl | exact .inr rfl | assumption) :
    PS X (.AugAssign (.Name x pos') op e pos) (mAug i te r) :=
  ps_imp (ps_aug hN hi hx he (ti := r) (fun pins s σ H x y v u Q I r1 r2 h => ho pins s σ H x y v u Q I r1 r2 h) hf) fun D σ H q => by
    unfold mAug at q
    split at q
    · rename_i x e
      exact ⟨x, gt_some e, q⟩
    · exact q.elim
def iAdd : R2 := fun x y H Q => match x, y with
  | .int i, .int j => Q (.int (i + j)) H
  | .str a, .str b => a.length + b.length ≤ sizeLine ∧ Q (.str (a ++ b)) H
  | .ref l, .ref b => ∃ xs zs, H l = some (.lst xs) ∧ H b = some (.lst zs) ∧ xs.length + zs.length ≤ sizeLine ∧ Q (.ref l) (upd H l (.lst (xs ++ zs)))
  | _, _ => False
theorem iop_addM : OpR X (inplaceOp .Add) iAdd := by
  intro pins s σ H x y v u Q I rx ry q
  unfold iAdd at q
  split at q
  · exact iop_add pins s σ H _ _ v u Q I rx ry ⟨_, _, rfl, rfl, q⟩
  · exact iop_add_str pins s σ H _ _ v u Q I rx ry ⟨_, _, rfl, rfl, q⟩
  · obtain ⟨xs, zs, h1, h2, h3, q⟩ := q
    exact iop_ext pins s σ H _ _ v u Q I rx ry ⟨_, _, xs, zs, rfl, rfl, h1, h2, h3, q⟩
  · exact q.elim
theorem iop_subM : OpR X (inplaceOp .Sub) mSub := opR_imp iop_sub fun x y H Q q => by
  unfold mSub at q
  split at q
  · exact ⟨_, _, rfl, rfl, q⟩
  · exact q.elim
end

/-! ### what is walked -/
inductive Src where
  | v (G : Hp → Prop) (L : List V)
  | p (G : Hp → Prop) (L : List (V × V))
def Feeds (J : It) : Src → Prop
  | .v G L => Walk J L.length G (YAt L)
  | .p G L => Walk J L.length G (YPair (fun i => L[i]?.map (·.1)) (fun i => L[i]?.map (·.2)))
abbrev MI := Sl → Hp → (Src → Hp → Prop) → Prop
def toTI (wi : MI) : TI := fun σ H R => ∃ P : Src → Hp → Prop, wi σ H P ∧ ∀ s H1 J, P s H1 → Feeds J s → R J H1
section
variable {X : Cx} {tg : Expr} {l e2 : Expr} {tl t2 : TE}
def mIter (K : PySem.W.Frag) (tl : TE) : MI := fun σ H P => tl σ H fun x H1 => match x with
  | .ref a => ∃ xs, (SqL K H1 a xs ∧ P (.v (fun H => SqL K H a xs) xs) H1) ∨ (SqT K H1 a xs ∧ P (.v (fun H => SqT K H a xs) xs) H1)
  | .str z => P (.v (fun _ => True) (z.cps.toList.map fun c => .str (S [c]))) H1
  | _ => False
/-- the walk of a value, by its rule -/
def ItR (X : Cx) (tg : Expr) (r : V → Hp → (It → Hp → Prop) → Prop) : Prop :=
  ∀ (pins : List (Addr × Obj)) (s : Shared) (σ : L2.St) (H : Hp) (x : V) (v : Value) (R : It → Hp → Prop), Inv X pins σ H s → RelV x v → r x H R → wpAny (model X.prog X.w) X.A (pyIter v) (PIE X pins σ tg R) X.xe s
theorem pi_of {r : V → Hp → (It → Hp → Prop) → Prop} (he : PE X l tl) (hr : ItR X tg r) : PI X tg l (fun σ H R => tl σ H fun x H1 => r x H1 R) :=
  ⟨fun pins s σ H R I h => thn (he.run pins s σ H _ I h) fun v s1 ⟨x, H1, I1, r1, q1⟩ => hr pins s1 σ H1 x v R I1 r1 q1⟩
theorem itr_list : ItR X tg (fun x H R => ∃ a, x = .ref a ∧ (∃ xs, SqL X.K H a xs) ∧ R (Itl X.K a) H) := by
  intro pins s1 σ H1 x v R I1 r1 q1
  obtain ⟨a, e, ⟨xs, hq⟩, q⟩ := q1
  subst e
  cases r1
  obtain ⟨its, rv, p, hz⟩ := I1.list hq
  refine wpAny_pyIter_list p.isList ?_
  refine ⟨s1.heap.objs.size, [s1.heap.objs.size], _, _, H1, rfl, I1.kept (t' := s1.toks) fun b o e => Heap.get?_push_of_some _ e, turn_list a _, ⟨_, Heap.get?_push_size _ rfl, rfl, rfl⟩, fun b hb => ?_, q⟩
  have e : b = s1.heap.objs.size := by simpa using hb
  subst e
  exact I1.fpOk (Nat.le_refl _) (I1.hok.fresh (Nat.le_refl _))
theorem itr_tup : ItR X tg (fun x H R => ∃ a, x = .ref a ∧ (∃ xs, SqT X.K H a xs) ∧ R (Itt X.K a) H) := by
  intro pins s1 σ H1 x v R I1 r1 q1
  obtain ⟨a, e, ⟨xs, hq⟩, q⟩ := q1
  subst e
  cases r1
  obtain ⟨its, rv, p, hz⟩ := I1.tuple hq
  refine wpAny_pyIter_tuple (show s1.heap.IsTuple a its.toArray from p) ?_
  refine ⟨s1.heap.objs.size, [s1.heap.objs.size], _, _, H1, rfl, I1.kept (t' := s1.toks) fun b o e => Heap.get?_push_of_some _ e, turn_tuple a _, ⟨_, Heap.get?_push_size _ rfl, rfl, rfl⟩, fun b hb => ?_, q⟩
  have e : b = s1.heap.objs.size := by simpa using hb
  subst e
  exact I1.fpOk (Nat.le_refl _) (I1.hok.fresh (Nat.le_refl _))
theorem itr_str : ItR X tg (fun x H R => ∃ z, x = .str z ∧ R (Its z) H) := by
  intro pins s1 σ H1 y v R I1 r1 q1
  obtain ⟨x, ex, q⟩ := q1
  subst ex
  obtain ⟨t, rfl⟩ := r1
  cases ha : x.cps.all (· < 128)
  · exact wpAny_pyIter_wide ha (pi_one (tk := s1.toks) I1 _ (turn_str _ x t "str_iterator" (.inr rfl)) ⟨_, Heap.get?_push_size _ rfl, rfl, rfl⟩ q)
  · exact wpAny_pyIter_ascii ha (pi_one (tk := s1.toks) I1 _ (turn_str _ x t "str_ascii_iterator" (.inl rfl)) ⟨_, Heap.get?_push_size _ rfl, rfl, rfl⟩ q)
theorem feeds_list {K : PySem.W.Frag} {a : Addr} {xs : List V} : Feeds (Itl K a) (.v (fun H => SqL K H a xs) xs) := walk_list
theorem feeds_tup {K : PySem.W.Frag} {a : Addr} {xs : List V} : Feeds (Itt K a) (.v (fun H => SqT K H a xs) xs) := walk_tup
theorem feeds_str {z : Str} : Feeds (Its z) (.v (fun _ => True) (z.cps.toList.map fun c => .str (S [c]))) := by
  have e : z.cps.size = (z.cps.toList.map fun c => V.str (S [c])).length := by simp
  have w := walk_str (z := z)
  rw [e] at w
  refine Walk.mono w (fun _ h => h) fun i H x H' _ _ ⟨h1, c, h2, h3⟩ => ⟨h1, ?_⟩
  rw [List.getElem?_map, Array.getElem?_toList, h2, h3]; rfl
theorem pi_iterM (he : PE X l tl) : PI X tg l (toTI (mIter X.K tl)) := by
  refine ⟨fun pins s σ H R I ⟨P, q, w⟩ => thn (he.run pins s σ H _ I q) fun v s1 ⟨x, H1, I1, r1, q1⟩ => ?_⟩
  cases x with
  | ref a =>
    obtain ⟨xs, h | h⟩ := q1
    · exact itr_list pins s1 σ H1 _ v R I1 r1 ⟨a, rfl, ⟨xs, h.1⟩, w _ _ _ h.2 feeds_list⟩
    · exact itr_tup pins s1 σ H1 _ v R I1 r1 ⟨a, rfl, ⟨xs, h.1⟩, w _ _ _ h.2 feeds_tup⟩
  | str z => exact itr_str pins s1 σ H1 _ v R I1 r1 ⟨z, rfl, w _ _ _ q1 feeds_str⟩
  | _ => exact q1.elim
theorem pi_imp {t t' : TI} (h : PI X tg l t) (w : ∀ σ H R, t' σ H R → t σ H R) : PI X tg l t' := ⟨fun pins s σ H R I q => h.run pins s σ H R I (w σ H R q)⟩
/-- range(n), range(a, b) -/
def upto (lo : Int) (n : Nat) : List V := (List.range n).map fun (i : Nat) => V.int (lo + (i : Int))
theorem upto_zero (lo : Int) : upto lo 0 = [] := rfl
theorem upto_succ (lo : Int) (n : Nat) : upto lo (n + 1) = .int lo :: upto (lo + 1) n := by
  unfold upto
  rw [List.range_succ_eq_map]
  simp only [List.map_cons, List.map_map]
  congr 1
  · simp
  · apply List.map_congr_left
    intro i _
    show V.int _ = V.int _
    congr 1
    simp
    omega
theorem feeds_range {lo : Int} {n : Nat} : Feeds (Itr lo n) (.v (fun _ => True) (upto lo n)) := by
  have e : n = (upto lo n).length := by simp [upto]
  have w := walk_range (lo := lo) (n := n)
  show Walk _ (upto lo n).length _ _
  rw [← e]
  refine Walk.mono w (fun _ h => h) fun i H x H' hi _ ⟨h1, h2⟩ => ⟨h1, ?_⟩
  unfold upto
  rw [List.getElem?_map, List.getElem?_range hi, h2]; rfl
def mRng1 (ta : TE) : MI := fun σ H P => ta σ H fun x H1 => match x with
  | .int j => (-(2 ^ 62) ≤ j ∧ j < 2 ^ 62) ∧ P (.v (fun _ => True) (upto 0 j.toNat)) H1
  | _ => False
def mRng2 (ta tb : TE) : MI := fun σ H P => ta σ H fun x H1 => tb σ H1 fun y H2 => match x, y with
  | .int i, .int j => (-(2 ^ 62) ≤ i ∧ i < 2 ^ 62 ∧ -(2 ^ 62) ≤ j ∧ j < 2 ^ 62) ∧ P (.v (fun _ => True) (upto i (j - i).toNat)) H2
  | _, _ => False
theorem pi_rng1M {a : Expr} {ta : TE} {p pos : Pos} (hg : Gl X "range") (hm : X.mg "range" = none) (ha : PE X a ta) (hs : starEach [a] X.env = [(false, eval a X.env)] := by rfl) : PI X tg (.Call (.Name "range" p) [a] [] pos) (toTI (mRng1 ta)) :=
  pi_imp (pi_range1 hg hm (pa_cons (pe_cl ha) pa_nil hs) hs) fun σ H R ⟨P, q, w⟩ => ⟨_, q, fun x H1 z => by
    cases x with
    | int j => exact ⟨j, rfl, z.1.1, z.1.2, w _ _ _ z.2 feeds_range⟩
    | _ => exact z.elim⟩
theorem pi_rng2M {a b : Expr} {ta tb : TE} {p pos : Pos} (hg : Gl X "range") (hm : X.mg "range" = none) (ha : PE X a ta) (hb : PE X b tb) (hs : starEach [a, b] X.env = [(false, eval a X.env), (false, eval b X.env)] := by rfl) (hs2 : starEach [b] X.env = [(false, eval b X.env)] := by rfl) :
    PI X tg (.Call (.Name "range" p) [a, b] [] pos) (toTI (mRng2 ta tb)) :=
  pi_imp (pi_range2 hg hm (pa_cons (pe_cl ha) (pa_cons (pe_cl hb) pa_nil hs2) (by rw [hs, hs2])) hs hs2) fun σ H R ⟨P, q, w⟩ => ⟨_, q, fun x H1 z => ⟨_, z, fun y H2 z2 => by
    split at z2
    · exact ⟨_, _, rfl, z2.1, w _ _ _ z2.2 feeds_range⟩
    · exact z2.elim⟩⟩
/-- enumerate(list) -/
def numd : Nat → List V → List (V × V)
  | _, [] => []
  | i, x :: r => (.int (i : Int), x) :: numd (i + 1) r
theorem numd_get : ∀ {k : Nat} {xs : List V} {i : Nat}, (numd k xs)[i]? = xs[i]?.map fun x => (V.int ((k + i : Nat) : Int), x)
  | _, [], _ => by simp [numd]
  | k, x :: r, 0 => by simp [numd]
  | k, x :: r, i + 1 => by
    have := numd_get (k := k + 1) (xs := r) (i := i)
    simp only [numd, List.getElem?_cons_succ, this]
    congr 1
    funext z
    congr 3
    omega
theorem numd_len : ∀ {k : Nat} {xs : List V}, (numd k xs).length = xs.length
  | _, [] => rfl
  | k, x :: r => by simp [numd, numd_len]
theorem feeds_enum {K : PySem.W.Frag} {a : Addr} {xs : List V} : Feeds (Ite K a) (.p (fun H => SqL K H a xs) (numd 0 xs)) := by
  show Walk _ (numd 0 xs).length _ _
  rw [numd_len]
  refine Walk.mono walk_enum (fun _ h => h) fun i H x H' _ _ ⟨T, y, z, h1, h2, h3, h4, h5⟩ => ⟨T, y, z, h1, h2, h3, ?_, ?_⟩
  · show (numd 0 xs)[i]?.map (·.1) = _
    have h5' : xs[i]? = some z := h5
    rw [numd_get, h5', ← h4]; simp
  · show (numd 0 xs)[i]?.map (·.2) = _
    have h5' : xs[i]? = some z := h5
    rw [numd_get, h5']; simp
def mEnum (K : PySem.W.Frag) (ta : TE) : MI := fun σ H P => ta σ H fun x H1 => match x with
  | .ref a => ∃ xs, SqL K H1 a xs ∧ P (.p (fun H => SqL K H a xs) (numd 0 xs)) H1
  | _ => False
theorem pi_enumM {e : Expr} {ta : TE} {p pos tpos : Pos} {elts : List Expr} {kk : Nat} (hg : Gl X "enumerate") (hm : X.mg "enumerate" = none) (ha : PE X e ta) (hs : starEach [e] X.env = [(false, eval e X.env)] := by rfl) :
    PI X (.Tuple elts kk tpos) (.Call (.Name "enumerate" p) [e] [] pos) (toTI (mEnum X.K ta)) :=
  pi_imp (pi_enum hg hm (pa_cons (pe_cl ha) pa_nil hs) hs) fun σ H R ⟨P, q, w⟩ => ⟨_, q, fun x H1 z => by
    cases x with
    | ref a => obtain ⟨xs, h, z⟩ := z; exact ⟨a, xs, rfl, h, w _ _ _ z feeds_enum⟩
    | _ => exact z.elim⟩
/-- zip(list, list) -/
theorem feeds_zip {K : PySem.W.Frag} {a b : Addr} {xs ys : List V} : Feeds (Itz K a b) (.p (fun H => SqL K H a xs ∧ SqL K H b ys) (xs.zip ys)) := by
  show Walk _ (xs.zip ys).length _ _
  rw [List.length_zip]
  refine Walk.mono (walk_zip rfl) (fun _ h => h) fun i H x H' _ _ ⟨T, y, z, h1, h2, h3, h4, h5⟩ => ⟨T, y, z, h1, h2, h3, ?_, ?_⟩
  · show (xs.zip ys)[i]?.map (·.1) = _
    have h4' : xs[i]? = some y := h4
    have h5' : ys[i]? = some z := h5
    rw [show (xs.zip ys)[i]? = some (y, z) from List.getElem?_zip_eq_some.mpr ⟨h4', h5'⟩]; rfl
  · show (xs.zip ys)[i]?.map (·.2) = _
    have h4' : xs[i]? = some y := h4
    have h5' : ys[i]? = some z := h5
    rw [show (xs.zip ys)[i]? = some (y, z) from List.getElem?_zip_eq_some.mpr ⟨h4', h5'⟩]; rfl
def mZip (K : PySem.W.Frag) (ta tb : TE) : MI := fun σ H P => ta σ H fun x H1 => tb σ H1 fun y H2 => match x, y with
  | .ref a, .ref b => ∃ xs ys, SqL K H2 a xs ∧ SqL K H2 b ys ∧ P (.p (fun H => SqL K H a xs ∧ SqL K H b ys) (xs.zip ys)) H2
  | _, _ => False
theorem pi_zipM {e e2 : Expr} {ta tb : TE} {p pos tpos : Pos} {elts : List Expr} {kk : Nat} (hg : Gl X "zip") (hm : X.mg "zip" = none) (ha : PE X e ta) (hb : PE X e2 tb)
    (hs : starEach [e, e2] X.env = (false, eval e X.env) :: starEach [e2] X.env := by rfl) (hs2 : starEach [e2] X.env = [(false, eval e2 X.env)] := by rfl) (hpl : (backTo pos (starEach [e2] X.env)).any (·.1) = false := by rfl) :
    PI X (.Tuple elts kk tpos) (.Call (.Name "zip" p) [e, e2] [] pos) (toTI (mZip X.K ta tb)) :=
  pi_imp (pi_zip hg hm (pa_cons (pe_cl ha) (pa_cons (pe_cl hb) pa_nil hs2) hs) hs hpl) fun σ H R ⟨P, q, w⟩ => ⟨_, q, fun x H1 z => ⟨_, z, fun y H2 z2 => by
    split at z2
    · obtain ⟨xs, ys, h1, h2, z2⟩ := z2
      exact ⟨_, _, xs, ys, rfl, h1, h2, w _ _ _ z2 feeds_zip⟩
    · exact z2.elim⟩⟩
end

/-! ### for -/
def fV (G : Hp → Prop) (g : TG) (tb : TS) (D : Ends) : List V → Sl → Hp → Prop
  | [], σ, H => G H ∧ D.nx σ H
  | x :: r, σ, H => G H ∧ g x σ H fun σ2 H2 => tb { D with nx := fV G g tb D r, ct := fV G g tb D r, bk := D.nx } σ2 H2
def fP (G : Hp → Prop) (g : TG) (tb : TS) (D : Ends) : List (V × V) → Sl → Hp → Prop
  | [], σ, H => G H ∧ D.nx σ H
  | x :: r, σ, H => G H ∧ ∀ T, H T = none → g (.ref T) σ (upd H T (.tup [x.1, x.2])) fun σ2 H2 => tb { D with nx := fP G g tb D r, ct := fP G g tb D r, bk := D.nx } σ2 H2
def mFor (wi : MI) (g : TG) (tb : TS) : TS := fun D σ H => wi σ H fun s H1 => match s with
  | .v G L => fV G g tb D L σ H1
  | .p G L => fP G g tb D L σ H1
theorem fV_G {G : Hp → Prop} {g : TG} {tb : TS} {D : Ends} {L : List V} {σ : Sl} {H : Hp} (h : fV G g tb D L σ H) : G H := by
  cases L <;> exact h.1
theorem fP_G {G : Hp → Prop} {g : TG} {tb : TS} {D : Ends} {L : List (V × V)} {σ : Sl} {H : Hp} (h : fP G g tb D L σ H) : G H := by
  cases L <;> exact h.1
theorem drop_at {α : Type} {L : List α} {i : Nat} {x : α} (h : L[i]? = some x) : L.drop i = x :: L.drop (i + 1) := by
  obtain ⟨hi, e⟩ := List.getElem?_eq_some_iff.mp h
  rw [← e]; exact List.drop_eq_getElem_cons hi
theorem ms_for {X : Cx} {tg iter : Expr} {body : List Stmt} {wi : MI} {g : TG} {tb : TS} {pos : Pos} (hp : PassesOwn (model X.prog X.w) X.A X.env X.xe) (hc : X.calm = true) (hi : PI X tg iter (toTI wi)) (hg : PG X tg g) (hb : PSs X body tb)
    (hs : ∀ x, foldedSetIterable iter X.env x = pure x := by intro _; rfl) : PS X (.For tg iter body [] pos) (mFor wi g tb) :=
  ps_imp (ps_for hp hc hi hg hb hs) fun D σ H q => ⟨_, q, fun s H1 J z f => by
    cases s with
    | v G L =>
      refine for_it f (fun i σ H => fV G g tb D (L.drop i) σ H) z (fun i σ H _ p => fV_G p) (fun i x σ H H' hi p y => ?_) (fun σ H p => ?_)
      · obtain ⟨e, hx⟩ := y
        subst e
        rw [drop_at hx] at p
        exact p.2
      · rw [List.drop_length] at p
        exact p.2
    | p G L =>
      refine for_it f (fun i σ H => fP G g tb D (L.drop i) σ H) z (fun i σ H _ p => fP_G p) (fun i x σ H H' hi p y => ?_) (fun σ H p => ?_)
      · obtain ⟨T, a, b, e1, e2, e3, e4, e5⟩ := y
        subst e1 e3
        have hx : L[i]? = some L[i] := List.getElem?_eq_getElem hi
        rw [drop_at hx] at p
        have q := p.2 T e2
        have e4' : L[i]?.map (·.1) = some a := e4
        have e5' : L[i]?.map (·.2) = some b := e5
        rw [hx] at e4' e5'
        cases e4'
        cases e5'
        exact q
      · rw [List.drop_length] at p
        exact p.2⟩
/-! ### comprehensions -/
def cV (G : Hp → Prop) (g : TG) (tt : TT) (te : TE) (vs : List Nat) (τ : Sl) (D : Addr) (Q : Hp → Prop) : List V → Hp → Prop
  | [], H => G H ∧ Q H
  | x :: r, H => G H ∧ g x τ H fun σ2 H2 => wipe σ2 vs = τ ∧ tt σ2 H2 fun b H3 => if b = true then te σ2 H3 fun y H4 => ∃ acc, H4 D = some (.lst acc) ∧ acc.length < sizeLine ∧ cV G g tt te vs τ D Q r (upd H4 D (.lst (acc ++ [y]))) else cV G g tt te vs τ D Q r H3
def cP (G : Hp → Prop) (g : TG) (tt : TT) (te : TE) (vs : List Nat) (τ : Sl) (D : Addr) (Q : Hp → Prop) : List (V × V) → Hp → Prop
  | [], H => G H ∧ Q H
  | x :: r, H => G H ∧ ∀ T, H T = none → g (.ref T) τ (upd H T (.tup [x.1, x.2])) fun σ2 H2 => wipe σ2 vs = τ ∧ tt σ2 H2 fun b H3 => if b = true then te σ2 H3 fun y H4 => ∃ acc, H4 D = some (.lst acc) ∧ acc.length < sizeLine ∧ cP G g tt te vs τ D Q r (upd H4 D (.lst (acc ++ [y]))) else cP G g tt te vs τ D Q r H3
def mLc (wi : MI) (g : TG) (tt : TT) (te : TE) (vs : List Nat) : TE := fun σ H Q => wi σ H fun s H1 => ∀ D, H1 D = none → match s with
  | .v G L => cV G g tt te vs (wipe σ vs) D (Q (.ref D)) L (upd H1 D (.lst []))
  | .p G L => cP G g tt te vs (wipe σ vs) D (Q (.ref D)) L (upd H1 D (.lst []))
theorem cV_G {G : Hp → Prop} {g : TG} {tt : TT} {te : TE} {vs : List Nat} {τ : Sl} {D : Addr} {Q : Hp → Prop} {L : List V} {H : Hp} (h : cV G g tt te vs τ D Q L H) : G H := by
  cases L <;> exact h.1
theorem cP_G {G : Hp → Prop} {g : TG} {tt : TT} {te : TE} {vs : List Nat} {τ : Sl} {D : Addr} {Q : Hp → Prop} {L : List (V × V)} {H : Hp} (h : cP G g tt te vs τ D Q L H) : G H := by
  cases L <;> exact h.1
theorem lc_toM {wi : MI} {g : TG} {tt : TT} {te : TE} {vs : List Nat} {σ : Sl} {H : Hp} {Q : VK} (q : mLc wi g tt te vs σ H Q) : tLc (toTI wi) g tt te vs σ H Q :=
  ⟨_, q, fun s H1 J z f D hD => by
    have z := z D hD
    cases s with
    | v G L =>
      refine lc_it f (fun i H => cV G g tt te vs (wipe σ vs) D (Q (.ref D)) (L.drop i) H) z (fun i H _ p => cV_G p) (fun i x H H' hi p y => ?_) (fun H p => ?_)
      · obtain ⟨e, hx⟩ := y
        subst e
        rw [drop_at hx] at p
        exact p.2
      · rw [List.drop_length] at p
        exact p.2
    | p G L =>
      refine lc_it f (fun i H => cP G g tt te vs (wipe σ vs) D (Q (.ref D)) (L.drop i) H) z (fun i H _ p => cP_G p) (fun i x H H' hi p y => ?_) (fun H p => ?_)
      · obtain ⟨T, a, b, e1, e2, e3, e4, e5⟩ := y
        subst e1 e3
        have hx : L[i]? = some L[i] := List.getElem?_eq_getElem hi
        rw [drop_at hx] at p
        have q := p.2 T e2
        have e4' : L[i]?.map (·.1) = some a := e4
        have e5' : L[i]?.map (·.2) = some b := e5
        rw [hx] at e4' e5'
        cases e4'
        cases e5'
        exact q
      · rw [List.drop_length] at p
        exact p.2⟩
section
variable {X : Cx}
theorem me_lc {elt tg iter : Expr} {ifs : List Expr} {scope : Scope} {own : List (Str × Nat)} {pos : Pos} {wi : MI} {g : TG} {tt : TT} {te : TE} (hc : X.calm = true) (hN : X.N.Nodup) (hi : PI X tg iter (toTI wi)) (ok : BlkOk X.N X.env.scope scope own)
    (hg : ∀ (s : Shared) (H : Hp) (C : Addr) (cl : List (Str × Addr)) (fp : List Addr), PG (X.blk s H scope (compEnvC scope cl C X.env) fp) tg g) (ht : ∀ (s : Shared) (H : Hp) (C : Addr) (cl : List (Str × Addr)) (fp : List Addr), PTs (X.blk s H scope (compEnvC scope cl C X.env) fp) ifs tt)
    (he : ∀ (s : Shared) (H : Hp) (C : Addr) (cl : List (Str × Addr)) (fp : List Addr), PE (X.blk s H scope (compEnvC scope cl C X.env) fp) elt te) (hs : ∀ x, foldedSetIterable iter X.env x = pure x := by intro _; rfl) :
    PE X (.ListComp elt [⟨tg, iter, ifs, 0⟩] scope pos) (mLc wi g tt te (own.map (·.2))) := pe_imp (pe_lc hc hN hi ok hg ht he hs) fun σ H Q q => lc_toM q
theorem ms_setLc {i : Nat} {y : Str} {py : Pos} {elt tg iter : Expr} {ifs : List Expr} {scope : Scope} {own : List (Str × Nat)} {pos spos : Pos} {wi : MI} {g : TG} {tt : TT} {te : TE} (hc : X.calm = true) (hN : X.N.Nodup) (hy : X.N[i]? = some y) (hyl : X.env.scope.names.lookup y = some .local)
    (hsw : swapsWith (.ListComp elt [⟨tg, iter, ifs, 0⟩] scope pos) (some (.Name y py)) spos.line X.env = pure true) (hi : PI X tg iter (toTI wi)) (ok : BlkOk X.N X.env.scope scope own)
    (hg : ∀ (s : Shared) (H : Hp) (C : Addr) (cl : List (Str × Addr)) (fp : List Addr), PG (X.blk s H scope (compEnvC scope cl C X.env) fp) tg g) (ht : ∀ (s : Shared) (H : Hp) (C : Addr) (cl : List (Str × Addr)) (fp : List Addr), PTs (X.blk s H scope (compEnvC scope cl C X.env) fp) ifs tt)
    (he : ∀ (s : Shared) (H : Hp) (C : Addr) (cl : List (Str × Addr)) (fp : List Addr), PE (X.blk s H scope (compEnvC scope cl C X.env) fp) elt te) (hs : ∀ x, foldedSetIterable iter X.env x = pure x := by intro _; rfl) :
    PS X (.Assign [.Name y py] (.ListComp elt [⟨tg, iter, ifs, 0⟩] scope pos) spos) (tAsg (mLc wi g tt te (own.map (·.2))) (gName i)) := ps_imp (ps_setLc hc hN hy hyl hsw hi ok hg ht he hs) fun D σ H q => lc_toM (Q := fun x H1 => gName i x σ H1 D.nx) q
end
/-! ### while -/
def whW (c : TT) (tb : TS) (D : Ends) : Nat → Sl → Hp → Prop
  | 0, _, _ => False
  | n + 1, σ, H => c σ H fun b H1 => if b = true then tb { D with nx := whW c tb D n, ct := whW c tb D n, bk := D.nx } σ H1 else D.nx σ H1
def mWhile (c : TT) (tb : TS) : TS := fun D σ H => ∃ n, whW c tb D n σ H
theorem ms_while {X : Cx} {c : Expr} {body : List Stmt} {tc : TT} {tb : TS} {pos : Pos} (hp : PassesOwn (model X.prog X.w) X.A X.env X.xe) (hc : PT X c tc) (hb : PSs X body tb) : PS X (.While c body [] pos) (mWhile tc tb) :=
  ps_imp (ps_while hp (pt_cl hc) hb) fun D σ H ⟨n, q⟩ => ⟨fun m σ H => whW tc tb D m σ H, ⟨n, q⟩, fun m σ H w => by
    cases m with
    | zero => exact w.elim
    | succ k =>
      refine ⟨_, w, fun b H1 z => ?_⟩
      cases b with
      | true => exact ⟨_, fun σ' H' y => ⟨k, Nat.lt_succ_self _, y⟩, z⟩
      | false => exact z⟩
end M

namespace M
open PySem PySem.Spec PyProof.Rows L2

/-! ### built-in functions -/
section
variable {X : Cx}
def mLen (K : PySem.W.Frag) : List V → Hp → VK → Prop := fun xs H Q => match xs with
  | [.str z] => z.length ≤ sizeLine ∧ Q (.int z.length) H
  | [.ref p] => ∃ ys, (SqL K H p ys ∨ SqT K H p ys) ∧ Q (.int ys.length) H
  | _ => False
theorem call_lenM : CallR X (.builtin "len") (mLen X.K) := callR_imp (call_len_seq.or call_len_str) fun xs H Q q => by
  unfold mLen at q
  split at q
  · exact .inr ⟨_, rfl, q⟩
  · obtain ⟨ys, h, q⟩ := q
    exact .inl ⟨_, ys, rfl, h, q⟩
  · exact q.elim
def mInt : List V → Hp → VK → Prop := fun xs H Q => match xs with
  | [.int i] => Q (.int i) H
  | [.bl k] => Q (.int (if k then 1 else 0)) H
  | _ => False
theorem call_intM : CallR X (.type "int") mInt := callR_imp call_int1 fun xs H Q q => by
  unfold mInt at q
  split at q
  · exact .inl ⟨_, rfl, q⟩
  · exact .inr ⟨_, rfl, q⟩
  · exact q.elim
def mStr : List V → Hp → VK → Prop := fun xs H Q => match xs with
  | [.str i] => Q (.str i) H
  | _ => False
theorem call_strM : CallR X (.type "str") mStr := callR_imp SkE.call_str_str fun xs H Q q => by
  unfold mStr at q
  split at q
  · exact ⟨_, rfl, q⟩
  · exact q.elim
def mMax : List V → Hp → VK → Prop := fun xs H Q => match xs with
  | [.int i, .int j] => Q (.int (max i j)) H
  | _ => False
theorem call_maxM (hc : X.calm = true) : CallR X (.builtin "max") mMax := callR_imp (call_max2 hc) fun xs H Q q => by
  unfold mMax at q
  split at q
  · rename_i i j
    refine ⟨i, j, rfl, ?_⟩
    have e : max i j = if j > i then j else i := by split <;> omega
    rw [← e]; exact q
  · exact q.elim
def mMin : List V → Hp → VK → Prop := fun xs H Q => match xs with
  | [.int i, .int j] => Q (.int (min i j)) H
  | _ => False
theorem call_minM (hc : X.calm = true) : CallR X (.builtin "min") mMin := callR_imp (call_min2 hc) fun xs H Q q => by
  unfold mMin at q
  split at q
  · rename_i i j
    refine ⟨i, j, rfl, ?_⟩
    have e : min i j = if j < i then j else i := by split <;> omega
    rw [← e]; exact q
  · exact q.elim
def mAbs : List V → Hp → VK → Prop := fun xs H Q => match xs with
  | [.int i] => Q (.int (i.natAbs : Int)) H
  | _ => False
theorem call_absM : CallR X (.builtin "abs") mAbs := callR_imp call_abs fun xs H Q q => by
  unfold mAbs at q
  split at q
  · rename_i i
    refine ⟨i, rfl, ?_⟩
    have e : (i.natAbs : Int) = if i < 0 then -i else i := by split <;> omega
    rw [← e]; exact q
  · exact q.elim
def mSum (K : PySem.W.Frag) : List V → Hp → VK → Prop := fun xs H Q => match xs with
  | [.ref a] => ∃ ns : List Int, SqL K H a (ns.map V.int) ∧ Q (.int ns.sum) H
  | _ => False
theorem call_sumM (hc : X.calm = true) : CallR X (.builtin "sum") (mSum X.K) := callR_imp (cr_sum hc) fun xs H Q q => by
  unfold mSum at q
  split at q
  · obtain ⟨ns, h, q⟩ := q
    exact ⟨_, ns, rfl, h, q⟩
  · exact q.elim
def mMaxL (K : PySem.W.Frag) : List V → Hp → VK → Prop := fun xs H Q => match xs with
  | [.ref a] => ∃ ns : List Int, SqL K H a (ns.map V.int) ∧ 0 < ns.length ∧ ∀ m, m ∈ ns → (∀ y, y ∈ ns → y ≤ m) → Q (.int m) H
  | _ => False
theorem call_maxLM (hc : X.calm = true) : CallR X (.builtin "max") (mMaxL X.K) := callR_imp (cr_max hc) fun xs H Q q => by
  unfold mMaxL at q
  split at q
  · obtain ⟨ns, h, q⟩ := q
    exact ⟨_, ns, rfl, h, q⟩
  · exact q.elim
def mMinL (K : PySem.W.Frag) : List V → Hp → VK → Prop := fun xs H Q => match xs with
  | [.ref a] => ∃ ns : List Int, SqL K H a (ns.map V.int) ∧ 0 < ns.length ∧ ∀ m, m ∈ ns → (∀ y, y ∈ ns → m ≤ y) → Q (.int m) H
  | _ => False
theorem call_minLM (hc : X.calm = true) : CallR X (.builtin "min") (mMinL X.K) := callR_imp (cr_min hc) fun xs H Q q => by
  unfold mMinL at q
  split at q
  · obtain ⟨ns, h, q⟩ := q
    exact ⟨_, ns, rfl, h, q⟩
  · exact q.elim
def mList (K : PySem.W.Frag) : List V → Hp → VK → Prop := fun xs H Q => match xs with
  | [.ref p] => ∃ ys, (SqL K H p ys ∨ SqT K H p ys) ∧ ∀ l, H l = none → Q (.ref l) (upd H l (.lst ys))
  | _ => False
theorem call_listM : CallR X (.type "list") (mList X.K) := callR_imp call_list_of fun xs H Q q => by
  unfold mList at q
  split at q
  · obtain ⟨ys, h, q⟩ := q
    exact ⟨_, ys, rfl, h, q⟩
  · exact q.elim
/-! isinstance(x, T) -/
def tyN : V → Option String
  | .str _ => some "str"
  | .int _ => some "int"
  | .bl _ => some "bool"
  | .non => some "NoneType"
  | _ => none
def mIsi (K : PySem.W.Frag) : List V → Hp → VK → Prop := fun xs H Q => match xs with
  | [x, .ty T] => match tyN x with
    | some n => (match kitB n T with
      | some b => Q (.bl b) H
      | none => False)
    | none => ∃ t b, TyX K H x t ∧ PySem.W.kitOne K t (.type T) = some b ∧ Q (.bl b) H
  | [x, .ref C] => ∃ t b, TyX K H x t ∧ PySem.W.kitOne K t (.ref C) = some b ∧ Q (.bl b) H
  | _ => False
theorem tyN_ok {K : PySem.W.Frag} {H : Hp} {x : V} {n : String} (h : tyN x = some n) : TyX K H x (.type n) := by
  cases x with
  | str z => cases h; exact .base (.str z)
  | int z => cases h; exact .base (.int z)
  | bl z => cases h; exact .base (.bl z)
  | non => cases h; exact .base .non
  | _ => cases h
theorem call_isiM : CallR X (.builtin "isinstance") (mIsi X.K) := callR_imp call_isi fun xs H Q q => by
  unfold mIsi at q
  split at q
  · rename_i x T
    cases e : tyN x with
    | some n =>
      rw [e] at q
      cases e2 : kitB n T with
      | none => simp only [e2] at q
      | some b => simp only [e2] at q; exact ⟨x, .ty T, _, _, b, rfl, .ty T, tyN_ok e, kit_ty e2, q⟩
    | none =>
      rw [e] at q
      obtain ⟨t, b, h1, h2, q⟩ := q
      exact ⟨x, .ty T, t, _, b, rfl, .ty T, h1, h2, q⟩
  · obtain ⟨t, b, h1, h2, q⟩ := q
    exact ⟨_, _, t, _, b, rfl, .own _, h1, h2, q⟩
  · exact q.elim
theorem kb1 : kitB "str" "str" = some true := by decide +kernel
theorem kb2 : kitB "str" "int" = some false := by decide +kernel
theorem kb3 : kitB "str" "bool" = some false := by decide +kernel
theorem kb4 : kitB "str" "list" = some false := by decide +kernel
theorem kb5 : kitB "str" "tuple" = some false := by decide +kernel
theorem kb6 : kitB "int" "str" = some false := by decide +kernel
theorem kb7 : kitB "int" "int" = some true := by decide +kernel
theorem kb8 : kitB "int" "bool" = some false := by decide +kernel
theorem kb9 : kitB "int" "list" = some false := by decide +kernel
theorem kb10 : kitB "int" "tuple" = some false := by decide +kernel
theorem kb11 : kitB "bool" "str" = some false := by decide +kernel
theorem kb12 : kitB "bool" "int" = some true := by decide +kernel
theorem kb13 : kitB "bool" "bool" = some true := by decide +kernel
theorem kb14 : kitB "bool" "list" = some false := by decide +kernel
theorem kb15 : kitB "bool" "tuple" = some false := by decide +kernel
theorem kb16 : kitB "NoneType" "str" = some false := by decide +kernel
theorem kb17 : kitB "NoneType" "int" = some false := by decide +kernel
theorem kb18 : kitB "NoneType" "bool" = some false := by decide +kernel
theorem kb19 : kitB "NoneType" "list" = some false := by decide +kernel
theorem kb20 : kitB "NoneType" "tuple" = some false := by decide +kernel
theorem tyX_list {K : PySem.W.Frag} {H : Hp} {a : Addr} {xs : List V} (h : SqL K H a xs) : TyX K H (.ref a) (.type "list") := by
  rcases h with h | ⟨o, its, n, h, c, _⟩
  · rcases h with h | ⟨o, h⟩
    · exact .base (.lst h)
    · exact .base (.frz h)
  · exact .kList h c
theorem tyX_tup {K : PySem.W.Frag} {H : Hp} {a : Addr} {xs : List V} (h : SqT K H a xs) : TyX K H (.ref a) (.type "tuple") := by
  rcases h with h | ⟨o, its, n, h, c, _⟩
  · rcases h with h | ⟨o, h⟩
    · exact .base (.tup h)
    · exact .fTuple h
  · exact .kTuple h c
theorem ki_list {K : PySem.W.Frag} : PySem.W.kitOne K (.type "list") (.type "str") = some false ∧ PySem.W.kitOne K (.type "list") (.type "int") = some false ∧ PySem.W.kitOne K (.type "list") (.type "bool") = some false ∧ PySem.W.kitOne K (.type "list") (.type "list") = some true ∧ PySem.W.kitOne K (.type "list") (.type "tuple") = some false :=
  ⟨kit_ty (by decide +kernel), kit_ty (by decide +kernel), kit_ty (by decide +kernel), kit_ty (by decide +kernel), kit_ty (by decide +kernel)⟩
theorem ki_tup {K : PySem.W.Frag} : PySem.W.kitOne K (.type "tuple") (.type "str") = some false ∧ PySem.W.kitOne K (.type "tuple") (.type "int") = some false ∧ PySem.W.kitOne K (.type "tuple") (.type "bool") = some false ∧ PySem.W.kitOne K (.type "tuple") (.type "list") = some false ∧ PySem.W.kitOne K (.type "tuple") (.type "tuple") = some true :=
  ⟨kit_ty (by decide +kernel), kit_ty (by decide +kernel), kit_ty (by decide +kernel), kit_ty (by decide +kernel), kit_ty (by decide +kernel)⟩
theorem ki_dict {K : PySem.W.Frag} : PySem.W.kitOne K (.type "dict") (.type "str") = some false ∧ PySem.W.kitOne K (.type "dict") (.type "int") = some false ∧ PySem.W.kitOne K (.type "dict") (.type "bool") = some false ∧ PySem.W.kitOne K (.type "dict") (.type "list") = some false ∧ PySem.W.kitOne K (.type "dict") (.type "tuple") = some false :=
  ⟨kit_ty (by decide +kernel), kit_ty (by decide +kernel), kit_ty (by decide +kernel), kit_ty (by decide +kernel), kit_ty (by decide +kernel)⟩
/-- a built-in class as a value -/
theorem me_ty {x : Str} (T : String) {pos : Pos} (hg : Gl X x) (hm : X.mg x = none) (hv : bootBuiltins x = some (.type T)) (hn : x ≠ "__name__" := by decide) (hd : (x == ("__debug__" : Str)) = false := by decide) : PE X (.Name x pos) (mC (.ty T)) := pe_bltn hg hm hv rfl hn hd
end

/-! ### methods of texts and lists -/
section
variable {X : Cx} {o e : Expr} {to te : TE} {apos pos : Pos}
def mBits (to : TE) : TE := fun σ H Q => to σ H fun x H1 => match x with
  | .int i => Q (.int (Builtin.Int.intBits i : Nat)) H1
  | _ => False
theorem me_bits (ho : PE X o to) (hbase : attributeBase o "bit_length" X.env (eval o X.env) = eval o X.env := by rfl) (hline : (apos.endLine == pos.line) = true := by rfl) : PE X (.Call (.Attribute o "bit_length" apos) [] [] pos) (mBits to) :=
  pe_imp (pe_bits (pe_cl ho) hbase hline) fun σ H Q q => ⟨_, q, fun x H1 z => by
    cases x with
    | int i => exact ⟨i, rfl, z⟩
    | _ => exact z.elim⟩
def mStrM (r : Str → V → Hp → VK → Prop) (to te : TE) : TE := fun σ H Q => to σ H fun x H1 => match x with
  | .str a => te σ H1 fun y H2 => r a y H2 Q
  | _ => False
theorem me_m1 {id : String} {name : Str} {r : Str → V → Hp → VK → Prop} (slot : Slot "str" name id) (ty : typeOf (.builtin id) = pure (.type "method_descriptor")) (rule : MtR X id (fun x xs H Q => ∃ a y, x = .str a ∧ xs = [y] ∧ r a y H Q)) (ho : PE X o to) (he : PE X e te)
    (hs : starEach [e] X.env = [(false, eval e X.env)] := by rfl) (hbase : attributeBase o name X.env (eval o X.env) = eval o X.env := by rfl) (hline : (apos.endLine == pos.line) = true := by rfl) :
    PE X (.Call (.Attribute o name apos) [e] [] pos) (mStrM r to te) :=
  pe_imp (pe_m1 slot ty rule (pe_cl ho) (pe_cl he) hs hbase hline) fun σ H Q q => ⟨_, q, fun x H1 z => by
    cases x with
    | str a => exact ⟨⟨a, rfl⟩, _, z, fun y H2 w => ⟨a, y, rfl, rfl, w⟩⟩
    | _ => exact z.elim⟩
def mJoin (K : PySem.W.Frag) : Str → V → Hp → VK → Prop := fun a y H Q => match y with
  | .ref p => ∃ ys : List Str, (SqL K H p (ys.map V.str) ∨ SqT K H p (ys.map V.str)) ∧ (ys.map (·.length)).sum + ys.length * a.length ≤ 16777216 ∧ Q (.str (Txt.join a ys)) H
  | _ => False
theorem mt_joinM : MtR X "str.join" (fun x xs H Q => ∃ a y, x = .str a ∧ xs = [y] ∧ mJoin X.K a y H Q) := fun pins s σ H x xs v us Q I rx rs ⟨a, y, e1, e2, q⟩ => by
  unfold mJoin at q
  split at q
  · obtain ⟨ys, h1, h2, q⟩ := q
    exact mt_join pins s σ H x xs v us Q I rx rs ⟨a, _, ys, e1, e2, h1, h2, q⟩
  · exact q.elim
def mCount : Str → V → Hp → VK → Prop := fun a y H Q => match y with
  | .str b => Q (.int (Txt.count a b)) H
  | _ => False
theorem mt_countM : MtR X "str.count" (fun x xs H Q => ∃ a y, x = .str a ∧ xs = [y] ∧ mCount a y H Q) := fun pins s σ H x xs v us Q I rx rs ⟨a, y, e1, e2, q⟩ => by
  unfold mCount at q
  split at q
  · exact mt_count pins s σ H x xs v us Q I rx rs ⟨a, _, e1, e2, q⟩
  · exact q.elim
def mSplit : Str → V → Hp → VK → Prop := fun a y H Q => match y with
  | .str b => (b.length == 0) = false ∧ a.length + 2 ≤ sizeLine ∧ ∀ p, H p = none → Q (.ref p) (upd H p (.lst ((Txt.split a b).map V.str)))
  | _ => False
theorem mt_splitM : MtR X "str.split" (fun x xs H Q => ∃ a y, x = .str a ∧ xs = [y] ∧ mSplit a y H Q) := fun pins s σ H x xs v us Q I rx rs ⟨a, y, e1, e2, q⟩ => by
  unfold mSplit at q
  split at q
  · exact mt_split pins s σ H x xs v us Q I rx rs ⟨a, _, e1, e2, q.1, q.2.1, q.2.2⟩
  · exact q.elim
theorem me_join (ho : PE X o to) (he : PE X e te) (hs : starEach [e] X.env = [(false, eval e X.env)] := by rfl) (hbase : attributeBase o "join" X.env (eval o X.env) = eval o X.env := by rfl) (hline : (apos.endLine == pos.line) = true := by rfl) :
    PE X (.Call (.Attribute o "join" apos) [e] [] pos) (mStrM (mJoin X.K) to te) := me_m1 PySem.F.slot_str_join PySem.F.type_str_join mt_joinM ho he hs hbase hline
theorem me_count (ho : PE X o to) (he : PE X e te) (hs : starEach [e] X.env = [(false, eval e X.env)] := by rfl) (hbase : attributeBase o "count" X.env (eval o X.env) = eval o X.env := by rfl) (hline : (apos.endLine == pos.line) = true := by rfl) :
    PE X (.Call (.Attribute o "count" apos) [e] [] pos) (mStrM mCount to te) := me_m1 PySem.F.slot_str_count PySem.F.type_str_count mt_countM ho he hs hbase hline
theorem me_split (ho : PE X o to) (he : PE X e te) (hs : starEach [e] X.env = [(false, eval e X.env)] := by rfl) (hbase : attributeBase o "split" X.env (eval o X.env) = eval o X.env := by rfl) (hline : (apos.endLine == pos.line) = true := by rfl) :
    PE X (.Call (.Attribute o "split" apos) [e] [] pos) (mStrM mSplit to te) := me_m1 PySem.F.slot_str_split PySem.F.type_str_split mt_splitM ho he hs hbase hline
/-- a list's method: the receiver a list that stands in H -/
def mLstM (r : Addr → List V → List V → Hp → VK → Prop) (to : TE) (t : TA) : TE := fun σ H Q => to σ H fun x H1 => match x with
  | .ref l => (∃ ys, H1 l = some (.lst ys)) ∧ t σ H1 fun vs H2 => ∃ xs, H2 l = some (.lst xs) ∧ r l xs vs H2 Q
  | _ => False
def mApp : Addr → List V → List V → Hp → VK → Prop := fun l xs vs H Q => match vs with
  | [y] => xs.length < sizeLine ∧ Q .non (upd H l (.lst (xs ++ [y])))
  | _ => False
def mPop : Addr → List V → List V → Hp → VK → Prop := fun l xs vs H Q => match vs with
  | [] => ∃ y, xs.getLast? = some y ∧ Q y (upd H l (.lst xs.dropLast))
  | _ => False
def mClear : Addr → List V → List V → Hp → VK → Prop := fun l xs vs H Q => match vs with
  | [] => Q .non (upd H l (.lst []))
  | _ => False
theorem me_append (ho : PE X o to) (he : PE X e te) (hbase : attributeBase o "append" X.env (eval o X.env) = eval o X.env := by rfl)
    (hfew : ((backTo pos (starEach [e] X.env)).all (fun x => !x.1) && (backToKw pos (keywordEach [] X.env)).all (fun x => x.1.isSome) && decide (([e] : List Expr).length + ([] : List Keyword).length + (if ([] : List Keyword).isEmpty then 0 else 1) < 30)) = true := by rfl)
    (hline : (apos.endLine == pos.line) = true := by rfl) (hs : starEach [e] X.env = (false, eval e X.env) :: starEach [] X.env := by rfl) (hplain : (backTo pos (starEach [] X.env)).any (·.1) = false := by rfl) :
    PE X (.Call (.Attribute o "append" apos) [e] [] pos) (mLstM mApp to (tCons te tNil)) :=
  pe_imp (pe_bm PySem.F.plainAttrs_list PySem.F.slot_list_append PySem.F.type_list_append mt_append (pe_cl ho) (pa_cons (pe_cl he) pa_nil hs) hbase hfew hline hs hplain) fun σ H Q q => ⟨_, q, fun x H1 z => by
    cases x with
    | ref l =>
      obtain ⟨⟨ys, h⟩, z⟩ := z
      exact ⟨.inl ⟨rfl, _, SqL.of h⟩, _, z, fun y H2 w => by
        obtain ⟨xs, h2, w⟩ := w
        exact ⟨l, xs, y, rfl, rfl, h2, w.1, w.2⟩⟩
    | _ => exact z.elim⟩
theorem last_at {α : Type} (xs : List α) : xs[xs.length - 1]? = xs.getLast? := by
  rw [List.getLast?_eq_getElem?]
theorem me_pop (ho : PE X o to) (hbase : attributeBase o "pop" X.env (eval o X.env) = eval o X.env := by rfl) (hline : (apos.endLine == pos.line) = true := by rfl) : PE X (.Call (.Attribute o "pop" apos) [] [] pos) (mLstM mPop to tNil) :=
  pe_imp (pe_bm0 PySem.F.plainAttrs_list PySem.F.slot_list_pop PySem.F.type_list_pop mt_pop (pe_cl ho) hbase hline) fun σ H Q q => ⟨_, q, fun x H1 z => by
    cases x with
    | ref l =>
      obtain ⟨⟨ys, h⟩, xs, h2, y, h3, z⟩ := z
      exact ⟨.inl ⟨rfl, _, SqL.of h⟩, l, xs, y, rfl, rfl, h2, by rw [last_at]; exact h3, z⟩
    | _ => exact z.elim⟩
theorem me_clear (ho : PE X o to) (hbase : attributeBase o "clear" X.env (eval o X.env) = eval o X.env := by rfl) (hline : (apos.endLine == pos.line) = true := by rfl) : PE X (.Call (.Attribute o "clear" apos) [] [] pos) (mLstM mClear to tNil) :=
  pe_imp (pe_bm0 PySem.F.plainAttrs_list PySem.F.slot_list_clear PySem.F.type_list_clear mt_clear (pe_cl ho) hbase hline) fun σ H Q q => ⟨_, q, fun x H1 z => by
    cases x with
    | ref l =>
      obtain ⟨⟨ys, h⟩, xs, h2, z⟩ := z
      exact ⟨.inl ⟨rfl, _, SqL.of h⟩, l, xs, rfl, rfl, h2, z⟩
    | _ => exact z.elim⟩
def mRev (K : PySem.W.Frag) (te : TE) : TE := fun σ H Q => te σ H fun x H1 => match x with
  | .ref a => ∃ xs, SqL K H1 a xs ∧ ∀ p, H1 p = none → Q (.ref p) (upd H1 p (.lst xs.reverse))
  | _ => False
theorem me_revL {k : Nat} {p1 p2 p3 pos : Pos} (he : PE X e te) : PE X (.Subscript e (.Slice none none (some (.UnaryOp .USub (.Constant (.int 1) k p1) p2)) p3) pos) (mRev X.K te) :=
  pe_imp (pe_revL (pe_cl he)) fun σ H Q q => ⟨_, q, fun x H1 z => by
    cases x with
    | ref a => obtain ⟨xs, h, z⟩ := z; exact ⟨a, xs, rfl, h, z⟩
    | _ => exact z.elim⟩
end

/-! ### heaps -/
/-- what stands at the addresses other than those of m stays -/
def Fm (m : List Addr) (H H' : Hp) : Prop := ∀ a o, a ∉ m → H a = some o → H' a = some o
abbrev Ex (H H' : Hp) : Prop := ∀ a o, H a = some o → H' a = some o
theorem Ex.refl (H : Hp) : Ex H H := fun _ _ h => h
theorem Ex.trans {H H1 H2 : Hp} (a : Ex H H1) (b : Ex H1 H2) : Ex H H2 := fun x o h => b x o (a x o h)
theorem Ex.new {H : Hp} {p : Addr} {o : HO} (h : H p = none) : Ex H (upd H p o) := fun a u e => by
  rw [upd_ne (ne_of_none e h)]; exact e
theorem Ex.push {H H' : Hp} {p : Addr} {o : HO} (e : Ex H H') (h : H' p = none) : Ex H (upd H' p o) := e.trans (Ex.new h)
/-- an object that H does not know may change -/
theorem Ex.mut {H H' : Hp} {p : Addr} {o : HO} (e : Ex H H') (h : H p = none) : Ex H (upd H' p o) := fun a u ha => by
  rw [upd_ne (ne_of_none ha h)]; exact e a u ha
theorem Ex.free {H H' : Hp} {p : Addr} (e : Ex H H') (h : H' p = none) : H p = none := by
  cases h1 : H p with
  | none => rfl
  | some o => rw [e p o h1] at h; cases h
theorem ex_rd {H H' : Hp} {a : Addr} {u : HO} (e : Ex H H') (h : Rd H a u) : Rd H' a u := by
  rcases h with h | ⟨o, h⟩
  · exact .inl (e a _ h)
  · exact .inr ⟨o, e a _ h⟩
theorem Ex.L {K : PySem.W.Frag} {H H' : Hp} {a : Addr} {xs : List V} (e : Ex H H') (h : SqL K H a xs) : SqL K H' a xs := by
  rcases h with h | h
  · exact .inl (ex_rd e h)
  · exact .inr h
theorem Ex.T {K : PySem.W.Frag} {H H' : Hp} {a : Addr} {xs : List V} (e : Ex H H') (h : SqT K H a xs) : SqT K H' a xs := by
  rcases h with h | h
  · exact .inl (ex_rd e h)
  · exact .inr h
theorem sz_of {n : Nat} (h : n ≤ 10000000) : n ≤ sizeLine := Nat.le_trans h (by decide)
theorem sz_lt {n : Nat} (h : n < 10000000) : n < sizeLine := Nat.lt_of_lt_of_le h (by decide)
end M

namespace M
open PySem PySem.Spec PyProof.Rows L2

/-! ### more of tests and assignments -/
section
variable {X : Cx} {a b c : Expr} {ta tb tc : TE} {pos : Pos}
/-- is None, is True, is False -/
def mIs : R2 := fun x y H Q => match y with
  | .non => Q (.bl (isN x)) H
  | .bl k => (match x with
    | .bl j => Q (.bl (decide (j = k))) H
    | _ => False)
  | _ => False
def mNot : R2 := fun x y H Q => match y with
  | .non => Q (.bl (!isN x)) H
  | .bl k => (match x with
    | .bl j => Q (.bl (!decide (j = k))) H
    | _ => False)
  | _ => False
theorem op_isM : OpR X (compareOp .Is) mIs := opR_imp (op_isN.or op_isBl) fun x y H Q q => by
  unfold mIs at q
  split at q
  · exact .inl ⟨rfl, by rw [isN_eq]; exact q⟩
  · split at q
    · exact .inr ⟨_, _, rfl, rfl, q⟩
    · exact q.elim
  · exact q.elim
theorem op_notM : OpR X (compareOp .IsNot) mNot := opR_imp (op_notN.or op_notBl) fun x y H Q q => by
  unfold mNot at q
  split at q
  · exact .inl ⟨rfl, by rw [isN_eq]; exact q⟩
  · split at q
    · exact .inr ⟨_, _, rfl, rfl, q⟩
    · exact q.elim
  · exact q.elim
/-- a < b <= c -/
theorem chain_cl {r r' : R2} {σ : Sl} {H : Hp} {Q : VK} (q : mChain r r' ta tb tc σ H Q) : tChain (clR r) r' (cl ta) (cl tb) tc σ H Q :=
  ⟨_, q, fun x H1 q1 => ⟨_, q1, fun y H2 q2 => ⟨_, q2, fun z H3 q3 => by
    cases z with
    | bl k => cases k <;> exact ⟨_, rfl, q3⟩
    | _ => exact q3.elim⟩⟩⟩
theorem me_chain {op op' : CmpOp} {r r' : R2} (ho : OpR X (compareOp op) r) (ho' : OpR X (compareOp op') r') (ha : PE X a ta) (hb : PE X b tb) (hc : PE X c tc)
    (hm : lastMarks [op, op'] [b, c] = false := by with_unfolding_all rfl) : PE X (.Compare a [op, op'] [b, c] pos) (mChain r r' ta tb tc) :=
  pe_imp (pe_chain (opR_cl ho) ho' (pe_cl ha) (pe_cl hb) hc hm) fun σ H Q q => chain_cl q
def mTestC (r r' : R2) (ta tb tc : TE) : TT := fun σ H Q => mChain r r' ta tb tc σ H fun x H' => match x with
  | .bl k => Q k H'
  | _ => False
theorem mt_chain {op op' : CmpOp} {r r' : R2} (ho : OpR X (compareOp op) r) (ho' : OpR X (compareOp op') r') (ha : PE X a ta) (hb : PE X b tb) (hc : PE X c tc)
    (hm : lastMarks [op, op'] [b, c] = false := by with_unfolding_all rfl) : PT X (.Compare a [op, op'] [b, c] pos) (mTest (mChain r r' ta tb tc)) :=
  pt_imp (pt_chain (opR_cl ho) (opR_cl ho') (pe_cl ha) (pe_cl hb) (pe_cl hc) hm) fun σ H Q q => ⟨_, q, fun x H1 q1 => ⟨_, q1, fun y H2 q2 => ⟨_, q2, fun z H3 q3 => by
    cases z with
    | bl k =>
      cases k with
      | true => exact ⟨true, rfl, _, q3, fun w H4 q4 => ⟨_, q4, fun v H5 q5 => bX_of q5⟩⟩
      | false => exact ⟨false, rfl, false, rfl, q3⟩
    | _ => exact q3.elim⟩⟩⟩
/-- a, b, c = x, y, z -/
def mPar3 (i j l : Nat) (ta : TA) : TS := fun D σ H => ta σ H fun vs H1 => match vs with
  | [u, v, w] => D.nx (((σ.set i (some u)).set j (some v)).set l (some w)) H1
  | _ => False
theorem ms_par3 {i j l : Nat} {x y z : Str} {a b c : Expr} {ta : TA} {px py pz pt pos : Pos} {kt k2 pt2} (hc : X.calm = true) (hN : X.N.Nodup) (hi : X.N[i]? = some x) (hj : X.N[j]? = some y) (hl : X.N[l]? = some z) (hij : i ≠ j) (hil : i ≠ l) (hjl : j ≠ l)
    (hx : X.env.scope.names.lookup x = some .local) (hy : X.env.scope.names.lookup y = some .local) (hz : X.env.scope.names.lookup z = some .local) (ha : PA X [a, b, c] ta)
    (hw : swappedStores [.Tuple [.Name x px, .Name y py, .Name z pz] kt pt] (.Tuple [a, b, c] k2 pt2) X.env = pure (some [x, y, z]))
    (hs : swapsWithSole [.Tuple [.Name x px, .Name y py, .Name z pz] kt pt] (.Tuple [a, b, c] k2 pt2) pos.line X.env = pure false := by rfl) :
    PS X (.Assign [.Tuple [.Name x px, .Name y py, .Name z pz] kt pt] (.Tuple [a, b, c] k2 pt2) pos) (mPar3 i j l ta) :=
  ps_imp (ps_par3 hc hN hi hj hl hij hil hjl hx hy hz (pa_cl ha) hw hs) fun D σ H q => ⟨_, q, fun vs H1 z => by
    split at z
    · exact ⟨_, _, _, rfl, z⟩
    · exact z.elim⟩
end

/-! ### a def that may be called: where it stands, its promise -/
structure Cal (P : Program) (w : World) (K : PySem.W.Frag) (mg : Str → Option Value) (base : Heap) (CX : CXT) (x : Str) (k : Nat) (ps : List Str) (dvs : List V) (sp : Sp) : Prop where
  ex : ∃ f fd ds, FnOk P w K mg base CX k f fd ps sp ∧ mg x = some (.ref f) ∧ PySem.W.keepIn K (.ref f) = true ∧ Binds K fd ps ds ∧ Vals dvs ds
section
variable {X : Cx} {CX : CXT} {k : Nat} {ps : List Str} {sp : Sp} {dvs : List V} {E : XK} {x : Str} {p pos : Pos} {e : Expr} {es : List Expr} {t : TA}
theorem me_call (C : Cal X.prog X.w X.K X.mg X.base CX x k ps dvs sp) (hr : Room k X.A) (hg : Gl X x) (hx : Passes CX X E) (ha : PA X (e :: es) t) (hdb : (x == ("__debug__" : Str)) = false := by decide)
    (he : starEach (e :: es) X.env = (false, eval e X.env) :: starEach es X.env := by rfl) (hpl : (backTo pos (starEach es X.env)).any (·.1) = false := by rfl) : PE X (.Call (.Name x p) (e :: es) [] pos) (tCall sp dvs E t) := by
  obtain ⟨f, fd, ds, F, hm, hk, hb, hd⟩ := C.ex
  exact pe_call F hr hg hm hk hb hd hx ha hdb he hpl
theorem me_call0 (C : Cal X.prog X.w X.K X.mg X.base CX x k ps dvs sp) (hr : Room k X.A) (hg : Gl X x) (hx : Passes CX X E) (hdb : (x == ("__debug__" : Str)) = false := by decide) : PE X (.Call (.Name x p) [] [] pos) (tCall sp dvs E tNil) := by
  obtain ⟨f, fd, ds, F, hm, hk, hb, hd⟩ := C.ex
  first
    | exact pe_call0 F hr hg hm hk hb hd hx hdb
    | exact pe_call0 F hr hg hm hk hb hd hx
end
section
variable {P : Program} {w : World} {K : PySem.W.Frag} {mg : Str → Option Value} {base : Heap} {CX : CXT} {x : Str} {k j : Nat} {ps : List Str} {dvs : List V} {sp sp' : Sp}
theorem Cal.mono (C : Cal P w K mg base CX x k ps dvs sp) (h : k ≤ j) : Cal P w K mg base CX x j ps dvs sp := by
  obtain ⟨f, fd, ds, F, r⟩ := C.ex
  exact ⟨f, fd, ds, F.mono h, r⟩
theorem Cal.imp (C : Cal P w K mg base CX x k ps dvs sp) (h : ∀ vs H Q E, sp' vs H Q E → sp vs H Q E) : Cal P w K mg base CX x k ps dvs sp' := by
  obtain ⟨f, fd, ds, F, r⟩ := C.ex
  exact ⟨f, fd, ds, F.imp h, r⟩
/-- nothing can be asked with no call left -/
theorem FnOk.zero {f : Addr} {fd : FuncData} {sp : Sp} (no : ∀ vs H Q E, ¬ sp vs H Q E) : FnOk P w K mg base CX 0 f fd ps sp :=
  ⟨fun vs H Q E h => absurd h (no vs H Q E), fun A outer s H args us vs Q E _ _ _ _ h => absurd h (no vs H Q E)⟩
end
end M

namespace M
open PySem PySem.Spec PyProof.Rows L2

/-! ### x in (a, b, ..), written -/
def flB : V → Bool
  | .str _ => true
  | .int _ => true
  | .bl _ => true
  | .non => true
  | _ => false
theorem flB_ok {v : V} (h : flB v = true) : flatV v = true := by cases v <;> first | rfl | cases h
def mInT (neg : Bool) (te : TE) (ta : TA) : TE := fun σ H Q => te σ H fun x H1 => ta σ H1 fun ys H2 => flB x = true ∧ ys.all flB = true ∧ ys.length ≤ sizeLine ∧ ∀ p, H2 p = none → Q (.bl (if neg then !inV x ys else inV x ys)) (upd H2 p (.tup ys))
def mInTT (neg : Bool) (te : TE) (ta : TA) : TT := fun σ H Q => te σ H fun x H1 => ta σ H1 fun ys H2 => flB x = true ∧ ys.all flB = true ∧ ys.length ≤ sizeLine ∧ ∀ p, H2 p = none → Q (if neg then !inV x ys else inV x ys) (upd H2 p (.tup ys))
section
variable {X : Cx} {a : Expr} {es : List Expr} {ta : TE} {t : TA} {pos ps : Pos} {kk : Nat}
theorem all_fl {ys : List V} (h : ys.all flB = true) : ys.all flatV = true := by
  rw [List.all_eq_true] at *
  exact fun v hv => flB_ok (h v hv)
theorem inT_at {K : PySem.W.Frag} {x : V} {ys : List V} {H2 : Hp} {p : Addr} {neg : Bool} {Q : VK} (h1 : flB x = true) (h2 : ys.all flB = true) (q : Q (.bl (if neg then !inV x ys else inV x ys)) (upd H2 p (.tup ys))) : rIn K neg x (.ref p) (upd H2 p (.tup ys)) Q :=
  ⟨p, ys, rfl, .inr (SqT.of upd_same), flB_ok h1, all_fl h2, q⟩
theorem me_inT (ha : PE X a ta) (hb : PA X es t) (hm : behindInMarks .In (.Tuple es kk ps) = false := by rfl) : PE X (.Compare a [.In] [.Tuple es kk ps] pos) (mInT false ta t) :=
  pe_imp (pe_cmpR op_in_seq (pe_cl ha) (pe_tup (pa_cl hb)) hm) fun σ H Q q => ⟨_, q, fun x H1 q1 => ⟨_, q1, fun ys H2 ⟨h1, h2, h3, q2⟩ => ⟨h3, fun p hp => inT_at h1 h2 (q2 p hp)⟩⟩⟩
theorem me_ninT (ha : PE X a ta) (hb : PA X es t) (hm : behindInMarks .NotIn (.Tuple es kk ps) = false := by rfl) : PE X (.Compare a [.NotIn] [.Tuple es kk ps] pos) (mInT true ta t) :=
  pe_imp (pe_cmpR op_notIn_seq (pe_cl ha) (pe_tup (pa_cl hb)) hm) fun σ H Q q => ⟨_, q, fun x H1 q1 => ⟨_, q1, fun ys H2 ⟨h1, h2, h3, q2⟩ => ⟨h3, fun p hp => inT_at h1 h2 (q2 p hp)⟩⟩⟩
theorem mt_inT (ha : PE X a ta) (hb : PA X es t) (hm : behindInMarks .In (.Tuple es kk ps) = false := by rfl) : PT X (.Compare a [.In] [.Tuple es kk ps] pos) (mInTT false ta t) :=
  pt_imp (pt_cmpR op_in_seq (pe_cl ha) (pe_tup (pa_cl hb)) hm) fun σ H Q q => ⟨_, q, fun x H1 q1 => ⟨_, q1, fun ys H2 ⟨h1, h2, h3, q2⟩ => ⟨h3, fun p hp => inT_at h1 h2 ⟨_, rfl, q2 p hp⟩⟩⟩⟩
theorem mt_ninT (ha : PE X a ta) (hb : PA X es t) (hm : behindInMarks .NotIn (.Tuple es kk ps) = false := by rfl) : PT X (.Compare a [.NotIn] [.Tuple es kk ps] pos) (mInTT true ta t) :=
  pt_imp (pt_cmpR op_notIn_seq (pe_cl ha) (pe_tup (pa_cl hb)) hm) fun σ H Q q => ⟨_, q, fun x H1 q1 => ⟨_, q1, fun ys H2 ⟨h1, h2, h3, q2⟩ => ⟨h3, fun p hp => inT_at h1 h2 ⟨_, rfl, q2 p hp⟩⟩⟩⟩
end
theorem inV_nil (x : V) : inV x [] = false := rfl
theorem inV_cons (x y : V) (r : List V) : inV x (y :: r) = (eqV y x || inV x r) := rfl
theorem eqV_SS (a b : List Nat) : eqV (.str (S a)) (.str (S b)) = decide (a = b) := by
  show decide (S a = S b) = _
  by_cases h : a = b
  · subst h; simp
  · have : ¬ S a = S b := fun z => h (S_inj.mp z)
    simp [h, this]
theorem eqV_II (a b : Int) : eqV (.int a) (.int b) = decide (a = b) := by
  show (_ : Bool) = _
  first | rfl | simp [eqV]
end M

/-! ### own errors: class C(TurnError) with __init__(self, fl=None): super().__init__(fl); self.fl = fl -/
namespace M
open PySem PySem.Spec PySem.W PySem.Calls PyProof.Rows PySem.HandSPX
def qp (q : List Pos) (i : Nat) : Pos := q.getD i ⟨0, 0, 0, 0⟩
def eiB (fl : Str) (q : List Pos) : List Stmt := [.Expr (.Call (.Attribute (.Call (.Name "super" (qp q 0)) [] [] (qp q 1)) "__init__" (qp q 2)) [.Name fl (qp q 3)] [] (qp q 4)) (qp q 5), .Assign [.Attribute (.Name "self" (qp q 6)) fl (qp q 7)] (.Name fl (qp q 8)) (qp q 9)]
section
variable {P : Program} {w : World} {A : Around} {E : Value → Shared → Prop} {h : Heap} {g : Array GenState} {d : Drawn} {t : Nat} {os : OsState}
variable {nm q : Str} {C N : Addr} {bs bm : List Value} {hdct : Bool} {sn : List Str} {sub : List Value} {ab : Bool} {col : Option Bool} {dd : Option Addr} {k0 k1 k2 k3 k5 : Option Value}
theorem call_mw {u e t0 : Addr} {rest : List Value} {Q : Value → Shared → Prop}
    (hC : h.get? C = some (excClassObj nm q C N bs bm hdct sn sub ab col dd k0 k1 k2 k3 k5 "ValueError.__new__")) (he : h.get? e = some (HandSPX.excO C t0)) (hu : h.get? u = some (kxs_mw "ValueError.__init__" e)) (hrest : rest.length ≤ sizeLine)
    (hq : ∀ h' t1, (∀ b o, b ≠ e → h.get? b = some o → h'.get? b = some o) → h'.get? e = some (HandSPX.excO C t1) → Q .none ⟨h', g, d, t, os⟩) :
    wpAny (model P w) A (call (.ref u) rest) Q E ⟨h, g, d, t, os⟩ := by
  refine wpAny_call (codeAny_of_tree ?_)
  show wpAny _ A.in1 (callAny (.ref u) ⟨rest, []⟩) _ _ _
  simp only [callAny]
  refine wpAny_bind (wpAny_load hu ?_)
  simp only [kxs_mw, show (Value.type "method-wrapper" == Value.type "method" || Value.type "method-wrapper" == Value.type "builtin_function_or_method" || Value.type "method-wrapper" == Value.type "method-wrapper") = true by decide, if_true]
  refine W.KFB.if_so (by decide) ?_
  refine wpAny_bind (check_bound_init F.excBase_ValueError.toExcCallFacts hC he rfl ?_)
  refine wpAny_bind (wpAny_pure (wpAny_pure ?_))
  refine ⟨plainId_quiet F.excBase_ValueError.init.plain _, codeAny_builtin F.excBase_ValueError.initEntry ?_⟩
  exact exc_init_tree (cls := .ref C) (t0 := t0) (dv := none) (c2 := .none) (c3 := .none) (b4 := .bool false) he hrest fun h' k e' _ => hq h' _ k e'
end
theorem cw_one {Mo : Model} {A : Around} {E : Value → Shared → Prop} {s : Shared} {i : String} {u x : Addr} {pos : Pos} {env : Env} {e : Expr} {Q : Value → Shared → Prop}
    (h : wpAny Mo A (spliced (backTo pos (starEach [e] env))) (fun vs s₁ => KxsAt i u x s₁.heap ∧ wpAny Mo A (call (.ref u) vs) Q E s₁) E s)
    (he : starEach [e] env = (false, eval e env) :: starEach [] env := by rfl) : wpAny Mo A (callWith pos (.ref u) [] (backTo pos (starEach [e] env)) []) Q E s := by
  rw [he] at h ⊢
  exact kxs_callWith (i := i) (x := x) rfl (evalArgs_plain h)
theorem ve_slot : bootBuiltins "super" = some (.type "super") := by decide +kernel
section
variable {P : Program} {w : World} {A : Around} {R : Result → Shared → Prop} {s : Shared} {K : Frag} {mg mb : Str → Option Value} {C fI cda cc : Addr} {fl qual : Str} {sc : Scope} {params : Arguments} {q : List Pos}
  {oc dV kV doc pm ct : Value} {od an : Option Addr} {osl : Array (Option Value)} {ar : Arg}
theorem ini_run {args : Args} {x t0 : Addr} {v : Value} (X : K.In s.heap) (hlim : s.heap.NoLimit) (G : s.heap.Ns mainGlobals mg) (B : s.heap.Ns builtinsNs mb) (gs : mg "super" = none) (bs : mb "super" = some (.type "super")) (T : L2.OexC K C) (nf : findIn K (.ref C) fl = some none)
    (ho : K.lookup fI = some ⟨oc, od, .func (ksFn "__init__" qual params (eiB fl q) sc dV kV doc pm an (.ref cda) ct cc), osl⟩) (hcd : codeIn K (.ref cda) qual = true)
    (hcode : ∃ (ccl : Value) (cdd : Option Addr) (vs : Array Value) (ccs : Array (Option Value)) (file : Str) (tf : Tok), K.lookup cda = some ⟨ccl, cdd, .fields vs, ccs⟩ ∧ vs[2]? = some (.str file tf) ∧ ((P.main.file : Str) == file) = true)
    (hcell : ∃ (cl : Value) (cld : Option Addr) (csl : Array (Option Value)), K.lookup cc = some ⟨cl, cld, .cell (some (.ref C)), csl⟩)
    (hp : (params.posonlyargs ++ params.args).head? = some ar) (har : ar.arg = "self") (hsf : fl ≠ "self") (hdf : (fl == ("__debug__" : Str)) = false)
    (k1 : sc.kind = .function) (k2 : sc.isGenerator = false) (k3 : sc.isCoroutine = false) (k4 : sc.names.lookup ("self" : Str) = some .local) (k5 : sc.names.lookup fl = some .local) (k6 : sc.names.lookup ("super" : Str) = some .globalImplicit)
    (k7 : sc.names.lookup ("__class__" : Str) = some .free) (k8 : ∀ x ∈ sc.names, x.2 ≠ .cell)
    (htop : (P.main.scope.names.lookup ("super" : Str)).isSome = false) (hop : nsIn K cStatics "thirdparty.any" = some none) (sup : ks_superIn K C C "__init__" = some (some (.builtin "ValueError.__init__")))
    (hmro : mroIn K C (.ref C) = some true) (hsub : subIn K (.ref C) (.type "ValueError") = some true)
    (hint : ∀ env : Env, env.scope = sc → interactive env = false)
    (hev : ∀ env : Env, env.scope = sc → ∃ pl : Sem Bool, eval (.Call (.Attribute (.Call (.Name "super" (qp q 0)) [] [] (qp q 1)) "__init__" (qp q 2)) [.Name fl (qp q 3)] [] (qp q 4)) env = (do
      let ov ← attributeBase (.Call (.Name "super" (qp q 0)) [] [] (qp q 1)) "__init__" env (eval (.Call (.Name "super" (qp q 0)) [] [] (qp q 1)) env)
      standAt (qp q 2).atName
      let (f, first) ← holding [ov] (getMethod ov "__init__" pl)
      callWith (qp q 4) f first (backTo (qp q 4) (starEach [.Name fl (qp q 3)] env)) []))
    (hsw : ∀ env : Env, env.scope = sc → swapsWith (.Name fl (qp q 8)) (some (.Attribute (.Name "self" (qp q 6)) fl (qp q 7))) (qp q 9).line env = pure false)
    (hx : s.heap.get? x = some (excO C t0)) (hnx : K.lookup x = none) (hroom : A.depth < recursionLimit) (bind : BindsTo s (ksFn "__init__" qual params (eiB fl q) sc dV kV doc pm an (.ref cda) ct cc) args [("self", .ref x), (fl, v)])
    (hq : ∀ h' tk dx t1, (∀ b o, b ≠ x → s.heap.get? b = some o → h'.get? b = some o) → h'.get? x = some { cls := .ref C, dict := some dx, data := .fields #[.ref t1, .none, .none, .none, .bool false, .none] } → s.heap.objs.size ≤ dx → dx ≠ x →
      h'.Ns1 dx (fun y => if y = fl then some v else none) → R (.ok (.ret .none)) { s with heap := h', toks := tk }) :
    codeAny (model P w) A (.call (.ref fI) args) R s := by
  obtain ⟨nm, q', N, bs', bm, sn, sub, ab, col, dd, z0, z1, z2, z3, z5, hC, hbm⟩ := T.cls
  have hcl : clsIn K C = some { name := nm, bases := bs', mro := .ref C :: bm, ns := N, qualname := q', hasDict := true, slotNames := sn, subclasses := sub, abstract := ab, collection := col, hasDel := false } := by unfold clsIn; rw [hC] <;> rfl
  obtain ⟨ccl, cdd, vs, ccs, file, tf, hcode, hvs, hfile⟩ := hcode
  obtain ⟨cl, cld, csl, hcell⟩ := hcell
  refine ks_codeAny_call_defAt (fd := ksFn "__init__" qual params (eiB fl q) sc dV kV doc pm an (.ref cda) ct cc) (body := eiB fl q) (binds := [("self", .ref x), (fl, v)]) hroom (X _ _ ho) rfl hlim (codeRec_of X hcd) rfl bind k8
    (fun y hy => ?_) (fun h₁ hns hk₁ => ?_) k3 k2 k1
  · rcases List.mem_cons.mp hy with rfl | hy
    · exact k4
    rcases List.mem_cons.mp hy with rfl | hy
    · exact k5
    cases hy
  have hxL : s.heap.objs.size ≠ x := Nat.ne_of_gt (Heap.lt_size hx)
  have X₁ : K.In h₁ := X.keeps hk₁
  have hx₁ := hk₁ _ _ hx
  have mself : (fun x_1 => ([("self", .ref x), (fl, v)] : List (Str × Value)).reverse.lookup x_1) "self" = some (.ref x) := by
    have : (("self" : Str) == fl) = false := by simpa using fun z => hsf z.symm
    simp [List.lookup, this]
  have mfl : (fun x_1 => ([("self", .ref x), (fl, v)] : List (Str × Value)).reverse.lookup x_1) fl = some v := by
    simp [List.lookup]
  generalize hm : (fun x_1 => ([("self", .ref x), (fl, v)] : List (Str × Value)).reverse.lookup x_1) = m at hns mself mfl
  obtain ⟨hp0, g, dr, tk, os⟩ := s
  have I₁ : W.InstAt h₁ x (excO C t0) C none := ⟨hx₁, rfl, rfl, trivial⟩
  obtain ⟨oD, hD1, hD2⟩ : ∃ oD, h₁.get? C = some oD ∧ oD.data = .cls { name := nm, bases := bs', mro := .ref C :: bm, ns := N, qualname := q', hasDict := true, slotNames := sn, subclasses := sub, abstract := ab, collection := col, hasDel := false } := ⟨_, X₁ _ _ hC, rfl⟩
  have nk : ∀ {b : Addr} {o : Obj}, K.lookup b = some o → b ≠ x := fun e z => by rw [z, hnx] at e; cases e
  obtain ⟨pl, hev⟩ := hev (callEnv (ksFn "__init__" qual params (eiB fl q) sc dV kV doc pm an (.ref cda) ct cc) hp0.objs.size fI) rfl
  refine ks_wpAt_execs_cons (ks_wpAt_Expr_any (hi := hint _ rfl) (ks_wpAt_MethodCall (he := hev) ?_))
  refine ks_wpAt_super_base (env := callEnv (ksFn "__init__" qual params (eiB fl q) sc dV kV doc pm an (.ref cda) ct cc) hp0.objs.size fI) k6 k7 (by decide) rfl (X₁ _ _ ho) rfl hp rfl (X₁ _ _ hcode) rfl hvs hfile htop ?_
  refine ks_loadName_global k1 k6 (loadGlobal_builtin (G.keeps hk₁) gs (B.keeps hk₁) bs ⟨rfl, ?_⟩)
  refine wpAny_loadName_free k1 k7 rfl ⟨_, X₁ _ _ hcell, rfl⟩ ?_
  rw [har]
  refine wpAny_loadName_local k1 k4 hns mself ?_
  refine ks_wpAny_isType_cls hD1 hD2 ⟨rfl, ?_⟩
  refine ks_wpAny_call_super hD1 hD2 I₁.at_ I₁.cls (fun c e => by cases e) (looks_mroIn X₁ hmro) (fun h2 e2 kk2 => ?_)
  have X2 : K.In h2 := X₁.keeps kk2
  have hI2 : W.Looks (model P w) h2 (isInstance (.ref x) (.type "ValueError")) true := (show W.InstAt h2 x (excO C t0) C none from ⟨kk2 _ _ hx₁, rfl, rfl, trivial⟩).type.andThen (looks_subIn X2 hsub)
  have hxC : x ≠ C := fun z => by
    rw [← z, hx₁] at hD1
    cases hD1
    cases hD2
  have supA : alongIn K "__init__" (((.ref C :: bm).dropWhile (· != .ref C)).drop 1) = some (some (.builtin "ValueError.__init__")) := by
    have z := sup
    unfold ks_superIn at z
    rw [hcl] at z
    exact z
  refine kxs_getMethod kxs_ValueError e2 (looks_opaque X2 hop) (l₀ := .ref C :: bm) (fun A Q E s k q => wpAny_bind ((looks_clsIn X2 hcl) A _ E s k (wpAny_pure q))) rfl X2 supA hI2 hxC (by decide) ?_
  have kk3 : ∀ b o, h2.get? b = some o → (h2.push (kxs_mw "ValueError.__init__" x)).get? b = some o := fun b o e => Heap.get?_push_of_some _ e
  have hu : (h2.push (kxs_mw "ValueError.__init__" x)).get? h2.objs.size = some (kxs_mw "ValueError.__init__" x) := Heap.get?_push_size _ rfl
  refine cw_one (i := "ValueError.__init__") (x := x) (spliced_more ?_ rfl) rfl
  refine wpAny_Name (wpAny_loadName_local k1 k5 ((hns.keeps kk2).keeps kk3) mfl ?_) hdf
  refine spliced_none ⟨hu, ?_⟩
  refine call_mw (hC := kk3 _ _ (kk2 _ _ (X₁ _ _ hC))) (he := kk3 _ _ (kk2 _ _ hx₁)) hu (by show 1 ≤ sizeLine; rw [sizeLine_eq]; omega) (fun h4 t1 kk4 hx4 => ?_)
  have nx : ∀ {b : Addr} {o : Obj}, h₁.get? b = some o → b ≠ x → h4.get? b = some o := fun {b o} e n => kk4 b o n (kk3 _ _ (kk2 _ _ e))
  have X4 : K.In h4 := fun a o e => nx (X₁ _ _ e) (nk e)
  have hns4 : h4.Ns hp0.objs.size m := hns.at fun o e => nx e hxL
  refine wpAt_of_wpAny (wpAny_execs_cons (plainObj_wpAny_Assign_Attribute (hs := hsw _ rfl) ?_))
  refine wpAny_Name (wpAny_loadName_local k1 k5 hns4 mfl ?_) hdf
  refine wpAny_Name (wpAny_loadName_local k1 k4 hns4 mself ?_) (by decide)
  refine set_plain X4 (ox := excO C t1) (od := none) ⟨hx4, rfl, rfl, trivial⟩ T.sa ?_
  refine exc_osa X4 hx4 hcl (show refsVE (.ref C :: bm) = true from hbm) rfl nf (fun h5 tk5 dx k₅ dn dne hx5 hn5 => ?_)
  show wpAny _ _ (execs _ _) _ _ _
  have z : hp0.objs.size < h₁.objs.size := hns.lt
  have z4 : hp0.objs.size < h4.objs.size := hns4.lt
  exact wpAny_execs_nil (hq h5 tk5 dx t1 (fun b o hb e => k₅ b o hb (nx (hk₁ b o e) hb)) hx5 (Nat.le_of_lt (Nat.lt_of_lt_of_le z4 dn)) dne hn5)
end
end M

/-! ### own errors: raised, made -/
namespace M
open PySem PySem.Spec PyProof.Rows L2 PySem.HandSPX
/-- the run of C's __init__ -/
def IniRun (P : Program) (w : World) (K : PySem.W.Frag) (mg : Str → Option Value) (fl : Str) (C fI : Addr) (fd : FuncData) : Prop :=
  ∀ {A : Around} {R : Result → Shared → Prop} {s : Shared} {args : Args} {x t0 : Addr} {v : Value}, K.In s.heap → s.heap.NoLimit → s.heap.Ns mainGlobals mg → (∃ mb, s.heap.Ns builtinsNs mb ∧ ∀ x : Str, x ≠ "__name__" → mb x = bootBuiltins x) →
    s.heap.get? x = some (excO C t0) → K.lookup x = none → A.depth < recursionLimit → BindsTo s fd args [("self", .ref x), (fl, v)] →
    (∀ h' tk dx t1, (∀ b o, b ≠ x → s.heap.get? b = some o → h'.get? b = some o) → h'.get? x = some { cls := .ref C, dict := some dx, data := .fields #[.ref t1, .none, .none, .none, .bool false, .none] } → s.heap.objs.size ≤ dx → dx ≠ x →
      h'.Ns1 dx (fun y => if y = fl then some v else none) → R (.ok (.ret .none)) { s with heap := h', toks := tk }) → codeAny (model P w) A (.call (.ref fI) args) R s
structure ExcAt (P : Program) (w : World) (K : PySem.W.Frag) (mg : Str → Option Value) (x fl : Str) (C : Addr) : Prop where
  gC : mg x = some (.ref C)
  T : OexC K C
  ga : PySem.W.findIn K (.ref C) "__getattribute__" = some (some (.builtin "BaseException.__getattribute__"))
  gg : PySem.W.findIn K (.ref C) "__getattr__" = some none
  nf : PySem.W.findIn K (.ref C) fl = some none
  hd : PySem.W.hasDictIn K C = true
  init : ∃ (fI : Addr) (fd : FuncData), PySem.W.findIn K (.ref C) "__init__" = some (some (.ref fI)) ∧ PySem.W.typeIn K (.ref fI) = some (.type "function") ∧ IniRun P w K mg fl C fI fd ∧
    (∀ (s : Shared) (u v : Value), K.In s.heap → BindsTo s fd ⟨[u, v], []⟩ [("self", u), (fl, v)]) ∧ (∀ (s : Shared) (u : Value), K.In s.heap → BindsTo s fd ⟨[u], []⟩ [("self", u), (fl, .none)]) ∧
    (∀ (s : Shared) (u v : Value), K.In s.heap → BindsTo s fd ⟨[u], [(fl, v)]⟩ [("self", u), (fl, v)])
theorem relO_one {fl : Str} {v : V} {v' : Value} (r : RelV v v') (f : Str) : RelO (List.lookup f [(fl, v)]) (if f = fl then some v' else none) := relO_put (fs := []) (mA := fun _ => none) r (fun _ => trivial) f
section
variable {X : Cx} {C : Addr} {x fl : Str}
/-- a made one, seen from the caller -/
theorem mk_seen {pins : List (Addr × Obj)} {σ : L2.St} {H1 : Hp} {Q : XK} {hp h' : Heap} {g : Array GenState} {dr : Drawn} {tk tk' : Nat} {os : OsState} {e d t1 : Addr} {v : V} {v' : Value} (T : OexC X.K C) (I1 : Inv X pins σ H1 ⟨hp, g, dr, tk, os⟩)
    (keep : ∀ b o, hp.get? b = some o → h'.get? b = some o) (new : hp.objs.size ≤ e) (hx : h'.get? e = some { cls := .ref C, dict := some d, data := .fields #[.ref t1, .none, .none, .none, .bool false, .none] }) (db : hp.objs.size ≤ d) (dne : d ≠ e)
    (ns : h'.Ns1 d (fun y => if y = fl then some v' else none)) (rv : RelV v v') (q : Q (.ref C) (some d) (upd H1 d (.xd [(fl, v)]))) : MkP X pins σ Q (.ref e) ⟨h', g, dr, tk', os⟩ := by
  obtain ⟨G', g1, g2⟩ := restrict h' fun b => decide (b ≠ e)
  have gk : ∀ b, b ≠ e → G'.get? b = h'.get? b := fun b hb => g1 b (decide_eq_true hb)
  have ge : G'.get? e = none := g2 e (by simp)
  have old : ∀ b o, hp.get? b = some o → G'.get? b = some o := fun b o q => (gk b (Nat.ne_of_lt (Nat.lt_of_lt_of_le (Heap.lt_size q) new))).trans (keep b o q)
  have ob : ObjOk X.prog X.w (upd H1 d (.xd [(fl, v)])) G' d (.xd [(fl, v)]) := ⟨_, ns.at (fun o q => (gk d dne).trans q), fun f => relO_one rv f⟩
  have J : Inv X pins σ (upd H1 d (.xd [(fl, v)])) ⟨G', g, dr, tk', os⟩ := I1.laid (t' := tk') old db ob
  refine ⟨e, _, _, ⟨G', g, dr, tk', os⟩, _, .ref C, some d, rfl, J, fun b o q => ?_, ge, hx, ⟨rfl, rfl⟩, rfl, rfl, ?_, rfl, I1.bare, raises_own T.exC T.tyC, q⟩
  · by_cases hb : b = e
    · have q' : G'.get? b = some o := q
      rw [hb, ge] at q'; cases q'
    · exact (gk b hb).symm.trans q
  · rw [upd_ne (Ne.symm dne)]
    exact I1.hok.fresh new
def mMk (C : Addr) (fl : Str) (ta : TA) : L2.St → Hp → XK → Prop := fun σ H Q => ta σ H fun vs H1 => match vs with
  | [v] => ∀ d, H1 d = none → Q (.ref C) (some d) (upd H1 d (.xd [(fl, v)]))
  | _ => False
theorem vals_one {v : V} {us : List Value} (r : Vals [v] us) : ∃ u, us = [u] ∧ RelV v u := by
  cases r with
  | cons h1 h2 =>
    cases h2
    exact ⟨_, rfl, h1⟩
/-- C(v): the call -/
theorem call_exc {pins : List (Addr × Obj)} {σ : L2.St} {H1 : Hp} {Q : XK} {s1 : Shared} {v : V} {u : Value} {k : Nat} {A : Around} (T : ExcAt X.prog X.w X.K X.mg x fl C) (hr : A.depth + 2 < recursionLimit) (I1 : Inv X pins σ H1 s1) (rv : RelV v u)
    (q : ∀ d, H1 d = none → Q (.ref C) (some d) (upd H1 d (.xd [(fl, v)]))) {E : Value → Shared → Prop} : wpAny (model X.prog X.w) A (call (.ref C) [u]) (MkP X pins σ Q) E s1 := by
  obtain ⟨nm, q', N, bs, bm, sn, sub, ab, col, dd, k0, k1, k2, k3, k5, hC, hbm⟩ := T.T.cls
  obtain ⟨fI, fd, iC, tI, run, b1, _, _⟩ := T.init
  have hlim := I1.nolimit
  have KX := I1.kIn
  have G : s1.heap.Ns mainGlobals X.mg := I1.mod.glob.keeps I1.bk
  obtain ⟨mb, hb1, hb2⟩ := I1.mod.blt
  have B : s1.heap.Ns builtinsNs mb := hb1.keeps I1.bk
  obtain ⟨hp, g, dr, tk, os⟩ := s1
  have kk : ∀ b o, hp.get? b = some o → ((hp.push (PySem.W.kdv_tup [u])).push (excO C hp.objs.size)).get? b = some o := fun b o e => Heap.get?_push_of_some _ (Heap.get?_push_of_some _ e)
  have hget : ((hp.push (PySem.W.kdv_tup [u])).push (excO C hp.objs.size)).get? (hp.objs.size + 1) = some (excO C hp.objs.size) := by heap_get
  have hnx : X.K.lookup (hp.objs.size + 1) = none := by
    cases e : X.K.lookup (hp.objs.size + 1) with
    | none => rfl
    | some o =>
      have z : hp.get? (hp.objs.size + 1) = some o := KX _ _ e
      exact absurd (Nat.lt_of_succ_lt (Heap.lt_size z)) (Nat.lt_irrefl _)
  have KX2 : X.K.In ((hp.push (PySem.W.kdv_tup [u])).push (excO C hp.objs.size)) := KX.keeps kk
  refine wpAny_call (call_own F.excBase_ValueError (fun X => refsVE_contains X bm hbm) (KX _ _ hC) (PySem.W.looks_findIn KX iC) (fun self => PySem.W.bind_fn KX self tI) (by show 1 ≤ sizeLine; rw [sizeLine_eq]; omega) ?_)
  refine run (s := ⟨(hp.push (PySem.W.kdv_tup [u])).push (excO C hp.objs.size), g, dr, tk, os⟩) KX2 (hlim.keeps kk) (G.keeps kk) ⟨mb, B.keeps kk, hb2⟩ hget hnx ?_ (b1 _ _ _ KX2) fun h' tk' dx t1 k' hx dn dne hns => ?_
  · show A.depth + 1 < recursionLimit
    omega
  · have old : ∀ b o, hp.get? b = some o → h'.get? b = some o := fun b o e => k' b o (Nat.ne_of_lt (Nat.lt_succ_of_lt (Heap.lt_size e))) (kk b o e)
    have z : hp.objs.size + 1 + 1 ≤ dx := by
      first
        | (simpa only [Heap.size_push] using dn)
        | exact dn
    have db : hp.objs.size ≤ dx := Nat.le_trans (Nat.le_trans (Nat.le_succ _) (Nat.le_succ _)) z
    exact ⟨rfl, mk_seen T.T I1 old (Nat.le_succ _) hx db dne hns rv (q dx (I1.hok.fresh db))⟩
theorem pmk_exc {es : List Expr} {e : Expr} {ta : TA} {p pos : Pos} {k : Nat} (T : ExcAt X.prog X.w X.K X.mg x fl C) (hr : Room k X.A) (hg : Gl X x) (ha : PA X (e :: es) ta) (hdb : (x == ("__debug__" : Str)) = false := by decide)
    (he : starEach (e :: es) X.env = (false, eval e X.env) :: starEach es X.env := by rfl) (hpl : (backTo pos (starEach es X.env)).any (·.1) = false := by rfl) : PMk X (.Call (.Name x p) (e :: es) [] pos) (mMk C fl ta) := by
  intro pins s σ H Q I h
  refine wpAny_Call_Name_kw (ld_glob I hg T.gC ?_ hdb)
  refine PySem.W.callWith_K (h₀ := X.base) I.ok.mod.kin T.T.kC (thn ((pa_cl ha).run pos pins s σ H (fun vs H1 => ∃ v, vs = [v] ∧ ∀ d, H1 d = none → Q (.ref C) (some d) (upd H1 d (.xd [(fl, v)]))) I ⟨_, h, fun vs H1 z => ?_⟩) fun us s1 ⟨vs, H1, I1, r1, v, ev, q1⟩ => ⟨I1.kIn, ?_⟩) he hpl
  · split at z
    · exact ⟨_, rfl, z⟩
    · exact z.elim
  · subst ev
    obtain ⟨u, rfl, ru⟩ := vals_one r1
    exact call_exc (k := k) T (by have := hr.dp; omega) I1 ru q1
/-- raise C(v) -/
def mRaise (C : Addr) (fl : Str) (ta : TA) (E : XK) : TS := fun _ σ H => mMk C fl ta σ H fun cls d H' => E cls d H'
theorem ms_raise {es : List Expr} {e : Expr} {ta : TA} {p pos pos2 : Pos} {k : Nat} {E : XK} (T : ExcAt X.prog X.w X.K X.mg x fl C) (hr : Room k X.A) (hc : X.calm = true) (tk : Takes X (fun cls d _ H => E cls d H)) (hg : Gl X x) (ha : PA X (e :: es) ta) (hdb : (x == ("__debug__" : Str)) = false := by decide)
    (he : starEach (e :: es) X.env = (false, eval e X.env) :: starEach es X.env := by rfl) (hpl : (backTo pos (starEach es X.env)).any (·.1) = false := by rfl) : PS X (.Raise (some (.Call (.Name x p) (e :: es) [] pos)) none pos2) (mRaise C fl ta E) :=
  ps_raise hc tk (pmk_exc T hr hg ha hdb he hpl)
end
end M

/-! ### a caught error, kept behind the try -/
namespace M
open PySem PySem.Spec PyProof.Rows L2 PySem.HandSPX
/-- at a: an exception of the class cls, its dict d -/
def exk (a : Addr) (cls : Value) (d : Option Addr) : HO := .ext fun h => ∃ (o : Obj) (vs : Array Value), h.get? a = some o ∧ o.cls = cls ∧ o.dict = d ∧ o.data = .fields vs
theorem exk_ok {P : Program} {w : World} {H : Hp} {h : Heap} {a : Addr} {cls : Value} {d : Option Addr} {o : Obj} {vs : Array Value} (e : h.get? a = some o) (hz : Zc cls d o) (hd : o.data = .fields vs) : ObjOk P w H h a (exk a cls d) :=
  ⟨⟨o, vs, e, hz.1, hz.2, hd⟩, ⟨_, e⟩, fun h1 h2 z k => by
    obtain ⟨o, vs, q, r⟩ := z
    exact ⟨o, vs, k _ q, r⟩⟩
theorem exk_at {P : Program} {w : World} {H : Hp} {h : Heap} {a : Addr} {cls : Value} {d : Option Addr} (hok : HOk P w H h) (he : H a = some (exk a cls d)) : ∃ (o : Obj) (vs : Array Value), h.get? a = some o ∧ o.cls = cls ∧ o.dict = d ∧ o.data = .fields vs := by
  have x : ObjOk P w H h a (.ext fun h => ∃ (o : Obj) (vs : Array Value), h.get? a = some o ∧ o.cls = cls ∧ o.dict = d ∧ o.data = .fields vs) := hok a _ he
  exact x.1
section
variable {X : Cx} {pins : List (Addr × Obj)} {σ : L2.St} {H : Hp} {s : Shared}
/-- an object of the heap that was not looked at is looked at from now on -/
theorem Inv_track {a : Addr} {o : Obj} {vs : Array Value} {cls : Value} {d : Option Addr} (I : L2.Inv X pins σ H s) (e : s.heap.get? a = some o) (hz : Zc cls d o) (hd : o.data = .fields vs) (na : H a = none) (n0 : X.s_0.heap.get? a = none) (nL : a ≠ X.env.locals)
    (nP : ∀ p ∈ X.pn ++ pins, p.1 ≠ a) : L2.Inv X pins σ (upd H a (exk a cls d)) s := by
  have n1 : ∀ b o, X.s_0.heap.get? b = some o → b ≠ a := fun b o q z => by rw [z, n0] at q; cases q
  refine ⟨I.ok, I.os, I.bare, ⟨I.base.keep, I.base.slot, fun b o q n hx => ?_, I.base.there, fun b xs q => ?_, fun b o u q => ?_, fun b ps q => ?_⟩, I.loc, I.cell, ?_, fun x c q => ?_, fun p hp => ?_, fun b ob q => ?_, I.len⟩
  · rw [upd_ne (n1 b o q)]; exact I.base.free b o q n hx
  · have z := I.base.tups b xs q
    rw [upd_ne (ne_of_none z na)]; exact z
  · have z := I.base.frzs b o u q
    rw [upd_ne (ne_of_none z na)]; exact z
  · obtain ⟨more, z⟩ := I.base.tbls b ps q
    exact ⟨more, by rw [upd_ne (ne_of_none z na)]; exact z⟩
  · rw [upd_ne (Ne.symm nL)]; exact I.free
  · have : c ≠ a := fun z => by
      obtain ⟨v, hv⟩ := I.cell x c q
      obtain ⟨oc, q1, q2⟩ := hv
      rw [z, e] at q1
      cases q1
      rw [hd] at q2
      cases q2
    rw [upd_ne this]; exact I.freeC x c q
  · obtain ⟨p1, p2, p3⟩ := I.pin p hp
    exact ⟨p1, by rw [upd_ne (nP p hp)]; exact p2, p3⟩
  · by_cases hb : b = a
    · subst hb
      rw [upd_same] at q
      cases q
      exact exk_ok e hz hd
    · rw [upd_ne hb] at q
      exact (I.hok b ob q).stay (fun c v hc z => z) (fun c hc => by rw [upd_ne (ne_of_none hc na)]; exact hc) (fun c xs hc => by rw [upd_ne (ne_of_none hc na)]; exact hc)
/-- what is wished of an exception of the body: it is caught, n = it -/
def wK (K : PySem.W.Frag) (c : Value) (i j : Nat) (D : Ends) : WX := fun cls d σ H => PySem.W.exmOne K cls c = some true ∧ ∀ a, H a = none → D.nx ((σ.set j (some (.ref a))).set i none) (upd H a (exk a cls d))
def mTry (K : PySem.W.Frag) (c : Value) (i j : Nat) (tb : WX → TS) : TS := fun D σ H => tb (wK K c i j D) D σ H
end
end M

namespace M
open PySem PySem.Spec PyProof.Rows L2 PySem.HandSPX
section
variable {X : Cx} {x n y : Str} {c : Value} {i j : Nat} {body : List Stmt} {np pos pos' p1 p2 p3 : Pos} {tb : WX → TS}
theorem ms_try (hs : X.stack = X.env :: X.outer) (hf : X.env.frame = some X.env.locals) (hex : X.ex = []) (hN : X.N.Nodup) (hi : X.N[i]? = some n) (hln : X.env.kindOf n = some .local) (hc : Names X x c)
    (hb : ∀ (W : WX) (pn : List (Addr × Obj)) (xe : Value → Shared → Prop), Takes (X.tr pn xe) W → PassesOwn (model X.prog X.w) X.A X.env xe → PSs (X.tr pn xe) body (tb W))
    (hsu : ∀ (a : Addr) (oe : Obj) (pn : List (Addr × Obj)), (∃ vs, oe.data = .fields vs) → PSs (X.suite a ((a, oe) :: pn)) [.Assign [.Name y p1] (.Name n p2) p3] (tAsg (mVar i) (gName j))) :
    PS X (.Try body [.ExceptHandler (some (.Name x np)) (some n) [.Assign [.Name y p1] (.Name n p2) p3] pos'] [] [] pos) (mTry X.K c i j tb) := by
  refine ⟨fun pins s σ H D I h => ?_⟩
  have ok := I.ok
  have hfr : X.A.frames = some (X.env :: X.outer) := by rw [ok.frames, hs]
  have hloc : Loc X.env.scope n := .inl hln
  refine wpAny_Try_except ?_
  refine wpAny_mono ((hb (wK X.K c i j D) (X.pn ++ pins) (fun e s₁ => wpAny (model X.prog X.w) X.A (noteFrame e X.env) (fun _ s₂ => wpAny (model X.prog X.w) X.A (setFlight e none) (fun _ s₃ =>
    wpAny (model X.prog X.w) X.A (handleBy e X.env [.ExceptHandler (some (.Name x np)) (some n) [.Assign [.Name y p1] (.Name n p2) p3] pos']) (SP X pins D) X.xe s₃) X.xe s₂) X.xe s₁) (fun u s' xx => ?_) PassesOwn.looking).run [] s σ H D (I.toTry _) h) (fun f s1 hsp => ?_) (fun e s1 he => he)
  · obtain ⟨a, B, sI, pins', σ', H', cls, d, rfl, J', nb, up, sky, na, os, ag, hb1, hyes⟩ := xx
    have J : L2.Inv X pins σ' H' sI := J'.ofTry ok
    have sky' : Sky B (X.env :: X.outer) a (Zc cls d) X.env.locals s'.heap := by rw [← hs]; exact sky
    show wpAny (model X.prog X.w) X.A (noteFrame (.ref a) X.env) _ _ _
    refine Sky.land Zc.steady hfr hf sky' fun h3 fl3 up3 => ?_
    have J3 : L2.Inv X pins σ' H' { s' with heap := h3 } := J.landed nb fl3.1 (up.trans up3) os ag
    obtain ⟨oe3, vs3, he3, hz3, hd3⟩ := fl3.there
    have notFr : ∀ {h : Heap} {o : Obj} {vs : Array Value}, h.FunFrames B (X.env :: X.outer) → h.get? a = some o → o.data = .fields vs → a ∉ frs (X.env :: X.outer) := fun {h o vs} ff e dd hm => by
      obtain ⟨_, o', e', hnf⟩ := ff.mem hm
      rw [e] at e'; cases e'
      exact hnf _ dd
    have nfr := notFr fl3.2.2.1 he3 hd3
    have nL : a ≠ X.env.locals := fun z => nfr (List.mem_filterMap.mpr ⟨X.env, List.mem_cons_self, by rw [hf, z]⟩)
    have nF : a ∉ X.fs := fun hm => by
      obtain ⟨e, he, q⟩ := List.mem_filterMap.mp hm
      exact nfr (List.mem_filterMap.mpr ⟨e, List.mem_cons_of_mem _ he, q⟩)
    have nI : sI.heap.get? a = none := by
      cases q : sI.heap.get? a with
      | none => rfl
      | some o =>
        have z := nb a o q (by rw [hs]; exact nfr)
        rw [fl3.2.1] at z
        cases z
    have n0 : X.s_0.heap.get? a = none := by
      cases q : X.s_0.heap.get? a with
      | none => rfl
      | some o =>
        obtain ⟨o', z⟩ := J.base.there a o q (by rw [hex]; simp)
        rw [nI] at z
        cases z
    have nP : ∀ p ∈ X.pn ++ pins, p.1 ≠ a := fun p hp z => by
      have q := (J.pin p hp).1
      rw [z, nI] at q
      cases q
    have S3 := J3.suite he3 hd3 na nL nF
    refine wpAny_handleBy_cons (codeAny_handlers_test ?_) (by intro q; cases q)
    have LT : PySem.W.Looks (model X.prog X.w) h3 (typeOf (.ref a)) cls := fun A Q E s k q => wpAny_typeOf_ref (k _ _ he3) (by rw [hz3.1]; exact q)
    have LM := PySem.W.exm_one (M := model X.prog X.w) (J3.kIn) LT hb1
    have test : ∀ {Q : Value → Shared → Prop} {E : Value → Shared → Prop}, Q c { s' with heap := h3 } → wpAny (model X.prog X.w) (X.A.mark (some (.ref a))) (eval (.Name x np) X.env) Q E { s' with heap := h3 } := fun {Q E} q => by
      obtain ⟨hg, hdbg, hm | ⟨hm, hv, hnn⟩⟩ := hc
      · exact ld_glob (X := X.suite a ((a, oe3) :: (X.pn ++ pins))) S3 hg hm q hdbg
      · exact ld_blt (X := X.suite a ((a, oe3) :: (X.pn ++ pins))) S3 hg hm hv q hnn hdbg
    refine test (LM.here ?_)
    refine codeAny_handlers_suite_as ?_
    refine HandSPX.lands_againZ fl3 fun h4 fl4 up4 => ?_
    have J4 : L2.Inv X pins σ' H' { s' with heap := h4 } := J.landed nb fl4.1 ((up.trans up3).trans up4) os ag
    obtain ⟨oe4, vs4, he4, hz4, hd4⟩ := fl4.there
    have S4 := J4.suite he4 hd4 na nL nF
    refine store_ok (X := X.suite a ((a, oe4) :: (X.pn ++ pins))) (v := .ref a) S4 hN hi hloc rfl (fun s5 S5 => ?_) (.inr hln)
    have il : i < σ'.length := by
      rw [J.len]
      exact (List.getElem?_eq_some_iff.mp hi).1
    have hgt : ∀ (l : Sl) (k : Nat) (v : V), k < l.length → M.gt (l.set k (some v)) k = some v := by
      intro l
      induction l with
      | nil => intro k v hk; exact absurd hk (by simp)
      | cons b r ih =>
        intro k v hk
        cases k with
        | zero => rfl
        | succ k => exact ih k v (by simpa using hk)
    have hread : (tAsg (mVar i) (gName j)) ({ nx := fun σ6 H6 => H6 = H' ∧ σ6 = (σ'.set i (some (.ref a))).set j (some (.ref a)), rt := fun _ _ => False, bk := fun _ _ => False, ct := fun _ _ => False } : Ends) (σ'.set i (some (.ref a))) H' := by
      show (match M.gt (σ'.set i (some (.ref a))) i with | some v => _ | none => False)
      rw [hgt _ _ _ il]
      exact ⟨rfl, rfl⟩
    refine wpAny_mono ((hsu a oe4 (X.pn ++ pins) ⟨_, hd4⟩).run [] s5 _ H' _ S5 hread) (fun f s6 hsp => ?_) (fun _ _ z => False.elim z)
    cases f with
    | next =>
      obtain ⟨σ6, H6, S6, rfl, rfl⟩ := hsp
      have he6 : s6.heap.get? a = some oe4 := (S6.pin (a, oe4) (List.mem_append_left _ List.mem_cons_self)).1
      have T6 := Inv_track (S6.unsuite ok) he6 hz4 hd4 na n0 nL nP
      refine gone_ok T6 hN hi hln fun s7 J7 => ⟨_, _, J7, ?_⟩
      by_cases hij : i = j
      · subst hij
        have z := hyes a na
        rw [List.set_set] at z
        rw [List.set_set, List.set_set]
        exact z
      · have z := hyes a na
        have e : ((σ'.set i (some (V.ref a))).set j (some (V.ref a))).set i none = (σ'.set j (some (V.ref a))).set i none := by
          rw [List.set_comm _ _ hij, List.set_set]
        rw [e]
        exact z
    | brk =>
      obtain ⟨σ6, H6, S6, q6⟩ := hsp
      exact q6.elim
    | cont =>
      obtain ⟨σ6, H6, S6, q6⟩ := hsp
      exact q6.elim
    | ret u =>
      obtain ⟨v6, σ6, H6, S6, r6, q6⟩ := hsp
      exact q6.elim
  · cases f with
    | next =>
      obtain ⟨σ', H', J', q⟩ := hsp
      exact wpAny_execs_nil ⟨σ', H', J'.ofTry ok, q⟩
    | brk =>
      obtain ⟨σ', H', J', q⟩ := hsp
      exact ⟨σ', H', J'.ofTry ok, q⟩
    | cont =>
      obtain ⟨σ', H', J', q⟩ := hsp
      exact ⟨σ', H', J'.ofTry ok, q⟩
    | ret u =>
      obtain ⟨v, σ', H', J', r, q⟩ := hsp
      exact ⟨v, σ', H', J'.ofTry ok, r, q⟩
end
end M

/-! ### defs that show values: no repr is under way above them -/
namespace M
open PySem PySem.Spec PyProof.Rows L2 PySem.HandSPX
structure RoomG (k : Nat) (A : Around) : Prop where
  hd : A.handled = none
  dp : A.depth + k + 20 < recursionLimit
  un : A.units + 8 * k + 300 < cLine
  gd : A.guards = some []
theorem RoomG.mono {j k : Nat} {A : Around} (r : RoomG k A) (h : j ≤ k) : RoomG j A := ⟨r.hd, by have := r.dp; omega, by have := r.un; omega, r.gd⟩
theorem RoomG.deeper {k : Nat} {A : Around} (r : RoomG (k + 1) A) (env : Env) : RoomG k (A.deeper env) := ⟨r.hd, by have := r.dp; show A.depth + 1 + k + 20 < _; omega, by have := r.un; show A.units + 3 + 8 * k + 300 < _; omega, r.gd⟩
theorem RoomG.room {j k : Nat} {A : Around} (r : RoomG k A) (h1 : 3 * j ≤ k + 15) (h2 : 16 * j ≤ 8 * k + 100) : Room j A := ⟨r.hd, by have := r.dp; omega, by have := r.un; omega⟩
theorem RoomG.r0 {k : Nat} {A : Around} (r : RoomG k A) : Room 0 A := r.room (by omega) (by omega)
theorem RoomG.units {k : Nat} {A : Around} (r : RoomG k A) : A.units + 64 < cLine := by have := r.un; omega
theorem RoomG.depth {k : Nat} {A : Around} (r : RoomG k A) : A.depth < recursionLimit := by have := r.dp; omega
structure FnG (P : Program) (w : World) (K : PySem.W.Frag) (mg : Str → Option Value) (base : Heap) (CX : CXT) (k : Nat) (f : Addr) (fd : FuncData) (ps : List Str) (sp : Sp) : Prop where
  len : ∀ vs H Q E, sp vs H Q E → vs.length = ps.length
  run : ∀ (A : Around) (outer : List Env) (s : Shared) (H : Hp) (args : Args) (us : List Value) (vs : List V) (Q : VK) (E : XK), RoomG k A → Env0 P w K mg base A outer s H → BindsTo s fd args (ps.zip us) → Vals vs us → sp vs H Q E →
    codeAny (model P w) A (.call (.ref f) args) (CR CX outer P w H s Q E) s
theorem FnG.of {P : Program} {w : World} {K : PySem.W.Frag} {mg : Str → Option Value} {base : Heap} {CX : CXT} {j k : Nat} {f : Addr} {fd : FuncData} {ps : List Str} {sp : Sp} (F : FnOk P w K mg base CX j f fd ps sp) (h1 : 3 * j ≤ k + 15) (h2 : 16 * j ≤ 8 * k + 100) : FnG P w K mg base CX k f fd ps sp :=
  ⟨F.len, fun A outer s H args us vs Q E hr => F.run A outer s H args us vs Q E (hr.room h1 h2)⟩
theorem FnG.zero {P : Program} {w : World} {K : PySem.W.Frag} {mg : Str → Option Value} {base : Heap} {CX : CXT} {k : Nat} {f : Addr} {fd : FuncData} {ps : List Str} {sp : Sp} (no : ∀ vs H Q E, ¬ sp vs H Q E) : FnG P w K mg base CX k f fd ps sp :=
  ⟨fun vs H Q E h => absurd h (no vs H Q E), fun A outer s H args us vs Q E _ _ _ _ h => absurd h (no vs H Q E)⟩
theorem FnG.mono {P : Program} {w : World} {K : PySem.W.Frag} {mg : Str → Option Value} {base : Heap} {CX : CXT} {j k : Nat} {f : Addr} {fd : FuncData} {ps : List Str} {sp : Sp} (F : FnG P w K mg base CX j f fd ps sp) (h : j ≤ k) : FnG P w K mg base CX k f fd ps sp :=
  ⟨F.len, fun A outer s H args us vs Q E hr => F.run A outer s H args us vs Q E (hr.mono h)⟩
section
variable {P : Program} {w : World} {K : PySem.W.Frag} {mg : Str → Option Value} {base : Heap} {x qual : Str} {params : Arguments} {body : List Stmt} {scope : Scope} {dvs : List V} {kws : List (Str × V)} {f : Addr} {fd : FuncData}
theorem okG {CX : CXT} {N ps : List Str} {k : Nat} {sp : Sp} (F : FunD K x qual params body scope dvs kws f fd) (S : FnScope N ps scope) (len : ∀ vs H Q E, sp vs H Q E → vs.length = ps.length)
    (hbody : ∀ (cdv : Value) (A : Around) (outer : List Env) (s : Shared) (H : Hp) (vs : List V) (Q : VK) (E : XK), RoomG k (A.deeper (envOfC qual scope s.heap.objs.size f cdv)) → sp vs H Q E →
      ∃ t, PSs (cxOf CX P w K mg base N qual scope f cdv A outer s H E) body t ∧ t { nx := fun _ H' => Q .non H', rt := Q } (start N vs) H) : FnG P w K mg base CX (k + 1) f fd ps sp := by
  obtain ⟨oc, od, dV, kV, doc, pm, an, cdv, ct, osl, rfl, lk, hcd, _, _⟩ := F.ex
  refine ⟨len, fun A outer s H args us vs Q E hr e0 hb r hsp => ?_⟩
  have up : ∀ b o, base.get? b = some o → s.heap.get? b = some o := fun b o e => (e0.bs b o e).1
  have KX : K.In s.heap := e0.mod.kin.keeps up
  have par : ∀ y ∈ ps.zip us, scope.names.lookup y.1 = some .local ∨ (scope.names.lookup y.1 = some .cell ∧ ((cellsFrom (s.heap.objs.size + 1) scope.names []).lookup y.1).isSome = true) := by
    rintro ⟨n, v⟩ hy
    exact (S.par n (List.of_mem_zip hy).1).imp id fun q => ⟨q, PySem.W.cellsFrom_some _ _ _ (.inl q)⟩
  refine codeAny_call_function hr.depth (KX _ _ lk) rfl S.co S.gen rfl (PySem.W.codeRec_of KX hcd) (hb _ _ _ _ (wpAny_newFunctionEnv_cells S.kind par fun env he s1 x => ?_))
  subst he
  obtain ⟨t, ht, hq⟩ := hbody cdv A outer s H vs Q E (hr.deeper _) hsp
  refine ⟨(e0.mod.nolimit.keeps up).keeps x.toInCall.keep, codeAny_func (wpAny_mono (ht.run [] s1 (start N vs) H _ (inv_start S hr.hd e0 (len _ _ _ _ hsp) r x) hq) (fun fl s' hs => ?_) fun e s' hs => hs)⟩
  cases fl with
  | ret u =>
    obtain ⟨v, σ', H', J, rv, q⟩ := hs
    exact ⟨v, H', J.os, J.bare, J.base, J.hok, rv, q⟩
  | next =>
    obtain ⟨σ', H', J, q⟩ := hs
    exact ⟨V.non, H', J.os, J.bare, J.base, J.hok, rfl, q⟩
  | brk => exact (hs.elim fun _ z => z.elim fun _ z => z.2).elim
  | cont => exact (hs.elim fun _ z => z.elim fun _ z => z.2).elim
end
structure CalG (P : Program) (w : World) (K : PySem.W.Frag) (mg : Str → Option Value) (base : Heap) (CX : CXT) (x : Str) (k : Nat) (ps : List Str) (dvs : List V) (sp : Sp) : Prop where
  ex : ∃ f fd ds, FnG P w K mg base CX k f fd ps sp ∧ mg x = some (.ref f) ∧ PySem.W.keepIn K (.ref f) = true ∧ Binds K fd ps ds ∧ Vals dvs ds
section
variable {X : Cx} {CX : CXT} {k : Nat} {ps : List Str} {sp : Sp} {dvs : List V} {E : XK} {x : Str} {p pos : Pos} {e : Expr} {es : List Expr} {t : TA}
theorem me_callG (C : CalG X.prog X.w X.K X.mg X.base CX x k ps dvs sp) (hr : RoomG k X.A) (hg : Gl X x) (hx : Passes CX X E) (ha : PA X (e :: es) t) (hdb : (x == ("__debug__" : Str)) = false := by decide)
    (he : starEach (e :: es) X.env = (false, eval e X.env) :: starEach es X.env := by rfl) (hpl : (backTo pos (starEach es X.env)).any (·.1) = false := by rfl) : PE X (.Call (.Name x p) (e :: es) [] pos) (tCall sp dvs E t) := by
  obtain ⟨f, fd, ds, F, hm, hk, hb, hd⟩ := C.ex
  refine ⟨fun pins s σ H Q I h => wpAny_Call_Name_kw (ld_glob I hg hm (PySem.W.callWith_K (h₀ := X.base) I.ok.mod.kin hk (thn (ha.run pos pins s σ H _ I h) fun us s1 ⟨vs, H1, I1, r, q⟩ => ⟨I1.kIn, ?_⟩) he hpl) hdb)⟩
  have r2 : Vals (vs ++ dvs) (us ++ ds) := r.append hd
  refine wpAny_call (codeAny_mono (F.run X.A X.stack s1 H1 ⟨us, []⟩ (us ++ ds) (vs ++ dvs) Q E hr I1.env0 (hb s1 us I1.kIn (r2.length.symm.trans (F.len _ _ _ _ q))) r2 q) fun r s' hq => ?_)
  rcases r with er | fl
  · exact hx pins σ H1 s1 er s' I1 hq
  · cases fl with
    | ret u => exact I1.after hq
    | next => exact False.elim hq
    | brk => exact False.elim hq
    | cont => exact False.elim hq
end
/-! ### repr -/
section
variable {X : Cx}
def fd1 : V → Option PyData
  | .int i => some (.int i)
  | .str z => some (.str z)
  | .bl b => some (.bool b)
  | .non => some .none
  | _ => none
def kd1 : Key → PyData
  | .inl i => .int i
  | .inr x => .str x
def fdKV : List (Key × V) → Option (List (PyData × PyData))
  | [] => some []
  | (k, v) :: r => match fd1 v, fdKV r with
    | some d, some q => some ((kd1 k, d) :: q)
    | _, _ => none
/-- what repr shows of a value -/
inductive Sh (K : PySem.W.Frag) (H : Hp) : V → PyData → Prop
  | dp {v : V} {d : PyData} : Dp K H v d → d.hasDict = false → Sh K H v d
  | dct {a : Addr} {kvs : List (Key × V)} {ds : List (PyData × PyData)} : H a = some (.dK kvs) → fdKV kvs = some ds → Sh K H (.ref a) (.dict ds)
def mRepr (K : PySem.W.Frag) : List V → Hp → VK → Prop := fun xs H Q => match xs with
  | [x] => ∃ d, Sh K H x d ∧ d.showable = true ∧ d.depth ≤ 64 ∧ d.shown.length ≤ sizeLine ∧ Q (.str d.shown) H
  | _ => False
theorem rd1 {h : Heap} {v : V} {u : Value} {d : PyData} (r : RelV v u) (e : fd1 v = some d) : Reads h u d [] := by
  cases v with
  | int i => obtain ⟨t, rfl⟩ := r; cases e; exact .int i t
  | str z => obtain ⟨t, rfl⟩ := r; cases e; exact .str z t
  | bl b => cases r; cases e; exact .bool b
  | non => cases r; cases e; exact .none
  | _ => cases e
theorem rdKV {P : Program} {w : World} {h : Heap} : ∀ {kvs : List (Key × V)} {vs : List (Key × Value)} {es : List DictEntry} {ds : List (PyData × PyData)}, KV kvs vs → Pairs (mixKind P w) es vs → fdKV kvs = some ds →
    ReadsAll h (es.map (·.key)) (ds.map (·.1)) [] ∧ ReadsAll h (es.map (·.val)) (ds.map (·.2)) []
  | _, _, _, _, .nil, .nil, e => by cases e; exact ⟨.nil, .nil⟩
  | (k, v) :: r, (k', u) :: r', en :: es, ds, .cons hk hr, .cons h1 h2 h3, e => by
    obtain ⟨e1, e2⟩ := hk
    unfold fdKV at e
    split at e
    · rename_i d q ed eq
      cases e
      obtain ⟨a1, a2⟩ := rdKV (h := h) hr h3 eq
      refine ⟨?_, ?_⟩
      · refine ReadsAll.cons (as := []) (bs := []) ?_ a1
        show Reads h en.key (kd1 k) []
        have e1' : k = k' := e1
        subst e1'
        rcases keyIs_shape (show keyIs _ en.key = true from h1) with ⟨i, t, z1, z2⟩ | ⟨x, t, z1, z2⟩
        · have z1' : k = .inl i := z1
          rw [z2, z1']; exact .int i t
        · have z1' : k = .inr x := z1
          rw [z2, z1']; exact .str x t
      · refine ReadsAll.cons (as := []) (bs := []) ?_ a2
        show Reads h en.val d []
        rw [h2]
        exact rd1 e2 ed
    · cases e
theorem call_reprM {k : Nat} (hr : RoomG k X.A) : CallR X (.builtin "repr") (mRepr X.K) := by
  intro pins s σ H xs us Q I r h
  unfold mRepr at h
  split at h
  · rename_i x
    obtain ⟨d, hs, h1, h2, h3, q⟩ := h
    obtain ⟨u, rfl, ru⟩ := vals_one r
    have hun := hr.un
    have fin : ∀ (a : Addr) (as : List Addr), Reads s.heap (.ref a) d as → (d.hasDict = true → sysModules ∉ as) → wpAny (model X.prog X.w) X.A (call (.builtin "repr") [.ref a]) (EP X pins σ Q) X.xe s := fun a as rd hsm =>
      repr_of_reads' rd h1 hsm hr.gd (by omega) (fun _ _ e => e) (fun h' u tk k => ⟨.str d.shown, H, I.kept (t' := tk) k, ⟨u, rfl⟩, q⟩) h3
    cases hs with
    | dp hd hn =>
      obtain ⟨as, rd⟩ := Dp.reads I d x u hd ru
      have hsm : d.hasDict = true → sysModules ∉ as := PyData.noDict_hsm hn
      cases rd with
      | none => exact PySem.P.repr_of_none ⟨.str "None", H, I.tok _, ⟨_, rfl⟩, by simpa only [PyData.shown] using q⟩
      | bool b => exact PySem.P.repr_of_bool ⟨.str (if b then "True" else "False"), H, I.tok _, ⟨_, rfl⟩, by simpa only [PyData.shown] using q⟩
      | int i t => exact PySem.P.repr_of_int (by simpa [PyData.showable] using h1) ⟨.str (toString i), H, I.tok _, ⟨_, rfl⟩, by simpa only [PyData.shown] using q⟩
      | str z t => exact PySem.P.repr_of_str ⟨.str (reprText z), H, I.tok _, ⟨_, rfl⟩, by simpa only [PyData.shown] using q⟩ (by simpa only [PyData.shown] using h3)
      | list e1 e2 e3 e4 => exact fin _ _ (.list e1 e2 e3 e4) hsm
      | tuple e1 e2 e3 e4 => exact fin _ _ (.tuple e1 e2 e3 e4) hsm
      | dict e1 e2 e3 e4 e5 => exact fin _ _ (.dict e1 e2 e3 e4 e5) hsm
    | @dct a kvs ds ha hf =>
      cases ru
      obtain ⟨_, hns, vs, hkv, o, es, ep, e1, e2, e3, e4, e5, e6⟩ := dk_of I.hok ha
      obtain ⟨r1, r2⟩ := rdKV (h := s.heap) hkv e5 hf
      refine fin a ([a] ++ [] ++ []) (.dict e1 e2.1 e3 r1 r2) fun _ hm => ?_
      have z : sysModules = a := by simpa using hm
      rw [z] at hns
      simp at hns
  · exact h.elim
end
/-! ### a kept error's field, its class -/
structure ExcK (K : PySem.W.Frag) (fl : Str) (C : Addr) : Prop where
  ga : PySem.W.findIn K (.ref C) "__getattribute__" = some (some (.builtin "BaseException.__getattribute__"))
  gg : PySem.W.findIn K (.ref C) "__getattr__" = some none
  nf : PySem.W.findIn K (.ref C) fl = some none
  hd : PySem.W.hasDictIn K C = true
  exC : PySem.W.subIn K (.ref C) (.type "BaseException") = some true
  ha : PySem.W.findIn K (.ref C) "__class__" = some (some (.builtin "object.__class__"))
  hn : PySem.W.specialIn K (.builtin "object.__class__") "__get__" = some (some (.builtin "getset_descriptor.__get__"))
  ht : PySem.W.takesIn K (.builtin "object.__class__") = some true
  hm : PySem.W.mroIn K C (.type "object") = some true
def mFld (K : PySem.W.Frag) (fl : Str) (te : TE) : TE := fun σ H Q => te σ H fun x H1 => match x with
  | .ref a => ∃ (C d : Addr) (v : V), ExcK K fl C ∧ H1 a = some (exk a (.ref C) (some d)) ∧ H1 d = some (.xd [(fl, v)]) ∧ Q v H1
  | _ => False
section
variable {X : Cx}
theorem inst_of {pins : List (Addr × Obj)} {σ : L2.St} {H : Hp} {s : Shared} {a C d : Addr} {fs : List (Str × V)} (I : L2.Inv X pins σ H s) (h1 : H a = some (exk a (.ref C) (some d))) (h2 : H d = some (.xd fs)) :
    ∃ (o od : Obj) (mA : Str → Option Value), PySem.W.InstAt s.heap a o C (some od) ∧ s.heap.Ns1 d mA ∧ (∀ f, RelO (fs.lookup f) (mA f)) ∧ s.heap.get? d = some od := by
  obtain ⟨o, vs, e1, e2, e3, e4⟩ := exk_at I.hok h1
  have hx : ObjOk X.prog X.w H s.heap d (.xd fs) := I.hok d _ h2
  obtain ⟨mA, hns, hr⟩ := hx
  obtain ⟨od, ho, hl⟩ := lookIn_ns hns
  exact ⟨o, od, mA, ⟨e1, e2, by unfold PySem.W.notCls; rw [e4] <;> rfl, by rw [e3]; exact ho⟩, hns, hr, ho⟩
theorem me_fld {e : Expr} {te : TE} {fl : Str} {pos : Pos} (he : PE X e te) (hb : attributeBase e fl X.env (eval e X.env) = eval e X.env := by rfl) : PE X (.Attribute e fl pos) (mFld X.K fl te) := by
  refine ⟨fun pins s σ H Q I h => attr_of hb (thn ((pe_cl he).run pins s σ H (fun x H1 => ∃ (a C d : Addr) (v : V), x = .ref a ∧ ExcK X.K fl C ∧ H1 a = some (exk a (.ref C) (some d)) ∧ H1 d = some (.xd [(fl, v)]) ∧ Q v H1) I ⟨_, h, fun x H1 z => ?_⟩) fun u s1 hh => ?_)⟩
  · cases x with
    | ref a => obtain ⟨C, d, v, z⟩ := z; exact ⟨a, C, d, v, rfl, z⟩
    | _ => exact z.elim
  · obtain ⟨_, H1, I1, rx, a, C, d, v, rfl, T, h1, h2, q⟩ := hh
    cases rx
    obtain ⟨o, od, mA, J, hns, hr, ho⟩ := inst_of I1 h1 h2
    obtain ⟨od', ho', hl⟩ := lookIn_ns hns
    rw [ho] at ho'
    cases ho'
    have l : List.lookup fl [(fl, v)] = some v := by simp [List.lookup]
    obtain ⟨u, hu, ru⟩ := RelO.some_of (v := v) (o := mA fl) (by rw [← l]; exact hr fl)
    exact HandSPX.exc_get I1.kIn J T.ga T.gg T.exC (PySem.W.findObj_own T.hd T.nf rfl (by rw [hl, hu])) (handed_of ru) ⟨v, H1, I1.tok _, ru, q⟩
/-- isinstance(x, C'), x None or a kept error -/
def mIsiE (K : PySem.W.Frag) : List V → Hp → VK → Prop := fun xs H Q => match xs with
  | [.ref a, .ref C'] => ∃ (C d : Addr) (fl : Str) (fs : List (Str × V)) (b : Bool), ExcK K fl C ∧ H a = some (exk a (.ref C) (some d)) ∧ H d = some (.xd fs) ∧ PySem.W.kitOne K (.ref C) (.ref C') = some b ∧ Q (.bl b) H
  | _ => mIsi K xs H Q
theorem call_isiE : CallR X (.builtin "isinstance") (mIsiE X.K) := by
  intro pins s σ H xs us Q I r h
  unfold mIsiE at h
  split at h
  · rename_i a C'
    obtain ⟨C, d, fl, fs, b, T, h1, h2, hk, q⟩ := h
    cases r with
    | cons rx rr => cases rr with
      | cons rt rr =>
        cases rr; cases rx; cases rt
        obtain ⟨o, od, mA, J, _⟩ := inst_of I h1 h2
        obtain ⟨cd, hcd, _⟩ := PySem.W.any_some T.hd
        exact PySem.W.kia_one (PySem.W.kitx_exc (by rw [hcd]; rfl) T.ga T.gg T.exC T.ha T.hn T.ht T.hm) I.kIn J hk (fun z => nomatch z) fun tk => ⟨.bl b, H, I.kept (t' := tk) fun _ _ z => z, rfl, q⟩
  · exact call_isiM pins s σ H xs us Q I r h
end
end M

/-! ### the law's end for such defs -/
namespace M
open PySem PySem.Spec PyProof.Rows L2
section
variable {P : Program} {w : World} {K : PySem.W.Frag} {mg mb : Str → Option Value} {CX : CXT} {k : Nat} {fa a : Addr} {fd : FuncData} {x : Str} {sp : Sp} {s₁ : Shared} {vs : List Value} {ns : List Int}
/-- all but what H tracks is the ground -/
theorem ground_of {H : Hp} (KX : K.In s₁.heap) (hns : s₁.heap.Ns mainGlobals mg) (hb : s₁.heap.Ns builtinsNs mb) (hbb : ∀ x : Str, x ≠ "__name__" → mb x = bootBuiltins x) (hlim : s₁.heap.NoLimit) (hg : s₁.gens = #[])
    (hok : HOk P w H s₁.heap) (noD : ∀ b o es ep, s₁.heap.get? b = some o → o.data = .dict es ep → H b = none) (noK : ∀ b o, K.lookup b = some o → H b = none) :
    K.In (hidT s₁.heap H) ∧ (hidT s₁.heap H).Ns mainGlobals mg ∧ Env0 P w K mg (hidT s₁.heap H) callerA [] s₁ H := by
  have names : ∀ {b : Addr} {m : Str → Option Value}, s₁.heap.Ns b m → (hidT s₁.heap H).Ns b m := by
    rintro b m ⟨o, es, ep, e, d, r⟩
    exact ⟨o, es, ep, hidT_get e (noD b o es ep e d), d, r⟩
  have kin : K.In (hidT s₁.heap H) := fun b o e => hidT_get (KX b o e) (noK b o e)
  obtain ⟨mc, l1, l2⟩ := hlim
  refine ⟨kin, names hns, rfl, ⟨kin, names hns, ⟨mb, names hb, hbb⟩, mc, names l1, l2⟩, fun b o e => of_hidT e, Nat.le_of_eq (hidT_size _ _), trivial, fun b z => ?_, hok, .of_eq hg⟩
  cases z
theorem law_runG {H : Hp} (F : FnG P w K mg (hidT s₁.heap H) CX k fa fd [x] sp) (hr : RoomG k callerA) (e0 : Env0 P w K mg (hidT s₁.heap H) callerA [] s₁ H) (hbind : ∀ (s : Shared) (u : Value), BindsTo s fd ⟨[u], []⟩ [(x, u)]) (hO : Only H)
    (hsp : sp [.ref a] H (fun v _ => v = .bl true) fun _ _ _ => False) (hCX : ∀ H e s', CX [] H s₁ (fun _ _ _ => False) e s' → False) :
    codeAny (model P w) callerA (.call (.ref fa) ⟨[.ref a], []⟩) (fun r s' => r = .ok (.ret (.bool true)) ∧ OldK s₁.heap s'.heap ∧ s'.os = s₁.os ∧ AllBare s'.gens) s₁ := by
  refine codeAny_mono (F.run callerA [] s₁ H ⟨[.ref a], []⟩ [.ref a] [.ref a] _ _ hr e0 (hbind s₁ (.ref a)) (.cons rfl .nil) hsp) fun r s' h => ?_
  rcases r with e | fl
  · exact (hCX H e s' h).elim
  rcases fl with _ | _ | _ | u
  all_goals first | exact False.elim h | skip
  obtain ⟨v, H', os, bare, un, hok', rv, q⟩ := h
  cases (show v = .bl true from q)
  cases (show u = Value.bool true from rv)
  refine ⟨rfl, OldK.of_keep fun b o e => ?_, os, bare⟩
  rcases hO b with z | ⟨ob, xs, z⟩
  · exact un.keep b o e z (fun y => by cases y) (fun y => by cases y)
  · have e1 := (e0.hok b _ z).1
    have e2 := (hok' b _ (un.frzs b ob _ z)).1
    rw [e] at e1
    cases e1
    exact e2
theorem law_callG (KX : K.In s₁.heap) (hns : s₁.heap.Ns mainGlobals mg) (hb : s₁.heap.Ns builtinsNs mb) (hbb : ∀ x : Str, x ≠ "__name__" → mb x = bootBuiltins x) (hlim : s₁.heap.NoLimit) (hg : s₁.gens = #[])
    (ha : s₁.heap.get? a = some { cls := .type "list", data := .seq vs.toArray }) (hi : IntsAre vs ns) (hl : ns.length ≤ sizeLine) (hr : RoomG k callerA)
    (F : ∀ base : Heap, K.In base → base.Ns mainGlobals mg → FnG P w K mg base CX k fa fd [x] sp) (hbind : ∀ (s : Shared) (u : Value), BindsTo s fd ⟨[u], []⟩ [(x, u)])
    (hsp : ∀ H : Hp, Only H → SqL K H a (ns.map V.int) → sp [.ref a] H (fun v _ => v = .bl true) fun _ _ _ => False)
    (hCX : ∀ H e s', CX [] H s₁ (fun _ _ _ => False) e s' → False) :
    codeAny (model P w) callerA (.call (.ref fa) ⟨[.ref a], []⟩) (fun r s' => r = .ok (.ret (.bool true)) ∧ OldK s₁.heap s'.heap ∧ s'.os = s₁.os ∧ AllBare s'.gens) s₁ := by
  have go : ∀ H : Hp, Only H → SqL K H a (ns.map V.int) → HOk P w H s₁.heap → (∀ b, b ≠ a → H b = none) → (∀ o, K.lookup a = some o → H a = none) →
      codeAny (model P w) callerA (.call (.ref fa) ⟨[.ref a], []⟩) (fun r s' => r = .ok (.ret (.bool true)) ∧ OldK s₁.heap s'.heap ∧ s'.os = s₁.os ∧ AllBare s'.gens) s₁ := by
    intro H hO hS hok oth own
    obtain ⟨kin, nm, e0⟩ := ground_of KX hns hb hbb hlim hg hok (fun b o es ep e d => oth b fun z => by rw [z, ha] at e; cases e; cases d) fun b o e => by
      by_cases z : b = a
      · subst z; exact own o e
      · exact oth b z
    exact law_runG (F _ kin nm) hr e0 hbind hO (hsp H hO hS) hCX
  have rv := vals_ints hi
  cases hk : K.lookup a with
  | some o =>
    have e := KX a o hk
    rw [ha] at e
    cases e
    exact go (fun _ => none) (fun _ => .inl rfl) (.inr ⟨_, vs.toArray, _, hk, rfl, rfl, rfl, by rw [List.size_toArray, hi.length]; exact hl, by simpa using rv⟩) (fun b u z => nomatch (show (none : Option HO) = some u from z)) (fun _ _ => rfl) fun _ _ => rfl
  | none =>
    refine go (upd (fun _ => none) a (.frz { cls := .type "list", data := .seq vs.toArray } (.lst (ns.map V.int)))) (fun b => ?_) (.inl (.inr ⟨_, upd_same⟩)) (fun b u z => ?_) (fun b h => upd_ne h) fun o z => by rw [hk] at z; cases z
    · by_cases h : b = a
      · subst h; exact .inr ⟨_, _, upd_same⟩
      · exact .inl (upd_ne h)
    · by_cases h : b = a
      · subst h
        rw [upd_same] at z
        cases z
        exact ⟨ha, by rw [List.length_map]; exact hl, vs, _, rv, ha⟩
      · rw [upd_ne h] at z
        cases z
end
theorem walk_ofG {l : PySem.W.OpenLaw} {n k : Nat} {q : Program} {loose : List Str} {XP : (Str → Option Value) → Heap → Prop} {YP : World → Heap → Prop} {d : DefRec} {CX : CXT} {x : Str}
    (hn : l.most = some n) (hn2 : n ≤ sizeLine) (hdf : d.params.defaults = []) (hr : RoomG k callerA)
    (F : ∀ (w : World) (mg : Str → Option Value) (fa : Addr) (h : Heap), YP w h → h.Ns mainGlobals mg → mg d.name = some (.ref fa) →
      ∃ (K : PySem.W.Frag) (fd : FuncData) (sp : Sp), K.In h ∧ (∀ (s : Shared) (u : Value), BindsTo s fd ⟨[u], []⟩ [(x, u)]) ∧
        (∀ (H : Hp) (a : Addr) (ns : List Int), ns.length ≤ n → Only H → SqL K H a (ns.map V.int) → sp [.ref a] H (fun v _ => v = .bl true) fun _ _ _ => False) ∧
        ∀ base : Heap, K.In base → base.Ns mainGlobals mg → FnG l.prog w K mg base CX k fa fd [x] sp)
    (hCX : ∀ (H : Hp) (s : Shared) (e : Value) (s' : Shared), CX [] H s (fun _ _ _ => False) e s' → False) :
    PySem.W.WalkO q loose XP YP l.row.toRowW d [] (fun f vs => PySem.call f vs) := by
  refine Att.attach_call hn hdf fun w s₀ s₁ mg mb fa o pm cd doc a vs ns G Y ho hd hcd hmg hobj hints hlen hg => ?_
  obtain ⟨K, fd, sp, KX, hb, hsp, hF⟩ := F w mg fa _ Y G.T.g hmg
  exact law_callG KX G.T.g G.T.b G.T.builtins G.T.nolimit hg hobj hints (Nat.le_trans hlen hn2) hr hF hb (fun H hO hS => hsp H a ns hlen hO hS) fun H e s' => hCX H s₁ e s'
end M

/-! ### the head's facts, own errors among them -/
namespace M
open PySem PySem.Spec PyProof.Rows L2
/-- a def, its closure's names told -/
structure DefX where
  at_ : Str × Option Str
  name : Str
  qual : Str
  params : Arguments
  body : List Stmt
  scope : Scope
  dfl : List He.Dv := []
  kwd : List (Str × He.Dv) := []
  clos : List Str := []
abbrev FnX : Type := Option (Str × Str × Arguments × FuncBody × Scope × Addr × List Str × Addr)
def fnX (K : PySem.W.Frag) (p : Str × Option Str) : FnX := match K.lookup (He.fAd K p) with
  | some ⟨_, _, .func fd, _⟩ => some (fd.name, fd.qualname, fd.params, fd.body, fd.scope, fd.globals, fd.closure.map (·.1), fd.builtins)
  | _ => none
def DefX.val (d : DefX) : FnX := some (d.name, d.qual, d.params, .stmts d.body, d.scope, mainGlobals, d.clos, builtinsNs)
def DefX.dvs (K : PySem.W.Frag) (d : DefX) : List V := d.dfl.map (He.Dv.v K)
def DefX.kws (K : PySem.W.Frag) (d : DefX) : List (Str × V) := d.kwd.map fun q => (q.1, q.2.v K)
def DefX.ok (K : PySem.W.Frag) (d : DefX) : Bool := PySem.W.keepIn K (.ref (He.fAd K d.at_)) && (match K.lookup (He.fAd K d.at_) with
  | some ⟨_, _, .func fd, _⟩ => PySem.W.codeIn K fd.code d.qual && (He.dflB K fd.defaults (d.dvs K) && He.kwdB K fd.kwdefaults (d.kws K))
  | _ => false)
theorem DefX.look {K : PySem.W.Frag} {d : DefX} (e : fnX K d.at_ = d.val) (c : d.ok K = true) : PySem.W.keepIn K (.ref (He.fAd K d.at_)) = true ∧ ∃ (oc : Value) (od : Option Addr) (cl : List (Str × Addr)) (dV kV doc pm : Value) (an : Option Addr) (cdv ct : Value) (osl : Array (Option Value)),
    K.lookup (He.fAd K d.at_) = some ⟨oc, od, .func (PySem.W.fnX d.name d.qual d.params d.body d.scope cl dV kV doc pm an cdv ct), osl⟩ ∧ cl.map (·.1) = d.clos ∧ PySem.W.codeIn K cdv d.qual = true ∧ DflV K dV (d.dvs K) ∧ KwdV K kV (d.kws K) := by
  obtain ⟨kp, c2⟩ := He.ba c
  refine ⟨kp, ?_⟩
  unfold M.fnX at e
  cases q : K.lookup (He.fAd K d.at_) with
  | none =>
    rw [q] at c2
    cases c2
  | some o =>
    obtain ⟨oc, od, dt, osl⟩ := o
    rw [q] at c2 e
    cases dt with
    | func fd =>
      obtain ⟨n1, n2, n3, n4, n5, n6, n7, n8, n9, n10, n11, n12, n13, n14, n15⟩ := fd
      have e2 : (some (n1, n2, n3, n4, n5, n6, n7.map (·.1), n15) : FnX) = some (d.name, d.qual, d.params, .stmts d.body, d.scope, mainGlobals, d.clos, builtinsNs) := e
      simp only [Option.some.injEq, Prod.mk.injEq] at e2
      obtain ⟨h1, h2, h3, h4, h5, h6, h7, h8⟩ := e2
      subst h1 h2 h3 h4 h5 h6 h8
      obtain ⟨k1, k2⟩ := He.ba (show (PySem.W.codeIn K n13 d.qual && (He.dflB K n8 (d.dvs K) && He.kwdB K n9 (d.kws K))) = true from c2)
      obtain ⟨k3, k4⟩ := He.ba k2
      exact ⟨oc, od, n7, n8, n9, n10, n11, n12, n13, n14, osl, rfl, h7, k1, He.dflB_ok k3, He.kwdB_ok k4⟩
    | _ => cases c2
theorem DefX.funD {K : PySem.W.Frag} {d : DefX} (e : fnX K d.at_ = d.val) (c : d.ok K = true) (h : d.clos = []) : ∃ fd, FunD K d.name d.qual d.params d.body d.scope (d.dvs K) (d.kws K) (He.fAd K d.at_) fd := by
  obtain ⟨kp, oc, od, cl, dV, kV, doc, pm, an, cdv, ct, osl, lk, hc, h1, h2, h3⟩ := DefX.look e c
  rw [h] at hc
  obtain rfl : cl = [] := List.map_eq_nil_iff.mp hc
  exact ⟨_, ⟨oc, od, dV, kV, doc, pm, an, cdv, ct, osl, rfl, lk, h1, h2, h3⟩, kp⟩
abbrev FaX : Type := PySem.W.Frag → Bool
def asX (g : Addr → Option Obj) : Nat → List Addr
  | 0 => [mainGlobals, cStatics]
  | n + 1 => He.growD g (asX g n)
abbrev AlX : Type := Bool × List FnX
def obsX (fa : List FaX) (fn : List DefX) (K : PySem.W.Frag) : AlX := ((fa.all fun f => f K) && fn.all fun d => d.ok K, fn.map fun d => fnX K d.at_)
def valX (fn : List DefX) : AlX := (true, fn.map DefX.val)
def SaysX (fa : List FaX) (fn : List DefX) (K : PySem.W.Frag) : Prop := obsX fa fn K = valX fn
def obsXG (n : Nat) (fa : List FaX) (fn : List DefX) (g : Addr → Option Obj) : AlX := obsX fa fn (He.frG g (asX g n))
def hookX (n : Nat) (fa : List FaX) (fn : List DefX) : PySem.W.Hook where
  α := AlX
  obs := fun s => obsXG n fa fn s.heap.get?
  val := fun _ => valX fn
  says := fun _ h => ∃ K : PySem.W.Frag, K.In h ∧ SaysX fa fn K
  of := fun _ _ e => ⟨_, He.frG_in, e⟩
  keeps := fun _ _ _ ⟨K, hK, c⟩ k => ⟨K, PySem.W.Frag.In.keeps hK k, c⟩
theorem obsXG_eq {n : Nat} {fa : List FaX} {fn : List DefX} {g : Addr → Option Obj} {s : Shared} (h : ∀ a, g a = s.heap.get? a) : obsXG n fa fn g = (hookX n fa fn).obs s := by
  have e : g = s.heap.get? := funext h
  rw [e] <;> rfl
section
variable {fa : List FaX} {fn : List DefX} {K : PySem.W.Frag}
theorem SaysX.fact (c : SaysX fa fn K) (i : Nat) {f : FaX} (h : fa[i]? = some f := by rfl) : f K = true := by
  have c1 := (He.ba (show ((fa.all fun f => f K) && fn.all fun d => d.ok K) = true from congrArg (fun z : AlX => z.1) c)).1
  exact List.all_eq_true.mp c1 f (List.mem_of_getElem? h)
theorem SaysX.def0 (c : SaysX fa fn K) (i : Nat) {d : DefX} (h : fn[i]? = some d := by rfl) : fnX K d.at_ = d.val ∧ d.ok K = true := by
  have c2 := (He.ba (show ((fa.all fun f => f K) && fn.all fun d => d.ok K) = true from congrArg (fun z : AlX => z.1) c)).2
  have e : fn.map (fun d => fnX K d.at_) = fn.map DefX.val := congrArg (fun z : AlX => z.2) c
  have e2 : (fn.map fun d => fnX K d.at_)[i]? = (fn.map DefX.val)[i]? := by rw [e]
  rw [List.getElem?_map, List.getElem?_map, h] at e2
  exact ⟨Option.some.inj e2, List.all_eq_true.mp c2 d (List.mem_of_getElem? h)⟩
theorem SaysX.def_ (c : SaysX fa fn K) (i : Nat) {d : DefX} (h : fn[i]? = some d := by rfl) (hc : d.clos = [] := by rfl) : ∃ fd, FunD K d.name d.qual d.params d.body d.scope (d.dvs K) (d.kws K) (He.fAd K d.at_) fd :=
  DefX.funD (c.def0 i h).1 (c.def0 i h).2 hc
end
end M

namespace M
open PySem PySem.Spec PyProof.Rows L2 PySem.HandSPX
/-- the class at C is an own error class -/
def oexB (K : PySem.W.Frag) (C : Addr) : Bool := match K.lookup C with
  | some ⟨c, _, .cls cd, sl⟩ => decide (c = .type "type") && (cd.hasDict && (!cd.hasDel && (match cd.mro, sl.toList with
    | .ref C' :: bm, [_, _, _, _, some (.builtin n), _] => decide (C' = C) && (decide (n = "ValueError.__new__") && refsVE bm)
    | _, _ => false)))
  | _ => false
theorem oexB_ok {K : PySem.W.Frag} {C : Addr} (h : oexB K C = true) : ∃ nm q N bs bm sn sub ab col dd k0 k1 k2 k3 k5, K.lookup C = some (excClassObj nm q C N bs bm true sn sub ab col dd k0 k1 k2 k3 k5 "ValueError.__new__") ∧ refsVE bm = true := by
  unfold oexB at h
  split at h
  · rename_i c dd cd sl ho
    obtain ⟨h1, h⟩ := He.ba h
    obtain ⟨h2, h⟩ := He.ba h
    obtain ⟨h3, h⟩ := He.ba h
    split at h
    · rename_i C' bm k0 k1 k2 k3 n k5 hm hs
      obtain ⟨h4, h⟩ := He.ba h
      obtain ⟨h5, h6⟩ := He.ba h
      obtain ⟨nm, bs, mro, N, qn, hd, sn, sub, ab, col, del⟩ := cd
      obtain ⟨sl⟩ := sl
      have e3 : del = false := by simpa using h3
      have e2 : hd = true := h2
      have e1 := of_decide_eq_true h1
      have e4 := of_decide_eq_true h4
      have e5 := of_decide_eq_true h5
      dsimp only at hm hs
      subst e1 e2 e3 e4 e5 hm hs
      exact ⟨nm, qn, N, bs, bm, sn, sub, ab, col, dd, k0, k1, k2, k3, k5, ho, h6⟩
    · cases h
  · cases h
def cellB (P : Program) (K : PySem.W.Frag) (C : Addr) (f : Addr) : Bool := match K.lookup f with
  | some ⟨_, _, .func fd, _⟩ => (match fd.code with
    | .ref cda => (match K.lookup cda with
      | some ⟨_, _, .fields vs, _⟩ => (match (vs[2]? : Option Value) with
        | some (.str file _) => (P.main.file : Str) == file
        | _ => false)
      | _ => false)
    | _ => false) && (match fd.closure with
      | [(_, cc)] => (match K.lookup cc with
        | some ⟨_, _, .cell (some (.ref D)), _⟩ => decide (D = C)
        | _ => false)
      | _ => false)
  | _ => false
def exB (P : Program) (x fl : Str) (K : PySem.W.Frag) : Bool :=
  He.eqO (PySem.W.nsIn K mainGlobals x) (some (some (.ref (He.ga K x)))) && (oexB K (He.ga K x) && (He.eqO (PySem.W.findIn K (.ref (He.ga K x)) "__setattr__") (some (some (.builtin "object.__setattr__"))) &&
  (decide (PySem.W.subIn K (.ref (He.ga K x)) (.type "BaseException") = some true) && (decide (PySem.W.typeIn K (.ref (He.ga K x)) = some (.type "type")) && (PySem.W.keepIn K (.ref (He.ga K x)) &&
  (He.eqO (PySem.W.findIn K (.ref (He.ga K x)) "__getattribute__") (some (some (.builtin "BaseException.__getattribute__"))) && (He.eqO (PySem.W.findIn K (.ref (He.ga K x)) "__getattr__") (some none) && (He.eqO (PySem.W.findIn K (.ref (He.ga K x)) fl) (some none) &&
  (PySem.W.hasDictIn K (He.ga K x) && (He.eqO (PySem.W.findIn K (.ref (He.ga K x)) "__init__") (some (some (.ref (He.ma K (He.ga K x) "__init__")))) && (decide (PySem.W.typeIn K (.ref (He.ma K (He.ga K x) "__init__")) = some (.type "function")) &&
  (cellB P K (He.ga K x) (He.ma K (He.ga K x) "__init__") && (He.eqO (PySem.W.nsIn K cStatics "thirdparty.any") (some none) && (He.eqO (PySem.W.ks_superIn K (He.ga K x) (He.ga K x) "__init__") (some (some (.builtin "ValueError.__init__"))) &&
  (decide (PySem.W.mroIn K (He.ga K x) (.ref (He.ga K x)) = some true) && (decide (PySem.W.subIn K (.ref (He.ga K x)) (.type "ValueError") = some true) && (He.eqO (PySem.W.findIn K (.ref (He.ga K x)) "__class__") (some (some (.builtin "object.__class__"))) &&
  (He.eqO (PySem.W.nsIn K mainGlobals "super") (some none) && decide (PySem.W.mroIn K (He.ga K x) (.type "object") = some true)))))))))))))))))))
theorem ex_get {K : PySem.W.Frag} : PySem.W.specialIn K (.builtin "object.__class__") "__get__" = some (some (.builtin "getset_descriptor.__get__")) ∧ PySem.W.takesIn K (.builtin "object.__class__") = some true := by
  constructor
  · kernel_rfl
  · kernel_rfl
section
variable {P : Program} {w : World} {K : PySem.W.Frag} {h : Heap} {mg : Str → Option Value} {x fl : Str}
theorem cell_of {C f : Addr} {oc : Value} {od : Option Addr} {osl : Array (Option Value)} {fd : FuncData} (lk : K.lookup f = some ⟨oc, od, .func fd, osl⟩) (c : cellB P K C f = true) :
    (∃ (cda : Addr), fd.code = .ref cda ∧ ∃ (ccl : Value) (cdd : Option Addr) (vs : Array Value) (ccs : Array (Option Value)) (file : Str) (tf : Tok), K.lookup cda = some ⟨ccl, cdd, .fields vs, ccs⟩ ∧ vs[2]? = some (.str file tf) ∧ ((P.main.file : Str) == file) = true) ∧
    ∃ (n : Str) (cc : Addr), fd.closure = [(n, cc)] ∧ ∃ (cl : Value) (cld : Option Addr) (csl : Array (Option Value)), K.lookup cc = some ⟨cl, cld, .cell (some (.ref C)), csl⟩ := by
  unfold cellB at c
  rw [lk] at c
  obtain ⟨c1, c2⟩ := He.ba c
  constructor
  · split at c1
    · rename_i cda e1
      split at c1
      · rename_i ccl cdd vs ccs e2
        split at c1
        · rename_i file tf e3
          exact ⟨cda, e1, ccl, cdd, vs, ccs, file, tf, e2, e3, c1⟩
        · cases c1
      · cases c1
    · cases c1
  · split at c2
    · rename_i n cc e1
      split at c2
      · rename_i cl cld D csl e2
        have e := of_decide_eq_true c2
        subst e
        exact ⟨n, cc, e1, cl, cld, csl, e2⟩
      · cases c2
    · cases c2
theorem ex_of {q : List Pos} {d : DefX} {ar : Arg} (X : K.In h) (G : h.Ns mainGlobals mg) (c : exB P x fl K = true) (D : fnX K d.at_ = d.val ∧ d.ok K = true) (hat : d.at_ = (x, some ("__init__" : Str))) (hn : d.name = "__init__") (hcl : d.clos = [("__class__" : Str)]) (hdf : d.dfl = [.non])
    (hb : d.body = eiB fl q) (hp : (d.params.posonlyargs ++ d.params.args).head? = some ar) (har : ar.arg = "self") (hsf : fl ≠ "self") (hdb : (fl == ("__debug__" : Str)) = false)
    (k1 : d.scope.kind = .function) (k2 : d.scope.isGenerator = false) (k3 : d.scope.isCoroutine = false) (k4 : d.scope.names.lookup ("self" : Str) = some .local) (k5 : d.scope.names.lookup fl = some .local) (k6 : d.scope.names.lookup ("super" : Str) = some .globalImplicit)
    (k7 : d.scope.names.lookup ("__class__" : Str) = some .free) (k8 : ∀ x ∈ d.scope.names, x.2 ≠ .cell) (htop : (P.main.scope.names.lookup ("super" : Str)).isSome = false)
    (hint : ∀ env : Env, env.scope = d.scope → interactive env = false)
    (hev : ∀ env : Env, env.scope = d.scope → ∃ pl : Sem Bool, eval (.Call (.Attribute (.Call (.Name "super" (qp q 0)) [] [] (qp q 1)) "__init__" (qp q 2)) [.Name fl (qp q 3)] [] (qp q 4)) env = (do
      let ov ← attributeBase (.Call (.Name "super" (qp q 0)) [] [] (qp q 1)) "__init__" env (eval (.Call (.Name "super" (qp q 0)) [] [] (qp q 1)) env)
      standAt (qp q 2).atName
      let (f, first) ← holding [ov] (getMethod ov "__init__" pl)
      callWith (qp q 4) f first (backTo (qp q 4) (starEach [.Name fl (qp q 3)] env)) []))
    (hsw : ∀ env : Env, env.scope = d.scope → swapsWith (.Name fl (qp q 8)) (some (.Attribute (.Name "self" (qp q 6)) fl (qp q 7))) (qp q 9).line env = pure false)
    (hb2 : ∀ (T : Addr) (cl : List (Str × Addr)) (kV doc pm : Value) (an : Option Addr) (cdv ct u v : Value), ∃ k, bindArgs (PySem.W.fnX d.name d.qual d.params d.body d.scope cl (.ref T) kV doc pm an cdv ct) ⟨[u, v], []⟩ = seqItems? (.ref T) >>= k ∧ k (some #[.none]) = pure [(("self" : Str), u), (fl, v)])
    (hb1 : ∀ (T : Addr) (cl : List (Str × Addr)) (kV doc pm : Value) (an : Option Addr) (cdv ct u : Value), ∃ k, bindArgs (PySem.W.fnX d.name d.qual d.params d.body d.scope cl (.ref T) kV doc pm an cdv ct) ⟨[u], []⟩ = seqItems? (.ref T) >>= k ∧ k (some #[.none]) = pure [(("self" : Str), u), (fl, .none)])
    (hbk : ∀ (T : Addr) (cl : List (Str × Addr)) (kV doc pm : Value) (an : Option Addr) (cdv ct u v : Value), ∃ k, bindArgs (PySem.W.fnX d.name d.qual d.params d.body d.scope cl (.ref T) kV doc pm an cdv ct) ⟨[u], [(fl, v)]⟩ = seqItems? (.ref T) >>= k ∧ k (some #[.none]) = pure [(("self" : Str), u), (fl, v)]) :
    ExcAt P w K mg x fl (He.ga K x) ∧ ExcK K fl (He.ga K x) := by
  unfold exB at c
  simp only [Bool.and_eq_true, decide_eq_true_eq] at c
  obtain ⟨c1, c2, c3, c4, c5, c6, c7, c8, c9, c10, c11, c12, c13, c14, c15, c16, c17, c18, c19, c20⟩ := c
  have T : OexC K (He.ga K x) := ⟨oexB_ok c2, He.eqO_ok c3, c4, c5, c6⟩
  have hsup := PySem.W.mg_none_of X G (He.eqO_ok c19)
  obtain ⟨_, oc, od, cl, dV, kV, doc, pm, an, cdv, ct, osl, lk, hc, hcode, hD, _⟩ := DefX.look D.1 D.2
  have hf : He.fAd K d.at_ = He.ma K (He.ga K x) "__init__" := by rw [hat]; rfl
  rw [hf] at lk
  obtain ⟨⟨cda, e1, z1⟩, n, cc, e2, z2⟩ := cell_of lk c13
  obtain rfl : cdv = .ref cda := e1
  obtain rfl : cl = [(n, cc)] := e2
  rw [hcl] at hc
  obtain rfl : n = "__class__" := by simpa using hc
  have hdv : d.dvs K = [.non] := by unfold DefX.dvs; rw [hdf]; rfl
  rw [hdv] at hD
  rcases hD with ⟨z, _⟩ | ⟨_, Ta, oT, its, nT, rfl, lT, hT, rT⟩
  · cases z
  obtain ⟨u0, rfl, ru⟩ := vals_one rT
  obtain rfl : u0 = .none := ru
  have bnd : ∀ {args : Args} {r : List (Str × Value)}, (∃ k, bindArgs (PySem.W.fnX d.name d.qual d.params d.body d.scope [("__class__", cc)] (.ref Ta) kV doc pm an (.ref cda) ct) args = seqItems? (.ref Ta) >>= k ∧ k (some #[.none]) = pure r) → ∀ s : Shared, K.In s.heap →
      BindsTo s (PySem.W.fnX d.name d.qual d.params d.body d.scope [("__class__", cc)] (.ref Ta) kV doc pm an (.ref cda) ct) args r := by
    rintro args r ⟨k, e1, e2⟩ s KX
    refine BindsTo.of_looks fun M => ?_
    rw [e1]
    exact looks_items KX lT hT (.of_pure e2)
  refine ⟨⟨PySem.W.mg_of X G (He.eqO_ok c1), T, He.eqO_ok c7, He.eqO_ok c8, He.eqO_ok c9, c10, He.ma K (He.ga K x) "__init__", _, He.eqO_ok c11, c12, ?_, fun s u v KX => bnd (hb2 _ _ _ _ _ _ _ _ _ _) s KX, fun s u KX => bnd (hb1 _ _ _ _ _ _ _ _ _) s KX, fun s u v KX => bnd (hbk _ _ _ _ _ _ _ _ _ _) s KX⟩,
    ⟨He.eqO_ok c7, He.eqO_ok c8, He.eqO_ok c9, c10, c4, He.eqO_ok c18, ex_get.1, ex_get.2, c20⟩⟩
  intro A R s args x' t0 v KX lim Gs Bs hx hnx hroom hbind hq
  obtain ⟨mb, B1, B2⟩ := Bs
  rw [hn, hb] at lk hbind
  exact ini_run (mg := mg) (mb := mb) KX lim Gs B1 hsup ((B2 _ (by decide)).trans ve_slot) T (He.eqO_ok c9) lk hcode z1 z2 hp har hsf hdb k1 k2 k3 k4 k5 k6 k7 k8 htop (He.eqO_ok c14) (He.eqO_ok c15) c16 c17 hint hev hsw hx hnx hroom hbind hq
end
end M

namespace M
open PySem PySem.Spec PyProof.Rows L2
section
variable {X : Cx} {k : Nat} {ps : List Str} {sp : Sp} {dvs : List V} {W : WX} {x : Str} {p pos : Pos} {e : Expr} {es : List Expr} {t : TA}
theorem me_callS (C : CalG X.prog X.w X.K X.mg X.base (L2.CX X.prog X.w) x k ps dvs sp) (hr : RoomG k X.A) (hg : Gl X x) (tk : Takes X W) (ha : PA X (e :: es) t) (hdb : (x == ("__debug__" : Str)) = false := by decide)
    (he : starEach (e :: es) X.env = (false, eval e X.env) :: starEach es X.env := by rfl) (hpl : (backTo pos (starEach es X.env)).any (·.1) = false := by rfl) : PE X (.Call (.Name x p) (e :: es) [] pos) (tCallSD sp dvs (WE W) t) := by
  obtain ⟨f, fd, ds, F, hm, hk, hb, hd⟩ := C.ex
  refine ⟨fun pins s σ H Q I h => wpAny_Call_Name_kw (ld_glob I hg hm (PySem.W.callWith_K (h₀ := X.base) I.ok.mod.kin hk (thn (ha.run pos pins s σ H _ I h) fun us s1 ⟨vs, H1, I1, r, q⟩ => ⟨I1.kIn, ?_⟩) he hpl) hdb)⟩
  have r2 : Vals (vs ++ dvs) (us ++ ds) := r.append hd
  refine wpAny_call (codeAny_mono (F.run X.A X.stack s1 H1 ⟨us, []⟩ (us ++ ds) (vs ++ dvs) Q (WE W σ) hr I1.env0 (hb s1 us I1.kIn (r2.length.symm.trans (F.len _ _ _ _ q))) r2 q) fun r s' hq => ?_)
  rcases r with er | fl
  · exact passAt tk σ pins H1 s1 er s' I1 hq
  · cases fl with
    | ret u => exact I1.after hq
    | next => exact False.elim hq
    | brk => exact False.elim hq
    | cont => exact False.elim hq
theorem me_callG0 {CX : CXT} {E : XK} (C : CalG X.prog X.w X.K X.mg X.base CX x k ps dvs sp) (hr : RoomG k X.A) (hg : Gl X x) (hx : Passes CX X E) (hdb : (x == ("__debug__" : Str)) = false := by decide) : PE X (.Call (.Name x p) [] [] pos) (tCall sp dvs E tNil) := by
  obtain ⟨f, fd, ds, F, hm, hk, hb, hd⟩ := C.ex
  refine ⟨fun pins s σ H Q I h => wpAny_Call_Name_kw (ld_glob I hg hm (PySem.W.callWith_K0 I.kIn hk ?_) hdb)⟩
  refine wpAny_call (codeAny_mono (F.run X.A X.stack s H ⟨[], []⟩ ([] ++ ds) ([] ++ dvs) Q E hr I.env0 (hb s [] I.kIn (hd.length.symm.trans (F.len _ _ _ _ h))) hd h) fun r s' hq => ?_)
  rcases r with er | fl
  · exact hx pins σ H s er s' I hq
  · cases fl with
    | ret u => exact I.after hq
    | next => exact False.elim hq
    | brk => exact False.elim hq
    | cont => exact False.elim hq
theorem CalG.mono {P : Program} {w : World} {K : PySem.W.Frag} {mg : Str → Option Value} {base : Heap} {CX : CXT} {x : Str} {k j : Nat} {ps : List Str} {dvs : List V} {sp : Sp} (C : CalG P w K mg base CX x k ps dvs sp) (h : k ≤ j) : CalG P w K mg base CX x j ps dvs sp := by
  obtain ⟨f, fd, ds, F, r⟩ := C.ex
  exact ⟨f, fd, ds, F.mono h, r⟩
end
end M
namespace M
open PySem PySem.Spec PyProof.Rows L2
/-- no error is wished for: none comes -/
theorem passF {X : Cx} : Passes (L2.CX X.prog X.w) X E0 := fun _ _ _ _ _ _ _ c => by
  obtain ⟨_, _, _, _, _, _, _, _, _, _, _, _, z⟩ := c
  exact z.elim
end M

namespace M
open PySem PySem.Spec PyProof.Rows L2
/-- (a, b, ..) = a tuple or a list -/
def mgSeq (K : PySem.W.Frag) (n : Nat) (t : TGs) : TG := fun v σ H Q => match v with
  | .ref a => ∃ xs, (SqT K H a xs ∨ SqL K H a xs) ∧ xs.length = n ∧ t xs σ H Q
  | _ => False
theorem mg_seq {X : Cx} {es : List Expr} {k : Nat} {t : TGs} {n : Nat} {pos : Pos} (hc : X.calm = true) (h : PGs X es t)
    (hn : (assignEach es X.env).length = n := by rfl) (hst : (assignEach es X.env).findIdx? (·.1) = none := by rfl) : PG X (.Tuple es k pos) (mgSeq X.K n t) := by
  refine ⟨fun pins s σ H v u Q I r q => ?_⟩
  unfold mgSeq at q
  split at q
  · obtain ⟨xs, h1 | h1, h2, h3⟩ := q
    · exact (pg_tup hc h hn hst).run pins s σ H _ u Q I r ⟨_, xs, rfl, h1, h2, h3⟩
    · exact (pg_unl hc h hn hst).run pins s σ H _ u Q I r ⟨_, xs, rfl, h1, h2, h3⟩
  · exact q.elim
end M

/-! ### comprehensions with two clauses; sorted texts -/
namespace M
open PySem PySem.Spec PyProof.Rows L2
section
variable {X : Cx}
/-- sorted(l), l a list of texts of any length -/
def mSorted (K : PySem.W.Frag) : List V → Hp → VK → Prop := fun vs H Q => match vs with
  | [.ref a] => ∃ xs : List Str, SqL K H a (xs.map V.str) ∧ ∀ (ys : List Str) (p : Addr), ys.Perm xs → sortedS ys = true → H p = none → Q (.ref p) (upd H p (.lst (ys.map V.str)))
  | _ => False
theorem call_sortedM : CallR X (.builtin "sorted") (mSorted X.K) := by
  intro pins s σ H vs us Q I r h
  unfold mSorted at h
  split at h
  · rename_i a
    obtain ⟨xs, hs, q⟩ := h
    obtain ⟨its, rv, hl, hz⟩ := I.list hs
    rw [Vals.ref1 r]
    refine PyProof.Rows.sorted_strsAny hl.isList rv.strs (by rw [← rv.length]; exact hz) fun out ys h1 h2 h3 => ?_
    obtain ⟨ep, he'⟩ := PyProof.Rows.sortedAll_at s.heap its out
    have hlen : (ys.map V.str).length ≤ sizeLine := by
      rw [List.length_map, h2.length_eq]
      rw [List.length_map] at hz
      exact hz
    exact ⟨.ref _, upd H (s.heap.objs.size + 1) (.lst (ys.map V.str)), I.laid (t' := s.toks) (fun _ _ => PyProof.Rows.sortedAll_old) (Nat.le_succ _) ⟨hlen, out.toList, ep, vals_of_strs h1, he'⟩, rfl, q ys _ h2 h3 (I.hok.fresh (Nat.le_succ _))⟩
  · exact h.elim
end
/-- what a clause's source hands on -/
def inner (s : Src) (g1 : TG) (tt1 : TT) (te : TE) (vs1 : List Nat) (τ : Sl) (D : Addr) (N : Hp → Prop) (H : Hp) : Prop := match s with
  | .v G L => cV G g1 tt1 te vs1 τ D N L H
  | .p G L => cP G g1 tt1 te vs1 τ D N L H
def dV (G : Hp → Prop) (g : TG) (tt : TT) (wi1 : MI) (g1 : TG) (tt1 : TT) (te : TE) (vs vs1 : List Nat) (τ : Sl) (D : Addr) (Q : Hp → Prop) : List V → Hp → Prop
  | [], H => G H ∧ Q H
  | x :: r, H => G H ∧ g x τ H fun σ2 H2 => wipe σ2 vs = τ ∧ tt σ2 H2 fun b H3 => if b = true then wi1 σ2 H3 fun s H4 => inner s g1 tt1 te vs1 (wipe σ2 vs1) D (dV G g tt wi1 g1 tt1 te vs vs1 τ D Q r) H4 else dV G g tt wi1 g1 tt1 te vs vs1 τ D Q r H3
def dP (G : Hp → Prop) (g : TG) (tt : TT) (wi1 : MI) (g1 : TG) (tt1 : TT) (te : TE) (vs vs1 : List Nat) (τ : Sl) (D : Addr) (Q : Hp → Prop) : List (V × V) → Hp → Prop
  | [], H => G H ∧ Q H
  | x :: r, H => G H ∧ ∀ T, H T = none → g (.ref T) τ (upd H T (.tup [x.1, x.2])) fun σ2 H2 => wipe σ2 vs = τ ∧ tt σ2 H2 fun b H3 => if b = true then wi1 σ2 H3 fun s H4 => inner s g1 tt1 te vs1 (wipe σ2 vs1) D (dP G g tt wi1 g1 tt1 te vs vs1 τ D Q r) H4 else dP G g tt wi1 g1 tt1 te vs vs1 τ D Q r H3
def mLc2 (wi : MI) (g : TG) (tt : TT) (wi1 : MI) (g1 : TG) (tt1 : TT) (te : TE) (vs vs1 : List Nat) : TE := fun σ H Q => wi σ H fun s H1 => ∀ D, H1 D = none → match s with
  | .v G L => dV G g tt wi1 g1 tt1 te vs vs1 (wipe σ vs) D (Q (.ref D)) L (upd H1 D (.lst []))
  | .p G L => dP G g tt wi1 g1 tt1 te vs vs1 (wipe σ vs) D (Q (.ref D)) L (upd H1 D (.lst []))
/-- the second source's own loop, over what feeds -/
theorem inner_W {J : It} {s : Src} (f : Feeds J s) {g1 : TG} {tt1 : TT} {te : TE} {vs1 : List Nat} {σ2 : Sl} {D : Addr} {N : Hp → Prop} {H4 : Hp} (z : inner s g1 tt1 te vs1 (wipe σ2 vs1) D N H4) :
    ∃ W1 : Nat → Nat → Hp → Prop, (∃ m, W1 0 m H4) ∧ ∀ j k H, W1 j k H →
      (J.stop j H ∧ N H) ∨ (J.go j H ∧ ∃ Nx1 : Hp → Prop, (∀ H', Nx1 H' → ∃ k', k' < k ∧ W1 (j + 1) k' H') ∧ ∀ x H', J.yld j H x H' → g1 x (wipe σ2 vs1) H' fun σ3 H5 => wipe σ3 vs1 = wipe σ2 vs1 ∧ tt1 σ3 H5 fun b H6 =>
        if b = true then te σ3 H6 fun y H7 => ∃ acc, H7 D = some (.lst acc) ∧ acc.length < sizeLine ∧ Nx1 (upd H7 D (.lst (acc ++ [y]))) else Nx1 H6) := by
  cases s with
  | v G L =>
    have w : Walk J L.length G (YAt L) := f
    refine ⟨fun i m H => m = L.length - i ∧ i ≤ L.length ∧ cV G g1 tt1 te vs1 (wipe σ2 vs1) D N (L.drop i) H, ⟨_, rfl, Nat.zero_le _, z⟩, ?_⟩
    rintro i m H ⟨rfl, hi, p⟩
    by_cases hlt : i < L.length
    · refine .inr ⟨w.goes i H hlt (cV_G p), fun H' => cV G g1 tt1 te vs1 (wipe σ2 vs1) D N (L.drop (i + 1)) H', fun H' p' => ⟨L.length - (i + 1), by omega, rfl, hlt, p'⟩, fun x H' y => ?_⟩
      obtain ⟨e, hx⟩ := w.yields i H x H' hlt (cV_G p) y
      subst e
      rw [drop_at hx] at p
      exact p.2
    · have e : i = L.length := by omega
      subst e
      refine .inl ⟨w.stops H (cV_G p), ?_⟩
      rw [List.drop_length] at p
      exact p.2
  | p G L =>
    have w : Walk J L.length G (YPair (fun i => L[i]?.map (·.1)) (fun i => L[i]?.map (·.2))) := f
    refine ⟨fun i m H => m = L.length - i ∧ i ≤ L.length ∧ cP G g1 tt1 te vs1 (wipe σ2 vs1) D N (L.drop i) H, ⟨_, rfl, Nat.zero_le _, z⟩, ?_⟩
    rintro i m H ⟨rfl, hi, p⟩
    by_cases hlt : i < L.length
    · refine .inr ⟨w.goes i H hlt (cP_G p), fun H' => cP G g1 tt1 te vs1 (wipe σ2 vs1) D N (L.drop (i + 1)) H', fun H' p' => ⟨L.length - (i + 1), by omega, rfl, hlt, p'⟩, fun x H' y => ?_⟩
      obtain ⟨T, a, b, e1, e2, e3, e4, e5⟩ := w.yields i H x H' hlt (cP_G p) y
      subst e1 e3
      have hx : L[i]? = some L[i] := List.getElem?_eq_getElem hlt
      rw [drop_at hx] at p
      have q := p.2 T e2
      have e4' : L[i]?.map (·.1) = some a := e4
      have e5' : L[i]?.map (·.2) = some b := e5
      rw [hx] at e4' e5'
      cases e4'
      cases e5'
      exact q
    · have e : i = L.length := by omega
      subst e
      refine .inl ⟨w.stops H (cP_G p), ?_⟩
      rw [List.drop_length] at p
      exact p.2
theorem dV_G {G : Hp → Prop} {g : TG} {tt : TT} {wi1 : MI} {g1 : TG} {tt1 : TT} {te : TE} {vs vs1 : List Nat} {τ : Sl} {D : Addr} {Q : Hp → Prop} {L : List V} {H : Hp} (h : dV G g tt wi1 g1 tt1 te vs vs1 τ D Q L H) : G H := by
  cases L <;> exact h.1
theorem dP_G {G : Hp → Prop} {g : TG} {tt : TT} {wi1 : MI} {g1 : TG} {tt1 : TT} {te : TE} {vs vs1 : List Nat} {τ : Sl} {D : Addr} {Q : Hp → Prop} {L : List (V × V)} {H : Hp} (h : dP G g tt wi1 g1 tt1 te vs vs1 τ D Q L H) : G H := by
  cases L <;> exact h.1
def clG (g : TG) : TG := fun v σ H Q => ∃ Q' : Sl → Hp → Prop, g v σ H Q' ∧ ∀ σ' H', Q' σ' H' → Q σ' H'
theorem pg_cl {X : Cx} {e : Expr} {g : TG} (h : PG X e g) : PG X e (clG g) := ⟨fun pins s σ H v u Q I r ⟨Q', q, w⟩ => thn (h.run pins s σ H v u Q' I r q) fun _ _ ⟨σ', H', I', z⟩ => ⟨σ', H', I', w _ _ z⟩⟩
theorem pts_cl {X : Cx} {es : List Expr} {t : TT} (h : PTs X es t) : PTs X es (clT t) := ⟨fun pins s σ H Q I ⟨Q', q, w⟩ => thn (h.run pins s σ H Q' I q) fun _ _ ⟨H', I', z⟩ => ⟨H', I', w _ H' z⟩⟩
theorem lc2_toM {wi : MI} {g : TG} {tt : TT} {wi1 : MI} {g1 : TG} {tt1 : TT} {te : TE} {vs vs1 : List Nat} {σ : Sl} {H : Hp} {Q : VK} (q : mLc2 wi g tt wi1 g1 tt1 te vs vs1 σ H Q) : tLc2 (toTI wi) (clG g) (clT tt) (toTI wi1) g1 tt1 te vs vs1 σ H Q :=
  ⟨_, q, fun s H1 J z f D hD => by
    have z := z D hD
    have nxt : ∀ {N : Hp → Prop} {σ2 : Sl} {H3 : Hp} {b : Bool} (q : if b = true then wi1 σ2 H3 fun s H4 => inner s g1 tt1 te vs1 (wipe σ2 vs1) D N H4 else N H3),
        if b = true then toTI wi1 σ2 H3 fun J1 H4 => ∃ W1 : Nat → Nat → Hp → Prop, (∃ m, W1 0 m H4) ∧ ∀ j k H, W1 j k H →
          (J1.stop j H ∧ N H) ∨ (J1.go j H ∧ ∃ Nx1 : Hp → Prop, (∀ H', Nx1 H' → ∃ k', k' < k ∧ W1 (j + 1) k' H') ∧ ∀ x H', J1.yld j H x H' → g1 x (wipe σ2 vs1) H' fun σ3 H5 => wipe σ3 vs1 = wipe σ2 vs1 ∧ tt1 σ3 H5 fun b H6 =>
            if b = true then te σ3 H6 fun y H7 => ∃ acc, H7 D = some (.lst acc) ∧ acc.length < sizeLine ∧ Nx1 (upd H7 D (.lst (acc ++ [y]))) else Nx1 H6) else N H3 := fun {N σ2 H3 b} q => by
      cases b with
      | false => exact q
      | true => exact ⟨_, q, fun s1 H4 J1 z1 f1 => inner_W f1 z1⟩
    cases s with
    | v G L =>
      have w : Walk J L.length G (YAt L) := f
      refine ⟨fun i m H => m = L.length - i ∧ i ≤ L.length ∧ dV G g tt wi1 g1 tt1 te vs vs1 (wipe σ vs) D (Q (.ref D)) (L.drop i) H, ⟨_, rfl, Nat.zero_le _, z⟩, ?_⟩
      rintro i m H ⟨rfl, hi, p⟩
      by_cases hlt : i < L.length
      · refine .inr ⟨w.goes i H hlt (dV_G p), fun H' => dV G g tt wi1 g1 tt1 te vs vs1 (wipe σ vs) D (Q (.ref D)) (L.drop (i + 1)) H', fun H' p' => ⟨L.length - (i + 1), by omega, rfl, hlt, p'⟩, fun x H' y => ?_⟩
        obtain ⟨e, hx⟩ := w.yields i H x H' hlt (dV_G p) y
        subst e
        rw [drop_at hx] at p
        exact ⟨_, p.2, fun σ2 H2 h => ⟨h.1, _, h.2, fun b H3 h => nxt h⟩⟩
      · have e : i = L.length := by omega
        subst e
        refine .inl ⟨w.stops H (dV_G p), ?_⟩
        rw [List.drop_length] at p
        exact p.2
    | p G L =>
      have w : Walk J L.length G (YPair (fun i => L[i]?.map (·.1)) (fun i => L[i]?.map (·.2))) := f
      refine ⟨fun i m H => m = L.length - i ∧ i ≤ L.length ∧ dP G g tt wi1 g1 tt1 te vs vs1 (wipe σ vs) D (Q (.ref D)) (L.drop i) H, ⟨_, rfl, Nat.zero_le _, z⟩, ?_⟩
      rintro i m H ⟨rfl, hi, p⟩
      by_cases hlt : i < L.length
      · refine .inr ⟨w.goes i H hlt (dP_G p), fun H' => dP G g tt wi1 g1 tt1 te vs vs1 (wipe σ vs) D (Q (.ref D)) (L.drop (i + 1)) H', fun H' p' => ⟨L.length - (i + 1), by omega, rfl, hlt, p'⟩, fun x H' y => ?_⟩
        obtain ⟨T, a, b, e1, e2, e3, e4, e5⟩ := w.yields i H x H' hlt (dP_G p) y
        subst e1 e3
        have hx : L[i]? = some L[i] := List.getElem?_eq_getElem hlt
        rw [drop_at hx] at p
        have q := p.2 T e2
        have e4' : L[i]?.map (·.1) = some a := e4
        have e5' : L[i]?.map (·.2) = some b := e5
        rw [hx] at e4' e5'
        cases e4'
        cases e5'
        exact ⟨_, q, fun σ2 H2 h => ⟨h.1, _, h.2, fun b H3 h => nxt h⟩⟩
      · have e : i = L.length := by omega
        subst e
        refine .inl ⟨w.stops H (dP_G p), ?_⟩
        rw [List.drop_length] at p
        exact p.2⟩
section
variable {X : Cx}
theorem me_lc2 {elt tg iter tg1 iter1 : Expr} {ifs ifs1 : List Expr} {scope : Scope} {own : List (Str × Nat)} {vs1 : List Nat} {pos : Pos} {wi wi1 : MI} {g g1 : TG} {tt tt1 : TT} {te : TE} (hc : X.calm = true) (hN : X.N.Nodup) (hi : PI X tg iter (toTI wi)) (ok : BlkOk X.N X.env.scope scope own) (hv : ∀ i ∈ vs1, i ∈ own.map (·.2))
    (hg : ∀ (s : Shared) (H : Hp) (C : Addr) (cl : List (Str × Addr)) (fp : List Addr), PG (X.blk s H scope (compEnvC scope cl C X.env) fp) tg g) (ht : ∀ (s : Shared) (H : Hp) (C : Addr) (cl : List (Str × Addr)) (fp : List Addr), PTs (X.blk s H scope (compEnvC scope cl C X.env) fp) ifs tt)
    (hi1 : ∀ (s : Shared) (H : Hp) (C : Addr) (cl : List (Str × Addr)) (fp : List Addr), PI (X.blk s H scope (compEnvC scope cl C X.env) fp) tg1 iter1 (toTI wi1))
    (hg1 : ∀ (s : Shared) (H : Hp) (C : Addr) (cl : List (Str × Addr)) (fp : List Addr), PG (X.blk s H scope (compEnvC scope cl C X.env) fp) tg1 g1) (ht1 : ∀ (s : Shared) (H : Hp) (C : Addr) (cl : List (Str × Addr)) (fp : List Addr), PTs (X.blk s H scope (compEnvC scope cl C X.env) fp) ifs1 tt1)
    (he : ∀ (s : Shared) (H : Hp) (C : Addr) (cl : List (Str × Addr)) (fp : List Addr), PE (X.blk s H scope (compEnvC scope cl C X.env) fp) elt te) (hs : ∀ x, foldedSetIterable iter X.env x = pure x := by intro _; rfl) (hs1 : ∀ env x, foldedSetIterable iter1 env x = pure x := by intro _ _; rfl) :
    PE X (.ListComp elt [⟨tg, iter, ifs, 0⟩, ⟨tg1, iter1, ifs1, 0⟩] scope pos) (mLc2 wi g tt wi1 g1 tt1 te (own.map (·.2)) vs1) :=
  pe_imp (pe_lc2 hc hN hi ok hv (fun s H C cl fp => pg_cl (hg s H C cl fp)) (fun s H C cl fp => pts_cl (ht s H C cl fp)) hi1 hg1 ht1 he hs hs1) fun σ H Q q => lc2_toM q
end
end M

namespace M
open PySem PySem.Spec PyProof.Rows L2

/-! ### cuts -/
section
variable {α : Type} (l : List α)
theorem cut_from (i : Nat) : cutL l (some (i : Int)) none = l.drop i := by
  unfold cutL
  rw [HT.sIx_nat, HT.sIx_none]
  by_cases h : i ≤ l.length
  · rw [Nat.min_eq_left h]
    exact List.take_of_length_le (by rw [List.length_drop]; omega)
  · rw [Nat.min_eq_right (by omega), List.drop_length, List.drop_eq_nil_of_le (by omega)]; simp
theorem cut_to (i : Nat) : cutL l none (some (i : Int)) = l.take i := by
  unfold cutL
  rw [HT.sIx_nat, HT.sIx_none, List.drop_zero, Nat.sub_zero]
  by_cases h : i ≤ l.length
  · rw [Nat.min_eq_left h]
  · rw [Nat.min_eq_right (by omega), List.take_length, List.take_of_length_le (by omega)]
theorem cut_mid (i j : Nat) : cutL l (some (i : Int)) (some (j : Int)) = (l.drop i).take (j - i) := by
  unfold cutL
  rw [HT.sIx_nat, HT.sIx_nat]
  by_cases h : i ≤ l.length
  · rw [Nat.min_eq_left h]
    by_cases h2 : j ≤ l.length
    · rw [Nat.min_eq_left h2]
    · rw [Nat.min_eq_right (by omega), List.take_of_length_le (by rw [List.length_drop]; omega), List.take_of_length_le (by rw [List.length_drop]; omega)]
  · rw [Nat.min_eq_right (show l.length ≤ i by omega), List.drop_length, List.drop_eq_nil_of_le (show l.length ≤ i by omega)]; simp
theorem cut_all : cutL l none none = l := by
  unfold cutL
  rw [HT.sIx_none, HT.sIx_none, List.drop_zero, Nat.sub_zero, List.take_length]
theorem sIx_neg (n d k : Nat) (hk : 0 < k) : HT.sIx n d (some (-(k : Int))) = n - k := by
  show (if (-(k : Int)) < 0 then (-(k : Int) + (n : Int)).toNat else _) = _
  rw [if_pos (by omega)]; omega
theorem cut_fromN (k : Nat) (hk : 0 < k) : cutL l (some (-(k : Int))) none = l.drop (l.length - k) := by
  unfold cutL
  rw [sIx_neg _ _ _ hk, HT.sIx_none]
  exact List.take_of_length_le (by rw [List.length_drop]; omega)
theorem cut_toN (k : Nat) (hk : 0 < k) : cutL l none (some (-(k : Int))) = l.take (l.length - k) := by
  unfold cutL
  rw [sIx_neg _ _ _ hk, HT.sIx_none, List.drop_zero, Nat.sub_zero]
theorem cut_midN (i k : Nat) (hk : 0 < k) : cutL l (some (i : Int)) (some (-(k : Int))) = (l.drop i).take (l.length - k - i) := by
  unfold cutL
  rw [sIx_neg _ _ _ hk, HT.sIx_nat]
  by_cases h : i ≤ l.length
  · rw [Nat.min_eq_left h]
  · rw [Nat.min_eq_right (show l.length ≤ i by omega), List.drop_length, List.drop_eq_nil_of_le (show l.length ≤ i by omega)]; simp
end
theorem cut_m3 {α : Type} (l : List α) : cutL l (some (-3)) none = l.drop (l.length - 3) := cut_fromN l 3 (by decide)
theorem cut_t3 {α : Type} (l : List α) : cutL l none (some (-3)) = l.take (l.length - 3) := cut_toN l 3 (by decide)
theorem cut_m1 {α : Type} (l : List α) : cutL l (some (-1)) none = l.drop (l.length - 1) := cut_fromN l 1 (by decide)
theorem cut_t1 {α : Type} (l : List α) : cutL l none (some (-1)) = l.take (l.length - 1) := cut_toN l 1 (by decide)
theorem cut_t2 {α : Type} (l : List α) : cutL l none (some (-2)) = l.take (l.length - 2) := cut_toN l 2 (by decide)
theorem S_def (z : Str) : ∃ l, z = S l := ⟨_, (S_of z).symm⟩
theorem S_eq {a b : List Nat} : (S a = S b) = (a = b) := propext S_inj
theorem szl : (sizeLine : Nat) = 16777216 := sizeLine_eq

/-! ### trees -/
inductive Tr where
  | lf
  | nd (l r : Tr)
  deriving DecidableEq
namespace Tr
def s : Tr → List Nat
  | .lf => [46]
  | .nd l r => 40 :: (l.s ++ (r.s ++ [41]))
def n : Tr → Nat
  | .lf => 0
  | .nd l r => l.n + r.n + 1
theorem s_len : ∀ t : Tr, t.s.length = 3 * t.n + 1
  | .lf => rfl
  | .nd l r => by simp only [s, n, List.length_cons, List.length_append, List.length_nil, s_len l, s_len r]; omega
end Tr

/-! ### is_tree -/
/-- one sign onto the waiting ones -/
def itStep (w : List Nat) (c : Nat) : Option (List Nat) :=
  if c = 41 then (if w.drop (w.length - 3) = [40, 46, 46] then some (w.take (w.length - 3) ++ [46]) else none)
  else if c = 40 ∨ c = 46 then some (w ++ [c]) else none
def itRun : List Nat → List Nat → Option (List Nat)
  | w, [] => some w
  | w, c :: r => (itStep w c).bind fun w' => itRun w' r
def isTr (l : List Nat) : Bool := decide (itRun [] l = some [46])
theorem itRun_app : ∀ (a b w : List Nat), itRun w (a ++ b) = (itRun w a).bind fun w' => itRun w' b
  | [], b, w => rfl
  | c :: a, b, w => by
    show (itStep w c).bind _ = ((itStep w c).bind _).bind _
    cases itStep w c with
    | none => rfl
    | some w' => exact itRun_app a b w'
theorem itRun_tree : ∀ (t : Tr) (w : List Nat), itRun w t.s = some (w ++ [46])
  | .lf, w => by simp [Tr.s, itRun, itStep]
  | .nd l r, w => by
    show (itStep w 40).bind _ = _
    have e1 : itStep w 40 = some (w ++ [40]) := by simp [itStep]
    rw [e1]
    show itRun (w ++ [40]) (l.s ++ (r.s ++ [41])) = _
    rw [itRun_app, itRun_tree l]
    show itRun (w ++ [40] ++ [46]) (r.s ++ [41]) = _
    rw [itRun_app, itRun_tree r]
    show (itStep (w ++ [40] ++ [46] ++ [46]) 41).bind _ = _
    have e2 : itStep (w ++ [40] ++ [46] ++ [46]) 41 = some (w ++ [46]) := by
      simp [itStep]
    rw [e2]; rfl
/-- waiting signs stand for the signs read -/
inductive Waits : List Nat → List Nat → Prop where
  | nil : Waits [] []
  | op {w l : List Nat} : Waits w l → Waits (w ++ [40]) (l ++ [40])
  | tr {w l : List Nat} (t : Tr) : Waits w l → Waits (w ++ [46]) (l ++ t.s)
theorem Waits.last {w l : List Nat} {c : Nat} (h : Waits (w ++ [c]) l) : (c = 40 ∧ ∃ l', l = l' ++ [40] ∧ Waits w l') ∨ (c = 46 ∧ ∃ (l' : List Nat) (t : Tr), l = l' ++ t.s ∧ Waits w l') := by
  generalize e : w ++ [c] = v at h
  cases h with
  | nil => simp at e
  | op h =>
    obtain ⟨rfl, e2⟩ := List.append_inj' e rfl
    cases e2
    exact .inl ⟨rfl, _, rfl, h⟩
  | tr t h =>
    obtain ⟨rfl, e2⟩ := List.append_inj' e rfl
    cases e2
    exact .inr ⟨rfl, _, t, rfl, h⟩
theorem Waits.step {w l w' : List Nat} {c : Nat} (h : Waits w l) (e : itStep w c = some w') : Waits w' (l ++ [c]) := by
  unfold itStep at e
  split at e
  · rename_i hc
    subst hc
    split at e
    · rename_i h3
      cases e
      have ew : w = w.take (w.length - 3) ++ [40] ++ [46] ++ [46] := by
        have := List.take_append_drop (w.length - 3) w
        rw [h3] at this
        simpa using this.symm
      rw [ew] at h
      rcases h.last with ⟨q, _⟩ | ⟨_, l1, t1, rfl, h1⟩
      · cases q
      rcases h1.last with ⟨q, _⟩ | ⟨_, l2, t2, rfl, h2⟩
      · cases q
      rcases h2.last with ⟨_, l3, rfl, h3⟩ | ⟨q, _⟩
      · have := Waits.tr (.nd t2 t1) h3
        simpa [Tr.s] using this
      · cases q
    · cases e
  · split at e
    · rename_i hc
      cases e
      rcases hc with rfl | rfl
      · exact .op h
      · exact .tr .lf h
    · cases e
theorem Waits.run : ∀ {r w l w' : List Nat}, Waits w l → itRun w r = some w' → Waits w' (l ++ r)
  | [], w, l, w', h, e => by
    cases e; simpa using h
  | c :: r, w, l, w', h, e => by
    have e' : (itStep w c).bind (fun w' => itRun w' r) = some w' := e
    cases q : itStep w c with
    | none => rw [q] at e'; cases e'
    | some v =>
      rw [q] at e'
      have := Waits.run (h.step q) e'
      simpa using this
theorem isTr_iff (l : List Nat) : isTr l = true ↔ ∃ t : Tr, l = t.s := by
  unfold isTr
  rw [decide_eq_true_eq]
  constructor
  · intro h
    have q := Waits.run .nil h
    have q' : Waits ([] ++ [46]) l := by simpa using q
    rcases q'.last with ⟨z, _⟩ | ⟨_, l', t, rfl, z⟩
    · cases z
    · generalize e : ([] : List Nat) = v at z
      cases z with
      | nil => exact ⟨t, by simp⟩
      | op _ => simp at e
      | tr _ _ => simp at e
  · rintro ⟨t, rfl⟩
    simpa using itRun_tree t []
theorem isTr_s (t : Tr) : isTr t.s = true := (isTr_iff _).mpr ⟨t, rfl⟩
theorem itStep_len {w w' : List Nat} {c : Nat} (e : itStep w c = some w') : w'.length ≤ w.length + 1 := by
  unfold itStep at e
  split at e
  · split at e
    · cases e; simp
      try omega
    · cases e
  · split at e
    · cases e; simp
    · cases e
end M

namespace M
open PySem PySem.Spec PyProof.Rows L2

/-! ### places -/
section
variable {α : Type}
theorem aI_nat (xs : List α) (i : Nat) : atI xs (i : Int) = xs[i]? := by
  unfold atI ixN
  rw [if_pos (by omega)]
  by_cases h : i < xs.length
  · rw [if_pos (by omega)]; simp
  · rw [if_neg (by omega), List.getElem?_eq_none (by omega)]; rfl
theorem aI_neg (xs : List α) (k : Nat) (hk : 0 < k) (h : k ≤ xs.length) : atI xs (-(k : Int)) = xs[xs.length - k]? := by
  unfold atI ixN
  rw [if_neg (by omega), if_pos (by omega)]
  show xs[(-(k : Int) + (xs.length : Int)).toNat]? = _
  congr 1
  omega
theorem aI_0 (x : α) (xs : List α) : atI (x :: xs) 0 = some x := aI_nat (x :: xs) 0
theorem aI_1 (x y : α) (xs : List α) : atI (x :: y :: xs) 1 = some y := aI_nat (x :: y :: xs) 1
theorem aI_2 (x y z : α) (xs : List α) : atI (x :: y :: z :: xs) 2 = some z := aI_nat (x :: y :: z :: xs) 2
theorem aI_3 (x y z u : α) (xs : List α) : atI (x :: y :: z :: u :: xs) 3 = some u := aI_nat (x :: y :: z :: u :: xs) 3
theorem aI_m1 (xs : List α) (v : α) : atI (xs ++ [v]) (-1) = some v := atI_last xs v
theorem aI_m2 (xs : List α) (u v : α) : atI (xs ++ [u, v]) (-2) = some u := by
  have e := aI_neg (xs ++ [u, v]) 2 (by decide) (by simp)
  rw [show ((2 : Nat) : Int) = 2 from rfl] at e
  rw [e]
  simp
theorem aI_m1' (xs : List α) (u v : α) : atI (xs ++ [u, v]) (-1) = some v := by
  have e := aI_neg (xs ++ [u, v]) 1 (by decide) (by simp)
  rw [show ((1 : Nat) : Int) = 1 from rfl] at e
  rw [e]
  simp
theorem iN_nat {n i : Nat} (h : i < n) : ixN n (i : Int) = some i := by
  unfold ixN
  rw [if_pos (by omega), if_pos (by omega)]; simp
theorem iN_m1 {n : Nat} (h : 0 < n) : ixN n (-1) = some (n - 1) := by
  unfold ixN
  rw [if_neg (by omega), if_pos (by omega)]
  congr 1
  omega
end

/-! ### data -/
def dStrs (l : List (List Nat)) : List PyData := l.map fun z => .str (S z)
def dInts (l : List Int) : List PyData := l.map .int
theorem dp_strs {K : PySem.W.Frag} {H : Hp} : ∀ l : List (List Nat), DpAll K H (l.map fun z => V.str (S z)) (dStrs l)
  | [] => .nil
  | z :: l => .cons (.str _) (dp_strs l)
theorem dp_ints {K : PySem.W.Frag} {H : Hp} : ∀ l : List Int, DpAll K H (l.map V.int) (dInts l)
  | [] => .nil
  | z :: l => .cons (.int _) (dp_ints l)
/-- codes of a text -/
def okc (l : List Nat) : Prop := ∀ c ∈ l, c < 1114112
theorem okc_app {a b : List Nat} (h1 : okc a) (h2 : okc b) : okc (a ++ b) := fun c h => (List.mem_append.mp h).elim (h1 c) (h2 c)
theorem okS {z : List Nat} (h : okc z) : PyData.strOk (S z) = true := by
  unfold PyData.strOk
  simp only [S, List.all_toArray, List.all_eq_true, decide_eq_true_eq]
  exact h
theorem lay_strs : ∀ l : List (List Nat), (∀ z ∈ l, okc z) → PyData.canLayAll0 (dStrs l) = true
  | [], _ => rfl
  | z :: l, h => by
    show PyData.canLayAll0 (.str (S z) :: dStrs l) = true
    simp only [PyData.canLayAll0, PyData.canLay0, lay_strs l fun y hy => h y (List.mem_cons_of_mem _ hy), okS (h z List.mem_cons_self), Bool.and_self]
theorem lay_ints : ∀ l, PyData.canLayAll0 (dInts l) = true
  | [] => rfl
  | z :: l => by show PyData.canLayAll0 (.int z :: dInts l) = true; simp only [PyData.canLayAll0, PyData.canLay0, lay_ints l, Bool.and_self]
theorem dep_strs : ∀ l, PyData.depthAll (dStrs l) = 0
  | [] => rfl
  | z :: l => by show PyData.depthAll (.str (S z) :: dStrs l) = 0; simp only [PyData.depthAll, PyData.depth, dep_strs l]; rfl
theorem dep_ints : ∀ l, PyData.depthAll (dInts l) = 0
  | [] => rfl
  | z :: l => by show PyData.depthAll (.int z :: dInts l) = 0; simp only [PyData.depthAll, PyData.depth, dep_ints l]; rfl
theorem eqv_strs : ∀ a b : List (List Nat), PyData.eqvAll (dStrs a) (dStrs b) = decide (a = b)
  | [], [] => rfl
  | [], z :: b => rfl
  | z :: a, [] => rfl
  | y :: a, z :: b => by
    show PyData.eqvAll (.str (S y) :: dStrs a) (.str (S z) :: dStrs b) = _
    simp only [PyData.eqvAll, PyData.eqv, eqv_strs a b]
    by_cases h : y = z
    · subst h; simp
    · have : ¬ S y = S z := fun q => h (S_inj.mp q)
      simp [h, this]
theorem eqv_ints : ∀ a b : List Int, PyData.eqvAll (dInts a) (dInts b) = decide (a = b)
  | [], [] => rfl
  | [], z :: b => rfl
  | z :: a, [] => rfl
  | y :: a, z :: b => by
    show PyData.eqvAll (.int y :: dInts a) (.int z :: dInts b) = _
    simp only [PyData.eqvAll, PyData.eqv, eqv_ints a b]
    by_cases h : y = z
    · subst h; simp
    · simp [h]
section
variable {K : PySem.W.Frag} {neg : Bool} {H : Hp} {Q : VK}
/-- two lists of texts compared -/
theorem eq_strs {p q : Addr} {a b : List (List Nat)} (h1 : SqL K H p (a.map fun z => V.str (S z))) (h2 : SqL K H q (b.map fun z => V.str (S z))) (oa : ∀ z ∈ a, okc z) (ob : ∀ z ∈ b, okc z) (k : Q (.bl (if neg then !decide (a = b) else decide (a = b))) H) : rEqW K neg (.ref p) (.ref q) H Q :=
  ⟨.list (dStrs a), .list (dStrs b), .lst h1 (dp_strs a), .lst h2 (dp_strs b), by simpa only [PyData.canLay0] using lay_strs a oa, by simpa only [PyData.canLay0] using lay_strs b ob, by simp only [PyData.depth, dep_strs]; decide, by simpa only [PyData.eqv, eqv_strs] using k⟩
theorem eq_ints {p q : Addr} {a b : List Int} (h1 : SqL K H p (a.map V.int)) (h2 : SqL K H q (b.map V.int)) (k : Q (.bl (if neg then !decide (a = b) else decide (a = b))) H) : rEqW K neg (.ref p) (.ref q) H Q :=
  ⟨.list (dInts a), .list (dInts b), .lst h1 (dp_ints a), .lst h2 (dp_ints b), by simpa only [PyData.canLay0] using lay_ints a, by simpa only [PyData.canLay0] using lay_ints b, by simp only [PyData.depth, dep_ints]; decide, by simpa only [PyData.eqv, eqv_ints] using k⟩
end

/-! ### nests: trees as pairs -/
inductive Nst (K : PySem.W.Frag) (H : Hp) : V → Tr → Prop
  | lf {a : Addr} : SqT K H a [] → Nst K H (.ref a) .lf
  | nd {a : Addr} {l r : V} {t u : Tr} : SqT K H a [l, r] → Nst K H l t → Nst K H r u → Nst K H (.ref a) (.nd t u)
theorem Nst.ex {K : PySem.W.Frag} {H H' : Hp} (e : Ex H H') {v : V} {t : Tr} (h : Nst K H v t) : Nst K H' v t := by
  induction h with
  | lf h => exact .lf (e.T h)
  | nd h _ _ i1 i2 => exact .nd (e.T h) i1 i2
def Tr.dat : Tr → PyData
  | .lf => .tuple []
  | .nd l r => .tuple [l.dat, r.dat]
theorem Nst.dp {K : PySem.W.Frag} {H : Hp} {v : V} {t : Tr} (h : Nst K H v t) : Dp K H v t.dat := by
  induction h with
  | lf h => exact .tup h .nil
  | nd h _ _ i1 i2 => exact .tup h (.cons i1 (.cons i2 .nil))
theorem Tr.lay : ∀ t : Tr, t.dat.canLay0 = true
  | .lf => rfl
  | .nd l r => by simp only [Tr.dat, PyData.canLay0, PyData.canLayAll0, Tr.lay l, Tr.lay r, Bool.and_self]
/-- a nest == () -/
theorem eq_nil {K : PySem.W.Frag} {H : Hp} {Q : VK} {v : V} {t : Tr} {q : Addr} (h : Nst K H v t) (h2 : SqT K H q []) (k : Q (.bl (decide (t = .lf))) H) : rEqW K false v (.ref q) H Q := by
  refine ⟨t.dat, .tuple [], h.dp, .tup h2 .nil, t.lay, rfl, Nat.le_trans (Nat.min_le_right _ _) (by simp only [PyData.depth, PyData.depthAll]; decide), ?_⟩
  have e : PyData.eqv t.dat (.tuple []) = decide (t = .lf) := by
    cases t with
    | lf => rfl
    | nd l r => simp [Tr.dat, PyData.eqv, PyData.eqvAll]
  rw [if_neg Bool.false_ne_true, e]
  exact k
theorem Nst.ref {K : PySem.W.Frag} {H : Hp} {v : V} {t : Tr} (h : Nst K H v t) : ∃ a, v = .ref a := by
  cases h <;> exact ⟨_, rfl⟩

/-! ### roads to leaves and nodes -/
namespace Tr
def lvs : Tr → List Nat → List (List Nat)
  | .lf, r => [r]
  | .nd a b, r => a.lvs (r ++ [108]) ++ b.lvs (r ++ [114])
def nds : Tr → List Nat → List (List Nat)
  | .lf, _ => []
  | .nd a b, r => a.nds (r ++ [108]) ++ ([r] ++ b.nds (r ++ [114]))
theorem lvs_len : ∀ (t : Tr) (r : List Nat), (t.lvs r).length = t.n + 1
  | .lf, _ => rfl
  | .nd a b, r => by simp only [lvs, n, List.length_append, lvs_len a, lvs_len b]; omega
theorem nds_len : ∀ (t : Tr) (r : List Nat), (t.nds r).length = t.n
  | .lf, _ => rfl
  | .nd a b, r => by simp only [nds, n, List.length_append, nds_len a, nds_len b, List.length_cons, List.length_nil]; omega
end Tr
end M
namespace M
open PySem PySem.Spec PyProof.Rows L2
theorem Fm.refl (m : List Addr) (H : Hp) : Fm m H H := fun _ _ _ h => h
theorem Fm.trans {m : List Addr} {H H1 H2 : Hp} (a : Fm m H H1) (b : Fm m H1 H2) : Fm m H H2 := fun x o n h => b x o n (a x o n h)
theorem Fm.ex {m : List Addr} {H H1 : Hp} (a : Ex H H1) : Fm m H H1 := fun x o _ h => a x o h
theorem Fm.new {m : List Addr} {H : Hp} {p : Addr} {o : HO} (h : H p = none) : Fm m H (upd H p o) := Fm.ex (Ex.new h)
theorem Fm.mut {m : List Addr} {H : Hp} {p : Addr} {o : HO} (h : p ∈ m) : Fm m H (upd H p o) := fun a u n e => by
  have : a ≠ p := fun z => n (z ▸ h)
  rw [upd_ne this]; exact e
theorem Fm.nil {H H1 : Hp} (a : Fm [] H H1) : Ex H H1 := fun x o h => a x o (by simp) h
theorem Fm.at_ {m : List Addr} {H H1 : Hp} (a : Fm m H H1) {p : Addr} {o : HO} (n : p ∉ m) (h : H p = some o) : H1 p = some o := a p o n h
/-- a purse of random numbers -/
def Pu (H : Hp) (g : Addr) (n : Nat) : Prop := ∃ a b c : Int, H g = some (.lst [.int a, .int b, .int c]) ∧ 0 ≤ a ∧ a < 2 ^ 2000 ∧ 0 ≤ b ∧ b < 2 ^ 31 ∧ 0 ≤ c ∧ c < n
theorem Pu.mono {H : Hp} {g : Addr} {n m : Nat} (h : n ≤ m) (p : Pu H g n) : Pu H g m := by
  obtain ⟨a, b, c, h1, h2, h3, h4, h5, h6, h7⟩ := p
  exact ⟨a, b, c, h1, h2, h3, h4, h5, h6, by omega⟩
theorem Pu.fm {H H1 : Hp} {g : Addr} {n : Nat} (e : Ex H H1) (p : Pu H g n) : Pu H1 g n := by
  obtain ⟨a, b, c, h1, r⟩ := p
  exact ⟨a, b, c, e _ _ h1, r⟩
theorem mulOk (a b : Nat) {i j : Int} (h1 : 0 ≤ i) (h2 : i < (2 : Int) ^ a) (h3 : 0 ≤ j) (h4 : j < (2 : Int) ^ b) (h0 : 0 < a := by decide) (h5 : 0 < b := by decide) (h6 : a + b ≤ 1000000 := by decide) : MulOk i j := by
  refine MulOk.of a b ?_ ?_ h0 h5 h6
  · have : (i.natAbs : Int) < ((2 ^ a : Nat) : Int) := by rw [Int.natAbs_of_nonneg h1]; exact_mod_cast h2
    exact_mod_cast this
  · have : (j.natAbs : Int) < ((2 ^ b : Nat) : Int) := by rw [Int.natAbs_of_nonneg h3]; exact_mod_cast h4
    exact_mod_cast this
theorem divOk (b : Nat) {j : Int} (h : 0 < j) (h4 : j < (2 : Int) ^ b) (h0 : 0 < b := by decide) (h9 : b ≤ 9000 := by decide) : DivOk j := by
  refine DivOk.of b h ?_ h0 h9
  have : (j.natAbs : Int) < ((2 ^ b : Nat) : Int) := by rw [Int.natAbs_of_nonneg (by omega)]; exact_mod_cast h4
  exact_mod_cast this
theorem bits_le {i : Int} {b : Nat} (h : 0 ≤ i) (h4 : i < (2 : Int) ^ b) : Builtin.Int.intBits i ≤ b := by
  unfold Builtin.Int.intBits
  by_cases e : i = 0
  · subst e; simp
  · have e' : (i == 0) = false := by simpa using e
    rw [e', if_neg Bool.false_ne_true]
    have : (i.natAbs : Int) < ((2 ^ b : Nat) : Int) := by rw [Int.natAbs_of_nonneg h]; exact_mod_cast h4
    have h5 : i.natAbs < 2 ^ b := by exact_mod_cast this
    have h6 : i.natAbs ≠ 0 := by omega
    have := (Nat.log2_lt h6).mpr h5
    omega
end M
namespace M
open PySem PySem.Spec PyProof.Rows L2
/-- what is no list stays -/
def Nl (H H' : Hp) : Prop := ∀ a o, (∀ xs, o ≠ .lst xs) → H a = some o → H' a = some o
theorem Nl.refl (H : Hp) : Nl H H := fun _ _ _ h => h
theorem Nl.trans {H H1 H2 : Hp} (a : Nl H H1) (b : Nl H1 H2) : Nl H H2 := fun x o n h => b x o n (a x o n h)
theorem Nl.ex {H H1 : Hp} (a : Ex H H1) : Nl H H1 := fun x o _ h => a x o h
theorem Nl.new {H : Hp} {p : Addr} {o : HO} (h : H p = none) : Nl H (upd H p o) := Nl.ex (Ex.new h)
theorem Nl.mut {H : Hp} {p : Addr} {o : HO} {xs : List V} (h : H p = some (.lst xs)) : Nl H (upd H p o) := fun a u n e => by
  have : a ≠ p := fun z => by rw [z, h] at e; cases e; exact n _ rfl
  rw [upd_ne this]; exact e
theorem Nl.T {K : PySem.W.Frag} {H H' : Hp} {a : Addr} {xs : List V} (e : Nl H H') (h : SqT K H a xs) : SqT K H' a xs := by
  rcases h with h | h
  · rcases h with h | ⟨o, h⟩
    · exact .inl (.inl (e a _ (fun _ z => by cases z) h))
    · exact .inl (.inr ⟨o, e a _ (fun _ z => by cases z) h⟩)
  · exact .inr h
theorem Nst.nl {K : PySem.W.Frag} {H H' : Hp} (e : Nl H H') {v : V} {t : Tr} (h : Nst K H v t) : Nst K H' v t := by
  induction h with
  | lf h => exact .lf (e.T h)
  | nd h _ _ i1 i2 => exact .nd (e.T h) i1 i2
/-- one of the lists that H does not know changes -/
theorem Ex.chg {H H1 : Hp} {p : Addr} {o : HO} (e : Ex H H1) (h : H p = none) : Ex H (upd H1 p o) := e.mut h
end M

/-! ### the readings at values that are known -/
namespace M
open PySem PySem.Spec PyProof.Rows L2
section
variable {K : PySem.W.Frag} {H : Hp} {Q : VK} {i j : Int} {a b : Str} {k l : Bool} {p q : Addr} {x y : V} {lo hi : Option Int}
theorem q_add1 : mAdd (.int i) (.int j) H Q = Q (.int (i + j)) H := rfl
theorem q_add2 : mAdd (.str a) (.str b) H Q = (a.length + b.length ≤ sizeLine ∧ Q (.str (a ++ b)) H) := rfl
theorem q_add3 : mAdd (.ref p) (.ref q) H Q = (∃ xs zs, H p = some (.lst xs) ∧ H q = some (.lst zs) ∧ xs.length + zs.length ≤ sizeLine ∧ ∀ r, H r = none → Q (.ref r) (upd H r (.lst (xs ++ zs)))) := rfl
theorem q_add4 : mAdd (.int i) (.bl k) H Q = Q (.int (i + b2i k)) H := rfl
theorem q_iadd1 : iAdd (.int i) (.int j) H Q = Q (.int (i + j)) H := rfl
theorem q_iadd2 : iAdd (.str a) (.str b) H Q = (a.length + b.length ≤ sizeLine ∧ Q (.str (a ++ b)) H) := rfl
theorem q_iadd3 : iAdd (.ref p) (.ref q) H Q = (∃ xs zs, H p = some (.lst xs) ∧ H q = some (.lst zs) ∧ xs.length + zs.length ≤ sizeLine ∧ Q (.ref p) (upd H p (.lst (xs ++ zs)))) := rfl
theorem q_sub : mSub (.int i) (.int j) H Q = Q (.int (i - j)) H := rfl
theorem q_mul1 : mMul (.int i) (.int j) H Q = (MulOk i j ∧ Q (.int (i * j)) H) := rfl
theorem q_mul2 : mMul (.ref p) (.int i) H Q = (∃ xs, H p = some (.lst xs) ∧ -(2 ^ 63) ≤ i ∧ i < 2 ^ 63 ∧ xs.length * i.toNat ≤ sizeLine ∧ ∀ r, H r = none → Q (.ref r) (upd H r (.lst (List.replicate i.toNat xs).flatten))) := rfl
theorem q_mod : mMod (.int i) (.int j) H Q = (0 < j ∧ Q (.int (i % j)) H) := rfl
theorem q_div : mDiv (.int i) (.int j) H Q = (DivOk j ∧ Q (.int (i / j)) H) := rfl
theorem q_pow : mPow (.int i) (.int j) H Q = ((0 ≤ j ∧ (Builtin.Int.intBits i : Int) * j ≤ 2 ^ 27) ∧ Q (.int (i ^ j.toNat)) H) := rfl
theorem q_eq1 : mEq K (.int i) (.int j) H Q = Q (.bl (decide (i = j))) H := rfl
theorem q_eq2 : mEq K (.str a) (.str b) H Q = Q (.bl (decide (a = b))) H := rfl
theorem q_eq3 : mEq K (.bl k) (.bl l) H Q = Q (.bl (decide (k = l))) H := rfl
theorem q_eq4 : mEq K .non .non H Q = Q (.bl true) H := rfl
theorem q_eq5 : mEq K .non (.int j) H Q = Q (.bl false) H := rfl
theorem q_eq6 : mEq K (.int j) .non H Q = Q (.bl false) H := rfl
theorem q_eq7 : mEq K (.str a) .non H Q = Q (.bl false) H := rfl
theorem q_eq8 : mEq K .non (.str a) H Q = Q (.bl false) H := rfl
theorem q_eq9 : mEq K (.ref p) y H Q = rEqW K false (.ref p) y H Q := by cases y <;> rfl
theorem q_eq10 : mEq K x (.ref p) H Q = rEqW K false x (.ref p) H Q := by cases x <;> rfl
theorem q_ne1 : mNe K (.int i) (.int j) H Q = Q (.bl (!decide (i = j))) H := rfl
theorem q_ne2 : mNe K (.str a) (.str b) H Q = Q (.bl (!decide (a = b))) H := rfl
theorem q_ne3 : mNe K (.bl k) (.bl l) H Q = Q (.bl (!decide (k = l))) H := rfl
theorem q_ne9 : mNe K (.ref p) y H Q = rEqW K true (.ref p) y H Q := by cases y <;> rfl
theorem q_ne10 : mNe K x (.ref p) H Q = rEqW K true x (.ref p) H Q := by cases x <;> rfl
theorem q_lt : mLt (.int i) (.int j) H Q = Q (.bl (decide (i < j))) H := rfl
theorem q_le : mLe (.int i) (.int j) H Q = Q (.bl (decide (i ≤ j))) H := rfl
theorem q_gt : mGt (.int i) (.int j) H Q = Q (.bl (decide (j < i))) H := rfl
theorem q_ge : mGe (.int i) (.int j) H Q = Q (.bl (decide (j ≤ i))) H := rfl
theorem q_inc : mInC (.str a) (.str b) H Q = (∃ k, a = S [k] ∧ Q (.bl (decide (k ∈ b.cps.toList))) H) := rfl
theorem q_ninc : mNinC (.str a) (.str b) H Q = (∃ k, a = S [k] ∧ Q (.bl (!decide (k ∈ b.cps.toList))) H) := rfl
theorem q_inc1 {c : Nat} {z : List Nat} : mInC (.str (S [c])) (.str (S z)) H Q = Q (.bl (decide (c ∈ z))) H := by
  rw [q_inc, S_cps]
  refine propext ⟨fun ⟨k, e, h⟩ => ?_, fun h => ⟨c, rfl, h⟩⟩
  have := S_inj.mp e
  simp only [List.cons.injEq, and_true] at this
  rw [this]; exact h
theorem q_ix1 : mIx K (.str a) (.int i) H Q = (a.length ≤ sizeLine ∧ ∃ c, atI a.cps.toList i = some c ∧ Q (.str (S [c])) H) := rfl
theorem q_ix2 : mIx K (.ref p) (.int i) H Q = (∃ xs v, (SqL K H p xs ∨ SqT K H p xs) ∧ atI xs i = some v ∧ Q v H) := rfl
theorem q_sl1 : mSl K (.str a) lo hi H Q = (a.length ≤ sizeLine ∧ Q (.str (S (cutL a.cps.toList lo hi))) H) := rfl
theorem q_sl2 : mSl K (.ref p) lo hi H Q = (∃ xs, SqL K H p xs ∧ ∀ r, H r = none → Q (.ref r) (upd H r (.lst (cutL xs lo hi)))) := rfl
theorem q_set {R : Hp → Prop} : mSetL (.ref p) (.int i) x H R = (∃ xs j, H p = some (.lst xs) ∧ ixN xs.length i = some j ∧ R (upd H p (.lst (xs.set j x)))) := rfl
theorem q_len1 : mLen K [.str a] H Q = (a.length ≤ sizeLine ∧ Q (.int a.length) H) := rfl
theorem q_len2 : mLen K [.ref p] H Q = (∃ ys, (SqL K H p ys ∨ SqT K H p ys) ∧ Q (.int ys.length) H) := rfl
theorem q_int1 : mInt [.int i] H Q = Q (.int i) H := rfl
theorem q_int2 : mInt [.bl k] H Q = Q (.int (if k then 1 else 0)) H := rfl
theorem q_max : mMax [.int i, .int j] H Q = Q (.int (max i j)) H := rfl
theorem q_min : mMin [.int i, .int j] H Q = Q (.int (min i j)) H := rfl
theorem q_abs : mAbs [.int i] H Q = Q (.int (i.natAbs : Int)) H := rfl
theorem q_sum : mSum K [.ref p] H Q = (∃ ns : List Int, SqL K H p (ns.map V.int) ∧ Q (.int ns.sum) H) := rfl
theorem q_list : mList K [.ref p] H Q = (∃ ys, (SqL K H p ys ∨ SqT K H p ys) ∧ ∀ l, H l = none → Q (.ref l) (upd H l (.lst ys))) := rfl
theorem q_isi1 {z : Str} : mIsi K [.str z, .ty "str"] H Q = Q (.bl true) H := by unfold mIsi; simp only [tyN, kb1]
theorem q_is1 : mIs x .non H Q = Q (.bl (isN x)) H := rfl
theorem q_not1 : mNot x .non H Q = Q (.bl (!isN x)) H := rfl
theorem q_isN1 : isN .non = true := rfl
theorem q_isN2 : isN (.ref p) = false := rfl
theorem q_isN3 : isN (.str a) = false := rfl
theorem q_isN4 : isN (.int i) = false := rfl
theorem q_join : mJoin K a (.ref p) H Q = (∃ ys : List Str, (SqL K H p (ys.map V.str) ∨ SqT K H p (ys.map V.str)) ∧ (ys.map (·.length)).sum + ys.length * a.length ≤ 16777216 ∧ Q (.str (Txt.join a ys)) H) := rfl
theorem q_count : mCount a (.str b) H Q = Q (.int (Txt.count a b)) H := rfl
theorem q_split : mSplit a (.str b) H Q = ((b.length == 0) = false ∧ a.length + 2 ≤ sizeLine ∧ ∀ r, H r = none → Q (.ref r) (upd H r (.lst ((Txt.split a b).map V.str)))) := rfl
theorem q_app {xs : List V} : mApp p xs [y] H Q = (xs.length < sizeLine ∧ Q .non (upd H p (.lst (xs ++ [y])))) := rfl
theorem q_pop {xs : List V} : mPop p xs [] H Q = (∃ y, xs.getLast? = some y ∧ Q y (upd H p (.lst xs.dropLast))) := rfl
theorem q_clear {xs : List V} : mClear p xs [] H Q = Q .non (upd H p (.lst [])) := rfl
theorem q_isiE {C : Addr} : mIsiE K [.ref p, .ref C] H Q = (∃ (D d : Addr) (fl : Str) (fs : List (Str × V)) (b : Bool), ExcK K fl D ∧ H p = some (exk p (.ref D) (some d)) ∧ H d = some (.xd fs) ∧ PySem.W.kitOne K (.ref D) (.ref C) = some b ∧ Q (.bl b) H) := rfl
theorem q_sorted : mSorted K [.ref p] H Q = (∃ xs : List Str, SqL K H p (xs.map V.str) ∧ ∀ (ys : List Str) (r : Addr), ys.Perm xs → sortedS ys = true → H r = none → Q (.ref r) (upd H r (.lst (ys.map V.str)))) := rfl
theorem q_repr : mRepr K [x] H Q = (∃ d, Sh K H x d ∧ d.showable = true ∧ d.depth ≤ 64 ∧ d.shown.length ≤ sizeLine ∧ Q (.str d.shown) H) := rfl
/-- joined texts -/
theorem join_S : ∀ l : List (List Nat), Txt.join (S []) (l.map S) = S l.flatten := by
  intro l
  show PySem.Builtin.Str.glued (S []) (l.map S) = _
  rw [StrLaws.glued_eq_join]
  induction l with
  | nil => rfl
  | cons z l ih =>
    cases l with
    | nil => show S z = S (z ++ []); rw [List.append_nil]
    | cons y r =>
      show S z ++ S [] ++ Str.join (S []) ((y :: r).map S) = _
      rw [ih, S_app, S_app, List.append_nil]
      simp only [List.flatten_cons]
theorem join_signs (l : List Nat) : Txt.join (S []) (l.map fun c => S [c]) = S l := by
  have e : (l.map fun c => S [c]) = (l.map fun c => [c]).map S := by rw [List.map_map]; rfl
  rw [e, join_S]
  congr 1
  induction l with
  | nil => rfl
  | cons c r ih => show [c] ++ (r.map fun c => [c]).flatten = _; rw [ih (by rw [List.map_map]; rfl)]; rfl
end
def sg (P : List Nat) : List V := P.map fun c => V.str (S [c])
def tx (l : List (List Nat)) : List V := l.map fun z => V.str (S z)
theorem sg_tx (P : List Nat) : sg P = tx (P.map fun c => [c]) := by unfold sg tx; rw [List.map_map]; rfl
theorem sg_str (P : List Nat) : sg P = (P.map fun c => S [c]).map V.str := by unfold sg; rw [List.map_map]; rfl
theorem sg_len (P : List Nat) : (sg P).length = P.length := by unfold sg; rw [List.length_map]
theorem tx_len (P : List (List Nat)) : (tx P).length = P.length := by unfold tx; rw [List.length_map]
theorem sg_app (a b : List Nat) : sg (a ++ b) = sg a ++ sg b := by unfold sg; rw [List.map_append]
theorem tx_app (a b : List (List Nat)) : tx (a ++ b) = tx a ++ tx b := by unfold tx; rw [List.map_append]
theorem one_len (P : List Nat) : ((P.map fun c => S [c]).map (·.length)).sum = P.length := by
  induction P with
  | nil => rfl
  | cons c r ih => simp only [List.map_cons, List.sum_cons, List.length_cons, ih, S_len, List.length_nil]; omega
end M

/-! ### texts counted and cut at a sign -/
namespace M
open PySem PySem.Spec PyProof.Rows L2
theorem splitS {z : List Nat} {c : Nat} (hc : c < 256) : Txt.split (S z) (S [c]) = (TL.spl [c] 0 [] z).map S := SX.split_S (by simp) (by simpa using hc)
theorem spl_one {c d : Nat} {acc r : List Nat} : TL.spl [c] 0 acc (d :: r) = if d = c then acc :: TL.spl [c] 0 [] r else TL.spl [c] 0 (acc ++ [d]) r := by
  show (if TL.pre [c] (d :: r) = true then acc :: TL.spl [c] 0 [] r else TL.spl [c] 0 (acc ++ [d]) r) = _
  have : (TL.pre [c] (d :: r) = true) = (d = c) := by simp [TL.pre]
  simp only [this]
theorem spl_count (c : Nat) : ∀ (z acc : List Nat), (TL.spl [c] 0 acc z).length = z.count c + 1
  | [], acc => rfl
  | d :: r, acc => by
    rw [spl_one, List.count_cons]
    by_cases h : d = c
    · rw [if_pos h, List.length_cons, spl_count c r]; simp [h]
    · rw [if_neg h, spl_count c r]; simp [h]
theorem count_split {z : List Nat} {c : Nat} (hc : c < 256) : Txt.count (S z) (S [c]) + 1 = ((Txt.split (S z) (S [c])).length : Int) := by
  unfold Txt.count Txt.split
  by_cases h1 : (decide ((S z).length < (S [c]).length) || decide (Builtin.Str.strKind (S z) < Builtin.Str.strKind (S [c]))) = true
  · rw [if_pos h1]
    have hz : z = [] := by
      rcases Bool.or_eq_true_iff.mp h1 with h | h
      · have := of_decide_eq_true h
        simp only [S_len, List.length_singleton] at this
        exact List.length_eq_zero_iff.mp (by omega)
      · exact absurd (of_decide_eq_true h) (TL.kind_ok (SX.all256 (by simpa using hc)))
    subst hz
    have : Builtin.Str.occurrences (S []) (S [c]) 0 (S []).length ((S []).length + 1) = [] := by
      show Builtin.Str.occurrences (S []) (S [c]) 0 0 1 = []
      simp [Builtin.Str.occurrences, S_len]
    rw [this]; rfl
  · rw [if_neg h1]
    split
    · rename_i h2
      rw [List.isEmpty_iff.mp h2]; rfl
    · rw [length_partsBetween]
      push_cast
      rfl
theorem count_S {z : List Nat} {c : Nat} (hc : c < 256) : Txt.count (S z) (S [c]) = (z.count c : Int) := by
  have h := count_split (z := z) hc
  rw [splitS hc, List.length_map, spl_count] at h
  omega
theorem Tr.cnt_op : ∀ t : Tr, t.s.count 40 = t.n
  | .lf => rfl
  | .nd a b => by
    have h1 := Tr.cnt_op a
    have h2 := Tr.cnt_op b
    simp only [Tr.s, Tr.n, List.count_cons, List.count_append, List.count_nil, h1, h2]
    simp
theorem Tr.cnt_lf : ∀ t : Tr, t.s.count 46 = t.n + 1
  | .lf => rfl
  | .nd a b => by
    have h1 := Tr.cnt_lf a
    have h2 := Tr.cnt_lf b
    simp only [Tr.s, Tr.n, List.count_cons, List.count_append, List.count_nil, h1, h2]
    simp
    omega
/-- the pieces with texts between them -/
def fillP : List (List Nat) → List (List Nat) → List Nat
  | [], _ => []
  | p :: _, [] => p
  | p :: ps, h :: hs => p ++ h ++ fillP ps hs
theorem fill_acc (c : Nat) : ∀ (z acc : List Nat) (hs : List (List Nat)), fillP (TL.spl [c] 0 acc z) hs = acc ++ fillP (TL.spl [c] 0 [] z) hs
  | [], acc, hs => by cases hs <;> simp [TL.spl_nil, fillP]
  | d :: r, acc, hs => by
    rw [spl_one, spl_one]
    by_cases h : d = c
    · rw [if_pos h, if_pos h]
      cases hs <;> simp [fillP]
    · rw [if_neg h, if_neg h, fill_acc c r (acc ++ [d]), fill_acc c r ([] ++ [d])]
      simp
end M

/-! ### trees as a lattice -/
namespace M
namespace Tr
theorem s_cons (t : Tr) : ∃ c r, t.s = c :: r := by cases t <;> exact ⟨_, _, rfl⟩
theorem s_pre : ∀ (t u : Tr) (a b : List Nat), t.s ++ a = u.s ++ b → t = u ∧ a = b
  | .lf, .lf, a, b, h => ⟨rfl, by simpa [s] using h⟩
  | .lf, .nd l r, a, b, h => by simp [s] at h
  | .nd l r, .lf, a, b, h => by simp [s] at h
  | .nd l r, .nd l' r', a, b, h => by
    simp only [s, List.cons_append, List.append_assoc, List.cons.injEq, true_and] at h
    obtain ⟨rfl, h2⟩ := s_pre l l' _ _ h
    obtain ⟨rfl, h3⟩ := s_pre r r' _ _ h2
    exact ⟨rfl, by simpa using h3⟩
theorem s_inj {t u : Tr} : t.s = u.s ↔ t = u := ⟨fun h => (s_pre t u [] [] (by rw [h])).1, fun h => by rw [h]⟩
def join : Tr → Tr → Tr
  | .lf, t => t
  | .nd a b, .lf => .nd a b
  | .nd a b, .nd c d => .nd (join a c) (join b d)
def meet : Tr → Tr → Tr
  | .lf, _ => .lf
  | .nd _ _, .lf => .lf
  | .nd a b, .nd c d => .nd (meet a c) (meet b d)
/-- the first one grows into the second one -/
def le : Tr → Tr → Bool
  | .lf, _ => true
  | .nd _ _, .lf => false
  | .nd a b, .nd c d => le a c && le b d
theorem join_lf (t : Tr) : join t .lf = t := by cases t <;> rfl
theorem meet_lf (t : Tr) : meet t .lf = .lf := by cases t <;> rfl
theorem join_comm : ∀ t u : Tr, join t u = join u t
  | .lf, u => (join_lf u).symm
  | .nd a b, .lf => rfl
  | .nd a b, .nd c d => by simp only [join, join_comm a c, join_comm b d]
theorem meet_comm : ∀ t u : Tr, meet t u = meet u t
  | .lf, u => (meet_lf u).symm
  | .nd a b, .lf => rfl
  | .nd a b, .nd c d => by simp only [meet, meet_comm a c, meet_comm b d]
theorem join_self : ∀ t : Tr, join t t = t
  | .lf => rfl
  | .nd a b => by simp only [join, join_self a, join_self b]
theorem meet_self : ∀ t : Tr, meet t t = t
  | .lf => rfl
  | .nd a b => by simp only [meet, meet_self a, meet_self b]
theorem join_meet : ∀ t u : Tr, join t (meet t u) = t
  | .lf, u => rfl
  | .nd a b, .lf => rfl
  | .nd a b, .nd c d => by simp only [join, meet, join_meet a c, join_meet b d]
theorem meet_join : ∀ t u : Tr, meet t (join t u) = t
  | .lf, u => rfl
  | .nd a b, .lf => by show meet (.nd a b) (.nd a b) = _; exact meet_self _
  | .nd a b, .nd c d => by simp only [join, meet, meet_join a c, meet_join b d]
theorem join_assoc : ∀ t u v : Tr, join (join t u) v = join t (join u v)
  | .lf, u, v => rfl
  | .nd a b, .lf, v => rfl
  | .nd a b, .nd c d, .lf => rfl
  | .nd a b, .nd c d, .nd e f => by simp only [join, join_assoc a c e, join_assoc b d f]
theorem meet_assoc : ∀ t u v : Tr, meet (meet t u) v = meet t (meet u v)
  | .lf, u, v => rfl
  | .nd a b, .lf, v => rfl
  | .nd a b, .nd c d, .lf => rfl
  | .nd a b, .nd c d, .nd e f => by simp only [meet, meet_assoc a c e, meet_assoc b d f]
theorem join_dist : ∀ t u v : Tr, join t (meet u v) = meet (join t u) (join t v)
  | .lf, u, v => rfl
  | .nd a b, .lf, .lf => by show Tr.nd a b = meet (.nd a b) (.nd a b); rw [meet_self]
  | .nd a b, .lf, .nd e f => by
    show Tr.nd a b = meet (.nd a b) (.nd (join a e) (join b f))
    simp only [meet, meet_join]
  | .nd a b, .nd c d, .lf => by
    show Tr.nd a b = meet (.nd (join a c) (join b d)) (.nd a b)
    rw [meet_comm]; simp only [meet, meet_join]
  | .nd a b, .nd c d, .nd e f => by simp only [join, meet, join_dist a c e, join_dist b d f]
theorem n_join : ∀ t u : Tr, (join t u).n + (meet t u).n = t.n + u.n
  | .lf, u => by show u.n + 0 = 0 + u.n; omega
  | .nd a b, .lf => rfl
  | .nd a b, .nd c d => by
    have h1 := n_join a c
    have h2 := n_join b d
    simp only [join, meet, n]; omega
theorem le_join_iff : ∀ t u : Tr, le u t = true ↔ join t u = t
  | t, .lf => by simp [le, join_lf]
  | .lf, .nd c d => by simp [le, join]
  | .nd a b, .nd c d => by simp only [le, join, Bool.and_eq_true, le_join_iff a c, le_join_iff b d, Tr.nd.injEq]
theorem le_meet_iff : ∀ t u : Tr, le u t = true ↔ meet t u = u
  | t, .lf => by simp [le, meet_lf]
  | .lf, .nd c d => by simp [le, meet]
  | .nd a b, .nd c d => by simp only [le, meet, Bool.and_eq_true, le_meet_iff a c, le_meet_iff b d, Tr.nd.injEq]
theorem le_join (t u : Tr) : le t (join t u) = true := (le_meet_iff _ _).mpr (by rw [meet_comm, meet_join])
theorem meet_le (t u : Tr) : le (meet t u) t = true := (le_join_iff _ _).mpr (join_meet t u)
theorem join_n_le (t u : Tr) : (join t u).n ≤ t.n + u.n := by have := n_join t u; omega
theorem meet_n_le (t u : Tr) : (meet t u).n ≤ t.n + u.n := by have := n_join t u; omega
theorem le_n : ∀ t u : Tr, le t u = true → t.n ≤ u.n
  | .lf, u, _ => Nat.zero_le _
  | .nd a b, .lf, h => by simp [le] at h
  | .nd a b, .nd c d, h => by
    simp only [le, Bool.and_eq_true] at h
    have h1 := le_n a c h.1
    have h2 := le_n b d h.2
    simp only [n]; omega
/-- the trees with which a top grows into a tree -/
def hang : Tr → Tr → List Tr
  | .lf, t => [t]
  | .nd _ _, .lf => []
  | .nd a b, .nd c d => hang a c ++ hang b d
/-- the leaves replaced, from left to right -/
def grow : Tr → List Tr → Tr × List Tr
  | .lf, [] => (.lf, [])
  | .lf, h :: r => (h, r)
  | .nd a b, l => (.nd (grow a l).1 (grow b (grow a l).2).1, (grow b (grow a l).2).2)
theorem hang_len : ∀ t u : Tr, le t u = true → (hang t u).length = t.n + 1
  | .lf, u, _ => rfl
  | .nd a b, .lf, h => by simp [le] at h
  | .nd a b, .nd c d, h => by
    simp only [le, Bool.and_eq_true] at h
    simp only [hang, n, List.length_append, hang_len a c h.1, hang_len b d h.2]; omega
theorem grow_hang : ∀ (t u : Tr) (r : List Tr), le t u = true → grow t (hang t u ++ r) = (u, r)
  | .lf, u, r, _ => rfl
  | .nd a b, .lf, r, h => by simp [le] at h
  | .nd a b, .nd c d, r, h => by
    simp only [le, Bool.and_eq_true] at h
    simp only [grow, hang, List.append_assoc, grow_hang a c _ h.1, grow_hang b d _ h.2]
theorem hang_n : ∀ (t u h : Tr), h ∈ hang t u → h.n ≤ u.n
  | .lf, u, h, hm => by rw [List.mem_singleton.mp hm]; exact Nat.le_refl _
  | .nd a b, .lf, h, hm => by cases hm
  | .nd a b, .nd c d, h, hm => by
    simp only [n]
    rcases List.mem_append.mp hm with hm | hm
    · have := hang_n a c h hm; omega
    · have := hang_n b d h hm; omega
theorem fill_grow : ∀ (t : Tr) (hs : List Tr) (r : List Nat), t.n + 1 ≤ hs.length → fillP (TL.spl [46] 0 [] (t.s ++ r)) (hs.map Tr.s) = (grow t hs).1.s ++ fillP (TL.spl [46] 0 [] r) ((grow t hs).2.map Tr.s) ∧ (grow t hs).2.length + (t.n + 1) = hs.length
  | .lf, [], r, h => by simp [n] at h
  | .lf, x :: hs, r, h => by
    show fillP (TL.spl [46] 0 [] (46 :: r)) _ = _ ∧ _
    rw [spl_one, if_pos rfl]
    exact ⟨by simp [fillP, grow], by simp [grow, n]⟩
  | .nd a b, hs, r, h => by
    simp only [n] at h
    obtain ⟨a1, a2⟩ := fill_grow a hs (b.s ++ 41 :: r) (by omega)
    obtain ⟨b1, b2⟩ := fill_grow b (grow a hs).2 (41 :: r) (by omega)
    have e0 : TL.spl [46] 0 [] ((Tr.nd a b).s ++ r) = TL.spl [46] 0 [40] (a.s ++ (b.s ++ 41 :: r)) := by
      show TL.spl [46] 0 [] (40 :: ((a.s ++ (b.s ++ [41])) ++ r)) = _
      rw [spl_one, if_neg (by decide)]
      simp
    have e1 : fillP (TL.spl [46] 0 [] (41 :: r)) ((grow b (grow a hs).2).2.map Tr.s) = 41 :: fillP (TL.spl [46] 0 [] r) ((grow b (grow a hs).2).2.map Tr.s) := by
      rw [spl_one, if_neg (by decide), fill_acc]
      rfl
    refine ⟨?_, by simp only [grow, n]; omega⟩
    rw [e0, fill_acc, a1, b1, e1]
    simp [grow, s]
theorem fill_all (t : Tr) (hs : List Tr) (h : hs.length = t.n + 1) : fillP (TL.spl [46] 0 [] t.s) (hs.map Tr.s) = (grow t hs).1.s := by
  obtain ⟨h1, h2⟩ := fill_grow t hs [] (by omega)
  rw [List.append_nil] at h1
  have : (grow t hs).2 = [] := List.length_eq_zero_iff.mp (by omega)
  rw [h1, this]
  simp [TL.spl_nil, fillP]
theorem grow_n : ∀ (t : Tr) (hs : List Tr), (grow t hs).1.n + ((grow t hs).2.map Tr.n).sum ≤ t.n + (hs.map Tr.n).sum
  | .lf, [] => by simp [grow]
  | .lf, x :: hs => by simp [grow, n]
  | .nd a b, hs => by
    have h1 := grow_n a hs
    have h2 := grow_n b (grow a hs).2
    simp only [grow, n]
    omega
end Tr
end M

namespace M
open PySem PySem.Spec PyProof.Rows L2
namespace Tr
/-- the part at an address -/
def att : Tr → List Nat → Option Tr
  | t, [] => some t
  | .lf, _ :: _ => none
  | .nd a b, c :: r => if c = 114 then att b r else att a r
/-- another tree put at an address -/
def put : Tr → List Nat → Tr → Tr
  | _, [], o => o
  | .lf, _ :: _, _ => .lf
  | .nd a b, c :: r, o => if c = 114 then .nd a (put b r o) else .nd (put a r o) b
theorem att_lf (c : Nat) (r : List Nat) : att .lf (c :: r) = none := rfl
theorem att_nil (t : Tr) : att t [] = some t := by cases t <;> rfl
theorem put_nil (t o : Tr) : put t [] o = o := by cases t <;> rfl
theorem att_put : ∀ (r : List Nat) (t u : Tr), att t r = some u → ∃ pre post : List Nat, t.s = pre ++ u.s ++ post ∧ ∀ o, (put t r o).s = pre ++ o.s ++ post
  | [], t, u, h => by
    rw [att_nil] at h
    cases h
    exact ⟨[], [], by simp, fun o => by rw [put_nil]; simp⟩
  | c :: r, .lf, u, h => by cases h
  | c :: r, .nd a b, u, h => by
    by_cases z : c = 114
    · simp only [att, if_pos z] at h
      obtain ⟨p, q, h1, h2⟩ := att_put r b u h
      refine ⟨40 :: (a.s ++ p), q ++ [41], ?_, fun o => ?_⟩
      · simp only [Tr.s, h1, List.cons_append, List.append_assoc, List.nil_append]
      · simp only [put, if_pos z, Tr.s, h2, List.cons_append, List.append_assoc, List.nil_append]
    · simp only [att, if_neg z] at h
      obtain ⟨p, q, h1, h2⟩ := att_put r a u h
      refine ⟨40 :: p, q ++ (b.s ++ [41]), ?_, fun o => ?_⟩
      · simp only [Tr.s, h1, List.cons_append, List.append_assoc, List.nil_append]
      · simp only [put, if_neg z, Tr.s, h2, List.cons_append, List.append_assoc, List.nil_append]
theorem att_n : ∀ (r : List Nat) (t u : Tr), att t r = some u → u.n + r.length ≤ t.n
  | [], t, u, h => by rw [att_nil] at h; cases h; simp
  | c :: r, .lf, u, h => by cases h
  | c :: r, .nd a b, u, h => by
    simp only [att] at h
    simp only [Tr.n, List.length_cons]
    split at h
    · have := att_n r b u h; omega
    · have := att_n r a u h; omega
theorem put_n : ∀ (r : List Nat) (t o : Tr), (put t r o).n ≤ t.n + o.n
  | [], t, o => by rw [put_nil]; omega
  | c :: r, .lf, o => by simp [put, Tr.n]
  | c :: r, .nd a b, o => by
    simp only [put]
    split
    · have := put_n r b o; simp only [Tr.n]; omega
    · have := put_n r a o; simp only [Tr.n]; omega
end Tr
/-- an address' letters -/
def isAd (z : List Nat) : Bool := decide (∀ c ∈ z, c = 108 ∨ c = 114)
end M

/-! ### small tactics for heaps -/
namespace M
open PySem PySem.Spec PyProof.Rows L2
theorem Ex.at {H H1 : Hp} {a : Addr} {o : HO} (e : Ex H H1) (h : H a = some o) : H1 a = some o := e a o h
/-- what stands is not what is new -/
theorem ne_new {H : Hp} {p q : Addr} {o : HO} (h : H p = some o) (n : H q = none) : q ≠ p := fun z => by rw [z, h] at n; cases n
/-- what is refused: the error with the value -/
def Fail (E : XK) (H : Hp) (C : Addr) (v : V) : Prop := ∀ H' d, Ex H H' → H d = none → H' d = some (.xd [("value", v)]) → E (.ref C) (some d) H'
theorem Fail.ex {E : XK} {H H1 : Hp} {C : Addr} {v : V} (e : Ex H H1) (h : Fail E H C v) : Fail E H1 C v := fun H' d e1 n hd => h H' d (e.trans e1) (e.free n) hd
end M

/-! ### values shown by repr; a list of texts may grow -/
namespace M
open PySem PySem.Spec PyProof.Rows L2
theorem shown_str_le {z : List Nat} (h : okc z) : (PyData.str (S z)).shown.length ≤ 10 * z.length + 2 := by
  have := StrLaws.reprText_len (S z) fun c hc => by
    rw [S_cps] at hc
    have := h c hc
    exact Nat.lt_trans this (by decide)
  rw [S_len] at this
  simpa only [PyData.shown] using this
theorem shown_strs_sum (n : Nat) : ∀ l : List (List Nat), (∀ z ∈ l, z.length ≤ n ∧ okc z) → ((PyData.shownAll (dStrs l)).map (·.length)).sum ≤ (10 * n + 2) * l.length
  | [], _ => by simp [dStrs, PyData.shownAll]
  | z :: l, h => by
    have ih := shown_strs_sum n l fun y hy => h y (List.mem_cons_of_mem _ hy)
    have h1 := h z List.mem_cons_self
    have h2 := shown_str_le h1.2
    show ((PyData.shownAll (.str (S z) :: dStrs l)).map (·.length)).sum ≤ _
    simp only [PyData.shownAll, List.map_cons, List.sum_cons, List.length_cons, Nat.mul_add, Nat.mul_one]
    have : 10 * z.length ≤ 10 * n := by omega
    omega
theorem shownAll_len : ∀ l : List PyData, (PyData.shownAll l).length = l.length
  | [] => rfl
  | z :: l => by simp only [PyData.shownAll, List.length_cons, shownAll_len l]
theorem shown_list_le {n : Nat} {l : List (List Nat)} (h : ∀ z ∈ l, z.length ≤ n ∧ okc z) : (PyData.list (dStrs l)).shown.length ≤ (10 * n + 4) * l.length + 3 := by
  have h1 := listText_len_le (PyData.shownAll (dStrs l))
  have h2 := shown_strs_sum n l h
  rw [shownAll_len] at h1
  have h3 : (dStrs l).length = l.length := by unfold dStrs; rw [List.length_map]
  rw [h3] at h1
  simp only [PyData.shown]
  have : (10 * n + 4) * l.length = (10 * n + 2) * l.length + 2 * l.length := by rw [← Nat.add_mul]
  omega
theorem shown_tuple_le {n : Nat} {l : List (List Nat)} (h : ∀ z ∈ l, z.length ≤ n ∧ okc z) : (PyData.tuple (dStrs l)).shown.length ≤ (10 * n + 4) * l.length + 3 := by
  have h1 := tupleText_len_le (PyData.shownAll (dStrs l))
  have h2 := shown_strs_sum n l h
  rw [shownAll_len] at h1
  have h3 : (dStrs l).length = l.length := by unfold dStrs; rw [List.length_map]
  rw [h3] at h1
  simp only [PyData.shown]
  have : (10 * n + 4) * l.length = (10 * n + 2) * l.length + 2 * l.length := by rw [← Nat.add_mul]
  omega
theorem showable_strs : ∀ l : List (List Nat), PyData.showableAll (dStrs l) = true
  | [] => rfl
  | z :: l => by show PyData.showableAll (.str (S z) :: dStrs l) = true; simp only [PyData.showableAll, PyData.showable, showable_strs l, Bool.and_self]
theorem noDict_strs : ∀ l : List (List Nat), PyData.hasDictAll (dStrs l) = false
  | [] => rfl
  | z :: l => by show PyData.hasDictAll (.str (S z) :: dStrs l) = false; simp only [PyData.hasDictAll, PyData.hasDict, noDict_strs l, Bool.or_self]
end M

/-! ### texts told by repr have good signs -/
namespace M
open PySem PySem.Spec PyProof.Rows L2
def okT (x : Str) : Prop := ∀ c ∈ x.cps.toList, c < 1114112
theorem okT_strOk {x : Str} (h : okT x) : PyData.strOk x = true := by
  unfold PyData.strOk
  rw [← Array.all_toList, List.all_eq_true]
  intro c hc
  exact decide_eq_true (h c hc)
theorem char_lt (c : Char) : c.toNat < 1114112 := by
  have := c.valid
  rcases this with h | ⟨_, h⟩
  · exact Nat.lt_trans h (by decide)
  · exact h
theorem okT_app {a b : Str} (h1 : okT a) (h2 : okT b) : okT (a ++ b) := by
  intro c hc
  have e : (a ++ b).cps.toList = a.cps.toList ++ b.cps.toList := by
    show (a.cps ++ b.cps).toList = _
    simp
  rw [e] at hc
  exact (List.mem_append.mp hc).elim (h1 c) (h2 c)
theorem okT_of (s : String) : okT (Str.ofString s) := by
  intro c hc
  have e : (Str.ofString s).cps.toList = s.toList.map Char.toNat := by
    unfold Str.ofString
    rw [List.toList_toArray, cpsOfBytes_string]
  rw [e] at hc
  obtain ⟨d, _, rfl⟩ := List.mem_map.mp hc
  exact char_lt d
theorem okT_S {z : List Nat} (h : okc z) : okT (S z) := fun c hc => h c (by rw [S_cps] at hc; exact hc)
theorem hex_ok (w c : Nat) : ∀ d ∈ List.replicate (w - ((Nat.toDigits 16 c).map Char.toNat).length) 48 ++ (Nat.toDigits 16 c).map Char.toNat, d < 1114112 := fun d hd => by
  rcases List.mem_append.mp hd with h | h
  · rw [(List.mem_replicate.mp h).2]; decide
  · obtain ⟨x, _, rfl⟩ := List.mem_map.mp h
    exact char_lt x
theorem reprChar_ok (q c : Nat) (hq : q < 1114112) (hc : c < 1114112) : ∀ d ∈ Builtin.Str.reprChar q c, d < 1114112 := by
  intro d hd
  unfold Builtin.Str.reprChar at hd
  dsimp only at hd
  have h2 := hex_ok 2 c
  have h4 := hex_ok 4 c
  have h8 := hex_ok 8 c
  repeat' split at hd
  all_goals first
    | (simp only [List.mem_cons, List.not_mem_nil, or_false] at hd; omega)
    | (rcases List.mem_append.mp hd with hd | hd
       · simp only [List.mem_cons, List.not_mem_nil, or_false] at hd; omega
       · first | exact h2 d hd | exact h4 d hd | exact h8 d hd)
theorem foldl_repr_ok (q : Nat) (hq : q < 1114112) : ∀ (l : List Nat) (acc : Array Nat), (∀ c ∈ l, c < 1114112) → (∀ c ∈ acc.toList, c < 1114112) → ∀ c ∈ (l.foldl (fun out c => out ++ (Builtin.Str.reprChar q c).toArray) acc).toList, c < 1114112
  | [], acc, _, h => h
  | x :: r, acc, h1, h2 => by
    rw [List.foldl_cons]
    refine foldl_repr_ok q hq r _ (fun c hc => h1 c (List.mem_cons_of_mem _ hc)) fun c hc => ?_
    rw [Array.toList_append, List.toList_toArray] at hc
    exact (List.mem_append.mp hc).elim (h2 c) (reprChar_ok q x hq (h1 x List.mem_cons_self) c)
theorem okT_repr {x : Str} (h : okT x) : okT (reprText x) := by
  have hq : reprQuote x < 1114112 := by
    unfold reprQuote
    split <;> decide
  intro c hc
  unfold reprText at hc
  rw [← Array.foldl_toList] at hc
  simp only [Array.toList_push] at hc
  rcases List.mem_append.mp hc with hc | hc
  · exact foldl_repr_ok _ hq _ _ h (fun c hc => by rw [List.mem_singleton.mp hc]; exact hq) c hc
  · rw [List.mem_singleton.mp hc]; exact hq
theorem okT_join {s : Str} (hs : okT s) : ∀ l : List Str, (∀ x ∈ l, okT x) → okT (Str.join s l)
  | [], _ => fun c hc => by cases hc
  | [x], h => h x List.mem_cons_self
  | x :: y :: r, h => by
    have ih := okT_join hs (y :: r) fun z hz => h z (List.mem_cons_of_mem _ hz)
    show okT (x ++ s ++ Str.join s (y :: r))
    exact okT_app (okT_app (h x List.mem_cons_self) hs) ih
theorem okT_textFrom : ∀ (l : List Str) (k : Nat) (acc : Str), okT acc → (∀ x ∈ l, okT x) → okT (PySem.textFrom k acc l)
  | [], k, acc, h, _ => h
  | x :: r, k, acc, h, hl => by
    refine okT_textFrom r (k + 1) _ (okT_app (okT_app h (okT_of _)) (hl x List.mem_cons_self)) fun z hz => hl z (List.mem_cons_of_mem _ hz)
theorem okT_strs : ∀ l : List (List Nat), (∀ z ∈ l, okc z) → ∀ x ∈ PyData.shownAll (dStrs l), okT x
  | [], _ => fun x hx => by cases hx
  | z :: l, h => fun x hx => by
    have hx' : x ∈ PyData.shownAll (.str (S z) :: dStrs l) := hx
    simp only [PyData.shownAll, PyData.shown] at hx'
    rcases List.mem_cons.mp hx' with rfl | hx'
    · exact okT_repr (okT_S (h z List.mem_cons_self))
    · exact okT_strs l (fun y hy => h y (List.mem_cons_of_mem _ hy)) x hx'
theorem okT_list {l : List (List Nat)} (h : ∀ z ∈ l, okc z) : okT (PyData.list (dStrs l)).shown := by
  simp only [PyData.shown]
  exact okT_app (okT_textFrom _ 0 _ (okT_of "[") (okT_strs l h)) (okT_of "]")
theorem okT_tuple {l : List (List Nat)} (h : ∀ z ∈ l, okc z) : okT (PyData.tuple (dStrs l)).shown := by
  simp only [PyData.shown]
  exact okT_app (okT_app (okT_of "(") (okT_join (okT_of ", ") _ (okT_strs l h))) (okT_of _)
end M

namespace M
open PySem PySem.Spec PyProof.Rows L2
/-- what is shown: a value that stays, or a list of at most n texts that may grow -/
inductive Bd (K : PySem.W.Frag) (n : Nat) (H : Hp) : V → List Addr → PyData → Prop
  | st {v : V} {d : PyData} : (∀ H', Ex H H' → Sh K H' v d) → d.showable = true → d.depth ≤ 64 → d.shown.length ≤ sizeLine → okT d.shown → (∀ (H' : Hp) (Q : VK), Ex H H' → Q (.bl false) H' → mIsi K [v, .ty "list"] H' Q) → Bd K n H v [] d
  | ls {p : Addr} {l : List (List Nat)} : H p = some (.lst (tx l)) → l.length ≤ n → (∀ z ∈ l, z.length ≤ 1000 ∧ okc z) → Bd K n H (.ref p) [p] (.list (dStrs l))
theorem Bd.ex {K : PySem.W.Frag} {n : Nat} {H H' : Hp} {v : V} {m : List Addr} {d : PyData} (e : Ex H H') (h : Bd K n H v m d) : Bd K n H' v m d := by
  cases h with
  | st h1 h2 h3 h4 h6 h5 => exact .st (fun H2 e2 => h1 H2 (e.trans e2)) h2 h3 h4 h6 fun H2 Q e2 => h5 H2 Q (e.trans e2)
  | ls h1 h2 h3 => exact .ls (e _ _ h1) h2 h3
theorem Bd.mono {K : PySem.W.Frag} {n k : Nat} {H : Hp} {v : V} {m : List Addr} {d : PyData} (hk : n ≤ k) (h : Bd K n H v m d) : Bd K k H v m d := by
  cases h with
  | st h1 h2 h3 h4 h6 h5 => exact .st h1 h2 h3 h4 h6 h5
  | ls h1 h2 h3 => exact .ls h1 (by omega) h3
theorem Bd.shows {K : PySem.W.Frag} {n : Nat} {H : Hp} {v : V} {m : List Addr} {d : PyData} (h : Bd K n H v m d) (hn : n ≤ 1000) : Sh K H v d ∧ d.showable = true ∧ d.depth ≤ 64 ∧ d.shown.length ≤ sizeLine ∧ okT d.shown := by
  cases h with
  | st h1 h2 h3 h4 h6 h5 => exact ⟨h1 H (Ex.refl H), h2, h3, h4, h6⟩
  | @ls p l h1 h2 h3 =>
    have := shown_list_le h3
    refine ⟨.dp (.lst (SqL.of h1) (dp_strs l)) (by simpa only [PyData.hasDict] using noDict_strs l), by simpa only [PyData.showable] using showable_strs l, by simp only [PyData.depth, dep_strs]; decide, ?_, okT_list fun z hz => (h3 z hz).2⟩
    have h4 : (10 * 1000 + 4) * l.length ≤ (10 * 1000 + 4) * 1000 := Nat.mul_le_mul_left _ (by omega)
    rw [szl]; omega
section
variable {K : PySem.W.Frag} {n : Nat} {H : Hp}
theorem Bd.non : Bd K n H .non [] .none := .st (fun _ _ => .dp .non rfl) rfl (by decide) (by decide +kernel) (okT_of "None") fun H' Q _ q => by unfold mIsi; simp only [tyN, kb19]; exact q
theorem Bd.int (i : Int) (h1 : (PyData.int i).showable = true) (h2 : (PyData.int i).shown.length ≤ sizeLine) : Bd K n H (.int i) [] (.int i) := .st (fun _ _ => .dp (.int i) rfl) h1 (by simp only [PyData.depth]; decide) h2 (by simp only [PyData.shown]; exact okT_of _) fun H' Q _ q => by unfold mIsi; simp only [tyN, kb9]; exact q
theorem Bd.bl (b : Bool) : Bd K n H (.bl b) [] (.bool b) := .st (fun _ _ => .dp (.bl b) rfl) rfl (by simp only [PyData.depth]; decide) (by cases b <;> decide +kernel) (by simp only [PyData.shown]; cases b <;> exact okT_of _) fun H' Q _ q => by unfold mIsi; simp only [tyN, kb14]; exact q
theorem Bd.str {z : List Nat} (hz : okc z) (hl : z.length ≤ 1000000) : Bd K n H (.str (S z)) [] (.str (S z)) := .st (fun _ _ => .dp (.str _) rfl) rfl (by simp only [PyData.depth]; decide) (by have := shown_str_le hz; rw [szl]; omega) (by simp only [PyData.shown]; exact okT_repr (okT_S hz)) fun H' Q _ q => by unfold mIsi; simp only [tyN, kb4]; exact q
theorem Bd.tup {a : Addr} {l : List (List Nat)} (h : SqT K H a (tx l)) (hl : l.length ≤ 1000) (h3 : ∀ z ∈ l, z.length ≤ 1000 ∧ okc z) : Bd K n H (.ref a) [] (.tuple (dStrs l)) :=
  .st (fun _ e => .dp (.tup (e.T h) (dp_strs l)) (by simpa only [PyData.hasDict] using noDict_strs l)) (by simpa only [PyData.showable] using showable_strs l) (by simp only [PyData.depth, dep_strs]; decide) (by
    have := shown_tuple_le h3
    have h4 : (10 * 1000 + 4) * l.length ≤ (10 * 1000 + 4) * 1000 := Nat.mul_le_mul_left _ (by omega)
    rw [szl]; omega) (okT_tuple fun z hz => (h3 z hz).2) fun H' Q e q => ⟨_, _, tyX_tup (e.T h), ki_tup.2.2.2.1, q⟩
theorem Bd.dct {a : Addr} (h : H a = some (.dK [])) : Bd K n H (.ref a) [] (.dict []) := .st (fun _ e => .dct (e _ _ h) rfl) rfl (by decide) (by decide +kernel) (okT_app (okT_app (okT_of "{") (okT_join (okT_of ", ") _ fun x hx => by cases hx)) (okT_of "}")) fun H' Q e q => ⟨_, _, .base (.dK (e _ _ h)), ki_dict.2.2.2.1, q⟩
end
/-- a bad value shown stays one -/
theorem Bd.fm {K : PySem.W.Frag} {n k : Nat} {H H' : Hp} {v : V} {m : List Addr} {d d' : PyData} (h : Bd K n H v m d) (f : Fm m H H') (h' : Bd K k H' v m d') : Ex H H' ∨ ∃ p xs, v = .ref p ∧ m = [p] ∧ SqL K H' p xs := by
  cases h with
  | st => exact .inl (Fm.nil f)
  | ls => cases h' with
    | ls h1 => exact .inr ⟨_, _, rfl, rfl, SqL.of h1⟩
/-- lists [b, c, text] compared -/
theorem eq_bbs {K : PySem.W.Frag} {neg : Bool} {H : Hp} {Q : VK} {p q : Addr} {b c : Bool} {x : Str} (h1 : SqL K H p [.bl b, .bl c, .str x]) (h2 : SqL K H q [.bl b, .bl c, .str x]) (hx : okT x) (k : Q (.bl (!neg)) H) : rEqW K neg (.ref p) (.ref q) H Q := by
  have lay : (PyData.list [.bool b, .bool c, .str x]).canLay0 = true := by simp only [PyData.canLay0, PyData.canLayAll0, okT_strOk hx, Bool.and_self]
  have dp : ∀ {r : Addr}, SqL K H r [.bl b, .bl c, .str x] → Dp K H (.ref r) (.list [.bool b, .bool c, .str x]) := fun h => .lst h (.cons (.bl b) (.cons (.bl c) (.cons (.str x) .nil)))
  refine ⟨_, _, dp h1, dp h2, lay, lay, by simp only [PyData.depth, PyData.depthAll]; decide, ?_⟩
  have e : PyData.eqv (.list [.bool b, .bool c, .str x]) (.list [.bool b, .bool c, .str x]) = true := by simp [PyData.eqv, PyData.eqvAll]
  rw [e]
  cases neg <;> exact k
end M

/-! ### bad values in a row, each of them a list that may grow -/
namespace M
open PySem PySem.Spec PyProof.Rows L2
def gdL (l : List (List Nat)) : Prop := ∀ z ∈ l, z.length ≤ 1000 ∧ okc z
inductive Bw (K : PySem.W.Frag) (n : Nat) (H : Hp) : V → Prop
  | non : Bw K n H .non
  | int {i : Int} : (PyData.int i).showable = true → (PyData.int i).shown.length ≤ sizeLine → Bw K n H (.int i)
  | bl (b : Bool) : Bw K n H (.bl b)
  | str {z : List Nat} : okc z → z.length ≤ 1000000 → Bw K n H (.str (S z))
  | lst {p : Addr} {l : List (List Nat)} : H p = some (.lst (tx l)) → l.length ≤ n → gdL l → Bw K n H (.ref p)
  | tup {p : Addr} {l : List (List Nat)} : H p = some (.tup (tx l)) → l.length ≤ 1000 → gdL l → Bw K n H (.ref p)
  | dct {p : Addr} : H p = some (.dK []) → Bw K n H (.ref p)
theorem Bw.bd {K : PySem.W.Frag} {n : Nat} {H : Hp} {w : V} (h : Bw K n H w) : ∃ m d, Bd K n H w m d ∧ ∀ p ∈ m, w = .ref p := by
  cases h with
  | non => exact ⟨_, _, .non, fun p h => by cases h⟩
  | int h1 h2 => exact ⟨_, _, .int _ h1 h2, fun p h => by cases h⟩
  | bl b => exact ⟨_, _, .bl b, fun p h => by cases h⟩
  | str h1 h2 => exact ⟨_, _, .str h1 h2, fun p h => by cases h⟩
  | lst h1 h2 h3 => exact ⟨_, _, .ls h1 h2 h3, fun p h => by rw [List.mem_singleton.mp h]⟩
  | tup h1 h2 h3 => exact ⟨_, _, .tup (SqT.of h1) h2 h3, fun p h => by cases h⟩
  | dct h1 => exact ⟨_, _, .dct h1, fun p h => by cases h⟩
theorem Bw.ex {K : PySem.W.Frag} {n : Nat} {H H' : Hp} {w : V} (e : Ex H H') (h : Bw K n H w) : Bw K n H' w := by
  cases h with
  | non => exact .non
  | int h1 h2 => exact .int h1 h2
  | bl b => exact .bl b
  | str h1 h2 => exact .str h1 h2
  | lst h1 h2 h3 => exact .lst (e _ _ h1) h2 h3
  | tup h1 h2 h3 => exact .tup (e _ _ h1) h2 h3
  | dct h1 => exact .dct (e _ _ h1)
theorem Bw.step {K : PySem.W.Frag} {n k : Nat} {H H' : Hp} {v w : V} {m : List Addr} {d d' : PyData} (h : Bw K n H w) (bd : Bd K n H v m d) (f : Fm m H H') (bd' : Bd K k H' v m d') (hk : n ≤ k) : Bw K k H' w := by
  have at_ : ∀ {p : Addr} {o : HO}, H p = some o → (∀ l, o ≠ .lst (tx l)) → H' p = some o := fun {p o} h n => by
    refine f p o (fun hp => ?_) h
    cases bd with
    | st => cases hp
    | ls h1 => rw [List.mem_singleton.mp hp, h1] at h; cases h; exact n _ rfl
  cases h with
  | non => exact .non
  | int h1 h2 => exact .int h1 h2
  | bl b => exact .bl b
  | str h1 h2 => exact .str h1 h2
  | @lst p l h1 h2 h3 =>
    by_cases hp : p ∈ m
    · cases bd' with
      | st => cases hp
      | ls g1 g2 g3 => rw [List.mem_singleton.mp hp]; exact .lst g1 g2 g3
    · exact .lst (f p _ hp h1) (by omega) h3
  | tup h1 h2 h3 => exact .tup (at_ h1 fun l z => by cases z) h2 h3
  | dct h1 => exact .dct (at_ h1 fun l z => by cases z)
/-- the addresses of a value -/
def rf : V → List Addr
  | .ref p => [p]
  | _ => []
theorem rf_mem {v : V} {p : Addr} : p ∈ rf v ↔ v = .ref p := by
  cases v <;> simp [rf, eq_comm]
theorem Bw.stp {K : PySem.W.Frag} {n k : Nat} {H H' : Hp} {v w : V} (h : Bw K n H w) (f : Fm (rf v) H H') (b : Bw K k H' v) (hk : n ≤ k) : Bw K k H' w := by
  have at_ : ∀ {p : Addr} {o : HO}, H p = some o → v ≠ .ref p → H' p = some o := fun {p o} h n => f p o (fun hp => n (rf_mem.mp hp)) h
  cases h with
  | non => exact .non
  | int h1 h2 => exact .int h1 h2
  | bl b => exact .bl b
  | str h1 h2 => exact .str h1 h2
  | @lst p l h1 h2 h3 =>
    by_cases e : v = .ref p
    · rw [← e]; exact b
    · exact .lst (at_ h1 e) (by omega) h3
  | @tup p l h1 h2 h3 =>
    by_cases e : v = .ref p
    · rw [← e]; exact b
    · exact .tup (at_ h1 e) h2 h3
  | @dct p h1 =>
    by_cases e : v = .ref p
    · rw [← e]; exact b
    · exact .dct (at_ h1 e)
theorem SqL.fm {K : PySem.W.Frag} {H H' : Hp} {m : List Addr} {q : Addr} {xs : List V} (hq : q ∉ m) (f : Fm m H H') (hL : SqL K H q xs) : SqL K H' q xs := by
  rcases hL with h | h
  · rcases h with h | ⟨o, h⟩
    · exact .inl (.inl (f _ _ hq h))
    · exact .inl (.inr ⟨o, f _ _ hq h⟩)
  · exact .inr h
theorem Fm.mono {a b : List Addr} {H H' : Hp} (h : ∀ x ∈ a, x ∈ b) (f : Fm a H H') : Fm b H H' := fun x o n => f x o fun y => n (h x y)
theorem Tr.s_okc : ∀ t : Tr, okc t.s
  | .lf => fun c h => by rw [List.mem_singleton.mp h]; decide
  | .nd a b => fun c h => by
    simp only [Tr.s, List.mem_cons, List.mem_append, List.not_mem_nil, or_false] at h
    rcases h with rfl | h | h | rfl
    · decide
    · exact Tr.s_okc a c h
    · exact Tr.s_okc b c h
    · decide
/-- what is new may change -/
theorem Fm.exN {m : List Addr} {H H1 H2 : Hp} (e : Ex H H1) (n : ∀ p ∈ m, H p = none) (f : Fm m H1 H2) : Ex H H2 := fun a o h => f a o (fun z => by rw [n a z] at h; cases h) (e a o h)
end M

/-! ### roads and parts -/
namespace M
open PySem PySem.Spec PyProof.Rows L2
theorem isAd_app {a b : List Nat} (h1 : isAd a = true) (h2 : isAd b = true) : isAd (a ++ b) = true := by
  unfold isAd at h1 h2 ⊢
  rw [decide_eq_true_eq] at h1 h2 ⊢
  exact fun c hc => (List.mem_append.mp hc).elim (h1 c) (h2 c)
theorem Tr.att_app : ∀ (a b : List Nat) (t : Tr), t.att (a ++ b) = (t.att a).bind fun u => u.att b
  | [], b, t => by rw [Tr.att_nil]; rfl
  | c :: a, b, .lf => rfl
  | c :: a, b, .nd l r => by
    show (if c = 114 then r.att (a ++ b) else l.att (a ++ b)) = (if c = 114 then r.att a else l.att a).bind _
    split
    · exact Tr.att_app a b r
    · exact Tr.att_app a b l
theorem lvs_att : ∀ (t : Tr) (r z : List Nat), z ∈ t.lvs r → ∃ s, z = r ++ s ∧ isAd s = true ∧ t.att s = some .lf
  | .lf, r, z, h => ⟨[], by rw [List.mem_singleton.mp h]; simp, rfl, rfl⟩
  | .nd a b, r, z, h => by
    rcases List.mem_append.mp h with h | h
    · obtain ⟨s, e, h1, h2⟩ := lvs_att a _ z h
      exact ⟨108 :: s, by rw [e]; simp, isAd_app (a := [108]) (by decide) h1, h2⟩
    · obtain ⟨s, e, h1, h2⟩ := lvs_att b _ z h
      exact ⟨114 :: s, by rw [e]; simp, isAd_app (a := [114]) (by decide) h1, h2⟩
theorem nds_att : ∀ (t : Tr) (r z : List Nat), z ∈ t.nds r → ∃ s a b, z = r ++ s ∧ isAd s = true ∧ t.att s = some (.nd a b)
  | .lf, r, z, h => by cases h
  | .nd a b, r, z, h => by
    rcases List.mem_append.mp h with h | h
    · obtain ⟨s, x, y, e, h1, h2⟩ := nds_att a _ z h
      exact ⟨108 :: s, x, y, by rw [e]; simp, isAd_app (a := [108]) (by decide) h1, h2⟩
    · rcases List.mem_append.mp h with h | h
      · exact ⟨[], a, b, by rw [List.mem_singleton.mp h]; simp, rfl, rfl⟩
      · obtain ⟨s, x, y, e, h1, h2⟩ := nds_att b _ z h
        exact ⟨114 :: s, x, y, by rw [e]; simp, isAd_app (a := [114]) (by decide) h1, h2⟩
theorem lvs_off {t : Tr} {z w : List Nat} (h : t.att z = some .lf) (hw : w ≠ []) : t.att (z ++ w) = none := by
  rw [Tr.att_app, h]
  cases w with
  | nil => exact absurd rfl hw
  | cons c w => rfl
/-- the tuples of a nest are no list -/
theorem Nst.fm {K : PySem.W.Frag} {m : List Addr} {H H' : Hp} {v : V} {t : Tr} (hm : ∀ p ∈ m, H p = none ∨ ∃ xs, H p = some (.lst xs)) (f : Fm m H H') (h : Nst K H v t) : Nst K H' v t := by
  have T : ∀ {a : Addr} {xs : List V}, SqT K H a xs → SqT K H' a xs := fun {a xs} h => by
    have no : ∀ {o : HO}, H a = some o → (∀ ys, o ≠ .lst ys) → H' a = some o := fun {o} e n => f a o (fun z => by
      rcases hm a z with w | ⟨ys, w⟩
      · rw [w] at e; cases e
      · rw [w] at e; cases e; exact n _ rfl) e
    rcases h with h | h
    · rcases h with h | ⟨o, h⟩
      · exact .inl (.inl (no h fun _ z => by cases z))
      · exact .inl (.inr ⟨o, no h fun _ z => by cases z⟩)
    · exact .inr h
  induction h with
  | lf h => exact .lf (T h)
  | nd h _ _ i1 i2 => exact .nd (T h) i1 i2
theorem Pu.fmo {H H1 : Hp} {g : Addr} {n : Nat} {m : List Addr} (h : g ∉ m) (e : Fm m H H1) (p : Pu H g n) : Pu H1 g n := by
  obtain ⟨a, b, c, h1, r⟩ := p
  exact ⟨a, b, c, e _ _ h h1, r⟩
theorem isTr_dot (t : Tr) : isTr (t.s ++ [46]) = false := by
  unfold isTr
  rw [itRun_app, itRun_tree]
  rfl
theorem Fm.exg {H H1 H2 : Hp} {g : Addr} (e : Ex H H1) (n : H g = none) (f : Fm [g] H1 H2) : Ex H H2 := Fm.exN e (fun p hp => by rw [List.mem_singleton.mp hp]; exact n) f
theorem Pu.lst {H : Hp} {g : Addr} {n : Nat} (p : Pu H g n) : ∃ xs, H g = some (.lst xs) := by
  obtain ⟨a, b, c, h1, r⟩ := p
  exact ⟨_, h1⟩
theorem Pu.ne {H : Hp} {g p : Addr} {n : Nat} (h : Pu H g n) (hp : H p = none) : p ≠ g := fun z => by
  obtain ⟨_, _, _, z1, _⟩ := h
  rw [z, z1] at hp; cases hp
end M

/-! ### a refusal that is caught; values that are shown and stay -/
namespace M
open PySem PySem.Spec PyProof.Rows L2
theorem fin_go {K : PySem.W.Frag} {aT C : Addr} {i j : Nat} {D : Ends} {σ : Sl} {H : Hp} {v : V} (x1 : PySem.W.exmOne K (.ref C) (.ref aT) = some true)
    (k : ∀ (a dd : Addr) (H' : Hp), Ex H H' → H' a = some (exk a (.ref C) (some dd)) → H' dd = some (.xd [("value", v)]) → H a = none → H dd = none → D.nx ((σ.set j (some (.ref a))).set i none) H') : Fail (WE (wK K (.ref aT) i j D) σ) H C v := fun H' dd e nd hd =>
  ⟨x1, fun a na => k a dd _ (e.push na) upd_same (Ex.new na _ _ hd) (e.free na) nd⟩
theorem okT_none : okT (PyData.none).shown := okT_of "None"
theorem okT_dct : okT (PyData.dict []).shown := okT_app (okT_app (okT_of "{") (okT_join (okT_of ", ") [] fun x hx => by cases hx)) (okT_of "}")
theorem okT_int (i : Int) : okT (PyData.int i).shown := by simp only [PyData.shown]; exact okT_of _
theorem okT_bl (b : Bool) : okT (PyData.bool b).shown := by simp only [PyData.shown]; cases b <;> exact okT_of _
theorem okT_str {z : List Nat} (h : okc z) : okT (PyData.str (S z)).shown := by simp only [PyData.shown]; exact okT_repr (okT_S h)
/-- a value that stays, and is shown -/
def Sv (K : PySem.W.Frag) (H : Hp) (v : V) (d : PyData) : Prop := (∀ H', Ex H H' → Sh K H' v d) ∧ d.showable = true ∧ d.depth ≤ 64 ∧ d.shown.length ≤ sizeLine
theorem Sv.ex {K : PySem.W.Frag} {H H' : Hp} {v : V} {d : PyData} (e : Ex H H') (h : Sv K H v d) : Sv K H' v d := ⟨fun H2 e2 => h.1 H2 (e.trans e2), h.2⟩
section
variable {K : PySem.W.Frag} {H : Hp}
theorem Sv.non : Sv K H .non .none := ⟨fun _ _ => .dp .non rfl, rfl, by decide, by decide +kernel⟩
theorem Sv.int (i : Int) (h1 : (PyData.int i).showable = true) (h2 : (PyData.int i).shown.length ≤ sizeLine) : Sv K H (.int i) (.int i) := ⟨fun _ _ => .dp (.int i) rfl, h1, by simp only [PyData.depth]; decide, h2⟩
theorem Sv.bl (b : Bool) : Sv K H (.bl b) (.bool b) := ⟨fun _ _ => .dp (.bl b) rfl, rfl, by simp only [PyData.depth]; decide, by cases b <;> decide +kernel⟩
theorem Sv.str {z : List Nat} (hz : okc z) (hl : z.length ≤ 1000000) : Sv K H (.str (S z)) (.str (S z)) := ⟨fun _ _ => .dp (.str _) rfl, rfl, by simp only [PyData.depth]; decide, by have := shown_str_le hz; rw [szl]; omega⟩
theorem Sv.dct {a : Addr} (h : H a = some (.dK [])) : Sv K H (.ref a) (.dict []) := ⟨fun _ e => .dct (e _ _ h) rfl, rfl, by decide, by decide +kernel⟩
theorem Sv.lst {a : Addr} {xs : List V} {ds : List PyData} (h : SqL K H a xs) (hd : ∀ H', Ex H H' → DpAll K H' xs ds) (h1 : (PyData.list ds).hasDict = false) (h2 : (PyData.list ds).showable = true) (h3 : (PyData.list ds).depth ≤ 64) (h4 : (PyData.list ds).shown.length ≤ sizeLine) : Sv K H (.ref a) (.list ds) :=
  ⟨fun H' e => .dp (.lst (e.L h) (hd H' e)) h1, h2, h3, h4⟩
theorem Sv.tup {a : Addr} {xs : List V} {ds : List PyData} (h : SqT K H a xs) (hd : ∀ H', Ex H H' → DpAll K H' xs ds) (h1 : (PyData.tuple ds).hasDict = false) (h2 : (PyData.tuple ds).showable = true) (h3 : (PyData.tuple ds).depth ≤ 64) (h4 : (PyData.tuple ds).shown.length ≤ sizeLine) : Sv K H (.ref a) (.tuple ds) :=
  ⟨fun H' e => .dp (.tup (e.T h) (hd H' e)) h1, h2, h3, h4⟩
end
end M

/-! ### a text read into nested pairs: the open parts, the inmost first -/
namespace M
open PySem PySem.Spec PyProof.Rows L2
def rtStep : List (List Tr) → Nat → Option (List (List Tr))
  | [], _ => none
  | top :: rest, c => if c = 40 then some ([] :: top :: rest) else if c = 46 then some ((top ++ [.lf]) :: rest) else if c = 41 then (match top, rest with
    | [a, b], up :: r => some ((up ++ [.nd a b]) :: r)
    | _, _ => none) else none
def rtRun : List (List Tr) → List Nat → Option (List (List Tr))
  | st, [] => some st
  | st, c :: r => (rtStep st c).bind fun st' => rtRun st' r
theorem rtStep_cons (top : List Tr) (rest : List (List Tr)) (c : Nat) : rtStep (top :: rest) c = if c = 40 then some ([] :: top :: rest) else if c = 46 then some ((top ++ [.lf]) :: rest) else if c = 41 then (match top, rest with
    | [a, b], up :: r => some ((up ++ [.nd a b]) :: r)
    | _, _ => none) else none := rfl
theorem rt_tree : ∀ (t : Tr) (top : List Tr) (rest : List (List Tr)) (z : List Nat), rtRun (top :: rest) (t.s ++ z) = rtRun ((top ++ [t]) :: rest) z
  | .lf, top, rest, z => by simp [Tr.s, rtRun, rtStep]
  | .nd a b, top, rest, z => by
    show (rtStep (top :: rest) 40).bind (fun st' => rtRun st' ((a.s ++ (b.s ++ [41])) ++ z)) = _
    have e : rtStep (top :: rest) 40 = some ([] :: top :: rest) := by simp [rtStep]
    rw [e]
    show rtRun ([] :: top :: rest) ((a.s ++ (b.s ++ [41])) ++ z) = _
    rw [List.append_assoc, List.append_assoc, rt_tree a, rt_tree b]
    show (rtStep _ 41).bind (fun st' => rtRun st' z) = _
    have e2 : rtStep ((([] ++ [a]) ++ [b]) :: top :: rest) 41 = some ((top ++ [.nd a b]) :: rest) := by simp [rtStep]
    rw [e2]; rfl
def catT (l : List Tr) : List Nat := l.flatMap Tr.s
def unp : List (List Tr) → List Nat
  | [] => []
  | [l] => catT l
  | top :: r => unp r ++ 40 :: catT top
theorem unp_top (top : List Tr) (t : Tr) (rest : List (List Tr)) : unp ((top ++ [t]) :: rest) = unp (top :: rest) ++ t.s := by
  cases rest with
  | nil => simp [unp, catT]
  | cons a r => simp [unp, catT]
theorem rt_unp {st st' : List (List Tr)} {c : Nat} (h : rtStep st c = some st') : unp st' = unp st ++ [c] := by
  cases st with
  | nil => cases h
  | cons top rest =>
    rw [rtStep_cons] at h
    split at h
    · rename_i e; cases h; subst e; simp [unp, catT]
    · split at h
      · rename_i e; cases h; subst e; rw [unp_top]; rfl
      · split at h
        · rename_i e
          subst e
          split at h
          · cases h
            rw [unp_top]
            simp [unp, catT, Tr.s]
          · cases h
        · cases h
theorem rt_unpR : ∀ (z : List Nat) (st st' : List (List Tr)), rtRun st z = some st' → unp st' = unp st ++ z
  | [], st, st', h => by cases h; simp
  | c :: z, st, st', h => by
    have h' : (rtStep st c).bind (fun s => rtRun s z) = some st' := h
    cases e : rtStep st c with
    | none => rw [e] at h'; cases h'
    | some s =>
      rw [e] at h'
      rw [rt_unpR z s st' h', rt_unp e]
      simp
theorem rt_yes (t : Tr) : rtRun [[]] t.s = some [[t]] := by
  have := rt_tree t [] [] []
  simpa [rtRun] using this
theorem rt_back {z : List Nat} {t : Tr} (h : rtRun [[]] z = some [[t]]) : z = t.s := by
  have := rt_unpR z _ _ h
  simpa [unp, catT] using this.symm
theorem rt_ne {st st' : List (List Tr)} {c : Nat} (h : rtStep st c = some st') : st' ≠ [] := by
  cases st with
  | nil => cases h
  | cons top rest =>
    rw [rtStep_cons] at h
    split at h
    · cases h; simp
    · split at h
      · cases h; simp
      · split at h
        · split at h
          · cases h; simp
          · cases h
        · cases h
/-! the heap of the open parts -/
inductive NsA (K : PySem.W.Frag) (H : Hp) : List V → List Tr → Prop
  | nil : NsA K H [] []
  | cons {v : V} {t : Tr} {vs : List V} {ts : List Tr} : Nst K H v t → NsA K H vs ts → NsA K H (v :: vs) (t :: ts)
theorem NsA.nl {K : PySem.W.Frag} {H H' : Hp} (e : Nl H H') {vs : List V} {ts : List Tr} (h : NsA K H vs ts) : NsA K H' vs ts := by
  induction h with
  | nil => exact .nil
  | cons h _ ih => exact .cons (h.nl e) ih
theorem NsA.app {K : PySem.W.Frag} {H : Hp} {vs ws : List V} {ts us : List Tr} (h : NsA K H vs ts) (g : NsA K H ws us) : NsA K H (vs ++ ws) (ts ++ us) := by
  induction h with
  | nil => exact g
  | cons h _ ih => exact .cons h ih
theorem NsA.len {K : PySem.W.Frag} {H : Hp} {vs : List V} {ts : List Tr} (h : NsA K H vs ts) : vs.length = ts.length := by
  induction h with
  | nil => rfl
  | cons h _ ih => simp [ih]
inductive StA (K : PySem.W.Frag) (H : Hp) : List Addr → List (List Tr) → Prop
  | nil : StA K H [] []
  | cons {p : Addr} {ps : List Addr} {vs : List V} {l : List Tr} {st : List (List Tr)} : H p = some (.lst vs) → NsA K H vs l → StA K H ps st → StA K H (p :: ps) (l :: st)
theorem StA.len {K : PySem.W.Frag} {H : Hp} {ps : List Addr} {st : List (List Tr)} (h : StA K H ps st) : ps.length = st.length := by
  induction h with
  | nil => rfl
  | cons h _ _ ih => simp [ih]
theorem StA.keep {K : PySem.W.Frag} {H H' : Hp} (e : Nl H H') {ps : List Addr} {st : List (List Tr)} (f : ∀ p ∈ ps, ∀ o, H p = some o → H' p = some o) (h : StA K H ps st) : StA K H' ps st := by
  induction h with
  | nil => exact .nil
  | cons h n _ ih => exact .cons (f _ List.mem_cons_self _ h) (n.nl e) (ih fun p hp => f p (List.mem_cons_of_mem _ hp))
structure Rt (K : PySem.W.Frag) (H0 H : Hp) (o : Addr) (ps : List Addr) (st : List (List Tr)) : Prop where
  ex : Ex H0 H
  ho : H o = some (.lst (ps.reverse.map V.ref))
  n0 : H0 o = none
  nd : ps.Nodup
  no : o ∉ ps
  np : ∀ p ∈ ps, H0 p = none
  sa : StA K H ps st
theorem Rt.new {K : PySem.W.Frag} {H0 H : Hp} {o : Addr} {ps : List Addr} {st : List (List Tr)} (r : Rt K H0 H o ps st) {q : Addr} {x : HO} (h : H q = none) : Rt K H0 (upd H q x) o ps st :=
  ⟨r.ex.push h, Ex.new h _ _ r.ho, r.n0, r.nd, r.no, r.np, r.sa.keep (Nl.new h) fun p _ o ho => Ex.new h _ _ ho⟩
theorem Rt.top {K : PySem.W.Frag} {H0 H : Hp} {o p : Addr} {ps : List Addr} {l : List Tr} {st : List (List Tr)} (r : Rt K H0 H o (p :: ps) (l :: st)) : ∃ vs, H p = some (.lst vs) ∧ NsA K H vs l := by
  cases r.sa with
  | cons h n _ => exact ⟨_, h, n⟩
/-- the inmost open part gets one more -/
theorem Rt.put {K : PySem.W.Frag} {H0 H : Hp} {o p : Addr} {ps : List Addr} {l : List Tr} {st : List (List Tr)} {vs : List V} {v : V} {t : Tr} (r : Rt K H0 H o (p :: ps) (l :: st)) (hp : H p = some (.lst vs)) (hv : Nst K H v t) : Rt K H0 (upd H p (.lst (vs ++ [v]))) o (p :: ps) ((l ++ [t]) :: st) := by
  have op : o ≠ p := fun z => r.no (by rw [z]; exact List.mem_cons_self)
  have e : Nl H (upd H p (.lst (vs ++ [v]))) := Nl.mut hp
  refine ⟨r.ex.mut (r.np p List.mem_cons_self), (upd_ne op).trans r.ho, r.n0, r.nd, r.no, r.np, ?_⟩
  cases r.sa with
  | cons h n s =>
    rw [hp] at h
    cases h
    refine .cons upd_same (NsA.app (n.nl e) (.cons (hv.nl e) .nil)) (s.keep e fun q hq o ho => ?_)
    have : q ≠ p := fun z => (List.nodup_cons.mp r.nd).1 (z ▸ hq)
    exact (upd_ne this).trans ho
/-- one more open part -/
theorem Rt.open_ {K : PySem.W.Frag} {H0 H : Hp} {o q : Addr} {ps : List Addr} {st : List (List Tr)} (r : Rt K H0 H o ps st) (h : H q = none) : Rt K H0 (upd (upd H q (.lst [])) o (.lst (ps.reverse.map V.ref ++ [.ref q]))) o (q :: ps) ([] :: st) := by
  have r1 := r.new (x := .lst []) h
  have qo : q ≠ o := fun z => by rw [z, r.ho] at h; cases h
  have qp : q ∉ ps := fun hq => by
    have : ∀ {ps : List Addr} {st : List (List Tr)}, StA K H ps st → q ∈ ps → False := fun {ps st} s => by
      induction s with
      | nil => intro z; cases z
      | cons a _ _ ih =>
        intro z
        rcases List.mem_cons.mp z with e | z
        · rw [← e, h] at a; cases a
        · exact ih z
    exact this r.sa hq
  have e : Nl (upd H q (.lst [])) (upd (upd H q (.lst [])) o (.lst (ps.reverse.map V.ref ++ [.ref q]))) := Nl.mut r1.ho
  refine ⟨r1.ex.mut r.n0, by rw [upd_same]; simp, r.n0, List.nodup_cons.mpr ⟨qp, r.nd⟩, ?_, ?_, .cons ((upd_ne qo).trans upd_same) .nil (r1.sa.keep e fun p hp x hx => ?_)⟩
  · intro z
    rcases List.mem_cons.mp z with e | z
    · exact qo e.symm
    · exact r.no z
  · intro p hp
    rcases List.mem_cons.mp hp with rfl | hp
    · exact r.ex.free h
    · exact r.np p hp
  · have : p ≠ o := fun z => r.no (z ▸ hp)
    exact (upd_ne this).trans hx
/-- the inmost open part is taken off -/
theorem Rt.pop {K : PySem.W.Frag} {H0 H : Hp} {o p : Addr} {ps : List Addr} {l : List Tr} {st : List (List Tr)} (r : Rt K H0 H o (p :: ps) (l :: st)) : Rt K H0 (upd H o (.lst (ps.reverse.map V.ref))) o ps st := by
  have e : Nl H (upd H o (.lst (ps.reverse.map V.ref))) := Nl.mut r.ho
  refine ⟨r.ex.mut r.n0, upd_same, r.n0, (List.nodup_cons.mp r.nd).2, fun z => r.no (List.mem_cons_of_mem _ z), fun q hq => r.np q (List.mem_cons_of_mem _ hq), ?_⟩
  cases r.sa with
  | cons h n s => exact s.keep e fun q hq x hx => (upd_ne (fun z => r.no (by rw [← z]; exact List.mem_cons_of_mem _ hq))).trans hx
end M

/-! ### heights and leans -/
namespace M
open PySem PySem.Spec PyProof.Rows L2
namespace Tr
def meas : Tr → List Int → Int × List Int
  | .lf, row => (row.headD 0, [])
  | .nd a b, row => (1 + max (a.meas (row.take (a.n + 1))).1 (b.meas (row.drop (a.n + 1))).1, (a.meas (row.take (a.n + 1))).2 ++ ([(a.meas (row.take (a.n + 1))).1 - (b.meas (row.drop (a.n + 1))).1] ++ (b.meas (row.drop (a.n + 1))).2))
theorem meas_len : ∀ (t : Tr) (row : List Int), (t.meas row).2.length = t.n
  | .lf, _ => rfl
  | .nd a b, row => by
    simp only [meas, n, List.length_append, List.length_singleton, meas_len a, meas_len b]; omega
def evn (t : Tr) (row : List Int) (s : Int) : Bool := (t.meas row).2.all fun d => decide ((d.natAbs : Int) ≤ s)
end Tr
/-- the fewest nodes by heights -/
def nup (s : Nat) : Nat → List Nat
  | 0 => [0]
  | n + 1 => nup s n ++ [1 + (nup s n).getD n 0 + (nup s n).getD (n - s) 0]
def least (s n : Nat) : Nat := (nup s n).getD n 0
theorem nup_len (s : Nat) : ∀ n, (nup s n).length = n + 1
  | 0 => rfl
  | n + 1 => by simp [nup, nup_len s n]
theorem nup_get (s : Nat) : ∀ n i, i ≤ n → (nup s n).getD i 0 = least s i
  | 0, i, h => by obtain rfl : i = 0 := by omega
                  rfl
  | n + 1, i, h => by
    by_cases e : i = n + 1
    · subst e; rfl
    · have := nup_get s n i (by omega)
      rw [← this, nup, List.getD_eq_getElem?_getD, List.getD_eq_getElem?_getD, List.getElem?_append_left (by rw [nup_len]; omega)]
      first | rfl | simp [List.getD_eq_getElem?_getD]
theorem least_succ (s n : Nat) : least s (n + 1) = 1 + least s n + least s (n - s) := by
  have e : least s (n + 1) = 1 + (nup s n).getD n 0 + (nup s n).getD (n - s) 0 := by
    unfold least
    rw [nup, List.getD_eq_getElem?_getD, List.getElem?_append_right (by rw [nup_len]; exact Nat.le_refl _), nup_len]
    simp
  rw [e, nup_get s n n (Nat.le_refl _), nup_get s n (n - s) (by omega)]
theorem least_zero (s : Nat) : least s 0 = 0 := rfl
theorem least_le (s : Nat) : ∀ n, least s n ≤ least s (n + 1) := fun n => by rw [least_succ]; omega
theorem least_mono (s : Nat) {m n : Nat} (h : m ≤ n) : least s m ≤ least s n := by
  induction h with
  | refl => exact Nat.le_refl _
  | step _ ih => exact Nat.le_trans ih (least_le s _)
theorem nup_at (s n i : Nat) (h : i ≤ n) : atI ((nup s n).map fun (k : Nat) => V.int (k : Int)) (i : Int) = some (.int (least s i : Int)) := by
  rw [aI_nat, List.getElem?_map, ← nup_get s n i h, List.getD_eq_getElem?_getD, List.getElem?_eq_getElem (by rw [nup_len]; omega)]
  rfl
namespace Tr
def ht : Tr → Nat
  | .lf => 0
  | .nd a b => 1 + max a.ht b.ht
def lz : Tr → List Int
  | .lf => []
  | .nd a b => a.lz ++ ([(a.ht : Int) - (b.ht : Int)] ++ b.lz)
theorem meas_zero : ∀ t : Tr, t.meas (List.replicate (t.n + 1) 0) = ((t.ht : Int), t.lz)
  | .lf => rfl
  | .nd a b => by
    have h1 : (List.replicate (a.n + b.n + 1 + 1) (0 : Int)).take (a.n + 1) = List.replicate (a.n + 1) 0 := by rw [List.take_replicate]; congr 1; omega
    have h2 : (List.replicate (a.n + b.n + 1 + 1) (0 : Int)).drop (a.n + 1) = List.replicate (b.n + 1) 0 := by rw [List.drop_replicate]; congr 1; omega
    simp only [meas, n, h1, h2, meas_zero a, meas_zero b, ht, lz]
    congr 1
    omega
end Tr
def combL : Nat → Tr
  | 0 => .lf
  | k + 1 => .nd (combL k) .lf
def combR : Nat → Tr
  | 0 => .lf
  | k + 1 => .nd .lf (combR k)
theorem combL_n : ∀ k, (combL k).n = k
  | 0 => rfl
  | k + 1 => by show (combL k).n + 0 + 1 = k + 1; rw [combL_n k]
theorem combR_n : ∀ k, (combR k).n = k
  | 0 => rfl
  | k + 1 => by show 0 + (combR k).n + 1 = k + 1; rw [combR_n k]; omega
theorem Tr.ht_le : ∀ t : Tr, t.ht ≤ t.n
  | .lf => Nat.le_refl _
  | .nd a b => by
    have := Tr.ht_le a
    have := Tr.ht_le b
    simp only [Tr.ht, Tr.n]; omega
theorem combL_ht : ∀ k, (combL k).ht = k
  | 0 => rfl
  | k + 1 => by show 1 + max (combL k).ht 0 = k + 1; rw [combL_ht k]; omega
theorem combR_ht : ∀ k, (combR k).ht = k
  | 0 => rfl
  | k + 1 => by show 1 + max 0 (combR k).ht = k + 1; rw [combR_ht k]; omega
theorem repl0M (n : Nat) : (List.replicate n [V.int 0]).flatten = (List.replicate n (0 : Int)).map V.int := by simp
theorem eq_nilI {K : PySem.W.Frag} {H : Hp} {Q : VK} {p q : Addr} {l : List Int} (h1 : SqL K H p (l.map V.int)) (h2 : SqL K H q []) (k : Q (.bl (decide (l = []))) H) : rEqW K false (.ref p) (.ref q) H Q :=
  eq_ints (a := l) (b := []) h1 h2 k
end M

namespace Pf
open PySem PySem.Spec PyProof.Rows L2 M
def top (i : Nat) : Stmt := PySem.Challenge.pw_treeturns_k50_balanced_trees.main.body.getD i (.Pass ⟨0, 0, 0, 0⟩)
def rd_is_whole (K : PySem.W.Frag) : TS := (tRet (mAndV (tCB (mIsi K) (tCons (mVar 0) (tCons (mC (.ty "int")) tNil))) (mNotV (tCB (mIsi K) (tCons (mVar 0) (tCons (mC (.ty "bool")) tNil))))))
abbrev N_is_whole : List Str := ["value"]
@[reducible] def rd_is_tree_b1 (K : PySem.W.Frag) (D : Ends) (σ : Sl) (H : Hp) : Prop := ((tIfS (mTest (tOp (mEq K) (mVar 2) (mC (.str (S [41]))))) (tSeq (tIfS (mTest (tOp (mNe K) (tSl (mSl K) (mVar 1) (mPart (mUn (fun i => -i) (mC (.int 3)))) tNoPart) (mC (.str (S [40, 46, 46]))))) (tRet (mC (.bl false))) tNext)
  (tAsg (tOp mAdd (tSl (mSl K) (mVar 1) tNoPart (mPart (mUn (fun i => -i) (mC (.int 3))))) (mC (.str (S [46])))) (gName 1))) (tIfS (mInTT false (mVar 2) (tCons (mC (.str (S [40]))) (tCons (mC (.str (S [46]))) tNil))) (tAsg (tOp mAdd (mVar 1) (mVar 2)) (gName 1)) (tRet (mC (.bl false))))) : TS) D σ H
def rd_is_tree (K : PySem.W.Frag) : TS := (tSeq (tIfS (tNot (mTest (tCB (mIsi K) (tCons (mVar 0) (tCons (mC (.ty "str")) tNil))))) (tRet (mC (.bl false))) tNext)
  (tSeq (tAsg (mC (.str (S []))) (gName 1))
  (tSeq (mFor (mIter K (mVar 0)) (gName 2) (rd_is_tree_b1 K))
  (tRet (tOp (mEq K) (mVar 1) (mC (.str (S [46]))))))))
abbrev N_is_tree : List Str := ["value", "waiting", "sign"]
def rd_check_tree (K : PySem.W.Frag) (sp_is_tree : Sp) (a_InvalidTree : Addr) (E : XK) : TS := (tIfS (tNot (mTest (tCall sp_is_tree [] E0 (tCons (mVar 0) tNil)))) (mRaise a_InvalidTree "value" (tCons (mVar 0) tNil) E) tNext)
abbrev N_check_tree : List Str := ["value"]
@[reducible] def rd_end_of_b1 (K : PySem.W.Frag) (D : Ends) (σ : Sl) (H : Hp) : Prop := ((tSeq (tIfS (mTest (tOp (mEq K) (tOp (mIx K) (mVar 0) (mVar 2)) (mC (.str (S [40]))))) (tAsg (tOp mAdd (mVar 3) (mC (.int 1))) (gName 3)) (tIfS (mTest (tOp (mEq K) (tOp (mIx K) (mVar 0) (mVar 2)) (mC (.str (S [41]))))) (tAsg (tOp mSub (mVar 3) (mC (.int 1))) (gName 3)) tNext))
  (tSeq (tAsg (tOp mAdd (mVar 2) (mC (.int 1))) (gName 2))
  (tIfS (mTest (tOp (mEq K) (mVar 3) (mC (.int 0)))) (tRet (mVar 2)) tNext))) : TS) D σ H
def rd_end_of (K : PySem.W.Frag) : TS := (tSeq (tAsg (mVar 1) (gName 2))
  (tSeq (tAsg (mC (.int 0)) (gName 3))
  (mWhile (mTest (mC (.bl true))) (rd_end_of_b1 K))))
abbrev N_end_of : List Str := ["tree", "start", "at", "opened"]
@[reducible] def rd_joined_trees_b1 (K : PySem.W.Frag) (sp_end_of : Sp) (D : Ends) (σ : Sl) (H : Hp) : Prop := ((tIfS (mTest (tOp (mEq K) (tOp (mIx K) (mVar 0) (mVar 3)) (mC (.str (S [46]))))) (tSeq (tAsg (tCall sp_end_of [] E0 (tCons (mVar 1) (tCons (mVar 4) tNil))) (gName 5))
  (tSeq (tAsg (tOp mAdd (mVar 2) (tSl (mSl K) (mVar 1) (mPart (mVar 4)) (mPart (mVar 5)))) (gName 2))
  (tSeq (tAsg (tOp mAdd (mVar 3) (mC (.int 1))) (gName 3))
  (tAsg (mVar 5) (gName 4))))) (tIfS (mTest (tOp (mEq K) (tOp (mIx K) (mVar 1) (mVar 4)) (mC (.str (S [46]))))) (tSeq (tAsg (tCall sp_end_of [] E0 (tCons (mVar 0) (tCons (mVar 3) tNil))) (gName 5))
  (tSeq (tAsg (tOp mAdd (mVar 2) (tSl (mSl K) (mVar 0) (mPart (mVar 3)) (mPart (mVar 5)))) (gName 2))
  (tSeq (tAsg (mVar 5) (gName 3))
  (tAsg (tOp mAdd (mVar 4) (mC (.int 1))) (gName 4))))) (tSeq (tAsg (tOp mAdd (mVar 2) (tOp (mIx K) (mVar 0) (mVar 3))) (gName 2))
  (tSeq (tAsg (tOp mAdd (mVar 3) (mC (.int 1))) (gName 3))
  (tAsg (tOp mAdd (mVar 4) (mC (.int 1))) (gName 4)))))) : TS) D σ H
def rd_joined_trees (K : PySem.W.Frag) (sp_end_of : Sp) : TS := (tSeq (tAsg (mC (.str (S []))) (gName 2))
  (tSeq (tAsg (mC (.int 0)) (gName 3))
  (tSeq (tAsg (mC (.int 0)) (gName 4))
  (tSeq (mWhile (mTest (tOp (mLt) (mVar 3) (tCB (mLen K) (tCons (mVar 0) tNil)))) (rd_joined_trees_b1 K sp_end_of))
  (tRet (mVar 2))))))
abbrev N_joined_trees : List Str := ["one", "other", "found", "at", "place", "end"]
def rd_joined (K : PySem.W.Frag) (sp_check_tree : Sp) (sp_joined_trees : Sp) : TS := (tSeq (tDrop (tCall sp_check_tree [] E0 (tCons (mVar 0) tNil)))
  (tSeq (tDrop (tCall sp_check_tree [] E0 (tCons (mVar 1) tNil)))
  (tRet (tCall sp_joined_trees [] E0 (tCons (mVar 0) (tCons (mVar 1) tNil))))))
abbrev N_joined : List Str := ["one", "other"]
@[reducible] def rd_read_tree_b1 (K : PySem.W.Frag) (D : Ends) (σ : Sl) (H : Hp) : Prop := ((tIfS (mTest (tOp (mEq K) (mVar 2) (mC (.str (S [40]))))) (tDrop (mLstM mApp (mVar 1) (tCons (tLst tNil) tNil))) (tIfS (mTest (tOp (mEq K) (mVar 2) (mC (.str (S [46]))))) (tDrop (mLstM mApp (tOp (mIx K) (mVar 1) (mUn (fun i => -i) (mC (.int 1)))) (tCons (tTup tNil) tNil))) (tIfS (tAnd (mTest (tOp (mEq K) (mVar 2) (mC (.str (S [41]))))) (tAnd (mTest (tOp (mGt) (tCB (mLen K) (tCons (mVar 1) tNil)) (mC (.int 1)))) (mTest (tOp (mEq K) (tCB (mLen K) (tCons (tOp (mIx K) (mVar 1) (mUn (fun i => -i) (mC (.int 1)))) tNil)) (mC (.int 2)))))) (tSeq (tAsg (mLstM mPop (mVar 1) tNil) (gName 3))
  (tDrop (mLstM mApp (tOp (mIx K) (mVar 1) (mUn (fun i => -i) (mC (.int 1)))) (tCons (tTup (tCons (tOp (mIx K) (mVar 3) (mC (.int 0))) (tCons (tOp (mIx K) (mVar 3) (mC (.int 1))) tNil))) tNil)))) (tRet (mC .non))))) : TS) D σ H
def rd_read_tree (K : PySem.W.Frag) : TS := (tSeq (tIfS (tNot (mTest (tCB (mIsi K) (tCons (mVar 0) (tCons (mC (.ty "str")) tNil))))) (tRet (mC .non)) tNext)
  (tSeq (tAsg (tLst (tCons (tLst tNil) tNil)) (gName 1))
  (tSeq (mFor (mIter K (mVar 0)) (gName 2) (rd_read_tree_b1 K))
  (tRet (tIf (tAnd (mTest (tOp (mEq K) (tCB (mLen K) (tCons (mVar 1) tNil)) (mC (.int 1)))) (mTest (tOp (mEq K) (tCB (mLen K) (tCons (tOp (mIx K) (mVar 1) (mC (.int 0))) tNil)) (mC (.int 1))))) (tOp (mIx K) (tOp (mIx K) (mVar 1) (mC (.int 0))) (mC (.int 0))) (mC .non))))))
abbrev N_read_tree : List Str := ["value", "open_parts", "sign", "parts"]
def rd_nested (K : PySem.W.Frag) (sp_read_tree : Sp) (a_InvalidTree : Addr) (E : XK) : TS := (tSeq (tAsg (tCall sp_read_tree [] E0 (tCons (mVar 0) tNil)) (gName 1))
  (tSeq (tIfS (mTest (tOp (mIs) (mVar 1) (mC .non))) (mRaise a_InvalidTree "value" (tCons (mVar 0) tNil) E) tNext)
  (tRet (mVar 1))))
abbrev N_nested : List Str := ["tree", "found"]
def rd_width (K : PySem.W.Frag) (sp_width : Sp) : TS := (tRet (tIf (mTest (tOp (mEq K) (mVar 0) (tTup tNil))) (mC (.int 1)) (tOp mAdd (tCall sp_width [] E0 (tCons (tOp (mIx K) (mVar 0) (mC (.int 0))) tNil)) (tCall sp_width [] E0 (tCons (tOp (mIx K) (mVar 0) (mC (.int 1))) tNil)))))
abbrev N_width : List Str := ["nest"]
def rd_measured (K : PySem.W.Frag) (sp_width : Sp) (sp_measured : Sp) : TS := (tSeq (tIfS (mTest (tOp (mEq K) (mVar 0) (tTup tNil))) (tRet (tTup (tCons (tOp (mIx K) (mVar 1) (mC (.int 0))) (tCons (tLst tNil) tNil)))) tNext)
  (tSeq (tAsg (tCall sp_width [] E0 (tCons (tOp (mIx K) (mVar 0) (mC (.int 0))) tNil)) (gName 2))
  (tSeq (tAsg (tCall sp_measured [] E0 (tCons (tOp (mIx K) (mVar 0) (mC (.int 0))) (tCons (tSl (mSl K) (mVar 1) tNoPart (mPart (mVar 2))) tNil))) (mgTup K 2 (mgCons (gName 3) (mgCons (gName 4) mgNil))))
  (tSeq (tAsg (tCall sp_measured [] E0 (tCons (tOp (mIx K) (mVar 0) (mC (.int 1))) (tCons (tSl (mSl K) (mVar 1) (mPart (mVar 2)) tNoPart) tNil))) (mgTup K 2 (mgCons (gName 5) (mgCons (gName 6) mgNil))))
  (tRet (tTup (tCons (tOp mAdd (mC (.int 1)) (tCB (mMax) (tCons (tCB (mInt) (tCons (mVar 3) tNil)) (tCons (tCB (mInt) (tCons (mVar 5) tNil)) tNil)))) (tCons (tOp mAdd (tOp mAdd (mVar 4) (tLst (tCons (tOp mSub (mVar 3) (mVar 5)) tNil))) (mVar 6)) tNil))))))))
abbrev N_measured : List Str := ["nest", "row", "count", "left", "first", "right", "second"]
def rd_is_even (K : PySem.W.Frag) (sp_measured : Sp) : TS := (tRet (tOp (mEq K) (mLc (mIter K (tOp (mIx K) (tCall sp_measured [] E0 (tCons (mVar 0) (tCons (mVar 1) tNil))) (mC (.int 1)))) (gName 3) (mTest (tOp (mGt) (tCB (mAbs) (tCons (mVar 3) tNil)) (mVar 2))) (mVar 3) [3]) (tLst tNil)))
abbrev N_is_even : List Str := ["nest", "row", "slack", "lean"]
def rd_check_number (K : PySem.W.Frag) (sp_is_whole : Sp) (a_InvalidNumber : Addr) (E : XK) : TS := (tIfS (tNot (mTest (tCall sp_is_whole [] E0 (tCons (mVar 0) tNil)))) (mRaise a_InvalidNumber "value" (tCons (mVar 0) tNil) E) tNext)
abbrev N_check_number : List Str := ["value"]
def rd_check_whole (K : PySem.W.Frag) (sp_check_number : Sp) (a_InvalidNumber : Addr) (E : XK) : TS := (tSeq (tDrop (tCall sp_check_number [] E (tCons (mVar 0) tNil)))
  (tIfS (tOr (mTest (tOp (mLt) (mVar 0) (mVar 1))) (tAnd (mTest (tOp (mNot) (mVar 2) (mC .non))) (mTest (tOp (mGt) (mVar 0) (mVar 2))))) (mRaise a_InvalidNumber "value" (tCons (mVar 0) tNil) E) tNext))
abbrev N_check_whole : List Str := ["value", "least", "most"]
@[reducible] def rd_nodes_up_to_b1 (K : PySem.W.Frag) (D : Ends) (σ : Sl) (H : Hp) : Prop := ((tDrop (mLstM mApp (mVar 2) (tCons (tOp mAdd (tOp mAdd (mC (.int 1)) (tOp (mIx K) (mVar 2) (tOp mSub (mVar 3) (mC (.int 1))))) (tOp (mIx K) (mVar 2) (tCB (mMax) (tCons (mC (.int 0)) (tCons (tCB (mInt) (tCons (tOp mSub (tOp mSub (mVar 3) (mC (.int 1))) (mVar 1)) tNil)) tNil))))) tNil))) : TS) D σ H
def rd_nodes_up_to (K : PySem.W.Frag) : TS := (tSeq (tAsg (tLst (tCons (mC (.int 0)) tNil)) (gName 2))
  (tSeq (mFor (mRng2 (mC (.int 1)) (tOp mAdd (mVar 0) (mC (.int 1)))) (gName 3) (rd_nodes_up_to_b1 K))
  (tRet (mVar 2))))
abbrev N_nodes_up_to : List Str := ["height", "slack", "found", "number"]
def rd_is_balanced (K : PySem.W.Frag) (sp_nested : Sp) (sp_check_whole : Sp) (sp_is_even : Sp) (sp_width : Sp) (E : XK) : TS := (tSeq (tAsg (tCall sp_nested [] E (tCons (mVar 0) tNil)) (gName 2))
  (tSeq (tDrop (tCall sp_check_whole [.non] E (tCons (mVar 1) (tCons (mC (.int 0)) tNil))))
  (tRet (tCall sp_is_even [] E0 (tCons (mVar 2) (tCons (tOp mMul (tLst (tCons (mC (.int 0)) tNil)) (tCall sp_width [] E0 (tCons (mVar 2) tNil))) (tCons (mVar 1) tNil)))))))
abbrev N_is_balanced : List Str := ["tree", "slack", "nest"]
def rd_least_nodes (K : PySem.W.Frag) (sp_check_whole : Sp) (sp_nodes_up_to : Sp) (E : XK) : TS := (tSeq (tDrop (tCall sp_check_whole [.non] E (tCons (mVar 0) (tCons (mC (.int 0)) tNil))))
  (tSeq (tDrop (tCall sp_check_whole [.non] E (tCons (mVar 1) (tCons (mC (.int 0)) tNil))))
  (tRet (tOp (mIx K) (tCall sp_nodes_up_to [] E0 (tCons (mVar 0) (tCons (mVar 1) tNil))) (mVar 0)))))
abbrev N_least_nodes : List Str := ["height", "slack"]
def rd__law_mixed (K : PySem.W.Frag) : TS := (tSeq (tAsg (tOp mMod (tOp mAdd (tOp mAdd (tOp mAdd (tOp mMul (mVar 0) (mC (.int 1103515245))) (tOp mMul (tOp mMul (mC (.int 7919)) (mVar 1)) (mVar 1))) (mVar 1)) (mC (.int 1))) (mC (.int 2147483647))) (gName 2))
  (tSeq (tAsg (tOp mMod (tOp mAdd (tOp mMul (mVar 2) (mVar 2)) (mC (.int 69621))) (mC (.int 2147483629))) (gName 2))
  (tRet (tOp mMod (tOp mMul (mVar 2) (mC (.int 48271))) (mC (.int 2147483587))))))
abbrev N__law_mixed : List Str := ["_law_cell", "_law_k", "_law_number"]
def rd__law_purse (K : PySem.W.Frag) : TS := (tSeq (tAsg (tCB (mSum K) (tCons (tSl (mSl K) (mVar 0) (mPart (mVar 1)) (mPart (tOp mAdd (mVar 1) (mC (.int 1))))) tNil)) (gName 2))
  (tRet (tLst (tCons (tOp mMod (tCB (mMax) (tCons (tOp mSub (mVar 2) (tOp mPow (mC (.int 10)) (mC (.int 18)))) (tCons (mC (.int 0)) tNil))) (tOp mPow (tOp mPow (mC (.int 10)) (mC (.int 60))) (mC (.int 10)))) (tCons (tOp mMod (mVar 2) (mC (.int 2147483647))) (tCons (tOp mMul (mC (.int 1000)) (mVar 1)) tNil))))))
abbrev N__law_purse : List Str := ["_law_script", "_law_at", "_law_cell"]
@[reducible] def rd__law_draw_b1 (K : PySem.W.Frag) (sp__law_mixed : Sp) (D : Ends) (σ : Sl) (H : Hp) : Prop := ((tSeq (tAsg (tOp mAdd (tOp (mIx K) (mVar 0) (mC (.int 2))) (mC (.int 1))) (gSub (mVar 0) (mC (.int 2)) mSetL))
  (tAsg (tOp mAdd (tOp mMul (mVar 3) (mC (.int 2147483587))) (tCall sp__law_mixed [] E0 (tCons (tOp (mIx K) (mVar 0) (mC (.int 1))) (tCons (tOp (mIx K) (mVar 0) (mC (.int 2))) tNil)))) (gName 3))) : TS) D σ H
def rd__law_draw (K : PySem.W.Frag) (sp__law_mixed : Sp) : TS := (tSeq (tIfS (mTest (tOp (mGt) (tOp (mIx K) (mVar 0) (mC (.int 0))) (mC (.int 0)))) (tSeq (tAsg (tOp mMod (tOp (mIx K) (mVar 0) (mC (.int 0))) (mVar 1)) (gName 2))
  (tSeq (tAsg (tOp mDiv (tOp (mIx K) (mVar 0) (mC (.int 0))) (mVar 1)) (gSub (mVar 0) (mC (.int 0)) mSetL))
  (tRet (mVar 2)))) tNext)
  (tSeq (tAsg (mC (.int 0)) (gName 3))
  (tSeq (mFor (mRng1 (tOp mAdd (mC (.int 1)) (tOp mDiv (mBits (mVar 1)) (mC (.int 30))))) (gName 4) (rd__law_draw_b1 K sp__law_mixed))
  (tRet (tOp mMod (mVar 3) (mVar 1))))))
abbrev N__law_draw : List Str := ["_law_purse_here", "_law_out_of", "_law_drawn", "_law_number", "_law_k"]
def rd__law_nest (K : PySem.W.Frag) (sp__law_draw : Sp) (sp__law_nest : Sp) : TS := (tSeq (tIfS (mTest (tOp (mEq K) (mVar 1) (mC (.int 0)))) (tRet (tTup tNil)) tNext)
  (tSeq (tAsg (tCall sp__law_draw [] E0 (tCons (mVar 0) (tCons (mVar 1) tNil))) (gName 2))
  (tSeq (tAsg (tOp (mIx K) (tLst (tCons (mVar 2) (tCons (mVar 2) (tCons (mVar 2) (tCons (mVar 2) (tCons (mC (.int 0)) (tCons (tOp mSub (mVar 1) (mC (.int 1))) tNil))))))) (tCall sp__law_draw [] E0 (tCons (mVar 0) (tCons (mC (.int 6)) tNil)))) (gName 2))
  (tRet (tTup (tCons (tCall sp__law_nest [] E0 (tCons (mVar 0) (tCons (mVar 2) tNil))) (tCons (tCall sp__law_nest [] E0 (tCons (mVar 0) (tCons (tOp mSub (tOp mSub (mVar 1) (mC (.int 1))) (mVar 2)) tNil))) tNil)))))))
abbrev N__law_nest : List Str := ["_law_purse_here", "_law_count", "_law_left"]
def rd__law_text (K : PySem.W.Frag) (sp__law_text : Sp) : TS := (tSeq (tIfS (mTest (tOp (mEq K) (mVar 0) (tTup tNil))) (tRet (mC (.str (S [46])))) tNext)
  (tRet (tOp mAdd (tOp mAdd (tOp mAdd (mC (.str (S [40]))) (tCall sp__law_text [] E0 (tCons (tOp (mIx K) (mVar 0) (mC (.int 0))) tNil))) (tCall sp__law_text [] E0 (tCons (tOp (mIx K) (mVar 0) (mC (.int 1))) tNil))) (mC (.str (S [41]))))))
abbrev N__law_text : List Str := ["_law_nest_here"]
def rd__law_width (K : PySem.W.Frag) (sp__law_width : Sp) : TS := (tRet (tIf (mTest (tOp (mEq K) (mVar 0) (tTup tNil))) (mC (.int 1)) (tOp mAdd (tCall sp__law_width [] E0 (tCons (tOp (mIx K) (mVar 0) (mC (.int 0))) tNil)) (tCall sp__law_width [] E0 (tCons (tOp (mIx K) (mVar 0) (mC (.int 1))) tNil)))))
abbrev N__law_width : List Str := ["_law_nest_here"]
def rd__law_measured (K : PySem.W.Frag) (sp__law_width : Sp) (sp__law_measured : Sp) : TS := (tSeq (tIfS (mTest (tOp (mEq K) (mVar 0) (tTup tNil))) (tRet (tTup (tCons (tOp (mIx K) (mVar 1) (mC (.int 0))) (tCons (tLst tNil) tNil)))) tNext)
  (tSeq (tAsg (tCall sp__law_width [] E0 (tCons (tOp (mIx K) (mVar 0) (mC (.int 0))) tNil)) (gName 2))
  (tSeq (tAsg (tCall sp__law_measured [] E0 (tCons (tOp (mIx K) (mVar 0) (mC (.int 0))) (tCons (tSl (mSl K) (mVar 1) tNoPart (mPart (mVar 2))) tNil))) (mgTup K 2 (mgCons (gName 3) (mgCons (gName 4) mgNil))))
  (tSeq (tAsg (tCall sp__law_measured [] E0 (tCons (tOp (mIx K) (mVar 0) (mC (.int 1))) (tCons (tSl (mSl K) (mVar 1) (mPart (mVar 2)) tNoPart) tNil))) (mgTup K 2 (mgCons (gName 5) (mgCons (gName 6) mgNil))))
  (tSeq (tAsg (tIf (mTest (tOp (mGt) (mVar 3) (mVar 5))) (mVar 3) (mVar 5)) (gName 7))
  (tRet (tTup (tCons (tOp mAdd (mC (.int 1)) (mVar 7)) (tCons (tOp mAdd (tOp mAdd (mVar 4) (tLst (tCons (tOp mSub (mVar 3) (mVar 5)) tNil))) (mVar 6)) tNil)))))))))
abbrev N__law_measured : List Str := ["_law_nest_here", "_law_row", "_law_count", "_law_left", "_law_first", "_law_right_here", "_law_second", "_law_high"]
def rd__law_even (K : PySem.W.Frag) (sp__law_measured : Sp) : TS := (tRet (tOp (mEq K) (mLc (mIter K (tOp (mIx K) (tCall sp__law_measured [] E0 (tCons (mVar 0) (tCons (mVar 1) tNil))) (mC (.int 1)))) (gName 3) (mTest (tOp (mGt) (tCB (mAbs) (tCons (mVar 3) tNil)) (mVar 2))) (mVar 3) [3]) (tLst tNil)))
abbrev N__law_even : List Str := ["_law_nest_here", "_law_row", "_law_slack", "_law_lean"]
def rd__law_built (K : PySem.W.Frag) (sp__law_draw : Sp) (sp__law_built : Sp) : TS := (tSeq (tIfS (mTest (tOp (mLt) (mVar 1) (mC (.int 1)))) (tRet (tTup tNil)) tNext)
  (tSeq (tAsg (tOp mSub (tOp mSub (mVar 1) (mC (.int 1))) (tCall sp__law_draw [] E0 (tCons (mVar 0) (tCons (tOp mAdd (mVar 2) (mC (.int 1))) tNil)))) (gName 3))
  (tSeq (tAsg (tLst (tCons (tCall sp__law_built [] E0 (tCons (mVar 0) (tCons (tOp mSub (mVar 1) (mC (.int 1))) (tCons (mVar 2) tNil)))) (tCons (tCall sp__law_built [] E0 (tCons (mVar 0) (tCons (mVar 3) (tCons (mVar 2) tNil)))) tNil))) (gName 4))
  (tRet (tIf (mTest (tOp (mEq K) (tCall sp__law_draw [] E0 (tCons (mVar 0) (tCons (mC (.int 2)) tNil))) (mC (.int 0)))) (tTup (tCons (tOp (mIx K) (mVar 4) (mC (.int 0))) (tCons (tOp (mIx K) (mVar 4) (mC (.int 1))) tNil))) (tTup (tCons (tOp (mIx K) (mVar 4) (mC (.int 1))) (tCons (tOp (mIx K) (mVar 4) (mC (.int 0))) tNil))))))))
abbrev N__law_built : List Str := ["_law_purse_here", "_law_high", "_law_slack", "_law_lower", "_law_parts"]
@[reducible] def rd__law_least_b1 (K : PySem.W.Frag) (D : Ends) (σ : Sl) (H : Hp) : Prop := ((tDrop (mLstM mApp (mVar 2) (tCons (tOp mAdd (tOp mAdd (mC (.int 1)) (tOp (mIx K) (mVar 2) (tOp mSub (mVar 3) (mC (.int 1))))) (tOp (mIx K) (mVar 2) (tCB (mMax) (tCons (mC (.int 0)) (tCons (tCB (mInt) (tCons (tOp mSub (tOp mSub (mVar 3) (mC (.int 1))) (mVar 1)) tNil)) tNil))))) tNil))) : TS) D σ H
def rd__law_least (K : PySem.W.Frag) : TS := (tSeq (tAsg (tLst (tCons (mC (.int 0)) tNil)) (gName 2))
  (tSeq (mFor (mRng2 (mC (.int 1)) (tOp mAdd (mVar 0) (mC (.int 1)))) (gName 3) (rd__law_least_b1 K))
  (tRet (tOp (mIx K) (mVar 2) (mVar 0)))))
abbrev N__law_least : List Str := ["_law_high", "_law_slack", "_law_found", "_law_number"]
def rd__law_caught (K : PySem.W.Frag) (sp_is_balanced : Sp) (sp_least_nodes : Sp) (a_TurnError : Addr) (a_InvalidNumber : Addr) (a_InvalidTree : Addr) : TS := (tSeq (tAsg (mC .non) (gName 3))
  (tSeq (mTry K (.ref a_TurnError) 4 3 (fun W => (tIfS (mTest (tOp (mEq K) (mVar 0) (mC (.int 0)))) (tDrop (tCallSD sp_is_balanced [] (WE W) (tCons (mVar 1) (tCons (mVar 2) tNil)))) (tDrop (tCallSD sp_least_nodes [] (WE W) (tCons (mVar 1) (tCons (mVar 2) tNil)))))))
  (tSeq (tIfS (mTest (tOp (mIs) (mVar 3) (mC .non))) (tRet (mC .non)) tNext)
  (tRet (tLst (tCons (tCB (mIsiE K) (tCons (mVar 3) (tCons (mC (.ref a_InvalidTree)) tNil))) (tCons (tCB (mIsiE K) (tCons (mVar 3) (tCons (mC (.ref a_InvalidNumber)) tNil))) (tCons (tCB (mRepr K) (tCons (mFld K "value" (mVar 3)) tNil)) tNil))))))))
abbrev N__law_caught : List Str := ["_law_door", "_law_first", "_law_second", "_law_caught_here", "e"]
@[reducible] def rd__law_refused_b1 (K : PySem.W.Frag) (sp__law_caught : Sp) (D : Ends) (σ : Sl) (H : Hp) : Prop := ((tIfS (mTest (tOp (mNe K) (tCall sp__law_caught [] E0 (tCons (mC (.int 0)) (tCons (mVar 1) (tCons (mUn (fun i => -i) (mC (.int 1))) tNil)))) (tLst (tCons (mC (.bl true)) (tCons (mC (.bl false)) (tCons (tCB (mRepr K) (tCons (mVar 1) tNil)) tNil)))))) (tRet (mC (.bl false))) tNext) : TS) D σ H
@[reducible] def rd__law_refused_b2 (K : PySem.W.Frag) (sp__law_caught : Sp) (D : Ends) (σ : Sl) (H : Hp) : Prop := ((tSeq (tAsg (tLst (tCons (mC (.bl false)) (tCons (mC (.bl true)) (tCons (tCB (mRepr K) (tCons (mVar 1) tNil)) tNil)))) (gName 2))
  (tSeq (tIfS (tOr (mTest (tOp (mNe K) (tCall sp__law_caught [] E0 (tCons (mC (.int 0)) (tCons (mC (.str (S [40, 46, 46, 41]))) (tCons (mVar 1) tNil)))) (mVar 2))) (tOr (mTest (tOp (mNe K) (tCall sp__law_caught [] E0 (tCons (mC (.int 1)) (tCons (mC (.int 3)) (tCons (mVar 1) tNil)))) (mVar 2))) (mTest (tOp (mNe K) (tCall sp__law_caught [] E0 (tCons (mC (.int 1)) (tCons (mVar 1) (tCons (mUn (fun i => -i) (mC (.int 7))) tNil)))) (mVar 2))))) (tRet (mC (.bl false))) tNext)
  (tIfS (tOr (mTest (tOp (mNe K) (tCall sp__law_caught [] E0 (tCons (mC (.int 0)) (tCons (mC (.str (S [46]))) (tCons (mVar 1) tNil)))) (mVar 2))) (tOr (mTest (tOp (mNe K) (tCall sp__law_caught [] E0 (tCons (mC (.int 1)) (tCons (mC (.int 0)) (tCons (mVar 1) tNil)))) (mVar 2))) (mTest (tOp (mNe K) (tCall sp__law_caught [] E0 (tCons (mC (.int 1)) (tCons (mVar 1) (tCons (mC (.int 0)) tNil)))) (mVar 2))))) (tRet (mC (.bl false))) tNext))) : TS) D σ H
def rd__law_refused (K : PySem.W.Frag) (sp__law_caught : Sp) : TS := (tSeq (tAsg (tLst (tCons (mC (.str (S []))) (tCons (mC (.str (S [46, 46]))) (tCons (mC (.str (S [40, 46, 46, 41, 46]))) (tCons (mC (.str (S [40, 46, 41]))) (tCons (mC (.str (S [40, 46, 46, 46, 41]))) (tCons (mC (.str (S [40, 46, 46]))) (tCons (mC (.str (S [46, 46, 41]))) (tCons (mC (.str (S [40, 46, 32, 46, 41]))) (tCons (mC (.str (S [120]))) (tCons (mC (.str (S [40, 40, 46, 46, 41, 40, 46, 46, 41, 41, 41]))) (tCons (mC (.str (S [46, 40]))) (tCons (mC (.str (S [40, 46, 46, 41, 40]))) tNil))))))))))))) (gName 0))
  (tSeq (tAsg (tOp mAdd (mVar 0) (tLst (tCons (mC (.str (S [40, 46, 46, 41, 40, 46]))) (tCons (mC (.str (S [32, 46]))) (tCons (mC (.str (S [40, 46, 46, 41, 40, 40, 46, 46, 41]))) (tCons (mC (.str (S [46, 32]))) (tCons (mC (.str (S [40, 46, 46, 41, 10]))) (tCons (mC (.str (S [32, 40, 46, 46, 41]))) tNil)))))))) (gName 0))
  (tSeq (mFor (mIter K (tOp mAdd (mVar 0) (tLst (tCons (mC .non) (tCons (mC (.int 3)) (tCons (tLst (tCons (mC (.str (S [46]))) tNil)) (tCons (tTup tNil) (tCons tDNewK (tCons (mC (.bl true)) tNil))))))))) (gName 1) (rd__law_refused_b1 K sp__law_caught))
  (tSeq (mFor (mIter K (tLst (tCons (mC .non) (tCons (mC (.bl true)) (tCons (mC (.bl false)) (tCons (mUn (fun i => -i) (mC (.int 1))) (tCons (mC (.str (S [49]))) (tCons (tLst (tCons (mC (.int 1)) tNil)) (tCons (tTup (tCons (mC (.int 1)) (tCons (mC (.int 2)) tNil))) (tCons tDNewK tNil)))))))))) (gName 1) (rd__law_refused_b2 K sp__law_caught))
  (tRet (mAndV (tOp (mIs) (tCall sp__law_caught [] E0 (tCons (mC (.int 0)) (tCons (mC (.str (S [46]))) (tCons (mC (.int 0)) tNil)))) (mC .non)) (tOp (mIs) (tCall sp__law_caught [] E0 (tCons (mC (.int 1)) (tCons (mC (.int 0)) (tCons (mC (.int 0)) tNil)))) (mC .non))))))))
abbrev N__law_refused : List Str := ["_law_texts", "_law_odd", "_law_due"]
@[reducible] def rd__law_great_right_b1 (K : PySem.W.Frag) (sp__law_draw : Sp) (sp_joined : Sp) (sp__law_text : Sp) (sp_is_balanced : Sp) (sp__law_even : Sp) (sp__law_width : Sp) (D : Ends) (σ : Sl) (H : Hp) : Prop := ((mPar 1 2 (tCons (tTup (tCons (mVar 1) (tCons (tTup tNil) tNil))) (tCons (tTup (tCons (tTup tNil) (tCons (mVar 2) tNil))) tNil))) : TS) D σ H
@[reducible] def rd__law_great_right_b2 (K : PySem.W.Frag) (sp__law_draw : Sp) (sp_joined : Sp) (sp__law_text : Sp) (sp_is_balanced : Sp) (sp__law_even : Sp) (sp__law_width : Sp) (D : Ends) (σ : Sl) (H : Hp) : Prop := ((tAsg (tIf (mTest (tOp (mEq K) (tCall sp__law_draw [] E0 (tCons (mVar 0) (tCons (mC (.int 2)) tNil))) (mC (.int 0)))) (tTup (tCons (mVar 3) (tCons (tTup tNil) tNil))) (tTup (tCons (tTup tNil) (tCons (mVar 3) tNil)))) (gName 3)) : TS) D σ H
@[reducible] def rd__law_great_right_b3 (K : PySem.W.Frag) (sp__law_draw : Sp) (sp_joined : Sp) (sp__law_text : Sp) (sp_is_balanced : Sp) (sp__law_even : Sp) (sp__law_width : Sp) (D : Ends) (σ : Sl) (H : Hp) : Prop := ((tIfS (mTest (tOp (mNe K) (tCall sp_is_balanced [] E0 (tCons (mVar 7) (tCons (mVar 8) tNil))) (tCall sp__law_even [] E0 (tCons (mVar 6) (tCons (tOp mMul (tLst (tCons (mC (.int 0)) tNil)) (tCall sp__law_width [] E0 (tCons (mVar 6) tNil))) (tCons (mVar 8) tNil)))))) (tRet (mC (.bl false))) tNext) : TS) D σ H
@[reducible] def rd__law_great_right_b4 (K : PySem.W.Frag) (sp__law_draw : Sp) (sp_joined : Sp) (sp__law_text : Sp) (sp_is_balanced : Sp) (sp__law_even : Sp) (sp__law_width : Sp) (D : Ends) (σ : Sl) (H : Hp) : Prop := ((mFor (mIter K (tLst (tCons (mC (.int 0)) (tCons (mC (.int 197)) (tCons (mC (.int 198)) (tCons (mC (.int 299)) (tCons (mC (.int 300)) tNil))))))) (gName 8) (rd__law_great_right_b3 K sp__law_draw sp_joined sp__law_text sp_is_balanced sp__law_even sp__law_width)) : TS) D σ H
def rd__law_great_right (K : PySem.W.Frag) (sp__law_draw : Sp) (sp_joined : Sp) (sp__law_text : Sp) (sp_is_balanced : Sp) (sp__law_even : Sp) (sp__law_width : Sp) : TS := (tSeq (tAsg (tTup (tCons (tTup tNil) (tCons (tTup tNil) (tCons (tTup tNil) tNil)))) (mgTup K 3 (mgCons (gName 1) (mgCons (gName 2) (mgCons (gName 3) mgNil)))))
  (tSeq (mFor (mRng1 (mC (.int 199))) (gName 4) (rd__law_great_right_b1 K sp__law_draw sp_joined sp__law_text sp_is_balanced sp__law_even sp__law_width))
  (tSeq (mFor (mRng1 (mC (.int 300))) (gName 4) (rd__law_great_right_b2 K sp__law_draw sp_joined sp__law_text sp_is_balanced sp__law_even sp__law_width))
  (tSeq (tAsg (tCall sp_joined [] E0 (tCons (tCall sp__law_text [] E0 (tCons (tTup (tCons (mVar 1) (tCons (tTup tNil) tNil))) tNil)) (tCons (tCall sp__law_text [] E0 (tCons (tTup (tCons (tTup tNil) (tCons (mVar 2) tNil))) tNil)) tNil))) (gName 5))
  (tSeq (tIfS (mTest (tOp (mNe K) (mVar 5) (tCall sp__law_text [] E0 (tCons (tTup (tCons (mVar 1) (tCons (mVar 2) tNil))) tNil)))) (tRet (mC (.bl false))) tNext)
  (tSeq (mFor (mIter K (tLst (tCons (tTup (tCons (tTup (tCons (mVar 1) (tCons (mVar 2) tNil))) (tCons (mVar 5) tNil))) (tCons (tTup (tCons (mVar 3) (tCons (tCall sp__law_text [] E0 (tCons (mVar 3) tNil)) tNil))) tNil)))) (mgTup K 2 (mgCons (gName 6) (mgCons (gName 7) mgNil))) (rd__law_great_right_b4 K sp__law_draw sp_joined sp__law_text sp_is_balanced sp__law_even sp__law_width))
  (tRet (mC (.bl true)))))))))
abbrev N__law_great_right : List Str := ["_law_purse_here", "_law_one", "_law_other", "_law_mixed_here", "_law_turn", "_law_tree", "_law_nest_here", "_law_text_here", "_law_slack"]
@[reducible] def rd__law_right_b1 (K : PySem.W.Frag) (sp_is_balanced : Sp) (sp__law_text : Sp) (sp__law_even : Sp) (D : Ends) (σ : Sl) (H : Hp) : Prop := ((tSeq (tAsg (tCall sp_is_balanced [] E0 (tCons (tCall sp__law_text [] E0 (tCons (mVar 0) tNil)) (tCons (mVar 2) tNil))) (gName 3))
  (tIfS (tOr (tNot (mTest (tCB (mIsi K) (tCons (mVar 3) (tCons (mC (.ty "bool")) tNil))))) (mTest (tOp (mNe K) (mVar 3) (tCall sp__law_even [] E0 (tCons (mVar 0) (tCons (mVar 1) (tCons (mVar 2) tNil))))))) (tRet (mC (.bl false))) tNext)) : TS) D σ H
def rd__law_right (K : PySem.W.Frag) (sp_is_balanced : Sp) (sp__law_text : Sp) (sp__law_even : Sp) : TS := (tSeq (mFor (mRng1 (mC (.int 7))) (gName 2) (rd__law_right_b1 K sp_is_balanced sp__law_text sp__law_even))
  (tRet (mC (.bl true))))
abbrev N__law_right : List Str := ["_law_nest_here", "_law_zeros", "_law_slack", "_law_told"]
@[reducible] def rd_law_b1 (K : PySem.W.Frag) (sp__law_purse : Sp) (sp__law_draw : Sp) (sp__law_built : Sp) (sp__law_nest : Sp) (sp__law_right : Sp) (sp__law_width : Sp) (sp_least_nodes : Sp) (sp_is_balanced : Sp) (sp__law_text : Sp) (sp__law_least : Sp) (sp__law_great_right : Sp) (sp__law_refused : Sp) (D : Ends) (σ : Sl) (H : Hp) : Prop := ((tIfS (tNot (mTest (tCall sp__law_right [] E0 (tCons (mVar 6) (tCons (tOp mMul (tLst (tCons (mC (.int 0)) tNil)) (tCall sp__law_width [] E0 (tCons (mVar 6) tNil))) tNil))))) (tRet (mC (.bl false))) tNext) : TS) D σ H
@[reducible] def rd_law_b2 (K : PySem.W.Frag) (sp__law_purse : Sp) (sp__law_draw : Sp) (sp__law_built : Sp) (sp__law_nest : Sp) (sp__law_right : Sp) (sp__law_width : Sp) (sp_least_nodes : Sp) (sp_is_balanced : Sp) (sp__law_text : Sp) (sp__law_least : Sp) (sp__law_great_right : Sp) (sp__law_refused : Sp) (D : Ends) (σ : Sl) (H : Hp) : Prop := ((tSeq (tAsg (tCall sp__law_purse [] E0 (tCons (mVar 0) (tCons (mVar 1) tNil))) (gName 2))
  (tSeq (mPar 3 4 (tCons (tCall sp__law_draw [] E0 (tCons (mVar 2) (tCons (mC (.int 6)) tNil))) (tCons (tCall sp__law_draw [] E0 (tCons (mVar 2) (tCons (mC (.int 5)) tNil))) tNil)))
  (tSeq (tAsg (tCall sp__law_built [] E0 (tCons (mVar 2) (tCons (mVar 3) (tCons (mVar 4) tNil)))) (gName 5))
  (tSeq (mFor (mIter K (tLst (tCons (tCall sp__law_nest [] E0 (tCons (mVar 2) (tCons (tCall sp__law_draw [] E0 (tCons (mVar 2) (tCons (tOp (mIx K) (tLst (tCons (mC (.int 9)) (tCons (mC (.int 61)) tNil))) (tCall sp__law_draw [] E0 (tCons (mVar 2) (tCons (mC (.int 2)) tNil)))) tNil))) tNil))) (tCons (mVar 5) tNil)))) (gName 6) (rd_law_b1 K sp__law_purse sp__law_draw sp__law_built sp__law_nest sp__law_right sp__law_width sp_least_nodes sp_is_balanced sp__law_text sp__law_least sp__law_great_right sp__law_refused))
  (tSeq (tIfS (tOr (tNot (mTest (tCall sp_is_balanced [] E0 (tCons (tCall sp__law_text [] E0 (tCons (mVar 5) tNil)) (tCons (mVar 4) tNil))))) (mTest (tOp (mLt) (tOp mSub (tCall sp__law_width [] E0 (tCons (mVar 5) tNil)) (mC (.int 1))) (tCall sp_least_nodes [] E0 (tCons (mVar 3) (tCons (mVar 4) tNil)))))) (tRet (mC (.bl false))) tNext)
  (tSeq (tAsg (tCall sp__law_draw [] E0 (tCons (mVar 2) (tCons (tOp (mIx K) (tLst (tCons (mC (.int 21)) (tCons (mC (.int 1001)) tNil))) (tCall sp__law_draw [] E0 (tCons (mVar 2) (tCons (mC (.int 2)) tNil)))) tNil))) (gName 3))
  (tIfS (mTest (tOp (mNe K) (tCall sp_least_nodes [] E0 (tCons (mVar 3) (tCons (mVar 4) tNil))) (tCall sp__law_least [] E0 (tCons (mVar 3) (tCons (mVar 4) tNil))))) (tRet (mC (.bl false))) tNext))))))) : TS) D σ H
def rd_law (K : PySem.W.Frag) (sp__law_purse : Sp) (sp__law_draw : Sp) (sp__law_built : Sp) (sp__law_nest : Sp) (sp__law_right : Sp) (sp__law_width : Sp) (sp_least_nodes : Sp) (sp_is_balanced : Sp) (sp__law_text : Sp) (sp__law_least : Sp) (sp__law_great_right : Sp) (sp__law_refused : Sp) : TS := (tSeq (mFor (mRng1 (mC (.int 3))) (gName 1) (rd_law_b2 K sp__law_purse sp__law_draw sp__law_built sp__law_nest sp__law_right sp__law_width sp_least_nodes sp_is_balanced sp__law_text sp__law_least sp__law_great_right sp__law_refused))
  (tRet (mAndV (tCall sp__law_refused [] E0 tNil) (tCall sp__law_great_right [] E0 (tCons (tCall sp__law_purse [] E0 (tCons (mVar 0) (tCons (mC (.int 3)) tNil))) tNil)))))
abbrev N_law : List Str := ["_law_script", "_law_cell", "_law_purse_here", "_law_high", "_law_slack", "_law_built_here", "_law_nest_here"]
structure Tx (K : PySem.W.Frag) (mg : Str → Option Value) : Prop where
  f_isinstance : mg "isinstance" = none
  f_bool : mg "bool" = none
  f_int : mg "int" = none
  f_str : mg "str" = none
  f_len : mg "len" = none
  f_max : mg "max" = none
  f_abs : mg "abs" = none
  f_range : mg "range" = none
  f_sum : mg "sum" = none
  f_repr : mg "repr" = none
section
variable {P : Program} {w : World} {K : PySem.W.Frag} {mg : Str → Option Value} {base : Heap} {f : Addr} {fd : FuncData}
abbrev s_is_whole : Stmt := top 5
theorem sc_is_whole : FnScope N_is_whole ["value"] (defScope s_is_whole) := ⟨rfl, rfl, rfl, by decide +kernel, rfl, by decide +kernel, by decide +kernel⟩
theorem ok_is_whole {k : Nat} {sp : Sp}  (F : FunD K "is_whole" "is_whole" (defArgs s_is_whole) (defBody s_is_whole) (defScope s_is_whole) [] [] f fd) (T : Tx K mg)  
    (len : ∀ vs H Q E, sp vs H Q E → vs.length = 1) (pu : ∀ vs H Q E, sp vs H Q E → rd_is_whole K { nx := fun _ H' => Q .non H', rt := Q } (start N_is_whole vs) H) :
    FnG P w K mg base CX0 (k + 1) f fd ["value"] sp :=
  okG F sc_is_whole len fun cdv A outer s H vs Q E hr h => ⟨rd_is_whole K, PSs.nox (
    have nd := sc_is_whole.nd
    let N := N_is_whole
    let scope := defScope s_is_whole
    (pss_one (ps_ret (me_and (pe_callB call_isiM (by rfl) T.f_isinstance (by decide +kernel) (pa_cons (mv 0) (pa_cons (me_ty "int" (by rfl) T.f_int (by decide +kernel)) pa_nil))) (pe_one (me_not (pe_callB call_isiM (by rfl) T.f_isinstance (by decide +kernel) (pa_cons (mv 0) (pa_cons (me_ty "bool" (by rfl) T.f_bool (by decide +kernel)) pa_nil))))))))), pu vs H Q E h⟩
abbrev s_is_tree : Stmt := top 6
theorem sc_is_tree : FnScope N_is_tree ["value"] (defScope s_is_tree) := ⟨rfl, rfl, rfl, by decide +kernel, rfl, by decide +kernel, by decide +kernel⟩
theorem ok_is_tree {k : Nat} {sp : Sp}  (F : FunD K "is_tree" "is_tree" (defArgs s_is_tree) (defBody s_is_tree) (defScope s_is_tree) [] [] f fd) (T : Tx K mg)  
    (len : ∀ vs H Q E, sp vs H Q E → vs.length = 1) (pu : ∀ vs H Q E, sp vs H Q E → rd_is_tree K { nx := fun _ H' => Q .non H', rt := Q } (start N_is_tree vs) H) :
    FnG P w K mg base CX0 (k + 1) f fd ["value"] sp :=
  okG F sc_is_tree len fun cdv A outer s H vs Q E hr h => ⟨rd_is_tree K, PSs.nox (
    have nd := sc_is_tree.nd
    let N := N_is_tree
    let scope := defScope s_is_tree
    (pss_cons (ps_if (pt_not (mt_val (pe_callB call_isiM (by rfl) T.f_isinstance (by decide +kernel) (pa_cons (mv 0) (pa_cons (me_ty "str" (by rfl) T.f_str (by decide +kernel)) pa_nil))))) (pss_one (ps_ret me_bl)) pss_nil)
  (pss_cons (ps_set (i := 1) nd rfl (by first | exact Or.inl rfl | exact Or.inr rfl) (me_str [] (by rfl)))
  (pss_cons (ms_for PassesOwn.never rfl (pi_iterM (mv 0)) (pg_name (i := 2) nd rfl (by first | exact Or.inl rfl | exact Or.inr rfl)) (pss_one (ps_if (mt_cmp (op_eqM hr.units) (mv 2) (me_str [41] (by rfl)) (by rfl)) (pss_cons (ps_if (mt_cmp (op_neM hr.units) (me_slice (mv 1) (mo_some (me_neg me_int)) po_none) (me_str [40, 46, 46] (by rfl)) (by rfl)) (pss_one (ps_ret me_bl)) pss_nil)
  (pss_one (ps_set (i := 1) nd rfl (by first | exact Or.inl rfl | exact Or.inr rfl) (pe_op op_addM (me_slice (mv 1) po_none (mo_some (me_neg me_int))) (me_str [46] (by rfl)))))) (pss_one (ps_if (mt_inT (mv 2) (pa_cons (me_str [40] (by rfl)) (pa_cons (me_str [46] (by rfl)) pa_nil))) (pss_one (ps_set (i := 1) nd rfl (by first | exact Or.inl rfl | exact Or.inr rfl) (pe_op op_addM (mv 1) (mv 2)))) (pss_one (ps_ret me_bl)))))))
  (pss_one (ps_ret (pe_cmpR (op_eqM hr.units) (mv 1) (me_str [46] (by rfl)) (by rfl)))))))), pu vs H Q E h⟩
abbrev s_check_tree : Stmt := top 7
theorem sc_check_tree : FnScope N_check_tree ["value"] (defScope s_check_tree) := ⟨rfl, rfl, rfl, by decide +kernel, rfl, by decide +kernel, by decide +kernel⟩
theorem ok_check_tree {k : Nat} {sp : Sp} {sp_is_tree : Sp} {k_is_tree : Nat} {p_is_tree : List Str} {a_InvalidTree : Addr} (F : FunD K "check_tree" "check_tree" (defArgs s_check_tree) (defBody s_check_tree) (defScope s_check_tree) [] [] f fd) (T : Tx K mg) (C_is_tree : CalG P w K mg base CX0 "is_tree" k_is_tree p_is_tree [] sp_is_tree) (X_InvalidTree : ExcAt P w K mg "InvalidTree" "value" a_InvalidTree) (l_is_tree : k_is_tree ≤ k)
    (len : ∀ vs H Q E, sp vs H Q E → vs.length = 1) (pu : ∀ vs H Q E, sp vs H Q E → rd_check_tree K sp_is_tree a_InvalidTree E { nx := fun _ H' => Q .non H', rt := Q } (start N_check_tree vs) H) :
    FnG P w K mg base (L2.CX P w) (k + 1) f fd ["value"] sp :=
  okG F sc_check_tree len fun cdv A outer s H vs Q E hr h => ⟨rd_check_tree K sp_is_tree a_InvalidTree E, (
    have nd := sc_check_tree.nd
    let N := N_check_tree
    let scope := defScope s_check_tree
    (pss_one (ps_if (pt_not (mt_val (me_callG C_is_tree (hr.mono l_is_tree) (by rfl) pass0 (pa_cons (mv 0) pa_nil)))) (pss_one (ms_raise X_InvalidTree hr.r0 rfl (takes_of rfl rfl rfl rfl) (by rfl) (pa_cons (mv 0) pa_nil))) pss_nil))), pu vs H Q E h⟩
abbrev s_end_of : Stmt := top 8
theorem sc_end_of : FnScope N_end_of ["tree", "start"] (defScope s_end_of) := ⟨rfl, rfl, rfl, by decide +kernel, rfl, by decide +kernel, by decide +kernel⟩
theorem ok_end_of {k : Nat} {sp : Sp}  (F : FunD K "end_of" "end_of" (defArgs s_end_of) (defBody s_end_of) (defScope s_end_of) [] [] f fd) (T : Tx K mg)  
    (len : ∀ vs H Q E, sp vs H Q E → vs.length = 2) (pu : ∀ vs H Q E, sp vs H Q E → rd_end_of K { nx := fun _ H' => Q .non H', rt := Q } (start N_end_of vs) H) :
    FnG P w K mg base CX0 (k + 1) f fd ["tree", "start"] sp :=
  okG F sc_end_of len fun cdv A outer s H vs Q E hr h => ⟨rd_end_of K, PSs.nox (
    have nd := sc_end_of.nd
    let N := N_end_of
    let scope := defScope s_end_of
    (pss_cons (ps_set (i := 2) nd rfl (by first | exact Or.inl rfl | exact Or.inr rfl) (mv 1))
  (pss_cons (ps_set (i := 3) nd rfl (by first | exact Or.inl rfl | exact Or.inr rfl) me_int)
  (pss_one (ms_while PassesOwn.never (mt_val me_bl) (pss_cons (ps_if (mt_cmp (op_eqM hr.units) (me_ix (mv 0) (mv 2) (fun _ _ => rfl)) (me_str [40] (by rfl)) (by rfl)) (pss_one (ps_set (i := 3) nd rfl (by first | exact Or.inl rfl | exact Or.inr rfl) (pe_op op_addM (mv 3) me_int))) (pss_one (ps_if (mt_cmp (op_eqM hr.units) (me_ix (mv 0) (mv 2) (fun _ _ => rfl)) (me_str [41] (by rfl)) (by rfl)) (pss_one (ps_set (i := 3) nd rfl (by first | exact Or.inl rfl | exact Or.inr rfl) (pe_op op_subM (mv 3) me_int))) pss_nil)))
  (pss_cons (ps_set (i := 2) nd rfl (by first | exact Or.inl rfl | exact Or.inr rfl) (pe_op op_addM (mv 2) me_int))
  (pss_one (ps_if (mt_cmp (op_eqM hr.units) (mv 3) me_int (by rfl)) (pss_one (ps_ret (mv 2))) pss_nil))))))))), pu vs H Q E h⟩
abbrev s_joined_trees : Stmt := top 9
theorem sc_joined_trees : FnScope N_joined_trees ["one", "other"] (defScope s_joined_trees) := ⟨rfl, rfl, rfl, by decide +kernel, rfl, by decide +kernel, by decide +kernel⟩
theorem ok_joined_trees {k : Nat} {sp : Sp} {sp_end_of : Sp} {k_end_of : Nat} {p_end_of : List Str} (F : FunD K "joined_trees" "joined_trees" (defArgs s_joined_trees) (defBody s_joined_trees) (defScope s_joined_trees) [] [] f fd) (T : Tx K mg) (C_end_of : CalG P w K mg base CX0 "end_of" k_end_of p_end_of [] sp_end_of) (l_end_of : k_end_of ≤ k)
    (len : ∀ vs H Q E, sp vs H Q E → vs.length = 2) (pu : ∀ vs H Q E, sp vs H Q E → rd_joined_trees K sp_end_of { nx := fun _ H' => Q .non H', rt := Q } (start N_joined_trees vs) H) :
    FnG P w K mg base CX0 (k + 1) f fd ["one", "other"] sp :=
  okG F sc_joined_trees len fun cdv A outer s H vs Q E hr h => ⟨rd_joined_trees K sp_end_of, PSs.nox (
    have nd := sc_joined_trees.nd
    let N := N_joined_trees
    let scope := defScope s_joined_trees
    (pss_cons (ps_set (i := 2) nd rfl (by first | exact Or.inl rfl | exact Or.inr rfl) (me_str [] (by rfl)))
  (pss_cons (ps_set (i := 3) nd rfl (by first | exact Or.inl rfl | exact Or.inr rfl) me_int)
  (pss_cons (ps_set (i := 4) nd rfl (by first | exact Or.inl rfl | exact Or.inr rfl) me_int)
  (pss_cons (ms_while PassesOwn.never (mt_cmp op_ltM (mv 3) (pe_callB call_lenM (by rfl) T.f_len (by decide +kernel) (pa_cons (mv 0) pa_nil)) (by rfl)) (pss_one (ps_if (mt_cmp (op_eqM hr.units) (me_ix (mv 0) (mv 3) (fun _ _ => rfl)) (me_str [46] (by rfl)) (by rfl)) (pss_cons (ps_set (i := 5) nd rfl (by first | exact Or.inl rfl | exact Or.inr rfl) (me_callG C_end_of (hr.mono l_end_of) (by rfl) pass0 (pa_cons (mv 1) (pa_cons (mv 4) pa_nil))))
  (pss_cons (ps_set (i := 2) nd rfl (by first | exact Or.inl rfl | exact Or.inr rfl) (pe_op op_addM (mv 2) (me_slice (mv 1) (mo_some (mv 4)) (mo_some (mv 5)))))
  (pss_cons (ps_set (i := 3) nd rfl (by first | exact Or.inl rfl | exact Or.inr rfl) (pe_op op_addM (mv 3) me_int))
  (pss_one (ps_set (i := 4) nd rfl (by first | exact Or.inl rfl | exact Or.inr rfl) (mv 5)))))) (pss_one (ps_if (mt_cmp (op_eqM hr.units) (me_ix (mv 1) (mv 4) (fun _ _ => rfl)) (me_str [46] (by rfl)) (by rfl)) (pss_cons (ps_set (i := 5) nd rfl (by first | exact Or.inl rfl | exact Or.inr rfl) (me_callG C_end_of (hr.mono l_end_of) (by rfl) pass0 (pa_cons (mv 0) (pa_cons (mv 3) pa_nil))))
  (pss_cons (ps_set (i := 2) nd rfl (by first | exact Or.inl rfl | exact Or.inr rfl) (pe_op op_addM (mv 2) (me_slice (mv 0) (mo_some (mv 3)) (mo_some (mv 5)))))
  (pss_cons (ps_set (i := 3) nd rfl (by first | exact Or.inl rfl | exact Or.inr rfl) (mv 5))
  (pss_one (ps_set (i := 4) nd rfl (by first | exact Or.inl rfl | exact Or.inr rfl) (pe_op op_addM (mv 4) me_int)))))) (pss_cons (ps_set (i := 2) nd rfl (by first | exact Or.inl rfl | exact Or.inr rfl) (pe_op op_addM (mv 2) (me_ix (mv 0) (mv 3) (fun _ _ => rfl))))
  (pss_cons (ps_set (i := 3) nd rfl (by first | exact Or.inl rfl | exact Or.inr rfl) (pe_op op_addM (mv 3) me_int))
  (pss_one (ps_set (i := 4) nd rfl (by first | exact Or.inl rfl | exact Or.inr rfl) (pe_op op_addM (mv 4) me_int))))))))))
  (pss_one (ps_ret (mv 2)))))))), pu vs H Q E h⟩
abbrev s_joined : Stmt := top 10
theorem sc_joined : FnScope N_joined ["one", "other"] (defScope s_joined) := ⟨rfl, rfl, rfl, by decide +kernel, rfl, by decide +kernel, by decide +kernel⟩
theorem ok_joined {k : Nat} {sp : Sp} {sp_check_tree : Sp} {sp_joined_trees : Sp} {k_check_tree : Nat} {p_check_tree : List Str} {k_joined_trees : Nat} {p_joined_trees : List Str} (F : FunD K "joined" "joined" (defArgs s_joined) (defBody s_joined) (defScope s_joined) [] [] f fd) (T : Tx K mg) (C_check_tree : CalG P w K mg base (L2.CX P w) "check_tree" k_check_tree p_check_tree [] sp_check_tree) (C_joined_trees : CalG P w K mg base CX0 "joined_trees" k_joined_trees p_joined_trees [] sp_joined_trees) (l_check_tree : k_check_tree ≤ k) (l_joined_trees : k_joined_trees ≤ k)
    (len : ∀ vs H Q E, sp vs H Q E → vs.length = 2) (pu : ∀ vs H Q E, sp vs H Q E → rd_joined K sp_check_tree sp_joined_trees { nx := fun _ H' => Q .non H', rt := Q } (start N_joined vs) H) :
    FnG P w K mg base CX0 (k + 1) f fd ["one", "other"] sp :=
  okG F sc_joined len fun cdv A outer s H vs Q E hr h => ⟨rd_joined K sp_check_tree sp_joined_trees, PSs.nox (
    have nd := sc_joined.nd
    let N := N_joined
    let scope := defScope s_joined
    (pss_cons (ps_expr (me_callG C_check_tree (hr.mono l_check_tree) (by rfl) passF (pa_cons (mv 0) pa_nil)))
  (pss_cons (ps_expr (me_callG C_check_tree (hr.mono l_check_tree) (by rfl) passF (pa_cons (mv 1) pa_nil)))
  (pss_one (ps_ret (me_callG C_joined_trees (hr.mono l_joined_trees) (by rfl) pass0 (pa_cons (mv 0) (pa_cons (mv 1) pa_nil)))))))), pu vs H Q E h⟩
abbrev s_read_tree : Stmt := top 12
theorem sc_read_tree : FnScope N_read_tree ["value"] (defScope s_read_tree) := ⟨rfl, rfl, rfl, by decide +kernel, rfl, by decide +kernel, by decide +kernel⟩
theorem ok_read_tree {k : Nat} {sp : Sp}  (F : FunD K "read_tree" "read_tree" (defArgs s_read_tree) (defBody s_read_tree) (defScope s_read_tree) [] [] f fd) (T : Tx K mg)  
    (len : ∀ vs H Q E, sp vs H Q E → vs.length = 1) (pu : ∀ vs H Q E, sp vs H Q E → rd_read_tree K { nx := fun _ H' => Q .non H', rt := Q } (start N_read_tree vs) H) :
    FnG P w K mg base CX0 (k + 1) f fd ["value"] sp :=
  okG F sc_read_tree len fun cdv A outer s H vs Q E hr h => ⟨rd_read_tree K, PSs.nox (
    have nd := sc_read_tree.nd
    let N := N_read_tree
    let scope := defScope s_read_tree
    (pss_cons (ps_if (pt_not (mt_val (pe_callB call_isiM (by rfl) T.f_isinstance (by decide +kernel) (pa_cons (mv 0) (pa_cons (me_ty "str" (by rfl) T.f_str (by decide +kernel)) pa_nil))))) (pss_one (ps_ret me_non)) pss_nil)
  (pss_cons (ps_set (i := 1) nd rfl (by first | exact Or.inl rfl | exact Or.inr rfl) (pe_lst (pa_cons (pe_lst pa_nil) pa_nil)))
  (pss_cons (ms_for PassesOwn.never rfl (pi_iterM (mv 0)) (pg_name (i := 2) nd rfl (by first | exact Or.inl rfl | exact Or.inr rfl)) (pss_one (ps_if (mt_cmp (op_eqM hr.units) (mv 2) (me_str [40] (by rfl)) (by rfl)) (pss_one (ps_expr (me_append (mv 1) (pe_lst pa_nil)))) (pss_one (ps_if (mt_cmp (op_eqM hr.units) (mv 2) (me_str [46] (by rfl)) (by rfl)) (pss_one (ps_expr (me_append (me_ix (mv 1) (me_neg me_int) (fun _ _ => rfl)) (pe_tup pa_nil)))) (pss_one (ps_if (PW.pt (pw_and (mt_cmp (op_eqM hr.units) (mv 2) (me_str [41] (by rfl)) (by rfl)) (pw_and (mt_cmp op_gtM (pe_callB call_lenM (by rfl) T.f_len (by decide +kernel) (pa_cons (mv 1) pa_nil)) me_int (by rfl)) (pw_and1 (mt_cmp (op_eqM hr.units) (pe_callB call_lenM (by rfl) T.f_len (by decide +kernel) (pa_cons (me_ix (mv 1) (me_neg me_int) (fun _ _ => rfl)) pa_nil)) me_int (by rfl)))))) (pss_cons (ps_set (i := 3) nd rfl (by first | exact Or.inl rfl | exact Or.inr rfl) (me_pop (mv 1)))
  (pss_one (ps_expr (me_append (me_ix (mv 1) (me_neg me_int) (fun _ _ => rfl)) (pe_tup (pa_cons (me_ix (mv 3) me_int (fun _ _ => rfl)) (pa_cons (me_ix (mv 3) me_int (fun _ _ => rfl)) pa_nil))))))) (pss_one (ps_ret me_non)))))))))
  (pss_one (ps_ret (pe_ifExp (PW.pt (pw_and (mt_cmp (op_eqM hr.units) (pe_callB call_lenM (by rfl) T.f_len (by decide +kernel) (pa_cons (mv 1) pa_nil)) me_int (by rfl)) (pw_and1 (mt_cmp (op_eqM hr.units) (pe_callB call_lenM (by rfl) T.f_len (by decide +kernel) (pa_cons (me_ix (mv 1) me_int (fun _ _ => rfl)) pa_nil)) me_int (by rfl))))) (me_ix (me_ix (mv 1) me_int (fun _ _ => rfl)) me_int (fun _ _ => rfl)) me_non))))))), pu vs H Q E h⟩
abbrev s_nested : Stmt := top 13
theorem sc_nested : FnScope N_nested ["tree"] (defScope s_nested) := ⟨rfl, rfl, rfl, by decide +kernel, rfl, by decide +kernel, by decide +kernel⟩
theorem ok_nested {k : Nat} {sp : Sp} {sp_read_tree : Sp} {k_read_tree : Nat} {p_read_tree : List Str} {a_InvalidTree : Addr} (F : FunD K "nested" "nested" (defArgs s_nested) (defBody s_nested) (defScope s_nested) [] [] f fd) (T : Tx K mg) (C_read_tree : CalG P w K mg base CX0 "read_tree" k_read_tree p_read_tree [] sp_read_tree) (X_InvalidTree : ExcAt P w K mg "InvalidTree" "value" a_InvalidTree) (l_read_tree : k_read_tree ≤ k)
    (len : ∀ vs H Q E, sp vs H Q E → vs.length = 1) (pu : ∀ vs H Q E, sp vs H Q E → rd_nested K sp_read_tree a_InvalidTree E { nx := fun _ H' => Q .non H', rt := Q } (start N_nested vs) H) :
    FnG P w K mg base (L2.CX P w) (k + 1) f fd ["tree"] sp :=
  okG F sc_nested len fun cdv A outer s H vs Q E hr h => ⟨rd_nested K sp_read_tree a_InvalidTree E, (
    have nd := sc_nested.nd
    let N := N_nested
    let scope := defScope s_nested
    (pss_cons (ps_set (i := 1) nd rfl (by first | exact Or.inl rfl | exact Or.inr rfl) (me_callG C_read_tree (hr.mono l_read_tree) (by rfl) pass0 (pa_cons (mv 0) pa_nil)))
  (pss_cons (ps_if (mt_cmp op_isM (mv 1) me_non (by rfl)) (pss_one (ms_raise X_InvalidTree hr.r0 rfl (takes_of rfl rfl rfl rfl) (by rfl) (pa_cons (mv 0) pa_nil))) pss_nil)
  (pss_one (ps_ret (mv 1)))))), pu vs H Q E h⟩
abbrev s_width : Stmt := top 14
theorem sc_width : FnScope N_width ["nest"] (defScope s_width) := ⟨rfl, rfl, rfl, by decide +kernel, rfl, by decide +kernel, by decide +kernel⟩
theorem ok_width {k : Nat} {sp : Sp} {sp_width : Sp} {k_width : Nat} {p_width : List Str} (F : FunD K "width" "width" (defArgs s_width) (defBody s_width) (defScope s_width) [] [] f fd) (T : Tx K mg) (C_width : CalG P w K mg base CX0 "width" k_width p_width [] sp_width) (l_width : k_width ≤ k)
    (len : ∀ vs H Q E, sp vs H Q E → vs.length = 1) (pu : ∀ vs H Q E, sp vs H Q E → rd_width K sp_width { nx := fun _ H' => Q .non H', rt := Q } (start N_width vs) H) :
    FnG P w K mg base CX0 (k + 1) f fd ["nest"] sp :=
  okG F sc_width len fun cdv A outer s H vs Q E hr h => ⟨rd_width K sp_width, PSs.nox (
    have nd := sc_width.nd
    let N := N_width
    let scope := defScope s_width
    (pss_one (ps_ret (pe_ifExp (mt_cmp (op_eqM hr.units) (mv 0) (pe_tup pa_nil) (by rfl)) me_int (pe_op op_addM (me_callG C_width (hr.mono l_width) (by rfl) pass0 (pa_cons (me_ix (mv 0) me_int (fun _ _ => rfl)) pa_nil)) (me_callG C_width (hr.mono l_width) (by rfl) pass0 (pa_cons (me_ix (mv 0) me_int (fun _ _ => rfl)) pa_nil))))))), pu vs H Q E h⟩
abbrev s_measured : Stmt := top 15
theorem sc_measured : FnScope N_measured ["nest", "row"] (defScope s_measured) := ⟨rfl, rfl, rfl, by decide +kernel, rfl, by decide +kernel, by decide +kernel⟩
theorem ok_measured {k : Nat} {sp : Sp} {sp_width : Sp} {sp_measured : Sp} {k_width : Nat} {p_width : List Str} {k_measured : Nat} {p_measured : List Str} (F : FunD K "measured" "measured" (defArgs s_measured) (defBody s_measured) (defScope s_measured) [] [] f fd) (T : Tx K mg) (C_width : CalG P w K mg base CX0 "width" k_width p_width [] sp_width) (C_measured : CalG P w K mg base CX0 "measured" k_measured p_measured [] sp_measured) (l_width : k_width ≤ k) (l_measured : k_measured ≤ k)
    (len : ∀ vs H Q E, sp vs H Q E → vs.length = 2) (pu : ∀ vs H Q E, sp vs H Q E → rd_measured K sp_width sp_measured { nx := fun _ H' => Q .non H', rt := Q } (start N_measured vs) H) :
    FnG P w K mg base CX0 (k + 1) f fd ["nest", "row"] sp :=
  okG F sc_measured len fun cdv A outer s H vs Q E hr h => ⟨rd_measured K sp_width sp_measured, PSs.nox (
    have nd := sc_measured.nd
    let N := N_measured
    let scope := defScope s_measured
    (pss_cons (ps_if (mt_cmp (op_eqM hr.units) (mv 0) (pe_tup pa_nil) (by rfl)) (pss_one (ps_ret (pe_tup (pa_cons (me_ix (mv 1) me_int (fun _ _ => rfl)) (pa_cons (pe_lst pa_nil) pa_nil))))) pss_nil)
  (pss_cons (ps_set (i := 2) nd rfl (by first | exact Or.inl rfl | exact Or.inr rfl) (me_callG C_width (hr.mono l_width) (by rfl) pass0 (pa_cons (me_ix (mv 0) me_int (fun _ _ => rfl)) pa_nil)))
  (pss_cons (ps_asg (me_callG C_measured (hr.mono l_measured) (by rfl) pass0 (pa_cons (me_ix (mv 0) me_int (fun _ _ => rfl)) (pa_cons (me_slice (mv 1) po_none (mo_some (mv 2))) pa_nil))) (mg_tup rfl (mgs_cons (pg_name (i := 3) nd rfl (by first | exact Or.inl rfl | exact Or.inr rfl)) (mgs_cons (pg_name (i := 4) nd rfl (by first | exact Or.inl rfl | exact Or.inr rfl)) mgs_nil))))
  (pss_cons (ps_asg (me_callG C_measured (hr.mono l_measured) (by rfl) pass0 (pa_cons (me_ix (mv 0) me_int (fun _ _ => rfl)) (pa_cons (me_slice (mv 1) (mo_some (mv 2)) po_none) pa_nil))) (mg_tup rfl (mgs_cons (pg_name (i := 5) nd rfl (by first | exact Or.inl rfl | exact Or.inr rfl)) (mgs_cons (pg_name (i := 6) nd rfl (by first | exact Or.inl rfl | exact Or.inr rfl)) mgs_nil))))
  (pss_one (ps_ret (pe_tup (pa_cons (pe_op op_addM me_int (pe_callB (call_maxM rfl) (by rfl) T.f_max (by decide +kernel) (pa_cons (pe_callTy call_intM (by rfl) T.f_int (by decide +kernel) (pa_cons (mv 3) pa_nil)) (pa_cons (pe_callTy call_intM (by rfl) T.f_int (by decide +kernel) (pa_cons (mv 5) pa_nil)) pa_nil)))) (pa_cons (pe_op op_addM (pe_op op_addM (mv 4) (pe_lst (pa_cons (pe_op op_subM (mv 3) (mv 5)) pa_nil))) (mv 6)) pa_nil)))))))))), pu vs H Q E h⟩
abbrev s_is_even : Stmt := top 16
theorem sc_is_even : FnScope N_is_even ["nest", "row", "slack"] (defScope s_is_even) := ⟨rfl, rfl, rfl, by decide +kernel, rfl, by decide +kernel, by decide +kernel⟩
theorem ok_is_even {k : Nat} {sp : Sp} {sp_measured : Sp} {k_measured : Nat} {p_measured : List Str} (F : FunD K "is_even" "is_even" (defArgs s_is_even) (defBody s_is_even) (defScope s_is_even) [] [] f fd) (T : Tx K mg) (C_measured : CalG P w K mg base CX0 "measured" k_measured p_measured [] sp_measured) (l_measured : k_measured ≤ k)
    (len : ∀ vs H Q E, sp vs H Q E → vs.length = 3) (pu : ∀ vs H Q E, sp vs H Q E → rd_is_even K sp_measured { nx := fun _ H' => Q .non H', rt := Q } (start N_is_even vs) H) :
    FnG P w K mg base CX0 (k + 1) f fd ["nest", "row", "slack"] sp :=
  okG F sc_is_even len fun cdv A outer s H vs Q E hr h => ⟨rd_is_even K sp_measured, PSs.nox (
    have nd := sc_is_even.nd
    let N := N_is_even
    let scope := defScope s_is_even
    (pss_one (ps_ret (pe_cmpR (op_eqM hr.units) (me_lc (own := [("lean", 3)]) rfl nd (pi_iterM (me_ix (me_callG C_measured (hr.mono l_measured) (by rfl) pass0 (pa_cons (mv 0) (pa_cons (mv 1) pa_nil))) me_int (fun _ _ => rfl))) (blkOk_by (own := [("lean", 3)]) (N := N) (sc := scope) (by decide +kernel)) (fun _ _ _ _ _ => (pg_name (i := 3) nd rfl (by first | exact Or.inl rfl | exact Or.inr rfl))) (fun _ _ _ _ _ => (pts_one (mt_cmp op_gtM (pe_callB call_absM (by rfl) T.f_abs (by decide +kernel) (pa_cons (mv 3) pa_nil)) (mv 2) (by rfl)))) (fun _ _ _ _ _ => (mv 3))) (pe_lst pa_nil) (by rfl))))), pu vs H Q E h⟩
abbrev s_check_number : Stmt := top 18
theorem sc_check_number : FnScope N_check_number ["value"] (defScope s_check_number) := ⟨rfl, rfl, rfl, by decide +kernel, rfl, by decide +kernel, by decide +kernel⟩
theorem ok_check_number {k : Nat} {sp : Sp} {sp_is_whole : Sp} {k_is_whole : Nat} {p_is_whole : List Str} {a_InvalidNumber : Addr} (F : FunD K "check_number" "check_number" (defArgs s_check_number) (defBody s_check_number) (defScope s_check_number) [] [] f fd) (T : Tx K mg) (C_is_whole : CalG P w K mg base CX0 "is_whole" k_is_whole p_is_whole [] sp_is_whole) (X_InvalidNumber : ExcAt P w K mg "InvalidNumber" "value" a_InvalidNumber) (l_is_whole : k_is_whole ≤ k)
    (len : ∀ vs H Q E, sp vs H Q E → vs.length = 1) (pu : ∀ vs H Q E, sp vs H Q E → rd_check_number K sp_is_whole a_InvalidNumber E { nx := fun _ H' => Q .non H', rt := Q } (start N_check_number vs) H) :
    FnG P w K mg base (L2.CX P w) (k + 1) f fd ["value"] sp :=
  okG F sc_check_number len fun cdv A outer s H vs Q E hr h => ⟨rd_check_number K sp_is_whole a_InvalidNumber E, (
    have nd := sc_check_number.nd
    let N := N_check_number
    let scope := defScope s_check_number
    (pss_one (ps_if (pt_not (mt_val (me_callG C_is_whole (hr.mono l_is_whole) (by rfl) pass0 (pa_cons (mv 0) pa_nil)))) (pss_one (ms_raise X_InvalidNumber hr.r0 rfl (takes_of rfl rfl rfl rfl) (by rfl) (pa_cons (mv 0) pa_nil))) pss_nil))), pu vs H Q E h⟩
abbrev s_check_whole : Stmt := top 19
theorem sc_check_whole : FnScope N_check_whole ["value", "least", "most"] (defScope s_check_whole) := ⟨rfl, rfl, rfl, by decide +kernel, rfl, by decide +kernel, by decide +kernel⟩
theorem ok_check_whole {k : Nat} {sp : Sp} {sp_check_number : Sp} {k_check_number : Nat} {p_check_number : List Str} {a_InvalidNumber : Addr} (F : FunD K "check_whole" "check_whole" (defArgs s_check_whole) (defBody s_check_whole) (defScope s_check_whole) [.non] [] f fd) (T : Tx K mg) (C_check_number : CalG P w K mg base (L2.CX P w) "check_number" k_check_number p_check_number [] sp_check_number) (X_InvalidNumber : ExcAt P w K mg "InvalidNumber" "value" a_InvalidNumber) (l_check_number : k_check_number ≤ k)
    (len : ∀ vs H Q E, sp vs H Q E → vs.length = 3) (pu : ∀ vs H Q E, sp vs H Q E → rd_check_whole K sp_check_number a_InvalidNumber E { nx := fun _ H' => Q .non H', rt := Q } (start N_check_whole vs) H) :
    FnG P w K mg base (L2.CX P w) (k + 1) f fd ["value", "least", "most"] sp :=
  okG F sc_check_whole len fun cdv A outer s H vs Q E hr h => ⟨rd_check_whole K sp_check_number a_InvalidNumber E, (
    have nd := sc_check_whole.nd
    let N := N_check_whole
    let scope := defScope s_check_whole
    (pss_cons (ps_expr (me_callG C_check_number (hr.mono l_check_number) (by rfl) (passes_call (takes_of rfl rfl rfl rfl) fun _ _ _ _ h => h) (pa_cons (mv 0) pa_nil)))
  (pss_one (ps_if (PW.pt (pw_or (mt_cmp op_ltM (mv 0) (mv 1) (by rfl)) (pw_or1 (PW.pt (pw_and (mt_cmp op_notM (mv 2) me_non (by rfl)) (pw_and1 (mt_cmp op_gtM (mv 0) (mv 2) (by rfl)))))))) (pss_one (ms_raise X_InvalidNumber hr.r0 rfl (takes_of rfl rfl rfl rfl) (by rfl) (pa_cons (mv 0) pa_nil))) pss_nil)))), pu vs H Q E h⟩
abbrev s_nodes_up_to : Stmt := top 21
theorem sc_nodes_up_to : FnScope N_nodes_up_to ["height", "slack"] (defScope s_nodes_up_to) := ⟨rfl, rfl, rfl, by decide +kernel, rfl, by decide +kernel, by decide +kernel⟩
theorem ok_nodes_up_to {k : Nat} {sp : Sp}  (F : FunD K "nodes_up_to" "nodes_up_to" (defArgs s_nodes_up_to) (defBody s_nodes_up_to) (defScope s_nodes_up_to) [] [] f fd) (T : Tx K mg)  
    (len : ∀ vs H Q E, sp vs H Q E → vs.length = 2) (pu : ∀ vs H Q E, sp vs H Q E → rd_nodes_up_to K { nx := fun _ H' => Q .non H', rt := Q } (start N_nodes_up_to vs) H) :
    FnG P w K mg base CX0 (k + 1) f fd ["height", "slack"] sp :=
  okG F sc_nodes_up_to len fun cdv A outer s H vs Q E hr h => ⟨rd_nodes_up_to K, PSs.nox (
    have nd := sc_nodes_up_to.nd
    let N := N_nodes_up_to
    let scope := defScope s_nodes_up_to
    (pss_cons (ps_set (i := 2) nd rfl (by first | exact Or.inl rfl | exact Or.inr rfl) (pe_lst (pa_cons me_int pa_nil)))
  (pss_cons (ms_for PassesOwn.never rfl (pi_rng2M (by rfl) T.f_range me_int (pe_op op_addM (mv 0) me_int)) (pg_name (i := 3) nd rfl (by first | exact Or.inl rfl | exact Or.inr rfl)) (pss_one (ps_expr (me_append (mv 2) (pe_op op_addM (pe_op op_addM me_int (me_ix (mv 2) (pe_op op_subM (mv 3) me_int) (fun _ _ => rfl))) (me_ix (mv 2) (pe_callB (call_maxM rfl) (by rfl) T.f_max (by decide +kernel) (pa_cons me_int (pa_cons (pe_callTy call_intM (by rfl) T.f_int (by decide +kernel) (pa_cons (pe_op op_subM (pe_op op_subM (mv 3) me_int) (mv 1)) pa_nil)) pa_nil))) (fun _ _ => rfl)))))))
  (pss_one (ps_ret (mv 2)))))), pu vs H Q E h⟩
abbrev s_is_balanced : Stmt := top 23
theorem sc_is_balanced : FnScope N_is_balanced ["tree", "slack"] (defScope s_is_balanced) := ⟨rfl, rfl, rfl, by decide +kernel, rfl, by decide +kernel, by decide +kernel⟩
theorem ok_is_balanced {k : Nat} {sp : Sp} {sp_nested : Sp} {sp_check_whole : Sp} {sp_is_even : Sp} {sp_width : Sp} {k_nested : Nat} {p_nested : List Str} {k_check_whole__2 : Nat} {p_check_whole__2 : List Str} {k_width : Nat} {p_width : List Str} {k_is_even : Nat} {p_is_even : List Str} (F : FunD K "is_balanced" "is_balanced" (defArgs s_is_balanced) (defBody s_is_balanced) (defScope s_is_balanced) [] [] f fd) (T : Tx K mg) (C_nested : CalG P w K mg base (L2.CX P w) "nested" k_nested p_nested [] sp_nested) (C_check_whole__2 : CalG P w K mg base (L2.CX P w) "check_whole" k_check_whole__2 p_check_whole__2 [.non] sp_check_whole) (C_width : CalG P w K mg base CX0 "width" k_width p_width [] sp_width) (C_is_even : CalG P w K mg base CX0 "is_even" k_is_even p_is_even [] sp_is_even) (l_nested : k_nested ≤ k) (l_check_whole__2 : k_check_whole__2 ≤ k) (l_width : k_width ≤ k) (l_is_even : k_is_even ≤ k)
    (len : ∀ vs H Q E, sp vs H Q E → vs.length = 2) (pu : ∀ vs H Q E, sp vs H Q E → rd_is_balanced K sp_nested sp_check_whole sp_is_even sp_width E { nx := fun _ H' => Q .non H', rt := Q } (start N_is_balanced vs) H) :
    FnG P w K mg base (L2.CX P w) (k + 1) f fd ["tree", "slack"] sp :=
  okG F sc_is_balanced len fun cdv A outer s H vs Q E hr h => ⟨rd_is_balanced K sp_nested sp_check_whole sp_is_even sp_width E, (
    have nd := sc_is_balanced.nd
    let N := N_is_balanced
    let scope := defScope s_is_balanced
    (pss_cons (ps_set (i := 2) nd rfl (by first | exact Or.inl rfl | exact Or.inr rfl) (me_callG C_nested (hr.mono l_nested) (by rfl) (passes_call (takes_of rfl rfl rfl rfl) fun _ _ _ _ h => h) (pa_cons (mv 0) pa_nil)))
  (pss_cons (ps_expr (me_callG C_check_whole__2 (hr.mono l_check_whole__2) (by rfl) (passes_call (takes_of rfl rfl rfl rfl) fun _ _ _ _ h => h) (pa_cons (mv 1) (pa_cons me_int pa_nil))))
  (pss_one (ps_ret (me_callG C_is_even (hr.mono l_is_even) (by rfl) pass0 (pa_cons (mv 2) (pa_cons (pe_op op_mulM (pe_lst (pa_cons me_int pa_nil)) (me_callG C_width (hr.mono l_width) (by rfl) pass0 (pa_cons (mv 2) pa_nil))) (pa_cons (mv 1) pa_nil))))))))), pu vs H Q E h⟩
abbrev s_least_nodes : Stmt := top 24
theorem sc_least_nodes : FnScope N_least_nodes ["height", "slack"] (defScope s_least_nodes) := ⟨rfl, rfl, rfl, by decide +kernel, rfl, by decide +kernel, by decide +kernel⟩
theorem ok_least_nodes {k : Nat} {sp : Sp} {sp_check_whole : Sp} {sp_nodes_up_to : Sp} {k_check_whole__2 : Nat} {p_check_whole__2 : List Str} {k_nodes_up_to : Nat} {p_nodes_up_to : List Str} (F : FunD K "least_nodes" "least_nodes" (defArgs s_least_nodes) (defBody s_least_nodes) (defScope s_least_nodes) [] [] f fd) (T : Tx K mg) (C_check_whole__2 : CalG P w K mg base (L2.CX P w) "check_whole" k_check_whole__2 p_check_whole__2 [.non] sp_check_whole) (C_nodes_up_to : CalG P w K mg base CX0 "nodes_up_to" k_nodes_up_to p_nodes_up_to [] sp_nodes_up_to) (l_check_whole__2 : k_check_whole__2 ≤ k) (l_nodes_up_to : k_nodes_up_to ≤ k)
    (len : ∀ vs H Q E, sp vs H Q E → vs.length = 2) (pu : ∀ vs H Q E, sp vs H Q E → rd_least_nodes K sp_check_whole sp_nodes_up_to E { nx := fun _ H' => Q .non H', rt := Q } (start N_least_nodes vs) H) :
    FnG P w K mg base (L2.CX P w) (k + 1) f fd ["height", "slack"] sp :=
  okG F sc_least_nodes len fun cdv A outer s H vs Q E hr h => ⟨rd_least_nodes K sp_check_whole sp_nodes_up_to E, (
    have nd := sc_least_nodes.nd
    let N := N_least_nodes
    let scope := defScope s_least_nodes
    (pss_cons (ps_expr (me_callG C_check_whole__2 (hr.mono l_check_whole__2) (by rfl) (passes_call (takes_of rfl rfl rfl rfl) fun _ _ _ _ h => h) (pa_cons (mv 0) (pa_cons me_int pa_nil))))
  (pss_cons (ps_expr (me_callG C_check_whole__2 (hr.mono l_check_whole__2) (by rfl) (passes_call (takes_of rfl rfl rfl rfl) fun _ _ _ _ h => h) (pa_cons (mv 1) (pa_cons me_int pa_nil))))
  (pss_one (ps_ret (me_ix (me_callG C_nodes_up_to (hr.mono l_nodes_up_to) (by rfl) pass0 (pa_cons (mv 0) (pa_cons (mv 1) pa_nil))) (mv 0) (fun _ _ => rfl))))))), pu vs H Q E h⟩
abbrev s__law_mixed : Stmt := top 26
theorem sc__law_mixed : FnScope N__law_mixed ["_law_cell", "_law_k"] (defScope s__law_mixed) := ⟨rfl, rfl, rfl, by decide +kernel, rfl, by decide +kernel, by decide +kernel⟩
theorem ok__law_mixed {k : Nat} {sp : Sp}  (F : FunD K "_law_mixed" "_law_mixed" (defArgs s__law_mixed) (defBody s__law_mixed) (defScope s__law_mixed) [] [] f fd) (T : Tx K mg)  
    (len : ∀ vs H Q E, sp vs H Q E → vs.length = 2) (pu : ∀ vs H Q E, sp vs H Q E → rd__law_mixed K { nx := fun _ H' => Q .non H', rt := Q } (start N__law_mixed vs) H) :
    FnG P w K mg base CX0 (k + 1) f fd ["_law_cell", "_law_k"] sp :=
  okG F sc__law_mixed len fun cdv A outer s H vs Q E hr h => ⟨rd__law_mixed K, PSs.nox (
    have nd := sc__law_mixed.nd
    let N := N__law_mixed
    let scope := defScope s__law_mixed
    (pss_cons (ps_set (i := 2) nd rfl (by first | exact Or.inl rfl | exact Or.inr rfl) (pe_op op_modM (pe_op op_addM (pe_op op_addM (pe_op op_addM (pe_op op_mulM (mv 0) me_int) (pe_op op_mulM (pe_op op_mulM me_int (mv 1)) (mv 1))) (mv 1)) me_int) me_int))
  (pss_cons (ps_set (i := 2) nd rfl (by first | exact Or.inl rfl | exact Or.inr rfl) (pe_op op_modM (pe_op op_addM (pe_op op_mulM (mv 2) (mv 2)) me_int) me_int))
  (pss_one (ps_ret (pe_op op_modM (pe_op op_mulM (mv 2) me_int) me_int)))))), pu vs H Q E h⟩
abbrev s__law_purse : Stmt := top 27
theorem sc__law_purse : FnScope N__law_purse ["_law_script", "_law_at"] (defScope s__law_purse) := ⟨rfl, rfl, rfl, by decide +kernel, rfl, by decide +kernel, by decide +kernel⟩
theorem ok__law_purse {k : Nat} {sp : Sp}  (F : FunD K "_law_purse" "_law_purse" (defArgs s__law_purse) (defBody s__law_purse) (defScope s__law_purse) [] [] f fd) (T : Tx K mg)  
    (len : ∀ vs H Q E, sp vs H Q E → vs.length = 2) (pu : ∀ vs H Q E, sp vs H Q E → rd__law_purse K { nx := fun _ H' => Q .non H', rt := Q } (start N__law_purse vs) H) :
    FnG P w K mg base CX0 (k + 1) f fd ["_law_script", "_law_at"] sp :=
  okG F sc__law_purse len fun cdv A outer s H vs Q E hr h => ⟨rd__law_purse K, PSs.nox (
    have nd := sc__law_purse.nd
    let N := N__law_purse
    let scope := defScope s__law_purse
    (pss_cons (ps_set (i := 2) nd rfl (by first | exact Or.inl rfl | exact Or.inr rfl) (pe_callB (call_sumM rfl) (by rfl) T.f_sum (by decide +kernel) (pa_cons (me_slice (mv 0) (mo_some (mv 1)) (mo_some (pe_op op_addM (mv 1) me_int))) pa_nil)))
  (pss_one (ps_ret (pe_lst (pa_cons (pe_op op_modM (pe_callB (call_maxM rfl) (by rfl) T.f_max (by decide +kernel) (pa_cons (pe_op op_subM (mv 2) (pe_op op_powM me_int me_int)) (pa_cons me_int pa_nil))) (pe_op op_powM (pe_op op_powM me_int me_int) me_int)) (pa_cons (pe_op op_modM (mv 2) me_int) (pa_cons (pe_op op_mulM me_int (mv 1)) pa_nil)))))))), pu vs H Q E h⟩
abbrev s__law_draw : Stmt := top 28
theorem sc__law_draw : FnScope N__law_draw ["_law_purse_here", "_law_out_of"] (defScope s__law_draw) := ⟨rfl, rfl, rfl, by decide +kernel, rfl, by decide +kernel, by decide +kernel⟩
theorem ok__law_draw {k : Nat} {sp : Sp} {sp__law_mixed : Sp} {k__law_mixed : Nat} {p__law_mixed : List Str} (F : FunD K "_law_draw" "_law_draw" (defArgs s__law_draw) (defBody s__law_draw) (defScope s__law_draw) [] [] f fd) (T : Tx K mg) (C__law_mixed : CalG P w K mg base CX0 "_law_mixed" k__law_mixed p__law_mixed [] sp__law_mixed) (l__law_mixed : k__law_mixed ≤ k)
    (len : ∀ vs H Q E, sp vs H Q E → vs.length = 2) (pu : ∀ vs H Q E, sp vs H Q E → rd__law_draw K sp__law_mixed { nx := fun _ H' => Q .non H', rt := Q } (start N__law_draw vs) H) :
    FnG P w K mg base CX0 (k + 1) f fd ["_law_purse_here", "_law_out_of"] sp :=
  okG F sc__law_draw len fun cdv A outer s H vs Q E hr h => ⟨rd__law_draw K sp__law_mixed, PSs.nox (
    have nd := sc__law_draw.nd
    let N := N__law_draw
    let scope := defScope s__law_draw
    (pss_cons (ps_if (mt_cmp op_gtM (me_ix (mv 0) me_int (fun _ _ => rfl)) me_int (by rfl)) (pss_cons (ps_set (i := 2) nd rfl (by first | exact Or.inl rfl | exact Or.inr rfl) (pe_op op_modM (me_ix (mv 0) me_int (fun _ _ => rfl)) (mv 1)))
  (pss_cons (ps_asg (pe_op op_divM (me_ix (mv 0) me_int (fun _ _ => rfl)) (mv 1)) (pg_sub (mv 0) me_int set_listM))
  (pss_one (ps_ret (mv 2))))) pss_nil)
  (pss_cons (ps_set (i := 3) nd rfl (by first | exact Or.inl rfl | exact Or.inr rfl) me_int)
  (pss_cons (ms_for PassesOwn.never rfl (pi_rng1M (by rfl) T.f_range (pe_op op_addM me_int (pe_op op_divM (me_bits (mv 1)) me_int))) (pg_name (i := 4) nd rfl (by first | exact Or.inl rfl | exact Or.inr rfl)) (pss_cons (ps_asg (pe_op op_addM (me_ix (mv 0) me_int (fun _ _ => rfl)) me_int) (pg_sub (mv 0) me_int set_listM))
  (pss_one (ps_set (i := 3) nd rfl (by first | exact Or.inl rfl | exact Or.inr rfl) (pe_op op_addM (pe_op op_mulM (mv 3) me_int) (me_callG C__law_mixed (hr.mono l__law_mixed) (by rfl) pass0 (pa_cons (me_ix (mv 0) me_int (fun _ _ => rfl)) (pa_cons (me_ix (mv 0) me_int (fun _ _ => rfl)) pa_nil))))))))
  (pss_one (ps_ret (pe_op op_modM (mv 3) (mv 1)))))))), pu vs H Q E h⟩
abbrev s__law_nest : Stmt := top 29
theorem sc__law_nest : FnScope N__law_nest ["_law_purse_here", "_law_count"] (defScope s__law_nest) := ⟨rfl, rfl, rfl, by decide +kernel, rfl, by decide +kernel, by decide +kernel⟩
theorem ok__law_nest {k : Nat} {sp : Sp} {sp__law_draw : Sp} {sp__law_nest : Sp} {k__law_draw : Nat} {p__law_draw : List Str} {k__law_nest : Nat} {p__law_nest : List Str} (F : FunD K "_law_nest" "_law_nest" (defArgs s__law_nest) (defBody s__law_nest) (defScope s__law_nest) [] [] f fd) (T : Tx K mg) (C__law_draw : CalG P w K mg base CX0 "_law_draw" k__law_draw p__law_draw [] sp__law_draw) (C__law_nest : CalG P w K mg base CX0 "_law_nest" k__law_nest p__law_nest [] sp__law_nest) (l__law_draw : k__law_draw ≤ k) (l__law_nest : k__law_nest ≤ k)
    (len : ∀ vs H Q E, sp vs H Q E → vs.length = 2) (pu : ∀ vs H Q E, sp vs H Q E → rd__law_nest K sp__law_draw sp__law_nest { nx := fun _ H' => Q .non H', rt := Q } (start N__law_nest vs) H) :
    FnG P w K mg base CX0 (k + 1) f fd ["_law_purse_here", "_law_count"] sp :=
  okG F sc__law_nest len fun cdv A outer s H vs Q E hr h => ⟨rd__law_nest K sp__law_draw sp__law_nest, PSs.nox (
    have nd := sc__law_nest.nd
    let N := N__law_nest
    let scope := defScope s__law_nest
    (pss_cons (ps_if (mt_cmp (op_eqM hr.units) (mv 1) me_int (by rfl)) (pss_one (ps_ret (pe_tup pa_nil))) pss_nil)
  (pss_cons (ps_set (i := 2) nd rfl (by first | exact Or.inl rfl | exact Or.inr rfl) (me_callG C__law_draw (hr.mono l__law_draw) (by rfl) pass0 (pa_cons (mv 0) (pa_cons (mv 1) pa_nil))))
  (pss_cons (ps_set (i := 2) nd rfl (by first | exact Or.inl rfl | exact Or.inr rfl) (me_ix (pe_lst (pa_cons (mv 2) (pa_cons (mv 2) (pa_cons (mv 2) (pa_cons (mv 2) (pa_cons me_int (pa_cons (pe_op op_subM (mv 1) me_int) pa_nil))))))) (me_callG C__law_draw (hr.mono l__law_draw) (by rfl) pass0 (pa_cons (mv 0) (pa_cons me_int pa_nil))) (fun _ _ => rfl)))
  (pss_one (ps_ret (pe_tup (pa_cons (me_callG C__law_nest (hr.mono l__law_nest) (by rfl) pass0 (pa_cons (mv 0) (pa_cons (mv 2) pa_nil))) (pa_cons (me_callG C__law_nest (hr.mono l__law_nest) (by rfl) pass0 (pa_cons (mv 0) (pa_cons (pe_op op_subM (pe_op op_subM (mv 1) me_int) (mv 2)) pa_nil))) pa_nil))))))))), pu vs H Q E h⟩
abbrev s__law_text : Stmt := top 30
theorem sc__law_text : FnScope N__law_text ["_law_nest_here"] (defScope s__law_text) := ⟨rfl, rfl, rfl, by decide +kernel, rfl, by decide +kernel, by decide +kernel⟩
theorem ok__law_text {k : Nat} {sp : Sp} {sp__law_text : Sp} {k__law_text : Nat} {p__law_text : List Str} (F : FunD K "_law_text" "_law_text" (defArgs s__law_text) (defBody s__law_text) (defScope s__law_text) [] [] f fd) (T : Tx K mg) (C__law_text : CalG P w K mg base CX0 "_law_text" k__law_text p__law_text [] sp__law_text) (l__law_text : k__law_text ≤ k)
    (len : ∀ vs H Q E, sp vs H Q E → vs.length = 1) (pu : ∀ vs H Q E, sp vs H Q E → rd__law_text K sp__law_text { nx := fun _ H' => Q .non H', rt := Q } (start N__law_text vs) H) :
    FnG P w K mg base CX0 (k + 1) f fd ["_law_nest_here"] sp :=
  okG F sc__law_text len fun cdv A outer s H vs Q E hr h => ⟨rd__law_text K sp__law_text, PSs.nox (
    have nd := sc__law_text.nd
    let N := N__law_text
    let scope := defScope s__law_text
    (pss_cons (ps_if (mt_cmp (op_eqM hr.units) (mv 0) (pe_tup pa_nil) (by rfl)) (pss_one (ps_ret (me_str [46] (by rfl)))) pss_nil)
  (pss_one (ps_ret (pe_op op_addM (pe_op op_addM (pe_op op_addM (me_str [40] (by rfl)) (me_callG C__law_text (hr.mono l__law_text) (by rfl) pass0 (pa_cons (me_ix (mv 0) me_int (fun _ _ => rfl)) pa_nil))) (me_callG C__law_text (hr.mono l__law_text) (by rfl) pass0 (pa_cons (me_ix (mv 0) me_int (fun _ _ => rfl)) pa_nil))) (me_str [41] (by rfl))))))), pu vs H Q E h⟩
abbrev s__law_width : Stmt := top 31
theorem sc__law_width : FnScope N__law_width ["_law_nest_here"] (defScope s__law_width) := ⟨rfl, rfl, rfl, by decide +kernel, rfl, by decide +kernel, by decide +kernel⟩
theorem ok__law_width {k : Nat} {sp : Sp} {sp__law_width : Sp} {k__law_width : Nat} {p__law_width : List Str} (F : FunD K "_law_width" "_law_width" (defArgs s__law_width) (defBody s__law_width) (defScope s__law_width) [] [] f fd) (T : Tx K mg) (C__law_width : CalG P w K mg base CX0 "_law_width" k__law_width p__law_width [] sp__law_width) (l__law_width : k__law_width ≤ k)
    (len : ∀ vs H Q E, sp vs H Q E → vs.length = 1) (pu : ∀ vs H Q E, sp vs H Q E → rd__law_width K sp__law_width { nx := fun _ H' => Q .non H', rt := Q } (start N__law_width vs) H) :
    FnG P w K mg base CX0 (k + 1) f fd ["_law_nest_here"] sp :=
  okG F sc__law_width len fun cdv A outer s H vs Q E hr h => ⟨rd__law_width K sp__law_width, PSs.nox (
    have nd := sc__law_width.nd
    let N := N__law_width
    let scope := defScope s__law_width
    (pss_one (ps_ret (pe_ifExp (mt_cmp (op_eqM hr.units) (mv 0) (pe_tup pa_nil) (by rfl)) me_int (pe_op op_addM (me_callG C__law_width (hr.mono l__law_width) (by rfl) pass0 (pa_cons (me_ix (mv 0) me_int (fun _ _ => rfl)) pa_nil)) (me_callG C__law_width (hr.mono l__law_width) (by rfl) pass0 (pa_cons (me_ix (mv 0) me_int (fun _ _ => rfl)) pa_nil))))))), pu vs H Q E h⟩
abbrev s__law_measured : Stmt := top 32
theorem sc__law_measured : FnScope N__law_measured ["_law_nest_here", "_law_row"] (defScope s__law_measured) := ⟨rfl, rfl, rfl, by decide +kernel, rfl, by decide +kernel, by decide +kernel⟩
theorem ok__law_measured {k : Nat} {sp : Sp} {sp__law_width : Sp} {sp__law_measured : Sp} {k__law_width : Nat} {p__law_width : List Str} {k__law_measured : Nat} {p__law_measured : List Str} (F : FunD K "_law_measured" "_law_measured" (defArgs s__law_measured) (defBody s__law_measured) (defScope s__law_measured) [] [] f fd) (T : Tx K mg) (C__law_width : CalG P w K mg base CX0 "_law_width" k__law_width p__law_width [] sp__law_width) (C__law_measured : CalG P w K mg base CX0 "_law_measured" k__law_measured p__law_measured [] sp__law_measured) (l__law_width : k__law_width ≤ k) (l__law_measured : k__law_measured ≤ k)
    (len : ∀ vs H Q E, sp vs H Q E → vs.length = 2) (pu : ∀ vs H Q E, sp vs H Q E → rd__law_measured K sp__law_width sp__law_measured { nx := fun _ H' => Q .non H', rt := Q } (start N__law_measured vs) H) :
    FnG P w K mg base CX0 (k + 1) f fd ["_law_nest_here", "_law_row"] sp :=
  okG F sc__law_measured len fun cdv A outer s H vs Q E hr h => ⟨rd__law_measured K sp__law_width sp__law_measured, PSs.nox (
    have nd := sc__law_measured.nd
    let N := N__law_measured
    let scope := defScope s__law_measured
    (pss_cons (ps_if (mt_cmp (op_eqM hr.units) (mv 0) (pe_tup pa_nil) (by rfl)) (pss_one (ps_ret (pe_tup (pa_cons (me_ix (mv 1) me_int (fun _ _ => rfl)) (pa_cons (pe_lst pa_nil) pa_nil))))) pss_nil)
  (pss_cons (ps_set (i := 2) nd rfl (by first | exact Or.inl rfl | exact Or.inr rfl) (me_callG C__law_width (hr.mono l__law_width) (by rfl) pass0 (pa_cons (me_ix (mv 0) me_int (fun _ _ => rfl)) pa_nil)))
  (pss_cons (ps_asg (me_callG C__law_measured (hr.mono l__law_measured) (by rfl) pass0 (pa_cons (me_ix (mv 0) me_int (fun _ _ => rfl)) (pa_cons (me_slice (mv 1) po_none (mo_some (mv 2))) pa_nil))) (mg_tup rfl (mgs_cons (pg_name (i := 3) nd rfl (by first | exact Or.inl rfl | exact Or.inr rfl)) (mgs_cons (pg_name (i := 4) nd rfl (by first | exact Or.inl rfl | exact Or.inr rfl)) mgs_nil))))
  (pss_cons (ps_asg (me_callG C__law_measured (hr.mono l__law_measured) (by rfl) pass0 (pa_cons (me_ix (mv 0) me_int (fun _ _ => rfl)) (pa_cons (me_slice (mv 1) (mo_some (mv 2)) po_none) pa_nil))) (mg_tup rfl (mgs_cons (pg_name (i := 5) nd rfl (by first | exact Or.inl rfl | exact Or.inr rfl)) (mgs_cons (pg_name (i := 6) nd rfl (by first | exact Or.inl rfl | exact Or.inr rfl)) mgs_nil))))
  (pss_cons (ps_set (i := 7) nd rfl (by first | exact Or.inl rfl | exact Or.inr rfl) (pe_ifExp (mt_cmp op_gtM (mv 3) (mv 5) (by rfl)) (mv 3) (mv 5)))
  (pss_one (ps_ret (pe_tup (pa_cons (pe_op op_addM me_int (mv 7)) (pa_cons (pe_op op_addM (pe_op op_addM (mv 4) (pe_lst (pa_cons (pe_op op_subM (mv 3) (mv 5)) pa_nil))) (mv 6)) pa_nil))))))))))), pu vs H Q E h⟩
abbrev s__law_even : Stmt := top 33
theorem sc__law_even : FnScope N__law_even ["_law_nest_here", "_law_row", "_law_slack"] (defScope s__law_even) := ⟨rfl, rfl, rfl, by decide +kernel, rfl, by decide +kernel, by decide +kernel⟩
theorem ok__law_even {k : Nat} {sp : Sp} {sp__law_measured : Sp} {k__law_measured : Nat} {p__law_measured : List Str} (F : FunD K "_law_even" "_law_even" (defArgs s__law_even) (defBody s__law_even) (defScope s__law_even) [] [] f fd) (T : Tx K mg) (C__law_measured : CalG P w K mg base CX0 "_law_measured" k__law_measured p__law_measured [] sp__law_measured) (l__law_measured : k__law_measured ≤ k)
    (len : ∀ vs H Q E, sp vs H Q E → vs.length = 3) (pu : ∀ vs H Q E, sp vs H Q E → rd__law_even K sp__law_measured { nx := fun _ H' => Q .non H', rt := Q } (start N__law_even vs) H) :
    FnG P w K mg base CX0 (k + 1) f fd ["_law_nest_here", "_law_row", "_law_slack"] sp :=
  okG F sc__law_even len fun cdv A outer s H vs Q E hr h => ⟨rd__law_even K sp__law_measured, PSs.nox (
    have nd := sc__law_even.nd
    let N := N__law_even
    let scope := defScope s__law_even
    (pss_one (ps_ret (pe_cmpR (op_eqM hr.units) (me_lc (own := [("_law_lean", 3)]) rfl nd (pi_iterM (me_ix (me_callG C__law_measured (hr.mono l__law_measured) (by rfl) pass0 (pa_cons (mv 0) (pa_cons (mv 1) pa_nil))) me_int (fun _ _ => rfl))) (blkOk_by (own := [("_law_lean", 3)]) (N := N) (sc := scope) (by decide +kernel)) (fun _ _ _ _ _ => (pg_name (i := 3) nd rfl (by first | exact Or.inl rfl | exact Or.inr rfl))) (fun _ _ _ _ _ => (pts_one (mt_cmp op_gtM (pe_callB call_absM (by rfl) T.f_abs (by decide +kernel) (pa_cons (mv 3) pa_nil)) (mv 2) (by rfl)))) (fun _ _ _ _ _ => (mv 3))) (pe_lst pa_nil) (by rfl))))), pu vs H Q E h⟩
abbrev s__law_built : Stmt := top 34
theorem sc__law_built : FnScope N__law_built ["_law_purse_here", "_law_high", "_law_slack"] (defScope s__law_built) := ⟨rfl, rfl, rfl, by decide +kernel, rfl, by decide +kernel, by decide +kernel⟩
theorem ok__law_built {k : Nat} {sp : Sp} {sp__law_draw : Sp} {sp__law_built : Sp} {k__law_draw : Nat} {p__law_draw : List Str} {k__law_built : Nat} {p__law_built : List Str} (F : FunD K "_law_built" "_law_built" (defArgs s__law_built) (defBody s__law_built) (defScope s__law_built) [] [] f fd) (T : Tx K mg) (C__law_draw : CalG P w K mg base CX0 "_law_draw" k__law_draw p__law_draw [] sp__law_draw) (C__law_built : CalG P w K mg base CX0 "_law_built" k__law_built p__law_built [] sp__law_built) (l__law_draw : k__law_draw ≤ k) (l__law_built : k__law_built ≤ k)
    (len : ∀ vs H Q E, sp vs H Q E → vs.length = 3) (pu : ∀ vs H Q E, sp vs H Q E → rd__law_built K sp__law_draw sp__law_built { nx := fun _ H' => Q .non H', rt := Q } (start N__law_built vs) H) :
    FnG P w K mg base CX0 (k + 1) f fd ["_law_purse_here", "_law_high", "_law_slack"] sp :=
  okG F sc__law_built len fun cdv A outer s H vs Q E hr h => ⟨rd__law_built K sp__law_draw sp__law_built, PSs.nox (
    have nd := sc__law_built.nd
    let N := N__law_built
    let scope := defScope s__law_built
    (pss_cons (ps_if (mt_cmp op_ltM (mv 1) me_int (by rfl)) (pss_one (ps_ret (pe_tup pa_nil))) pss_nil)
  (pss_cons (ps_set (i := 3) nd rfl (by first | exact Or.inl rfl | exact Or.inr rfl) (pe_op op_subM (pe_op op_subM (mv 1) me_int) (me_callG C__law_draw (hr.mono l__law_draw) (by rfl) pass0 (pa_cons (mv 0) (pa_cons (pe_op op_addM (mv 2) me_int) pa_nil)))))
  (pss_cons (ps_set (i := 4) nd rfl (by first | exact Or.inl rfl | exact Or.inr rfl) (pe_lst (pa_cons (me_callG C__law_built (hr.mono l__law_built) (by rfl) pass0 (pa_cons (mv 0) (pa_cons (pe_op op_subM (mv 1) me_int) (pa_cons (mv 2) pa_nil)))) (pa_cons (me_callG C__law_built (hr.mono l__law_built) (by rfl) pass0 (pa_cons (mv 0) (pa_cons (mv 3) (pa_cons (mv 2) pa_nil)))) pa_nil))))
  (pss_one (ps_ret (pe_ifExp (mt_cmp (op_eqM hr.units) (me_callG C__law_draw (hr.mono l__law_draw) (by rfl) pass0 (pa_cons (mv 0) (pa_cons me_int pa_nil))) me_int (by rfl)) (pe_tup (pa_cons (me_ix (mv 4) me_int (fun _ _ => rfl)) (pa_cons (me_ix (mv 4) me_int (fun _ _ => rfl)) pa_nil))) (pe_tup (pa_cons (me_ix (mv 4) me_int (fun _ _ => rfl)) (pa_cons (me_ix (mv 4) me_int (fun _ _ => rfl)) pa_nil)))))))))), pu vs H Q E h⟩
abbrev s__law_least : Stmt := top 35
theorem sc__law_least : FnScope N__law_least ["_law_high", "_law_slack"] (defScope s__law_least) := ⟨rfl, rfl, rfl, by decide +kernel, rfl, by decide +kernel, by decide +kernel⟩
theorem ok__law_least {k : Nat} {sp : Sp}  (F : FunD K "_law_least" "_law_least" (defArgs s__law_least) (defBody s__law_least) (defScope s__law_least) [] [] f fd) (T : Tx K mg)  
    (len : ∀ vs H Q E, sp vs H Q E → vs.length = 2) (pu : ∀ vs H Q E, sp vs H Q E → rd__law_least K { nx := fun _ H' => Q .non H', rt := Q } (start N__law_least vs) H) :
    FnG P w K mg base CX0 (k + 1) f fd ["_law_high", "_law_slack"] sp :=
  okG F sc__law_least len fun cdv A outer s H vs Q E hr h => ⟨rd__law_least K, PSs.nox (
    have nd := sc__law_least.nd
    let N := N__law_least
    let scope := defScope s__law_least
    (pss_cons (ps_set (i := 2) nd rfl (by first | exact Or.inl rfl | exact Or.inr rfl) (pe_lst (pa_cons me_int pa_nil)))
  (pss_cons (ms_for PassesOwn.never rfl (pi_rng2M (by rfl) T.f_range me_int (pe_op op_addM (mv 0) me_int)) (pg_name (i := 3) nd rfl (by first | exact Or.inl rfl | exact Or.inr rfl)) (pss_one (ps_expr (me_append (mv 2) (pe_op op_addM (pe_op op_addM me_int (me_ix (mv 2) (pe_op op_subM (mv 3) me_int) (fun _ _ => rfl))) (me_ix (mv 2) (pe_callB (call_maxM rfl) (by rfl) T.f_max (by decide +kernel) (pa_cons me_int (pa_cons (pe_callTy call_intM (by rfl) T.f_int (by decide +kernel) (pa_cons (pe_op op_subM (pe_op op_subM (mv 3) me_int) (mv 1)) pa_nil)) pa_nil))) (fun _ _ => rfl)))))))
  (pss_one (ps_ret (me_ix (mv 2) (mv 0) (fun _ _ => rfl))))))), pu vs H Q E h⟩
abbrev s__law_caught : Stmt := top 36
theorem sc__law_caught : FnScope N__law_caught ["_law_door", "_law_first", "_law_second"] (defScope s__law_caught) := ⟨rfl, rfl, rfl, by decide +kernel, rfl, by decide +kernel, by decide +kernel⟩
theorem ok__law_caught {k : Nat} {sp : Sp} {sp_is_balanced : Sp} {sp_least_nodes : Sp} {k_is_balanced : Nat} {p_is_balanced : List Str} {k_least_nodes : Nat} {p_least_nodes : List Str} {a_TurnError : Addr} {a_InvalidNumber : Addr} {a_InvalidTree : Addr} (F : FunD K "_law_caught" "_law_caught" (defArgs s__law_caught) (defBody s__law_caught) (defScope s__law_caught) [] [] f fd) (T : Tx K mg) (C_is_balanced : CalG P w K mg base (L2.CX P w) "is_balanced" k_is_balanced p_is_balanced [] sp_is_balanced) (C_least_nodes : CalG P w K mg base (L2.CX P w) "least_nodes" k_least_nodes p_least_nodes [] sp_least_nodes) (G_TurnError : mg "TurnError" = some (.ref a_TurnError)) (X_InvalidNumber : ExcAt P w K mg "InvalidNumber" "value" a_InvalidNumber) (X_InvalidTree : ExcAt P w K mg "InvalidTree" "value" a_InvalidTree) (l_is_balanced : k_is_balanced ≤ k) (l_least_nodes : k_least_nodes ≤ k)
    (len : ∀ vs H Q E, sp vs H Q E → vs.length = 3) (pu : ∀ vs H Q E, sp vs H Q E → rd__law_caught K sp_is_balanced sp_least_nodes a_TurnError a_InvalidNumber a_InvalidTree { nx := fun _ H' => Q .non H', rt := Q } (start N__law_caught vs) H) :
    FnG P w K mg base CX0 (k + 1) f fd ["_law_door", "_law_first", "_law_second"] sp :=
  okG F sc__law_caught len fun cdv A outer s H vs Q E hr h => ⟨rd__law_caught K sp_is_balanced sp_least_nodes a_TurnError a_InvalidNumber a_InvalidTree, PSs.nox (
    have nd := sc__law_caught.nd
    let N := N__law_caught
    let scope := defScope s__law_caught
    (pss_cons (ps_set (i := 3) nd rfl (by first | exact Or.inl rfl | exact Or.inr rfl) me_non)
  (pss_cons (ms_try (i := 4) (j := 3) (tb := fun W => (tIfS (mTest (tOp (mEq K) (mVar 0) (mC (.int 0)))) (tDrop (tCallSD sp_is_balanced [] (WE W) (tCons (mVar 1) (tCons (mVar 2) tNil)))) (tDrop (tCallSD sp_least_nodes [] (WE W) (tCons (mVar 1) (tCons (mVar 2) tNil)))))) rfl rfl rfl nd rfl rfl ⟨by rfl, by decide, Or.inl G_TurnError⟩ (fun W pn xe tk po => (pss_one (ps_if (mt_cmp (op_eqM hr.units) (mv 0) me_int (by rfl)) (pss_one (ps_expr (me_callS C_is_balanced (hr.mono l_is_balanced) (by rfl) tk (pa_cons (mv 1) (pa_cons (mv 2) pa_nil))))) (pss_one (ps_expr (me_callS C_least_nodes (hr.mono l_least_nodes) (by rfl) tk (pa_cons (mv 1) (pa_cons (mv 2) pa_nil)))))))) (fun a oe pn hf => pss_one (ps_set (i := 3) nd rfl (by first | exact Or.inl rfl | exact Or.inr rfl) (mv 4))))
  (pss_cons (ps_if (mt_cmp op_isM (mv 3) me_non (by rfl)) (pss_one (ps_ret me_non)) pss_nil)
  (pss_one (ps_ret (pe_lst (pa_cons (pe_callB call_isiE (by rfl) T.f_isinstance (by decide +kernel) (pa_cons (mv 3) (pa_cons (pe_glob (by rfl) X_InvalidTree.gC rfl) pa_nil))) (pa_cons (pe_callB call_isiE (by rfl) T.f_isinstance (by decide +kernel) (pa_cons (mv 3) (pa_cons (pe_glob (by rfl) X_InvalidNumber.gC rfl) pa_nil))) (pa_cons (pe_callB (call_reprM hr) (by rfl) T.f_repr (by decide +kernel) (pa_cons (me_fld (mv 3)) pa_nil)) pa_nil)))))))))), pu vs H Q E h⟩
abbrev s__law_refused : Stmt := top 37
theorem sc__law_refused : FnScope N__law_refused [] (defScope s__law_refused) := ⟨rfl, rfl, rfl, by decide +kernel, rfl, by decide +kernel, by decide +kernel⟩
theorem ok__law_refused {k : Nat} {sp : Sp} {sp__law_caught : Sp} {k__law_caught : Nat} {p__law_caught : List Str} (F : FunD K "_law_refused" "_law_refused" (defArgs s__law_refused) (defBody s__law_refused) (defScope s__law_refused) [] [] f fd) (T : Tx K mg) (C__law_caught : CalG P w K mg base CX0 "_law_caught" k__law_caught p__law_caught [] sp__law_caught) (l__law_caught : k__law_caught ≤ k)
    (len : ∀ vs H Q E, sp vs H Q E → vs.length = 0) (pu : ∀ vs H Q E, sp vs H Q E → rd__law_refused K sp__law_caught { nx := fun _ H' => Q .non H', rt := Q } (start N__law_refused vs) H) :
    FnG P w K mg base CX0 (k + 1) f fd [] sp :=
  okG F sc__law_refused len fun cdv A outer s H vs Q E hr h => ⟨rd__law_refused K sp__law_caught, PSs.nox (
    have nd := sc__law_refused.nd
    let N := N__law_refused
    let scope := defScope s__law_refused
    (pss_cons (ps_set (i := 0) nd rfl (by first | exact Or.inl rfl | exact Or.inr rfl) (pe_lst (pa_cons (me_str [] (by rfl)) (pa_cons (me_str [46, 46] (by rfl)) (pa_cons (me_str [40, 46, 46, 41, 46] (by rfl)) (pa_cons (me_str [40, 46, 41] (by rfl)) (pa_cons (me_str [40, 46, 46, 46, 41] (by rfl)) (pa_cons (me_str [40, 46, 46] (by rfl)) (pa_cons (me_str [46, 46, 41] (by rfl)) (pa_cons (me_str [40, 46, 32, 46, 41] (by rfl)) (pa_cons (me_str [120] (by rfl)) (pa_cons (me_str [40, 40, 46, 46, 41, 40, 46, 46, 41, 41, 41] (by rfl)) (pa_cons (me_str [46, 40] (by rfl)) (pa_cons (me_str [40, 46, 46, 41, 40] (by rfl)) pa_nil))))))))))))))
  (pss_cons (ps_set (i := 0) nd rfl (by first | exact Or.inl rfl | exact Or.inr rfl) (pe_op op_addM (mv 0) (pe_lst (pa_cons (me_str [40, 46, 46, 41, 40, 46] (by rfl)) (pa_cons (me_str [32, 46] (by rfl)) (pa_cons (me_str [40, 46, 46, 41, 40, 40, 46, 46, 41] (by rfl)) (pa_cons (me_str [46, 32] (by rfl)) (pa_cons (me_str [40, 46, 46, 41, 10] (by rfl)) (pa_cons (me_str [32, 40, 46, 46, 41] (by rfl)) pa_nil)))))))))
  (pss_cons (ms_for PassesOwn.never rfl (pi_iterM (pe_op op_addM (mv 0) (pe_lst (pa_cons me_non (pa_cons me_int (pa_cons (pe_lst (pa_cons (me_str [46] (by rfl)) pa_nil)) (pa_cons (pe_tup pa_nil) (pa_cons pe_dnewK (pa_cons me_bl pa_nil))))))))) (pg_name (i := 1) nd rfl (by first | exact Or.inl rfl | exact Or.inr rfl)) (pss_one (ps_if (mt_cmp (op_neM hr.units) (me_callG C__law_caught (hr.mono l__law_caught) (by rfl) pass0 (pa_cons me_int (pa_cons (mv 1) (pa_cons (me_neg me_int) pa_nil)))) (pe_lst (pa_cons me_bl (pa_cons me_bl (pa_cons (pe_callB (call_reprM hr) (by rfl) T.f_repr (by decide +kernel) (pa_cons (mv 1) pa_nil)) pa_nil)))) (by rfl)) (pss_one (ps_ret me_bl)) pss_nil)))
  (pss_cons (ms_for PassesOwn.never rfl (pi_iterM (pe_lst (pa_cons me_non (pa_cons me_bl (pa_cons me_bl (pa_cons (me_neg me_int) (pa_cons (me_str [49] (by rfl)) (pa_cons (pe_lst (pa_cons me_int pa_nil)) (pa_cons (pe_tup (pa_cons me_int (pa_cons me_int pa_nil))) (pa_cons pe_dnewK pa_nil)))))))))) (pg_name (i := 1) nd rfl (by first | exact Or.inl rfl | exact Or.inr rfl)) (pss_cons (ps_set (i := 2) nd rfl (by first | exact Or.inl rfl | exact Or.inr rfl) (pe_lst (pa_cons me_bl (pa_cons me_bl (pa_cons (pe_callB (call_reprM hr) (by rfl) T.f_repr (by decide +kernel) (pa_cons (mv 1) pa_nil)) pa_nil)))))
  (pss_cons (ps_if (PW.pt (pw_or (mt_cmp (op_neM hr.units) (me_callG C__law_caught (hr.mono l__law_caught) (by rfl) pass0 (pa_cons me_int (pa_cons (me_str [40, 46, 46, 41] (by rfl)) (pa_cons (mv 1) pa_nil)))) (mv 2) (by rfl)) (pw_or (mt_cmp (op_neM hr.units) (me_callG C__law_caught (hr.mono l__law_caught) (by rfl) pass0 (pa_cons me_int (pa_cons me_int (pa_cons (mv 1) pa_nil)))) (mv 2) (by rfl)) (pw_or1 (mt_cmp (op_neM hr.units) (me_callG C__law_caught (hr.mono l__law_caught) (by rfl) pass0 (pa_cons me_int (pa_cons (mv 1) (pa_cons (me_neg me_int) pa_nil)))) (mv 2) (by rfl)))))) (pss_one (ps_ret me_bl)) pss_nil)
  (pss_one (ps_if (PW.pt (pw_or (mt_cmp (op_neM hr.units) (me_callG C__law_caught (hr.mono l__law_caught) (by rfl) pass0 (pa_cons me_int (pa_cons (me_str [46] (by rfl)) (pa_cons (mv 1) pa_nil)))) (mv 2) (by rfl)) (pw_or (mt_cmp (op_neM hr.units) (me_callG C__law_caught (hr.mono l__law_caught) (by rfl) pass0 (pa_cons me_int (pa_cons me_int (pa_cons (mv 1) pa_nil)))) (mv 2) (by rfl)) (pw_or1 (mt_cmp (op_neM hr.units) (me_callG C__law_caught (hr.mono l__law_caught) (by rfl) pass0 (pa_cons me_int (pa_cons (mv 1) (pa_cons me_int pa_nil)))) (mv 2) (by rfl)))))) (pss_one (ps_ret me_bl)) pss_nil)))))
  (pss_one (ps_ret (me_and (pe_cmpR op_isM (me_callG C__law_caught (hr.mono l__law_caught) (by rfl) pass0 (pa_cons me_int (pa_cons (me_str [46] (by rfl)) (pa_cons me_int pa_nil)))) me_non (by rfl)) (pe_one (pe_cmpR op_isM (me_callG C__law_caught (hr.mono l__law_caught) (by rfl) pass0 (pa_cons me_int (pa_cons me_int (pa_cons me_int pa_nil)))) me_non (by rfl))))))))))), pu vs H Q E h⟩
abbrev s__law_great_right : Stmt := top 38
theorem sc__law_great_right : FnScope N__law_great_right ["_law_purse_here"] (defScope s__law_great_right) := ⟨rfl, rfl, rfl, by decide +kernel, rfl, by decide +kernel, by decide +kernel⟩
theorem ok__law_great_right {k : Nat} {sp : Sp} {sp__law_draw : Sp} {sp_joined : Sp} {sp__law_text : Sp} {sp_is_balanced : Sp} {sp__law_even : Sp} {sp__law_width : Sp} {k__law_draw : Nat} {p__law_draw : List Str} {k__law_text : Nat} {p__law_text : List Str} {k_joined : Nat} {p_joined : List Str} {k_is_balanced : Nat} {p_is_balanced : List Str} {k__law_width : Nat} {p__law_width : List Str} {k__law_even : Nat} {p__law_even : List Str} (F : FunD K "_law_great_right" "_law_great_right" (defArgs s__law_great_right) (defBody s__law_great_right) (defScope s__law_great_right) [] [] f fd) (T : Tx K mg) (C__law_draw : CalG P w K mg base CX0 "_law_draw" k__law_draw p__law_draw [] sp__law_draw) (C__law_text : CalG P w K mg base CX0 "_law_text" k__law_text p__law_text [] sp__law_text) (C_joined : CalG P w K mg base CX0 "joined" k_joined p_joined [] sp_joined) (C_is_balanced : CalG P w K mg base (L2.CX P w) "is_balanced" k_is_balanced p_is_balanced [] sp_is_balanced) (C__law_width : CalG P w K mg base CX0 "_law_width" k__law_width p__law_width [] sp__law_width) (C__law_even : CalG P w K mg base CX0 "_law_even" k__law_even p__law_even [] sp__law_even) (l__law_draw : k__law_draw ≤ k) (l__law_text : k__law_text ≤ k) (l_joined : k_joined ≤ k) (l_is_balanced : k_is_balanced ≤ k) (l__law_width : k__law_width ≤ k) (l__law_even : k__law_even ≤ k)
    (len : ∀ vs H Q E, sp vs H Q E → vs.length = 1) (pu : ∀ vs H Q E, sp vs H Q E → rd__law_great_right K sp__law_draw sp_joined sp__law_text sp_is_balanced sp__law_even sp__law_width { nx := fun _ H' => Q .non H', rt := Q } (start N__law_great_right vs) H) :
    FnG P w K mg base CX0 (k + 1) f fd ["_law_purse_here"] sp :=
  okG F sc__law_great_right len fun cdv A outer s H vs Q E hr h => ⟨rd__law_great_right K sp__law_draw sp_joined sp__law_text sp_is_balanced sp__law_even sp__law_width, PSs.nox (
    have nd := sc__law_great_right.nd
    let N := N__law_great_right
    let scope := defScope s__law_great_right
    (pss_cons (ps_asg (pe_tup (pa_cons (pe_tup pa_nil) (pa_cons (pe_tup pa_nil) (pa_cons (pe_tup pa_nil) pa_nil)))) (mg_tup rfl (mgs_cons (pg_name (i := 1) nd rfl (by first | exact Or.inl rfl | exact Or.inr rfl)) (mgs_cons (pg_name (i := 2) nd rfl (by first | exact Or.inl rfl | exact Or.inr rfl)) (mgs_cons (pg_name (i := 3) nd rfl (by first | exact Or.inl rfl | exact Or.inr rfl)) mgs_nil)))))
  (pss_cons (ms_for PassesOwn.never rfl (pi_rng1M (by rfl) T.f_range me_int) (pg_name (i := 4) nd rfl (by first | exact Or.inl rfl | exact Or.inr rfl)) (pss_one (ms_par (i := 1) (j := 2) rfl nd rfl rfl (by decide) rfl rfl (pa_cons (pe_tup (pa_cons (mv 1) (pa_cons (pe_tup pa_nil) pa_nil))) (pa_cons (pe_tup (pa_cons (pe_tup pa_nil) (pa_cons (mv 2) pa_nil))) pa_nil)) (by rfl))))
  (pss_cons (ms_for PassesOwn.never rfl (pi_rng1M (by rfl) T.f_range me_int) (pg_name (i := 4) nd rfl (by first | exact Or.inl rfl | exact Or.inr rfl)) (pss_one (ps_set (i := 3) nd rfl (by first | exact Or.inl rfl | exact Or.inr rfl) (pe_ifExp (mt_cmp (op_eqM hr.units) (me_callG C__law_draw (hr.mono l__law_draw) (by rfl) pass0 (pa_cons (mv 0) (pa_cons me_int pa_nil))) me_int (by rfl)) (pe_tup (pa_cons (mv 3) (pa_cons (pe_tup pa_nil) pa_nil))) (pe_tup (pa_cons (pe_tup pa_nil) (pa_cons (mv 3) pa_nil)))))))
  (pss_cons (ps_set (i := 5) nd rfl (by first | exact Or.inl rfl | exact Or.inr rfl) (me_callG C_joined (hr.mono l_joined) (by rfl) pass0 (pa_cons (me_callG C__law_text (hr.mono l__law_text) (by rfl) pass0 (pa_cons (pe_tup (pa_cons (mv 1) (pa_cons (pe_tup pa_nil) pa_nil))) pa_nil)) (pa_cons (me_callG C__law_text (hr.mono l__law_text) (by rfl) pass0 (pa_cons (pe_tup (pa_cons (pe_tup pa_nil) (pa_cons (mv 2) pa_nil))) pa_nil)) pa_nil))))
  (pss_cons (ps_if (mt_cmp (op_neM hr.units) (mv 5) (me_callG C__law_text (hr.mono l__law_text) (by rfl) pass0 (pa_cons (pe_tup (pa_cons (mv 1) (pa_cons (mv 2) pa_nil))) pa_nil)) (by rfl)) (pss_one (ps_ret me_bl)) pss_nil)
  (pss_cons (ms_for PassesOwn.never rfl (pi_iterM (pe_lst (pa_cons (pe_tup (pa_cons (pe_tup (pa_cons (mv 1) (pa_cons (mv 2) pa_nil))) (pa_cons (mv 5) pa_nil))) (pa_cons (pe_tup (pa_cons (mv 3) (pa_cons (me_callG C__law_text (hr.mono l__law_text) (by rfl) pass0 (pa_cons (mv 3) pa_nil)) pa_nil))) pa_nil)))) (mg_tup rfl (mgs_cons (pg_name (i := 6) nd rfl (by first | exact Or.inl rfl | exact Or.inr rfl)) (mgs_cons (pg_name (i := 7) nd rfl (by first | exact Or.inl rfl | exact Or.inr rfl)) mgs_nil))) (pss_one (ms_for PassesOwn.never rfl (pi_iterM (pe_lst (pa_cons me_int (pa_cons me_int (pa_cons me_int (pa_cons me_int (pa_cons me_int pa_nil))))))) (pg_name (i := 8) nd rfl (by first | exact Or.inl rfl | exact Or.inr rfl)) (pss_one (ps_if (mt_cmp (op_neM hr.units) (me_callG C_is_balanced (hr.mono l_is_balanced) (by rfl) passF (pa_cons (mv 7) (pa_cons (mv 8) pa_nil))) (me_callG C__law_even (hr.mono l__law_even) (by rfl) pass0 (pa_cons (mv 6) (pa_cons (pe_op op_mulM (pe_lst (pa_cons me_int pa_nil)) (me_callG C__law_width (hr.mono l__law_width) (by rfl) pass0 (pa_cons (mv 6) pa_nil))) (pa_cons (mv 8) pa_nil)))) (by rfl)) (pss_one (ps_ret me_bl)) pss_nil)))))
  (pss_one (ps_ret me_bl))))))))), pu vs H Q E h⟩
abbrev s__law_right : Stmt := top 39
theorem sc__law_right : FnScope N__law_right ["_law_nest_here", "_law_zeros"] (defScope s__law_right) := ⟨rfl, rfl, rfl, by decide +kernel, rfl, by decide +kernel, by decide +kernel⟩
theorem ok__law_right {k : Nat} {sp : Sp} {sp_is_balanced : Sp} {sp__law_text : Sp} {sp__law_even : Sp} {k__law_text : Nat} {p__law_text : List Str} {k_is_balanced : Nat} {p_is_balanced : List Str} {k__law_even : Nat} {p__law_even : List Str} (F : FunD K "_law_right" "_law_right" (defArgs s__law_right) (defBody s__law_right) (defScope s__law_right) [] [] f fd) (T : Tx K mg) (C__law_text : CalG P w K mg base CX0 "_law_text" k__law_text p__law_text [] sp__law_text) (C_is_balanced : CalG P w K mg base (L2.CX P w) "is_balanced" k_is_balanced p_is_balanced [] sp_is_balanced) (C__law_even : CalG P w K mg base CX0 "_law_even" k__law_even p__law_even [] sp__law_even) (l__law_text : k__law_text ≤ k) (l_is_balanced : k_is_balanced ≤ k) (l__law_even : k__law_even ≤ k)
    (len : ∀ vs H Q E, sp vs H Q E → vs.length = 2) (pu : ∀ vs H Q E, sp vs H Q E → rd__law_right K sp_is_balanced sp__law_text sp__law_even { nx := fun _ H' => Q .non H', rt := Q } (start N__law_right vs) H) :
    FnG P w K mg base CX0 (k + 1) f fd ["_law_nest_here", "_law_zeros"] sp :=
  okG F sc__law_right len fun cdv A outer s H vs Q E hr h => ⟨rd__law_right K sp_is_balanced sp__law_text sp__law_even, PSs.nox (
    have nd := sc__law_right.nd
    let N := N__law_right
    let scope := defScope s__law_right
    (pss_cons (ms_for PassesOwn.never rfl (pi_rng1M (by rfl) T.f_range me_int) (pg_name (i := 2) nd rfl (by first | exact Or.inl rfl | exact Or.inr rfl)) (pss_cons (ps_set (i := 3) nd rfl (by first | exact Or.inl rfl | exact Or.inr rfl) (me_callG C_is_balanced (hr.mono l_is_balanced) (by rfl) passF (pa_cons (me_callG C__law_text (hr.mono l__law_text) (by rfl) pass0 (pa_cons (mv 0) pa_nil)) (pa_cons (mv 2) pa_nil))))
  (pss_one (ps_if (PW.pt (pw_or (pt_not (mt_val (pe_callB call_isiM (by rfl) T.f_isinstance (by decide +kernel) (pa_cons (mv 3) (pa_cons (me_ty "bool" (by rfl) T.f_bool (by decide +kernel)) pa_nil))))) (pw_or1 (mt_cmp (op_neM hr.units) (mv 3) (me_callG C__law_even (hr.mono l__law_even) (by rfl) pass0 (pa_cons (mv 0) (pa_cons (mv 1) (pa_cons (mv 2) pa_nil)))) (by rfl))))) (pss_one (ps_ret me_bl)) pss_nil))))
  (pss_one (ps_ret me_bl)))), pu vs H Q E h⟩
abbrev s_law : Stmt := top 40
theorem sc_law : FnScope N_law ["_law_script"] (defScope s_law) := ⟨rfl, rfl, rfl, by decide +kernel, rfl, by decide +kernel, by decide +kernel⟩
theorem ok_law {k : Nat} {sp : Sp} {sp__law_purse : Sp} {sp__law_draw : Sp} {sp__law_built : Sp} {sp__law_nest : Sp} {sp__law_right : Sp} {sp__law_width : Sp} {sp_least_nodes : Sp} {sp_is_balanced : Sp} {sp__law_text : Sp} {sp__law_least : Sp} {sp__law_great_right : Sp} {sp__law_refused : Sp} {k__law_purse : Nat} {p__law_purse : List Str} {k__law_draw : Nat} {p__law_draw : List Str} {k__law_built : Nat} {p__law_built : List Str} {k__law_nest : Nat} {p__law_nest : List Str} {k__law_width : Nat} {p__law_width : List Str} {k__law_right : Nat} {p__law_right : List Str} {k_least_nodes : Nat} {p_least_nodes : List Str} {k__law_text : Nat} {p__law_text : List Str} {k_is_balanced : Nat} {p_is_balanced : List Str} {k__law_least : Nat} {p__law_least : List Str} {k__law_great_right : Nat} {p__law_great_right : List Str} {k__law_refused : Nat} {p__law_refused : List Str} (F : FunD K "law" "law" (defArgs s_law) (defBody s_law) (defScope s_law) [] [] f fd) (T : Tx K mg) (C__law_purse : CalG P w K mg base CX0 "_law_purse" k__law_purse p__law_purse [] sp__law_purse) (C__law_draw : CalG P w K mg base CX0 "_law_draw" k__law_draw p__law_draw [] sp__law_draw) (C__law_built : CalG P w K mg base CX0 "_law_built" k__law_built p__law_built [] sp__law_built) (C__law_nest : CalG P w K mg base CX0 "_law_nest" k__law_nest p__law_nest [] sp__law_nest) (C__law_width : CalG P w K mg base CX0 "_law_width" k__law_width p__law_width [] sp__law_width) (C__law_right : CalG P w K mg base CX0 "_law_right" k__law_right p__law_right [] sp__law_right) (C_least_nodes : CalG P w K mg base (L2.CX P w) "least_nodes" k_least_nodes p_least_nodes [] sp_least_nodes) (C__law_text : CalG P w K mg base CX0 "_law_text" k__law_text p__law_text [] sp__law_text) (C_is_balanced : CalG P w K mg base (L2.CX P w) "is_balanced" k_is_balanced p_is_balanced [] sp_is_balanced) (C__law_least : CalG P w K mg base CX0 "_law_least" k__law_least p__law_least [] sp__law_least) (C__law_great_right : CalG P w K mg base CX0 "_law_great_right" k__law_great_right p__law_great_right [] sp__law_great_right) (C__law_refused : CalG P w K mg base CX0 "_law_refused" k__law_refused p__law_refused [] sp__law_refused) (l__law_purse : k__law_purse ≤ k) (l__law_draw : k__law_draw ≤ k) (l__law_built : k__law_built ≤ k) (l__law_nest : k__law_nest ≤ k) (l__law_width : k__law_width ≤ k) (l__law_right : k__law_right ≤ k) (l_least_nodes : k_least_nodes ≤ k) (l__law_text : k__law_text ≤ k) (l_is_balanced : k_is_balanced ≤ k) (l__law_least : k__law_least ≤ k) (l__law_great_right : k__law_great_right ≤ k) (l__law_refused : k__law_refused ≤ k)
    (len : ∀ vs H Q E, sp vs H Q E → vs.length = 1) (pu : ∀ vs H Q E, sp vs H Q E → rd_law K sp__law_purse sp__law_draw sp__law_built sp__law_nest sp__law_right sp__law_width sp_least_nodes sp_is_balanced sp__law_text sp__law_least sp__law_great_right sp__law_refused { nx := fun _ H' => Q .non H', rt := Q } (start N_law vs) H) :
    FnG P w K mg base CX0 (k + 1) f fd ["_law_script"] sp :=
  okG F sc_law len fun cdv A outer s H vs Q E hr h => ⟨rd_law K sp__law_purse sp__law_draw sp__law_built sp__law_nest sp__law_right sp__law_width sp_least_nodes sp_is_balanced sp__law_text sp__law_least sp__law_great_right sp__law_refused, PSs.nox (
    have nd := sc_law.nd
    let N := N_law
    let scope := defScope s_law
    (pss_cons (ms_for PassesOwn.never rfl (pi_rng1M (by rfl) T.f_range me_int) (pg_name (i := 1) nd rfl (by first | exact Or.inl rfl | exact Or.inr rfl)) (pss_cons (ps_set (i := 2) nd rfl (by first | exact Or.inl rfl | exact Or.inr rfl) (me_callG C__law_purse (hr.mono l__law_purse) (by rfl) pass0 (pa_cons (mv 0) (pa_cons (mv 1) pa_nil))))
  (pss_cons (ms_par (i := 3) (j := 4) rfl nd rfl rfl (by decide) rfl rfl (pa_cons (me_callG C__law_draw (hr.mono l__law_draw) (by rfl) pass0 (pa_cons (mv 2) (pa_cons me_int pa_nil))) (pa_cons (me_callG C__law_draw (hr.mono l__law_draw) (by rfl) pass0 (pa_cons (mv 2) (pa_cons me_int pa_nil))) pa_nil)) (by rfl))
  (pss_cons (ps_set (i := 5) nd rfl (by first | exact Or.inl rfl | exact Or.inr rfl) (me_callG C__law_built (hr.mono l__law_built) (by rfl) pass0 (pa_cons (mv 2) (pa_cons (mv 3) (pa_cons (mv 4) pa_nil)))))
  (pss_cons (ms_for PassesOwn.never rfl (pi_iterM (pe_lst (pa_cons (me_callG C__law_nest (hr.mono l__law_nest) (by rfl) pass0 (pa_cons (mv 2) (pa_cons (me_callG C__law_draw (hr.mono l__law_draw) (by rfl) pass0 (pa_cons (mv 2) (pa_cons (me_ix (pe_lst (pa_cons me_int (pa_cons me_int pa_nil))) (me_callG C__law_draw (hr.mono l__law_draw) (by rfl) pass0 (pa_cons (mv 2) (pa_cons me_int pa_nil))) (fun _ _ => rfl)) pa_nil))) pa_nil))) (pa_cons (mv 5) pa_nil)))) (pg_name (i := 6) nd rfl (by first | exact Or.inl rfl | exact Or.inr rfl)) (pss_one (ps_if (pt_not (mt_val (me_callG C__law_right (hr.mono l__law_right) (by rfl) pass0 (pa_cons (mv 6) (pa_cons (pe_op op_mulM (pe_lst (pa_cons me_int pa_nil)) (me_callG C__law_width (hr.mono l__law_width) (by rfl) pass0 (pa_cons (mv 6) pa_nil))) pa_nil))))) (pss_one (ps_ret me_bl)) pss_nil)))
  (pss_cons (ps_if (PW.pt (pw_or (pt_not (mt_val (me_callG C_is_balanced (hr.mono l_is_balanced) (by rfl) passF (pa_cons (me_callG C__law_text (hr.mono l__law_text) (by rfl) pass0 (pa_cons (mv 5) pa_nil)) (pa_cons (mv 4) pa_nil))))) (pw_or1 (mt_cmp op_ltM (pe_op op_subM (me_callG C__law_width (hr.mono l__law_width) (by rfl) pass0 (pa_cons (mv 5) pa_nil)) me_int) (me_callG C_least_nodes (hr.mono l_least_nodes) (by rfl) passF (pa_cons (mv 3) (pa_cons (mv 4) pa_nil))) (by rfl))))) (pss_one (ps_ret me_bl)) pss_nil)
  (pss_cons (ps_set (i := 3) nd rfl (by first | exact Or.inl rfl | exact Or.inr rfl) (me_callG C__law_draw (hr.mono l__law_draw) (by rfl) pass0 (pa_cons (mv 2) (pa_cons (me_ix (pe_lst (pa_cons me_int (pa_cons me_int pa_nil))) (me_callG C__law_draw (hr.mono l__law_draw) (by rfl) pass0 (pa_cons (mv 2) (pa_cons me_int pa_nil))) (fun _ _ => rfl)) pa_nil))))
  (pss_one (ps_if (mt_cmp (op_neM hr.units) (me_callG C_least_nodes (hr.mono l_least_nodes) (by rfl) passF (pa_cons (mv 3) (pa_cons (mv 4) pa_nil))) (me_callG C__law_least (hr.mono l__law_least) (by rfl) pass0 (pa_cons (mv 3) (pa_cons (mv 4) pa_nil))) (by rfl)) (pss_one (ps_ret me_bl)) pss_nil)))))))))
  (pss_one (ps_ret (me_and (me_callG0 C__law_refused (hr.mono l__law_refused) (by rfl) pass0) (pe_one (me_callG C__law_great_right (hr.mono l__law_great_right) (by rfl) pass0 (pa_cons (me_callG C__law_purse (hr.mono l__law_purse) (by rfl) pass0 (pa_cons (mv 0) (pa_cons me_int pa_nil))) pa_nil)))))))), pu vs H Q E h⟩
end
end Pf
namespace Pf
open PySem PySem.Spec PyProof.Rows L2 M
local macro_rules | `(tactic| walk_at "go") => `(tactic| try simp only [tSeq, tIfS, tIf, tNot, mTest, tCB, tCons, tNil, mVar, M.gt, mC, Bool.not_true, Bool.not_false, Bool.false_eq_true, if_false, if_true, tNext, tAsg, gName, gSub, List.set_cons_zero, List.set_cons_succ, mFor, mIter, S_cps, S_len, S_app, tOp, tSl, mPart, mUn, tNoPart, tRet, tRetN, tTup, tLst, tAnd, tOr, mAndV, mOrV, mNotV, tCall, tCallSD, tDrop, mPar, mPar3, mLstM, mStrM, mBits, mRng1, mRng2, mgTup, mgSeq, mgCons, mgNil, q_add1, q_add2, q_add3, q_add4, q_iadd1, q_iadd2, q_iadd3, q_sorted, q_sub, q_mul1, q_mul2, q_mod, q_div, q_pow, q_eq1, q_eq2, q_eq3, q_eq4, q_eq5, q_eq6, q_eq7, q_eq8, q_eq9, q_eq10, q_ne1, q_ne2, q_ne3, q_ne9, q_ne10, q_lt, q_le, q_gt, q_ge, q_inc1, q_ix1, q_ix2, q_sl1, q_sl2, q_set, q_len1, q_len2, q_int1, q_int2, q_max, q_min, q_abs, q_sum, q_list, q_isi1, q_is1, q_not1, q_isN1, q_isN2, q_isN3, q_isN4, q_join, q_count, q_split, q_app, q_pop, q_clear, q_isiE, q_repr, wipe, List.map_cons, List.map_nil, List.length_cons, List.length_nil, List.length_append, List.length_map, List.nil_append, List.cons_append, List.append_nil, cut_m3, cut_t3, cut_m1, cut_t1, cut_t2, S_eq, decide_eq_true_eq, Bool.not_eq_true', decide_eq_false_iff_not, ne_eq])
local macro_rules | `(tactic| walk_at "hh") => `(tactic| first | assumption | exact upd_same | exact Ex.new (by assumption) _ _ (by walk_at "hh") | exact Ex.at (by assumption) (by assumption) | solve_by_elim [Ex.at])
local macro_rules | `(tactic| walk_at "ee") => `(tactic| first | assumption | exact Ex.refl _ | exact Ex.push (by walk_at "ee") (by assumption) | exact Ex.trans (by assumption) (by assumption) | solve_by_elim [Ex.trans])
local macro_rules | `(tactic| walk_at "sz") => `(tactic| first | (rw [szl]; omega) | (simp only [szl, tx_len, sg_len, List.length_map, List.length_append, List.length_cons, List.length_nil, List.length_singleton, S_len]; omega))
def sp__law_mixed : Sp := fun vs H Q _ => ∃ i j : Int, vs = [.int i, .int j] ∧ 0 ≤ i ∧ i < 2 ^ 40 ∧ 0 ≤ j ∧ j < 2 ^ 200 ∧ ∀ r : Int, 0 ≤ r → r < 2147483587 → Q (.int r) H
theorem pu__law_mixed (K : PySem.W.Frag) (vs : List V) (H : Hp) (Q : VK) (E : XK) (h : sp__law_mixed vs H Q E) : rd__law_mixed K { nx := fun _ H' => Q .non H', rt := Q } (L2.start N__law_mixed vs) H := by
  obtain ⟨i, j, rfl, h1, h2, h3, h4, k⟩ := h
  show rd__law_mixed K _ [some _, some _, none] H
  unfold rd__law_mixed
  walk_at "go"
  have m1 : ∀ x : Int, 0 ≤ x % 2147483647 ∧ x % 2147483647 < 2 ^ 31 := fun x => ⟨Int.emod_nonneg _ (by decide), Int.lt_of_lt_of_le (Int.emod_lt_of_pos _ (by decide)) (by decide)⟩
  have m2 : ∀ x : Int, 0 ≤ x % 2147483629 ∧ x % 2147483629 < 2 ^ 31 := fun x => ⟨Int.emod_nonneg _ (by decide), Int.lt_of_lt_of_le (Int.emod_lt_of_pos _ (by decide)) (by decide)⟩
  refine ⟨mulOk 40 31 h1 h2 (by decide) (by decide), mulOk 20 200 (by decide) (by decide) h3 h4, ?_, by decide, mulOk 31 31 (m1 _).1 (m1 _).2 (m1 _).1 (m1 _).2, by decide, mulOk 31 31 (m2 _).1 (m2 _).2 (by decide) (by decide), by decide, k _ (Int.emod_nonneg _ (by decide)) (Int.emod_lt_of_pos _ (by decide))⟩
  refine mulOk 220 200 (Int.mul_nonneg (by decide) h3) ?_ h3 h4
  calc 7919 * j ≤ 7919 * 2 ^ 200 := Int.mul_le_mul_of_nonneg_left (Int.le_of_lt h4) (by decide)
    _ < 2 ^ 220 := by decide
def sp__law_purse (K : PySem.W.Frag) : Sp := fun vs H Q _ => ∃ (a : Addr) (ns : List Int) (i : Nat), vs = [.ref a, .int i] ∧ SqL K H a (ns.map V.int) ∧ i ≤ 1000 ∧ ∀ H' p, Ex H H' → H p = none → Pu H' p 2000000 → Q (.ref p) H'
theorem pu__law_purse (K : PySem.W.Frag) (vs : List V) (H : Hp) (Q : VK) (E : XK) (h : sp__law_purse K vs H Q E) : rd__law_purse K { nx := fun _ H' => Q .non H', rt := Q } (L2.start N__law_purse vs) H := by
  obtain ⟨a, ns, i, rfl, hL, hi, k⟩ := h
  show rd__law_purse K _ [some _, some _, none] H
  unfold rd__law_purse
  walk_at "go"
  refine ⟨_, hL, fun q hq => ?_⟩
  walk_at "go"
  refine ⟨(ns.drop i).take (i + 1 - i), SqL.of ?_, ?_⟩
  · rw [upd_same, show ((i : Int) + 1) = ((i + 1 : Nat) : Int) by omega, cut_mid, ← List.map_drop, ← List.map_take]
  generalize ((ns.drop i).take (i + 1 - i)).sum = r
  walk_at "go"
  refine ⟨by decide, by decide +kernel, by decide +kernel, by decide, by decide, ?_, by walk_at "sz", fun p hp => k _ p ((Ex.new hq).push hp) ((Ex.new hq).free hp) ⟨_, _, _, upd_same, ?_⟩⟩
  · exact mulOk 20 20 (by decide) (by decide) (by omega) (by omega)
  · have e : (((10 : Int) ^ (60 : Int).toNat) ^ (10 : Int).toNat) = 10 ^ 600 := by decide +kernel
    rw [e]
    have e2 : (10 : Int) ^ 600 < 2 ^ 2000 := by decide +kernel
    refine ⟨Int.emod_nonneg _ (by decide +kernel), Int.lt_trans (Int.emod_lt_of_pos _ (by decide +kernel)) e2, Int.emod_nonneg _ (by decide), Int.lt_of_lt_of_le (Int.emod_lt_of_pos _ (by decide)) (by decide), by omega, by omega⟩
def sp__law_draw : Sp := fun vs H Q _ => ∃ (g : Addr) (n : Nat) (m : Int), vs = [.ref g, .int m] ∧ 0 < m ∧ m < 2 ^ 200 ∧ n < 2 ^ 100 ∧ Pu H g n ∧ ∀ H' r, Fm [g] H H' → Pu H' g (n + 10) → 0 ≤ r → r < m → Q (.int r) H'
theorem pu__law_draw (K : PySem.W.Frag) (vs : List V) (H : Hp) (Q : VK) (E : XK) (h : sp__law_draw vs H Q E) : rd__law_draw K sp__law_mixed { nx := fun _ H' => Q .non H', rt := Q } (L2.start N__law_draw vs) H := by
  obtain ⟨g, n, m, rfl, m0, m1, hn, ⟨a, b, c, hg, a0, a1, b0, b1, c0, c1⟩, k⟩ := h
  show rd__law_draw K _ _ [some _, some _, none, none, none] H
  unfold rd__law_draw
  walk_at "go"
  refine ⟨_, _, .inl (SqL.of hg), aI_0 _ _, ?_⟩
  walk_at "go"
  by_cases ca : 0 < a
  · rw [if_pos ca]
    refine ⟨_, _, .inl (SqL.of hg), aI_0 _ _, ?_⟩
    walk_at "go"
    refine ⟨m0, _, _, .inl (SqL.of hg), aI_0 _ _, ?_⟩
    walk_at "go"
    refine ⟨divOk 200 m0 m1, _, 0, hg, rfl, ?_⟩
    refine k _ _ (Fm.mut (by simp)) ⟨_, b, c, upd_same, ?_⟩ (Int.emod_nonneg _ (by omega)) (Int.emod_lt_of_pos _ m0)
    refine ⟨Int.ediv_nonneg a0 (by omega), Int.lt_of_le_of_lt (Int.ediv_le_self _ a0) a1, b0, b1, c0, by omega⟩
  · rw [if_neg ca]
    walk_at "go"
    have hb := bits_le (Int.le_of_lt m0) m1
    have hd : ((Builtin.Int.intBits m : Int) / 30) ≤ 6 := by omega
    have hd0 : 0 ≤ ((Builtin.Int.intBits m : Int) / 30) := by omega
    refine ⟨divOk 10 (by decide) (by decide), ⟨by omega, by omega⟩, ?_⟩
    refine (?lp : ∀ (r : List V) (w : Int) (v : Option V) (j : Nat) (c : Int) (H1 : Hp), Fm [g] H H1 → H1 g = some (.lst [.int a, .int b, .int c]) → 0 ≤ c → c < n + j → 0 ≤ w → w < 2 ^ (40 * j + 1) → r.length + j ≤ 7 → fV _ _ _ _ r [some _, some _, none, some (.int w), v] H1) _ 0 none 0 c H (Fm.refl _ _) hg c0 (by omega) (by decide) (by decide) (by simp [upto]; omega)
    intro r
    induction r with
    | nil =>
      intro w v j c H1 e h1 c0 c1 w0 w1 hl
      simp only [fV]
      walk_at "go"
      refine ⟨trivial, m0, k _ _ e ⟨a, b, c, h1, a0, a1, b0, b1, c0, ?_⟩ (Int.emod_nonneg _ (by omega)) (Int.emod_lt_of_pos _ m0)⟩
      simp only [List.length_nil] at hl; omega
    | cons x r ih =>
      intro w v j c H1 e h1 c0 c1 w0 w1 hl
      simp only [fV]
      walk_at "go"
      refine ⟨trivial, _, _, .inl (SqL.of h1), aI_2 _ _ _ _, ?_⟩
      walk_at "go"
      refine ⟨_, 2, h1, rfl, ?_⟩
      simp only [List.set_cons_zero, List.set_cons_succ]
      refine ⟨?_, _, _, .inl (SqL.of upd_same), aI_1 _ _ _, _, _, .inl (SqL.of upd_same), aI_2 _ _ _ _, ?_⟩
      · refine mulOk 400 40 w0 (Int.lt_of_lt_of_le w1 ?_) (by decide) (by decide)
        exact_mod_cast Nat.pow_le_pow_right (by decide) (by simp only [List.length_cons] at hl; omega)
      · refine ⟨b, c + 1, rfl, b0, Int.lt_of_lt_of_le b1 (by decide), by omega, ?_, fun z z0 z1 => ?_⟩
        · have : (n : Int) < 2 ^ 100 := by exact_mod_cast hn
          simp only [List.length_cons] at hl
          calc c + 1 ≤ (2 : Int) ^ 100 + 8 := by omega
            _ < 2 ^ 200 := by decide
        · walk_at "go"
          refine ih _ _ (j + 1) (c + 1) _ (e.trans (Fm.mut (by simp))) upd_same (by omega) (by omega) ?_ ?_ (by simp only [List.length_cons] at hl; omega)
          · exact Int.add_nonneg (Int.mul_nonneg w0 (by decide)) z0
          · have e1 : (2 : Int) ^ (40 * (j + 1) + 1) = 2 ^ (40 * j + 1) * 2 ^ 40 := by
              rw [show 40 * (j + 1) + 1 = (40 * j + 1) + 40 by omega, Int.pow_add]
            have w2 : w + 1 ≤ 2 ^ (40 * j + 1) := w1
            calc w * 2147483587 + z < w * 2147483587 + 2147483587 := by omega
              _ = (w + 1) * 2147483587 := by rw [Int.add_mul]; omega
              _ ≤ 2 ^ (40 * j + 1) * 2147483587 := Int.mul_le_mul_of_nonneg_right w2 (by decide)
              _ ≤ 2 ^ (40 * j + 1) * 2 ^ 40 := Int.mul_le_mul_of_nonneg_left (by decide) (by omega)
              _ = _ := e1.symm
end Pf

namespace Pf
open PySem PySem.Spec PyProof.Rows L2 M
local macro_rules | `(tactic| walk_at "go") => `(tactic| try simp only [tSeq, tIfS, tIf, tNot, mTest, tCB, tCons, tNil, mVar, M.gt, mC, Bool.not_true, Bool.not_false, Bool.false_eq_true, if_false, if_true, tNext, tAsg, gName, gSub, List.set_cons_zero, List.set_cons_succ, mFor, mIter, S_cps, S_len, S_app, tOp, tSl, mPart, mUn, tNoPart, tRet, tRetN, tTup, tLst, tAnd, tOr, mAndV, mOrV, mNotV, tCall, tCallSD, tDrop, mPar, mPar3, mLstM, mStrM, mBits, mRng1, mRng2, mgTup, mgSeq, mgCons, mgNil, q_add1, q_add2, q_add3, q_add4, q_iadd1, q_iadd2, q_iadd3, q_sorted, q_sub, q_mul1, q_mul2, q_mod, q_div, q_pow, q_eq1, q_eq2, q_eq3, q_eq4, q_eq5, q_eq6, q_eq7, q_eq8, q_eq9, q_eq10, q_ne1, q_ne2, q_ne3, q_ne9, q_ne10, q_lt, q_le, q_gt, q_ge, q_inc1, q_ix1, q_ix2, q_sl1, q_sl2, q_set, q_len1, q_len2, q_int1, q_int2, q_max, q_min, q_abs, q_sum, q_list, q_isi1, q_is1, q_not1, q_isN1, q_isN2, q_isN3, q_isN4, q_join, q_count, q_split, q_app, q_pop, q_clear, q_isiE, q_repr, wipe, List.map_cons, List.map_nil, List.length_cons, List.length_nil, List.length_append, List.length_map, List.nil_append, List.cons_append, List.append_nil, cut_m3, cut_t3, cut_m1, cut_t1, cut_t2, S_eq, decide_eq_true_eq, Bool.not_eq_true', decide_eq_false_iff_not, ne_eq])
local macro_rules | `(tactic| walk_at "hh") => `(tactic| first | assumption | exact upd_same | exact Ex.new (by assumption) _ _ (by walk_at "hh") | exact Ex.at (by assumption) (by assumption) | solve_by_elim [Ex.at])
local macro_rules | `(tactic| walk_at "ee") => `(tactic| first | assumption | exact Ex.refl _ | exact Ex.push (by walk_at "ee") (by assumption) | exact Ex.trans (by assumption) (by assumption) | solve_by_elim [Ex.trans])
local macro_rules | `(tactic| walk_at "sz") => `(tactic| first | (rw [szl]; omega) | (simp only [szl, tx_len, sg_len, List.length_map, List.length_append, List.length_cons, List.length_nil, List.length_singleton, S_len]; omega))
def sp__law_nest (K : PySem.W.Frag) (N : Nat) : Sp := fun vs H Q _ => ∃ (g : Addr) (n m : Nat), vs = [.ref g, .int m] ∧ m < N ∧ m ≤ 2000 ∧ n + 20 * m < 2 ^ 90 ∧ Pu H g n ∧ ∀ H' v (t : Tr), t.n = m → Fm [g] H H' → Pu H' g (n + 20 * m) → Nst K H' v t → Q v H'
theorem pu__law_nest (K : PySem.W.Frag) (N : Nat) (vs : List V) (H : Hp) (Q : VK) (E : XK) (h : sp__law_nest K (N + 1) vs H Q E) : rd__law_nest K sp__law_draw (sp__law_nest K N) { nx := fun _ H' => Q .non H', rt := Q } (L2.start N__law_nest vs) H := by
  obtain ⟨g, n, m, rfl, mN, mm, hn, hp, k⟩ := h
  show rd__law_nest K _ _ _ [some _, some _, none] H
  unfold rd__law_nest
  walk_at "go"
  by_cases c : (m : Int) = 0
  · rw [if_pos c]
    walk_at "go"
    refine ⟨by walk_at "sz", fun p h1 => ?_⟩
    exact k _ _ .lf (by show 0 = m; omega) (Fm.new h1) ((hp.fm (Ex.new h1)).mono (by omega)) (.lf (SqT.of upd_same))
  · rw [if_neg c]
    walk_at "go"
    refine ⟨g, n, (m : Int), rfl, by omega, ?_, by omega, hp, fun H1 r e1 p1 r0 r1 => ?_⟩
    · have : (m : Int) ≤ 2000 := by exact_mod_cast mm
      exact Int.lt_of_le_of_lt this (by decide)
    walk_at "go"
    refine ⟨by walk_at "sz", fun p hp1 => ⟨g, n + 10, 6, rfl, by decide, by decide, by omega, p1.fm (Ex.new hp1), fun H2 j e2 p2 j0 j1 => ?_⟩⟩
    have h2 := e2 p _ (by simpa using p1.ne hp1) (upd_same (H := H1))
    have e3 : Fm [g] H H2 := e1.trans ((Fm.new hp1).trans e2)
    obtain ⟨r, rfl⟩ := Int.eq_ofNat_of_zero_le r0
    obtain ⟨j, rfl⟩ := Int.eq_ofNat_of_zero_le j0
    obtain ⟨q, hq, hqm⟩ : ∃ q : Nat, atI [V.int (r : Int), V.int r, V.int r, V.int r, V.int 0, V.int ((m : Int) - 1)] (j : Int) = some (.int q) ∧ q < m := by
      rcases j with _ | _ | _ | _ | _ | _ | j
      · exact ⟨r, rfl, by omega⟩
      · exact ⟨r, rfl, by omega⟩
      · exact ⟨r, rfl, by omega⟩
      · exact ⟨r, rfl, by omega⟩
      · exact ⟨0, rfl, by omega⟩
      · exact ⟨m - 1, by rw [aI_nat]; show some (V.int _) = _; congr 2; omega, by omega⟩
      · omega
    walk_at "go"
    refine ⟨_, _, .inl (SqL.of h2), hq, ?_⟩
    refine ⟨g, n + 10 + 10, q, rfl, by omega, by omega, by omega, p2, fun H3 v1 t1 ht1 e4 p3 n1 => ?_⟩
    walk_at "go"
    refine ⟨g, n + 10 + 10 + 20 * q, m - 1 - q, by congr 3; omega, by omega, by omega, by omega, p3, fun H4 v2 t2 ht2 e5 p4 n2 => ?_⟩
    walk_at "go"
    refine ⟨by walk_at "sz", fun s hs => ?_⟩
    have e6 := Ex.new (o := .tup [v1, v2]) hs
    have n1' : Nst K H4 v1 t1 := n1.fm (fun p hp => .inr (by rw [List.mem_singleton.mp hp]; exact p3.lst)) e5
    exact k _ _ (.nd t1 t2) (by show t1.n + t2.n + 1 = m; omega) (e3.trans (e4.trans (e5.trans (Fm.ex e6)))) ((p4.fm e6).mono (by omega)) (.nd (SqT.of upd_same) (n1'.ex e6) (n2.ex e6))
end Pf

namespace Pf
open PySem PySem.Spec PyProof.Rows L2 M
local macro_rules | `(tactic| walk_at "go") => `(tactic| try simp only [tSeq, tIfS, tIf, tNot, mTest, tCB, tCons, tNil, mVar, M.gt, mC, Bool.not_true, Bool.not_false, Bool.false_eq_true, if_false, if_true, tNext, tAsg, gName, gSub, List.set_cons_zero, List.set_cons_succ, mFor, mIter, S_cps, S_len, S_app, tOp, tSl, mPart, mUn, tNoPart, tRet, tRetN, tTup, tLst, tAnd, tOr, mAndV, mOrV, mNotV, tCall, tCallSD, tDrop, mPar, mPar3, mLstM, mStrM, mBits, mRng1, mRng2, mgTup, mgSeq, mgCons, mgNil, q_add1, q_add2, q_add3, q_add4, q_iadd1, q_iadd2, q_iadd3, q_sorted, q_sub, q_mul1, q_mul2, q_mod, q_div, q_pow, q_eq1, q_eq2, q_eq3, q_eq4, q_eq5, q_eq6, q_eq7, q_eq8, q_eq9, q_eq10, q_ne1, q_ne2, q_ne3, q_ne9, q_ne10, q_lt, q_le, q_gt, q_ge, q_inc1, q_ix1, q_ix2, q_sl1, q_sl2, q_set, q_len1, q_len2, q_int1, q_int2, q_max, q_min, q_abs, q_sum, q_list, q_isi1, q_is1, q_not1, q_isN1, q_isN2, q_isN3, q_isN4, q_join, q_count, q_split, q_app, q_pop, q_clear, q_isiE, q_repr, wipe, List.map_cons, List.map_nil, List.length_cons, List.length_nil, List.length_append, List.length_map, List.nil_append, List.cons_append, List.append_nil, cut_m3, cut_t3, cut_m1, cut_t1, cut_t2, S_eq, decide_eq_true_eq, Bool.not_eq_true', decide_eq_false_iff_not, ne_eq])
local macro_rules | `(tactic| walk_at "hh") => `(tactic| first | assumption | exact upd_same | exact Ex.new (by assumption) _ _ (by walk_at "hh") | exact Ex.at (by assumption) (by assumption) | solve_by_elim [Ex.at])
local macro_rules | `(tactic| walk_at "ee") => `(tactic| first | assumption | exact Ex.refl _ | exact Ex.push (by walk_at "ee") (by assumption) | exact Ex.trans (by assumption) (by assumption) | solve_by_elim [Ex.trans])
local macro_rules | `(tactic| walk_at "sz") => `(tactic| first | (rw [szl]; omega) | (simp only [szl, tx_len, sg_len, List.length_map, List.length_append, List.length_cons, List.length_nil, List.length_singleton, S_len]; omega))
def sp__law_text (K : PySem.W.Frag) (N : Nat) : Sp := fun vs H Q _ => ∃ (v : V) (t : Tr), vs = [v] ∧ Nst K H v t ∧ t.ht < N ∧ t.n ≤ 100000 ∧ ∀ H', Ex H H' → Q (.str (S t.s)) H'
theorem pu__law_text (K : PySem.W.Frag) (N : Nat) (vs : List V) (H : Hp) (Q : VK) (E : XK) (h : sp__law_text K (N + 1) vs H Q E) : rd__law_text K (sp__law_text K N) { nx := fun _ H' => Q .non H', rt := Q } (L2.start N__law_text vs) H := by
  obtain ⟨v, t, rfl, ht, hN, hl, k⟩ := h
  obtain ⟨a, rfl⟩ := ht.ref
  show rd__law_text K _ _ [some _] H
  unfold rd__law_text
  walk_at "go"
  refine ⟨by walk_at "sz", fun p hp => ?_⟩
  refine eq_nil (ht.ex (Ex.new hp)) (SqT.of upd_same) ?_
  have e1 := Ex.new (o := .tup []) hp
  cases ht with
  | lf h1 =>
    walk_at "go"
    exact k _ e1
  | @nd _ l r t u h1 h2 h3 =>
    simp only [Tr.ht] at hN
    simp only [Tr.n] at hl
    have l1 := t.s_len
    have l2 := u.s_len
    walk_at "go"
    rw [if_neg (by simp)]
    refine ⟨_, _, .inr (e1.T h1), aI_0 _ _, ?_⟩
    refine ⟨l, t, rfl, h2.ex e1, by omega, by omega, fun H1 e2 => ?_⟩
    walk_at "go"
    have e3 := e1.trans e2
    refine ⟨by walk_at "sz", _, _, .inr (e3.T h1), aI_1 _ _ _, ?_⟩
    refine ⟨r, u, rfl, h3.ex e3, by omega, by omega, fun H2 e4 => ?_⟩
    walk_at "go"
    refine ⟨by walk_at "sz", by walk_at "sz", ?_⟩
    have := k H2 (e3.trans e4)
    simpa only [Tr.s, List.append_assoc, List.cons_append, List.nil_append] using this
end Pf

namespace Pf
open PySem PySem.Spec PyProof.Rows L2 M
local macro_rules | `(tactic| walk_at "go") => `(tactic| try simp only [tSeq, tIfS, tIf, tNot, mTest, tCB, tCons, tNil, mVar, M.gt, mC, Bool.not_true, Bool.not_false, Bool.false_eq_true, if_false, if_true, tNext, tAsg, gName, gSub, List.set_cons_zero, List.set_cons_succ, mFor, mIter, S_cps, S_len, S_app, tOp, tSl, mPart, mUn, tNoPart, tRet, tRetN, tTup, tLst, tAnd, tOr, mAndV, mOrV, mNotV, tCall, tCallSD, tDrop, mPar, mPar3, mLstM, mStrM, mBits, mRng1, mRng2, mgTup, mgSeq, mgCons, mgNil, q_add1, q_add2, q_add3, q_add4, q_iadd1, q_iadd2, q_iadd3, q_sorted, q_sub, q_mul1, q_mul2, q_mod, q_div, q_pow, q_eq1, q_eq2, q_eq3, q_eq4, q_eq5, q_eq6, q_eq7, q_eq8, q_eq9, q_eq10, q_ne1, q_ne2, q_ne3, q_ne9, q_ne10, q_lt, q_le, q_gt, q_ge, q_inc1, q_ix1, q_ix2, q_sl1, q_sl2, q_set, q_len1, q_len2, q_int1, q_int2, q_max, q_min, q_abs, q_sum, q_list, q_isi1, q_is1, q_not1, q_isN1, q_isN2, q_isN3, q_isN4, q_join, q_count, q_split, q_app, q_pop, q_clear, q_isiE, q_repr, wipe, List.map_cons, List.map_nil, List.length_cons, List.length_nil, List.length_append, List.length_map, List.nil_append, List.cons_append, List.append_nil, cut_m3, cut_t3, cut_m1, cut_t1, cut_t2, S_eq, decide_eq_true_eq, Bool.not_eq_true', decide_eq_false_iff_not, ne_eq])
/-- no whole number -/
inductive Nw (K : PySem.W.Frag) (H : Hp) : V → Prop
  | non : Nw K H .non
  | bl (b : Bool) : Nw K H (.bl b)
  | str (z : Str) : Nw K H (.str z)
  | lst {a : Addr} {xs : List V} : SqL K H a xs → Nw K H (.ref a)
  | tup {a : Addr} {xs : List V} : SqT K H a xs → Nw K H (.ref a)
  | dct {a : Addr} {kvs : List (Key × V)} : H a = some (.dK kvs) → Nw K H (.ref a)
theorem Nw.ex {K : PySem.W.Frag} {H H' : Hp} (e : Ex H H') {v : V} (h : Nw K H v) : Nw K H' v := by
  cases h with
  | non => exact .non
  | bl b => exact .bl b
  | str z => exact .str z
  | lst h => exact .lst (e.L h)
  | tup h => exact .tup (e.T h)
  | dct h => exact .dct (e _ _ h)
def sp_is_whole (K : PySem.W.Frag) : Sp := fun vs H Q _ => ∃ v, vs = [v] ∧ (((∃ i, v = .int i) ∧ Q (.bl true) H) ∨ (Nw K H v ∧ Q (.bl false) H))
theorem pu_is_whole (K : PySem.W.Frag) (vs : List V) (H : Hp) (Q : VK) (E : XK) (h : sp_is_whole K vs H Q E) : rd_is_whole K { nx := fun _ H' => Q .non H', rt := Q } (L2.start N_is_whole vs) H := by
  obtain ⟨v, rfl, ⟨⟨i, rfl⟩, k⟩ | ⟨nw, k⟩⟩ := h
  · show rd_is_whole K _ [some _] H
    unfold rd_is_whole
    walk_at "go"
    unfold mIsi
    simp only [tyN, kb7, kb8]
    walk_at "go"
    exact k
  · show rd_is_whole K _ [some _] H
    unfold rd_is_whole
    walk_at "go"
    cases nw with
    | non => unfold mIsi; simp only [tyN, kb17]; exact k
    | str z => unfold mIsi; simp only [tyN, kb2]; exact k
    | bl b =>
      unfold mIsi
      simp only [tyN, kb12, kb13]
      walk_at "go"
      exact k
    | lst h => exact ⟨_, _, tyX_list h, ki_list.2.1, k⟩
    | tup h => exact ⟨_, _, tyX_tup h, ki_tup.2.1, k⟩
    | dct h => exact ⟨_, _, .base (.dK h), ki_dict.2.1, k⟩
def sp_check_number (K : PySem.W.Frag) (aN : Addr) : Sp := fun vs H Q E => ∃ v, vs = [v] ∧ (((∃ i, v = .int i) ∧ Q .non H) ∨ (Nw K H v ∧ Fail E H aN v))
theorem pu_check_number (K : PySem.W.Frag) (aN : Addr) (vs : List V) (H : Hp) (Q : VK) (E : XK) (h : sp_check_number K aN vs H Q E) : rd_check_number K (sp_is_whole K) aN E { nx := fun _ H' => Q .non H', rt := Q } (L2.start N_check_number vs) H := by
  obtain ⟨v, rfl, ⟨iv, k⟩ | ⟨nw, f⟩⟩ := h
  · show rd_check_number K _ _ _ _ [some _] H
    unfold rd_check_number
    walk_at "go"
    refine ⟨v, rfl, .inl ⟨iv, ?_⟩⟩
    walk_at "go"
    exact k
  · show rd_check_number K _ _ _ _ [some _] H
    unfold rd_check_number
    walk_at "go"
    refine ⟨v, rfl, .inr ⟨nw, ?_⟩⟩
    walk_at "go"
    unfold mRaise mMk
    walk_at "go"
    exact fun d hd => f _ d (Ex.new hd) hd upd_same
/-- a number that does not fit, or none -/
def BadN (K : PySem.W.Frag) (H : Hp) (v : V) (lo : Int) (m : V) : Prop := Nw K H v ∨ ∃ i, v = .int i ∧ (i < lo ∨ ∃ hi, m = .int hi ∧ hi < i)
def sp_check_whole (K : PySem.W.Frag) (aN : Addr) : Sp := fun vs H Q E => ∃ (v m : V) (lo : Int), vs = [v, .int lo, m] ∧ (m = .non ∨ ∃ hi, m = .int hi) ∧
  ((∃ i, v = .int i ∧ lo ≤ i ∧ (∀ hi, m = .int hi → i ≤ hi) ∧ Q .non H) ∨ (BadN K H v lo m ∧ Fail E H aN v))
theorem pu_check_whole (K : PySem.W.Frag) (aN : Addr) (vs : List V) (H : Hp) (Q : VK) (E : XK) (h : sp_check_whole K aN vs H Q E) : rd_check_whole K (sp_check_number K aN) aN E { nx := fun _ H' => Q .non H', rt := Q } (L2.start N_check_whole vs) H := by
  obtain ⟨v, m, lo, rfl, hm, ⟨i, rfl, h1, h2, k⟩ | ⟨nw | ⟨i, rfl, h1⟩, f⟩⟩ := h
  · show rd_check_whole K _ _ _ _ [some _, some _, some _] H
    unfold rd_check_whole
    walk_at "go"
    refine ⟨_, rfl, .inl ⟨⟨i, rfl⟩, ?_⟩⟩
    dsimp only
    rw [if_neg (by omega)]
    rcases hm with rfl | ⟨hi, rfl⟩
    · walk_at "go"
      exact k
    · walk_at "go"
      have := h2 hi rfl
      rw [if_neg (by omega)]
      exact k
  · show rd_check_whole K _ _ _ _ [some _, some _, some _] H
    unfold rd_check_whole
    walk_at "go"
    exact ⟨_, rfl, .inr ⟨nw, f⟩⟩
  · show rd_check_whole K _ _ _ _ [some _, some _, some _] H
    unfold rd_check_whole
    walk_at "go"
    refine ⟨_, rfl, .inl ⟨⟨i, rfl⟩, ?_⟩⟩
    dsimp only
    by_cases c : i < lo
    · rw [if_pos c]
      unfold mRaise mMk
      walk_at "go"
      exact fun d hd => f _ d (Ex.new hd) hd upd_same
    · obtain h1 | ⟨hi, rfl, h1⟩ := h1
      · exact absurd h1 c
      rw [if_neg c]
      walk_at "go"
      rw [if_pos h1]
      unfold mRaise mMk
      walk_at "go"
      exact fun d hd => f _ d (Ex.new hd) hd upd_same
end Pf

namespace Pf
open PySem PySem.Spec PyProof.Rows L2 M
local macro_rules | `(tactic| walk_at "go") => `(tactic| try simp only [tSeq, tIfS, tIf, tNot, mTest, tCB, tCons, tNil, mVar, M.gt, mC, Bool.not_true, Bool.not_false, Bool.false_eq_true, if_false, if_true, tNext, tAsg, gName, gSub, List.set_cons_zero, List.set_cons_succ, mFor, mIter, S_cps, S_len, S_app, tOp, tSl, mPart, mUn, tNoPart, tRet, tRetN, tTup, tLst, tAnd, tOr, mAndV, mOrV, mNotV, tCall, tCallSD, tDrop, mPar, mPar3, mLstM, mStrM, mBits, mRng1, mRng2, mgTup, mgSeq, mgCons, mgNil, q_add1, q_add2, q_add3, q_add4, q_iadd1, q_iadd2, q_iadd3, q_sorted, q_sub, q_mul1, q_mul2, q_mod, q_div, q_pow, q_eq1, q_eq2, q_eq3, q_eq4, q_eq5, q_eq6, q_eq7, q_eq8, q_eq9, q_eq10, q_ne1, q_ne2, q_ne3, q_ne9, q_ne10, q_lt, q_le, q_gt, q_ge, q_inc1, q_ix1, q_ix2, q_sl1, q_sl2, q_set, q_len1, q_len2, q_int1, q_int2, q_max, q_min, q_abs, q_sum, q_list, q_isi1, q_is1, q_not1, q_isN1, q_isN2, q_isN3, q_isN4, q_join, q_count, q_split, q_app, q_pop, q_clear, q_isiE, q_repr, wipe, List.map_cons, List.map_nil, List.length_cons, List.length_nil, List.length_append, List.length_map, List.nil_append, List.cons_append, List.append_nil, cut_m3, cut_t3, cut_m1, cut_t1, cut_t2, S_eq, decide_eq_true_eq, Bool.not_eq_true', decide_eq_false_iff_not, ne_eq])
/-- a value that is no text -/
inductive Oth (K : PySem.W.Frag) (H : Hp) : V → Prop
  | non : Oth K H .non
  | int (i : Int) : Oth K H (.int i)
  | bl (b : Bool) : Oth K H (.bl b)
  | lst {a : Addr} {xs : List V} : SqL K H a xs → Oth K H (.ref a)
  | tup {a : Addr} {xs : List V} : SqT K H a xs → Oth K H (.ref a)
  | dct {a : Addr} {kvs : List (Key × V)} : H a = some (.dK kvs) → Oth K H (.ref a)
theorem Oth.ex {K : PySem.W.Frag} {H H' : Hp} (e : Ex H H') {v : V} (h : Oth K H v) : Oth K H' v := by
  cases h with
  | non => exact .non
  | int i => exact .int i
  | bl b => exact .bl b
  | lst h => exact .lst (e.L h)
  | tup h => exact .tup (e.T h)
  | dct h => exact .dct (e _ _ h)
theorem Oth.isi {K : PySem.W.Frag} {H : Hp} {v : V} {Q : VK} (h : Oth K H v) (q : Q (.bl false) H) : mIsi K [v, .ty "str"] H Q := by
  cases h with
  | non => unfold mIsi; simp only [tyN, kb16]; exact q
  | int i => unfold mIsi; simp only [tyN, kb6]; exact q
  | bl b => unfold mIsi; simp only [tyN, kb11]; exact q
  | lst h => exact ⟨_, _, tyX_list h, ki_list.1, q⟩
  | tup h => exact ⟨_, _, tyX_tup h, ki_tup.1, q⟩
  | dct h => exact ⟨_, _, .base (.dK h), ki_dict.1, q⟩
def TV (K : PySem.W.Frag) (H : Hp) (v : V) (b : Bool) : Prop := (∃ z, v = .str (S z) ∧ z.length ≤ 1000000 ∧ b = isTr z) ∨ (Oth K H v ∧ b = false)
theorem TV.ex {K : PySem.W.Frag} {H H' : Hp} (e : Ex H H') {v : V} {b : Bool} (h : TV K H v b) : TV K H' v b := h.imp id fun ⟨h1, h2⟩ => ⟨h1.ex e, h2⟩
def sp_is_tree (K : PySem.W.Frag) : Sp := fun vs H Q _ => ∃ v b, vs = [v] ∧ TV K H v b ∧ ∀ H', Ex H H' → Q (.bl b) H'
theorem pu_is_tree (K : PySem.W.Frag) (vs : List V) (H : Hp) (Q : VK) (E : XK) (h : sp_is_tree K vs H Q E) : rd_is_tree K { nx := fun _ H' => Q .non H', rt := Q } (L2.start N_is_tree vs) H := by
  obtain ⟨v, b, rfl, ⟨z, rfl, hz, rfl⟩ | ⟨ho, rfl⟩, k⟩ := h
  · show rd_is_tree K _ [some _, none, none] H
    unfold rd_is_tree
    walk_at "go"
    refine (?lp : ∀ (r w : List Nat) (v : Option V) (H1 : Hp), Ex H H1 → (isTr z = true ↔ itRun w r = some [46]) → w.length + r.length ≤ z.length → fV _ _ _ _ (List.map (fun c => V.str (S [c])) r) [some (V.str (S z)), some (V.str (S w)), v] H1) z [] none H (Ex.refl H) (by unfold isTr; exact decide_eq_true_iff) (by simp)
    intro r
    induction r with
    | nil =>
      intro w v H1 e hi hl
      simp only [List.map_nil, fV]
      walk_at "go"
      refine ⟨trivial, ?_⟩
      have e2 : isTr z = decide (w = [46]) := by
        rw [Bool.eq_iff_iff, hi, decide_eq_true_iff]
        simp [itRun]
      have := k H1 e
      rw [e2] at this
      exact this
    | cons c r ih =>
      intro w v H1 e hi hl
      simp only [List.length_cons] at hl
      simp only [List.map_cons, fV]
      walk_at "go"
      simp only [itRun] at hi
      refine ⟨trivial, ?_⟩
      by_cases c1 : [c] = [41]
      · rw [if_pos c1]
        simp only [List.cons.injEq, and_true] at c1
        subst c1
        refine ⟨by rw [szl]; omega, ?_⟩
        by_cases c2 : w.drop (w.length - 3) = [40, 46, 46]
        · have e1 : itStep w 41 = some (w.take (w.length - 3) ++ [46]) := by unfold itStep; rw [if_pos rfl, if_pos c2]
          rw [e1, Option.bind_some] at hi
          rw [if_neg (by simpa using c2)]
          walk_at "go"
          refine ⟨by rw [szl]; omega, by rw [szl, List.length_take]; omega, ?_⟩
          exact ih _ _ _ e hi (by rw [List.length_append, List.length_take, List.length_singleton]; omega)
        · have e1 : itStep w 41 = none := by unfold itStep; rw [if_pos rfl, if_neg c2]
          rw [e1] at hi
          rw [if_pos (by simpa using c2)]
          walk_at "go"
          have e2 : isTr z = false := by rw [Bool.eq_false_iff, Ne, hi]; simp
          have := k H1 e
          rw [e2] at this
          exact this
      · rw [if_neg c1]
        simp only [List.cons.injEq, and_true] at c1
        walk_at "go"
        unfold mInTT
        walk_at "go"
        refine ⟨rfl, rfl, by rw [szl]; omega, fun p hp => ?_⟩
        by_cases c2 : c = 40 ∨ c = 46
        · have e1 : itStep w c = some (w ++ [c]) := by unfold itStep; rw [if_neg c1, if_pos c2]
          rw [e1, Option.bind_some] at hi
          have e2 : inV (.str (S [c])) [.str (S [40]), .str (S [46])] = true := by
            simp only [inV_cons, inV_nil, eqV_SS, Bool.or_false, Bool.or_eq_true, decide_eq_true_eq, List.cons.injEq, and_true]
            rcases c2 with rfl | rfl <;> simp
          rw [e2]
          walk_at "go"
          refine ⟨by rw [szl]; omega, ?_⟩
          exact ih _ _ _ (e.push hp) hi (by rw [List.length_append, List.length_singleton]; omega)
        · have e1 : itStep w c = none := by unfold itStep; rw [if_neg c1, if_neg c2]
          rw [e1] at hi
          have e2 : inV (.str (S [c])) [.str (S [40]), .str (S [46])] = false := by
            simp only [inV_cons, inV_nil, eqV_SS, Bool.or_false, Bool.or_eq_false_iff, decide_eq_false_iff_not, List.cons.injEq, and_true]
            exact ⟨fun z => c2 (.inl z.symm), fun z => c2 (.inr z.symm)⟩
          rw [e2]
          walk_at "go"
          have e3 : isTr z = false := by rw [Bool.eq_false_iff, Ne, hi]; simp
          rw [e3] at k
          exact k _ (e.push hp)
  · show rd_is_tree K _ [some _, none, none] H
    unfold rd_is_tree
    walk_at "go"
    refine ho.isi ?_
    walk_at "go"
    exact k H (Ex.refl H)
end Pf

namespace Pf
open PySem PySem.Spec PyProof.Rows L2 M
local macro_rules | `(tactic| walk_at "go") => `(tactic| try simp only [tSeq, tIfS, tIf, tNot, mTest, tCB, tCons, tNil, mVar, M.gt, mC, Bool.not_true, Bool.not_false, Bool.false_eq_true, if_false, if_true, tNext, tAsg, gName, gSub, List.set_cons_zero, List.set_cons_succ, mFor, mIter, S_cps, S_len, S_app, tOp, tSl, mPart, mUn, tNoPart, tRet, tRetN, tTup, tLst, tAnd, tOr, mAndV, mOrV, mNotV, tCall, tCallSD, tDrop, mPar, mPar3, mLstM, mStrM, mBits, mRng1, mRng2, mgTup, mgSeq, mgCons, mgNil, q_add1, q_add2, q_add3, q_add4, q_iadd1, q_iadd2, q_iadd3, q_sorted, q_sub, q_mul1, q_mul2, q_mod, q_div, q_pow, q_eq1, q_eq2, q_eq3, q_eq4, q_eq5, q_eq6, q_eq7, q_eq8, q_eq9, q_eq10, q_ne1, q_ne2, q_ne3, q_ne9, q_ne10, q_lt, q_le, q_gt, q_ge, q_inc1, q_ix1, q_ix2, q_sl1, q_sl2, q_set, q_len1, q_len2, q_int1, q_int2, q_max, q_min, q_abs, q_sum, q_list, q_isi1, q_is1, q_not1, q_isN1, q_isN2, q_isN3, q_isN4, q_join, q_count, q_split, q_app, q_pop, q_clear, q_isiE, q_repr, wipe, List.map_cons, List.map_nil, List.length_cons, List.length_nil, List.length_append, List.length_map, List.nil_append, List.cons_append, List.append_nil, cut_m3, cut_t3, cut_m1, cut_t1, cut_t2, S_eq, decide_eq_true_eq, Bool.not_eq_true', decide_eq_false_iff_not, ne_eq])
def sp_check_tree (K : PySem.W.Frag) (a_InvalidTree : Addr) : Sp := fun vs H Q E => ∃ v b, vs = [v] ∧ TV K H v b ∧ (b = true → ∀ H', Ex H H' → Q .non H') ∧ (b = false → ∀ H' d, Ex H H' → H d = none → H' d = some (.xd [("value", v)]) → E (.ref a_InvalidTree) (some d) H')
theorem pu_check_tree (K : PySem.W.Frag) (a : Addr) (vs : List V) (H : Hp) (Q : VK) (E : XK) (h : sp_check_tree K a vs H Q E) : rd_check_tree K (sp_is_tree K) a E { nx := fun _ H' => Q .non H', rt := Q } (L2.start N_check_tree vs) H := by
  obtain ⟨v, b, rfl, tv, k1, k2⟩ := h
  show rd_check_tree K _ _ _ _ [some _] H
  unfold rd_check_tree
  walk_at "go"
  refine ⟨v, b, rfl, tv, fun H1 e => ?_⟩
  cases b with
  | true =>
    walk_at "go"
    exact k1 rfl H1 e
  | false =>
    walk_at "go"
    unfold mRaise mMk
    walk_at "go"
    exact fun d hd => k2 rfl _ d (e.push hd) (e.free hd) upd_same
end Pf

namespace Pf
open PySem PySem.Spec PyProof.Rows L2 M
local macro_rules | `(tactic| walk_at "go") => `(tactic| try simp only [tSeq, tIfS, tIf, tNot, mTest, tCB, tCons, tNil, mVar, M.gt, mC, Bool.not_true, Bool.not_false, Bool.false_eq_true, if_false, if_true, tNext, tAsg, gName, gSub, List.set_cons_zero, List.set_cons_succ, mFor, mIter, S_cps, S_len, S_app, tOp, tSl, mPart, mUn, tNoPart, tRet, tRetN, tTup, tLst, tAnd, tOr, mAndV, mOrV, mNotV, tCall, tCallSD, tDrop, mPar, mPar3, mLstM, mStrM, mBits, mRng1, mRng2, mgTup, mgSeq, mgCons, mgNil, q_add1, q_add2, q_add3, q_add4, q_iadd1, q_iadd2, q_iadd3, q_sorted, q_sub, q_mul1, q_mul2, q_mod, q_div, q_pow, q_eq1, q_eq2, q_eq3, q_eq4, q_eq5, q_eq6, q_eq7, q_eq8, q_eq9, q_eq10, q_ne1, q_ne2, q_ne3, q_ne9, q_ne10, q_lt, q_le, q_gt, q_ge, q_inc1, q_ix1, q_ix2, q_sl1, q_sl2, q_set, q_len1, q_len2, q_int1, q_int2, q_max, q_min, q_abs, q_sum, q_list, q_isi1, q_is1, q_not1, q_isN1, q_isN2, q_isN3, q_isN4, q_join, q_count, q_split, q_app, q_pop, q_clear, q_isiE, q_repr, wipe, List.map_cons, List.map_nil, List.length_cons, List.length_nil, List.length_append, List.length_map, List.nil_append, List.cons_append, List.append_nil, cut_m3, cut_t3, cut_m1, cut_t1, cut_t2, S_eq, decide_eq_true_eq, Bool.not_eq_true', decide_eq_false_iff_not, ne_eq])
local macro_rules | `(tactic| walk_at "hh") => `(tactic| first | assumption | exact upd_same | exact Ex.new (by assumption) _ _ (by walk_at "hh") | exact Ex.at (by assumption) (by assumption) | solve_by_elim [Ex.at])
local macro_rules | `(tactic| walk_at "ee") => `(tactic| first | assumption | exact Ex.refl _ | exact Ex.push (by walk_at "ee") (by assumption) | exact Ex.trans (by assumption) (by assumption) | solve_by_elim [Ex.trans])
local macro_rules | `(tactic| walk_at "sz") => `(tactic| first | (rw [szl]; omega) | (simp only [szl, tx_len, sg_len, List.length_map, List.length_append, List.length_cons, List.length_nil, List.length_singleton, S_len]; omega))
def sp_read_tree (K : PySem.W.Frag) : Sp := fun vs H Q _ => ∃ v b, vs = [v] ∧ TV K H v b ∧ (b = false → ∀ H', Ex H H' → Q .non H') ∧ (∀ t : Tr, v = .str (S t.s) → ∀ H' w, Ex H H' → Nst K H' w t → Q w H')
theorem rev_last {ps : List Addr} {p : Addr} : ((p :: ps).reverse.map V.ref) = ps.reverse.map V.ref ++ [V.ref p] := by simp
theorem pu_read_tree (K : PySem.W.Frag) (vs : List V) (H : Hp) (Q : VK) (E : XK) (h : sp_read_tree K vs H Q E) : rd_read_tree K { nx := fun _ H' => Q .non H', rt := Q } (L2.start N_read_tree vs) H := by
  obtain ⟨v, b, rfl, ⟨z, rfl, hz, rfl⟩ | ⟨ho, rfl⟩, k1, k2⟩ := h
  · show rd_read_tree K _ [some _, none, none, none] H
    unfold rd_read_tree
    walk_at "go"
    refine ⟨by walk_at "sz", fun p hp => ?_⟩
    walk_at "go"
    refine ⟨by walk_at "sz", fun o ho => ?_⟩
    walk_at "go"
    have e1 := Ex.new (o := .lst []) hp
    have po : p ≠ o := by exact (ne_new (by walk_at "hh") ho).symm
    have hp2 : upd (upd H p (.lst [])) o (.lst [.ref p]) p = some (.lst []) := by walk_at "hh"
    have r0 : Rt K H (upd (upd H p (.lst [])) o (.lst [.ref p])) o [p] [[]] := ⟨e1.push ho, by rw [upd_same]; rfl, e1.free ho, by simp, by simpa using po.symm, fun q hq => by rw [List.mem_singleton.mp hq]; exact hp, .cons hp2 .nil .nil⟩
    have bad : ∀ Hx, Ex H Hx → (∀ t : Tr, z ≠ t.s) → Q .non Hx := fun Hx ex nt => k1 (by
      rw [Bool.eq_false_iff]
      intro y
      obtain ⟨t, rfl⟩ := (isTr_iff z).mp y
      exact nt t rfl) Hx ex
    refine (?lp : ∀ (r : List Nat) (ps : List Addr) (st : List (List Tr)) (x2 x3 : Option V) (Hx : Hp), Rt K H Hx o ps st → st ≠ [] → rtRun [[]] z = rtRun st r → r.length + st.length + (st.map List.length).sum ≤ 2000000 → fV _ _ _ _ (r.map fun c => V.str (S [c])) [some (.str (S z)), some (.ref o), x2, x3] Hx) z [p] [[]] none none _ r0 (by simp) rfl (by simp; omega)
    intro r
    induction r with
    | nil =>
      intro ps st x2 x3 Hx rt hne hrun hl
      simp only [List.map_nil, fV]
      refine ⟨trivial, ?_⟩
      walk_at "go"
      have hlen := rt.sa.len
      refine ⟨_, .inl (SqL.of rt.ho), ?_⟩
      rw [List.length_map, List.length_reverse, hlen]
      by_cases c1 : st.length = 1
      · obtain ⟨l, rfl⟩ := List.length_eq_one_iff.mp c1
        obtain ⟨q, rfl⟩ := List.length_eq_one_iff.mp hlen
        obtain ⟨ws, h1, h2⟩ := rt.top
        rw [if_pos (by simp)]
        refine ⟨_, _, .inl (SqL.of rt.ho), aI_0 _ _, ?_⟩
        refine ⟨_, .inl (SqL.of h1), ?_⟩
        rw [h2.len]
        by_cases c2 : l.length = 1
        · obtain ⟨t, rfl⟩ := List.length_eq_one_iff.mp c2
          simp only [q_eq1, decide_eq_true_eq]
          rw [if_pos (by simp)]
          refine ⟨_, _, .inl (SqL.of rt.ho), aI_0 _ _, ?_⟩
          cases h2 with
          | @cons w _ _ _ hw hn =>
            cases hn
            refine ⟨_, _, .inl (SqL.of h1), aI_0 _ _, ?_⟩
            have ez : z = t.s := rt_back (by rw [hrun]; rfl)
            exact k2 t (by rw [ez]) Hx w rt.ex hw
        · simp only [q_eq1, decide_eq_true_eq]
          rw [if_neg (by omega)]
          refine bad Hx rt.ex fun t e => ?_
          rw [e, rt_yes] at hrun
          simp only [rtRun, Option.some.injEq, List.cons.injEq, and_true] at hrun
          rw [← hrun] at c2
          exact c2 rfl
      · rw [if_neg (by omega)]
        refine bad Hx rt.ex fun t e => ?_
        rw [e, rt_yes] at hrun
        simp only [rtRun, Option.some.injEq] at hrun
        rw [← hrun] at c1
        exact c1 rfl
    | cons c r ih =>
      intro ps st x2 x3 Hx rt hne hrun hl
      obtain ⟨l, st, rfl⟩ := List.exists_cons_of_ne_nil hne
      have hlen := rt.sa.len
      obtain ⟨q, ps, rfl⟩ := List.exists_cons_of_ne_nil (l := ps) (fun e => by rw [e] at hlen; simp at hlen)
      obtain ⟨ws, h1, h2⟩ := rt.top
      have hw := h2.len
      simp only [List.length_cons, List.map_cons, List.sum_cons] at hl hlen
      have hrun' : rtRun [[]] z = (rtStep (l :: st) c).bind fun s => rtRun s r := hrun
      rw [rtStep_cons] at hrun'
      have rl := rev_last (ps := ps) (p := q)
      simp only [List.map_cons, fV]
      refine ⟨trivial, ?_⟩
      walk_at "go"
      by_cases c40 : [c] = [40]
      · rw [if_pos c40]
        simp only [List.cons.injEq, and_true] at c40
        rw [if_pos c40] at hrun'
        refine ⟨⟨_, rt.ho⟩, by walk_at "sz", fun n hn => ?_⟩
        refine ⟨_, Ex.new hn _ _ rt.ho, by rw [szl, List.length_map, List.length_reverse, List.length_cons]; omega, ?_⟩
        exact ih _ _ _ _ _ (rt.open_ hn) (by simp) hrun' (by simp only [List.length_cons, List.map_cons, List.sum_cons, List.length_nil]; omega)
      · rw [if_neg c40]
        simp only [List.cons.injEq, and_true] at c40
        rw [if_neg c40] at hrun'
        walk_at "go"
        by_cases c46 : [c] = [46]
        · rw [if_pos c46]
          simp only [List.cons.injEq, and_true] at c46
          rw [if_pos c46] at hrun'
          refine ⟨_, _, .inl (SqL.of rt.ho), by rw [rl]; exact aI_m1 _ _, ?_⟩
          dsimp only
          refine ⟨⟨_, h1⟩, by walk_at "sz", fun n hn => ?_⟩
          have rt2 := rt.new (x := .tup []) hn
          have h1' := Ex.new (o := .tup []) hn _ _ h1
          refine ⟨_, h1', by rw [szl]; omega, ?_⟩
          exact ih _ _ _ _ _ (rt2.put h1' (.lf (SqT.of upd_same))) (by simp) hrun' (by simp only [List.length_cons, List.map_cons, List.sum_cons, List.length_append, List.length_nil]; omega)
        · rw [if_neg c46]
          simp only [List.cons.injEq, and_true] at c46
          rw [if_neg c46] at hrun'
          walk_at "go"
          by_cases c41 : [c] = [41]
          · rw [if_pos c41]
            simp only [List.cons.injEq, and_true] at c41
            rw [if_pos c41] at hrun'
            refine ⟨_, .inl (SqL.of rt.ho), ?_⟩
            rw [List.length_map, List.length_reverse, List.length_cons]
            cases st with
            | nil =>
              have : ps = [] := List.length_eq_zero_iff.mp (by simpa using hlen)
              subst this
              rw [if_neg (by simp)]
              refine bad Hx rt.ex fun t e => ?_
              rw [e, rt_yes] at hrun'
              cases l with
              | nil => cases hrun'
              | cons x l => cases l with
                | nil => cases hrun'
                | cons y l => cases l <;> cases hrun'
            | cons up st =>
              rw [if_pos (by simp only [List.length_cons] at hlen; omega)]
              refine ⟨_, _, .inl (SqL.of rt.ho), by rw [rl]; exact aI_m1 _ _, ?_⟩
              refine ⟨_, .inl (SqL.of h1), ?_⟩
              rw [hw]
              by_cases c2 : l.length = 2
              · obtain ⟨a, b, rfl⟩ : ∃ a b, l = [a, b] := by
                  rcases l with _ | ⟨a, _ | ⟨b, _ | ⟨d, l⟩⟩⟩ <;> simp at c2
                  exact ⟨a, b, rfl⟩
                simp only [q_eq1, decide_eq_true_eq]
                rw [if_pos (by simp)]
                obtain ⟨up', ps, rfl⟩ := List.exists_cons_of_ne_nil (l := ps) (fun e => by rw [e] at hlen; simp at hlen)
                cases h2 with
                | @cons va _ _ _ na h2 =>
                  cases h2 with
                  | @cons vb _ _ _ nb h2 =>
                    cases h2
                    refine ⟨⟨_, rt.ho⟩, _, rt.ho, .ref q, by rw [rl]; simp, ?_⟩
                    have rp := rt.pop
                    obtain ⟨us, g1, g2⟩ := rp.top
                    rw [show ((q :: up' :: ps).reverse.map V.ref).dropLast = (up' :: ps).reverse.map V.ref by rw [rl]; simp]
                    walk_at "go"
                    have oq : q ≠ o := fun e => rt.no (by rw [← e]; exact List.mem_cons_self)
                    have h1q : upd Hx o (.lst ((up' :: ps).reverse.map V.ref)) q = some (.lst [va, vb]) := (upd_ne oq).trans h1
                    have e9 : Nl Hx (upd Hx o (.lst ((up' :: ps).reverse.map V.ref))) := Nl.mut rt.ho
                    refine ⟨_, _, .inl (SqL.of rp.ho), by rw [rev_last]; exact aI_m1 _ _, ?_⟩
                    dsimp only
                    refine ⟨⟨_, g1⟩, _, _, .inl (SqL.of h1q), aI_0 _ _, _, _, .inl (SqL.of h1q), aI_1 _ _ _, by walk_at "sz", fun n hn => ?_⟩
                    have rp2 := rp.new (x := .tup [va, vb]) hn
                    have g1' := Ex.new (o := .tup [va, vb]) hn _ _ g1
                    refine ⟨_, g1', by rw [szl, g2.len]; simp only [List.length_cons, List.map_cons, List.sum_cons] at hl; omega, ?_⟩
                    have en := Nl.new (o := .tup [va, vb]) hn
                    exact ih _ _ _ _ _ (rp2.put g1' (.nd (SqT.of upd_same) ((na.nl e9).nl en) ((nb.nl e9).nl en))) (by simp) hrun' (by simp only [List.length_cons, List.map_cons, List.sum_cons, List.length_append, List.length_singleton, List.length_nil] at hl ⊢; omega)
              · simp only [q_eq1, decide_eq_true_eq]
                rw [if_neg (by omega)]
                refine bad Hx rt.ex fun t e => ?_
                rw [e, rt_yes] at hrun'
                cases l with
                | nil => cases hrun'
                | cons x l => cases l with
                  | nil => cases hrun'
                  | cons y l => cases l with
                    | nil => exact c2 rfl
                    | cons w l => cases hrun'
          · rw [if_neg c41]
            simp only [List.cons.injEq, and_true] at c41
            rw [if_neg c41] at hrun'
            refine bad Hx rt.ex fun t e => ?_
            rw [e, rt_yes] at hrun'
            cases hrun'
  · show rd_read_tree K _ [some _, none, none, none] H
    unfold rd_read_tree
    walk_at "go"
    refine ho.isi ?_
    walk_at "go"
    exact k1 rfl H (Ex.refl H)
def sp_nested (K : PySem.W.Frag) (aI : Addr) : Sp := fun vs H Q E => ∃ v, vs = [v] ∧ ((TV K H v false ∧ Fail E H aI v) ∨ ∃ t : Tr, v = .str (S t.s) ∧ t.n ≤ 100000 ∧ ∀ H' w, Ex H H' → Nst K H' w t → Q w H')
theorem pu_nested (K : PySem.W.Frag) (aI : Addr) (vs : List V) (H : Hp) (Q : VK) (E : XK) (h : sp_nested K aI vs H Q E) : rd_nested K (sp_read_tree K) aI E { nx := fun _ H' => Q .non H', rt := Q } (L2.start N_nested vs) H := by
  obtain ⟨v, rfl, ⟨tv, f⟩ | ⟨t, rfl, hn, k⟩⟩ := h
  · show rd_nested K _ _ _ _ [some _, none] H
    unfold rd_nested
    walk_at "go"
    refine ⟨v, false, rfl, tv, fun _ H1 e1 => ?_, fun t e => ?_⟩
    · walk_at "go"
      unfold mRaise mMk
      walk_at "go"
      exact fun d hd => f _ d (e1.push hd) (e1.free hd) upd_same
    · subst e
      rcases tv with ⟨z, e, _, hz⟩ | ⟨ho, _⟩
      · have := S_inj.mp (V.str.inj e)
        rw [← this, isTr_s] at hz
        cases hz
      · cases ho
  · show rd_nested K _ _ _ _ [some _, none] H
    unfold rd_nested
    walk_at "go"
    have hs := t.s_len
    refine ⟨_, true, rfl, .inl ⟨_, rfl, by omega, (isTr_s t).symm⟩, fun e => (by cases e), fun u e H1 w e1 hw => ?_⟩
    have := Tr.s_inj.mp (S_inj.mp (V.str.inj e))
    subst this
    obtain ⟨a, rfl⟩ := hw.ref
    walk_at "go"
    exact k H1 _ e1 hw
end Pf

namespace Pf
open PySem PySem.Spec PyProof.Rows L2 M
local macro_rules | `(tactic| walk_at "go") => `(tactic| try simp only [tSeq, tIfS, tIf, tNot, mTest, tCB, tCons, tNil, mVar, M.gt, mC, Bool.not_true, Bool.not_false, Bool.false_eq_true, if_false, if_true, tNext, tAsg, gName, gSub, List.set_cons_zero, List.set_cons_succ, mFor, mIter, S_cps, S_len, S_app, tOp, tSl, mPart, mUn, tNoPart, tRet, tRetN, tTup, tLst, tAnd, tOr, mAndV, mOrV, mNotV, tCall, tCallSD, tDrop, mPar, mPar3, mLstM, mStrM, mBits, mRng1, mRng2, mgTup, mgSeq, mgCons, mgNil, q_add1, q_add2, q_add3, q_add4, q_iadd1, q_iadd2, q_iadd3, q_sorted, q_sub, q_mul1, q_mul2, q_mod, q_div, q_pow, q_eq1, q_eq2, q_eq3, q_eq4, q_eq5, q_eq6, q_eq7, q_eq8, q_eq9, q_eq10, q_ne1, q_ne2, q_ne3, q_ne9, q_ne10, q_lt, q_le, q_gt, q_ge, q_inc1, q_ix1, q_ix2, q_sl1, q_sl2, q_set, q_len1, q_len2, q_int1, q_int2, q_max, q_min, q_abs, q_sum, q_list, q_isi1, q_is1, q_not1, q_isN1, q_isN2, q_isN3, q_isN4, q_join, q_count, q_split, q_app, q_pop, q_clear, q_isiE, q_repr, wipe, List.map_cons, List.map_nil, List.length_cons, List.length_nil, List.length_append, List.length_map, List.nil_append, List.cons_append, List.append_nil, cut_m3, cut_t3, cut_m1, cut_t1, cut_t2, S_eq, decide_eq_true_eq, Bool.not_eq_true', decide_eq_false_iff_not, ne_eq])
local macro_rules | `(tactic| walk_at "hh") => `(tactic| first | assumption | exact upd_same | exact Ex.new (by assumption) _ _ (by walk_at "hh") | exact Ex.at (by assumption) (by assumption) | solve_by_elim [Ex.at])
local macro_rules | `(tactic| walk_at "ee") => `(tactic| first | assumption | exact Ex.refl _ | exact Ex.push (by walk_at "ee") (by assumption) | exact Ex.trans (by assumption) (by assumption) | solve_by_elim [Ex.trans])
local macro_rules | `(tactic| walk_at "sz") => `(tactic| first | (rw [szl]; omega) | (simp only [szl, tx_len, sg_len, List.length_map, List.length_append, List.length_cons, List.length_nil, List.length_singleton, S_len]; omega))
def sp_width (K : PySem.W.Frag) (N : Nat) : Sp := fun vs H Q _ => ∃ (v : V) (t : Tr), vs = [v] ∧ Nst K H v t ∧ t.ht < N ∧ ∀ H', Ex H H' → Q (.int ((t.n + 1 : Nat) : Int)) H'
theorem pu_width (K : PySem.W.Frag) (N : Nat) (vs : List V) (H : Hp) (Q : VK) (E : XK) (h : sp_width K (N + 1) vs H Q E) : rd_width K (sp_width K N) { nx := fun _ H' => Q .non H', rt := Q } (L2.start N_width vs) H := by
  obtain ⟨v, t, rfl, ht, hN, k⟩ := h
  obtain ⟨a, rfl⟩ := ht.ref
  show rd_width K _ _ [some _] H
  unfold rd_width
  walk_at "go"
  refine ⟨by walk_at "sz", fun p hp => ?_⟩
  refine eq_nil (ht.ex (Ex.new hp)) (SqT.of upd_same) ?_
  have e1 := Ex.new (o := .tup []) hp
  cases ht with
  | lf h1 =>
    walk_at "go"
    exact k _ e1
  | @nd _ l r t u h1 h2 h3 =>
    simp only [Tr.ht] at hN
    simp only [Tr.n] at k
    walk_at "go"
    rw [if_neg (by simp)]
    refine ⟨_, _, .inr (e1.T h1), aI_0 _ _, ?_⟩
    refine ⟨l, t, rfl, h2.ex e1, by omega, fun H1 e2 => ?_⟩
    walk_at "go"
    have e3 := e1.trans e2
    refine ⟨_, _, .inr (e3.T h1), aI_1 _ _ _, ?_⟩
    refine ⟨r, u, rfl, h3.ex e3, by omega, fun H2 e4 => ?_⟩
    walk_at "go"
    have := k H2 (e3.trans e4)
    rw [show ((t.n + u.n + 1 + 1 : Nat) : Int) = ((t.n + 1 : Nat) : Int) + ((u.n + 1 : Nat) : Int) by omega] at this
    exact this
def sp_measured (K : PySem.W.Frag) (M N : Nat) : Sp := fun vs H Q _ => ∃ (v : V) (t : Tr) (p : Addr) (row : List Int), vs = [v, .ref p] ∧ Nst K H v t ∧ SqL K H p (row.map V.int) ∧ row.length = t.n + 1 ∧ (t.ht < N ∧ t.ht < M) ∧ t.n ≤ 100000 ∧
  ∀ H' q r, Ex H H' → H' q = some (.tup [.int (t.meas row).1, .ref r]) → H' r = some (.lst ((t.meas row).2.map V.int)) → Q (.ref q) H'
theorem pu_measured (K : PySem.W.Frag) (M N : Nat) (vs : List V) (H : Hp) (Q : VK) (E : XK) (h : sp_measured K M (N + 1) vs H Q E) : rd_measured K (sp_width K M) (sp_measured K M N) { nx := fun _ H' => Q .non H', rt := Q } (L2.start N_measured vs) H := by
  obtain ⟨v, t, p, row, rfl, ht, hp, hr, hN, hn, k⟩ := h
  obtain ⟨a, rfl⟩ := ht.ref
  show rd_measured K _ _ _ [some _, some _, none, none, none, none, none] H
  unfold rd_measured
  walk_at "go"
  refine ⟨by walk_at "sz", fun p0 hp0 => ?_⟩
  refine eq_nil (ht.ex (Ex.new hp0)) (SqT.of upd_same) ?_
  have e1 := Ex.new (o := .tup []) hp0
  cases ht with
  | lf h1 =>
    walk_at "go"
    obtain ⟨x, rfl⟩ : ∃ x, row = [x] := by
      rcases row with _ | ⟨x, _ | ⟨y, l⟩⟩ <;> simp [Tr.n] at hr
      exact ⟨x, rfl⟩
    refine ⟨_, _, .inl (e1.L hp), aI_0 _ _, by walk_at "sz", fun r hr1 => ?_⟩
    walk_at "go"
    refine ⟨by walk_at "sz", fun q hq => ?_⟩
    exact k _ q r ((e1.push hr1).push hq) upd_same (by walk_at "hh")
  | @nd _ l r t u h1 h2 h3 =>
    simp only [Tr.ht] at hN
    simp only [Tr.n] at hr hn
    walk_at "go"
    rw [if_neg (by simp)]
    refine ⟨_, _, .inr (e1.T h1), aI_0 _ _, ?_⟩
    refine ⟨l, t, rfl, h2.ex e1, by omega, fun H1 e2 => ?_⟩
    walk_at "go"
    have e3 := e1.trans e2
    refine ⟨_, _, .inr (e3.T h1), aI_0 _ _, _, e3.L hp, fun p1 hp1 => ?_⟩
    have e4 := e3.push (o := .lst (cutL (row.map V.int) none (some ((t.n + 1 : Nat) : Int)))) hp1
    refine ⟨l, t, p1, row.take (t.n + 1), rfl, h2.ex e4, SqL.of (by rw [upd_same, cut_to, List.map_take]), by rw [List.length_take]; omega, by omega, by omega, fun H2 q1 r1 e5 hq1 hr1 => ?_⟩
    walk_at "go"
    refine ⟨_, SqT.of hq1, rfl, ?_⟩
    walk_at "go"
    have e6 := e4.trans e5
    refine ⟨_, _, .inr (e6.T h1), aI_1 _ _ _, _, e6.L hp, fun p2 hp2 => ?_⟩
    have e7 := e6.push (o := .lst (cutL (row.map V.int) (some ((t.n + 1 : Nat) : Int)) none)) hp2
    refine ⟨r, u, p2, row.drop (t.n + 1), rfl, h3.ex e7, SqL.of (by rw [upd_same, cut_from, List.map_drop]), by rw [List.length_drop]; omega, by omega, by omega, fun H3 q2 r2 e8 hq2 hr2 => ?_⟩
    walk_at "go"
    refine ⟨_, SqT.of hq2, rfl, ?_⟩
    walk_at "go"
    have hr1' : H3 r1 = some (.lst ((t.meas (row.take (t.n + 1))).2.map V.int)) := e8 _ _ (Ex.new hp2 _ _ hr1)
    have lm1 := Tr.meas_len t (row.take (t.n + 1))
    have lm2 := Tr.meas_len u (row.drop (t.n + 1))
    refine ⟨by walk_at "sz", fun p3 hp3 => ?_⟩
    walk_at "go"
    refine ⟨_, _, by walk_at "hh", upd_same, by rw [szl, List.length_map, List.length_singleton]; omega, fun p4 hp4 => ?_⟩
    walk_at "go"
    refine ⟨_, _, upd_same, by walk_at "hh", by rw [szl, List.length_append, List.length_map, List.length_map, List.length_singleton]; omega, fun p5 hp5 => ?_⟩
    refine ⟨by walk_at "sz", fun p6 hp6 => ?_⟩
    refine k _ p6 p5 ((((((e7.trans e8).push hp3).push hp4).push hp5).push hp6)) upd_same ?_
    rw [Ex.new hp6 _ _ upd_same]
    simp only [Tr.meas, List.map_append, List.map_cons, List.map_nil, List.append_assoc]
def sp_is_even (K : PySem.W.Frag) (N : Nat) : Sp := fun vs H Q _ => ∃ (v : V) (t : Tr) (p : Addr) (row : List Int) (s : Int), vs = [v, .ref p, .int s] ∧ Nst K H v t ∧ SqL K H p (row.map V.int) ∧ row.length = t.n + 1 ∧ t.ht < N ∧ t.n ≤ 100000 ∧ ∀ H', Ex H H' → Q (.bl (t.evn row s)) H'
/-- the leans beyond the slack -/
theorem lp_even (K : PySem.W.Frag) (G : Hp → Prop) (D1 : Addr) (H0 : Hp) (x0 x1 : Option V) (s : Int) (fin : Hp → Prop) (L : List Int) (n1 : H0 D1 = none) (hG : ∀ Hx, Ex H0 Hx → G Hx)
    (k : ∀ (acc : List Int) Hx, Ex H0 Hx → Hx D1 = some (.lst (acc.map V.int)) → (decide (acc = []) = L.all fun d => decide ((d.natAbs : Int) ≤ s)) → fin Hx) :
    ∀ (r acc : List Int) (Hx : Hp), Ex H0 Hx → Hx D1 = some (.lst (acc.map V.int)) → (L.all (fun d => decide ((d.natAbs : Int) ≤ s)) = (decide (acc = []) && r.all fun d => decide ((d.natAbs : Int) ≤ s))) → acc.length + r.length ≤ 1000000 →
      cV G (gName 3) (mTest (tOp (mGt) (tCB (mAbs) (tCons (mVar 3) tNil)) (mVar 2))) (mVar 3) [3] [x0, x1, some (.int s), none] D1 fin (r.map V.int) Hx
  | [], acc, Hx, e, h, ha, hl => by
    simp only [List.map_nil, cV]
    exact ⟨hG Hx e, k acc Hx e h (by rw [ha]; simp)⟩
  | d :: r, acc, Hx, e, h, ha, hl => by
    have ih := lp_even K G D1 H0 x0 x1 s fin L n1 hG k r
    simp only [List.length_cons] at hl
    simp only [List.map_cons, cV]
    refine ⟨hG Hx e, ?_⟩
    walk_at "go"
    refine ⟨trivial, ?_⟩
    by_cases c : s < (d.natAbs : Int)
    · rw [if_pos c]
      refine ⟨_, h, by rw [szl, List.length_map]; omega, ?_⟩
      refine ih (acc ++ [d]) _ (e.mut n1) (by rw [upd_same, List.map_append]; rfl) ?_ (by rw [List.length_append, List.length_singleton]; omega)
      rw [ha]
      have : ¬ ((d.natAbs : Int) ≤ s) := by omega
      simp [this]
    · rw [if_neg c]
      refine ih acc Hx e h ?_ (by omega)
      rw [ha]
      have : ((d.natAbs : Int) ≤ s) := by omega
      simp [this]
theorem pu_is_even (K : PySem.W.Frag) (N : Nat) (vs : List V) (H : Hp) (Q : VK) (E : XK) (h : sp_is_even K N vs H Q E) : rd_is_even K (sp_measured K N N) { nx := fun _ H' => Q .non H', rt := Q } (L2.start N_is_even vs) H := by
  obtain ⟨v, t, p, row, s, rfl, ht, hp, hr, hN, hn, k⟩ := h
  show rd_is_even K _ _ [some _, some _, some _, none] H
  unfold rd_is_even
  walk_at "go"
  unfold mLc
  walk_at "go"
  refine ⟨v, t, p, row, rfl, ht, hp, hr, ⟨hN, hN⟩, hn, fun H1 q r e1 hq hr1 => ?_⟩
  walk_at "go"
  refine ⟨_, _, .inr (SqT.of hq), aI_1 _ _ _, ?_⟩
  dsimp only
  have lm := Tr.meas_len t row
  refine ⟨_, .inl ⟨SqL.of hr1, fun D hD => ?_⟩⟩
  refine lp_even K _ D H1 _ _ s _ (t.meas row).2 hD (fun Hx e => SqL.of (e _ _ hr1)) (fun acc Hx e hx ha => ?_) (t.meas row).2 [] _ (Ex.new hD) upd_same (by simp) (by simp; omega)
  walk_at "go"
  refine ⟨by walk_at "sz", fun w hw => ?_⟩
  refine eq_nilI (SqL.of (Ex.new hw _ _ hx)) (SqL.of upd_same) ?_
  rw [ha]
  exact k _ ((e1.trans e).push hw)
end Pf

namespace Pf
open PySem PySem.Spec PyProof.Rows L2 M
local macro_rules | `(tactic| walk_at "go") => `(tactic| try simp only [tSeq, tIfS, tIf, tNot, mTest, tCB, tCons, tNil, mVar, M.gt, mC, Bool.not_true, Bool.not_false, Bool.false_eq_true, if_false, if_true, tNext, tAsg, gName, gSub, List.set_cons_zero, List.set_cons_succ, mFor, mIter, S_cps, S_len, S_app, tOp, tSl, mPart, mUn, tNoPart, tRet, tRetN, tTup, tLst, tAnd, tOr, mAndV, mOrV, mNotV, tCall, tCallSD, tDrop, mPar, mPar3, mLstM, mStrM, mBits, mRng1, mRng2, mgTup, mgSeq, mgCons, mgNil, q_add1, q_add2, q_add3, q_add4, q_iadd1, q_iadd2, q_iadd3, q_sorted, q_sub, q_mul1, q_mul2, q_mod, q_div, q_pow, q_eq1, q_eq2, q_eq3, q_eq4, q_eq5, q_eq6, q_eq7, q_eq8, q_eq9, q_eq10, q_ne1, q_ne2, q_ne3, q_ne9, q_ne10, q_lt, q_le, q_gt, q_ge, q_inc1, q_ix1, q_ix2, q_sl1, q_sl2, q_set, q_len1, q_len2, q_int1, q_int2, q_max, q_min, q_abs, q_sum, q_list, q_isi1, q_is1, q_not1, q_isN1, q_isN2, q_isN3, q_isN4, q_join, q_count, q_split, q_app, q_pop, q_clear, q_isiE, q_repr, wipe, List.map_cons, List.map_nil, List.length_cons, List.length_nil, List.length_append, List.length_map, List.nil_append, List.cons_append, List.append_nil, cut_m3, cut_t3, cut_m1, cut_t1, cut_t2, S_eq, decide_eq_true_eq, Bool.not_eq_true', decide_eq_false_iff_not, ne_eq])
local macro_rules | `(tactic| walk_at "hh") => `(tactic| first | assumption | exact upd_same | exact Ex.new (by assumption) _ _ (by walk_at "hh") | exact Ex.at (by assumption) (by assumption) | solve_by_elim [Ex.at])
local macro_rules | `(tactic| walk_at "ee") => `(tactic| first | assumption | exact Ex.refl _ | exact Ex.push (by walk_at "ee") (by assumption) | exact Ex.trans (by assumption) (by assumption) | solve_by_elim [Ex.trans])
local macro_rules | `(tactic| walk_at "sz") => `(tactic| first | (rw [szl]; omega) | (simp only [szl, tx_len, sg_len, List.length_map, List.length_append, List.length_cons, List.length_nil, List.length_singleton, S_len]; omega))
def sp__law_width (K : PySem.W.Frag) (N : Nat) : Sp := fun vs H Q _ => ∃ (v : V) (t : Tr), vs = [v] ∧ Nst K H v t ∧ t.ht < N ∧ ∀ H', Ex H H' → Q (.int ((t.n + 1 : Nat) : Int)) H'
theorem pu__law_width (K : PySem.W.Frag) (N : Nat) (vs : List V) (H : Hp) (Q : VK) (E : XK) (h : sp__law_width K (N + 1) vs H Q E) : rd__law_width K (sp__law_width K N) { nx := fun _ H' => Q .non H', rt := Q } (L2.start N__law_width vs) H := by
  obtain ⟨v, t, rfl, ht, hN, k⟩ := h
  obtain ⟨a, rfl⟩ := ht.ref
  show rd__law_width K _ _ [some _] H
  unfold rd__law_width
  walk_at "go"
  refine ⟨by walk_at "sz", fun p hp => ?_⟩
  refine eq_nil (ht.ex (Ex.new hp)) (SqT.of upd_same) ?_
  have e1 := Ex.new (o := .tup []) hp
  cases ht with
  | lf h1 =>
    walk_at "go"
    exact k _ e1
  | @nd _ l r t u h1 h2 h3 =>
    simp only [Tr.ht] at hN
    simp only [Tr.n] at k
    walk_at "go"
    rw [if_neg (by simp)]
    refine ⟨_, _, .inr (e1.T h1), aI_0 _ _, ?_⟩
    refine ⟨l, t, rfl, h2.ex e1, by omega, fun H1 e2 => ?_⟩
    walk_at "go"
    have e3 := e1.trans e2
    refine ⟨_, _, .inr (e3.T h1), aI_1 _ _ _, ?_⟩
    refine ⟨r, u, rfl, h3.ex e3, by omega, fun H2 e4 => ?_⟩
    walk_at "go"
    have := k H2 (e3.trans e4)
    rw [show ((t.n + u.n + 1 + 1 : Nat) : Int) = ((t.n + 1 : Nat) : Int) + ((u.n + 1 : Nat) : Int) by omega] at this
    exact this
def sp__law_measured (K : PySem.W.Frag) (M N : Nat) : Sp := fun vs H Q _ => ∃ (v : V) (t : Tr) (p : Addr) (row : List Int), vs = [v, .ref p] ∧ Nst K H v t ∧ SqL K H p (row.map V.int) ∧ row.length = t.n + 1 ∧ (t.ht < N ∧ t.ht < M) ∧ t.n ≤ 100000 ∧
  ∀ H' q r, Ex H H' → H' q = some (.tup [.int (t.meas row).1, .ref r]) → H' r = some (.lst ((t.meas row).2.map V.int)) → Q (.ref q) H'
theorem pu__law_measured (K : PySem.W.Frag) (M N : Nat) (vs : List V) (H : Hp) (Q : VK) (E : XK) (h : sp__law_measured K M (N + 1) vs H Q E) : rd__law_measured K (sp__law_width K M) (sp__law_measured K M N) { nx := fun _ H' => Q .non H', rt := Q } (L2.start N__law_measured vs) H := by
  obtain ⟨v, t, p, row, rfl, ht, hp, hr, hN, hn, k⟩ := h
  obtain ⟨a, rfl⟩ := ht.ref
  show rd__law_measured K _ _ _ [some _, some _, none, none, none, none, none, none] H
  unfold rd__law_measured
  walk_at "go"
  refine ⟨by walk_at "sz", fun p0 hp0 => ?_⟩
  refine eq_nil (ht.ex (Ex.new hp0)) (SqT.of upd_same) ?_
  have e1 := Ex.new (o := .tup []) hp0
  cases ht with
  | lf h1 =>
    walk_at "go"
    obtain ⟨x, rfl⟩ : ∃ x, row = [x] := by
      rcases row with _ | ⟨x, _ | ⟨y, l⟩⟩ <;> simp [Tr.n] at hr
      exact ⟨x, rfl⟩
    refine ⟨_, _, .inl (e1.L hp), aI_0 _ _, by walk_at "sz", fun r hr1 => ?_⟩
    walk_at "go"
    refine ⟨by walk_at "sz", fun q hq => ?_⟩
    exact k _ q r ((e1.push hr1).push hq) upd_same (by walk_at "hh")
  | @nd _ l r t u h1 h2 h3 =>
    simp only [Tr.ht] at hN
    simp only [Tr.n] at hr hn
    walk_at "go"
    rw [if_neg (by simp)]
    refine ⟨_, _, .inr (e1.T h1), aI_0 _ _, ?_⟩
    refine ⟨l, t, rfl, h2.ex e1, by omega, fun H1 e2 => ?_⟩
    walk_at "go"
    have e3 := e1.trans e2
    refine ⟨_, _, .inr (e3.T h1), aI_0 _ _, _, e3.L hp, fun p1 hp1 => ?_⟩
    have e4 := e3.push (o := .lst (cutL (row.map V.int) none (some ((t.n + 1 : Nat) : Int)))) hp1
    refine ⟨l, t, p1, row.take (t.n + 1), rfl, h2.ex e4, SqL.of (by rw [upd_same, cut_to, List.map_take]), by rw [List.length_take]; omega, by omega, by omega, fun H2 q1 r1 e5 hq1 hr1 => ?_⟩
    walk_at "go"
    refine ⟨_, SqT.of hq1, rfl, ?_⟩
    walk_at "go"
    have e6 := e4.trans e5
    refine ⟨_, _, .inr (e6.T h1), aI_1 _ _ _, _, e6.L hp, fun p2 hp2 => ?_⟩
    have e7 := e6.push (o := .lst (cutL (row.map V.int) (some ((t.n + 1 : Nat) : Int)) none)) hp2
    refine ⟨r, u, p2, row.drop (t.n + 1), rfl, h3.ex e7, SqL.of (by rw [upd_same, cut_from, List.map_drop]), by rw [List.length_drop]; omega, by omega, by omega, fun H3 q2 r2 e8 hq2 hr2 => ?_⟩
    walk_at "go"
    refine ⟨_, SqT.of hq2, rfl, ?_⟩
    walk_at "go"
    have hr1' : H3 r1 = some (.lst ((t.meas (row.take (t.n + 1))).2.map V.int)) := e8 _ _ (Ex.new hp2 _ _ hr1)
    have lm1 := Tr.meas_len t (row.take (t.n + 1))
    have lm2 := Tr.meas_len u (row.drop (t.n + 1))
    generalize ea : (t.meas (row.take (t.n + 1))).1 = x1 at *
    generalize eb : (u.meas (row.drop (t.n + 1))).1 = x2 at *
    by_cases c : x2 < x1
    · rw [if_pos c]
      walk_at "go"
      refine ⟨by walk_at "sz", fun p3 hp3 => ?_⟩
      walk_at "go"
      refine ⟨_, _, by walk_at "hh", upd_same, by rw [szl, List.length_map, List.length_singleton]; omega, fun p4 hp4 => ?_⟩
      walk_at "go"
      refine ⟨_, _, upd_same, by walk_at "hh", by rw [szl, List.length_append, List.length_map, List.length_map, List.length_singleton]; omega, fun p5 hp5 => ?_⟩
      refine ⟨by walk_at "sz", fun p6 hp6 => ?_⟩
      refine k _ p6 p5 ((((((e7.trans e8).push hp3).push hp4).push hp5).push hp6)) ?_ ?_
      · rw [upd_same]
        simp only [Tr.meas, ea, eb]
        congr 5
        omega
      · rw [Ex.new hp6 _ _ upd_same]
        simp only [Tr.meas, ea, eb, List.map_append, List.map_cons, List.map_nil, List.append_assoc]
    · rw [if_neg c]
      walk_at "go"
      refine ⟨by walk_at "sz", fun p3 hp3 => ?_⟩
      walk_at "go"
      refine ⟨_, _, by walk_at "hh", upd_same, by rw [szl, List.length_map, List.length_singleton]; omega, fun p4 hp4 => ?_⟩
      walk_at "go"
      refine ⟨_, _, upd_same, by walk_at "hh", by rw [szl, List.length_append, List.length_map, List.length_map, List.length_singleton]; omega, fun p5 hp5 => ?_⟩
      refine ⟨by walk_at "sz", fun p6 hp6 => ?_⟩
      refine k _ p6 p5 ((((((e7.trans e8).push hp3).push hp4).push hp5).push hp6)) ?_ ?_
      · rw [upd_same]
        simp only [Tr.meas, ea, eb]
        congr 5
        omega
      · rw [Ex.new hp6 _ _ upd_same]
        simp only [Tr.meas, ea, eb, List.map_append, List.map_cons, List.map_nil, List.append_assoc]
def sp__law_even (K : PySem.W.Frag) (N : Nat) : Sp := fun vs H Q _ => ∃ (v : V) (t : Tr) (p : Addr) (row : List Int) (s : Int), vs = [v, .ref p, .int s] ∧ Nst K H v t ∧ SqL K H p (row.map V.int) ∧ row.length = t.n + 1 ∧ t.ht < N ∧ t.n ≤ 100000 ∧ ∀ H', Ex H H' → Q (.bl (t.evn row s)) H'
theorem pu__law_even (K : PySem.W.Frag) (N : Nat) (vs : List V) (H : Hp) (Q : VK) (E : XK) (h : sp__law_even K N vs H Q E) : rd__law_even K (sp__law_measured K N N) { nx := fun _ H' => Q .non H', rt := Q } (L2.start N__law_even vs) H := by
  obtain ⟨v, t, p, row, s, rfl, ht, hp, hr, hN, hn, k⟩ := h
  show rd__law_even K _ _ [some _, some _, some _, none] H
  unfold rd__law_even
  walk_at "go"
  unfold mLc
  walk_at "go"
  refine ⟨v, t, p, row, rfl, ht, hp, hr, ⟨hN, hN⟩, hn, fun H1 q r e1 hq hr1 => ?_⟩
  walk_at "go"
  refine ⟨_, _, .inr (SqT.of hq), aI_1 _ _ _, ?_⟩
  dsimp only
  have lm := Tr.meas_len t row
  refine ⟨_, .inl ⟨SqL.of hr1, fun D hD => ?_⟩⟩
  refine lp_even K _ D H1 _ _ s _ (t.meas row).2 hD (fun Hx e => SqL.of (e _ _ hr1)) (fun acc Hx e hx ha => ?_) (t.meas row).2 [] _ (Ex.new hD) upd_same (by simp) (by simp; omega)
  walk_at "go"
  refine ⟨by walk_at "sz", fun w hw => ?_⟩
  refine eq_nilI (SqL.of (Ex.new hw _ _ hx)) (SqL.of upd_same) ?_
  rw [ha]
  exact k _ ((e1.trans e).push hw)
end Pf

namespace Pf
open PySem PySem.Spec PyProof.Rows L2 M
local macro_rules | `(tactic| walk_at "go") => `(tactic| try simp only [tSeq, tIfS, tIf, tNot, mTest, tCB, tCons, tNil, mVar, M.gt, mC, Bool.not_true, Bool.not_false, Bool.false_eq_true, if_false, if_true, tNext, tAsg, gName, gSub, List.set_cons_zero, List.set_cons_succ, mFor, mIter, S_cps, S_len, S_app, tOp, tSl, mPart, mUn, tNoPart, tRet, tRetN, tTup, tLst, tAnd, tOr, mAndV, mOrV, mNotV, tCall, tCallSD, tDrop, mPar, mPar3, mLstM, mStrM, mBits, mRng1, mRng2, mgTup, mgSeq, mgCons, mgNil, q_add1, q_add2, q_add3, q_add4, q_iadd1, q_iadd2, q_iadd3, q_sorted, q_sub, q_mul1, q_mul2, q_mod, q_div, q_pow, q_eq1, q_eq2, q_eq3, q_eq4, q_eq5, q_eq6, q_eq7, q_eq8, q_eq9, q_eq10, q_ne1, q_ne2, q_ne3, q_ne9, q_ne10, q_lt, q_le, q_gt, q_ge, q_inc1, q_ix1, q_ix2, q_sl1, q_sl2, q_set, q_len1, q_len2, q_int1, q_int2, q_max, q_min, q_abs, q_sum, q_list, q_isi1, q_is1, q_not1, q_isN1, q_isN2, q_isN3, q_isN4, q_join, q_count, q_split, q_app, q_pop, q_clear, q_isiE, q_repr, wipe, List.map_cons, List.map_nil, List.length_cons, List.length_nil, List.length_append, List.length_map, List.nil_append, List.cons_append, List.append_nil, cut_m3, cut_t3, cut_m1, cut_t1, cut_t2, S_eq, decide_eq_true_eq, Bool.not_eq_true', decide_eq_false_iff_not, ne_eq])
local macro_rules | `(tactic| walk_at "hh") => `(tactic| first | assumption | exact upd_same | exact Ex.new (by assumption) _ _ (by walk_at "hh") | exact Ex.at (by assumption) (by assumption) | solve_by_elim [Ex.at])
local macro_rules | `(tactic| walk_at "ee") => `(tactic| first | assumption | exact Ex.refl _ | exact Ex.push (by walk_at "ee") (by assumption) | exact Ex.trans (by assumption) (by assumption) | solve_by_elim [Ex.trans])
local macro_rules | `(tactic| walk_at "sz") => `(tactic| first | (rw [szl]; omega) | (simp only [szl, tx_len, sg_len, List.length_map, List.length_append, List.length_cons, List.length_nil, List.length_singleton, S_len]; omega))
def nuV (s n : Nat) : List V := (nup s n).map fun (k : Nat) => V.int (k : Int)
theorem nuV_len (s n : Nat) : (nuV s n).length = n + 1 := by unfold nuV; rw [List.length_map, nup_len]
theorem lp_nup (K : PySem.W.Frag) (D : Ends) (H0 : Hp) (f : Addr) (nf : H0 f = none) (s n : Nat) (hn : n ≤ 1000000) (x0 : Option V) (k : ∀ (w3 : Option V) Hx, Ex H0 Hx → Hx f = some (.lst (nuV s n)) → D.nx [x0, some (.int (s : Int)), some (.ref f), w3] Hx) :
    ∀ (r : List Nat) (j : Nat) (x3 : Option V) (Hx : Hp), j + r.length = n → r = List.range' j r.length → Ex H0 Hx → Hx f = some (.lst (nuV s j)) →
      fV (fun _ => True) (gName 3) (rd_nodes_up_to_b1 K) D (r.map fun (i : Nat) => V.int (1 + (i : Int))) [x0, some (.int (s : Int)), some (.ref f), x3] Hx
  | [], j, x3, Hx, hj, hr, e, h => by
    obtain rfl : j = n := by simpa using hj
    exact ⟨trivial, k _ Hx e h⟩
  | c :: r, j, x3, Hx, hj, hr, e, h => by
    have ih := lp_nup K D H0 f nf s n hn x0 k r
    simp only [List.length_cons, List.range'_succ, List.cons.injEq] at hr hj
    obtain ⟨hc, hr⟩ := hr
    subst hc
    simp only [List.map_cons, fV]
    refine ⟨trivial, ?_⟩
    walk_at "go"
    refine ⟨⟨_, h⟩, _, _, .inl (SqL.of h), by rw [show (1 + (c : Int) - 1) = ((c : Nat) : Int) by omega]; exact nup_at s c c (Nat.le_refl _), ?_⟩
    walk_at "go"
    refine ⟨_, _, .inl (SqL.of h), by rw [show (max 0 (1 + (c : Int) - 1 - (s : Int))) = ((c - s : Nat) : Int) by omega]; exact nup_at s c (c - s) (by omega), ?_⟩
    walk_at "go"
    refine ⟨_, h, by rw [szl, nuV_len]; omega, ?_⟩
    refine ih (c + 1) _ _ (by omega) hr (e.mut nf) ?_
    rw [upd_same]
    have : nuV s (c + 1) = nuV s c ++ [.int (1 + (least s c : Int) + (least s (c - s) : Int))] := by
      unfold nuV
      rw [nup, List.map_append, nup_get s c c (Nat.le_refl _), nup_get s c (c - s) (by omega)]
      simp
    rw [this]
def sp_nodes_up_to : Sp := fun vs H Q _ => ∃ n s : Nat, vs = [.int n, .int s] ∧ n ≤ 1000000 ∧ ∀ H' p, Ex H H' → H' p = some (.lst (nuV s n)) → Q (.ref p) H'
theorem pu_nodes_up_to (K : PySem.W.Frag) (vs : List V) (H : Hp) (Q : VK) (E : XK) (h : sp_nodes_up_to vs H Q E) : rd_nodes_up_to K { nx := fun _ H' => Q .non H', rt := Q } (L2.start N_nodes_up_to vs) H := by
  obtain ⟨n, s, rfl, hn, k⟩ := h
  show rd_nodes_up_to K _ [some _, some _, none, none] H
  unfold rd_nodes_up_to
  walk_at "go"
  refine ⟨by walk_at "sz", fun f hf => ?_⟩
  walk_at "go"
  refine ⟨⟨by omega, by omega⟩, ?_⟩
  rw [show upto 1 ((n : Int) + 1 - 1).toNat = (List.range n).map fun (i : Nat) => V.int (1 + (i : Int)) by unfold upto; congr 2; omega]
  refine lp_nup K _ H f hf s n hn _ (fun w3 Hx e hx => ?_) (List.range n) 0 none _ (by simp) (by rw [List.length_range]; exact List.range_eq_range') (Ex.new hf) upd_same
  walk_at "go"
  exact k Hx f e hx
def sp__law_least : Sp := fun vs H Q _ => ∃ n s : Nat, vs = [.int n, .int s] ∧ n ≤ 1000000 ∧ ∀ H', Ex H H' → Q (.int (least s n : Int)) H'
theorem pu__law_least (K : PySem.W.Frag) (vs : List V) (H : Hp) (Q : VK) (E : XK) (h : sp__law_least vs H Q E) : rd__law_least K { nx := fun _ H' => Q .non H', rt := Q } (L2.start N__law_least vs) H := by
  obtain ⟨n, s, rfl, hn, k⟩ := h
  show rd__law_least K _ [some _, some _, none, none] H
  unfold rd__law_least
  walk_at "go"
  refine ⟨by walk_at "sz", fun f hf => ?_⟩
  walk_at "go"
  refine ⟨⟨by omega, by omega⟩, ?_⟩
  rw [show upto 1 ((n : Int) + 1 - 1).toNat = (List.range n).map fun (i : Nat) => V.int (1 + (i : Int)) by unfold upto; congr 2; omega]
  refine lp_nup K _ H f hf s n hn _ (fun w3 Hx e hx => ?_) (List.range n) 0 none _ (by simp) (by rw [List.length_range]; exact List.range_eq_range') (Ex.new hf) upd_same
  walk_at "go"
  exact ⟨_, _, .inl (SqL.of hx), nup_at s n n (Nat.le_refl _), k Hx e⟩
def zrow (t : Tr) : List Int := List.replicate (t.n + 1) 0
def sp_is_balanced (K : PySem.W.Frag) (aI aN : Addr) (N : Nat) : Sp := fun vs H Q E => ∃ v w, vs = [v, w] ∧ ((TV K H v false ∧ Fail E H aI v) ∨ ∃ t : Tr, v = .str (S t.s) ∧ t.n ≤ 100000 ∧ ((BadN K H w 0 .non ∧ Fail E H aN w) ∨ (∃ s : Nat, w = .int s ∧ t.ht < N ∧ ∀ H', Ex H H' → Q (.bl (t.evn (zrow t) s)) H')))
theorem BadN.ex {K : PySem.W.Frag} {H H' : Hp} (e : Ex H H') {v m : V} {lo : Int} (h : BadN K H v lo m) : BadN K H' v lo m := h.imp (Nw.ex e) id
theorem pu_is_balanced (K : PySem.W.Frag) (aI aN : Addr) (N : Nat) (vs : List V) (H : Hp) (Q : VK) (E : XK) (h : sp_is_balanced K aI aN N vs H Q E) : rd_is_balanced K (sp_nested K aI) (sp_check_whole K aN) (sp_is_even K N) (sp_width K N) E { nx := fun _ H' => Q .non H', rt := Q } (L2.start N_is_balanced vs) H := by
  obtain ⟨v, w, rfl, ⟨tv, f⟩ | ⟨t, rfl, hn, ⟨bad, f⟩ | ⟨s, rfl, hN, k⟩⟩⟩ := h
  · show rd_is_balanced K _ _ _ _ _ _ [some _, some _, none] H
    unfold rd_is_balanced
    walk_at "go"
    exact ⟨v, rfl, .inl ⟨tv, f⟩⟩
  · show rd_is_balanced K _ _ _ _ _ _ [some _, some _, none] H
    unfold rd_is_balanced
    walk_at "go"
    refine ⟨_, rfl, .inr ⟨t, rfl, hn, fun H1 n e1 hv => ?_⟩⟩
    walk_at "go"
    exact ⟨w, _, _, rfl, .inl rfl, .inr ⟨bad.ex e1, f.ex e1⟩⟩
  · show rd_is_balanced K _ _ _ _ _ _ [some _, some _, none] H
    unfold rd_is_balanced
    walk_at "go"
    refine ⟨_, rfl, .inr ⟨t, rfl, hn, fun H1 n e1 hv => ?_⟩⟩
    walk_at "go"
    refine ⟨_, _, _, rfl, .inl rfl, .inl ⟨(s : Int), rfl, Int.natCast_nonneg s, fun hi h => (by cases h), ?_⟩⟩
    walk_at "go"
    refine ⟨by walk_at "sz", fun p hp => ?_⟩
    have e2 := Ex.new (o := .lst [.int 0]) hp
    refine ⟨n, t, rfl, hv.ex e2, hN, fun H3 e3 => ?_⟩
    walk_at "go"
    have e23 := e2.trans e3
    refine ⟨_, e3 _ _ upd_same, by omega, by omega, by rw [szl, List.length_singleton]; omega, fun q hq => ?_⟩
    rw [Int.toNat_natCast, repl0M]
    have e4 := e23.push (o := .lst ((List.replicate (t.n + 1) (0 : Int)).map V.int)) hq
    exact ⟨n, t, q, zrow t, s, rfl, hv.ex e4, SqL.of upd_same, by unfold zrow; rw [List.length_replicate], hN, hn, fun H5 e5 => k H5 (e1.trans (e4.trans e5))⟩
def sp_least_nodes (K : PySem.W.Frag) (aN : Addr) : Sp := fun vs H Q E => ∃ v w, vs = [v, w] ∧ ((BadN K H v 0 .non ∧ Fail E H aN v) ∨ (∃ h : Int, v = .int h ∧ 0 ≤ h ∧ BadN K H w 0 .non ∧ Fail E H aN w) ∨ (∃ n s : Nat, v = .int n ∧ w = .int s ∧ n ≤ 1000000 ∧ ∀ H', Ex H H' → Q (.int (least s n : Int)) H'))
theorem pu_least_nodes (K : PySem.W.Frag) (aN : Addr) (vs : List V) (H : Hp) (Q : VK) (E : XK) (h : sp_least_nodes K aN vs H Q E) : rd_least_nodes K (sp_check_whole K aN) sp_nodes_up_to E { nx := fun _ H' => Q .non H', rt := Q } (L2.start N_least_nodes vs) H := by
  obtain ⟨v, w, rfl, ⟨bad, f⟩ | ⟨h, rfl, h0, bad, f⟩ | ⟨n, s, rfl, rfl, hn, k⟩⟩ := h
  · show rd_least_nodes K _ _ _ _ [some _, some _] H
    unfold rd_least_nodes
    walk_at "go"
    exact ⟨v, _, _, rfl, .inl rfl, .inr ⟨bad, f⟩⟩
  · show rd_least_nodes K _ _ _ _ [some _, some _] H
    unfold rd_least_nodes
    walk_at "go"
    refine ⟨_, _, _, rfl, .inl rfl, .inl ⟨h, rfl, h0, fun hi h => (by cases h), ?_⟩⟩
    walk_at "go"
    exact ⟨w, _, _, rfl, .inl rfl, .inr ⟨bad, f⟩⟩
  · show rd_least_nodes K _ _ _ _ [some _, some _] H
    unfold rd_least_nodes
    walk_at "go"
    refine ⟨_, _, _, rfl, .inl rfl, .inl ⟨(n : Int), rfl, Int.natCast_nonneg n, fun hi h => (by cases h), ?_⟩⟩
    walk_at "go"
    refine ⟨_, _, _, rfl, .inl rfl, .inl ⟨(s : Int), rfl, Int.natCast_nonneg s, fun hi h => (by cases h), ?_⟩⟩
    walk_at "go"
    refine ⟨n, s, rfl, hn, fun H1 p e1 hp => ?_⟩
    walk_at "go"
    exact ⟨_, _, .inl (SqL.of hp), nup_at s n n (Nat.le_refl _), k H1 e1⟩
end Pf

namespace Pf
open PySem PySem.Spec PyProof.Rows L2 M
local macro_rules | `(tactic| walk_at "go") => `(tactic| try simp only [tSeq, tIfS, tIf, tNot, mTest, tCB, tCons, tNil, mVar, M.gt, mC, Bool.not_true, Bool.not_false, Bool.false_eq_true, if_false, if_true, tNext, tAsg, gName, gSub, List.set_cons_zero, List.set_cons_succ, mFor, mIter, S_cps, S_len, S_app, tOp, tSl, mPart, mUn, tNoPart, tRet, tRetN, tTup, tLst, tAnd, tOr, mAndV, mOrV, mNotV, tCall, tCallSD, tDrop, mPar, mPar3, mLstM, mStrM, mBits, mRng1, mRng2, mgTup, mgSeq, mgCons, mgNil, q_add1, q_add2, q_add3, q_add4, q_iadd1, q_iadd2, q_iadd3, q_sorted, q_sub, q_mul1, q_mul2, q_mod, q_div, q_pow, q_eq1, q_eq2, q_eq3, q_eq4, q_eq5, q_eq6, q_eq7, q_eq8, q_eq9, q_eq10, q_ne1, q_ne2, q_ne3, q_ne9, q_ne10, q_lt, q_le, q_gt, q_ge, q_inc1, q_ix1, q_ix2, q_sl1, q_sl2, q_set, q_len1, q_len2, q_int1, q_int2, q_max, q_min, q_abs, q_sum, q_list, q_isi1, q_is1, q_not1, q_isN1, q_isN2, q_isN3, q_isN4, q_join, q_count, q_split, q_app, q_pop, q_clear, q_isiE, q_repr, wipe, List.map_cons, List.map_nil, List.length_cons, List.length_nil, List.length_append, List.length_map, List.nil_append, List.cons_append, List.append_nil, cut_m3, cut_t3, cut_m1, cut_t1, cut_t2, S_eq, decide_eq_true_eq, Bool.not_eq_true', decide_eq_false_iff_not, ne_eq])
local macro_rules | `(tactic| walk_at "hh") => `(tactic| first | assumption | exact upd_same | exact Ex.new (by assumption) _ _ (by walk_at "hh") | exact Ex.at (by assumption) (by assumption) | solve_by_elim [Ex.at])
local macro_rules | `(tactic| walk_at "ee") => `(tactic| first | assumption | exact Ex.refl _ | exact Ex.push (by walk_at "ee") (by assumption) | exact Ex.trans (by assumption) (by assumption) | solve_by_elim [Ex.trans])
local macro_rules | `(tactic| walk_at "sz") => `(tactic| first | (rw [szl]; omega) | (simp only [szl, tx_len, sg_len, List.length_map, List.length_append, List.length_cons, List.length_nil, List.length_singleton, S_len]; omega))
/-- a tree as _law_built makes it -/
structure Blt (t : Tr) (h : Int) (s : Nat) : Prop where
  ht : t.ht = h.toNat
  ev : ∀ d ∈ t.lz, (d.natAbs : Int) ≤ s
  le : least s h.toNat ≤ t.n
  ub : t.n + 1 ≤ 2 ^ h.toNat
theorem Blt.lf {h : Int} {s : Nat} (hh : h < 1) : Blt .lf h s := by
  have : h.toNat = 0 := by omega
  exact ⟨by rw [this]; rfl, fun d hd => (by cases hd), by rw [this]; exact Nat.le_refl _, by rw [this]; exact Nat.le_refl _⟩
theorem Blt.nd {a b : Tr} {h l : Int} {s : Nat} (h1 : 1 ≤ h) (l1 : h - 1 - s ≤ l) (l2 : l ≤ h - 1) (x : Blt a (h - 1) s) (y : Blt b l s) : Blt (.nd a b) h s ∧ Blt (.nd b a) h s := by
  obtain ⟨n, rfl⟩ : ∃ n : Nat, h = (n : Int) + 1 := ⟨(h - 1).toNat, by omega⟩
  have e0 : ((n : Int) + 1).toNat = n + 1 := by omega
  have e1 : ((n : Int) + 1 - 1).toNat = n := by omega
  have hl : l.toNat ≤ n := by omega
  have hl2 : n - s ≤ l.toNat := by omega
  have xh := x.ht
  have yh := y.ht
  have xl := x.le
  have yl := y.le
  have xu := x.ub
  have yu := y.ub
  rw [e1] at xh xl xu
  have m := least_mono s hl2
  have p : 2 ^ l.toNat ≤ 2 ^ n := Nat.pow_le_pow_right (by decide) hl
  have p2 : (2 : Nat) ^ (n + 1) = 2 ^ n + 2 ^ n := by rw [Nat.pow_succ]; omega
  refine ⟨⟨?_, ?_, ?_, ?_⟩, ⟨?_, ?_, ?_, ?_⟩⟩
  · simp only [Tr.ht]; omega
  · intro d hd
    simp only [Tr.lz, List.mem_append, List.mem_singleton] at hd
    rcases hd with hd | rfl | hd
    · exact x.ev d hd
    · omega
    · exact y.ev d hd
  · rw [e0, least_succ]; simp only [Tr.n]; omega
  · rw [e0, p2]; simp only [Tr.n]; omega
  · simp only [Tr.ht]; omega
  · intro d hd
    simp only [Tr.lz, List.mem_append, List.mem_singleton] at hd
    rcases hd with hd | rfl | hd
    · exact y.ev d hd
    · omega
    · exact x.ev d hd
  · rw [e0, least_succ]; simp only [Tr.n]; omega
  · rw [e0, p2]; simp only [Tr.n]; omega
def sp__law_built (K : PySem.W.Frag) (N : Nat) : Sp := fun vs H Q _ => ∃ (g : Addr) (n s : Nat) (h : Int), vs = [.ref g, .int h, .int s] ∧ h.toNat < N ∧ h ≤ 20 ∧ s ≤ 1000 ∧ n + 100 * 2 ^ h.toNat < 2 ^ 90 ∧ Pu H g n ∧
  ∀ H' v (t : Tr), Blt t h s → Fm [g] H H' → Pu H' g (n + (100 * 2 ^ h.toNat - 100)) → Nst K H' v t → Q v H'
theorem pu__law_built (K : PySem.W.Frag) (N : Nat) (vs : List V) (H : Hp) (Q : VK) (E : XK) (h : sp__law_built K (N + 1) vs H Q E) : rd__law_built K sp__law_draw (sp__law_built K N) { nx := fun _ H' => Q .non H', rt := Q } (L2.start N__law_built vs) H := by
  obtain ⟨g, n, s, h, rfl, hN, h20, hs, hn, hp, k⟩ := h
  show rd__law_built K _ _ _ [some _, some _, some _, none, none] H
  unfold rd__law_built
  walk_at "go"
  by_cases c : h < 1
  · rw [if_pos c]
    walk_at "go"
    refine ⟨by walk_at "sz", fun p h1 => ?_⟩
    exact k _ _ .lf (.lf c) (Fm.new h1) ((hp.fm (Ex.new h1)).mono (by omega)) (.lf (SqT.of upd_same))
  · rw [if_neg c]
    walk_at "go"
    obtain ⟨m, rfl⟩ : ∃ m : Nat, h = (m : Int) + 1 := ⟨(h - 1).toNat, by omega⟩
    have e0 : ((m : Int) + 1).toNat = m + 1 := by omega
    have e1 : ((m : Int) + 1 - 1).toNat = m := by omega
    rw [e0] at hn k
    have p1 : 1 ≤ 2 ^ m := Nat.one_le_two_pow
    have p2 : (2 : Nat) ^ (m + 1) = 2 ^ m + 2 ^ m := by rw [Nat.pow_succ]; omega
    rw [p2] at hn k
    refine ⟨g, n, (s : Int) + 1, rfl, by omega, by omega, by omega, hp, fun H1 r f1 q1 r0 r1 => ?_⟩
    obtain ⟨r, rfl⟩ := Int.eq_ofNat_of_zero_le r0
    walk_at "go"
    have p3 : 1 ≤ 2 ^ ((m : Int) + 1 - 1 - (r : Int)).toNat := Nat.one_le_two_pow
    have pl : 2 ^ ((m : Int) + 1 - 1 - (r : Int)).toNat ≤ 2 ^ m := Nat.pow_le_pow_right (by decide) (by omega)
    refine ⟨g, n + 10, s, (m : Int) + 1 - 1, rfl, by omega, by omega, hs, by rw [e1]; omega, q1, fun H2 v1 t1 b1 f2 q2 n1 => ?_⟩
    rw [e1] at q2
    refine ⟨g, n + 10 + (100 * 2 ^ m - 100), s, (m : Int) + 1 - 1 - (r : Int), rfl, by omega, by omega, hs, by omega, q2, fun H3 v2 t2 b2 f3 q3 n2 => ?_⟩
    walk_at "go"
    refine ⟨by walk_at "sz", fun p hp1 => ?_⟩
    have n1' : Nst K H3 v1 t1 := n1.fm (fun x hx => .inr (by rw [List.mem_singleton.mp hx]; exact q2.lst)) f3
    have pg : p ≠ g := q3.ne hp1
    have q4 := q3.fm (Ex.new (o := .lst [v1, v2]) hp1)
    refine ⟨g, _, 2, rfl, by decide, by decide, ?_, q4, fun H4 j f4 q5 j0 j1 => ?_⟩
    · omega
    have hp4 : H4 p = some (.lst [v1, v2]) := f4 p _ (by simpa using pg) upd_same
    have e5 := Ex.new (o := .lst [v1, v2]) hp1
    have n1'' : Nst K H4 v1 t1 := (n1'.ex e5).fm (fun x hx => .inr (by rw [List.mem_singleton.mp hx]; exact q4.lst)) f4
    have n2'' : Nst K H4 v2 t2 := (n2.ex e5).fm (fun x hx => .inr (by rw [List.mem_singleton.mp hx]; exact q4.lst)) f4
    have fA : Fm [g] H H4 := f1.trans (f2.trans (f3.trans ((Fm.ex e5).trans f4)))
    obtain ⟨y1, y2⟩ := Blt.nd (h := (m : Int) + 1) (l := (m : Int) + 1 - 1 - (r : Int)) (by omega) (by omega) (by omega) b1 b2
    walk_at "go"
    by_cases cj : j = 0
    · rw [if_pos cj]
      refine ⟨_, _, .inl (SqL.of hp4), aI_0 _ _, _, _, .inl (SqL.of hp4), aI_1 _ _ _, by walk_at "sz", fun w hw => ?_⟩
      have e6 := Ex.new (o := .tup [v1, v2]) hw
      exact k _ _ _ y1 (fA.trans (Fm.ex e6)) ((q5.fm e6).mono (by omega)) (.nd (SqT.of upd_same) (n1''.ex e6) (n2''.ex e6))
    · rw [if_neg cj]
      refine ⟨_, _, .inl (SqL.of hp4), aI_1 _ _ _, _, _, .inl (SqL.of hp4), aI_0 _ _, by walk_at "sz", fun w hw => ?_⟩
      have e6 := Ex.new (o := .tup [v2, v1]) hw
      exact k _ _ _ y2 (fA.trans (Fm.ex e6)) ((q5.fm e6).mono (by omega)) (.nd (SqT.of upd_same) (n2''.ex e6) (n1''.ex e6))
end Pf

namespace Pf
open PySem PySem.Spec PyProof.Rows L2 M
local macro_rules | `(tactic| walk_at "go") => `(tactic| try simp only [tSeq, tIfS, tIf, tNot, mTest, tCB, tCons, tNil, mVar, M.gt, mC, Bool.not_true, Bool.not_false, Bool.false_eq_true, if_false, if_true, tNext, tAsg, gName, gSub, List.set_cons_zero, List.set_cons_succ, mFor, mIter, S_cps, S_len, S_app, tOp, tSl, mPart, mUn, tNoPart, tRet, tRetN, tTup, tLst, tAnd, tOr, mAndV, mOrV, mNotV, tCall, tCallSD, tDrop, mPar, mPar3, mLstM, mStrM, mBits, mRng1, mRng2, mgTup, mgSeq, mgCons, mgNil, q_add1, q_add2, q_add3, q_add4, q_iadd1, q_iadd2, q_iadd3, q_sorted, q_sub, q_mul1, q_mul2, q_mod, q_div, q_pow, q_eq1, q_eq2, q_eq3, q_eq4, q_eq5, q_eq6, q_eq7, q_eq8, q_eq9, q_eq10, q_ne1, q_ne2, q_ne3, q_ne9, q_ne10, q_lt, q_le, q_gt, q_ge, q_inc1, q_ix1, q_ix2, q_sl1, q_sl2, q_set, q_len1, q_len2, q_int1, q_int2, q_max, q_min, q_abs, q_sum, q_list, q_isi1, q_is1, q_not1, q_isN1, q_isN2, q_isN3, q_isN4, q_join, q_count, q_split, q_app, q_pop, q_clear, q_isiE, q_repr, wipe, List.map_cons, List.map_nil, List.length_cons, List.length_nil, List.length_append, List.length_map, List.nil_append, List.cons_append, List.append_nil, cut_m3, cut_t3, cut_m1, cut_t1, cut_t2, S_eq, decide_eq_true_eq, Bool.not_eq_true', decide_eq_false_iff_not, ne_eq])
local macro_rules | `(tactic| walk_at "hh") => `(tactic| first | assumption | exact upd_same | exact Ex.new (by assumption) _ _ (by walk_at "hh") | exact Ex.at (by assumption) (by assumption) | solve_by_elim [Ex.at])
local macro_rules | `(tactic| walk_at "ee") => `(tactic| first | assumption | exact Ex.refl _ | exact Ex.push (by walk_at "ee") (by assumption) | exact Ex.trans (by assumption) (by assumption) | solve_by_elim [Ex.trans])
local macro_rules | `(tactic| walk_at "sz") => `(tactic| first | (rw [szl]; omega) | (simp only [szl, tx_len, sg_len, List.length_map, List.length_append, List.length_cons, List.length_nil, List.length_singleton, S_len]; omega))
/-- refused: by is_balanced (door 0) or by least_nodes; the value, and whether it is no tree -/
inductive Rf (K : PySem.W.Frag) (H : Hp) : Int → V → V → V → Bool → Prop
  | tree {v w : V} : TV K H v false → Rf K H 0 v w v true
  | slack {t : Tr} {w : V} : t.n ≤ 100000 → BadN K H w 0 .non → Rf K H 0 (.str (S t.s)) w w false
  | height {v w : V} : BadN K H v 0 .non → Rf K H 1 v w v false
  | slack2 {h : Int} {w : V} : 0 ≤ h → BadN K H w 0 .non → Rf K H 1 (.int h) w w false
def sp__law_caught (K : PySem.W.Frag) (N : Nat) : Sp := fun vs H Q _ => ∃ (door : Int) (v w : V), vs = [.int door, v, w] ∧
  ((∃ (x : V) (b : Bool) (d : PyData), Rf K H door v w x b ∧ Sv K H x d ∧ ∀ H' r, Ex H H' → H r = none → H' r = some (.lst [.bl b, .bl (!b), .str d.shown]) → Q (.ref r) H') ∨
   (((door = 0 ∧ v = .str (S Tr.lf.s) ∧ w = .int 0 ∧ 1 ≤ N) ∨ (door = 1 ∧ v = .int 0 ∧ w = .int 0)) ∧ ∀ H', Ex H H' → Q .non H'))
def ctl (K : PySem.W.Frag) (aI aN : Addr) : TS := (tSeq (tIfS (mTest (tOp (mIs) (mVar 3) (mC .non))) (tRet (mC .non)) tNext)
  (tRet (tLst (tCons (tCB (mIsiE K) (tCons (mVar 3) (tCons (mC (.ref aI)) tNil))) (tCons (tCB (mIsiE K) (tCons (mVar 3) (tCons (mC (.ref aN)) tNil))) (tCons (tCB (mRepr K) (tCons (mFld K "value" (mVar 3)) tNil)) tNil))))))
theorem lp_ctl (K : PySem.W.Frag) (aI aN C a dd : Addr) (b : Bool) (H H' : Hp) (Q : VK) (v : V) (d : PyData) (x0 x1 x2 : Option V) (x : ExcK K "value" C) (z1 : PySem.W.kitOne K (.ref C) (.ref aI) = some b) (z2 : PySem.W.kitOne K (.ref C) (.ref aN) = some (!b))
    (e : Ex H H') (ha : H' a = some (exk a (.ref C) (some dd))) (hd : H' dd = some (.xd [("value", v)])) (sv : Sv K H v d) (k : ∀ H' r, Ex H H' → H r = none → H' r = some (.lst [.bl b, .bl (!b), .str d.shown]) → Q (.ref r) H') :
    ctl K aI aN { nx := fun _ H' => Q .non H', rt := Q } [x0, x1, x2, some (.ref a), none] H' := by
  obtain ⟨s1, s2, s3, s4⟩ := sv
  unfold ctl
  walk_at "go"
  refine ⟨C, dd, "value", _, b, x, ha, hd, z1, C, dd, "value", _, !b, x, ha, hd, z2, ?_⟩
  unfold mFld
  walk_at "go"
  refine ⟨C, dd, v, x, ha, hd, ?_⟩
  walk_at "go"
  refine ⟨d, s1 _ e, s2, s3, s4, by walk_at "sz", fun r hr => ?_⟩
  exact k _ r (e.push hr) (e.free hr) upd_same
theorem pu__law_caught (K : PySem.W.Frag) (aT aI aN : Addr) (N : Nat) (x1 : PySem.W.exmOne K (.ref aI) (.ref aT) = some true) (y1 : PySem.W.exmOne K (.ref aN) (.ref aT) = some true) (x2 : ExcK K "value" aI) (y2 : ExcK K "value" aN)
    (z1 : PySem.W.kitOne K (.ref aI) (.ref aI) = some true) (z2 : PySem.W.kitOne K (.ref aI) (.ref aN) = some false) (z3 : PySem.W.kitOne K (.ref aN) (.ref aI) = some false) (z4 : PySem.W.kitOne K (.ref aN) (.ref aN) = some true) (vs : List V) (H : Hp) (Q : VK) (E : XK) (h : sp__law_caught K N vs H Q E) :
    rd__law_caught K (sp_is_balanced K aI aN N) (sp_least_nodes K aN) aT aN aI { nx := fun _ H' => Q .non H', rt := Q } (L2.start N__law_caught vs) H := by
  obtain ⟨door, v, w, rfl, ⟨x, b, d, rf, sv, k⟩ | ⟨ok, k⟩⟩ := h
  · show rd__law_caught K _ _ _ _ _ _ [some _, some _, some _, none, none] H
    unfold rd__law_caught mTry
    walk_at "go"
    cases rf with
    | tree tv =>
      rw [if_pos rfl]
      exact ⟨_, _, rfl, .inl ⟨tv, fin_go x1 fun a dd H' e ha hd na nd => lp_ctl K aI aN aI a dd true H H' Q _ d _ _ _ x2 z1 z2 e ha hd sv k⟩⟩
    | slack hn bad =>
      rw [if_pos rfl]
      exact ⟨_, _, rfl, .inr ⟨_, rfl, hn, .inl ⟨bad, fin_go y1 fun a dd H' e ha hd na nd => lp_ctl K aI aN aN a dd false H H' Q _ d _ _ _ y2 z3 z4 e ha hd sv k⟩⟩⟩
    | height bad =>
      rw [if_neg (by decide)]
      exact ⟨_, _, rfl, .inl ⟨bad, fin_go y1 fun a dd H' e ha hd na nd => lp_ctl K aI aN aN a dd false H H' Q _ d _ _ _ y2 z3 z4 e ha hd sv k⟩⟩
    | slack2 h0 bad =>
      rw [if_neg (by decide)]
      exact ⟨_, _, rfl, .inr (.inl ⟨_, rfl, h0, bad, fin_go y1 fun a dd H' e ha hd na nd => lp_ctl K aI aN aN a dd false H H' Q _ d _ _ _ y2 z3 z4 e ha hd sv k⟩)⟩
  · show rd__law_caught K _ _ _ _ _ _ [some _, some _, some _, none, none] H
    unfold rd__law_caught mTry
    rcases ok with ⟨rfl, rfl, rfl, hN⟩ | ⟨rfl, rfl, rfl⟩
    · walk_at "go"
      refine ⟨_, _, rfl, .inr ⟨.lf, rfl, by decide, .inr ⟨0, rfl, by show 0 < N; omega, fun H1 e1 => ?_⟩⟩⟩
      walk_at "go"
      exact k H1 e1
    · walk_at "go"
      rw [if_neg (by decide)]
      refine ⟨_, _, rfl, .inr (.inr ⟨0, 0, rfl, rfl, by decide, fun H1 e1 => ?_⟩)⟩
      walk_at "go"
      exact k H1 e1
end Pf

namespace Pf
open PySem PySem.Spec PyProof.Rows L2 M
local macro_rules | `(tactic| walk_at "go") => `(tactic| try simp only [tSeq, tIfS, tIf, tNot, mTest, tCB, tCons, tNil, mVar, M.gt, mC, Bool.not_true, Bool.not_false, Bool.false_eq_true, if_false, if_true, tNext, tAsg, gName, gSub, List.set_cons_zero, List.set_cons_succ, mFor, mIter, S_cps, S_len, S_app, tOp, tSl, mPart, mUn, tNoPart, tRet, tRetN, tTup, tLst, tAnd, tOr, mAndV, mOrV, mNotV, tCall, tCallSD, tDrop, mPar, mPar3, mLstM, mStrM, mBits, mRng1, mRng2, mgTup, mgSeq, mgCons, mgNil, q_add1, q_add2, q_add3, q_add4, q_iadd1, q_iadd2, q_iadd3, q_sorted, q_sub, q_mul1, q_mul2, q_mod, q_div, q_pow, q_eq1, q_eq2, q_eq3, q_eq4, q_eq5, q_eq6, q_eq7, q_eq8, q_eq9, q_eq10, q_ne1, q_ne2, q_ne3, q_ne9, q_ne10, q_lt, q_le, q_gt, q_ge, q_inc1, q_ix1, q_ix2, q_sl1, q_sl2, q_set, q_len1, q_len2, q_int1, q_int2, q_max, q_min, q_abs, q_sum, q_list, q_isi1, q_is1, q_not1, q_isN1, q_isN2, q_isN3, q_isN4, q_join, q_count, q_split, q_app, q_pop, q_clear, q_isiE, q_repr, wipe, List.map_cons, List.map_nil, List.length_cons, List.length_nil, List.length_append, List.length_map, List.nil_append, List.cons_append, List.append_nil, cut_m3, cut_t3, cut_m1, cut_t1, cut_t2, S_eq, decide_eq_true_eq, Bool.not_eq_true', decide_eq_false_iff_not, ne_eq])
local macro_rules | `(tactic| walk_at "hh") => `(tactic| first | assumption | exact upd_same | exact Ex.new (by assumption) _ _ (by walk_at "hh") | exact Ex.at (by assumption) (by assumption) | solve_by_elim [Ex.at])
local macro_rules | `(tactic| walk_at "ee") => `(tactic| first | assumption | exact Ex.refl _ | exact Ex.push (by walk_at "ee") (by assumption) | exact Ex.trans (by assumption) (by assumption) | solve_by_elim [Ex.trans])
local macro_rules | `(tactic| walk_at "sz") => `(tactic| first | (rw [szl]; omega) | (simp only [szl, tx_len, sg_len, List.length_map, List.length_append, List.length_cons, List.length_nil, List.length_singleton, S_len]; omega))
section
variable (K : PySem.W.Frag) (N : Nat)
theorem lp_r1 (D : Ends) (q : Addr) (xs : List V) (x0 x2 : Option V) : ∀ (s : List V) (x1 : Option V) (H : Hp), SqL K H q xs → (∀ w ∈ s, TV K H w false ∧ ∃ d, okT d.shown ∧ Sv K H w d) →
    (∀ (w1 : Option V) H', Ex H H' → D.nx [x0, w1, x2] H') → fV (fun H => SqL K H q xs) (gName 1) (rd__law_refused_b1 K (sp__law_caught K N)) D s [x0, x1, x2] H
  | [], x1, H, hL, hs, k => ⟨hL, k _ H (Ex.refl H)⟩
  | w :: s, x1, H, hL, hs, k => by
    have ih := lp_r1 D q xs x0 x2 s
    obtain ⟨tv, d, od, sv⟩ := hs w List.mem_cons_self
    simp only [fV]
    refine ⟨hL, ?_⟩
    walk_at "go"
    refine ⟨0, w, _, rfl, .inl ⟨w, true, d, .tree tv, sv, fun H2 r e2 nr hr => ?_⟩⟩
    walk_at "go"
    obtain ⟨s1, s2, s3, s4⟩ := sv
    refine ⟨d, s1 _ e2, s2, s3, s4, by walk_at "sz", fun r2 hr2 => ?_⟩
    refine eq_bbs (SqL.of (Ex.new hr2 _ _ hr)) (SqL.of upd_same) od ?_
    walk_at "go"
    have e3 := e2.push (o := .lst [.bl true, .bl false, .str d.shown]) hr2
    exact ih _ _ (e3.L hL) (fun y hy => by
      obtain ⟨b1, d', b2, b3⟩ := hs y (List.mem_cons_of_mem _ hy)
      exact ⟨b1.ex e3, d', b2, b3.ex e3⟩) fun w1 H' e4 => k w1 H' (e3.trans e4)
theorem lp_r2 (D : Ends) (q : Addr) (xs : List V) (x0 : Option V) : ∀ (s : List V) (x1 x2 : Option V) (H : Hp), SqL K H q xs → (∀ w ∈ s, BadN K H w 0 .non ∧ ∃ d, okT d.shown ∧ Sv K H w d) →
    (∀ (w1 w2 : Option V) H', Ex H H' → D.nx [x0, w1, w2] H') → fV (fun H => SqL K H q xs) (gName 1) (rd__law_refused_b2 K (sp__law_caught K N)) D s [x0, x1, x2] H
  | [], x1, x2, H, hL, hs, k => ⟨hL, k _ _ H (Ex.refl H)⟩
  | w :: s, x1, x2, H, hL, hs, k => by
    have ih := lp_r2 D q xs x0 s
    obtain ⟨bad, d, od, sv⟩ := hs w List.mem_cons_self
    simp only [fV]
    refine ⟨hL, ?_⟩
    walk_at "go"
    have s1 := sv.1
    refine ⟨d, s1 _ (Ex.refl H), sv.2.1, sv.2.2.1, sv.2.2.2, by walk_at "sz", fun p hp => ?_⟩
    have e1 := Ex.new (o := .lst [.bl false, .bl true, .str d.shown]) hp
    have due : ∀ Hx, Ex (upd H p (.lst [.bl false, .bl true, .str d.shown])) Hx → SqL K Hx p [.bl false, .bl true, .str d.shown] := fun Hx e => SqL.of (e _ _ upd_same)
    walk_at "go"
    refine ⟨0, _, w, rfl, .inl ⟨w, false, d, .slack (t := .nd .lf .lf) (by decide) (bad.ex e1), sv.ex e1, fun H2 r2 e2 _ hr2 => ?_⟩⟩
    refine eq_bbs (SqL.of hr2) (due _ e2) od ?_
    walk_at "go"
    refine ⟨1, _, w, rfl, .inl ⟨w, false, d, .slack2 (h := 3) (by decide) (bad.ex (e1.trans e2)), sv.ex (e1.trans e2), fun H3 r3 e3 _ hr3 => ?_⟩⟩
    have e23 := e2.trans e3
    refine eq_bbs (SqL.of hr3) (due _ e23) od ?_
    walk_at "go"
    refine ⟨1, w, _, rfl, .inl ⟨w, false, d, .height (bad.ex (e1.trans e23)), sv.ex (e1.trans e23), fun H4 r4 e4 _ hr4 => ?_⟩⟩
    have e24 := e23.trans e4
    refine eq_bbs (SqL.of hr4) (due _ e24) od ?_
    walk_at "go"
    refine ⟨0, _, w, rfl, .inl ⟨w, false, d, .slack (t := .lf) (by decide) (bad.ex (e1.trans e24)), sv.ex (e1.trans e24), fun H5 r5 e5 _ hr5 => ?_⟩⟩
    have e25 := e24.trans e5
    refine eq_bbs (SqL.of hr5) (due _ e25) od ?_
    walk_at "go"
    refine ⟨1, _, w, rfl, .inl ⟨w, false, d, .slack2 (h := 0) (by decide) (bad.ex (e1.trans e25)), sv.ex (e1.trans e25), fun H6 r6 e6 _ hr6 => ?_⟩⟩
    have e26 := e25.trans e6
    refine eq_bbs (SqL.of hr6) (due _ e26) od ?_
    walk_at "go"
    refine ⟨1, w, _, rfl, .inl ⟨w, false, d, .height (bad.ex (e1.trans e26)), sv.ex (e1.trans e26), fun H7 r7 e7 _ hr7 => ?_⟩⟩
    have e27 := e26.trans e7
    refine eq_bbs (SqL.of hr7) (due _ e27) od ?_
    walk_at "go"
    have eA := e1.trans e27
    exact ih _ _ _ (eA.L hL) (fun y hy => by
      obtain ⟨b1, d', b2, b3⟩ := hs y (List.mem_cons_of_mem _ hy)
      exact ⟨b1.ex eA, d', b2, b3.ex eA⟩) fun w1 w2 H' e4 => k w1 w2 H' (eA.trans e4)
end
def sp__law_refused : Sp := fun vs H Q _ => vs = [] ∧ ∀ H', Ex H H' → Q (.bl true) H'
theorem tvs {K : PySem.W.Frag} {H : Hp} {z : List Nat} (h : isTr z = false) (hc : okc z) (hl : z.length ≤ 1000000) : TV K H (.str (S z)) false ∧ ∃ d, okT d.shown ∧ Sv K H (.str (S z)) d :=
  ⟨.inl ⟨z, rfl, hl, h.symm⟩, _, by simp only [PyData.shown]; exact okT_repr (okT_S hc), .str hc hl⟩
theorem pu__law_refused (K : PySem.W.Frag) (N : Nat) (hN : 1 ≤ N) (vs : List V) (H : Hp) (Q : VK) (E : XK) (h : sp__law_refused vs H Q E) : rd__law_refused K (sp__law_caught K N) { nx := fun _ H' => Q .non H', rt := Q } (L2.start N__law_refused vs) H := by
  obtain ⟨rfl, k⟩ := h
  show rd__law_refused K _ _ [none, none, none] H
  unfold rd__law_refused
  walk_at "go"
  refine ⟨by walk_at "sz", fun p1 h1 => ?_⟩
  walk_at "go"
  refine ⟨by walk_at "sz", fun p2 h2 => ?_⟩
  walk_at "go"
  refine ⟨_, _, by walk_at "hh", upd_same, by walk_at "sz", fun p3 h3 => ?_⟩
  walk_at "go"
  unfold tDNewK
  walk_at "go"
  refine ⟨by walk_at "sz", fun q1 g1 => ?_⟩
  walk_at "go"
  refine ⟨by walk_at "sz", fun q2 g2 q3 g3 => ?_⟩
  walk_at "go"
  refine ⟨by walk_at "sz", fun p4 h4 => ?_⟩
  walk_at "go"
  refine ⟨_, _, by walk_at "hh", upd_same, by walk_at "sz", fun p5 h5 => ?_⟩
  walk_at "go"
  refine ⟨_, .inl ⟨SqL.of upd_same, ?_⟩⟩
  refine lp_r1 K N _ p5 _ _ _ _ _ _ (SqL.of upd_same) (fun w hw => ?_) fun w1 H6 e6 => ?_
  · simp only [List.cons_append, List.nil_append, List.mem_cons, List.not_mem_nil, or_false] at hw
    rcases hw with rfl | rfl | rfl | rfl | rfl | rfl | rfl | rfl | rfl | rfl | rfl | rfl | rfl | rfl | rfl | rfl | rfl | rfl | rfl | rfl | rfl | rfl | rfl | rfl
    iterate 18
      · exact tvs (by decide) (by show ∀ c ∈ _, c < 1114112; decide) (by decide)
    · exact ⟨.inr ⟨.non, rfl⟩, _, okT_none, .non⟩
    · exact ⟨.inr ⟨.int _, rfl⟩, _, okT_int _, .int _ (by decide) (by decide +kernel)⟩
    · exact ⟨.inr ⟨.lst (SqL.of (by walk_at "hh")), rfl⟩, .list (dStrs [[46]]), okT_list (fun z hz => by rw [List.mem_singleton.mp hz]; show ∀ c ∈ _, c < 1114112; decide), .lst (SqL.of (xs := [.str (S [46])]) (by walk_at "hh")) (fun H' e => .cons (.str _) .nil) (by decide) (by decide) (by decide) (by decide +kernel)⟩
    · exact ⟨.inr ⟨.tup (SqT.of (by walk_at "hh")), rfl⟩, .tuple (dStrs []), okT_tuple (fun z hz => by cases hz), .tup (SqT.of (xs := []) (by walk_at "hh")) (fun H' e => .nil) (by decide) (by decide) (by decide) (by decide +kernel)⟩
    · exact ⟨.inr ⟨.dct (by walk_at "hh"), rfl⟩, _, okT_dct, .dct (by walk_at "hh")⟩
    · exact ⟨.inr ⟨.bl _, rfl⟩, _, okT_bl _, .bl _⟩
  have eH : Ex H H6 := (((((((Ex.new h1).push h2).push h3).push g1).push g2).push g3).push h4).push h5 |>.trans e6
  walk_at "go"
  refine ⟨by walk_at "sz", fun r1 k1 => ?_⟩
  walk_at "go"
  refine ⟨by walk_at "sz", fun r2 k2 r3 k3 => ?_⟩
  walk_at "go"
  refine ⟨by walk_at "sz", fun r4 k4 => ?_⟩
  walk_at "go"
  refine ⟨_, .inl ⟨SqL.of upd_same, ?_⟩⟩
  refine lp_r2 K N _ r4 _ _ _ _ _ _ (SqL.of upd_same) (fun w hw => ?_) fun w1 w2 H7 e7 => ?_
  · simp only [List.mem_cons, List.not_mem_nil, or_false] at hw
    rcases hw with rfl | rfl | rfl | rfl | rfl | rfl | rfl | rfl
    · exact ⟨.inl .non, _, okT_none, .non⟩
    · exact ⟨.inl (.bl _), _, okT_bl _, .bl _⟩
    · exact ⟨.inl (.bl _), _, okT_bl _, .bl _⟩
    · exact ⟨.inr ⟨_, rfl, .inl (by decide)⟩, _, okT_int _, .int _ (by decide) (by decide +kernel)⟩
    · exact ⟨.inl (.str _), _, by simp only [PyData.shown]; exact okT_repr (okT_S (by show ∀ c ∈ _, c < 1114112; decide)), .str (by show ∀ c ∈ _, c < 1114112; decide) (by decide)⟩
    · exact ⟨.inl (.lst (SqL.of (by walk_at "hh"))), .list [.int 1], okT_app (okT_app (okT_app (okT_of "[") (okT_of _)) (okT_of _)) (okT_of "]"), .lst (SqL.of (xs := [.int 1]) (by walk_at "hh")) (fun H' e => .cons (.int 1) .nil) (by decide) (by decide) (by decide) (by decide +kernel)⟩
    · exact ⟨.inl (.tup (SqT.of (by walk_at "hh"))), .tuple [.int 1, .int 2], okT_app (okT_app (okT_of "(") (okT_join (okT_of ", ") _ fun x hx => by
        simp only [PyData.shownAll, PyData.shown, List.mem_cons, List.not_mem_nil, or_false] at hx
        rcases hx with rfl | rfl <;> exact okT_of _)) (okT_of _), .tup (SqT.of (xs := [.int 1, .int 2]) (by walk_at "hh")) (fun H' e => .cons (.int 1) (.cons (.int 2) .nil)) (by decide) (by decide) (by decide) (by decide +kernel)⟩
    · exact ⟨.inl (.dct (by walk_at "hh")), _, okT_dct, .dct (by walk_at "hh")⟩
  have eH7 : Ex H H7 := ((((eH.push k1).push k2).push k3).push k4).trans e7
  walk_at "go"
  refine ⟨0, _, _, rfl, .inr ⟨.inl ⟨rfl, rfl, rfl, hN⟩, fun H8 e8 => ?_⟩⟩
  walk_at "go"
  refine ⟨1, _, _, rfl, .inr ⟨.inr ⟨rfl, rfl, rfl⟩, fun H9 e9 => ?_⟩⟩
  walk_at "go"
  exact k H9 (eH7.trans (e8.trans e9))
end Pf

namespace Pf
open PySem PySem.Spec PyProof.Rows L2 M
local macro_rules | `(tactic| walk_at "go") => `(tactic| try simp only [tSeq, tIfS, tIf, tNot, mTest, tCB, tCons, tNil, mVar, M.gt, mC, Bool.not_true, Bool.not_false, Bool.false_eq_true, if_false, if_true, tNext, tAsg, gName, gSub, List.set_cons_zero, List.set_cons_succ, mFor, mIter, S_cps, S_len, S_app, tOp, tSl, mPart, mUn, tNoPart, tRet, tRetN, tTup, tLst, tAnd, tOr, mAndV, mOrV, mNotV, tCall, tCallSD, tDrop, mPar, mPar3, mLstM, mStrM, mBits, mRng1, mRng2, mgTup, mgSeq, mgCons, mgNil, q_add1, q_add2, q_add3, q_add4, q_iadd1, q_iadd2, q_iadd3, q_sorted, q_sub, q_mul1, q_mul2, q_mod, q_div, q_pow, q_eq1, q_eq2, q_eq3, q_eq4, q_eq5, q_eq6, q_eq7, q_eq8, q_eq9, q_eq10, q_ne1, q_ne2, q_ne3, q_ne9, q_ne10, q_lt, q_le, q_gt, q_ge, q_inc1, q_ix1, q_ix2, q_sl1, q_sl2, q_set, q_len1, q_len2, q_int1, q_int2, q_max, q_min, q_abs, q_sum, q_list, q_isi1, q_is1, q_not1, q_isN1, q_isN2, q_isN3, q_isN4, q_join, q_count, q_split, q_app, q_pop, q_clear, q_isiE, q_repr, wipe, List.map_cons, List.map_nil, List.length_cons, List.length_nil, List.length_append, List.length_map, List.nil_append, List.cons_append, List.append_nil, cut_m3, cut_t3, cut_m1, cut_t1, cut_t2, S_eq, decide_eq_true_eq, Bool.not_eq_true', decide_eq_false_iff_not, ne_eq])
def sp_end_of : Sp := fun vs H Q _ => ∃ (z : List Nat) (i : Nat) (t : Tr) (rest : List Nat), vs = [.str (S z), .int i] ∧ z.drop i = t.s ++ rest ∧ z.length ≤ 1000000 ∧ Q (.int ((i + t.s.length : Nat) : Int)) H
theorem drop_get {z r : List Nat} {i c : Nat} (h : z.drop i = c :: r) : z[i]? = some c ∧ z.drop (i + 1) = r := by
  constructor
  · have := congrArg (fun l => l[0]?) h
    simpa [List.getElem?_drop] using this
  · rw [← List.drop_drop, h]; rfl
theorem lp_end_of (K : PySem.W.Frag) (D : Ends) (H : Hp) (z : List Nat) (hz : z.length ≤ 1000000) (x : Option V) : ∀ (t : Tr) (rest : List Nat) (i d n : Nat), z.drop i = t.s ++ rest → 0 < d →
    whW (mTest (mC (.bl true))) (rd_end_of_b1 K) D n [some (.str (S z)), x, some (.int ((i + t.s.length : Nat) : Int)), some (.int d)] H →
    whW (mTest (mC (.bl true))) (rd_end_of_b1 K) D (n + t.s.length) [some (.str (S z)), x, some (.int i), some (.int d)] H := by
  intro t
  induction t with
  | lf =>
    intro rest i d n hd h0 k
    obtain ⟨hg, hr⟩ := drop_get hd
    show whW _ _ _ (n + 1) _ _
    simp only [whW]
    walk_at "go"
    refine ⟨by rw [szl]; omega, 46, by rw [aI_nat]; exact hg, ?_⟩
    walk_at "go"
    rw [if_neg (by decide)]
    refine ⟨by rw [szl]; omega, 46, by rw [aI_nat]; exact hg, ?_⟩
    walk_at "go"
    rw [if_neg (by decide)]
    walk_at "go"
    rw [if_neg (by omega)]
    walk_at "go"
    exact k
  | nd a b iha ihb =>
    intro rest i d n hd h0 k
    simp only [Tr.s, List.cons_append, List.append_assoc] at hd
    obtain ⟨hg, hr⟩ := drop_get hd
    have hr2 : z.drop (i + 1 + a.s.length) = b.s ++ ([41] ++ rest) := by
      rw [← List.drop_drop, hr]; simp
    have hr3 : z.drop (i + 1 + a.s.length + b.s.length) = 41 :: rest := by
      rw [← List.drop_drop, hr2]; simp
    obtain ⟨hg3, _⟩ := drop_get hr3
    have e : n + (Tr.nd a b).s.length = (n + 1 + b.s.length + a.s.length) + 1 := by simp [Tr.s]; omega
    rw [e]
    simp only [whW]
    walk_at "go"
    refine ⟨by rw [szl]; omega, 40, by rw [aI_nat]; exact hg, ?_⟩
    walk_at "go"
    rw [if_neg (by omega)]
    walk_at "go"
    refine iha _ (i + 1) (d + 1) _ hr (by omega) ?_
    refine ihb _ (i + 1 + a.s.length) (d + 1) _ hr2 (by omega) ?_
    simp only [whW]
    walk_at "go"
    refine ⟨by rw [szl]; omega, 41, by rw [aI_nat]; exact hg3, ?_⟩
    walk_at "go"
    rw [if_neg (by decide)]
    refine ⟨by rw [szl]; omega, 41, by rw [aI_nat]; exact hg3, ?_⟩
    walk_at "go"
    rw [if_neg (by omega)]
    have e1 : ((d + 1 : Nat) : Int) - 1 = (d : Int) := by omega
    have e2 : ((i + 1 + a.s.length + b.s.length : Nat) : Int) + 1 = ((i + (Tr.nd a b).s.length : Nat) : Int) := by simp [Tr.s]; omega
    rw [e1, e2]
    exact k
theorem pu_end_of (K : PySem.W.Frag) (vs : List V) (H : Hp) (Q : VK) (E : XK) (h : sp_end_of vs H Q E) : rd_end_of K { nx := fun _ H' => Q .non H', rt := Q } (L2.start N_end_of vs) H := by
  obtain ⟨z, i, t, rest, rfl, hd, hz, k⟩ := h
  show rd_end_of K _ [some _, some _, none, none] H
  unfold rd_end_of
  walk_at "go"
  cases t with
  | lf =>
    obtain ⟨hg, hr⟩ := drop_get hd
    refine ⟨1, ?_⟩
    simp only [whW]
    walk_at "go"
    refine ⟨by rw [szl]; omega, 46, by rw [aI_nat]; exact hg, ?_⟩
    walk_at "go"
    rw [if_neg (by decide)]
    refine ⟨by rw [szl]; omega, 46, by rw [aI_nat]; exact hg, ?_⟩
    walk_at "go"
    rw [if_neg (by decide)]
    walk_at "go"
    exact k
  | nd a b =>
    simp only [Tr.s, List.cons_append, List.append_assoc] at hd
    obtain ⟨hg, hr⟩ := drop_get hd
    have hr2 : z.drop (i + 1 + a.s.length) = b.s ++ ([41] ++ rest) := by
      rw [← List.drop_drop, hr]; simp
    have hr3 : z.drop (i + 1 + a.s.length + b.s.length) = 41 :: rest := by
      rw [← List.drop_drop, hr2]; simp
    obtain ⟨hg3, _⟩ := drop_get hr3
    refine ⟨(0 + 1 + b.s.length + a.s.length) + 1, ?_⟩
    simp only [whW]
    walk_at "go"
    refine ⟨by rw [szl]; omega, 40, by rw [aI_nat]; exact hg, ?_⟩
    walk_at "go"
    rw [if_neg (by decide)]
    refine lp_end_of K _ H z hz _ a _ (i + 1) 1 _ hr (by omega) ?_
    refine lp_end_of K _ H z hz _ b _ (i + 1 + a.s.length) 1 _ hr2 (by omega) ?_
    simp only [whW]
    walk_at "go"
    refine ⟨by rw [szl]; omega, 41, by rw [aI_nat]; exact hg3, ?_⟩
    walk_at "go"
    rw [if_neg (by decide)]
    refine ⟨by rw [szl]; omega, 41, by rw [aI_nat]; exact hg3, ?_⟩
    walk_at "go"
    have e2 : ((i + 1 + a.s.length + b.s.length : Nat) : Int) + 1 = ((i + (Tr.nd a b).s.length : Nat) : Int) := by simp [Tr.s]; omega
    rw [e2]
    exact k
end Pf

namespace Pf
open PySem PySem.Spec PyProof.Rows L2 M
local macro_rules | `(tactic| walk_at "go") => `(tactic| try simp only [tSeq, tIfS, tIf, tNot, mTest, tCB, tCons, tNil, mVar, M.gt, mC, Bool.not_true, Bool.not_false, Bool.false_eq_true, if_false, if_true, tNext, tAsg, gName, gSub, List.set_cons_zero, List.set_cons_succ, mFor, mIter, S_cps, S_len, S_app, tOp, tSl, mPart, mUn, tNoPart, tRet, tRetN, tTup, tLst, tAnd, tOr, mAndV, mOrV, mNotV, tCall, tCallSD, tDrop, mPar, mPar3, mLstM, mStrM, mBits, mRng1, mRng2, mgTup, mgSeq, mgCons, mgNil, q_add1, q_add2, q_add3, q_add4, q_iadd1, q_iadd2, q_iadd3, q_sorted, q_sub, q_mul1, q_mul2, q_mod, q_div, q_pow, q_eq1, q_eq2, q_eq3, q_eq4, q_eq5, q_eq6, q_eq7, q_eq8, q_eq9, q_eq10, q_ne1, q_ne2, q_ne3, q_ne9, q_ne10, q_lt, q_le, q_gt, q_ge, q_inc1, q_ix1, q_ix2, q_sl1, q_sl2, q_set, q_len1, q_len2, q_int1, q_int2, q_max, q_min, q_abs, q_sum, q_list, q_isi1, q_is1, q_not1, q_isN1, q_isN2, q_isN3, q_isN4, q_join, q_count, q_split, q_app, q_pop, q_clear, q_isiE, q_repr, wipe, List.map_cons, List.map_nil, List.length_cons, List.length_nil, List.length_append, List.length_map, List.nil_append, List.cons_append, List.append_nil, cut_m3, cut_t3, cut_m1, cut_t1, cut_t2, S_eq, decide_eq_true_eq, Bool.not_eq_true', decide_eq_false_iff_not, ne_eq])
theorem cut_at {z r m : List Nat} {i : Nat} (h : z.drop i = m ++ r) : cutL z (some (i : Int)) (some ((i + m.length : Nat) : Int)) = m := by
  rw [cut_mid, h, Nat.add_sub_cancel_left]; simp
theorem drop_app {z r m : List Nat} {i : Nat} (h : z.drop i = m ++ r) : z.drop (i + m.length) = r := by
  rw [← List.drop_drop, h]; simp
theorem drop_lt {z r m : List Nat} {i : Nat} (h : z.drop i = m ++ r) (hm : m ≠ []) : i + m.length ≤ z.length := by
  have := congrArg List.length h
  rw [List.length_drop, List.length_append] at this
  have : 0 < m.length := List.length_pos_iff.mpr hm
  omega
theorem s_ne (t : Tr) : t.s ≠ [] := by cases t <;> simp [Tr.s]
theorem lp_joined (K : PySem.W.Frag) (D : Ends) (H : Hp) (z y : List Nat) (hz : z.length ≤ 1000000) (hy : y.length ≤ 1000000) : ∀ (t u : Tr) (r1 r2 F : List Nat) (i j : Nat) (v5 : Option V), z.drop i = t.s ++ r1 → y.drop j = u.s ++ r2 → F.length ≤ i + j →
    (∀ v5', ∃ n, whW (mTest (tOp mLt (mVar 3) (tCB (mLen K) (tCons (mVar 0) tNil)))) (rd_joined_trees_b1 K sp_end_of) D n [some (.str (S z)), some (.str (S y)), some (.str (S (F ++ (Tr.join t u).s))), some (.int ((i + t.s.length : Nat) : Int)), some (.int ((j + u.s.length : Nat) : Int)), v5'] H) →
    ∃ n, whW (mTest (tOp mLt (mVar 3) (tCB (mLen K) (tCons (mVar 0) tNil)))) (rd_joined_trees_b1 K sp_end_of) D n [some (.str (S z)), some (.str (S y)), some (.str (S F)), some (.int i), some (.int j), v5] H := by
  intro t
  induction t with
  | lf =>
    intro u r1 r2 F i j v5 h1 h2 hF k
    obtain ⟨hg, _⟩ := drop_get h1
    have l1 := drop_lt h1 (s_ne _)
    have l2 := drop_lt h2 (s_ne _)
    obtain ⟨n, k⟩ := k (some (.int ((j + u.s.length : Nat) : Int)))
    refine ⟨n + 1, ?_⟩
    simp only [whW]
    walk_at "go"
    simp only [Tr.s, List.length_singleton] at l1
    refine ⟨by rw [szl]; omega, ?_⟩
    rw [if_pos (by omega)]
    refine ⟨by rw [szl]; omega, 46, by rw [aI_nat]; exact hg, ?_⟩
    walk_at "go"
    refine ⟨y, j, u, r2, rfl, h2, hy, ?_⟩
    walk_at "go"
    refine ⟨by rw [szl]; omega, ?_⟩
    rw [cut_at h2]
    refine ⟨by rw [szl]; omega, ?_⟩
    exact k
  | nd a b iha ihb =>
    intro u r1 r2 F i j v5 h1 h2 hF k
    have l1 := drop_lt h1 (s_ne _)
    have l2 := drop_lt h2 (s_ne _)
    cases u with
    | lf =>
      have h1' := h1
      simp only [Tr.s, List.cons_append, List.append_assoc] at h1'
      obtain ⟨hg, _⟩ := drop_get h1'
      obtain ⟨hg2, _⟩ := drop_get h2
      obtain ⟨n, k⟩ := k (some (.int ((i + (Tr.nd a b).s.length : Nat) : Int)))
      have ls := (Tr.nd a b).s_len
      refine ⟨n + 1, ?_⟩
      simp only [whW]
      walk_at "go"
      refine ⟨by rw [szl]; omega, ?_⟩
      rw [if_pos (by omega)]
      refine ⟨by rw [szl]; omega, 40, by rw [aI_nat]; exact hg, ?_⟩
      walk_at "go"
      rw [if_neg (by decide)]
      refine ⟨by rw [szl]; omega, 46, by rw [aI_nat]; exact hg2, ?_⟩
      walk_at "go"
      refine ⟨z, i, .nd a b, r1, rfl, h1, hz, ?_⟩
      walk_at "go"
      refine ⟨by rw [szl]; omega, ?_⟩
      rw [cut_at h1]
      refine ⟨by rw [szl]; omega, ?_⟩
      exact k
    | nd c d =>
      have h1' := h1
      have h2' := h2
      simp only [Tr.s, List.cons_append, List.append_assoc] at h1' h2'
      obtain ⟨hg, ha⟩ := drop_get h1'
      obtain ⟨hg2, hc⟩ := drop_get h2'
      have hb := drop_app ha
      have hd := drop_app hc
      have he1 := drop_app hb
      have he2 := drop_app hd
      obtain ⟨hg3, _⟩ := drop_get he1
      obtain ⟨hg4, _⟩ := drop_get he2
      have x1 : (Tr.nd a b).s.length = a.s.length + b.s.length + 2 := by simp [Tr.s]; omega
      have x2 : (Tr.nd c d).s.length = c.s.length + d.s.length + 2 := by simp [Tr.s]; omega
      have y1 := (Tr.join a c).s_len
      have y2 := (Tr.join b d).s_len
      have y3 := Tr.join_n_le a c
      have y4 := Tr.join_n_le b d
      have y5 := a.s_len
      have y6 := b.s_len
      have y7 := c.s_len
      have y8 := d.s_len
      suffices hs : ∃ n, whW (mTest (tOp mLt (mVar 3) (tCB (mLen K) (tCons (mVar 0) tNil)))) (rd_joined_trees_b1 K sp_end_of) D n [some (.str (S z)), some (.str (S y)), some (.str (S (F ++ [40]))), some (.int ((i + 1 : Nat) : Int)), some (.int ((j + 1 : Nat) : Int)), v5] H by
        obtain ⟨n, k⟩ := hs
        refine ⟨n + 1, ?_⟩
        simp only [whW]
        walk_at "go"
        refine ⟨by rw [szl]; omega, ?_⟩
        rw [if_pos (by omega)]
        refine ⟨by rw [szl]; omega, 40, by rw [aI_nat]; exact hg, ?_⟩
        walk_at "go"
        rw [if_neg (by decide)]
        refine ⟨by rw [szl]; omega, 40, by rw [aI_nat]; exact hg2, ?_⟩
        walk_at "go"
        rw [if_neg (by decide)]
        refine ⟨by rw [szl]; omega, 40, by rw [aI_nat]; exact hg, ?_⟩
        walk_at "go"
        exact ⟨by rw [szl]; omega, k⟩
      refine iha c _ _ (F ++ [40]) (i + 1) (j + 1) v5 ha hc (by rw [List.length_append, List.length_singleton]; omega) fun v6 => ?_
      refine ihb d _ _ _ (i + 1 + a.s.length) (j + 1 + c.s.length) v6 hb hd (by simp only [List.length_append, List.length_singleton]; omega) fun v7 => ?_
      obtain ⟨n, k⟩ := k v7
      refine ⟨n + 1, ?_⟩
      simp only [whW]
      walk_at "go"
      refine ⟨by rw [szl]; omega, ?_⟩
      rw [if_pos (by omega)]
      refine ⟨by rw [szl]; omega, 41, by rw [aI_nat]; exact hg3, ?_⟩
      walk_at "go"
      rw [if_neg (by decide)]
      refine ⟨by rw [szl]; omega, 41, by rw [aI_nat]; exact hg4, ?_⟩
      walk_at "go"
      rw [if_neg (by decide)]
      refine ⟨by rw [szl]; omega, 41, by rw [aI_nat]; exact hg3, ?_⟩
      walk_at "go"
      refine ⟨by rw [szl]; try simp only [List.length_append, List.length_singleton]
                 omega, ?_⟩
      have e1 : F ++ [40] ++ (Tr.join a c).s ++ (Tr.join b d).s ++ [41] = F ++ (Tr.join (.nd a b) (.nd c d)).s := by simp [Tr.join, Tr.s]
      have e2 : ((i + 1 + a.s.length + b.s.length : Nat) : Int) + 1 = ((i + (Tr.nd a b).s.length : Nat) : Int) := by omega
      have e3 : ((j + 1 + c.s.length + d.s.length : Nat) : Int) + 1 = ((j + (Tr.nd c d).s.length : Nat) : Int) := by omega
      rw [e1, e2, e3]
      exact k
def sp_joined_trees : Sp := fun vs H Q _ => ∃ t u : Tr, vs = [.str (S t.s), .str (S u.s)] ∧ t.n ≤ 100000 ∧ u.n ≤ 100000 ∧ Q (.str (S (Tr.join t u).s)) H
theorem pu_joined_trees (K : PySem.W.Frag) (vs : List V) (H : Hp) (Q : VK) (E : XK) (h : sp_joined_trees vs H Q E) : rd_joined_trees K sp_end_of { nx := fun _ H' => Q .non H', rt := Q } (L2.start N_joined_trees vs) H := by
  obtain ⟨t, u, rfl, ht, hu, k⟩ := h
  show rd_joined_trees K _ _ [some _, some _, none, none, none, none] H
  unfold rd_joined_trees
  walk_at "go"
  have l1 := t.s_len
  have l2 := u.s_len
  unfold mWhile
  refine lp_joined K _ H t.s u.s (by omega) (by omega) t u [] [] [] 0 0 none (by simp) (by simp) (by simp) fun v => ⟨1, ?_⟩
  simp only [whW]
  walk_at "go"
  refine ⟨by rw [szl]; omega, ?_⟩
  rw [if_neg (by omega)]
  exact k
def sp_joined (K : PySem.W.Frag) : Sp := fun vs H Q _ => ∃ t u : Tr, vs = [.str (S t.s), .str (S u.s)] ∧ t.n ≤ 100000 ∧ u.n ≤ 100000 ∧ ∀ H', Ex H H' → Q (.str (S (Tr.join t u).s)) H'
theorem tv_tree (K : PySem.W.Frag) (H : Hp) (t : Tr) (h : t.n ≤ 100000) : TV K H (.str (S t.s)) true := .inl ⟨t.s, rfl, by rw [t.s_len]; omega, (isTr_s t).symm⟩
theorem pu_joined (K : PySem.W.Frag) (a : Addr) (vs : List V) (H : Hp) (Q : VK) (E : XK) (h : sp_joined K vs H Q E) : rd_joined K (sp_check_tree K a) sp_joined_trees { nx := fun _ H' => Q .non H', rt := Q } (L2.start N_joined vs) H := by
  obtain ⟨t, u, rfl, ht, hu, k⟩ := h
  show rd_joined K _ _ _ [some _, some _] H
  unfold rd_joined
  walk_at "go"
  refine ⟨_, true, rfl, tv_tree K H t ht, fun _ H1 e1 => ?_, fun z => by (cases z)⟩
  walk_at "go"
  refine ⟨_, true, rfl, tv_tree K H1 u hu, fun _ H2 e2 => ?_, fun z => by (cases z)⟩
  walk_at "go"
  exact ⟨t, u, rfl, ht, hu, k _ (e1.trans e2)⟩
end Pf

namespace Pf
open PySem PySem.Spec PyProof.Rows L2 M
local macro_rules | `(tactic| walk_at "go") => `(tactic| try simp only [tSeq, tIfS, tIf, tNot, mTest, tCB, tCons, tNil, mVar, M.gt, mC, Bool.not_true, Bool.not_false, Bool.false_eq_true, if_false, if_true, tNext, tAsg, gName, gSub, List.set_cons_zero, List.set_cons_succ, mFor, mIter, S_cps, S_len, S_app, tOp, tSl, mPart, mUn, tNoPart, tRet, tRetN, tTup, tLst, tAnd, tOr, mAndV, mOrV, mNotV, tCall, tCallSD, tDrop, mPar, mPar3, mLstM, mStrM, mBits, mRng1, mRng2, mgTup, mgSeq, mgCons, mgNil, q_add1, q_add2, q_add3, q_add4, q_iadd1, q_iadd2, q_iadd3, q_sorted, q_sub, q_mul1, q_mul2, q_mod, q_div, q_pow, q_eq1, q_eq2, q_eq3, q_eq4, q_eq5, q_eq6, q_eq7, q_eq8, q_eq9, q_eq10, q_ne1, q_ne2, q_ne3, q_ne9, q_ne10, q_lt, q_le, q_gt, q_ge, q_inc1, q_ix1, q_ix2, q_sl1, q_sl2, q_set, q_len1, q_len2, q_int1, q_int2, q_max, q_min, q_abs, q_sum, q_list, q_isi1, q_is1, q_not1, q_isN1, q_isN2, q_isN3, q_isN4, q_join, q_count, q_split, q_app, q_pop, q_clear, q_isiE, q_repr, wipe, List.map_cons, List.map_nil, List.length_cons, List.length_nil, List.length_append, List.length_map, List.nil_append, List.cons_append, List.append_nil, cut_m3, cut_t3, cut_m1, cut_t1, cut_t2, S_eq, decide_eq_true_eq, Bool.not_eq_true', decide_eq_false_iff_not, ne_eq])
local macro_rules | `(tactic| walk_at "hh") => `(tactic| first | assumption | exact upd_same | exact Ex.new (by assumption) _ _ (by walk_at "hh") | exact Ex.at (by assumption) (by assumption) | solve_by_elim [Ex.at])
local macro_rules | `(tactic| walk_at "ee") => `(tactic| first | assumption | exact Ex.refl _ | exact Ex.push (by walk_at "ee") (by assumption) | exact Ex.trans (by assumption) (by assumption) | solve_by_elim [Ex.trans])
local macro_rules | `(tactic| walk_at "sz") => `(tactic| first | (rw [szl]; omega) | (simp only [szl, tx_len, sg_len, List.length_map, List.length_append, List.length_cons, List.length_nil, List.length_singleton, S_len]; omega))
section
variable (K : PySem.W.Frag) (aI aN : Addr) (N : Nat)
def sp__law_right : Sp := fun vs H Q _ => ∃ (v : V) (t : Tr) (p : Addr), vs = [v, .ref p] ∧ Nst K H v t ∧ SqL K H p ((zrow t).map V.int) ∧ t.ht < N ∧ t.n ≤ 10000 ∧ ∀ H', Ex H H' → Q (.bl true) H'
theorem pu__law_right (vs : List V) (H : Hp) (Q : VK) (E : XK) (h : sp__law_right K N vs H Q E) : rd__law_right K (sp_is_balanced K aI aN N) (sp__law_text K N) (sp__law_even K N) { nx := fun _ H' => Q .non H', rt := Q } (L2.start N__law_right vs) H := by
  obtain ⟨v, t, p, rfl, hv, hp, hN, hn, k⟩ := h
  show rd__law_right K _ _ _ _ [some _, some _, none, none] H
  unfold rd__law_right
  walk_at "go"
  refine ⟨⟨by decide, by decide⟩, ?_⟩
  rw [show upto 0 (7 : Int).toNat = (List.range 7).map fun (i : Nat) => V.int (0 + (i : Int)) by simp [upto]]
  refine (?l1 : ∀ (s : List Nat) (x2 x3 : Option V) (Hx : Hp), Ex H Hx → fV _ _ _ _ (s.map fun (i : Nat) => V.int (0 + (i : Int))) [some v, some (.ref p), x2, x3] Hx) (List.range 7) none none H (Ex.refl H)
  intro s
  induction s with
  | nil =>
    intro x2 x3 Hx e
    simp only [List.map_nil, fV]
    walk_at "go"
    exact ⟨trivial, k Hx e⟩
  | cons i s ih =>
    intro x2 x3 Hx e
    simp only [List.map_cons, fV]
    refine ⟨trivial, ?_⟩
    rw [Int.zero_add]
    walk_at "go"
    refine ⟨v, t, rfl, hv.ex e, hN, by omega, fun H1 e1 => ?_⟩
    refine ⟨_, _, rfl, .inr ⟨t, rfl, by omega, .inr ⟨i, rfl, hN, fun H2 e2 => ?_⟩⟩⟩
    walk_at "go"
    unfold mIsi
    simp only [tyN, kb13]
    rw [if_neg (by decide)]
    have e3 := (e.trans e1).trans e2
    refine ⟨v, t, p, zrow t, i, rfl, hv.ex e3, e3.L hp, by unfold zrow; rw [List.length_replicate], hN, by omega, fun H4 e4 => ?_⟩
    walk_at "go"
    rw [if_neg (by simp)]
    exact ih _ _ H4 (e3.trans e4)
/-- one pair: is_balanced by each slack -/

theorem gr_3 (D : Ends) (t : Tr) (hN : t.ht < N) (hn : t.n ≤ 10000) (v : V) (q : Addr) (xs : List V) (x0 x1 x2 x3 x4 x5 : Option V) : ∀ (s : List Nat) (x8 : Option V) (H : Hp), SqL K H q xs → Nst K H v t →
    (∀ (w8 : Option V) H', Ex H H' → D.nx [x0, x1, x2, x3, x4, x5, some v, some (.str (S t.s)), w8] H') →
    fV (fun H => SqL K H q xs) (gName 8) (rd__law_great_right_b3 K sp__law_draw (sp_joined K) (sp__law_text K N) (sp_is_balanced K aI aN N) (sp__law_even K N) (sp__law_width K N)) D (s.map fun (i : Nat) => V.int (i : Int)) [x0, x1, x2, x3, x4, x5, some v, some (.str (S t.s)), x8] H
  | [], x8, H, hL, hv, k => ⟨hL, k _ H (Ex.refl H)⟩
  | i :: s, x8, H, hL, hv, k => by
    have ih := gr_3 D t hN hn v q xs x0 x1 x2 x3 x4 x5 s
    simp only [List.map_cons, fV]
    refine ⟨hL, ?_⟩
    walk_at "go"
    refine ⟨_, _, rfl, .inr ⟨t, rfl, by omega, .inr ⟨i, rfl, hN, fun H2 e2 => ?_⟩⟩⟩
    walk_at "go"
    refine ⟨by walk_at "sz", fun p hp => ?_⟩
    have e3 := Ex.new (o := .lst [.int 0]) hp
    refine ⟨v, t, rfl, (hv.ex e2).ex e3, hN, fun H4 e4 => ?_⟩
    walk_at "go"
    refine ⟨_, e4 _ _ upd_same, by omega, by omega, by rw [szl, List.length_singleton]; omega, fun r hr => ?_⟩
    rw [Int.toNat_natCast, repl0M]
    have e5 := (e2.trans (e3.trans e4)).push (o := .lst ((List.replicate (t.n + 1) (0 : Int)).map V.int)) hr
    refine ⟨v, t, r, zrow t, i, rfl, hv.ex e5, SqL.of upd_same, by unfold zrow; rw [List.length_replicate], hN, by omega, fun H6 e6 => ?_⟩
    walk_at "go"
    rw [if_neg (by simp)]
    have eA := e5.trans e6
    exact ih _ _ (eA.L hL) (hv.ex eA) fun w8 H' e => k w8 H' (eA.trans e)
theorem gr_4 (D : Ends) (t : Tr) (hN : t.ht < N) (hn : t.n ≤ 10000) (v : V) (x0 x1 x2 x3 x4 x5 x8 : Option V) (H : Hp) (hv : Nst K H v t) (k : ∀ (w8 : Option V) H', Ex H H' → D.nx [x0, x1, x2, x3, x4, x5, some v, some (.str (S t.s)), w8] H') :
    (rd__law_great_right_b4 K sp__law_draw (sp_joined K) (sp__law_text K N) (sp_is_balanced K aI aN N) (sp__law_even K N) (sp__law_width K N)) D [x0, x1, x2, x3, x4, x5, some v, some (.str (S t.s)), x8] H := by
  walk_at "go"
  refine ⟨by walk_at "sz", fun q hq => ?_⟩
  walk_at "go"
  refine ⟨_, .inl ⟨SqL.of upd_same, ?_⟩⟩
  have e := Ex.new (o := .lst [.int 0, .int 197, .int 198, .int 299, .int 300]) hq
  exact gr_3 K aI aN N D t hN hn v q _ _ _ _ _ _ _ [0, 197, 198, 299, 300] _ _ (SqL.of upd_same) (hv.ex e) fun w8 H' e2 => k w8 H' (e.trans e2)
def sp__law_great_right : Sp := fun vs H Q _ => ∃ (g : Addr) (n : Nat), vs = [.ref g] ∧ Pu H g n ∧ n ≤ 2 ^ 80 ∧ ∀ H', Q (.bl true) H'
theorem pu__law_great_right (hN : 305 ≤ N) (vs : List V) (H : Hp) (Q : VK) (E : XK) (h : sp__law_great_right vs H Q E) : rd__law_great_right K sp__law_draw (sp_joined K) (sp__law_text K N) (sp_is_balanced K aI aN N) (sp__law_even K N) (sp__law_width K N) { nx := fun _ H' => Q .non H', rt := Q } (L2.start N__law_great_right vs) H := by
  obtain ⟨g, n, rfl, pu, hn, k⟩ := h
  show rd__law_great_right K _ _ _ _ _ _ _ [some _, none, none, none, none, none, none, none, none] H
  unfold rd__law_great_right
  walk_at "go"
  refine ⟨by walk_at "sz", fun a1 h1 => ?_⟩
  walk_at "go"
  refine ⟨by walk_at "sz", fun a2 h2 => ?_⟩
  walk_at "go"
  refine ⟨by walk_at "sz", fun a3 h3 => ?_⟩
  walk_at "go"
  refine ⟨by walk_at "sz", fun a4 h4 => ?_⟩
  walk_at "go"
  refine ⟨_, SqT.of upd_same, rfl, ?_⟩
  walk_at "go"
  refine ⟨⟨by decide, by decide⟩, ?_⟩
  refine (?l1 : ∀ (s : List V) (j : Nat) (v1 v2 : V) (x4 : Option V) (Hx : Hp), s.length + j = 199 → Ex H Hx → Pu Hx g n → Nst K Hx v1 (combL j) → Nst K Hx v2 (combR j) → Nst K Hx (.ref a3) .lf →
    fV _ _ _ _ s [some (.ref g), some v1, some v2, some (.ref a3), x4, none, none, none, none] Hx) _ 0 (.ref a1) (.ref a2) none _ (by simp [upto]) ((((Ex.new h1).push h2).push h3).push h4) (pu.fm ((((Ex.new h1).push h2).push h3).push h4)) (.lf (SqT.of (by walk_at "hh"))) (.lf (SqT.of (by walk_at "hh"))) (.lf (SqT.of (by walk_at "hh")))
  intro s
  induction s with
  | cons x s ih =>
    intro j v1 v2 x4 Hx hj e p n1 n2 n3
    simp only [List.length_cons] at hj
    simp only [fV]
    refine ⟨trivial, ?_⟩
    walk_at "go"
    refine ⟨by walk_at "sz", fun b1 g1 => ?_⟩
    walk_at "go"
    refine ⟨by walk_at "sz", fun b2 g2 => ?_⟩
    walk_at "go"
    refine ⟨by walk_at "sz", fun b3 g3 => ?_⟩
    walk_at "go"
    refine ⟨by walk_at "sz", fun b4 g4 => ?_⟩
    walk_at "go"
    have eA := (((Ex.new (o := .tup []) g1).push (o := .tup [v1, .ref b1]) g2).push (o := .tup []) g3).push (o := .tup [.ref b3, v2]) g4
    exact ih (j + 1) _ _ _ _ (by omega) (e.trans eA) (p.fm eA) (.nd (SqT.of (by walk_at "hh")) (n1.ex eA) (.lf (SqT.of (by walk_at "hh")))) (.nd (SqT.of upd_same) (.lf (SqT.of (by walk_at "hh"))) (n2.ex eA)) (n3.ex eA)
  | nil =>
    intro j v1 v2 x4 Hx hj e p n1 n2 n3
    obtain rfl : j = 199 := by simpa using hj
    simp only [fV]
    refine ⟨trivial, ?_⟩
    walk_at "go"
    refine ⟨⟨by decide, by decide⟩, ?_⟩
    refine (?l2 : ∀ (s : List V) (t : Tr) (m : Nat) (v3 : V) (x4 : Option V) (Hy : Hp), s.length + t.n = 300 → m + 100 * s.length ≤ 2 ^ 81 → Pu Hy g m → Nst K Hy v1 (combL 199) → Nst K Hy v2 (combR 199) → Nst K Hy v3 t →
      fV _ _ _ _ s [some (.ref g), some v1, some v2, some v3, x4, none, none, none, none] Hy) _ .lf n (.ref a3) _ Hx (by simp [upto, Tr.n]) (by simp [upto]; omega) p n1 n2 n3
    intro s
    induction s with
    | cons x s ih =>
      intro t m v3 x4 Hy hj hm p n1 n2 n3
      simp only [List.length_cons] at hj hm
      simp only [fV]
      refine ⟨trivial, ?_⟩
      walk_at "go"
      refine ⟨g, m, 2, rfl, by decide, by decide, by omega, p, fun H1 r f1 p1 r0 r1 => ?_⟩
      have fx : ∀ {v : V} {u : Tr}, Nst K Hy v u → Nst K H1 v u := fun h => h.fm (fun y hy => .inr (by rw [List.mem_singleton.mp hy]; exact p.lst)) f1
      walk_at "go"
      by_cases c : r = 0
      · rw [if_pos c]
        refine ⟨by walk_at "sz", fun b1 g1 => ?_⟩
        walk_at "go"
        refine ⟨by walk_at "sz", fun b2 g2 => ?_⟩
        have eA := (Ex.new (o := .tup []) g1).push (o := .tup [v3, .ref b1]) g2
        exact ih (.nd t .lf) (m + 10) _ _ _ (by simp only [Tr.n]; omega) (by omega) (p1.fm eA) ((fx n1).ex eA) ((fx n2).ex eA) (.nd (SqT.of upd_same) ((fx n3).ex eA) (.lf (SqT.of (by walk_at "hh"))))
      · rw [if_neg c]
        refine ⟨by walk_at "sz", fun b1 g1 => ?_⟩
        walk_at "go"
        refine ⟨by walk_at "sz", fun b2 g2 => ?_⟩
        have eA := (Ex.new (o := .tup []) g1).push (o := .tup [.ref b1, v3]) g2
        exact ih (.nd .lf t) (m + 10) _ _ _ (by simp only [Tr.n]; omega) (by omega) (p1.fm eA) ((fx n1).ex eA) ((fx n2).ex eA) (.nd (SqT.of upd_same) (.lf (SqT.of (by walk_at "hh"))) ((fx n3).ex eA))
    | nil =>
      intro t m v3 x4 Hy hj hm p n1 n2 n3
      have ht : t.n = 300 := by simpa using hj
      simp only [fV]
      refine ⟨trivial, ?_⟩
      walk_at "go"
      have nL := combL_n 199
      have nR := combR_n 199
      have tL := combL_ht 199
      have tR := combR_ht 199
      have tH := t.ht_le
      refine ⟨by walk_at "sz", fun b1 g1 => ?_⟩
      walk_at "go"
      refine ⟨by walk_at "sz", fun b2 g2 => ?_⟩
      have eA := (Ex.new (o := .tup []) g1).push (o := .tup [v1, .ref b1]) g2
      refine ⟨_, .nd (combL 199) .lf, rfl, .nd (SqT.of upd_same) (n1.ex eA) (.lf (SqT.of (by walk_at "hh"))), by simp only [Tr.ht]; omega, by simp only [Tr.n]; omega, fun H1 e1 => ?_⟩
      walk_at "go"
      refine ⟨by walk_at "sz", fun b3 g3 => ?_⟩
      walk_at "go"
      refine ⟨by walk_at "sz", fun b4 g4 => ?_⟩
      have eB := (eA.trans e1).trans ((Ex.new (o := .tup []) g3).push (o := .tup [.ref b3, v2]) g4)
      refine ⟨_, .nd .lf (combR 199), rfl, .nd (SqT.of upd_same) (.lf (SqT.of (by walk_at "hh"))) (n2.ex eB), by simp only [Tr.ht]; omega, by simp only [Tr.n]; omega, fun H2 e2 => ?_⟩
      refine ⟨_, _, rfl, by simp only [Tr.n]; omega, by simp only [Tr.n]; omega, fun H3 e3 => ?_⟩
      have ej : Tr.join (.nd (combL 199) .lf) (.nd .lf (combR 199)) = .nd (combL 199) (combR 199) := by
        show Tr.nd (Tr.join (combL 199) .lf) (Tr.join .lf (combR 199)) = _
        have : ∀ u : Tr, Tr.join u .lf = u := fun u => by cases u <;> rfl
        rw [this]; rfl
      rw [ej]
      have eC := eB.trans (e2.trans e3)
      walk_at "go"
      refine ⟨by walk_at "sz", fun b5 g5 => ?_⟩
      have eD := eC.push (o := .tup [v1, v2]) g5
      refine ⟨_, .nd (combL 199) (combR 199), rfl, .nd (SqT.of upd_same) (n1.ex eD) (n2.ex eD), by simp only [Tr.ht]; omega, by simp only [Tr.n]; omega, fun H4 e4 => ?_⟩
      walk_at "go"
      have eE := eD.trans e4
      refine ⟨by walk_at "sz", fun c1 k1 => ?_⟩
      walk_at "go"
      refine ⟨by walk_at "sz", fun c2 k2 => ?_⟩
      have eF := (eE.push (o := .tup [v1, v2]) k1).push (o := .tup [.ref c1, .str (S (Tr.nd (combL 199) (combR 199)).s)]) k2
      walk_at "go"
      refine ⟨v3, t, rfl, n3.ex eF, by omega, by omega, fun H5 e5 => ?_⟩
      walk_at "go"
      refine ⟨by walk_at "sz", fun c3 k3 => ?_⟩
      walk_at "go"
      refine ⟨by walk_at "sz", fun c4 k4 => ?_⟩
      walk_at "go"
      have hc1 : H5 c1 = some (.tup [v1, v2]) := e5 _ _ (by walk_at "hh")
      have hc2 : H5 c2 = some (.tup [.ref c1, .str (S (Tr.nd (combL 199) (combR 199)).s)]) := e5 _ _ upd_same
      have eG := (Ex.new (o := .tup [v3, .str (S t.s)]) k3).push (o := .lst [.ref c2, .ref c3]) k4
      have eAll := (eF.trans e5).trans eG
      refine ⟨_, .inl ⟨SqL.of upd_same, ?_⟩⟩
      simp only [fV]
      refine ⟨SqL.of upd_same, ?_⟩
      walk_at "go"
      refine ⟨_, SqT.of (by walk_at "hh"), rfl, ?_⟩
      walk_at "go"
      refine gr_4 K aI aN N _ (.nd (combL 199) (combR 199)) (by simp only [Tr.ht]; omega) (by simp only [Tr.n]; omega) (.ref c1) _ _ _ _ _ _ _ _ (.nd (SqT.of (by walk_at "hh")) (n1.ex eAll) (n2.ex eAll)) fun w8 H6 e6 => ?_
      refine ⟨SqL.of (e6 _ _ upd_same), ?_⟩
      walk_at "go"
      have hc3 : H6 c3 = some (.tup [v3, .str (S t.s)]) := e6 _ _ (by walk_at "hh")
      refine ⟨_, SqT.of hc3, rfl, ?_⟩
      walk_at "go"
      refine gr_4 K aI aN N _ t (by omega) (by omega) v3 _ _ _ _ _ _ _ _ (n3.ex (eAll.trans e6)) fun w8 H7 e7 => ?_
      refine ⟨SqL.of (e7 _ _ (e6 _ _ upd_same)), ?_⟩
      walk_at "go"
      exact k H7
end
end Pf

namespace Pf
open PySem PySem.Spec PyProof.Rows L2 M
local macro_rules | `(tactic| walk_at "go") => `(tactic| try simp only [tSeq, tIfS, tIf, tNot, mTest, tCB, tCons, tNil, mVar, M.gt, mC, Bool.not_true, Bool.not_false, Bool.false_eq_true, if_false, if_true, tNext, tAsg, gName, gSub, List.set_cons_zero, List.set_cons_succ, mFor, mIter, S_cps, S_len, S_app, tOp, tSl, mPart, mUn, tNoPart, tRet, tRetN, tTup, tLst, tAnd, tOr, mAndV, mOrV, mNotV, tCall, tCallSD, tDrop, mPar, mPar3, mLstM, mStrM, mBits, mRng1, mRng2, mgTup, mgSeq, mgCons, mgNil, q_add1, q_add2, q_add3, q_add4, q_iadd1, q_iadd2, q_iadd3, q_sorted, q_sub, q_mul1, q_mul2, q_mod, q_div, q_pow, q_eq1, q_eq2, q_eq3, q_eq4, q_eq5, q_eq6, q_eq7, q_eq8, q_eq9, q_eq10, q_ne1, q_ne2, q_ne3, q_ne9, q_ne10, q_lt, q_le, q_gt, q_ge, q_inc1, q_ix1, q_ix2, q_sl1, q_sl2, q_set, q_len1, q_len2, q_int1, q_int2, q_max, q_min, q_abs, q_sum, q_list, q_isi1, q_is1, q_not1, q_isN1, q_isN2, q_isN3, q_isN4, q_join, q_count, q_split, q_app, q_pop, q_clear, q_isiE, q_repr, wipe, List.map_cons, List.map_nil, List.length_cons, List.length_nil, List.length_append, List.length_map, List.nil_append, List.cons_append, List.append_nil, cut_m3, cut_t3, cut_m1, cut_t1, cut_t2, S_eq, decide_eq_true_eq, Bool.not_eq_true', decide_eq_false_iff_not, ne_eq])
local macro_rules | `(tactic| walk_at "hh") => `(tactic| first | assumption | exact upd_same | exact Ex.new (by assumption) _ _ (by walk_at "hh") | exact Ex.at (by assumption) (by assumption) | solve_by_elim [Ex.at])
local macro_rules | `(tactic| walk_at "ee") => `(tactic| first | assumption | exact Ex.refl _ | exact Ex.push (by walk_at "ee") (by assumption) | exact Ex.trans (by assumption) (by assumption) | solve_by_elim [Ex.trans])
local macro_rules | `(tactic| walk_at "sz") => `(tactic| first | (rw [szl]; omega) | (simp only [szl, tx_len, sg_len, List.length_map, List.length_append, List.length_cons, List.length_nil, List.length_singleton, S_len]; omega))
def sp_law (K : PySem.W.Frag) : Sp := fun vs H Q _ => ∃ (a : Addr) (ns : List Int), vs = [.ref a] ∧ SqL K H a (ns.map V.int) ∧ ∀ H', Q (.bl true) H'
section
variable (K : PySem.W.Frag) (aI aN : Addr) (N : Nat)


theorem lw_1 (D : Ends) (v : V) (t : Tr) (hN : t.ht < N) (hn : t.n ≤ 1000) (x0 x1 x2 x3 x4 x5 : Option V) (H : Hp) (hv : Nst K H v t) (k : ∀ H', Ex H H' → D.nx [x0, x1, x2, x3, x4, x5, some v] H') : (rd_law_b1 K (sp__law_purse K) sp__law_draw (sp__law_built K N) (sp__law_nest K N) (sp__law_right K N) (sp__law_width K N) (sp_least_nodes K aN) (sp_is_balanced K aI aN N) (sp__law_text K N) sp__law_least (sp__law_great_right) sp__law_refused) D [x0, x1, x2, x3, x4, x5, some v] H := by
  walk_at "go"
  refine ⟨by walk_at "sz", fun p hp => ?_⟩
  have e1 := Ex.new (o := .lst [.int 0]) hp
  refine ⟨v, t, rfl, hv.ex e1, hN, fun H2 e2 => ?_⟩
  walk_at "go"
  refine ⟨_, e2 _ _ upd_same, by omega, by omega, by rw [szl, List.length_singleton]; omega, fun q hq => ?_⟩
  rw [Int.toNat_natCast, repl0M]
  have e3 := (e1.trans e2).push (o := .lst ((List.replicate (t.n + 1) (0 : Int)).map V.int)) hq
  refine ⟨v, t, q, rfl, hv.ex e3, SqL.of upd_same, hN, by omega, fun H4 e4 => ?_⟩
  walk_at "go"
  exact k H4 (e3.trans e4)
theorem blt_even {t : Tr} {h : Int} {s : Nat} (b : Blt t h s) : t.evn (zrow t) s = true := by
  unfold Tr.evn zrow
  rw [Tr.meas_zero, List.all_eq_true]
  exact fun d hd => decide_eq_true (b.ev d hd)
theorem lw_2 (hN : 100 ≤ N) (D : Ends) (H : Hp) (a : Addr) (ns : List Int) (hL : SqL K H a (ns.map V.int)) (i : Nat) (hi : i ≤ 1000) (v2 v3 v4 v5 v6 : Option V) (H1 : Hp) (e1 : Ex H H1)
    (k : ∀ (w2 w3 w4 w5 w6 : Option V) H2, Ex H H2 → D.nx [some (.ref a), some (.int i), w2, w3, w4, w5, w6] H2) :
    (rd_law_b2 K (sp__law_purse K) sp__law_draw (sp__law_built K N) (sp__law_nest K N) (sp__law_right K N) (sp__law_width K N) (sp_least_nodes K aN) (sp_is_balanced K aI aN N) (sp__law_text K N) sp__law_least (sp__law_great_right) sp__law_refused) D [some (.ref a), some (.int i), v2, v3, v4, v5, v6] H1 := by
  walk_at "go"
  refine ⟨a, ns, i, rfl, e1.L hL, hi, fun H2 g e2 ng0 p2 => ?_⟩
  have ng : H g = none := e1.free ng0
  walk_at "go"
  refine ⟨g, 2000000, 6, rfl, by decide, by decide, by decide, p2, fun H3 r f3 p3 r0 r1 => ?_⟩
  obtain ⟨h, rfl⟩ := Int.eq_ofNat_of_zero_le r0
  refine ⟨g, 2000010, 5, rfl, by decide, by decide, by decide, p3, fun H4 r f4 p4 s0 s1 => ?_⟩
  obtain ⟨s, rfl⟩ := Int.eq_ofNat_of_zero_le s0
  walk_at "go"
  have hp2 : 2 ^ h ≤ 2 ^ 5 := Nat.pow_le_pow_right (by decide) (by omega)
  refine ⟨g, 2000020, s, h, rfl, by rw [Int.toNat_natCast]; omega, by omega, by omega, by rw [Int.toNat_natCast]; omega, p4, fun H5 v5 t5 b5 f5 p5 n5 => ?_⟩
  rw [Int.toNat_natCast] at p5
  have b5u := b5.ub
  have t5h := t5.ht_le
  rw [Int.toNat_natCast] at b5u
  walk_at "go"
  refine ⟨by walk_at "sz", fun q hq => ?_⟩
  have eq5 := Ex.new (o := .lst [.int 9, .int 61]) hq
  refine ⟨g, _, 2, rfl, by decide, by decide, ?_, p5.fm eq5, fun H6 j f6 p6 j0 j1 => ?_⟩
  · omega
  have hq6 : H6 q = some (.lst [.int 9, .int 61]) := f6 q _ (by simpa using p5.ne hq) upd_same
  obtain ⟨m, hm, hm1, hm2⟩ : ∃ m : Nat, atI [V.int 9, V.int 61] j = some (.int m) ∧ 0 < m ∧ m ≤ 61 := by
    have : j = 0 ∨ j = 1 := by omega
    rcases this with rfl | rfl
    · exact ⟨9, rfl, by decide, by decide⟩
    · exact ⟨61, rfl, by decide, by decide⟩
  walk_at "go"
  refine ⟨_, _, .inl (SqL.of hq6), hm, ?_⟩
  refine ⟨g, _, m, rfl, by omega, Int.lt_of_le_of_lt (show (m : Int) ≤ 61 by omega) (by decide), ?_, p6, fun H7 c f7 p7 c0 c1 => ?_⟩
  · omega
  obtain ⟨c, rfl⟩ := Int.eq_ofNat_of_zero_le c0
  refine ⟨g, _, c, rfl, by omega, by omega, ?_, p7, fun H8 v8 t8 ht8 f8 p8 n8 => ?_⟩
  · omega
  walk_at "go"
  refine ⟨by walk_at "sz", fun u hu => ?_⟩
  have e9 := Ex.new (o := .lst [v8, v5]) hu
  have t8h := t8.ht_le
  have fA : Fm [g] H5 (upd H8 u (.lst [v8, v5])) := (Fm.ex eq5).trans (f6.trans (f7.trans (f8.trans (Fm.ex e9))))
  have n5' : Nst K (upd H8 u (.lst [v8, v5])) v5 t5 := n5.fm (fun y hy => .inr (by rw [List.mem_singleton.mp hy]; exact p5.lst)) fA
  have eH : Ex H (upd H8 u (.lst [v8, v5])) := Fm.exg (e1.trans e2) ng (f3.trans (f4.trans (f5.trans fA)))
  have p9 := p8.fm e9
  refine ⟨_, .inl ⟨SqL.of upd_same, ?_⟩⟩
  simp only [fV]
  refine ⟨SqL.of upd_same, ?_⟩
  show (rd_law_b1 K (sp__law_purse K) sp__law_draw (sp__law_built K N) (sp__law_nest K N) (sp__law_right K N) (sp__law_width K N) (sp_least_nodes K aN) (sp_is_balanced K aI aN N) (sp__law_text K N) sp__law_least (sp__law_great_right) sp__law_refused) _ [_, _, _, _, _, _, some v8] _
  refine lw_1 K aI aN N _ v8 t8 (by omega) (by omega) _ _ _ _ _ _ _ (n8.ex e9) fun H10 e10 => ?_
  refine ⟨SqL.of (e10 _ _ upd_same), ?_⟩
  show (rd_law_b1 K (sp__law_purse K) sp__law_draw (sp__law_built K N) (sp__law_nest K N) (sp__law_right K N) (sp__law_width K N) (sp_least_nodes K aN) (sp_is_balanced K aI aN N) (sp__law_text K N) sp__law_least (sp__law_great_right) sp__law_refused) _ [_, _, _, _, _, _, some v5] _
  refine lw_1 K aI aN N _ v5 t5 (by omega) (by omega) _ _ _ _ _ _ _ (n5'.ex e10) fun H11 e11 => ?_
  refine ⟨SqL.of (e11 _ _ (e10 _ _ upd_same)), ?_⟩
  have n511 := (n5'.ex e10).ex e11
  walk_at "go"
  refine ⟨v5, t5, rfl, n511, by omega, by omega, fun H12 e12 => ?_⟩
  refine ⟨_, _, rfl, .inr ⟨t5, rfl, by omega, .inr ⟨s, rfl, by omega, fun H13 e13 => ?_⟩⟩⟩
  rw [blt_even b5]
  walk_at "go"
  refine ⟨v5, t5, rfl, (n511.ex e12).ex e13, by omega, fun H14 e14 => ?_⟩
  walk_at "go"
  refine ⟨_, _, rfl, .inr (.inr ⟨h, s, rfl, rfl, by omega, fun H15 e15 => ?_⟩)⟩
  walk_at "go"
  have hle := b5.le
  rw [Int.toNat_natCast] at hle
  rw [if_neg (by omega)]
  have p15 := p9.fm (e10.trans (e11.trans (e12.trans (e13.trans (e14.trans e15)))))
  refine ⟨by walk_at "sz", fun w hw => ?_⟩
  have e16 := Ex.new (o := .lst [.int 21, .int 1001]) hw
  refine ⟨g, _, 2, rfl, by decide, by decide, ?_, p15.fm e16, fun H17 j f17 p17 j0 j1 => ?_⟩
  · omega
  have hw17 : H17 w = some (.lst [.int 21, .int 1001]) := f17 w _ (by simpa using p15.ne hw) upd_same
  obtain ⟨m2, hm2', hm21, hm22⟩ : ∃ m : Nat, atI [V.int 21, V.int 1001] j = some (.int m) ∧ 0 < m ∧ m ≤ 1001 := by
    have : j = 0 ∨ j = 1 := by omega
    rcases this with rfl | rfl
    · exact ⟨21, rfl, by decide, by decide⟩
    · exact ⟨1001, rfl, by decide, by decide⟩
  walk_at "go"
  refine ⟨_, _, .inl (SqL.of hw17), hm2', ?_⟩
  refine ⟨g, _, m2, rfl, by omega, Int.lt_of_le_of_lt (show (m2 : Int) ≤ 1001 by omega) (by decide), ?_, p17, fun H18 c2 f18 p18 d0 d1 => ?_⟩
  · omega
  obtain ⟨c2, rfl⟩ := Int.eq_ofNat_of_zero_le d0
  walk_at "go"
  refine ⟨_, _, rfl, .inr (.inr ⟨c2, s, rfl, rfl, by omega, fun H19 e19 => ?_⟩)⟩
  refine ⟨c2, s, rfl, by omega, fun H20 e20 => ?_⟩
  walk_at "go"
  rw [if_neg (by simp)]
  have eZ : Ex H H15 := eH.trans (e10.trans (e11.trans (e12.trans (e13.trans (e14.trans e15)))))
  exact k _ _ _ _ _ H20 (Fm.exg eZ ng ((Fm.ex e16).trans (f17.trans (f18.trans ((Fm.ex e19).trans (Fm.ex e20))))))
theorem pu_law (hN : 100 ≤ N) (vs : List V) (H : Hp) (Q : VK) (E : XK) (h : sp_law K vs H Q E) :
    rd_law K (sp__law_purse K) sp__law_draw (sp__law_built K N) (sp__law_nest K N) (sp__law_right K N) (sp__law_width K N) (sp_least_nodes K aN) (sp_is_balanced K aI aN N) (sp__law_text K N) sp__law_least (sp__law_great_right) sp__law_refused { nx := fun _ H' => Q .non H', rt := Q } (L2.start N_law vs) H := by
  obtain ⟨a, ns, rfl, hL, k⟩ := h
  show rd_law K _ _ _ _ _ _ _ _ _ _ _ _ _ [some _, none, none, none, none, none, none] H
  unfold rd_law
  walk_at "go"
  refine ⟨⟨by decide, by decide⟩, ?_⟩
  refine (?l1 : ∀ (s : List Nat) (v1 v2 v3 v4 v5 v6 : Option V) (H1 : Hp), (∀ i ∈ s, i ≤ 1000) → Ex H H1 → fV _ _ _ _ (s.map fun (i : Nat) => V.int (0 + (i : Int))) [some (.ref a), v1, v2, v3, v4, v5, v6] H1) (List.range 3) none none none none none none H (fun i hi => by have := List.mem_range.mp hi; omega) (Ex.refl H)
  intro s
  induction s with
  | cons i s ih =>
    intro v1 v2 v3 v4 v5 v6 H1 hs e1
    simp only [List.map_cons, fV]
    refine ⟨trivial, ?_⟩
    rw [Int.zero_add]
    exact lw_2 K aI aN N hN _ H a ns hL i (hs i List.mem_cons_self) v2 v3 v4 v5 v6 H1 e1 fun w2 w3 w4 w5 w6 H2 e2 => ih _ _ _ _ _ _ H2 (fun j hj => hs j (List.mem_cons_of_mem _ hj)) e2
  | nil =>
    intro v1 v2 v3 v4 v5 v6 H1 hs e1
    simp only [List.map_nil, fV]
    refine ⟨trivial, ?_⟩
    walk_at "go"
    refine ⟨rfl, fun H2 e2 => ?_⟩
    walk_at "go"
    refine ⟨a, ns, 3, rfl, (e1.trans e2).L hL, by decide, fun H3 g e3 ng0 p3 => ?_⟩
    exact ⟨g, 2000000, rfl, p3, by decide, k⟩
end
end Pf

namespace Pf
open PySem PySem.Spec PyProof.Rows L2 M
abbrev Rw : PySem.W.OpenRow := PySem.W.OpenLaw.row PySem.Challenge.rw_treeturns_k50_balanced_trees
abbrev Pg : Program := (PySem.Challenge.rw_treeturns_k50_balanced_trees).prog
def dx_InvalidTree___init__ : DefX := ⟨("InvalidTree", some "__init__"), "__init__", "InvalidTree.__init__", defArgs (inClass (top 2) 0), defBody (inClass (top 2) 0), defScope (inClass (top 2) 0), [.non], [], ["__class__"]⟩
def dx_InvalidNumber___init__ : DefX := ⟨("InvalidNumber", some "__init__"), "__init__", "InvalidNumber.__init__", defArgs (inClass (top 3) 0), defBody (inClass (top 3) 0), defScope (inClass (top 3) 0), [.non], [], ["__class__"]⟩
def dx_is_whole : DefX := ⟨("is_whole", none), "is_whole", "is_whole", defArgs (top 5), defBody (top 5), defScope (top 5), [], [], []⟩
def dx_is_tree : DefX := ⟨("is_tree", none), "is_tree", "is_tree", defArgs (top 6), defBody (top 6), defScope (top 6), [], [], []⟩
def dx_check_tree : DefX := ⟨("check_tree", none), "check_tree", "check_tree", defArgs (top 7), defBody (top 7), defScope (top 7), [], [], []⟩
def dx_end_of : DefX := ⟨("end_of", none), "end_of", "end_of", defArgs (top 8), defBody (top 8), defScope (top 8), [], [], []⟩
def dx_joined_trees : DefX := ⟨("joined_trees", none), "joined_trees", "joined_trees", defArgs (top 9), defBody (top 9), defScope (top 9), [], [], []⟩
def dx_joined : DefX := ⟨("joined", none), "joined", "joined", defArgs (top 10), defBody (top 10), defScope (top 10), [], [], []⟩
def dx_read_tree : DefX := ⟨("read_tree", none), "read_tree", "read_tree", defArgs (top 12), defBody (top 12), defScope (top 12), [], [], []⟩
def dx_nested : DefX := ⟨("nested", none), "nested", "nested", defArgs (top 13), defBody (top 13), defScope (top 13), [], [], []⟩
def dx_width : DefX := ⟨("width", none), "width", "width", defArgs (top 14), defBody (top 14), defScope (top 14), [], [], []⟩
def dx_measured : DefX := ⟨("measured", none), "measured", "measured", defArgs (top 15), defBody (top 15), defScope (top 15), [], [], []⟩
def dx_is_even : DefX := ⟨("is_even", none), "is_even", "is_even", defArgs (top 16), defBody (top 16), defScope (top 16), [], [], []⟩
def dx_check_number : DefX := ⟨("check_number", none), "check_number", "check_number", defArgs (top 18), defBody (top 18), defScope (top 18), [], [], []⟩
def dx_check_whole : DefX := ⟨("check_whole", none), "check_whole", "check_whole", defArgs (top 19), defBody (top 19), defScope (top 19), [.non], [], []⟩
def dx_nodes_up_to : DefX := ⟨("nodes_up_to", none), "nodes_up_to", "nodes_up_to", defArgs (top 21), defBody (top 21), defScope (top 21), [], [], []⟩
def dx_is_balanced : DefX := ⟨("is_balanced", none), "is_balanced", "is_balanced", defArgs (top 23), defBody (top 23), defScope (top 23), [], [], []⟩
def dx_least_nodes : DefX := ⟨("least_nodes", none), "least_nodes", "least_nodes", defArgs (top 24), defBody (top 24), defScope (top 24), [], [], []⟩
def dx__law_mixed : DefX := ⟨("_law_mixed", none), "_law_mixed", "_law_mixed", defArgs (top 26), defBody (top 26), defScope (top 26), [], [], []⟩
def dx__law_purse : DefX := ⟨("_law_purse", none), "_law_purse", "_law_purse", defArgs (top 27), defBody (top 27), defScope (top 27), [], [], []⟩
def dx__law_draw : DefX := ⟨("_law_draw", none), "_law_draw", "_law_draw", defArgs (top 28), defBody (top 28), defScope (top 28), [], [], []⟩
def dx__law_nest : DefX := ⟨("_law_nest", none), "_law_nest", "_law_nest", defArgs (top 29), defBody (top 29), defScope (top 29), [], [], []⟩
def dx__law_text : DefX := ⟨("_law_text", none), "_law_text", "_law_text", defArgs (top 30), defBody (top 30), defScope (top 30), [], [], []⟩
def dx__law_width : DefX := ⟨("_law_width", none), "_law_width", "_law_width", defArgs (top 31), defBody (top 31), defScope (top 31), [], [], []⟩
def dx__law_measured : DefX := ⟨("_law_measured", none), "_law_measured", "_law_measured", defArgs (top 32), defBody (top 32), defScope (top 32), [], [], []⟩
def dx__law_even : DefX := ⟨("_law_even", none), "_law_even", "_law_even", defArgs (top 33), defBody (top 33), defScope (top 33), [], [], []⟩
def dx__law_built : DefX := ⟨("_law_built", none), "_law_built", "_law_built", defArgs (top 34), defBody (top 34), defScope (top 34), [], [], []⟩
def dx__law_least : DefX := ⟨("_law_least", none), "_law_least", "_law_least", defArgs (top 35), defBody (top 35), defScope (top 35), [], [], []⟩
def dx__law_caught : DefX := ⟨("_law_caught", none), "_law_caught", "_law_caught", defArgs (top 36), defBody (top 36), defScope (top 36), [], [], []⟩
def dx__law_refused : DefX := ⟨("_law_refused", none), "_law_refused", "_law_refused", defArgs (top 37), defBody (top 37), defScope (top 37), [], [], []⟩
def dx__law_great_right : DefX := ⟨("_law_great_right", none), "_law_great_right", "_law_great_right", defArgs (top 38), defBody (top 38), defScope (top 38), [], [], []⟩
def dx__law_right : DefX := ⟨("_law_right", none), "_law_right", "_law_right", defArgs (top 39), defBody (top 39), defScope (top 39), [], [], []⟩
def dx_law : DefX := ⟨("law", none), "law", "law", defArgs (top 40), defBody (top 40), defScope (top 40), [], [], []⟩
def fnL : List DefX := ([dx_InvalidTree___init__,
  dx_InvalidNumber___init__,
  dx_is_whole,
  dx_is_tree,
  dx_check_tree,
  dx_end_of,
  dx_joined_trees,
  dx_joined,
  dx_read_tree,
  dx_nested,
  dx_width,
  dx_measured,
  dx_is_even,
  dx_check_number,
  dx_check_whole,
  dx_nodes_up_to,
  dx_is_balanced,
  dx_least_nodes,
  dx__law_mixed,
  dx__law_purse,
  dx__law_draw,
  dx__law_nest,
  dx__law_text,
  dx__law_width,
  dx__law_measured] : List DefX) ++ ([dx__law_even,
  dx__law_built,
  dx__law_least,
  dx__law_caught,
  dx__law_refused,
  dx__law_great_right,
  dx__law_right,
  dx_law] : List DefX)
def faL : List FaX := ([fun K => (He.Fa.glo "TurnError").ok K,
  fun K => (He.Fa.glo "InvalidTree").ok K,
  fun K => (He.Fa.glo "InvalidNumber").ok K,
  fun K => (He.Fa.glo "is_whole").ok K,
  fun K => (He.Fa.glo "is_tree").ok K,
  fun K => (He.Fa.glo "check_tree").ok K,
  fun K => (He.Fa.glo "end_of").ok K,
  fun K => (He.Fa.glo "joined_trees").ok K,
  fun K => (He.Fa.glo "joined").ok K,
  fun K => (He.Fa.glo "read_tree").ok K,
  fun K => (He.Fa.glo "nested").ok K,
  fun K => (He.Fa.glo "width").ok K,
  fun K => (He.Fa.glo "measured").ok K,
  fun K => (He.Fa.glo "is_even").ok K,
  fun K => (He.Fa.glo "check_number").ok K] : List FaX) ++ ([fun K => (He.Fa.glo "check_whole").ok K,
  fun K => (He.Fa.glo "nodes_up_to").ok K,
  fun K => (He.Fa.glo "is_balanced").ok K,
  fun K => (He.Fa.glo "least_nodes").ok K,
  fun K => (He.Fa.glo "_law_mixed").ok K,
  fun K => (He.Fa.glo "_law_purse").ok K,
  fun K => (He.Fa.glo "_law_draw").ok K,
  fun K => (He.Fa.glo "_law_nest").ok K,
  fun K => (He.Fa.glo "_law_text").ok K,
  fun K => (He.Fa.glo "_law_width").ok K,
  fun K => (He.Fa.glo "_law_measured").ok K,
  fun K => (He.Fa.glo "_law_even").ok K,
  fun K => (He.Fa.glo "_law_built").ok K,
  fun K => (He.Fa.glo "_law_least").ok K,
  fun K => (He.Fa.glo "_law_caught").ok K] : List FaX) ++ ([fun K => (He.Fa.glo "_law_refused").ok K,
  fun K => (He.Fa.glo "_law_great_right").ok K,
  fun K => (He.Fa.glo "_law_right").ok K,
  fun K => (He.Fa.glo "law").ok K,
  fun K => (He.Fa.free "isinstance").ok K,
  fun K => (He.Fa.free "bool").ok K,
  fun K => (He.Fa.free "int").ok K,
  fun K => (He.Fa.free "str").ok K,
  fun K => (He.Fa.free "len").ok K,
  fun K => (He.Fa.free "max").ok K,
  fun K => (He.Fa.free "abs").ok K,
  fun K => (He.Fa.free "range").ok K,
  fun K => (He.Fa.free "sum").ok K,
  fun K => (He.Fa.free "repr").ok K,
  fun K => exB Pg "InvalidTree" "value" K] : List FaX) ++ ([fun K => exB Pg "InvalidNumber" "value" K,
  fun K => (He.Fa.exm "InvalidTree" "TurnError" true).ok K,
  fun K => (He.Fa.exm "InvalidNumber" "TurnError" true).ok K,
  fun K => decide (PySem.W.kitOne K (.ref (He.ga K "InvalidTree")) (.ref (He.ga K "InvalidTree")) = some true),
  fun K => decide (PySem.W.kitOne K (.ref (He.ga K "InvalidTree")) (.ref (He.ga K "InvalidNumber")) = some false),
  fun K => decide (PySem.W.kitOne K (.ref (He.ga K "InvalidNumber")) (.ref (He.ga K "InvalidTree")) = some false),
  fun K => decide (PySem.W.kitOne K (.ref (He.ga K "InvalidNumber")) (.ref (He.ga K "InvalidNumber")) = some true)] : List FaX)
def loose : List PySem.Str := (["TurnError",
  "InvalidTree",
  "InvalidNumber",
  "is_whole",
  "is_tree",
  "check_tree",
  "end_of",
  "joined_trees",
  "joined",
  "read_tree",
  "nested",
  "width",
  "measured",
  "is_even",
  "check_number",
  "check_whole",
  "nodes_up_to",
  "is_balanced",
  "least_nodes",
  "_law_mixed",
  "_law_purse",
  "_law_draw",
  "_law_nest",
  "_law_text",
  "_law_width"] : List PySem.Str) ++ (["_law_measured",
  "_law_even",
  "_law_built",
  "_law_least",
  "_law_caught",
  "_law_refused",
  "_law_great_right",
  "_law_right"] : List PySem.Str)
abbrev hk : PySem.W.Hook := hookX 4 faL fnL
def ob (s : PySem.W.SharedT) : AlX := obsXG 4 faL fnL (HandSHeadRun.getT s)
theorem ob_eq (s : PySem.W.SharedT) : ob s = hk.obs s.abs := obsXG_eq (HandSHeadRun.getT_eq s)
set_option maxHeartbeats 0 in
theorem run (w : World) : HandSHeadRun.RunEq Rw (PySem.W.view Rw.prog [40]) hk ob 6000 loose w := by
  intro os
  kernel_rfl
theorem facts {w : World} {K : PySem.W.Frag} {h : Heap} {mg : Str → Option Value} {fa : Addr} (X : K.In h) (G : h.Ns mainGlobals mg) (hfa : mg ("law" : Str) = some (.ref fa)) (c : SaysX faL fnL K) :
    ∃ fd : FuncData, (∀ (s : Shared) (v : Value), BindsTo s fd ⟨[v], []⟩ [("_law_script", v)]) ∧ ∀ base : Heap, K.In base → base.Ns mainGlobals mg → FnG Pg w K mg base CX0 660 fa fd ["_law_script"] (sp_law K) := by
  have g_TurnError : mg "TurnError" = some (.ref (He.ga K "TurnError")) := He.glo_ok X G (c.fact 0 (f := fun K => (He.Fa.glo "TurnError").ok K))
  have g_InvalidTree : mg "InvalidTree" = some (.ref (He.ga K "InvalidTree")) := He.glo_ok X G (c.fact 1 (f := fun K => (He.Fa.glo "InvalidTree").ok K))
  have g_InvalidNumber : mg "InvalidNumber" = some (.ref (He.ga K "InvalidNumber")) := He.glo_ok X G (c.fact 2 (f := fun K => (He.Fa.glo "InvalidNumber").ok K))
  have g_is_whole : mg "is_whole" = some (.ref (He.ga K "is_whole")) := He.glo_ok X G (c.fact 3 (f := fun K => (He.Fa.glo "is_whole").ok K))
  have g_is_tree : mg "is_tree" = some (.ref (He.ga K "is_tree")) := He.glo_ok X G (c.fact 4 (f := fun K => (He.Fa.glo "is_tree").ok K))
  have g_check_tree : mg "check_tree" = some (.ref (He.ga K "check_tree")) := He.glo_ok X G (c.fact 5 (f := fun K => (He.Fa.glo "check_tree").ok K))
  have g_end_of : mg "end_of" = some (.ref (He.ga K "end_of")) := He.glo_ok X G (c.fact 6 (f := fun K => (He.Fa.glo "end_of").ok K))
  have g_joined_trees : mg "joined_trees" = some (.ref (He.ga K "joined_trees")) := He.glo_ok X G (c.fact 7 (f := fun K => (He.Fa.glo "joined_trees").ok K))
  have g_joined : mg "joined" = some (.ref (He.ga K "joined")) := He.glo_ok X G (c.fact 8 (f := fun K => (He.Fa.glo "joined").ok K))
  have g_read_tree : mg "read_tree" = some (.ref (He.ga K "read_tree")) := He.glo_ok X G (c.fact 9 (f := fun K => (He.Fa.glo "read_tree").ok K))
  have g_nested : mg "nested" = some (.ref (He.ga K "nested")) := He.glo_ok X G (c.fact 10 (f := fun K => (He.Fa.glo "nested").ok K))
  have g_width : mg "width" = some (.ref (He.ga K "width")) := He.glo_ok X G (c.fact 11 (f := fun K => (He.Fa.glo "width").ok K))
  have g_measured : mg "measured" = some (.ref (He.ga K "measured")) := He.glo_ok X G (c.fact 12 (f := fun K => (He.Fa.glo "measured").ok K))
  have g_is_even : mg "is_even" = some (.ref (He.ga K "is_even")) := He.glo_ok X G (c.fact 13 (f := fun K => (He.Fa.glo "is_even").ok K))
  have g_check_number : mg "check_number" = some (.ref (He.ga K "check_number")) := He.glo_ok X G (c.fact 14 (f := fun K => (He.Fa.glo "check_number").ok K))
  have g_check_whole : mg "check_whole" = some (.ref (He.ga K "check_whole")) := He.glo_ok X G (c.fact 15 (f := fun K => (He.Fa.glo "check_whole").ok K))
  have g_nodes_up_to : mg "nodes_up_to" = some (.ref (He.ga K "nodes_up_to")) := He.glo_ok X G (c.fact 16 (f := fun K => (He.Fa.glo "nodes_up_to").ok K))
  have g_is_balanced : mg "is_balanced" = some (.ref (He.ga K "is_balanced")) := He.glo_ok X G (c.fact 17 (f := fun K => (He.Fa.glo "is_balanced").ok K))
  have g_least_nodes : mg "least_nodes" = some (.ref (He.ga K "least_nodes")) := He.glo_ok X G (c.fact 18 (f := fun K => (He.Fa.glo "least_nodes").ok K))
  have g__law_mixed : mg "_law_mixed" = some (.ref (He.ga K "_law_mixed")) := He.glo_ok X G (c.fact 19 (f := fun K => (He.Fa.glo "_law_mixed").ok K))
  have g__law_purse : mg "_law_purse" = some (.ref (He.ga K "_law_purse")) := He.glo_ok X G (c.fact 20 (f := fun K => (He.Fa.glo "_law_purse").ok K))
  have g__law_draw : mg "_law_draw" = some (.ref (He.ga K "_law_draw")) := He.glo_ok X G (c.fact 21 (f := fun K => (He.Fa.glo "_law_draw").ok K))
  have g__law_nest : mg "_law_nest" = some (.ref (He.ga K "_law_nest")) := He.glo_ok X G (c.fact 22 (f := fun K => (He.Fa.glo "_law_nest").ok K))
  have g__law_text : mg "_law_text" = some (.ref (He.ga K "_law_text")) := He.glo_ok X G (c.fact 23 (f := fun K => (He.Fa.glo "_law_text").ok K))
  have g__law_width : mg "_law_width" = some (.ref (He.ga K "_law_width")) := He.glo_ok X G (c.fact 24 (f := fun K => (He.Fa.glo "_law_width").ok K))
  have g__law_measured : mg "_law_measured" = some (.ref (He.ga K "_law_measured")) := He.glo_ok X G (c.fact 25 (f := fun K => (He.Fa.glo "_law_measured").ok K))
  have g__law_even : mg "_law_even" = some (.ref (He.ga K "_law_even")) := He.glo_ok X G (c.fact 26 (f := fun K => (He.Fa.glo "_law_even").ok K))
  have g__law_built : mg "_law_built" = some (.ref (He.ga K "_law_built")) := He.glo_ok X G (c.fact 27 (f := fun K => (He.Fa.glo "_law_built").ok K))
  have g__law_least : mg "_law_least" = some (.ref (He.ga K "_law_least")) := He.glo_ok X G (c.fact 28 (f := fun K => (He.Fa.glo "_law_least").ok K))
  have g__law_caught : mg "_law_caught" = some (.ref (He.ga K "_law_caught")) := He.glo_ok X G (c.fact 29 (f := fun K => (He.Fa.glo "_law_caught").ok K))
  have g__law_refused : mg "_law_refused" = some (.ref (He.ga K "_law_refused")) := He.glo_ok X G (c.fact 30 (f := fun K => (He.Fa.glo "_law_refused").ok K))
  have g__law_great_right : mg "_law_great_right" = some (.ref (He.ga K "_law_great_right")) := He.glo_ok X G (c.fact 31 (f := fun K => (He.Fa.glo "_law_great_right").ok K))
  have g__law_right : mg "_law_right" = some (.ref (He.ga K "_law_right")) := He.glo_ok X G (c.fact 32 (f := fun K => (He.Fa.glo "_law_right").ok K))
  have g_law : mg "law" = some (.ref (He.ga K "law")) := He.glo_ok X G (c.fact 33 (f := fun K => (He.Fa.glo "law").ok K))
  have T : Tx K mg := ⟨He.free_ok X G (c.fact 34 (f := fun K => (He.Fa.free "isinstance").ok K)), He.free_ok X G (c.fact 35 (f := fun K => (He.Fa.free "bool").ok K)), He.free_ok X G (c.fact 36 (f := fun K => (He.Fa.free "int").ok K)), He.free_ok X G (c.fact 37 (f := fun K => (He.Fa.free "str").ok K)), He.free_ok X G (c.fact 38 (f := fun K => (He.Fa.free "len").ok K)), He.free_ok X G (c.fact 39 (f := fun K => (He.Fa.free "max").ok K)), He.free_ok X G (c.fact 40 (f := fun K => (He.Fa.free "abs").ok K)), He.free_ok X G (c.fact 41 (f := fun K => (He.Fa.free "range").ok K)), He.free_ok X G (c.fact 42 (f := fun K => (He.Fa.free "sum").ok K)), He.free_ok X G (c.fact 43 (f := fun K => (He.Fa.free "repr").ok K))⟩
  have x1 : PySem.W.exmOne K (.ref (He.ga K "InvalidTree")) (.ref (He.ga K "TurnError")) = some true := He.exm_ok (c.fact 46 (f := fun K => (He.Fa.exm "InvalidTree" "TurnError" true).ok K))
  have y1 : PySem.W.exmOne K (.ref (He.ga K "InvalidNumber")) (.ref (He.ga K "TurnError")) = some true := He.exm_ok (c.fact 47 (f := fun K => (He.Fa.exm "InvalidNumber" "TurnError" true).ok K))
  have z1 : PySem.W.kitOne K (.ref (He.ga K "InvalidTree")) (.ref (He.ga K "InvalidTree")) = some true := of_decide_eq_true (c.fact 48 (f := fun K => decide (PySem.W.kitOne K (.ref (He.ga K "InvalidTree")) (.ref (He.ga K "InvalidTree")) = some true)))
  have z2 : PySem.W.kitOne K (.ref (He.ga K "InvalidTree")) (.ref (He.ga K "InvalidNumber")) = some false := of_decide_eq_true (c.fact 49 (f := fun K => decide (PySem.W.kitOne K (.ref (He.ga K "InvalidTree")) (.ref (He.ga K "InvalidNumber")) = some false)))
  have z3 : PySem.W.kitOne K (.ref (He.ga K "InvalidNumber")) (.ref (He.ga K "InvalidTree")) = some false := of_decide_eq_true (c.fact 50 (f := fun K => decide (PySem.W.kitOne K (.ref (He.ga K "InvalidNumber")) (.ref (He.ga K "InvalidTree")) = some false)))
  have z4 : PySem.W.kitOne K (.ref (He.ga K "InvalidNumber")) (.ref (He.ga K "InvalidNumber")) = some true := of_decide_eq_true (c.fact 51 (f := fun K => decide (PySem.W.kitOne K (.ref (He.ga K "InvalidNumber")) (.ref (He.ga K "InvalidNumber")) = some true)))
  obtain ⟨X_InvalidTree, E_InvalidTree⟩ : ExcAt Pg w K mg "InvalidTree" "value" (He.ga K "InvalidTree") ∧ ExcK K "value" (He.ga K "InvalidTree") := ex_of (q := [⟨7, 8, 7, 13⟩, ⟨7, 8, 7, 15⟩, ⟨7, 8, 7, 24⟩, ⟨7, 25, 7, 30⟩, ⟨7, 8, 7, 31⟩, ⟨7, 8, 7, 31⟩, ⟨8, 8, 8, 12⟩, ⟨8, 8, 8, 18⟩, ⟨8, 21, 8, 26⟩, ⟨8, 8, 8, 26⟩]) X G (c.fact 44 (f := fun K => exB Pg "InvalidTree" "value" K)) (c.def0 0 (d := dx_InvalidTree___init__)) rfl rfl rfl rfl rfl rfl rfl (by decide) (by decide) rfl rfl rfl rfl rfl rfl rfl (by decide) (by decide +kernel) (fun env h => by cases env; cases h; rfl) (fun env h => by cases env; cases h; exact ⟨_, rfl⟩) (fun env h => by cases env; cases h; rfl) (fun _ _ _ _ _ _ _ _ _ _ => ⟨_, rfl, rfl⟩) (fun _ _ _ _ _ _ _ _ _ => ⟨_, rfl, rfl⟩) (fun _ _ _ _ _ _ _ _ _ _ => ⟨_, rfl, rfl⟩)
  obtain ⟨X_InvalidNumber, E_InvalidNumber⟩ : ExcAt Pg w K mg "InvalidNumber" "value" (He.ga K "InvalidNumber") ∧ ExcK K "value" (He.ga K "InvalidNumber") := ex_of (q := [⟨12, 8, 12, 13⟩, ⟨12, 8, 12, 15⟩, ⟨12, 8, 12, 24⟩, ⟨12, 25, 12, 30⟩, ⟨12, 8, 12, 31⟩, ⟨12, 8, 12, 31⟩, ⟨13, 8, 13, 12⟩, ⟨13, 8, 13, 18⟩, ⟨13, 21, 13, 26⟩, ⟨13, 8, 13, 26⟩]) X G (c.fact 45 (f := fun K => exB Pg "InvalidNumber" "value" K)) (c.def0 1 (d := dx_InvalidNumber___init__)) rfl rfl rfl rfl rfl rfl rfl (by decide) (by decide) rfl rfl rfl rfl rfl rfl rfl (by decide) (by decide +kernel) (fun env h => by cases env; cases h; rfl) (fun env h => by cases env; cases h; exact ⟨_, rfl⟩) (fun env h => by cases env; cases h; rfl) (fun _ _ _ _ _ _ _ _ _ _ => ⟨_, rfl, rfl⟩) (fun _ _ _ _ _ _ _ _ _ => ⟨_, rfl, rfl⟩) (fun _ _ _ _ _ _ _ _ _ _ => ⟨_, rfl, rfl⟩)
  obtain ⟨fd_is_whole, F_is_whole⟩ := c.def_ 2 (d := dx_is_whole)
  obtain ⟨fd_is_tree, F_is_tree⟩ := c.def_ 3 (d := dx_is_tree)
  obtain ⟨fd_check_tree, F_check_tree⟩ := c.def_ 4 (d := dx_check_tree)
  obtain ⟨fd_end_of, F_end_of⟩ := c.def_ 5 (d := dx_end_of)
  obtain ⟨fd_joined_trees, F_joined_trees⟩ := c.def_ 6 (d := dx_joined_trees)
  obtain ⟨fd_joined, F_joined⟩ := c.def_ 7 (d := dx_joined)
  obtain ⟨fd_read_tree, F_read_tree⟩ := c.def_ 8 (d := dx_read_tree)
  obtain ⟨fd_nested, F_nested⟩ := c.def_ 9 (d := dx_nested)
  obtain ⟨fd_width, F_width⟩ := c.def_ 10 (d := dx_width)
  obtain ⟨fd_measured, F_measured⟩ := c.def_ 11 (d := dx_measured)
  obtain ⟨fd_is_even, F_is_even⟩ := c.def_ 12 (d := dx_is_even)
  obtain ⟨fd_check_number, F_check_number⟩ := c.def_ 13 (d := dx_check_number)
  obtain ⟨fd_check_whole, F_check_whole⟩ := c.def_ 14 (d := dx_check_whole)
  obtain ⟨fd_nodes_up_to, F_nodes_up_to⟩ := c.def_ 15 (d := dx_nodes_up_to)
  obtain ⟨fd_is_balanced, F_is_balanced⟩ := c.def_ 16 (d := dx_is_balanced)
  obtain ⟨fd_least_nodes, F_least_nodes⟩ := c.def_ 17 (d := dx_least_nodes)
  obtain ⟨fd__law_mixed, F__law_mixed⟩ := c.def_ 18 (d := dx__law_mixed)
  obtain ⟨fd__law_purse, F__law_purse⟩ := c.def_ 19 (d := dx__law_purse)
  obtain ⟨fd__law_draw, F__law_draw⟩ := c.def_ 20 (d := dx__law_draw)
  obtain ⟨fd__law_nest, F__law_nest⟩ := c.def_ 21 (d := dx__law_nest)
  obtain ⟨fd__law_text, F__law_text⟩ := c.def_ 22 (d := dx__law_text)
  obtain ⟨fd__law_width, F__law_width⟩ := c.def_ 23 (d := dx__law_width)
  obtain ⟨fd__law_measured, F__law_measured⟩ := c.def_ 24 (d := dx__law_measured)
  obtain ⟨fd__law_even, F__law_even⟩ := c.def_ 25 (d := dx__law_even)
  obtain ⟨fd__law_built, F__law_built⟩ := c.def_ 26 (d := dx__law_built)
  obtain ⟨fd__law_least, F__law_least⟩ := c.def_ 27 (d := dx__law_least)
  obtain ⟨fd__law_caught, F__law_caught⟩ := c.def_ 28 (d := dx__law_caught)
  obtain ⟨fd__law_refused, F__law_refused⟩ := c.def_ 29 (d := dx__law_refused)
  obtain ⟨fd__law_great_right, F__law_great_right⟩ := c.def_ 30 (d := dx__law_great_right)
  obtain ⟨fd__law_right, F__law_right⟩ := c.def_ 31 (d := dx__law_right)
  obtain ⟨fd_law, F_law⟩ := c.def_ 32 (d := dx_law)
  cases hfa.symm.trans g_law
  refine ⟨fd_law, fun s v => FunD.bindsA (ps := ["_law_script"]) F_law (fun _ _ _ _ _ _ us hl => match us, hl with | [_], _ => rfl) s [v] rfl, fun base _ _ => ?_⟩
  have C__law_purse : CalG Pg w K mg base CX0 "_law_purse" 1 ["_law_script", "_law_at"] [] (sp__law_purse K) := ⟨_, fd__law_purse, [], ok__law_purse (k := 0) F__law_purse T   (fun vs H Q E h => by first | (obtain ⟨rfl, _⟩ := h; rfl) | (obtain ⟨_, rfl, _⟩ := h; rfl) | (obtain ⟨_, _, rfl, _⟩ := h; rfl) | (obtain ⟨_, _, _, rfl, _⟩ := h; rfl) | (obtain ⟨_, _, _, _, rfl, _⟩ := h; rfl) | (obtain ⟨_, _, _, _, _, rfl, _⟩ := h; rfl) | (obtain ⟨_, _, _, _, _, _, rfl, _⟩ := h; rfl) | (obtain ⟨_, _, _, _, _, _, _, rfl, _⟩ := h; rfl) | (obtain ⟨_, _, _, _, _, _, _, _, rfl, _⟩ := h; rfl) | (obtain ⟨_, _, _, _, _, _, _, _, _, rfl, _⟩ := h; rfl) | (obtain ⟨_, _, _, _, _, _, _, _, _, _, rfl, _⟩ := h; rfl) | (obtain ⟨_, _, _, _, _, _, _, _, _, _, _, rfl, _⟩ := h; rfl) | (obtain ⟨_, _, _, _, _, _, _, _, _, _, _, _, rfl, _⟩ := h; rfl) | (obtain ⟨_, _, _, _, _, _, _, _, _, _, _, _, _, rfl, _⟩ := h; rfl) | (obtain ⟨_, _, _, _, _, _, _, _, _, _, _, _, _, _, rfl, _⟩ := h; rfl)) (pu__law_purse K), g__law_purse, F__law_purse.kp, F__law_purse.bindsN (ps := ["_law_script", "_law_at"]) fun _ _ _ _ _ _ us hl => match us, hl with | [_, _], _ => rfl, .nil⟩
  have C__law_mixed : CalG Pg w K mg base CX0 "_law_mixed" 1 ["_law_cell", "_law_k"] [] (sp__law_mixed) := ⟨_, fd__law_mixed, [], ok__law_mixed (k := 0) F__law_mixed T   (fun vs H Q E h => by first | (obtain ⟨rfl, _⟩ := h; rfl) | (obtain ⟨_, rfl, _⟩ := h; rfl) | (obtain ⟨_, _, rfl, _⟩ := h; rfl) | (obtain ⟨_, _, _, rfl, _⟩ := h; rfl) | (obtain ⟨_, _, _, _, rfl, _⟩ := h; rfl) | (obtain ⟨_, _, _, _, _, rfl, _⟩ := h; rfl) | (obtain ⟨_, _, _, _, _, _, rfl, _⟩ := h; rfl) | (obtain ⟨_, _, _, _, _, _, _, rfl, _⟩ := h; rfl) | (obtain ⟨_, _, _, _, _, _, _, _, rfl, _⟩ := h; rfl) | (obtain ⟨_, _, _, _, _, _, _, _, _, rfl, _⟩ := h; rfl) | (obtain ⟨_, _, _, _, _, _, _, _, _, _, rfl, _⟩ := h; rfl) | (obtain ⟨_, _, _, _, _, _, _, _, _, _, _, rfl, _⟩ := h; rfl) | (obtain ⟨_, _, _, _, _, _, _, _, _, _, _, _, rfl, _⟩ := h; rfl) | (obtain ⟨_, _, _, _, _, _, _, _, _, _, _, _, _, rfl, _⟩ := h; rfl) | (obtain ⟨_, _, _, _, _, _, _, _, _, _, _, _, _, _, rfl, _⟩ := h; rfl)) (pu__law_mixed K), g__law_mixed, F__law_mixed.kp, F__law_mixed.bindsN (ps := ["_law_cell", "_law_k"]) fun _ _ _ _ _ _ us hl => match us, hl with | [_, _], _ => rfl, .nil⟩
  have C__law_draw : CalG Pg w K mg base CX0 "_law_draw" 2 ["_law_purse_here", "_law_out_of"] [] (sp__law_draw) := ⟨_, fd__law_draw, [], ok__law_draw (k := 1) F__law_draw T C__law_mixed (by omega) (fun vs H Q E h => by first | (obtain ⟨rfl, _⟩ := h; rfl) | (obtain ⟨_, rfl, _⟩ := h; rfl) | (obtain ⟨_, _, rfl, _⟩ := h; rfl) | (obtain ⟨_, _, _, rfl, _⟩ := h; rfl) | (obtain ⟨_, _, _, _, rfl, _⟩ := h; rfl) | (obtain ⟨_, _, _, _, _, rfl, _⟩ := h; rfl) | (obtain ⟨_, _, _, _, _, _, rfl, _⟩ := h; rfl) | (obtain ⟨_, _, _, _, _, _, _, rfl, _⟩ := h; rfl) | (obtain ⟨_, _, _, _, _, _, _, _, rfl, _⟩ := h; rfl) | (obtain ⟨_, _, _, _, _, _, _, _, _, rfl, _⟩ := h; rfl) | (obtain ⟨_, _, _, _, _, _, _, _, _, _, rfl, _⟩ := h; rfl) | (obtain ⟨_, _, _, _, _, _, _, _, _, _, _, rfl, _⟩ := h; rfl) | (obtain ⟨_, _, _, _, _, _, _, _, _, _, _, _, rfl, _⟩ := h; rfl) | (obtain ⟨_, _, _, _, _, _, _, _, _, _, _, _, _, rfl, _⟩ := h; rfl) | (obtain ⟨_, _, _, _, _, _, _, _, _, _, _, _, _, _, rfl, _⟩ := h; rfl)) (pu__law_draw K), g__law_draw, F__law_draw.kp, F__law_draw.bindsN (ps := ["_law_purse_here", "_law_out_of"]) fun _ _ _ _ _ _ us hl => match us, hl with | [_, _], _ => rfl, .nil⟩
  have R__law_built : ∀ n : Nat, FnG Pg w K mg base CX0 (2 + n) (He.ga K "_law_built") fd__law_built ["_law_purse_here", "_law_high", "_law_slack"] (sp__law_built K n) := by
    intro n
    induction n with
    | zero => exact FnG.zero (fun vs H Q E h => by obtain ⟨_, _, _, _, _, z, _⟩ := h; exact absurd z (Nat.not_lt_zero _))
    | succ n ih =>
      have I__law_built : CalG Pg w K mg base CX0 "_law_built" (2 + n) ["_law_purse_here", "_law_high", "_law_slack"] [] (sp__law_built K n) := ⟨_, fd__law_built, [], ih, g__law_built, F__law_built.kp, F__law_built.bindsN (ps := ["_law_purse_here", "_law_high", "_law_slack"]) fun _ _ _ _ _ _ us hl => match us, hl with | [_, _, _], _ => rfl, .nil⟩
      exact ok__law_built (k := 2 + n) F__law_built T C__law_draw I__law_built (by omega) (by omega) (fun vs H Q E h => by first | (obtain ⟨rfl, _⟩ := h; rfl) | (obtain ⟨_, rfl, _⟩ := h; rfl) | (obtain ⟨_, _, rfl, _⟩ := h; rfl) | (obtain ⟨_, _, _, rfl, _⟩ := h; rfl) | (obtain ⟨_, _, _, _, rfl, _⟩ := h; rfl) | (obtain ⟨_, _, _, _, _, rfl, _⟩ := h; rfl) | (obtain ⟨_, _, _, _, _, _, rfl, _⟩ := h; rfl) | (obtain ⟨_, _, _, _, _, _, _, rfl, _⟩ := h; rfl) | (obtain ⟨_, _, _, _, _, _, _, _, rfl, _⟩ := h; rfl) | (obtain ⟨_, _, _, _, _, _, _, _, _, rfl, _⟩ := h; rfl) | (obtain ⟨_, _, _, _, _, _, _, _, _, _, rfl, _⟩ := h; rfl) | (obtain ⟨_, _, _, _, _, _, _, _, _, _, _, rfl, _⟩ := h; rfl) | (obtain ⟨_, _, _, _, _, _, _, _, _, _, _, _, rfl, _⟩ := h; rfl) | (obtain ⟨_, _, _, _, _, _, _, _, _, _, _, _, _, rfl, _⟩ := h; rfl) | (obtain ⟨_, _, _, _, _, _, _, _, _, _, _, _, _, _, rfl, _⟩ := h; rfl)) (pu__law_built K n)
  have C__law_built : CalG Pg w K mg base CX0 "_law_built" 307 ["_law_purse_here", "_law_high", "_law_slack"] [] (sp__law_built K 305) := ⟨_, fd__law_built, [], R__law_built 305, g__law_built, F__law_built.kp, F__law_built.bindsN (ps := ["_law_purse_here", "_law_high", "_law_slack"]) fun _ _ _ _ _ _ us hl => match us, hl with | [_, _, _], _ => rfl, .nil⟩
  have R__law_nest : ∀ n : Nat, FnG Pg w K mg base CX0 (2 + n) (He.ga K "_law_nest") fd__law_nest ["_law_purse_here", "_law_count"] (sp__law_nest K n) := by
    intro n
    induction n with
    | zero => exact FnG.zero (fun vs H Q E h => by obtain ⟨_, _, _, _, z, _⟩ := h; exact absurd z (Nat.not_lt_zero _))
    | succ n ih =>
      have I__law_nest : CalG Pg w K mg base CX0 "_law_nest" (2 + n) ["_law_purse_here", "_law_count"] [] (sp__law_nest K n) := ⟨_, fd__law_nest, [], ih, g__law_nest, F__law_nest.kp, F__law_nest.bindsN (ps := ["_law_purse_here", "_law_count"]) fun _ _ _ _ _ _ us hl => match us, hl with | [_, _], _ => rfl, .nil⟩
      exact ok__law_nest (k := 2 + n) F__law_nest T C__law_draw I__law_nest (by omega) (by omega) (fun vs H Q E h => by first | (obtain ⟨rfl, _⟩ := h; rfl) | (obtain ⟨_, rfl, _⟩ := h; rfl) | (obtain ⟨_, _, rfl, _⟩ := h; rfl) | (obtain ⟨_, _, _, rfl, _⟩ := h; rfl) | (obtain ⟨_, _, _, _, rfl, _⟩ := h; rfl) | (obtain ⟨_, _, _, _, _, rfl, _⟩ := h; rfl) | (obtain ⟨_, _, _, _, _, _, rfl, _⟩ := h; rfl) | (obtain ⟨_, _, _, _, _, _, _, rfl, _⟩ := h; rfl) | (obtain ⟨_, _, _, _, _, _, _, _, rfl, _⟩ := h; rfl) | (obtain ⟨_, _, _, _, _, _, _, _, _, rfl, _⟩ := h; rfl) | (obtain ⟨_, _, _, _, _, _, _, _, _, _, rfl, _⟩ := h; rfl) | (obtain ⟨_, _, _, _, _, _, _, _, _, _, _, rfl, _⟩ := h; rfl) | (obtain ⟨_, _, _, _, _, _, _, _, _, _, _, _, rfl, _⟩ := h; rfl) | (obtain ⟨_, _, _, _, _, _, _, _, _, _, _, _, _, rfl, _⟩ := h; rfl) | (obtain ⟨_, _, _, _, _, _, _, _, _, _, _, _, _, _, rfl, _⟩ := h; rfl)) (pu__law_nest K n)
  have C__law_nest : CalG Pg w K mg base CX0 "_law_nest" 307 ["_law_purse_here", "_law_count"] [] (sp__law_nest K 305) := ⟨_, fd__law_nest, [], R__law_nest 305, g__law_nest, F__law_nest.kp, F__law_nest.bindsN (ps := ["_law_purse_here", "_law_count"]) fun _ _ _ _ _ _ us hl => match us, hl with | [_, _], _ => rfl, .nil⟩
  have R__law_width : ∀ n : Nat, FnG Pg w K mg base CX0 (0 + n) (He.ga K "_law_width") fd__law_width ["_law_nest_here"] (sp__law_width K n) := by
    intro n
    induction n with
    | zero => exact FnG.zero (fun vs H Q E h => by obtain ⟨_, _, _, _, z, _⟩ := h; exact absurd z (Nat.not_lt_zero _))
    | succ n ih =>
      have I__law_width : CalG Pg w K mg base CX0 "_law_width" (0 + n) ["_law_nest_here"] [] (sp__law_width K n) := ⟨_, fd__law_width, [], ih, g__law_width, F__law_width.kp, F__law_width.bindsN (ps := ["_law_nest_here"]) fun _ _ _ _ _ _ us hl => match us, hl with | [_], _ => rfl, .nil⟩
      exact ok__law_width (k := 0 + n) F__law_width T I__law_width (by omega) (fun vs H Q E h => by first | (obtain ⟨rfl, _⟩ := h; rfl) | (obtain ⟨_, rfl, _⟩ := h; rfl) | (obtain ⟨_, _, rfl, _⟩ := h; rfl) | (obtain ⟨_, _, _, rfl, _⟩ := h; rfl) | (obtain ⟨_, _, _, _, rfl, _⟩ := h; rfl) | (obtain ⟨_, _, _, _, _, rfl, _⟩ := h; rfl) | (obtain ⟨_, _, _, _, _, _, rfl, _⟩ := h; rfl) | (obtain ⟨_, _, _, _, _, _, _, rfl, _⟩ := h; rfl) | (obtain ⟨_, _, _, _, _, _, _, _, rfl, _⟩ := h; rfl) | (obtain ⟨_, _, _, _, _, _, _, _, _, rfl, _⟩ := h; rfl) | (obtain ⟨_, _, _, _, _, _, _, _, _, _, rfl, _⟩ := h; rfl) | (obtain ⟨_, _, _, _, _, _, _, _, _, _, _, rfl, _⟩ := h; rfl) | (obtain ⟨_, _, _, _, _, _, _, _, _, _, _, _, rfl, _⟩ := h; rfl) | (obtain ⟨_, _, _, _, _, _, _, _, _, _, _, _, _, rfl, _⟩ := h; rfl) | (obtain ⟨_, _, _, _, _, _, _, _, _, _, _, _, _, _, rfl, _⟩ := h; rfl)) (pu__law_width K n)
  have C__law_width : CalG Pg w K mg base CX0 "_law_width" 305 ["_law_nest_here"] [] (sp__law_width K 305) := ⟨_, fd__law_width, [], R__law_width 305, g__law_width, F__law_width.kp, F__law_width.bindsN (ps := ["_law_nest_here"]) fun _ _ _ _ _ _ us hl => match us, hl with | [_], _ => rfl, .nil⟩
  have R__law_text : ∀ n : Nat, FnG Pg w K mg base CX0 (0 + n) (He.ga K "_law_text") fd__law_text ["_law_nest_here"] (sp__law_text K n) := by
    intro n
    induction n with
    | zero => exact FnG.zero (fun vs H Q E h => by obtain ⟨_, _, _, _, z, _⟩ := h; exact absurd z (Nat.not_lt_zero _))
    | succ n ih =>
      have I__law_text : CalG Pg w K mg base CX0 "_law_text" (0 + n) ["_law_nest_here"] [] (sp__law_text K n) := ⟨_, fd__law_text, [], ih, g__law_text, F__law_text.kp, F__law_text.bindsN (ps := ["_law_nest_here"]) fun _ _ _ _ _ _ us hl => match us, hl with | [_], _ => rfl, .nil⟩
      exact ok__law_text (k := 0 + n) F__law_text T I__law_text (by omega) (fun vs H Q E h => by first | (obtain ⟨rfl, _⟩ := h; rfl) | (obtain ⟨_, rfl, _⟩ := h; rfl) | (obtain ⟨_, _, rfl, _⟩ := h; rfl) | (obtain ⟨_, _, _, rfl, _⟩ := h; rfl) | (obtain ⟨_, _, _, _, rfl, _⟩ := h; rfl) | (obtain ⟨_, _, _, _, _, rfl, _⟩ := h; rfl) | (obtain ⟨_, _, _, _, _, _, rfl, _⟩ := h; rfl) | (obtain ⟨_, _, _, _, _, _, _, rfl, _⟩ := h; rfl) | (obtain ⟨_, _, _, _, _, _, _, _, rfl, _⟩ := h; rfl) | (obtain ⟨_, _, _, _, _, _, _, _, _, rfl, _⟩ := h; rfl) | (obtain ⟨_, _, _, _, _, _, _, _, _, _, rfl, _⟩ := h; rfl) | (obtain ⟨_, _, _, _, _, _, _, _, _, _, _, rfl, _⟩ := h; rfl) | (obtain ⟨_, _, _, _, _, _, _, _, _, _, _, _, rfl, _⟩ := h; rfl) | (obtain ⟨_, _, _, _, _, _, _, _, _, _, _, _, _, rfl, _⟩ := h; rfl) | (obtain ⟨_, _, _, _, _, _, _, _, _, _, _, _, _, _, rfl, _⟩ := h; rfl)) (pu__law_text K n)
  have C__law_text : CalG Pg w K mg base CX0 "_law_text" 305 ["_law_nest_here"] [] (sp__law_text K 305) := ⟨_, fd__law_text, [], R__law_text 305, g__law_text, F__law_text.kp, F__law_text.bindsN (ps := ["_law_nest_here"]) fun _ _ _ _ _ _ us hl => match us, hl with | [_], _ => rfl, .nil⟩
  have C_read_tree : CalG Pg w K mg base CX0 "read_tree" 1 ["value"] [] (sp_read_tree K) := ⟨_, fd_read_tree, [], ok_read_tree (k := 0) F_read_tree T   (fun vs H Q E h => by first | (obtain ⟨rfl, _⟩ := h; rfl) | (obtain ⟨_, rfl, _⟩ := h; rfl) | (obtain ⟨_, _, rfl, _⟩ := h; rfl) | (obtain ⟨_, _, _, rfl, _⟩ := h; rfl) | (obtain ⟨_, _, _, _, rfl, _⟩ := h; rfl) | (obtain ⟨_, _, _, _, _, rfl, _⟩ := h; rfl) | (obtain ⟨_, _, _, _, _, _, rfl, _⟩ := h; rfl) | (obtain ⟨_, _, _, _, _, _, _, rfl, _⟩ := h; rfl) | (obtain ⟨_, _, _, _, _, _, _, _, rfl, _⟩ := h; rfl) | (obtain ⟨_, _, _, _, _, _, _, _, _, rfl, _⟩ := h; rfl) | (obtain ⟨_, _, _, _, _, _, _, _, _, _, rfl, _⟩ := h; rfl) | (obtain ⟨_, _, _, _, _, _, _, _, _, _, _, rfl, _⟩ := h; rfl) | (obtain ⟨_, _, _, _, _, _, _, _, _, _, _, _, rfl, _⟩ := h; rfl) | (obtain ⟨_, _, _, _, _, _, _, _, _, _, _, _, _, rfl, _⟩ := h; rfl) | (obtain ⟨_, _, _, _, _, _, _, _, _, _, _, _, _, _, rfl, _⟩ := h; rfl)) (pu_read_tree K), g_read_tree, F_read_tree.kp, F_read_tree.bindsN (ps := ["value"]) fun _ _ _ _ _ _ us hl => match us, hl with | [_], _ => rfl, .nil⟩
  have C_nested : CalG Pg w K mg base (L2.CX Pg w) "nested" 2 ["tree"] [] (sp_nested K (He.ga K "InvalidTree")) := ⟨_, fd_nested, [], ok_nested (k := 1) F_nested T C_read_tree X_InvalidTree (by omega) (fun vs H Q E h => by first | (obtain ⟨rfl, _⟩ := h; rfl) | (obtain ⟨_, rfl, _⟩ := h; rfl) | (obtain ⟨_, _, rfl, _⟩ := h; rfl) | (obtain ⟨_, _, _, rfl, _⟩ := h; rfl) | (obtain ⟨_, _, _, _, rfl, _⟩ := h; rfl) | (obtain ⟨_, _, _, _, _, rfl, _⟩ := h; rfl) | (obtain ⟨_, _, _, _, _, _, rfl, _⟩ := h; rfl) | (obtain ⟨_, _, _, _, _, _, _, rfl, _⟩ := h; rfl) | (obtain ⟨_, _, _, _, _, _, _, _, rfl, _⟩ := h; rfl) | (obtain ⟨_, _, _, _, _, _, _, _, _, rfl, _⟩ := h; rfl) | (obtain ⟨_, _, _, _, _, _, _, _, _, _, rfl, _⟩ := h; rfl) | (obtain ⟨_, _, _, _, _, _, _, _, _, _, _, rfl, _⟩ := h; rfl) | (obtain ⟨_, _, _, _, _, _, _, _, _, _, _, _, rfl, _⟩ := h; rfl) | (obtain ⟨_, _, _, _, _, _, _, _, _, _, _, _, _, rfl, _⟩ := h; rfl) | (obtain ⟨_, _, _, _, _, _, _, _, _, _, _, _, _, _, rfl, _⟩ := h; rfl)) (pu_nested K (He.ga K "InvalidTree")), g_nested, F_nested.kp, F_nested.bindsN (ps := ["tree"]) fun _ _ _ _ _ _ us hl => match us, hl with | [_], _ => rfl, .nil⟩
  have C_is_whole : CalG Pg w K mg base CX0 "is_whole" 1 ["value"] [] (sp_is_whole K) := ⟨_, fd_is_whole, [], ok_is_whole (k := 0) F_is_whole T   (fun vs H Q E h => by first | (obtain ⟨rfl, _⟩ := h; rfl) | (obtain ⟨_, rfl, _⟩ := h; rfl) | (obtain ⟨_, _, rfl, _⟩ := h; rfl) | (obtain ⟨_, _, _, rfl, _⟩ := h; rfl) | (obtain ⟨_, _, _, _, rfl, _⟩ := h; rfl) | (obtain ⟨_, _, _, _, _, rfl, _⟩ := h; rfl) | (obtain ⟨_, _, _, _, _, _, rfl, _⟩ := h; rfl) | (obtain ⟨_, _, _, _, _, _, _, rfl, _⟩ := h; rfl) | (obtain ⟨_, _, _, _, _, _, _, _, rfl, _⟩ := h; rfl) | (obtain ⟨_, _, _, _, _, _, _, _, _, rfl, _⟩ := h; rfl) | (obtain ⟨_, _, _, _, _, _, _, _, _, _, rfl, _⟩ := h; rfl) | (obtain ⟨_, _, _, _, _, _, _, _, _, _, _, rfl, _⟩ := h; rfl) | (obtain ⟨_, _, _, _, _, _, _, _, _, _, _, _, rfl, _⟩ := h; rfl) | (obtain ⟨_, _, _, _, _, _, _, _, _, _, _, _, _, rfl, _⟩ := h; rfl) | (obtain ⟨_, _, _, _, _, _, _, _, _, _, _, _, _, _, rfl, _⟩ := h; rfl)) (pu_is_whole K), g_is_whole, F_is_whole.kp, F_is_whole.bindsN (ps := ["value"]) fun _ _ _ _ _ _ us hl => match us, hl with | [_], _ => rfl, .nil⟩
  have C_check_number : CalG Pg w K mg base (L2.CX Pg w) "check_number" 2 ["value"] [] (sp_check_number K (He.ga K "InvalidNumber")) := ⟨_, fd_check_number, [], ok_check_number (k := 1) F_check_number T C_is_whole X_InvalidNumber (by omega) (fun vs H Q E h => by first | (obtain ⟨rfl, _⟩ := h; rfl) | (obtain ⟨_, rfl, _⟩ := h; rfl) | (obtain ⟨_, _, rfl, _⟩ := h; rfl) | (obtain ⟨_, _, _, rfl, _⟩ := h; rfl) | (obtain ⟨_, _, _, _, rfl, _⟩ := h; rfl) | (obtain ⟨_, _, _, _, _, rfl, _⟩ := h; rfl) | (obtain ⟨_, _, _, _, _, _, rfl, _⟩ := h; rfl) | (obtain ⟨_, _, _, _, _, _, _, rfl, _⟩ := h; rfl) | (obtain ⟨_, _, _, _, _, _, _, _, rfl, _⟩ := h; rfl) | (obtain ⟨_, _, _, _, _, _, _, _, _, rfl, _⟩ := h; rfl) | (obtain ⟨_, _, _, _, _, _, _, _, _, _, rfl, _⟩ := h; rfl) | (obtain ⟨_, _, _, _, _, _, _, _, _, _, _, rfl, _⟩ := h; rfl) | (obtain ⟨_, _, _, _, _, _, _, _, _, _, _, _, rfl, _⟩ := h; rfl) | (obtain ⟨_, _, _, _, _, _, _, _, _, _, _, _, _, rfl, _⟩ := h; rfl) | (obtain ⟨_, _, _, _, _, _, _, _, _, _, _, _, _, _, rfl, _⟩ := h; rfl)) (pu_check_number K (He.ga K "InvalidNumber")), g_check_number, F_check_number.kp, F_check_number.bindsN (ps := ["value"]) fun _ _ _ _ _ _ us hl => match us, hl with | [_], _ => rfl, .nil⟩
  have C_check_whole__2 : CalG Pg w K mg base (L2.CX Pg w) "check_whole" 3 ["value", "least", "most"] [.non] (sp_check_whole K (He.ga K "InvalidNumber")) := by
    obtain ⟨ds, rds, hb⟩ := ((show FunD K _ _ _ _ _ [.non] [] _ _ from F_check_whole).binds1 (ps := ["value", "least", "most"]) 2 0 (by simp) (by rfl) fun _ _ _ _ _ _ _ us its hu hi => match us, hu, its, hi with | [_, _], _, [_], _ => ⟨_, rfl, rfl⟩)
    exact ⟨_, fd_check_whole, ds, ok_check_whole (k := 2) F_check_whole T C_check_number X_InvalidNumber (by omega) (fun vs H Q E h => by first | (obtain ⟨rfl, _⟩ := h; rfl) | (obtain ⟨_, rfl, _⟩ := h; rfl) | (obtain ⟨_, _, rfl, _⟩ := h; rfl) | (obtain ⟨_, _, _, rfl, _⟩ := h; rfl) | (obtain ⟨_, _, _, _, rfl, _⟩ := h; rfl) | (obtain ⟨_, _, _, _, _, rfl, _⟩ := h; rfl) | (obtain ⟨_, _, _, _, _, _, rfl, _⟩ := h; rfl) | (obtain ⟨_, _, _, _, _, _, _, rfl, _⟩ := h; rfl) | (obtain ⟨_, _, _, _, _, _, _, _, rfl, _⟩ := h; rfl) | (obtain ⟨_, _, _, _, _, _, _, _, _, rfl, _⟩ := h; rfl) | (obtain ⟨_, _, _, _, _, _, _, _, _, _, rfl, _⟩ := h; rfl) | (obtain ⟨_, _, _, _, _, _, _, _, _, _, _, rfl, _⟩ := h; rfl) | (obtain ⟨_, _, _, _, _, _, _, _, _, _, _, _, rfl, _⟩ := h; rfl) | (obtain ⟨_, _, _, _, _, _, _, _, _, _, _, _, _, rfl, _⟩ := h; rfl) | (obtain ⟨_, _, _, _, _, _, _, _, _, _, _, _, _, _, rfl, _⟩ := h; rfl)) (pu_check_whole K (He.ga K "InvalidNumber")), g_check_whole, F_check_whole.kp, hb, rds⟩
  have R_width : ∀ n : Nat, FnG Pg w K mg base CX0 (0 + n) (He.ga K "width") fd_width ["nest"] (sp_width K n) := by
    intro n
    induction n with
    | zero => exact FnG.zero (fun vs H Q E h => by obtain ⟨_, _, _, _, z, _⟩ := h; exact absurd z (Nat.not_lt_zero _))
    | succ n ih =>
      have I_width : CalG Pg w K mg base CX0 "width" (0 + n) ["nest"] [] (sp_width K n) := ⟨_, fd_width, [], ih, g_width, F_width.kp, F_width.bindsN (ps := ["nest"]) fun _ _ _ _ _ _ us hl => match us, hl with | [_], _ => rfl, .nil⟩
      exact ok_width (k := 0 + n) F_width T I_width (by omega) (fun vs H Q E h => by first | (obtain ⟨rfl, _⟩ := h; rfl) | (obtain ⟨_, rfl, _⟩ := h; rfl) | (obtain ⟨_, _, rfl, _⟩ := h; rfl) | (obtain ⟨_, _, _, rfl, _⟩ := h; rfl) | (obtain ⟨_, _, _, _, rfl, _⟩ := h; rfl) | (obtain ⟨_, _, _, _, _, rfl, _⟩ := h; rfl) | (obtain ⟨_, _, _, _, _, _, rfl, _⟩ := h; rfl) | (obtain ⟨_, _, _, _, _, _, _, rfl, _⟩ := h; rfl) | (obtain ⟨_, _, _, _, _, _, _, _, rfl, _⟩ := h; rfl) | (obtain ⟨_, _, _, _, _, _, _, _, _, rfl, _⟩ := h; rfl) | (obtain ⟨_, _, _, _, _, _, _, _, _, _, rfl, _⟩ := h; rfl) | (obtain ⟨_, _, _, _, _, _, _, _, _, _, _, rfl, _⟩ := h; rfl) | (obtain ⟨_, _, _, _, _, _, _, _, _, _, _, _, rfl, _⟩ := h; rfl) | (obtain ⟨_, _, _, _, _, _, _, _, _, _, _, _, _, rfl, _⟩ := h; rfl) | (obtain ⟨_, _, _, _, _, _, _, _, _, _, _, _, _, _, rfl, _⟩ := h; rfl)) (pu_width K n)
  have C_width : CalG Pg w K mg base CX0 "width" 305 ["nest"] [] (sp_width K 305) := ⟨_, fd_width, [], R_width 305, g_width, F_width.kp, F_width.bindsN (ps := ["nest"]) fun _ _ _ _ _ _ us hl => match us, hl with | [_], _ => rfl, .nil⟩
  have R_measured : ∀ n : Nat, FnG Pg w K mg base CX0 (305 + n) (He.ga K "measured") fd_measured ["nest", "row"] (sp_measured K 305 n) := by
    intro n
    induction n with
    | zero => exact FnG.zero (fun vs H Q E h => by obtain ⟨_, _, _, _, _, _, _, _, ⟨z, _⟩, _⟩ := h; exact absurd z (Nat.not_lt_zero _))
    | succ n ih =>
      have I_measured : CalG Pg w K mg base CX0 "measured" (305 + n) ["nest", "row"] [] (sp_measured K 305 n) := ⟨_, fd_measured, [], ih, g_measured, F_measured.kp, F_measured.bindsN (ps := ["nest", "row"]) fun _ _ _ _ _ _ us hl => match us, hl with | [_, _], _ => rfl, .nil⟩
      exact ok_measured (k := 305 + n) F_measured T C_width I_measured (by omega) (by omega) (fun vs H Q E h => by first | (obtain ⟨rfl, _⟩ := h; rfl) | (obtain ⟨_, rfl, _⟩ := h; rfl) | (obtain ⟨_, _, rfl, _⟩ := h; rfl) | (obtain ⟨_, _, _, rfl, _⟩ := h; rfl) | (obtain ⟨_, _, _, _, rfl, _⟩ := h; rfl) | (obtain ⟨_, _, _, _, _, rfl, _⟩ := h; rfl) | (obtain ⟨_, _, _, _, _, _, rfl, _⟩ := h; rfl) | (obtain ⟨_, _, _, _, _, _, _, rfl, _⟩ := h; rfl) | (obtain ⟨_, _, _, _, _, _, _, _, rfl, _⟩ := h; rfl) | (obtain ⟨_, _, _, _, _, _, _, _, _, rfl, _⟩ := h; rfl) | (obtain ⟨_, _, _, _, _, _, _, _, _, _, rfl, _⟩ := h; rfl) | (obtain ⟨_, _, _, _, _, _, _, _, _, _, _, rfl, _⟩ := h; rfl) | (obtain ⟨_, _, _, _, _, _, _, _, _, _, _, _, rfl, _⟩ := h; rfl) | (obtain ⟨_, _, _, _, _, _, _, _, _, _, _, _, _, rfl, _⟩ := h; rfl) | (obtain ⟨_, _, _, _, _, _, _, _, _, _, _, _, _, _, rfl, _⟩ := h; rfl)) (pu_measured K 305 n)
  have C_measured : CalG Pg w K mg base CX0 "measured" 610 ["nest", "row"] [] (sp_measured K 305 305) := ⟨_, fd_measured, [], R_measured 305, g_measured, F_measured.kp, F_measured.bindsN (ps := ["nest", "row"]) fun _ _ _ _ _ _ us hl => match us, hl with | [_, _], _ => rfl, .nil⟩
  have C_is_even : CalG Pg w K mg base CX0 "is_even" 611 ["nest", "row", "slack"] [] (sp_is_even K 305) := ⟨_, fd_is_even, [], ok_is_even (k := 610) F_is_even T C_measured (by omega) (fun vs H Q E h => by first | (obtain ⟨rfl, _⟩ := h; rfl) | (obtain ⟨_, rfl, _⟩ := h; rfl) | (obtain ⟨_, _, rfl, _⟩ := h; rfl) | (obtain ⟨_, _, _, rfl, _⟩ := h; rfl) | (obtain ⟨_, _, _, _, rfl, _⟩ := h; rfl) | (obtain ⟨_, _, _, _, _, rfl, _⟩ := h; rfl) | (obtain ⟨_, _, _, _, _, _, rfl, _⟩ := h; rfl) | (obtain ⟨_, _, _, _, _, _, _, rfl, _⟩ := h; rfl) | (obtain ⟨_, _, _, _, _, _, _, _, rfl, _⟩ := h; rfl) | (obtain ⟨_, _, _, _, _, _, _, _, _, rfl, _⟩ := h; rfl) | (obtain ⟨_, _, _, _, _, _, _, _, _, _, rfl, _⟩ := h; rfl) | (obtain ⟨_, _, _, _, _, _, _, _, _, _, _, rfl, _⟩ := h; rfl) | (obtain ⟨_, _, _, _, _, _, _, _, _, _, _, _, rfl, _⟩ := h; rfl) | (obtain ⟨_, _, _, _, _, _, _, _, _, _, _, _, _, rfl, _⟩ := h; rfl) | (obtain ⟨_, _, _, _, _, _, _, _, _, _, _, _, _, _, rfl, _⟩ := h; rfl)) (pu_is_even K 305), g_is_even, F_is_even.kp, F_is_even.bindsN (ps := ["nest", "row", "slack"]) fun _ _ _ _ _ _ us hl => match us, hl with | [_, _, _], _ => rfl, .nil⟩
  have C_is_balanced : CalG Pg w K mg base (L2.CX Pg w) "is_balanced" 612 ["tree", "slack"] [] (sp_is_balanced K (He.ga K "InvalidTree") (He.ga K "InvalidNumber") 305) := ⟨_, fd_is_balanced, [], ok_is_balanced (k := 611) F_is_balanced T C_nested C_check_whole__2 C_width C_is_even (by omega) (by omega) (by omega) (by omega) (fun vs H Q E h => by first | (obtain ⟨rfl, _⟩ := h; rfl) | (obtain ⟨_, rfl, _⟩ := h; rfl) | (obtain ⟨_, _, rfl, _⟩ := h; rfl) | (obtain ⟨_, _, _, rfl, _⟩ := h; rfl) | (obtain ⟨_, _, _, _, rfl, _⟩ := h; rfl) | (obtain ⟨_, _, _, _, _, rfl, _⟩ := h; rfl) | (obtain ⟨_, _, _, _, _, _, rfl, _⟩ := h; rfl) | (obtain ⟨_, _, _, _, _, _, _, rfl, _⟩ := h; rfl) | (obtain ⟨_, _, _, _, _, _, _, _, rfl, _⟩ := h; rfl) | (obtain ⟨_, _, _, _, _, _, _, _, _, rfl, _⟩ := h; rfl) | (obtain ⟨_, _, _, _, _, _, _, _, _, _, rfl, _⟩ := h; rfl) | (obtain ⟨_, _, _, _, _, _, _, _, _, _, _, rfl, _⟩ := h; rfl) | (obtain ⟨_, _, _, _, _, _, _, _, _, _, _, _, rfl, _⟩ := h; rfl) | (obtain ⟨_, _, _, _, _, _, _, _, _, _, _, _, _, rfl, _⟩ := h; rfl) | (obtain ⟨_, _, _, _, _, _, _, _, _, _, _, _, _, _, rfl, _⟩ := h; rfl)) (pu_is_balanced K (He.ga K "InvalidTree") (He.ga K "InvalidNumber") 305), g_is_balanced, F_is_balanced.kp, F_is_balanced.bindsN (ps := ["tree", "slack"]) fun _ _ _ _ _ _ us hl => match us, hl with | [_, _], _ => rfl, .nil⟩
  have R__law_measured : ∀ n : Nat, FnG Pg w K mg base CX0 (305 + n) (He.ga K "_law_measured") fd__law_measured ["_law_nest_here", "_law_row"] (sp__law_measured K 305 n) := by
    intro n
    induction n with
    | zero => exact FnG.zero (fun vs H Q E h => by obtain ⟨_, _, _, _, _, _, _, _, ⟨z, _⟩, _⟩ := h; exact absurd z (Nat.not_lt_zero _))
    | succ n ih =>
      have I__law_measured : CalG Pg w K mg base CX0 "_law_measured" (305 + n) ["_law_nest_here", "_law_row"] [] (sp__law_measured K 305 n) := ⟨_, fd__law_measured, [], ih, g__law_measured, F__law_measured.kp, F__law_measured.bindsN (ps := ["_law_nest_here", "_law_row"]) fun _ _ _ _ _ _ us hl => match us, hl with | [_, _], _ => rfl, .nil⟩
      exact ok__law_measured (k := 305 + n) F__law_measured T C__law_width I__law_measured (by omega) (by omega) (fun vs H Q E h => by first | (obtain ⟨rfl, _⟩ := h; rfl) | (obtain ⟨_, rfl, _⟩ := h; rfl) | (obtain ⟨_, _, rfl, _⟩ := h; rfl) | (obtain ⟨_, _, _, rfl, _⟩ := h; rfl) | (obtain ⟨_, _, _, _, rfl, _⟩ := h; rfl) | (obtain ⟨_, _, _, _, _, rfl, _⟩ := h; rfl) | (obtain ⟨_, _, _, _, _, _, rfl, _⟩ := h; rfl) | (obtain ⟨_, _, _, _, _, _, _, rfl, _⟩ := h; rfl) | (obtain ⟨_, _, _, _, _, _, _, _, rfl, _⟩ := h; rfl) | (obtain ⟨_, _, _, _, _, _, _, _, _, rfl, _⟩ := h; rfl) | (obtain ⟨_, _, _, _, _, _, _, _, _, _, rfl, _⟩ := h; rfl) | (obtain ⟨_, _, _, _, _, _, _, _, _, _, _, rfl, _⟩ := h; rfl) | (obtain ⟨_, _, _, _, _, _, _, _, _, _, _, _, rfl, _⟩ := h; rfl) | (obtain ⟨_, _, _, _, _, _, _, _, _, _, _, _, _, rfl, _⟩ := h; rfl) | (obtain ⟨_, _, _, _, _, _, _, _, _, _, _, _, _, _, rfl, _⟩ := h; rfl)) (pu__law_measured K 305 n)
  have C__law_measured : CalG Pg w K mg base CX0 "_law_measured" 610 ["_law_nest_here", "_law_row"] [] (sp__law_measured K 305 305) := ⟨_, fd__law_measured, [], R__law_measured 305, g__law_measured, F__law_measured.kp, F__law_measured.bindsN (ps := ["_law_nest_here", "_law_row"]) fun _ _ _ _ _ _ us hl => match us, hl with | [_, _], _ => rfl, .nil⟩
  have C__law_even : CalG Pg w K mg base CX0 "_law_even" 611 ["_law_nest_here", "_law_row", "_law_slack"] [] (sp__law_even K 305) := ⟨_, fd__law_even, [], ok__law_even (k := 610) F__law_even T C__law_measured (by omega) (fun vs H Q E h => by first | (obtain ⟨rfl, _⟩ := h; rfl) | (obtain ⟨_, rfl, _⟩ := h; rfl) | (obtain ⟨_, _, rfl, _⟩ := h; rfl) | (obtain ⟨_, _, _, rfl, _⟩ := h; rfl) | (obtain ⟨_, _, _, _, rfl, _⟩ := h; rfl) | (obtain ⟨_, _, _, _, _, rfl, _⟩ := h; rfl) | (obtain ⟨_, _, _, _, _, _, rfl, _⟩ := h; rfl) | (obtain ⟨_, _, _, _, _, _, _, rfl, _⟩ := h; rfl) | (obtain ⟨_, _, _, _, _, _, _, _, rfl, _⟩ := h; rfl) | (obtain ⟨_, _, _, _, _, _, _, _, _, rfl, _⟩ := h; rfl) | (obtain ⟨_, _, _, _, _, _, _, _, _, _, rfl, _⟩ := h; rfl) | (obtain ⟨_, _, _, _, _, _, _, _, _, _, _, rfl, _⟩ := h; rfl) | (obtain ⟨_, _, _, _, _, _, _, _, _, _, _, _, rfl, _⟩ := h; rfl) | (obtain ⟨_, _, _, _, _, _, _, _, _, _, _, _, _, rfl, _⟩ := h; rfl) | (obtain ⟨_, _, _, _, _, _, _, _, _, _, _, _, _, _, rfl, _⟩ := h; rfl)) (pu__law_even K 305), g__law_even, F__law_even.kp, F__law_even.bindsN (ps := ["_law_nest_here", "_law_row", "_law_slack"]) fun _ _ _ _ _ _ us hl => match us, hl with | [_, _, _], _ => rfl, .nil⟩
  have C__law_right : CalG Pg w K mg base CX0 "_law_right" 613 ["_law_nest_here", "_law_zeros"] [] (sp__law_right K 305) := ⟨_, fd__law_right, [], ok__law_right (k := 612) F__law_right T C__law_text C_is_balanced C__law_even (by omega) (by omega) (by omega) (fun vs H Q E h => by first | (obtain ⟨rfl, _⟩ := h; rfl) | (obtain ⟨_, rfl, _⟩ := h; rfl) | (obtain ⟨_, _, rfl, _⟩ := h; rfl) | (obtain ⟨_, _, _, rfl, _⟩ := h; rfl) | (obtain ⟨_, _, _, _, rfl, _⟩ := h; rfl) | (obtain ⟨_, _, _, _, _, rfl, _⟩ := h; rfl) | (obtain ⟨_, _, _, _, _, _, rfl, _⟩ := h; rfl) | (obtain ⟨_, _, _, _, _, _, _, rfl, _⟩ := h; rfl) | (obtain ⟨_, _, _, _, _, _, _, _, rfl, _⟩ := h; rfl) | (obtain ⟨_, _, _, _, _, _, _, _, _, rfl, _⟩ := h; rfl) | (obtain ⟨_, _, _, _, _, _, _, _, _, _, rfl, _⟩ := h; rfl) | (obtain ⟨_, _, _, _, _, _, _, _, _, _, _, rfl, _⟩ := h; rfl) | (obtain ⟨_, _, _, _, _, _, _, _, _, _, _, _, rfl, _⟩ := h; rfl) | (obtain ⟨_, _, _, _, _, _, _, _, _, _, _, _, _, rfl, _⟩ := h; rfl) | (obtain ⟨_, _, _, _, _, _, _, _, _, _, _, _, _, _, rfl, _⟩ := h; rfl)) (pu__law_right K (He.ga K "InvalidTree") (He.ga K "InvalidNumber") 305), g__law_right, F__law_right.kp, F__law_right.bindsN (ps := ["_law_nest_here", "_law_zeros"]) fun _ _ _ _ _ _ us hl => match us, hl with | [_, _], _ => rfl, .nil⟩
  have C_nodes_up_to : CalG Pg w K mg base CX0 "nodes_up_to" 1 ["height", "slack"] [] (sp_nodes_up_to) := ⟨_, fd_nodes_up_to, [], ok_nodes_up_to (k := 0) F_nodes_up_to T   (fun vs H Q E h => by first | (obtain ⟨rfl, _⟩ := h; rfl) | (obtain ⟨_, rfl, _⟩ := h; rfl) | (obtain ⟨_, _, rfl, _⟩ := h; rfl) | (obtain ⟨_, _, _, rfl, _⟩ := h; rfl) | (obtain ⟨_, _, _, _, rfl, _⟩ := h; rfl) | (obtain ⟨_, _, _, _, _, rfl, _⟩ := h; rfl) | (obtain ⟨_, _, _, _, _, _, rfl, _⟩ := h; rfl) | (obtain ⟨_, _, _, _, _, _, _, rfl, _⟩ := h; rfl) | (obtain ⟨_, _, _, _, _, _, _, _, rfl, _⟩ := h; rfl) | (obtain ⟨_, _, _, _, _, _, _, _, _, rfl, _⟩ := h; rfl) | (obtain ⟨_, _, _, _, _, _, _, _, _, _, rfl, _⟩ := h; rfl) | (obtain ⟨_, _, _, _, _, _, _, _, _, _, _, rfl, _⟩ := h; rfl) | (obtain ⟨_, _, _, _, _, _, _, _, _, _, _, _, rfl, _⟩ := h; rfl) | (obtain ⟨_, _, _, _, _, _, _, _, _, _, _, _, _, rfl, _⟩ := h; rfl) | (obtain ⟨_, _, _, _, _, _, _, _, _, _, _, _, _, _, rfl, _⟩ := h; rfl)) (pu_nodes_up_to K), g_nodes_up_to, F_nodes_up_to.kp, F_nodes_up_to.bindsN (ps := ["height", "slack"]) fun _ _ _ _ _ _ us hl => match us, hl with | [_, _], _ => rfl, .nil⟩
  have C_least_nodes : CalG Pg w K mg base (L2.CX Pg w) "least_nodes" 4 ["height", "slack"] [] (sp_least_nodes K (He.ga K "InvalidNumber")) := ⟨_, fd_least_nodes, [], ok_least_nodes (k := 3) F_least_nodes T C_check_whole__2 C_nodes_up_to (by omega) (by omega) (fun vs H Q E h => by first | (obtain ⟨rfl, _⟩ := h; rfl) | (obtain ⟨_, rfl, _⟩ := h; rfl) | (obtain ⟨_, _, rfl, _⟩ := h; rfl) | (obtain ⟨_, _, _, rfl, _⟩ := h; rfl) | (obtain ⟨_, _, _, _, rfl, _⟩ := h; rfl) | (obtain ⟨_, _, _, _, _, rfl, _⟩ := h; rfl) | (obtain ⟨_, _, _, _, _, _, rfl, _⟩ := h; rfl) | (obtain ⟨_, _, _, _, _, _, _, rfl, _⟩ := h; rfl) | (obtain ⟨_, _, _, _, _, _, _, _, rfl, _⟩ := h; rfl) | (obtain ⟨_, _, _, _, _, _, _, _, _, rfl, _⟩ := h; rfl) | (obtain ⟨_, _, _, _, _, _, _, _, _, _, rfl, _⟩ := h; rfl) | (obtain ⟨_, _, _, _, _, _, _, _, _, _, _, rfl, _⟩ := h; rfl) | (obtain ⟨_, _, _, _, _, _, _, _, _, _, _, _, rfl, _⟩ := h; rfl) | (obtain ⟨_, _, _, _, _, _, _, _, _, _, _, _, _, rfl, _⟩ := h; rfl) | (obtain ⟨_, _, _, _, _, _, _, _, _, _, _, _, _, _, rfl, _⟩ := h; rfl)) (pu_least_nodes K (He.ga K "InvalidNumber")), g_least_nodes, F_least_nodes.kp, F_least_nodes.bindsN (ps := ["height", "slack"]) fun _ _ _ _ _ _ us hl => match us, hl with | [_, _], _ => rfl, .nil⟩
  have C__law_least : CalG Pg w K mg base CX0 "_law_least" 1 ["_law_high", "_law_slack"] [] (sp__law_least) := ⟨_, fd__law_least, [], ok__law_least (k := 0) F__law_least T   (fun vs H Q E h => by first | (obtain ⟨rfl, _⟩ := h; rfl) | (obtain ⟨_, rfl, _⟩ := h; rfl) | (obtain ⟨_, _, rfl, _⟩ := h; rfl) | (obtain ⟨_, _, _, rfl, _⟩ := h; rfl) | (obtain ⟨_, _, _, _, rfl, _⟩ := h; rfl) | (obtain ⟨_, _, _, _, _, rfl, _⟩ := h; rfl) | (obtain ⟨_, _, _, _, _, _, rfl, _⟩ := h; rfl) | (obtain ⟨_, _, _, _, _, _, _, rfl, _⟩ := h; rfl) | (obtain ⟨_, _, _, _, _, _, _, _, rfl, _⟩ := h; rfl) | (obtain ⟨_, _, _, _, _, _, _, _, _, rfl, _⟩ := h; rfl) | (obtain ⟨_, _, _, _, _, _, _, _, _, _, rfl, _⟩ := h; rfl) | (obtain ⟨_, _, _, _, _, _, _, _, _, _, _, rfl, _⟩ := h; rfl) | (obtain ⟨_, _, _, _, _, _, _, _, _, _, _, _, rfl, _⟩ := h; rfl) | (obtain ⟨_, _, _, _, _, _, _, _, _, _, _, _, _, rfl, _⟩ := h; rfl) | (obtain ⟨_, _, _, _, _, _, _, _, _, _, _, _, _, _, rfl, _⟩ := h; rfl)) (pu__law_least K), g__law_least, F__law_least.kp, F__law_least.bindsN (ps := ["_law_high", "_law_slack"]) fun _ _ _ _ _ _ us hl => match us, hl with | [_, _], _ => rfl, .nil⟩
  have C_is_tree : CalG Pg w K mg base CX0 "is_tree" 1 ["value"] [] (sp_is_tree K) := ⟨_, fd_is_tree, [], ok_is_tree (k := 0) F_is_tree T   (fun vs H Q E h => by first | (obtain ⟨rfl, _⟩ := h; rfl) | (obtain ⟨_, rfl, _⟩ := h; rfl) | (obtain ⟨_, _, rfl, _⟩ := h; rfl) | (obtain ⟨_, _, _, rfl, _⟩ := h; rfl) | (obtain ⟨_, _, _, _, rfl, _⟩ := h; rfl) | (obtain ⟨_, _, _, _, _, rfl, _⟩ := h; rfl) | (obtain ⟨_, _, _, _, _, _, rfl, _⟩ := h; rfl) | (obtain ⟨_, _, _, _, _, _, _, rfl, _⟩ := h; rfl) | (obtain ⟨_, _, _, _, _, _, _, _, rfl, _⟩ := h; rfl) | (obtain ⟨_, _, _, _, _, _, _, _, _, rfl, _⟩ := h; rfl) | (obtain ⟨_, _, _, _, _, _, _, _, _, _, rfl, _⟩ := h; rfl) | (obtain ⟨_, _, _, _, _, _, _, _, _, _, _, rfl, _⟩ := h; rfl) | (obtain ⟨_, _, _, _, _, _, _, _, _, _, _, _, rfl, _⟩ := h; rfl) | (obtain ⟨_, _, _, _, _, _, _, _, _, _, _, _, _, rfl, _⟩ := h; rfl) | (obtain ⟨_, _, _, _, _, _, _, _, _, _, _, _, _, _, rfl, _⟩ := h; rfl)) (pu_is_tree K), g_is_tree, F_is_tree.kp, F_is_tree.bindsN (ps := ["value"]) fun _ _ _ _ _ _ us hl => match us, hl with | [_], _ => rfl, .nil⟩
  have C_check_tree : CalG Pg w K mg base (L2.CX Pg w) "check_tree" 2 ["value"] [] (sp_check_tree K (He.ga K "InvalidTree")) := ⟨_, fd_check_tree, [], ok_check_tree (k := 1) F_check_tree T C_is_tree X_InvalidTree (by omega) (fun vs H Q E h => by first | (obtain ⟨rfl, _⟩ := h; rfl) | (obtain ⟨_, rfl, _⟩ := h; rfl) | (obtain ⟨_, _, rfl, _⟩ := h; rfl) | (obtain ⟨_, _, _, rfl, _⟩ := h; rfl) | (obtain ⟨_, _, _, _, rfl, _⟩ := h; rfl) | (obtain ⟨_, _, _, _, _, rfl, _⟩ := h; rfl) | (obtain ⟨_, _, _, _, _, _, rfl, _⟩ := h; rfl) | (obtain ⟨_, _, _, _, _, _, _, rfl, _⟩ := h; rfl) | (obtain ⟨_, _, _, _, _, _, _, _, rfl, _⟩ := h; rfl) | (obtain ⟨_, _, _, _, _, _, _, _, _, rfl, _⟩ := h; rfl) | (obtain ⟨_, _, _, _, _, _, _, _, _, _, rfl, _⟩ := h; rfl) | (obtain ⟨_, _, _, _, _, _, _, _, _, _, _, rfl, _⟩ := h; rfl) | (obtain ⟨_, _, _, _, _, _, _, _, _, _, _, _, rfl, _⟩ := h; rfl) | (obtain ⟨_, _, _, _, _, _, _, _, _, _, _, _, _, rfl, _⟩ := h; rfl) | (obtain ⟨_, _, _, _, _, _, _, _, _, _, _, _, _, _, rfl, _⟩ := h; rfl)) (pu_check_tree K (He.ga K "InvalidTree")), g_check_tree, F_check_tree.kp, F_check_tree.bindsN (ps := ["value"]) fun _ _ _ _ _ _ us hl => match us, hl with | [_], _ => rfl, .nil⟩
  have C_end_of : CalG Pg w K mg base CX0 "end_of" 1 ["tree", "start"] [] (sp_end_of) := ⟨_, fd_end_of, [], ok_end_of (k := 0) F_end_of T   (fun vs H Q E h => by first | (obtain ⟨rfl, _⟩ := h; rfl) | (obtain ⟨_, rfl, _⟩ := h; rfl) | (obtain ⟨_, _, rfl, _⟩ := h; rfl) | (obtain ⟨_, _, _, rfl, _⟩ := h; rfl) | (obtain ⟨_, _, _, _, rfl, _⟩ := h; rfl) | (obtain ⟨_, _, _, _, _, rfl, _⟩ := h; rfl) | (obtain ⟨_, _, _, _, _, _, rfl, _⟩ := h; rfl) | (obtain ⟨_, _, _, _, _, _, _, rfl, _⟩ := h; rfl) | (obtain ⟨_, _, _, _, _, _, _, _, rfl, _⟩ := h; rfl) | (obtain ⟨_, _, _, _, _, _, _, _, _, rfl, _⟩ := h; rfl) | (obtain ⟨_, _, _, _, _, _, _, _, _, _, rfl, _⟩ := h; rfl) | (obtain ⟨_, _, _, _, _, _, _, _, _, _, _, rfl, _⟩ := h; rfl) | (obtain ⟨_, _, _, _, _, _, _, _, _, _, _, _, rfl, _⟩ := h; rfl) | (obtain ⟨_, _, _, _, _, _, _, _, _, _, _, _, _, rfl, _⟩ := h; rfl) | (obtain ⟨_, _, _, _, _, _, _, _, _, _, _, _, _, _, rfl, _⟩ := h; rfl)) (pu_end_of K), g_end_of, F_end_of.kp, F_end_of.bindsN (ps := ["tree", "start"]) fun _ _ _ _ _ _ us hl => match us, hl with | [_, _], _ => rfl, .nil⟩
  have C_joined_trees : CalG Pg w K mg base CX0 "joined_trees" 2 ["one", "other"] [] (sp_joined_trees) := ⟨_, fd_joined_trees, [], ok_joined_trees (k := 1) F_joined_trees T C_end_of (by omega) (fun vs H Q E h => by first | (obtain ⟨rfl, _⟩ := h; rfl) | (obtain ⟨_, rfl, _⟩ := h; rfl) | (obtain ⟨_, _, rfl, _⟩ := h; rfl) | (obtain ⟨_, _, _, rfl, _⟩ := h; rfl) | (obtain ⟨_, _, _, _, rfl, _⟩ := h; rfl) | (obtain ⟨_, _, _, _, _, rfl, _⟩ := h; rfl) | (obtain ⟨_, _, _, _, _, _, rfl, _⟩ := h; rfl) | (obtain ⟨_, _, _, _, _, _, _, rfl, _⟩ := h; rfl) | (obtain ⟨_, _, _, _, _, _, _, _, rfl, _⟩ := h; rfl) | (obtain ⟨_, _, _, _, _, _, _, _, _, rfl, _⟩ := h; rfl) | (obtain ⟨_, _, _, _, _, _, _, _, _, _, rfl, _⟩ := h; rfl) | (obtain ⟨_, _, _, _, _, _, _, _, _, _, _, rfl, _⟩ := h; rfl) | (obtain ⟨_, _, _, _, _, _, _, _, _, _, _, _, rfl, _⟩ := h; rfl) | (obtain ⟨_, _, _, _, _, _, _, _, _, _, _, _, _, rfl, _⟩ := h; rfl) | (obtain ⟨_, _, _, _, _, _, _, _, _, _, _, _, _, _, rfl, _⟩ := h; rfl)) (pu_joined_trees K), g_joined_trees, F_joined_trees.kp, F_joined_trees.bindsN (ps := ["one", "other"]) fun _ _ _ _ _ _ us hl => match us, hl with | [_, _], _ => rfl, .nil⟩
  have C_joined : CalG Pg w K mg base CX0 "joined" 3 ["one", "other"] [] (sp_joined K) := ⟨_, fd_joined, [], ok_joined (k := 2) F_joined T C_check_tree C_joined_trees (by omega) (by omega) (fun vs H Q E h => by first | (obtain ⟨rfl, _⟩ := h; rfl) | (obtain ⟨_, rfl, _⟩ := h; rfl) | (obtain ⟨_, _, rfl, _⟩ := h; rfl) | (obtain ⟨_, _, _, rfl, _⟩ := h; rfl) | (obtain ⟨_, _, _, _, rfl, _⟩ := h; rfl) | (obtain ⟨_, _, _, _, _, rfl, _⟩ := h; rfl) | (obtain ⟨_, _, _, _, _, _, rfl, _⟩ := h; rfl) | (obtain ⟨_, _, _, _, _, _, _, rfl, _⟩ := h; rfl) | (obtain ⟨_, _, _, _, _, _, _, _, rfl, _⟩ := h; rfl) | (obtain ⟨_, _, _, _, _, _, _, _, _, rfl, _⟩ := h; rfl) | (obtain ⟨_, _, _, _, _, _, _, _, _, _, rfl, _⟩ := h; rfl) | (obtain ⟨_, _, _, _, _, _, _, _, _, _, _, rfl, _⟩ := h; rfl) | (obtain ⟨_, _, _, _, _, _, _, _, _, _, _, _, rfl, _⟩ := h; rfl) | (obtain ⟨_, _, _, _, _, _, _, _, _, _, _, _, _, rfl, _⟩ := h; rfl) | (obtain ⟨_, _, _, _, _, _, _, _, _, _, _, _, _, _, rfl, _⟩ := h; rfl)) (pu_joined K (He.ga K "InvalidTree")), g_joined, F_joined.kp, F_joined.bindsN (ps := ["one", "other"]) fun _ _ _ _ _ _ us hl => match us, hl with | [_, _], _ => rfl, .nil⟩
  have C__law_great_right : CalG Pg w K mg base CX0 "_law_great_right" 613 ["_law_purse_here"] [] (sp__law_great_right) := ⟨_, fd__law_great_right, [], ok__law_great_right (k := 612) F__law_great_right T C__law_draw C__law_text C_joined C_is_balanced C__law_width C__law_even (by omega) (by omega) (by omega) (by omega) (by omega) (by omega) (fun vs H Q E h => by first | (obtain ⟨rfl, _⟩ := h; rfl) | (obtain ⟨_, rfl, _⟩ := h; rfl) | (obtain ⟨_, _, rfl, _⟩ := h; rfl) | (obtain ⟨_, _, _, rfl, _⟩ := h; rfl) | (obtain ⟨_, _, _, _, rfl, _⟩ := h; rfl) | (obtain ⟨_, _, _, _, _, rfl, _⟩ := h; rfl) | (obtain ⟨_, _, _, _, _, _, rfl, _⟩ := h; rfl) | (obtain ⟨_, _, _, _, _, _, _, rfl, _⟩ := h; rfl) | (obtain ⟨_, _, _, _, _, _, _, _, rfl, _⟩ := h; rfl) | (obtain ⟨_, _, _, _, _, _, _, _, _, rfl, _⟩ := h; rfl) | (obtain ⟨_, _, _, _, _, _, _, _, _, _, rfl, _⟩ := h; rfl) | (obtain ⟨_, _, _, _, _, _, _, _, _, _, _, rfl, _⟩ := h; rfl) | (obtain ⟨_, _, _, _, _, _, _, _, _, _, _, _, rfl, _⟩ := h; rfl) | (obtain ⟨_, _, _, _, _, _, _, _, _, _, _, _, _, rfl, _⟩ := h; rfl) | (obtain ⟨_, _, _, _, _, _, _, _, _, _, _, _, _, _, rfl, _⟩ := h; rfl)) (pu__law_great_right K (He.ga K "InvalidTree") (He.ga K "InvalidNumber") 305 (by decide)), g__law_great_right, F__law_great_right.kp, F__law_great_right.bindsN (ps := ["_law_purse_here"]) fun _ _ _ _ _ _ us hl => match us, hl with | [_], _ => rfl, .nil⟩
  have C__law_caught : CalG Pg w K mg base CX0 "_law_caught" 613 ["_law_door", "_law_first", "_law_second"] [] (sp__law_caught K 305) := ⟨_, fd__law_caught, [], ok__law_caught (k := 612) F__law_caught T C_is_balanced C_least_nodes g_TurnError X_InvalidNumber X_InvalidTree (by omega) (by omega) (fun vs H Q E h => by first | (obtain ⟨rfl, _⟩ := h; rfl) | (obtain ⟨_, rfl, _⟩ := h; rfl) | (obtain ⟨_, _, rfl, _⟩ := h; rfl) | (obtain ⟨_, _, _, rfl, _⟩ := h; rfl) | (obtain ⟨_, _, _, _, rfl, _⟩ := h; rfl) | (obtain ⟨_, _, _, _, _, rfl, _⟩ := h; rfl) | (obtain ⟨_, _, _, _, _, _, rfl, _⟩ := h; rfl) | (obtain ⟨_, _, _, _, _, _, _, rfl, _⟩ := h; rfl) | (obtain ⟨_, _, _, _, _, _, _, _, rfl, _⟩ := h; rfl) | (obtain ⟨_, _, _, _, _, _, _, _, _, rfl, _⟩ := h; rfl) | (obtain ⟨_, _, _, _, _, _, _, _, _, _, rfl, _⟩ := h; rfl) | (obtain ⟨_, _, _, _, _, _, _, _, _, _, _, rfl, _⟩ := h; rfl) | (obtain ⟨_, _, _, _, _, _, _, _, _, _, _, _, rfl, _⟩ := h; rfl) | (obtain ⟨_, _, _, _, _, _, _, _, _, _, _, _, _, rfl, _⟩ := h; rfl) | (obtain ⟨_, _, _, _, _, _, _, _, _, _, _, _, _, _, rfl, _⟩ := h; rfl)) (pu__law_caught K (He.ga K "TurnError") (He.ga K "InvalidTree") (He.ga K "InvalidNumber") 305 x1 y1 E_InvalidTree E_InvalidNumber z1 z2 z3 z4), g__law_caught, F__law_caught.kp, F__law_caught.bindsN (ps := ["_law_door", "_law_first", "_law_second"]) fun _ _ _ _ _ _ us hl => match us, hl with | [_, _, _], _ => rfl, .nil⟩
  have C__law_refused : CalG Pg w K mg base CX0 "_law_refused" 614 [] [] (sp__law_refused) := ⟨_, fd__law_refused, [], ok__law_refused (k := 613) F__law_refused T C__law_caught (by omega) (fun vs H Q E h => by first | (obtain ⟨rfl, _⟩ := h; rfl) | (obtain ⟨_, rfl, _⟩ := h; rfl) | (obtain ⟨_, _, rfl, _⟩ := h; rfl) | (obtain ⟨_, _, _, rfl, _⟩ := h; rfl) | (obtain ⟨_, _, _, _, rfl, _⟩ := h; rfl) | (obtain ⟨_, _, _, _, _, rfl, _⟩ := h; rfl) | (obtain ⟨_, _, _, _, _, _, rfl, _⟩ := h; rfl) | (obtain ⟨_, _, _, _, _, _, _, rfl, _⟩ := h; rfl) | (obtain ⟨_, _, _, _, _, _, _, _, rfl, _⟩ := h; rfl) | (obtain ⟨_, _, _, _, _, _, _, _, _, rfl, _⟩ := h; rfl) | (obtain ⟨_, _, _, _, _, _, _, _, _, _, rfl, _⟩ := h; rfl) | (obtain ⟨_, _, _, _, _, _, _, _, _, _, _, rfl, _⟩ := h; rfl) | (obtain ⟨_, _, _, _, _, _, _, _, _, _, _, _, rfl, _⟩ := h; rfl) | (obtain ⟨_, _, _, _, _, _, _, _, _, _, _, _, _, rfl, _⟩ := h; rfl) | (obtain ⟨_, _, _, _, _, _, _, _, _, _, _, _, _, _, rfl, _⟩ := h; rfl)) (pu__law_refused K 305 (by decide)), g__law_refused, F__law_refused.kp, F__law_refused.bindsN (ps := []) fun _ _ _ _ _ _ us hl => match us, hl with | [], _ => rfl, .nil⟩
  exact (ok_law (k := 614) F_law T C__law_purse C__law_draw C__law_built C__law_nest C__law_width C__law_right C_least_nodes C__law_text C_is_balanced C__law_least C__law_great_right C__law_refused (by omega) (by omega) (by omega) (by omega) (by omega) (by omega) (by omega) (by omega) (by omega) (by omega) (by omega) (by omega) (fun vs H Q E h => by first | (obtain ⟨rfl, _⟩ := h; rfl) | (obtain ⟨_, rfl, _⟩ := h; rfl) | (obtain ⟨_, _, rfl, _⟩ := h; rfl) | (obtain ⟨_, _, _, rfl, _⟩ := h; rfl) | (obtain ⟨_, _, _, _, rfl, _⟩ := h; rfl) | (obtain ⟨_, _, _, _, _, rfl, _⟩ := h; rfl) | (obtain ⟨_, _, _, _, _, _, rfl, _⟩ := h; rfl) | (obtain ⟨_, _, _, _, _, _, _, rfl, _⟩ := h; rfl) | (obtain ⟨_, _, _, _, _, _, _, _, rfl, _⟩ := h; rfl) | (obtain ⟨_, _, _, _, _, _, _, _, _, rfl, _⟩ := h; rfl) | (obtain ⟨_, _, _, _, _, _, _, _, _, _, rfl, _⟩ := h; rfl) | (obtain ⟨_, _, _, _, _, _, _, _, _, _, _, rfl, _⟩ := h; rfl) | (obtain ⟨_, _, _, _, _, _, _, _, _, _, _, _, rfl, _⟩ := h; rfl) | (obtain ⟨_, _, _, _, _, _, _, _, _, _, _, _, _, rfl, _⟩ := h; rfl) | (obtain ⟨_, _, _, _, _, _, _, _, _, _, _, _, _, _, rfl, _⟩ := h; rfl)) (pu_law K (He.ga K "InvalidTree") (He.ga K "InvalidNumber") 305 (by decide))).mono (by omega)
end Pf
open PySem PySem.W PySem.Calls PyProof.Rows
set_option maxHeartbeats 0 in
theorem PySem.Challenge.cw_treeturns_k50_balanced_trees_holds : PySem.Challenge.rw_treeturns_k50_balanced_trees.Holds := by
  w_on; o_law
  refine HandSHeadRun.head_any (r := OpenLaw.row PySem.Challenge.rw_treeturns_k50_balanced_trees) (q := view (OpenLaw.row PySem.Challenge.rw_treeturns_k50_balanced_trees).prog [40]) (H := Pf.hk) (ob := Pf.ob) (M := 6000) (loose := Pf.loose) (d := HandSHeadRun.topDef (OpenLaw.row PySem.Challenge.rw_treeturns_k50_balanced_trees).prog 40) (kwd := []) Pf.ob_eq
    (by kernel_rfl) (fun s => by kernel_rfl) Pf.run (by kernel_rfl) (by kernel_rfl) (by kernel_rfl) (by rfl) (by first | assumption | decide +kernel) (by decide +kernel) ⟨rfl, rfl, rfl, rfl, rfl, by decide +kernel⟩ ?hw ?hc
  case hw => w_witness2
  case hc =>
    refine M.walk_ofG (l := PySem.Challenge.rw_treeturns_k50_balanced_trees) (n := 63) (k := 660) (x := "_law_script") (CX := L2.CX0) rfl (by decide) (by kernel_rfl) ⟨rfl, by decide, by decide, rfl⟩ ?F (fun _ _ _ _ z => z)
    intro w mg fa h Y G hmg0
    obtain ⟨K, KX, c⟩ := Y
    have hmg : mg ("law" : PySem.Str) = some (.ref fa) := by
      have e : (HandSHeadRun.topDef (OpenLaw.row PySem.Challenge.rw_treeturns_k50_balanced_trees).prog 40).name = ("law" : PySem.Str) := by kernel_rfl
      rw [← e]
      exact hmg0
    obtain ⟨fd, hb, hF⟩ := Pf.facts (w := w) KX G hmg c
    exact ⟨K, fd, Pf.sp_law K, KX, hb, fun H a ns hl _ hS => ⟨a, ns, rfl, hS, fun _ => rfl⟩, hF⟩
