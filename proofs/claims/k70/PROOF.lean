import PyProof.Rows.All
import Wide.All
import OpenK.AllK
import Wide.FinOn
import KE.KStateDown
import HandS.ForMost
import HandS.ForExc
import HandS.Style
import HandS.Wide
import HandS.WideBits
import HandS.CallSlots
import HandS.Defaults
import HandS.Walk
import KE.KExcSuper
import KE.KExcIs
import HandS.ExcInit
import HandS.ExcSuper
import HandS.ExcField
import HandS.ExcIs
import HandS.ExcOwn
import HandS.Ends
import PyProof.ReprRoads
import HandS.Head0
import HandS.Head1
import HandS.Head2
import HandS.HeadEnd
import HandS.HeadHook1
import HandS.HeadHook2
import HandS.HeadHook3
import HandS.IsInst
import HandS.RaiseMore
import HandS.NoneIn
import PyProof.Rows.SortShellAny
import PyProof.ReprLen
import PyProof.StrLawsRepr
import PySem.Challenge.RW_treeturns_k70_all_shapes
set_option Elab.async false
set_option linter.all false
set_option maxRecDepth 100000
set_option maxHeartbeats 4000000
set_option exponentiation.threshold 4000
/-! M0: readings that reckon themselves (by cases on the values at hand), over the hand layer's judgements. -/
namespace M
open PySem PySem.Spec PyProof.Rows L2

/-! ### weakening -/
section
variable {X : Cx}
theorem pe_imp {e : Expr} {t t' : TE} (h : PE X e t) (w : ∀ σ H Q, t' σ H Q → t σ H Q) : PE X e t' := ⟨fun pins s σ H Q I q => h.run pins s σ H Q I (w σ H Q q)⟩
theorem pt_imp {e : Expr} {t t' : TT} (h : PT X e t) (w : ∀ σ H Q, t' σ H Q → t σ H Q) : PT X e t' := ⟨fun pins s σ H Q I q => h.run pins s σ H Q I (w σ H Q q)⟩
theorem ps_imp {e : Stmt} {t t' : TS} (h : PS X e t) (w : ∀ D σ H, t' D σ H → t D σ H) : PS X e t' := ⟨fun pins s σ H D I q => h.run pins s σ H D I (w D σ H q)⟩
theorem pg_imp {e : Expr} {t t' : TG} (h : PG X e t) (w : ∀ v σ H Q, t' v σ H Q → t v σ H Q) : PG X e t' := ⟨fun pins s σ H v u Q I r q => h.run pins s σ H v u Q I r (w v σ H Q q)⟩
theorem pgs_imp {e : List Expr} {t t' : TGs} (h : PGs X e t) (w : ∀ v σ H Q, t' v σ H Q → t v σ H Q) : PGs X e t' := ⟨fun pins s σ H v u Q I r q => h.run pins s σ H v u Q I r (w v σ H Q q)⟩
theorem opR_imp {f : Value → Value → Sem Value} {r r' : R2} (h : OpR X f r) (w : ∀ x y H Q, r' x y H Q → r x y H Q) : OpR X f r' := fun pins s σ H x y v u Q I rx ry q => h pins s σ H x y v u Q I rx ry (w x y H Q q)
theorem ixR_imp {r r' : R2} (h : IxR X r) (w : ∀ x y H Q, r' x y H Q → r x y H Q) : IxR X r' := fun value slice pins s σ H x y v u Q I rx ry q => h value slice pins s σ H x y v u Q I rx ry (w x y H Q q)
theorem slR_imp {r r' : V → Option Int → Option Int → Hp → VK → Prop} (h : SlR X r) (w : ∀ x l u H Q, r' x l u H Q → r x l u H Q) : SlR X r' := fun pins s σ H x v vl vu lo hi sl Q I rx hs pl pu q => h pins s σ H x v vl vu lo hi sl Q I rx hs pl pu (w _ _ _ _ _ q)
theorem callR_imp {f : Value} {r r' : List V → Hp → VK → Prop} (h : CallR X f r) (w : ∀ x H Q, r' x H Q → r x H Q) : CallR X f r' := fun pins s σ H xs us Q I r q => h pins s σ H xs us Q I r (w _ _ _ q)
end

/-! ### texts as lists of codes -/
def S (l : List Nat) : Str := ⟨l.toArray⟩
theorem S_cps (l : List Nat) : (S l).cps.toList = l := by simp [S]
theorem S_len (l : List Nat) : (S l).length = l.length := by simp [S, Str.length]
theorem S_app (a b : List Nat) : S a ++ S b = S (a ++ b) := by
  show (⟨a.toArray ++ b.toArray⟩ : Str) = ⟨(a ++ b).toArray⟩
  rw [← List.append_toArray]
theorem S_inj {a b : List Nat} : S a = S b ↔ a = b := by
  constructor
  · intro h
    have := congrArg (fun s : Str => s.cps.toList) h
    simpa [S] using this
  · rintro rfl; rfl
theorem S_of (z : Str) : S z.cps.toList = z := by
  cases z; simp [S]
theorem S_one (c : Nat) : (⟨#[c]⟩ : Str) = S [c] := rfl
theorem str_S (a b : List Nat) : (V.str (S a) = V.str (S b)) ↔ a = b := by
  rw [V.str.injEq, S_inj]

/-! ### slots -/
abbrev Sl := List (Option V)
def gt : Sl → Nat → Option V
  | [], _ => none
  | x :: _, 0 => x
  | _ :: r, n + 1 => gt r n
theorem gt_some : ∀ {σ : Sl} {i : Nat} {v : V}, gt σ i = some v → σ[i]? = some (some v)
  | [], _, _, h => by cases h
  | x :: _, 0, v, h => by
    have h' : x = some v := h
    rw [h']; rfl
  | _ :: r, n + 1, v, h => by
    have := gt_some (σ := r) (i := n) (v := v) h
    simpa using this
def mVar (i : Nat) : TE := fun σ H Q => match gt σ i with | some v => Q v H | none => False
def mC (v : V) : TE := fun _ H Q => Q v H
section
variable {X : Cx} {a b : Expr} {ta tb : TE} {pos : Pos}
theorem mv (i : Nat) {x : Str} {pos : Pos} (hN : X.N[i]? = some x := by rfl) (hv : Vis X.env.scope x := by first | exact Or.inl rfl | exact Or.inr (Or.inl rfl) | exact Or.inr (Or.inr rfl)) (hd : (x == ("__debug__" : Str)) = false := by decide)
    (hcd : (x == ("__classdict__" : Str)) = false := by decide) : PE X (.Name x pos) (mVar i) := pe_imp (pe_var hN hv hd hcd) fun σ H Q q => by
  unfold mVar at q
  cases e : gt σ i with
  | none => rw [e] at q; exact q.elim
  | some v => rw [e] at q; exact ⟨v, gt_some e, q⟩
theorem me_int {i j pos} : PE X (.Constant (.int i) j pos) (mC (.int i)) := pe_int
theorem me_bl {i j pos} : PE X (.Constant (.bool i) j pos) (mC (.bl i)) := pe_bl
theorem me_non {j pos} : PE X (.Constant .none j pos) (mC .non) := pe_non
theorem me_str (l : List Nat) {x j pos} (h : x = S l) : PE X (.Constant (.str x) j pos) (mC (.str (S l))) := by subst h; exact pe_str
theorem me_gint {x : Str} {i : Int} {t : Tok} {pos : Pos} (hg : Gl X x) (hm : X.mg x = some (.int i t)) (hd : (x == ("__debug__" : Str)) = false := by decide) : PE X (.Name x pos) (mC (.int i)) := pe_glob hg hm ⟨t, rfl⟩ hd
theorem me_gstr (l : List Nat) {x z : Str} {t : Tok} {pos : Pos} (hg : Gl X x) (hm : X.mg x = some (.str z t)) (h : z = S l) (hd : (x == ("__debug__" : Str)) = false := by decide) : PE X (.Name x pos) (mC (.str (S l))) := by
  subst h; exact pe_glob hg hm ⟨t, rfl⟩ hd

/-! ### operators -/
/-- a number below this many bits in all -/
def MulOk (i j : Int) : Prop := i.natAbs.log2 + j.natAbs.log2 < 1000000
theorem MulOk.of {i j : Int} (a b : Nat) (ha : i.natAbs < 2 ^ a) (hb : j.natAbs < 2 ^ b) (h0 : 0 < a := by decide) (h1 : 0 < b := by decide) (h : a + b ≤ 1000000 := by decide) : MulOk i j := wide_mul ha hb h0 h1 h
def DivOk (j : Int) : Prop := 0 < j ∧ j.natAbs.log2 < 9000
theorem DivOk.of {j : Int} (b : Nat) (h : 0 < j) (hb : j.natAbs < 2 ^ b) (h0 : 0 < b := by decide) (h9 : b ≤ 9000 := by decide) : DivOk j := wide_div (i := 0) h hb h0 h9
def mAdd : R2 := fun x y H Q => match x, y with
  | .int i, .int j => Q (.int (i + j)) H
  | .str a, .str b => a.length + b.length ≤ sizeLine ∧ Q (.str (a ++ b)) H
  | .ref a, .ref b => (∃ xs zs, H a = some (.lst xs) ∧ H b = some (.lst zs) ∧ xs.length + zs.length ≤ sizeLine ∧ ∀ p, H p = none → Q (.ref p) (upd H p (.lst (xs ++ zs))))
  | .int i, .bl k => Q (.int (i + b2i k)) H
  | _, _ => False
theorem op_addM : OpR X (binaryOp .Add) mAdd := by
  intro pins s σ H x y v u Q I rx ry q
  unfold mAdd at q
  split at q
  · exact op_add pins s σ H _ _ v u Q I rx ry ⟨_, _, rfl, rfl, q⟩
  · exact op_add_str pins s σ H _ _ v u Q I rx ry ⟨_, _, rfl, rfl, q⟩
  · obtain ⟨xs, zs, h1, h2, h3, h4⟩ := q
    exact op_cat pins s σ H _ _ v u Q I rx ry ⟨_, _, xs, zs, rfl, rfl, h1, h2, h3, h4⟩
  · exact op_add_ib pins s σ H _ _ v u Q I rx ry ⟨_, _, rfl, rfl, q⟩
  · exact q.elim
def mSub : R2 := fun x y H Q => match x, y with
  | .int i, .int j => Q (.int (i - j)) H
  | _, _ => False
theorem op_subM : OpR X (binaryOp .Sub) mSub := opR_imp op_sub fun x y H Q q => by
  unfold mSub at q
  split at q
  · exact ⟨_, _, rfl, rfl, q⟩
  · exact q.elim
def mMul : R2 := fun x y H Q => match x, y with
  | .int i, .int j => MulOk i j ∧ Q (.int (i * j)) H
  | .ref l, .int k => ∃ xs, H l = some (.lst xs) ∧ -(2 ^ 63) ≤ k ∧ k < 2 ^ 63 ∧ xs.length * k.toNat ≤ sizeLine ∧ ∀ p, H p = none → Q (.ref p) (upd H p (.lst (List.replicate k.toNat xs).flatten))
  | _, _ => False
theorem op_mulM : OpR X (binaryOp .Mult) mMul := by
  intro pins s σ H x y v u Q I rx ry q
  unfold mMul at q
  split at q
  · exact op_mulW pins s σ H _ _ v u Q I rx ry ⟨_, _, rfl, rfl, q⟩
  · obtain ⟨xs, h1, h2, h3, h4, h5⟩ := q
    exact op_rep pins s σ H _ _ v u Q I rx ry ⟨_, _, xs, rfl, rfl, h1, h2, h3, h4, h5⟩
  · exact q.elim
def mMod : R2 := fun x y H Q => match x, y with
  | .int i, .int j => 0 < j ∧ Q (.int (i % j)) H
  | _, _ => False
theorem op_modM : OpR X (binaryOp .Mod) mMod := opR_imp op_mod fun x y H Q q => by
  unfold mMod at q
  split at q
  · exact ⟨_, _, rfl, rfl, q⟩
  · exact q.elim
def mDiv : R2 := fun x y H Q => match x, y with
  | .int i, .int j => DivOk j ∧ Q (.int (i / j)) H
  | _, _ => False
theorem op_divM : OpR X (binaryOp .FloorDiv) mDiv := opR_imp op_fdivW fun x y H Q q => by
  unfold mDiv at q
  split at q
  · exact ⟨_, _, rfl, rfl, q⟩
  · exact q.elim
def mPow : R2 := fun x y H Q => match x, y with
  | .int i, .int j => (0 ≤ j ∧ (Builtin.Int.intBits i : Int) * j ≤ 2 ^ 27) ∧ Q (.int (i ^ j.toNat)) H
  | _, _ => False
theorem op_powM : OpR X (binaryOp .Pow) mPow := by
  intro pins s σ H x y v u Q I rx ry q
  unfold mPow at q
  split at q
  · obtain ⟨t, rfl⟩ := rx
    obtain ⟨t', rfl⟩ := ry
    exact pow_int q.1.1 q.1.2 ⟨.int _, H, I.tok _, ⟨_, rfl⟩, q.2⟩
  · exact q.elim

/-! ### comparisons -/
def mEqB (x y : V) : Option Bool := match x, y with
  | .int i, .int j => some (decide (i = j))
  | .str a, .str b => some (decide (a = b))
  | .bl a, .bl b => some (decide (a = b))
  | .non, .non => some true
  | .non, .int _ => some false
  | .non, .str _ => some false
  | .non, .bl _ => some false
  | .int _, .non => some false
  | .str _, .non => some false
  | .bl _, .non => some false
  | .int _, .str _ => some false
  | .str _, .int _ => some false
  | .bl _, .str _ => some false
  | .str _, .bl _ => some false
  | _, _ => none
theorem mEqB_ok {x y : V} {b : Bool} (h : mEqB x y = some b) : scal x y = true ∧ decide (x = y) = b := by
  unfold mEqB at h
  split at h <;> (try cases h) <;> refine ⟨rfl, ?_⟩ <;> simp
/-- == of data, one of both not deep -/
def rEqW (K : PySem.W.Frag) (neg : Bool) : R2 := fun x y H Q => ∃ d e, Dp K H x d ∧ Dp K H y e ∧ d.canLay0 = true ∧ e.canLay0 = true ∧ min d.depth e.depth ≤ 64 ∧ Q (.bl (if neg then !PyData.eqv d e else PyData.eqv d e)) H
theorem op_eqW (hu : X.A.units + 64 < cLine) : OpR X (compareOp .Eq) (rEqW X.K false) := by
  intro pins s σ H x y v u Q I rx ry h
  obtain ⟨d, e, hd, he, sd, se, hm, q⟩ := h
  obtain ⟨as, r1⟩ := Dp.reads I d x v hd rx
  obtain ⟨bs, r2⟩ := Dp.reads I e y u he ry
  exact SeqAt.compareEq_reads r1 r2 sd se (by omega) ⟨.bl _, H, I, rfl, q⟩
theorem op_neW (hu : X.A.units + 64 < cLine) : OpR X (compareOp .NotEq) (rEqW X.K true) := by
  intro pins s σ H x y v u Q I rx ry h
  obtain ⟨d, e, hd, he, sd, se, hm, q⟩ := h
  obtain ⟨as, r1⟩ := Dp.reads I d x v hd rx
  obtain ⟨bs, r2⟩ := Dp.reads I e y u he ry
  exact SeqAt.compareNe_reads r1 r2 sd se (by omega) ⟨.bl _, H, I, rfl, q⟩
def mEq (K : PySem.W.Frag) : R2 := fun x y H Q => match mEqB x y with
  | some b => Q (.bl b) H
  | none => rEqW K false x y H Q
def mNe (K : PySem.W.Frag) : R2 := fun x y H Q => match mEqB x y with
  | some b => Q (.bl (!b)) H
  | none => rEqW K true x y H Q
theorem op_eqM (hu : X.A.units + 64 < cLine) : OpR X (compareOp .Eq) (mEq X.K) := by
  intro pins s σ H x y v u Q I rx ry q
  unfold mEq at q
  split at q
  · rename_i b e
    obtain ⟨h1, h2⟩ := mEqB_ok e
    refine op_eq pins s σ H _ _ v u Q I rx ry ⟨h1, ?_⟩
    rw [h2]; exact q
  · exact op_eqW hu pins s σ H _ _ v u Q I rx ry q
theorem op_neM (hu : X.A.units + 64 < cLine) : OpR X (compareOp .NotEq) (mNe X.K) := by
  intro pins s σ H x y v u Q I rx ry q
  unfold mNe at q
  split at q
  · rename_i b e
    obtain ⟨h1, h2⟩ := mEqB_ok e
    refine op_ne pins s σ H _ _ v u Q I rx ry ⟨h1, ?_⟩
    rw [h2]; exact q
  · exact op_neW hu pins s σ H _ _ v u Q I rx ry q
def mCmp (p : Int → Int → Bool) : R2 := fun x y H Q => match x, y with
  | .int i, .int j => Q (.bl (p i j)) H
  | _, _ => False
theorem cmp_imp {p : Int → Int → Bool} {f : Value → Value → Sem Value} (h : OpR X f (rI0 fun i j => .bl (p i j))) : OpR X f (mCmp p) := opR_imp h fun x y H Q q => by
  unfold mCmp at q
  split at q
  · exact ⟨_, _, rfl, rfl, q⟩
  · exact q.elim
def mLt : R2 := mCmp fun i j => decide (i < j)
def mLe : R2 := mCmp fun i j => decide (i ≤ j)
def mGt : R2 := mCmp fun i j => decide (j < i)
def mGe : R2 := mCmp fun i j => decide (j ≤ i)
theorem op_ltM : OpR X (compareOp .Lt) mLt := cmp_imp op_lt
theorem op_leM : OpR X (compareOp .LtE) mLe := cmp_imp op_le
theorem op_gtM : OpR X (compareOp .Gt) mGt := cmp_imp op_gt
theorem op_geM : OpR X (compareOp .GtE) mGe := cmp_imp op_ge
/-- is None, is not None -/
def isN : V → Bool
  | .non => true
  | _ => false
theorem isN_eq (x : V) : decide (x = .non) = isN x := by cases x <;> simp [isN]
def mIsN : R2 := fun x y H Q => match y with
  | .non => Q (.bl (isN x)) H
  | _ => False
def mNotN : R2 := fun x y H Q => match y with
  | .non => Q (.bl (!isN x)) H
  | _ => False
theorem op_isNM : OpR X (compareOp .Is) mIsN := opR_imp op_isN fun x y H Q q => by
  unfold mIsN at q
  split at q
  · exact ⟨rfl, by rw [isN_eq]; exact q⟩
  · exact q.elim
theorem op_notNM : OpR X (compareOp .IsNot) mNotN := opR_imp op_notN fun x y H Q q => by
  unfold mNotN at q
  split at q
  · exact ⟨rfl, by rw [isN_eq]; exact q⟩
  · exact q.elim
/-- x in a list or tuple of flat things -/
def mInS (K : PySem.W.Frag) : R2 := fun x y H Q => rIn K false x y H Q
def mNinS (K : PySem.W.Frag) : R2 := fun x y H Q => rIn K true x y H Q
theorem op_inSM : OpR X (compareOp .In) (mInS X.K) := op_in_seq
theorem op_ninSM : OpR X (compareOp .NotIn) (mNinS X.K) := op_notIn_seq
/-- one sign in a text -/
def mInC : R2 := fun x y H Q => match x, y with
  | .str c, .str z => ∃ k, c = S [k] ∧ Q (.bl (decide (k ∈ z.cps.toList))) H
  | _, _ => False
theorem op_inCM : OpR X (compareOp .In) mInC := opR_imp op_in_sign fun x y H Q q => by
  unfold mInC at q
  split at q
  · obtain ⟨k, rfl, q⟩ := q
    exact ⟨k, _, rfl, rfl, q⟩
  · exact q.elim
def mNinC : R2 := fun x y H Q => match x, y with
  | .str c, .str z => ∃ k, c = S [k] ∧ Q (.bl (!decide (k ∈ z.cps.toList))) H
  | _, _ => False
theorem op_ninCM : OpR X (compareOp .NotIn) mNinC := opR_imp op_notIn_sign fun x y H Q q => by
  unfold mNinC at q
  split at q
  · obtain ⟨k, rfl, q⟩ := q
    exact ⟨k, _, rfl, rfl, q⟩
  · exact q.elim

/-! ### tests -/
def mTest (t : TE) : TT := fun σ H Q => t σ H fun x H' => match x with
  | .bl k => Q k H'
  | _ => False
def bX (Q : Bool → Hp → Prop) : VK := fun x H' => ∃ k, x = .bl k ∧ Q k H'
theorem bX_of {Q : Bool → Hp → Prop} {x : V} {H : Hp} (q : match x with | .bl k => Q k H | _ => False) : ∃ k, x = .bl k ∧ Q k H := by
  cases x with
  | bl k => exact ⟨k, rfl, q⟩
  | _ => exact q.elim
end
end M

namespace M
open PySem PySem.Spec PyProof.Rows L2

/-! ### a reading's closure: what it wants may be weaker than what is given -/
def cl (t : TE) : TE := fun σ H Q => ∃ Q' : VK, t σ H Q' ∧ ∀ v H', Q' v H' → Q v H'
def clT (t : TT) : TT := fun σ H Q => ∃ Q' : Bool → Hp → Prop, t σ H Q' ∧ ∀ v H', Q' v H' → Q v H'
def clA (t : TA) : TA := fun σ H Q => ∃ Q' : List V → Hp → Prop, t σ H Q' ∧ ∀ v H', Q' v H' → Q v H'
section
variable {X : Cx} {a b c : Expr} {ta tb tc : TE} {pos : Pos} {t u : TT}
theorem pe_cl (h : PE X a ta) : PE X a (cl ta) := ⟨fun pins s σ H Q I ⟨Q', q, w⟩ => thn (h.run pins s σ H Q' I q) fun _ _ ⟨v, H', I', r, z⟩ => ⟨v, H', I', r, w v H' z⟩⟩
theorem pt_cl (h : PT X a t) : PT X a (clT t) := ⟨fun pins s σ H Q I ⟨Q', q, w⟩ => thn (h.run pins s σ H Q' I q) fun _ _ ⟨H', I', z⟩ => ⟨H', I', w _ H' z⟩⟩
theorem pa_cl {es : List Expr} {t : TA} (h : PA X es t) : PA X es (clA t) := ⟨fun pos pins s σ H Q I ⟨Q', q, w⟩ => thn (h.run pos pins s σ H Q' I q) fun _ _ ⟨v, H', I', r, z⟩ => ⟨v, H', I', r, w v H' z⟩⟩
def clR (r : R2) : R2 := fun x y H Q => ∃ Q' : VK, r x y H Q' ∧ ∀ v H', Q' v H' → Q v H'
theorem opR_cl {f : Value → Value → Sem Value} {r : R2} (h : OpR X f r) : OpR X f (clR r) := fun pins s σ H x y v u Q I rx ry ⟨Q', q, w⟩ => thn (h pins s σ H x y v u Q' I rx ry q) fun _ _ ⟨v, H', I', r, z⟩ => ⟨v, H', I', r, w v H' z⟩

/-! ### tests -/
theorem mt_val (h : PE X a ta) (he : ∀ whole, isTrue a X.env whole = (do let v ← whole; standAt a.pos; holding [v] (truthy v)) := by intro _; rfl) : PT X a (mTest ta) :=
  pt_imp (pt_val (pe_cl h) he) fun σ H Q q => ⟨_, q, fun v H' z => bX_of z⟩
theorem mt_cmp {op : CmpOp} {r : R2} (ho : OpR X (compareOp op) r) (ha : PE X a ta) (hb : PE X b tb) (hm : behindInMarks op b = false) : PT X (.Compare a [op] [b] pos) (mTest (tOp r ta tb)) :=
  pt_imp (pt_cmpR (opR_cl ho) (pe_cl ha) (pe_cl hb) hm) fun σ H Q q => ⟨_, q, fun x H1 q1 => ⟨_, q1, fun y H2 q2 => ⟨_, q2, fun z H3 q3 => bX_of q3⟩⟩⟩
def mChain (r r' : R2) (ta tb tc : TE) : TE := fun σ H Q => ta σ H fun x H1 => tb σ H1 fun y H2 => r x y H2 fun z H3 => match z with
  | .bl true => tc σ H3 fun w H4 => r' y w H4 Q
  | .bl false => Q (.bl false) H3
  | _ => False
/-! and, or, not as values -/
def mAndV (ta tb : TE) : TE := fun σ H Q => ta σ H fun x H1 => match x with
  | .bl c => if c = true then tb σ H1 Q else Q (.bl false) H1
  | _ => False
def mOrV (ta tb : TE) : TE := fun σ H Q => ta σ H fun x H1 => match x with
  | .bl c => if c = true then Q (.bl true) H1 else tb σ H1 Q
  | _ => False
def mNotV (ta : TE) : TE := fun σ H Q => ta σ H fun x H1 => match x with
  | .bl c => Q (.bl (!c)) H1
  | _ => False
variable {rest : List Expr}
theorem me_and (ha : PE X a ta) (hb : PE X (.BoolOp .And (b :: rest) pos) tb) : PE X (.BoolOp .And (a :: b :: rest) pos) (mAndV ta tb) :=
  pe_imp (pe_and (pe_cl ha) hb) fun σ H Q q => ⟨_, q, fun x H1 z => by
    cases x with
    | bl c => exact ⟨c, rfl, z⟩
    | _ => exact z.elim⟩
theorem me_or (ha : PE X a ta) (hb : PE X (.BoolOp .Or (b :: rest) pos) tb) : PE X (.BoolOp .Or (a :: b :: rest) pos) (mOrV ta tb) :=
  pe_imp (pe_or (pe_cl ha) hb) fun σ H Q q => ⟨_, q, fun x H1 z => by
    cases x with
    | bl c => exact ⟨c, rfl, z⟩
    | _ => exact z.elim⟩
theorem me_not (ha : PE X a ta) : PE X (.UnaryOp .Not a pos) (mNotV ta) :=
  pe_imp (pe_not (pe_cl ha)) fun σ H Q q => ⟨_, q, fun x H1 z => by
    cases x with
    | bl c => exact ⟨c, rfl, z⟩
    | _ => exact z.elim⟩
def mUn (f : Int → Int) (ta : TE) : TE := fun σ H Q => ta σ H fun x H1 => match x with
  | .int i => Q (.int (f i)) H1
  | _ => False
theorem me_neg (ha : PE X a ta) : PE X (.UnaryOp .USub a pos) (mUn (fun i => -i) ta) :=
  pe_imp (pe_un un_neg (pe_cl ha)) fun σ H Q q => ⟨_, q, fun x H1 z => by
    cases x with
    | int i => exact ⟨i, rfl, z⟩
    | _ => exact z.elim⟩

/-! ### subscripts -/
def mIx (K : PySem.W.Frag) : R2 := fun x y H Q => match x, y with
  | .str z, .int i => z.length ≤ sizeLine ∧ ∃ c, atI z.cps.toList i = some c ∧ Q (.str (S [c])) H
  | .ref p, .int i => ∃ xs v, (SqL K H p xs ∨ SqT K H p xs) ∧ atI xs i = some v ∧ Q v H
  | _, _ => False
theorem ix_M : IxR X (mIx X.K) := ixR_imp ix_seq fun x y H Q q => by
  unfold mIx at q
  split at q
  · obtain ⟨h, c, e, q⟩ := q
    exact .inr (.inr ⟨_, _, c, rfl, rfl, h, e, q⟩)
  · obtain ⟨xs, v, h | h, e, q⟩ := q
    · exact .inl ⟨_, xs, _, v, rfl, rfl, h, e, q⟩
    · exact .inr (.inl ⟨_, xs, _, v, rfl, rfl, h, e, q⟩)
  · exact q.elim
theorem me_ix (ha : PE X a ta) (hb : PE X b tb) (hs : PlainIx b) : PE X (.Subscript a b pos) (tOp (mIx X.K) ta tb) := pe_ix ix_M ha hb hs
def mPart (t : TE) : TO := fun σ H Q => t σ H fun x H1 => match x with
  | .int i => Q (some i) H1
  | _ => False
theorem mo_some (h : PE X a ta) : PO X (some a) (mPart ta) := by
  have z := po_some (pe_cl h)
  exact ⟨fun pins s σ H Q I q => z.run pins s σ H Q I ⟨_, q, fun x H1 y => by
    cases x with
    | int i => exact ⟨i, rfl, y⟩
    | _ => exact y.elim⟩⟩
/-- l[lo:hi] -/
def cutL {α : Type} (l : List α) (lo hi : Option Int) : List α := (l.drop (HT.sIx l.length 0 lo)).take (HT.sIx l.length l.length hi - HT.sIx l.length 0 lo)
def mSl (K : PySem.W.Frag) : V → Option Int → Option Int → Hp → VK → Prop := fun x lo hi H Q => match x with
  | .str z => z.length ≤ sizeLine ∧ Q (.str (S (cutL z.cps.toList lo hi))) H
  | .ref a => (∃ xs, SqL K H a xs ∧ ∀ p, H p = none → Q (.ref p) (upd H p (.lst (cutL xs lo hi))))
  | _ => False
theorem sl_M : SlR X (mSl X.K) := slR_imp (sl_str.or sl_list) fun x lo hi H Q q => by
  unfold mSl at q
  split at q
  · exact .inl ⟨_, rfl, q.1, q.2⟩
  · obtain ⟨xs, h, q⟩ := q
    exact .inr ⟨_, xs, rfl, h, q⟩
  · exact q.elim
theorem me_slice {lo hi : Option Expr} {tl th : TO} {p2 : Pos} (ha : PE X a ta) (hl : PO X lo tl) (hh : PO X hi th) : PE X (.Subscript a (.Slice lo hi none p2) pos) (tSl (mSl X.K) ta tl th) := pe_slice sl_M ha hl hh
end

/-! ### statements -/
section
variable {X : Cx} {pos : Pos}
/-- (a, b, ..) = a tuple -/
def mgTup (K : PySem.W.Frag) (n : Nat) (t : TGs) : TG := fun v σ H Q => match v with
  | .ref a => ∃ xs, SqT K H a xs ∧ xs.length = n ∧ t xs σ H Q
  | _ => False
theorem mg_tup {es : List Expr} {k : Nat} {t : TGs} {n : Nat} (hc : X.calm = true) (h : PGs X es t)
    (hn : (assignEach es X.env).length = n := by rfl) (hst : (assignEach es X.env).findIdx? (·.1) = none := by rfl) : PG X (.Tuple es k pos) (mgTup X.K n t) :=
  pg_imp (pg_tup hc h hn hst) fun v σ H Q q => by
    unfold mgTup at q
    split at q
    · obtain ⟨xs, h, q⟩ := q
      exact ⟨_, xs, rfl, h, q⟩
    · exact q.elim
def mgNil : TGs := fun vs σ H Q => match vs with
  | [] => Q σ H
  | _ => False
def mgCons (t : TG) (u : TGs) : TGs := fun vs σ H Q => match vs with
  | v :: r => t v σ H fun σ' H' => u r σ' H' Q
  | [] => False
theorem mgs_nil : PGs X [] mgNil := pgs_imp pgs_nil fun vs σ H Q q => by
  cases vs with
  | nil => exact ⟨rfl, q⟩
  | cons _ _ => exact q.elim
theorem mgs_cons {e : Expr} {es : List Expr} {t : TG} {u : TGs} (h1 : PG X e t) (h2 : PGs X es u)
    (hs : (assignEach (e :: es) X.env).map (·.2) = assign e X.env :: (assignEach es X.env).map (·.2) := by rfl) : PGs X (e :: es) (mgCons t u) := pgs_imp (pgs_cons h1 h2 hs) fun vs σ H Q q => by
  cases vs with
  | nil => exact q.elim
  | cons v r => exact ⟨v, r, rfl, q⟩
/-- o[i] = v, a list -/
def mSetL : V → V → V → Hp → (Hp → Prop) → Prop := fun o i v H Q => match o, i with
  | .ref p, .int k => ∃ xs j, H p = some (.lst xs) ∧ ixN xs.length k = some j ∧ Q (upd H p (.lst (xs.set j v)))
  | _, _ => False
theorem set_listM : PSet X mSetL := fun pins s σ H o i v ov iv u Q I ro ri rv q => by
  unfold mSetL at q
  split at q
  · obtain ⟨xs, j, h1, h2, q⟩ := q
    exact set_list pins s σ H _ _ v ov iv u Q I ro ri rv ⟨_, xs, _, j, rfl, rfl, h1, h2, q⟩
  · exact q.elim
/-- a, b = x, y -/
def mPar (i j : Nat) (ta : TA) : TS := fun D σ H => ta σ H fun vs H1 => match vs with
  | [v, w] => D.nx ((σ.set i (some v)).set j (some w)) H1
  | _ => False
theorem ms_par {i j : Nat} {x y : Str} {a b : Expr} {ta : TA} {px py pt : Pos} {kt k2 pt2} (hc : X.calm = true) (hN : X.N.Nodup) (hi : X.N[i]? = some x) (hj : X.N[j]? = some y) (hij : i ≠ j)
    (hx : X.env.scope.names.lookup x = some .local) (hy : X.env.scope.names.lookup y = some .local) (ha : PA X [a, b] ta)
    (hw : swappedStores [.Tuple [.Name x px, .Name y py] kt pt] (.Tuple [a, b] k2 pt2) X.env = pure (some [x, y]))
    (hs : swapsWithSole [.Tuple [.Name x px, .Name y py] kt pt] (.Tuple [a, b] k2 pt2) pos.line X.env = pure false := by rfl) :
    PS X (.Assign [.Tuple [.Name x px, .Name y py] kt pt] (.Tuple [a, b] k2 pt2) pos) (mPar i j ta) :=
  ps_imp (ps_par hc hN hi hj hij hx hy (pa_cl ha) hw hs) fun D σ H q => ⟨_, q, fun vs H1 z => by
    split at z
    · exact ⟨_, _, rfl, z⟩
    · exact z.elim⟩
/-- name op= e -/
def mAug (i : Nat) (te : TE) (r : R2) : TS := fun D σ H => match gt σ i with
  | some x => te σ H fun y H1 => r x y H1 fun z H2 => D.nx (σ.set i (some z)) H2
  | none => False
theorem ms_aug {i : Nat} {x : Str} {e : Expr} {te : TE} {op : Operator} {r : R2} {pos' : Pos} (hN : X.N.Nodup) (hi : X.N[i]? = some x) (hx : Loc X.env.scope x) (he : PE X e te) (ho : OpR X (inplaceOp op) r) (hf : X.fn x = true ∨ X.env.scope.names.lookup x = some .local := by first | exact .inl rfl | exact .inr rfl | assumption) :
    PS X (.AugAssign (.Name x pos') op e pos) (mAug i te r) :=
  ps_imp (ps_aug hN hi hx he (ti := r) (fun pins s σ H x y v u Q I r1 r2 h => ho pins s σ H x y v u Q I r1 r2 h) hf) fun D σ H q => by
    unfold mAug at q
    split at q
    · rename_i x e
      exact ⟨x, gt_some e, q⟩
    · exact q.elim
def iAdd : R2 := fun x y H Q => match x, y with
  | .int i, .int j => Q (.int (i + j)) H
  | .str a, .str b => a.length + b.length ≤ sizeLine ∧ Q (.str (a ++ b)) H
  | .ref l, .ref b => ∃ xs zs, H l = some (.lst xs) ∧ H b = some (.lst zs) ∧ xs.length + zs.length ≤ sizeLine ∧ Q (.ref l) (upd H l (.lst (xs ++ zs)))
  | _, _ => False
theorem iop_addM : OpR X (inplaceOp .Add) iAdd := by
  intro pins s σ H x y v u Q I rx ry q
  unfold iAdd at q
  split at q
  · exact iop_add pins s σ H _ _ v u Q I rx ry ⟨_, _, rfl, rfl, q⟩
  · exact iop_add_str pins s σ H _ _ v u Q I rx ry ⟨_, _, rfl, rfl, q⟩
  · obtain ⟨xs, zs, h1, h2, h3, q⟩ := q
    exact iop_ext pins s σ H _ _ v u Q I rx ry ⟨_, _, xs, zs, rfl, rfl, h1, h2, h3, q⟩
  · exact q.elim
theorem iop_subM : OpR X (inplaceOp .Sub) mSub := opR_imp iop_sub fun x y H Q q => by
  unfold mSub at q
  split at q
  · exact ⟨_, _, rfl, rfl, q⟩
  · exact q.elim
end

/-! ### what is walked -/
inductive Src where
  | v (G : Hp → Prop) (L : List V)
  | p (G : Hp → Prop) (L : List (V × V))
def Feeds (J : It) : Src → Prop
  | .v G L => Walk J L.length G (YAt L)
  | .p G L => Walk J L.length G (YPair (fun i => L[i]?.map (·.1)) (fun i => L[i]?.map (·.2)))
abbrev MI := Sl → Hp → (Src → Hp → Prop) → Prop
def toTI (wi : MI) : TI := fun σ H R => ∃ P : Src → Hp → Prop, wi σ H P ∧ ∀ s H1 J, P s H1 → Feeds J s → R J H1
section
variable {X : Cx} {tg : Expr} {l e2 : Expr} {tl t2 : TE}
def mIter (K : PySem.W.Frag) (tl : TE) : MI := fun σ H P => tl σ H fun x H1 => match x with
  | .ref a => ∃ xs, (SqL K H1 a xs ∧ P (.v (fun H => SqL K H a xs) xs) H1) ∨ (SqT K H1 a xs ∧ P (.v (fun H => SqT K H a xs) xs) H1)
  | .str z => P (.v (fun _ => True) (z.cps.toList.map fun c => .str (S [c]))) H1
  | _ => False
/-- the walk of a value, by its rule -/
def ItR (X : Cx) (tg : Expr) (r : V → Hp → (It → Hp → Prop) → Prop) : Prop :=
  ∀ (pins : List (Addr × Obj)) (s : Shared) (σ : L2.St) (H : Hp) (x : V) (v : Value) (R : It → Hp → Prop), Inv X pins σ H s → RelV x v → r x H R → wpAny (model X.prog X.w) X.A (pyIter v) (PIE X pins σ tg R) X.xe s
theorem pi_of {r : V → Hp → (It → Hp → Prop) → Prop} (he : PE X l tl) (hr : ItR X tg r) : PI X tg l (fun σ H R => tl σ H fun x H1 => r x H1 R) :=
  ⟨fun pins s σ H R I h => thn (he.run pins s σ H _ I h) fun v s1 ⟨x, H1, I1, r1, q1⟩ => hr pins s1 σ H1 x v R I1 r1 q1⟩
theorem itr_list : ItR X tg (fun x H R => ∃ a, x = .ref a ∧ (∃ xs, SqL X.K H a xs) ∧ R (Itl X.K a) H) := by
  intro pins s1 σ H1 x v R I1 r1 q1
  obtain ⟨a, e, ⟨xs, hq⟩, q⟩ := q1
  subst e
  cases r1
  obtain ⟨its, rv, p, hz⟩ := I1.list hq
  refine wpAny_pyIter_list p.isList ?_
  refine ⟨s1.heap.objs.size, [s1.heap.objs.size], _, _, H1, rfl, I1.kept (t' := s1.toks) fun b o e => Heap.get?_push_of_some _ e, turn_list a _, ⟨_, Heap.get?_push_size _ rfl, rfl, rfl⟩, fun b hb => ?_, q⟩
  have e : b = s1.heap.objs.size := by simpa using hb
  subst e
  exact I1.fpOk (Nat.le_refl _) (I1.hok.fresh (Nat.le_refl _))
theorem itr_tup : ItR X tg (fun x H R => ∃ a, x = .ref a ∧ (∃ xs, SqT X.K H a xs) ∧ R (Itt X.K a) H) := by
  intro pins s1 σ H1 x v R I1 r1 q1
  obtain ⟨a, e, ⟨xs, hq⟩, q⟩ := q1
  subst e
  cases r1
  obtain ⟨its, rv, p, hz⟩ := I1.tuple hq
  refine wpAny_pyIter_tuple (show s1.heap.IsTuple a its.toArray from p) ?_
  refine ⟨s1.heap.objs.size, [s1.heap.objs.size], _, _, H1, rfl, I1.kept (t' := s1.toks) fun b o e => Heap.get?_push_of_some _ e, turn_tuple a _, ⟨_, Heap.get?_push_size _ rfl, rfl, rfl⟩, fun b hb => ?_, q⟩
  have e : b = s1.heap.objs.size := by simpa using hb
  subst e
  exact I1.fpOk (Nat.le_refl _) (I1.hok.fresh (Nat.le_refl _))
theorem itr_str : ItR X tg (fun x H R => ∃ z, x = .str z ∧ R (Its z) H) := by
  intro pins s1 σ H1 y v R I1 r1 q1
  obtain ⟨x, ex, q⟩ := q1
  subst ex
  obtain ⟨t, rfl⟩ := r1
  cases ha : x.cps.all (· < 128)
  · exact wpAny_pyIter_wide ha (pi_one (tk := s1.toks) I1 _ (turn_str _ x t "str_iterator" (.inr rfl)) ⟨_, Heap.get?_push_size _ rfl, rfl, rfl⟩ q)
  · exact wpAny_pyIter_ascii ha (pi_one (tk := s1.toks) I1 _ (turn_str _ x t "str_ascii_iterator" (.inl rfl)) ⟨_, Heap.get?_push_size _ rfl, rfl, rfl⟩ q)
theorem feeds_list {K : PySem.W.Frag} {a : Addr} {xs : List V} : Feeds (Itl K a) (.v (fun H => SqL K H a xs) xs) := walk_list
theorem feeds_tup {K : PySem.W.Frag} {a : Addr} {xs : List V} : Feeds (Itt K a) (.v (fun H => SqT K H a xs) xs) := walk_tup
theorem feeds_str {z : Str} : Feeds (Its z) (.v (fun _ => True) (z.cps.toList.map fun c => .str (S [c]))) := by
  have e : z.cps.size = (z.cps.toList.map fun c => V.str (S [c])).length := by simp
  have w := walk_str (z := z)
  rw [e] at w
  refine Walk.mono w (fun _ h => h) fun i H x H' _ _ ⟨h1, c, h2, h3⟩ => ⟨h1, ?_⟩
  rw [List.getElem?_map, Array.getElem?_toList, h2, h3]; rfl
theorem pi_iterM (he : PE X l tl) : PI X tg l (toTI (mIter X.K tl)) := by
  refine ⟨fun pins s σ H R I ⟨P, q, w⟩ => thn (he.run pins s σ H _ I q) fun v s1 ⟨x, H1, I1, r1, q1⟩ => ?_⟩
  cases x with
  | ref a =>
    obtain ⟨xs, h | h⟩ := q1
    · exact itr_list pins s1 σ H1 _ v R I1 r1 ⟨a, rfl, ⟨xs, h.1⟩, w _ _ _ h.2 feeds_list⟩
    · exact itr_tup pins s1 σ H1 _ v R I1 r1 ⟨a, rfl, ⟨xs, h.1⟩, w _ _ _ h.2 feeds_tup⟩
  | str z => exact itr_str pins s1 σ H1 _ v R I1 r1 ⟨z, rfl, w _ _ _ q1 feeds_str⟩
  | _ => exact q1.elim
theorem pi_imp {t t' : TI} (h : PI X tg l t) (w : ∀ σ H R, t' σ H R → t σ H R) : PI X tg l t' := ⟨fun pins s σ H R I q => h.run pins s σ H R I (w σ H R q)⟩
/-- range(n), range(a, b) -/
def upto (lo : Int) (n : Nat) : List V := (List.range n).map fun (i : Nat) => V.int (lo + (i : Int))
theorem upto_zero (lo : Int) : upto lo 0 = [] := rfl
theorem upto_succ (lo : Int) (n : Nat) : upto lo (n + 1) = .int lo :: upto (lo + 1) n := by
  unfold upto
  rw [List.range_succ_eq_map]
  simp only [List.map_cons, List.map_map]
  congr 1
  · simp
  · apply List.map_congr_left
    intro i _
    show V.int _ = V.int _
    congr 1
    simp
    omega
theorem feeds_range {lo : Int} {n : Nat} : Feeds (Itr lo n) (.v (fun _ => True) (upto lo n)) := by
  have e : n = (upto lo n).length := by simp [upto]
  have w := walk_range (lo := lo) (n := n)
  show Walk _ (upto lo n).length _ _
  rw [← e]
  refine Walk.mono w (fun _ h => h) fun i H x H' hi _ ⟨h1, h2⟩ => ⟨h1, ?_⟩
  unfold upto
  rw [List.getElem?_map, List.getElem?_range hi, h2]; rfl
def mRng1 (ta : TE) : MI := fun σ H P => ta σ H fun x H1 => match x with
  | .int j => (-(2 ^ 62) ≤ j ∧ j < 2 ^ 62) ∧ P (.v (fun _ => True) (upto 0 j.toNat)) H1
  | _ => False
def mRng2 (ta tb : TE) : MI := fun σ H P => ta σ H fun x H1 => tb σ H1 fun y H2 => match x, y with
  | .int i, .int j => (-(2 ^ 62) ≤ i ∧ i < 2 ^ 62 ∧ -(2 ^ 62) ≤ j ∧ j < 2 ^ 62) ∧ P (.v (fun _ => True) (upto i (j - i).toNat)) H2
  | _, _ => False
theorem pi_rng1M {a : Expr} {ta : TE} {p pos : Pos} (hg : Gl X "range") (hm : X.mg "range" = none) (ha : PE X a ta) (hs : starEach [a] X.env = [(false, eval a X.env)] := by rfl) : PI X tg (.Call (.Name "range" p) [a] [] pos) (toTI (mRng1 ta)) :=
  pi_imp (pi_range1 hg hm (pa_cons (pe_cl ha) pa_nil hs) hs) fun σ H R ⟨P, q, w⟩ => ⟨_, q, fun x H1 z => by
    cases x with
    | int j => exact ⟨j, rfl, z.1.1, z.1.2, w _ _ _ z.2 feeds_range⟩
    | _ => exact z.elim⟩
theorem pi_rng2M {a b : Expr} {ta tb : TE} {p pos : Pos} (hg : Gl X "range") (hm : X.mg "range" = none) (ha : PE X a ta) (hb : PE X b tb) (hs : starEach [a, b] X.env = [(false, eval a X.env), (false, eval b X.env)] := by rfl) (hs2 : starEach [b] X.env = [(false, eval b X.env)] := by rfl) :
    PI X tg (.Call (.Name "range" p) [a, b] [] pos) (toTI (mRng2 ta tb)) :=
  pi_imp (pi_range2 hg hm (pa_cons (pe_cl ha) (pa_cons (pe_cl hb) pa_nil hs2) (by rw [hs, hs2])) hs hs2) fun σ H R ⟨P, q, w⟩ => ⟨_, q, fun x H1 z => ⟨_, z, fun y H2 z2 => by
    split at z2
    · exact ⟨_, _, rfl, z2.1, w _ _ _ z2.2 feeds_range⟩
    · exact z2.elim⟩⟩
/-- enumerate(list) -/
def numd : Nat → List V → List (V × V)
  | _, [] => []
  | i, x :: r => (.int (i : Int), x) :: numd (i + 1) r
theorem numd_get : ∀ {k : Nat} {xs : List V} {i : Nat}, (numd k xs)[i]? = xs[i]?.map fun x => (V.int ((k + i : Nat) : Int), x)
  | _, [], _ => by simp [numd]
  | k, x :: r, 0 => by simp [numd]
  | k, x :: r, i + 1 => by
    have := numd_get (k := k + 1) (xs := r) (i := i)
    simp only [numd, List.getElem?_cons_succ, this]
    congr 1
    funext z
    congr 3
    omega
theorem numd_len : ∀ {k : Nat} {xs : List V}, (numd k xs).length = xs.length
  | _, [] => rfl
  | k, x :: r => by simp [numd, numd_len]
theorem feeds_enum {K : PySem.W.Frag} {a : Addr} {xs : List V} : Feeds (Ite K a) (.p (fun H => SqL K H a xs) (numd 0 xs)) := by
  show Walk _ (numd 0 xs).length _ _
  rw [numd_len]
  refine Walk.mono walk_enum (fun _ h => h) fun i H x H' _ _ ⟨T, y, z, h1, h2, h3, h4, h5⟩ => ⟨T, y, z, h1, h2, h3, ?_, ?_⟩
  · show (numd 0 xs)[i]?.map (·.1) = _
    have h5' : xs[i]? = some z := h5
    rw [numd_get, h5', ← h4]; simp
  · show (numd 0 xs)[i]?.map (·.2) = _
    have h5' : xs[i]? = some z := h5
    rw [numd_get, h5']; simp
def mEnum (K : PySem.W.Frag) (ta : TE) : MI := fun σ H P => ta σ H fun x H1 => match x with
  | .ref a => ∃ xs, SqL K H1 a xs ∧ P (.p (fun H => SqL K H a xs) (numd 0 xs)) H1
  | _ => False
theorem pi_enumM {e : Expr} {ta : TE} {p pos tpos : Pos} {elts : List Expr} {kk : Nat} (hg : Gl X "enumerate") (hm : X.mg "enumerate" = none) (ha : PE X e ta) (hs : starEach [e] X.env = [(false, eval e X.env)] := by rfl) :
    PI X (.Tuple elts kk tpos) (.Call (.Name "enumerate" p) [e] [] pos) (toTI (mEnum X.K ta)) :=
  pi_imp (pi_enum hg hm (pa_cons (pe_cl ha) pa_nil hs) hs) fun σ H R ⟨P, q, w⟩ => ⟨_, q, fun x H1 z => by
    cases x with
    | ref a => obtain ⟨xs, h, z⟩ := z; exact ⟨a, xs, rfl, h, w _ _ _ z feeds_enum⟩
    | _ => exact z.elim⟩
/-- zip(list, list) -/
theorem feeds_zip {K : PySem.W.Frag} {a b : Addr} {xs ys : List V} : Feeds (Itz K a b) (.p (fun H => SqL K H a xs ∧ SqL K H b ys) (xs.zip ys)) := by
  show Walk _ (xs.zip ys).length _ _
  rw [List.length_zip]
  refine Walk.mono (walk_zip rfl) (fun _ h => h) fun i H x H' _ _ ⟨T, y, z, h1, h2, h3, h4, h5⟩ => ⟨T, y, z, h1, h2, h3, ?_, ?_⟩
  · show (xs.zip ys)[i]?.map (·.1) = _
    have h4' : xs[i]? = some y := h4
    have h5' : ys[i]? = some z := h5
    rw [show (xs.zip ys)[i]? = some (y, z) from List.getElem?_zip_eq_some.mpr ⟨h4', h5'⟩]; rfl
  · show (xs.zip ys)[i]?.map (·.2) = _
    have h4' : xs[i]? = some y := h4
    have h5' : ys[i]? = some z := h5
    rw [show (xs.zip ys)[i]? = some (y, z) from List.getElem?_zip_eq_some.mpr ⟨h4', h5'⟩]; rfl
def mZip (K : PySem.W.Frag) (ta tb : TE) : MI := fun σ H P => ta σ H fun x H1 => tb σ H1 fun y H2 => match x, y with
  | .ref a, .ref b => ∃ xs ys, SqL K H2 a xs ∧ SqL K H2 b ys ∧ P (.p (fun H => SqL K H a xs ∧ SqL K H b ys) (xs.zip ys)) H2
  | _, _ => False
theorem pi_zipM {e e2 : Expr} {ta tb : TE} {p pos tpos : Pos} {elts : List Expr} {kk : Nat} (hg : Gl X "zip") (hm : X.mg "zip" = none) (ha : PE X e ta) (hb : PE X e2 tb)
    (hs : starEach [e, e2] X.env = (false, eval e X.env) :: starEach [e2] X.env := by rfl) (hs2 : starEach [e2] X.env = [(false, eval e2 X.env)] := by rfl) (hpl : (backTo pos (starEach [e2] X.env)).any (·.1) = false := by rfl) :
    PI X (.Tuple elts kk tpos) (.Call (.Name "zip" p) [e, e2] [] pos) (toTI (mZip X.K ta tb)) :=
  pi_imp (pi_zip hg hm (pa_cons (pe_cl ha) (pa_cons (pe_cl hb) pa_nil hs2) hs) hs hpl) fun σ H R ⟨P, q, w⟩ => ⟨_, q, fun x H1 z => ⟨_, z, fun y H2 z2 => by
    split at z2
    · obtain ⟨xs, ys, h1, h2, z2⟩ := z2
      exact ⟨_, _, xs, ys, rfl, h1, h2, w _ _ _ z2 feeds_zip⟩
    · exact z2.elim⟩⟩
end

/-! ### for -/
def fV (G : Hp → Prop) (g : TG) (tb : TS) (D : Ends) : List V → Sl → Hp → Prop
  | [], σ, H => G H ∧ D.nx σ H
  | x :: r, σ, H => G H ∧ g x σ H fun σ2 H2 => tb { D with nx := fV G g tb D r, ct := fV G g tb D r, bk := D.nx } σ2 H2
def fP (G : Hp → Prop) (g : TG) (tb : TS) (D : Ends) : List (V × V) → Sl → Hp → Prop
  | [], σ, H => G H ∧ D.nx σ H
  | x :: r, σ, H => G H ∧ ∀ T, H T = none → g (.ref T) σ (upd H T (.tup [x.1, x.2])) fun σ2 H2 => tb { D with nx := fP G g tb D r, ct := fP G g tb D r, bk := D.nx } σ2 H2
def mFor (wi : MI) (g : TG) (tb : TS) : TS := fun D σ H => wi σ H fun s H1 => match s with
  | .v G L => fV G g tb D L σ H1
  | .p G L => fP G g tb D L σ H1
theorem fV_G {G : Hp → Prop} {g : TG} {tb : TS} {D : Ends} {L : List V} {σ : Sl} {H : Hp} (h : fV G g tb D L σ H) : G H := by
  cases L <;> exact h.1
theorem fP_G {G : Hp → Prop} {g : TG} {tb : TS} {D : Ends} {L : List (V × V)} {σ : Sl} {H : Hp} (h : fP G g tb D L σ H) : G H := by
  cases L <;> exact h.1
theorem drop_at {α : Type} {L : List α} {i : Nat} {x : α} (h : L[i]? = some x) : L.drop i = x :: L.drop (i + 1) := by
  obtain ⟨hi, e⟩ := List.getElem?_eq_some_iff.mp h
  rw [← e]; exact List.drop_eq_getElem_cons hi
theorem ms_for {X : Cx} {tg iter : Expr} {body : List Stmt} {wi : MI} {g : TG} {tb : TS} {pos : Pos} (hp : PassesOwn (model X.prog X.w) X.A X.env X.xe) (hc : X.calm = true) (hi : PI X tg iter (toTI wi)) (hg : PG X tg g) (hb : PSs X body tb)
    (hs : ∀ x, foldedSetIterable iter X.env x = pure x := by intro _; rfl) : PS X (.For tg iter body [] pos) (mFor wi g tb) :=
  ps_imp (ps_for hp hc hi hg hb hs) fun D σ H q => ⟨_, q, fun s H1 J z f => by
    cases s with
    | v G L =>
      refine for_it f (fun i σ H => fV G g tb D (L.drop i) σ H) z (fun i σ H _ p => fV_G p) (fun i x σ H H' hi p y => ?_) (fun σ H p => ?_)
      · obtain ⟨e, hx⟩ := y
        subst e
        rw [drop_at hx] at p
        exact p.2
      · rw [List.drop_length] at p
        exact p.2
    | p G L =>
      refine for_it f (fun i σ H => fP G g tb D (L.drop i) σ H) z (fun i σ H _ p => fP_G p) (fun i x σ H H' hi p y => ?_) (fun σ H p => ?_)
      · obtain ⟨T, a, b, e1, e2, e3, e4, e5⟩ := y
        subst e1 e3
        have hx : L[i]? = some L[i] := List.getElem?_eq_getElem hi
        rw [drop_at hx] at p
        have q := p.2 T e2
        have e4' : L[i]?.map (·.1) = some a := e4
        have e5' : L[i]?.map (·.2) = some b := e5
        rw [hx] at e4' e5'
        cases e4'
        cases e5'
        exact q
      · rw [List.drop_length] at p
        exact p.2⟩
/-! ### comprehensions -/
def cV (G : Hp → Prop) (g : TG) (tt : TT) (te : TE) (vs : List Nat) (τ : Sl) (D : Addr) (Q : Hp → Prop) : List V → Hp → Prop
  | [], H => G H ∧ Q H
  | x :: r, H => G H ∧ g x τ H fun σ2 H2 => wipe σ2 vs = τ ∧ tt σ2 H2 fun b H3 => if b = true then te σ2 H3 fun y H4 => ∃ acc, H4 D = some (.lst acc) ∧ acc.length < sizeLine ∧ cV G g tt te vs τ D Q r (upd H4 D (.lst (acc ++ [y]))) else cV G g tt te vs τ D Q r H3
def cP (G : Hp → Prop) (g : TG) (tt : TT) (te : TE) (vs : List Nat) (τ : Sl) (D : Addr) (Q : Hp → Prop) : List (V × V) → Hp → Prop
  | [], H => G H ∧ Q H
  | x :: r, H => G H ∧ ∀ T, H T = none → g (.ref T) τ (upd H T (.tup [x.1, x.2])) fun σ2 H2 => wipe σ2 vs = τ ∧ tt σ2 H2 fun b H3 => if b = true then te σ2 H3 fun y H4 => ∃ acc, H4 D = some (.lst acc) ∧ acc.length < sizeLine ∧ cP G g tt te vs τ D Q r (upd H4 D (.lst (acc ++ [y]))) else cP G g tt te vs τ D Q r H3
def mLc (wi : MI) (g : TG) (tt : TT) (te : TE) (vs : List Nat) : TE := fun σ H Q => wi σ H fun s H1 => ∀ D, H1 D = none → match s with
  | .v G L => cV G g tt te vs (wipe σ vs) D (Q (.ref D)) L (upd H1 D (.lst []))
  | .p G L => cP G g tt te vs (wipe σ vs) D (Q (.ref D)) L (upd H1 D (.lst []))
theorem cV_G {G : Hp → Prop} {g : TG} {tt : TT} {te : TE} {vs : List Nat} {τ : Sl} {D : Addr} {Q : Hp → Prop} {L : List V} {H : Hp} (h : cV G g tt te vs τ D Q L H) : G H := by
  cases L <;> exact h.1
theorem cP_G {G : Hp → Prop} {g : TG} {tt : TT} {te : TE} {vs : List Nat} {τ : Sl} {D : Addr} {Q : Hp → Prop} {L : List (V × V)} {H : Hp} (h : cP G g tt te vs τ D Q L H) : G H := by
  cases L <;> exact h.1
theorem lc_toM {wi : MI} {g : TG} {tt : TT} {te : TE} {vs : List Nat} {σ : Sl} {H : Hp} {Q : VK} (q : mLc wi g tt te vs σ H Q) : tLc (toTI wi) g tt te vs σ H Q :=
  ⟨_, q, fun s H1 J z f D hD => by
    have z := z D hD
    cases s with
    | v G L =>
      refine lc_it f (fun i H => cV G g tt te vs (wipe σ vs) D (Q (.ref D)) (L.drop i) H) z (fun i H _ p => cV_G p) (fun i x H H' hi p y => ?_) (fun H p => ?_)
      · obtain ⟨e, hx⟩ := y
        subst e
        rw [drop_at hx] at p
        exact p.2
      · rw [List.drop_length] at p
        exact p.2
    | p G L =>
      refine lc_it f (fun i H => cP G g tt te vs (wipe σ vs) D (Q (.ref D)) (L.drop i) H) z (fun i H _ p => cP_G p) (fun i x H H' hi p y => ?_) (fun H p => ?_)
      · obtain ⟨T, a, b, e1, e2, e3, e4, e5⟩ := y
        subst e1 e3
        have hx : L[i]? = some L[i] := List.getElem?_eq_getElem hi
        rw [drop_at hx] at p
        have q := p.2 T e2
        have e4' : L[i]?.map (·.1) = some a := e4
        have e5' : L[i]?.map (·.2) = some b := e5
        rw [hx] at e4' e5'
        cases e4'
        cases e5'
        exact q
      · rw [List.drop_length] at p
        exact p.2⟩
section
variable {X : Cx}
theorem me_lc {elt tg iter : Expr} {ifs : List Expr} {scope : Scope} {own : List (Str × Nat)} {pos : Pos} {wi : MI} {g : TG} {tt : TT} {te : TE} (hc : X.calm = true) (hN : X.N.Nodup) (hi : PI X tg iter (toTI wi)) (ok : BlkOk X.N X.env.scope scope own)
    (hg : ∀ (s : Shared) (H : Hp) (C : Addr) (cl : List (Str × Addr)) (fp : List Addr), PG (X.blk s H scope (compEnvC scope cl C X.env) fp) tg g) (ht : ∀ (s : Shared) (H : Hp) (C : Addr) (cl : List (Str × Addr)) (fp : List Addr), PTs (X.blk s H scope (compEnvC scope cl C X.env) fp) ifs tt)
    (he : ∀ (s : Shared) (H : Hp) (C : Addr) (cl : List (Str × Addr)) (fp : List Addr), PE (X.blk s H scope (compEnvC scope cl C X.env) fp) elt te) (hs : ∀ x, foldedSetIterable iter X.env x = pure x := by intro _; rfl) :
    PE X (.ListComp elt [⟨tg, iter, ifs, 0⟩] scope pos) (mLc wi g tt te (own.map (·.2))) := pe_imp (pe_lc hc hN hi ok hg ht he hs) fun σ H Q q => lc_toM q
theorem ms_setLc {i : Nat} {y : Str} {py : Pos} {elt tg iter : Expr} {ifs : List Expr} {scope : Scope} {own : List (Str × Nat)} {pos spos : Pos} {wi : MI} {g : TG} {tt : TT} {te : TE} (hc : X.calm = true) (hN : X.N.Nodup) (hy : X.N[i]? = some y) (hyl : X.env.scope.names.lookup y = some .local)
    (hsw : swapsWith (.ListComp elt [⟨tg, iter, ifs, 0⟩] scope pos) (some (.Name y py)) spos.line X.env = pure true) (hi : PI X tg iter (toTI wi)) (ok : BlkOk X.N X.env.scope scope own)
    (hg : ∀ (s : Shared) (H : Hp) (C : Addr) (cl : List (Str × Addr)) (fp : List Addr), PG (X.blk s H scope (compEnvC scope cl C X.env) fp) tg g) (ht : ∀ (s : Shared) (H : Hp) (C : Addr) (cl : List (Str × Addr)) (fp : List Addr), PTs (X.blk s H scope (compEnvC scope cl C X.env) fp) ifs tt)
    (he : ∀ (s : Shared) (H : Hp) (C : Addr) (cl : List (Str × Addr)) (fp : List Addr), PE (X.blk s H scope (compEnvC scope cl C X.env) fp) elt te) (hs : ∀ x, foldedSetIterable iter X.env x = pure x := by intro _; rfl) :
    PS X (.Assign [.Name y py] (.ListComp elt [⟨tg, iter, ifs, 0⟩] scope pos) spos) (tAsg (mLc wi g tt te (own.map (·.2))) (gName i)) := ps_imp (ps_setLc hc hN hy hyl hsw hi ok hg ht he hs) fun D σ H q => lc_toM (Q := fun x H1 => gName i x σ H1 D.nx) q
end
/-! ### while -/
def whW (c : TT) (tb : TS) (D : Ends) : Nat → Sl → Hp → Prop
  | 0, _, _ => False
  | n + 1, σ, H => c σ H fun b H1 => if b = true then tb { D with nx := whW c tb D n, ct := whW c tb D n, bk := D.nx } σ H1 else D.nx σ H1
def mWhile (c : TT) (tb : TS) : TS := fun D σ H => ∃ n, whW c tb D n σ H
theorem ms_while {X : Cx} {c : Expr} {body : List Stmt} {tc : TT} {tb : TS} {pos : Pos} (hp : PassesOwn (model X.prog X.w) X.A X.env X.xe) (hc : PT X c tc) (hb : PSs X body tb) : PS X (.While c body [] pos) (mWhile tc tb) :=
  ps_imp (ps_while hp (pt_cl hc) hb) fun D σ H ⟨n, q⟩ => ⟨fun m σ H => whW tc tb D m σ H, ⟨n, q⟩, fun m σ H w => by
    cases m with
    | zero => exact w.elim
    | succ k =>
      refine ⟨_, w, fun b H1 z => ?_⟩
      cases b with
      | true => exact ⟨_, fun σ' H' y => ⟨k, Nat.lt_succ_self _, y⟩, z⟩
      | false => exact z⟩
end M

namespace M
open PySem PySem.Spec PyProof.Rows L2

/-! ### built-in functions -/
section
variable {X : Cx}
def mLen (K : PySem.W.Frag) : List V → Hp → VK → Prop := fun xs H Q => match xs with
  | [.str z] => z.length ≤ sizeLine ∧ Q (.int z.length) H
  | [.ref p] => ∃ ys, (SqL K H p ys ∨ SqT K H p ys) ∧ Q (.int ys.length) H
  | _ => False
theorem call_lenM : CallR X (.builtin "len") (mLen X.K) := callR_imp (call_len_seq.or call_len_str) fun xs H Q q => by
  unfold mLen at q
  split at q
  · exact .inr ⟨_, rfl, q⟩
  · obtain ⟨ys, h, q⟩ := q
    exact .inl ⟨_, ys, rfl, h, q⟩
  · exact q.elim
def mInt : List V → Hp → VK → Prop := fun xs H Q => match xs with
  | [.int i] => Q (.int i) H
  | [.bl k] => Q (.int (if k then 1 else 0)) H
  | _ => False
theorem call_intM : CallR X (.type "int") mInt := callR_imp call_int1 fun xs H Q q => by
  unfold mInt at q
  split at q
  · exact .inl ⟨_, rfl, q⟩
  · exact .inr ⟨_, rfl, q⟩
  · exact q.elim
def mStr : List V → Hp → VK → Prop := fun xs H Q => match xs with
  | [.str i] => Q (.str i) H
  | _ => False
theorem call_strM : CallR X (.type "str") mStr := callR_imp SkE.call_str_str fun xs H Q q => by
  unfold mStr at q
  split at q
  · exact ⟨_, rfl, q⟩
  · exact q.elim
def mMax : List V → Hp → VK → Prop := fun xs H Q => match xs with
  | [.int i, .int j] => Q (.int (max i j)) H
  | _ => False
theorem call_maxM (hc : X.calm = true) : CallR X (.builtin "max") mMax := callR_imp (call_max2 hc) fun xs H Q q => by
  unfold mMax at q
  split at q
  · rename_i i j
    refine ⟨i, j, rfl, ?_⟩
    have e : max i j = if j > i then j else i := by split <;> omega
    rw [← e]; exact q
  · exact q.elim
def mMin : List V → Hp → VK → Prop := fun xs H Q => match xs with
  | [.int i, .int j] => Q (.int (min i j)) H
  | _ => False
theorem call_minM (hc : X.calm = true) : CallR X (.builtin "min") mMin := callR_imp (call_min2 hc) fun xs H Q q => by
  unfold mMin at q
  split at q
  · rename_i i j
    refine ⟨i, j, rfl, ?_⟩
    have e : min i j = if j < i then j else i := by split <;> omega
    rw [← e]; exact q
  · exact q.elim
def mAbs : List V → Hp → VK → Prop := fun xs H Q => match xs with
  | [.int i] => Q (.int (i.natAbs : Int)) H
  | _ => False
theorem call_absM : CallR X (.builtin "abs") mAbs := callR_imp call_abs fun xs H Q q => by
  unfold mAbs at q
  split at q
  · rename_i i
    refine ⟨i, rfl, ?_⟩
    have e : (i.natAbs : Int) = if i < 0 then -i else i := by split <;> omega
    rw [← e]; exact q
  · exact q.elim
def mSum (K : PySem.W.Frag) : List V → Hp → VK → Prop := fun xs H Q => match xs with
  | [.ref a] => ∃ ns : List Int, SqL K H a (ns.map V.int) ∧ Q (.int ns.sum) H
  | _ => False
theorem call_sumM (hc : X.calm = true) : CallR X (.builtin "sum") (mSum X.K) := callR_imp (cr_sum hc) fun xs H Q q => by
  unfold mSum at q
  split at q
  · obtain ⟨ns, h, q⟩ := q
    exact ⟨_, ns, rfl, h, q⟩
  · exact q.elim
def mMaxL (K : PySem.W.Frag) : List V → Hp → VK → Prop := fun xs H Q => match xs with
  | [.ref a] => ∃ ns : List Int, SqL K H a (ns.map V.int) ∧ 0 < ns.length ∧ ∀ m, m ∈ ns → (∀ y, y ∈ ns → y ≤ m) → Q (.int m) H
  | _ => False
theorem call_maxLM (hc : X.calm = true) : CallR X (.builtin "max") (mMaxL X.K) := callR_imp (cr_max hc) fun xs H Q q => by
  unfold mMaxL at q
  split at q
  · obtain ⟨ns, h, q⟩ := q
    exact ⟨_, ns, rfl, h, q⟩
  · exact q.elim
def mMinL (K : PySem.W.Frag) : List V → Hp → VK → Prop := fun xs H Q => match xs with
  | [.ref a] => ∃ ns : List Int, SqL K H a (ns.map V.int) ∧ 0 < ns.length ∧ ∀ m, m ∈ ns → (∀ y, y ∈ ns → m ≤ y) → Q (.int m) H
  | _ => False
theorem call_minLM (hc : X.calm = true) : CallR X (.builtin "min") (mMinL X.K) := callR_imp (cr_min hc) fun xs H Q q => by
  unfold mMinL at q
  split at q
  · obtain ⟨ns, h, q⟩ := q
    exact ⟨_, ns, rfl, h, q⟩
  · exact q.elim
def mList (K : PySem.W.Frag) : List V → Hp → VK → Prop := fun xs H Q => match xs with
  | [.ref p] => ∃ ys, (SqL K H p ys ∨ SqT K H p ys) ∧ ∀ l, H l = none → Q (.ref l) (upd H l (.lst ys))
  | _ => False
theorem call_listM : CallR X (.type "list") (mList X.K) := callR_imp call_list_of fun xs H Q q => by
  unfold mList at q
  split at q
  · obtain ⟨ys, h, q⟩ := q
    exact ⟨_, ys, rfl, h, q⟩
  · exact q.elim
/-! isinstance(x, T) -/
def tyN : V → Option String
  | .str _ => some "str"
  | .int _ => some "int"
  | .bl _ => some "bool"
  | .non => some "NoneType"
  | _ => none
def mIsi (K : PySem.W.Frag) : List V → Hp → VK → Prop := fun xs H Q => match xs with
  | [x, .ty T] => match tyN x with
    | some n => (match kitB n T with
      | some b => Q (.bl b) H
      | none => False)
    | none => ∃ t b, TyX K H x t ∧ PySem.W.kitOne K t (.type T) = some b ∧ Q (.bl b) H
  | [x, .ref C] => ∃ t b, TyX K H x t ∧ PySem.W.kitOne K t (.ref C) = some b ∧ Q (.bl b) H
  | _ => False
theorem tyN_ok {K : PySem.W.Frag} {H : Hp} {x : V} {n : String} (h : tyN x = some n) : TyX K H x (.type n) := by
  cases x with
  | str z => cases h; exact .base (.str z)
  | int z => cases h; exact .base (.int z)
  | bl z => cases h; exact .base (.bl z)
  | non => cases h; exact .base .non
  | _ => cases h
theorem call_isiM : CallR X (.builtin "isinstance") (mIsi X.K) := callR_imp call_isi fun xs H Q q => by
  unfold mIsi at q
  split at q
  · rename_i x T
    cases e : tyN x with
    | some n =>
      rw [e] at q
      cases e2 : kitB n T with
      | none => simp only [e2] at q
      | some b => simp only [e2] at q; exact ⟨x, .ty T, _, _, b, rfl, .ty T, tyN_ok e, kit_ty e2, q⟩
    | none =>
      rw [e] at q
      obtain ⟨t, b, h1, h2, q⟩ := q
      exact ⟨x, .ty T, t, _, b, rfl, .ty T, h1, h2, q⟩
  · obtain ⟨t, b, h1, h2, q⟩ := q
    exact ⟨_, _, t, _, b, rfl, .own _, h1, h2, q⟩
  · exact q.elim
theorem kb1 : kitB "str" "str" = some true := by decide +kernel
theorem kb2 : kitB "str" "int" = some false := by decide +kernel
theorem kb3 : kitB "str" "bool" = some false := by decide +kernel
theorem kb4 : kitB "str" "list" = some false := by decide +kernel
theorem kb5 : kitB "str" "tuple" = some false := by decide +kernel
theorem kb6 : kitB "int" "str" = some false := by decide +kernel
theorem kb7 : kitB "int" "int" = some true := by decide +kernel
theorem kb8 : kitB "int" "bool" = some false := by decide +kernel
theorem kb9 : kitB "int" "list" = some false := by decide +kernel
theorem kb10 : kitB "int" "tuple" = some false := by decide +kernel
theorem kb11 : kitB "bool" "str" = some false := by decide +kernel
theorem kb12 : kitB "bool" "int" = some true := by decide +kernel
theorem kb13 : kitB "bool" "bool" = some true := by decide +kernel
theorem kb14 : kitB "bool" "list" = some false := by decide +kernel
theorem kb15 : kitB "bool" "tuple" = some false := by decide +kernel
theorem kb16 : kitB "NoneType" "str" = some false := by decide +kernel
theorem kb17 : kitB "NoneType" "int" = some false := by decide +kernel
theorem kb18 : kitB "NoneType" "bool" = some false := by decide +kernel
theorem kb19 : kitB "NoneType" "list" = some false := by decide +kernel
theorem kb20 : kitB "NoneType" "tuple" = some false := by decide +kernel
theorem tyX_list {K : PySem.W.Frag} {H : Hp} {a : Addr} {xs : List V} (h : SqL K H a xs) : TyX K H (.ref a) (.type "list") := by
  rcases h with h | ⟨o, its, n, h, c, _⟩
  · rcases h with h | ⟨o, h⟩
    · exact .base (.lst h)
    · exact .base (.frz h)
  · exact .kList h c
theorem tyX_tup {K : PySem.W.Frag} {H : Hp} {a : Addr} {xs : List V} (h : SqT K H a xs) : TyX K H (.ref a) (.type "tuple") := by
  rcases h with h | ⟨o, its, n, h, c, _⟩
  · rcases h with h | ⟨o, h⟩
    · exact .base (.tup h)
    · exact .fTuple h
  · exact .kTuple h c
theorem ki_list {K : PySem.W.Frag} : PySem.W.kitOne K (.type "list") (.type "str") = some false ∧ PySem.W.kitOne K (.type "list") (.type "int") = some false ∧ PySem.W.kitOne K (.type "list") (.type "bool") = some false ∧ PySem.W.kitOne K (.type "list") (.type "list") = some true ∧ PySem.W.kitOne K (.type "list") (.type "tuple") = some false :=
  ⟨kit_ty (by decide +kernel), kit_ty (by decide +kernel), kit_ty (by decide +kernel), kit_ty (by decide +kernel), kit_ty (by decide +kernel)⟩
theorem ki_tup {K : PySem.W.Frag} : PySem.W.kitOne K (.type "tuple") (.type "str") = some false ∧ PySem.W.kitOne K (.type "tuple") (.type "int") = some false ∧ PySem.W.kitOne K (.type "tuple") (.type "bool") = some false ∧ PySem.W.kitOne K (.type "tuple") (.type "list") = some false ∧ PySem.W.kitOne K (.type "tuple") (.type "tuple") = some true :=
  ⟨kit_ty (by decide +kernel), kit_ty (by decide +kernel), kit_ty (by decide +kernel), kit_ty (by decide +kernel), kit_ty (by decide +kernel)⟩
theorem ki_dict {K : PySem.W.Frag} : PySem.W.kitOne K (.type "dict") (.type "str") = some false ∧ PySem.W.kitOne K (.type "dict") (.type "int") = some false ∧ PySem.W.kitOne K (.type "dict") (.type "bool") = some false ∧ PySem.W.kitOne K (.type "dict") (.type "list") = some false ∧ PySem.W.kitOne K (.type "dict") (.type "tuple") = some false :=
  ⟨kit_ty (by decide +kernel), kit_ty (by decide +kernel), kit_ty (by decide +kernel), kit_ty (by decide +kernel), kit_ty (by decide +kernel)⟩
/-- a built-in class as a value -/
theorem me_ty {x : Str} (T : String) {pos : Pos} (hg : Gl X x) (hm : X.mg x = none) (hv : bootBuiltins x = some (.type T)) (hn : x ≠ "__name__" := by decide) (hd : (x == ("__debug__" : Str)) = false := by decide) : PE X (.Name x pos) (mC (.ty T)) := pe_bltn hg hm hv rfl hn hd
end

/-! ### methods of texts and lists -/
section
variable {X : Cx} {o e : Expr} {to te : TE} {apos pos : Pos}
def mBits (to : TE) : TE := fun σ H Q => to σ H fun x H1 => match x with
  | .int i => Q (.int (Builtin.Int.intBits i : Nat)) H1
  | _ => False
theorem me_bits (ho : PE X o to) (hbase : attributeBase o "bit_length" X.env (eval o X.env) = eval o X.env := by rfl) (hline : (apos.endLine == pos.line) = true := by rfl) : PE X (.Call (.Attribute o "bit_length" apos) [] [] pos) (mBits to) :=
  pe_imp (pe_bits (pe_cl ho) hbase hline) fun σ H Q q => ⟨_, q, fun x H1 z => by
    cases x with
    | int i => exact ⟨i, rfl, z⟩
    | _ => exact z.elim⟩
def mStrM (r : Str → V → Hp → VK → Prop) (to te : TE) : TE := fun σ H Q => to σ H fun x H1 => match x with
  | .str a => te σ H1 fun y H2 => r a y H2 Q
  | _ => False
theorem me_m1 {id : String} {name : Str} {r : Str → V → Hp → VK → Prop} (slot : Slot "str" name id) (ty : typeOf (.builtin id) = pure (.type "method_descriptor")) (rule : MtR X id (fun x xs H Q => ∃ a y, x = .str a ∧ xs = [y] ∧ r a y H Q)) (ho : PE X o to) (he : PE X e te)
    (hs : starEach [e] X.env = [(false, eval e X.env)] := by rfl) (hbase : attributeBase o name X.env (eval o X.env) = eval o X.env := by rfl) (hline : (apos.endLine == pos.line) = true := by rfl) :
    PE X (.Call (.Attribute o name apos) [e] [] pos) (mStrM r to te) :=
  pe_imp (pe_m1 slot ty rule (pe_cl ho) (pe_cl he) hs hbase hline) fun σ H Q q => ⟨_, q, fun x H1 z => by
    cases x with
    | str a => exact ⟨⟨a, rfl⟩, _, z, fun y H2 w => ⟨a, y, rfl, rfl, w⟩⟩
    | _ => exact z.elim⟩
def mJoin (K : PySem.W.Frag) : Str → V → Hp → VK → Prop := fun a y H Q => match y with
  | .ref p => ∃ ys : List Str, (SqL K H p (ys.map V.str) ∨ SqT K H p (ys.map V.str)) ∧ (ys.map (·.length)).sum + ys.length * a.length ≤ 16777216 ∧ Q (.str (Txt.join a ys)) H
  | _ => False
theorem mt_joinM : MtR X "str.join" (fun x xs H Q => ∃ a y, x = .str a ∧ xs = [y] ∧ mJoin X.K a y H Q) := fun pins s σ H x xs v us Q I rx rs ⟨a, y, e1, e2, q⟩ => by
  unfold mJoin at q
  split at q
  · obtain ⟨ys, h1, h2, q⟩ := q
    exact mt_join pins s σ H x xs v us Q I rx rs ⟨a, _, ys, e1, e2, h1, h2, q⟩
  · exact q.elim
def mCount : Str → V → Hp → VK → Prop := fun a y H Q => match y with
  | .str b => Q (.int (Txt.count a b)) H
  | _ => False
theorem mt_countM : MtR X "str.count" (fun x xs H Q => ∃ a y, x = .str a ∧ xs = [y] ∧ mCount a y H Q) := fun pins s σ H x xs v us Q I rx rs ⟨a, y, e1, e2, q⟩ => by
  unfold mCount at q
  split at q
  · exact mt_count pins s σ H x xs v us Q I rx rs ⟨a, _, e1, e2, q⟩
  · exact q.elim
def mSplit : Str → V → Hp → VK → Prop := fun a y H Q => match y with
  | .str b => (b.length == 0) = false ∧ a.length + 2 ≤ sizeLine ∧ ∀ p, H p = none → Q (.ref p) (upd H p (.lst ((Txt.split a b).map V.str)))
  | _ => False
theorem mt_splitM : MtR X "str.split" (fun x xs H Q => ∃ a y, x = .str a ∧ xs = [y] ∧ mSplit a y H Q) := fun pins s σ H x xs v us Q I rx rs ⟨a, y, e1, e2, q⟩ => by
  unfold mSplit at q
  split at q
  · exact mt_split pins s σ H x xs v us Q I rx rs ⟨a, _, e1, e2, q.1, q.2.1, q.2.2⟩
  · exact q.elim
theorem me_join (ho : PE X o to) (he : PE X e te) (hs : starEach [e] X.env = [(false, eval e X.env)] := by rfl) (hbase : attributeBase o "join" X.env (eval o X.env) = eval o X.env := by rfl) (hline : (apos.endLine == pos.line) = true := by rfl) :
    PE X (.Call (.Attribute o "join" apos) [e] [] pos) (mStrM (mJoin X.K) to te) := me_m1 PySem.F.slot_str_join PySem.F.type_str_join mt_joinM ho he hs hbase hline
theorem me_count (ho : PE X o to) (he : PE X e te) (hs : starEach [e] X.env = [(false, eval e X.env)] := by rfl) (hbase : attributeBase o "count" X.env (eval o X.env) = eval o X.env := by rfl) (hline : (apos.endLine == pos.line) = true := by rfl) :
    PE X (.Call (.Attribute o "count" apos) [e] [] pos) (mStrM mCount to te) := me_m1 PySem.F.slot_str_count PySem.F.type_str_count mt_countM ho he hs hbase hline
theorem me_split (ho : PE X o to) (he : PE X e te) (hs : starEach [e] X.env = [(false, eval e X.env)] := by rfl) (hbase : attributeBase o "split" X.env (eval o X.env) = eval o X.env := by rfl) (hline : (apos.endLine == pos.line) = true := by rfl) :
    PE X (.Call (.Attribute o "split" apos) [e] [] pos) (mStrM mSplit to te) := me_m1 PySem.F.slot_str_split PySem.F.type_str_split mt_splitM ho he hs hbase hline
/-- a list's method: the receiver a list that stands in H -/
def mLstM (r : Addr → List V → List V → Hp → VK → Prop) (to : TE) (t : TA) : TE := fun σ H Q => to σ H fun x H1 => match x with
  | .ref l => (∃ ys, H1 l = some (.lst ys)) ∧ t σ H1 fun vs H2 => ∃ xs, H2 l = some (.lst xs) ∧ r l xs vs H2 Q
  | _ => False
def mApp : Addr → List V → List V → Hp → VK → Prop := fun l xs vs H Q => match vs with
  | [y] => xs.length < sizeLine ∧ Q .non (upd H l (.lst (xs ++ [y])))
  | _ => False
def mPop : Addr → List V → List V → Hp → VK → Prop := fun l xs vs H Q => match vs with
  | [] => ∃ y, xs.getLast? = some y ∧ Q y (upd H l (.lst xs.dropLast))
  | _ => False
def mClear : Addr → List V → List V → Hp → VK → Prop := fun l xs vs H Q => match vs with
  | [] => Q .non (upd H l (.lst []))
  | _ => False
theorem me_append (ho : PE X o to) (he : PE X e te) (hbase : attributeBase o "append" X.env (eval o X.env) = eval o X.env := by rfl)
    (hfew : ((backTo pos (starEach [e] X.env)).all (fun x => !x.1) && (backToKw pos (keywordEach [] X.env)).all (fun x => x.1.isSome) && decide (([e] : List Expr).length + ([] : List Keyword).length + (if ([] : List Keyword).isEmpty then 0 else 1) < 30)) = true := by rfl)
    (hline : (apos.endLine == pos.line) = true := by rfl) (hs : starEach [e] X.env = (false, eval e X.env) :: starEach [] X.env := by rfl) (hplain : (backTo pos (starEach [] X.env)).any (·.1) = false := by rfl) :
    PE X (.Call (.Attribute o "append" apos) [e] [] pos) (mLstM mApp to (tCons te tNil)) :=
  pe_imp (pe_bm PySem.F.plainAttrs_list PySem.F.slot_list_append PySem.F.type_list_append mt_append (pe_cl ho) (pa_cons (pe_cl he) pa_nil hs) hbase hfew hline hs hplain) fun σ H Q q => ⟨_, q, fun x H1 z => by
    cases x with
    | ref l =>
      obtain ⟨⟨ys, h⟩, z⟩ := z
      exact ⟨.inl ⟨rfl, _, SqL.of h⟩, _, z, fun y H2 w => by
        obtain ⟨xs, h2, w⟩ := w
        exact ⟨l, xs, y, rfl, rfl, h2, w.1, w.2⟩⟩
    | _ => exact z.elim⟩
theorem last_at {α : Type} (xs : List α) : xs[xs.length - 1]? = xs.getLast? := by
  rw [List.getLast?_eq_getElem?]
theorem me_pop (ho : PE X o to) (hbase : attributeBase o "pop" X.env (eval o X.env) = eval o X.env := by rfl) (hline : (apos.endLine == pos.line) = true := by rfl) : PE X (.Call (.Attribute o "pop" apos) [] [] pos) (mLstM mPop to tNil) :=
  pe_imp (pe_bm0 PySem.F.plainAttrs_list PySem.F.slot_list_pop PySem.F.type_list_pop mt_pop (pe_cl ho) hbase hline) fun σ H Q q => ⟨_, q, fun x H1 z => by
    cases x with
    | ref l =>
      obtain ⟨⟨ys, h⟩, xs, h2, y, h3, z⟩ := z
      exact ⟨.inl ⟨rfl, _, SqL.of h⟩, l, xs, y, rfl, rfl, h2, by rw [last_at]; exact h3, z⟩
    | _ => exact z.elim⟩
theorem me_clear (ho : PE X o to) (hbase : attributeBase o "clear" X.env (eval o X.env) = eval o X.env := by rfl) (hline : (apos.endLine == pos.line) = true := by rfl) : PE X (.Call (.Attribute o "clear" apos) [] [] pos) (mLstM mClear to tNil) :=
  pe_imp (pe_bm0 PySem.F.plainAttrs_list PySem.F.slot_list_clear PySem.F.type_list_clear mt_clear (pe_cl ho) hbase hline) fun σ H Q q => ⟨_, q, fun x H1 z => by
    cases x with
    | ref l =>
      obtain ⟨⟨ys, h⟩, xs, h2, z⟩ := z
      exact ⟨.inl ⟨rfl, _, SqL.of h⟩, l, xs, rfl, rfl, h2, z⟩
    | _ => exact z.elim⟩
def mRev (K : PySem.W.Frag) (te : TE) : TE := fun σ H Q => te σ H fun x H1 => match x with
  | .ref a => ∃ xs, SqL K H1 a xs ∧ ∀ p, H1 p = none → Q (.ref p) (upd H1 p (.lst xs.reverse))
  | _ => False
theorem me_revL {k : Nat} {p1 p2 p3 pos : Pos} (he : PE X e te) : PE X (.Subscript e (.Slice none none (some (.UnaryOp .USub (.Constant (.int 1) k p1) p2)) p3) pos) (mRev X.K te) :=
  pe_imp (pe_revL (pe_cl he)) fun σ H Q q => ⟨_, q, fun x H1 z => by
    cases x with
    | ref a => obtain ⟨xs, h, z⟩ := z; exact ⟨a, xs, rfl, h, z⟩
    | _ => exact z.elim⟩
end

/-! ### heaps -/
/-- what stands at the addresses other than those of m stays -/
def Fm (m : List Addr) (H H' : Hp) : Prop := ∀ a o, a ∉ m → H a = some o → H' a = some o
abbrev Ex (H H' : Hp) : Prop := ∀ a o, H a = some o → H' a = some o
theorem Ex.refl (H : Hp) : Ex H H := fun _ _ h => h
theorem Ex.trans {H H1 H2 : Hp} (a : Ex H H1) (b : Ex H1 H2) : Ex H H2 := fun x o h => b x o (a x o h)
theorem Ex.new {H : Hp} {p : Addr} {o : HO} (h : H p = none) : Ex H (upd H p o) := fun a u e => by
  rw [upd_ne (ne_of_none e h)]; exact e
theorem Ex.push {H H' : Hp} {p : Addr} {o : HO} (e : Ex H H') (h : H' p = none) : Ex H (upd H' p o) := e.trans (Ex.new h)
/-- an object that H does not know may change -/
theorem Ex.mut {H H' : Hp} {p : Addr} {o : HO} (e : Ex H H') (h : H p = none) : Ex H (upd H' p o) := fun a u ha => by
  rw [upd_ne (ne_of_none ha h)]; exact e a u ha
theorem Ex.free {H H' : Hp} {p : Addr} (e : Ex H H') (h : H' p = none) : H p = none := by
  cases h1 : H p with
  | none => rfl
  | some o => rw [e p o h1] at h; cases h
theorem ex_rd {H H' : Hp} {a : Addr} {u : HO} (e : Ex H H') (h : Rd H a u) : Rd H' a u := by
  rcases h with h | ⟨o, h⟩
  · exact .inl (e a _ h)
  · exact .inr ⟨o, e a _ h⟩
theorem Ex.L {K : PySem.W.Frag} {H H' : Hp} {a : Addr} {xs : List V} (e : Ex H H') (h : SqL K H a xs) : SqL K H' a xs := by
  rcases h with h | h
  · exact .inl (ex_rd e h)
  · exact .inr h
theorem Ex.T {K : PySem.W.Frag} {H H' : Hp} {a : Addr} {xs : List V} (e : Ex H H') (h : SqT K H a xs) : SqT K H' a xs := by
  rcases h with h | h
  · exact .inl (ex_rd e h)
  · exact .inr h
theorem sz_of {n : Nat} (h : n ≤ 10000000) : n ≤ sizeLine := Nat.le_trans h (by decide)
theorem sz_lt {n : Nat} (h : n < 10000000) : n < sizeLine := Nat.lt_of_lt_of_le h (by decide)
end M

namespace M
open PySem PySem.Spec PyProof.Rows L2

/-! ### more of tests and assignments -/
section
variable {X : Cx} {a b c : Expr} {ta tb tc : TE} {pos : Pos}
/-- is None, is True, is False -/
def mIs : R2 := fun x y H Q => match y with
  | .non => Q (.bl (isN x)) H
  | .bl k => (match x with
    | .bl j => Q (.bl (decide (j = k))) H
    | _ => False)
  | _ => False
def mNot : R2 := fun x y H Q => match y with
  | .non => Q (.bl (!isN x)) H
  | .bl k => (match x with
    | .bl j => Q (.bl (!decide (j = k))) H
    | _ => False)
  | _ => False
theorem op_isM : OpR X (compareOp .Is) mIs := opR_imp (op_isN.or op_isBl) fun x y H Q q => by
  unfold mIs at q
  split at q
  · exact .inl ⟨rfl, by rw [isN_eq]; exact q⟩
  · split at q
    · exact .inr ⟨_, _, rfl, rfl, q⟩
    · exact q.elim
  · exact q.elim
theorem op_notM : OpR X (compareOp .IsNot) mNot := opR_imp (op_notN.or op_notBl) fun x y H Q q => by
  unfold mNot at q
  split at q
  · exact .inl ⟨rfl, by rw [isN_eq]; exact q⟩
  · split at q
    · exact .inr ⟨_, _, rfl, rfl, q⟩
    · exact q.elim
  · exact q.elim
/-- a < b <= c -/
theorem chain_cl {r r' : R2} {σ : Sl} {H : Hp} {Q : VK} (q : mChain r r' ta tb tc σ H Q) : tChain (clR r) r' (cl ta) (cl tb) tc σ H Q :=
  ⟨_, q, fun x H1 q1 => ⟨_, q1, fun y H2 q2 => ⟨_, q2, fun z H3 q3 => by
    cases z with
    | bl k => cases k <;> exact ⟨_, rfl, q3⟩
    | _ => exact q3.elim⟩⟩⟩
theorem me_chain {op op' : CmpOp} {r r' : R2} (ho : OpR X (compareOp op) r) (ho' : OpR X (compareOp op') r') (ha : PE X a ta) (hb : PE X b tb) (hc : PE X c tc)
    (hm : lastMarks [op, op'] [b, c] = false := by with_unfolding_all rfl) : PE X (.Compare a [op, op'] [b, c] pos) (mChain r r' ta tb tc) :=
  pe_imp (pe_chain (opR_cl ho) ho' (pe_cl ha) (pe_cl hb) hc hm) fun σ H Q q => chain_cl q
def mTestC (r r' : R2) (ta tb tc : TE) : TT := fun σ H Q => mChain r r' ta tb tc σ H fun x H' => match x with
  | .bl k => Q k H'
  | _ => False
theorem mt_chain {op op' : CmpOp} {r r' : R2} (ho : OpR X (compareOp op) r) (ho' : OpR X (compareOp op') r') (ha : PE X a ta) (hb : PE X b tb) (hc : PE X c tc)
    (hm : lastMarks [op, op'] [b, c] = false := by with_unfolding_all rfl) : PT X (.Compare a [op, op'] [b, c] pos) (mTest (mChain r r' ta tb tc)) :=
  pt_imp (pt_chain (opR_cl ho) (opR_cl ho') (pe_cl ha) (pe_cl hb) (pe_cl hc) hm) fun σ H Q q => ⟨_, q, fun x H1 q1 => ⟨_, q1, fun y H2 q2 => ⟨_, q2, fun z H3 q3 => by
    cases z with
    | bl k =>
      cases k with
      | true => exact ⟨true, rfl, _, q3, fun w H4 q4 => ⟨_, q4, fun v H5 q5 => bX_of q5⟩⟩
      | false => exact ⟨false, rfl, false, rfl, q3⟩
    | _ => exact q3.elim⟩⟩⟩
/-- a, b, c = x, y, z -/
def mPar3 (i j l : Nat) (ta : TA) : TS := fun D σ H => ta σ H fun vs H1 => match vs with
  | [u, v, w] => D.nx (((σ.set i (some u)).set j (some v)).set l (some w)) H1
  | _ => False
theorem ms_par3 {i j l : Nat} {x y z : Str} {a b c : Expr} {ta : TA} {px py pz pt pos : Pos} {kt k2 pt2} (hc : X.calm = true) (hN : X.N.Nodup) (hi : X.N[i]? = some x) (hj : X.N[j]? = some y) (hl : X.N[l]? = some z) (hij : i ≠ j) (hil : i ≠ l) (hjl : j ≠ l)
    (hx : X.env.scope.names.lookup x = some .local) (hy : X.env.scope.names.lookup y = some .local) (hz : X.env.scope.names.lookup z = some .local) (ha : PA X [a, b, c] ta)
    (hw : swappedStores [.Tuple [.Name x px, .Name y py, .Name z pz] kt pt] (.Tuple [a, b, c] k2 pt2) X.env = pure (some [x, y, z]))
    (hs : swapsWithSole [.Tuple [.Name x px, .Name y py, .Name z pz] kt pt] (.Tuple [a, b, c] k2 pt2) pos.line X.env = pure false := by rfl) :
    PS X (.Assign [.Tuple [.Name x px, .Name y py, .Name z pz] kt pt] (.Tuple [a, b, c] k2 pt2) pos) (mPar3 i j l ta) :=
  ps_imp (ps_par3 hc hN hi hj hl hij hil hjl hx hy hz (pa_cl ha) hw hs) fun D σ H q => ⟨_, q, fun vs H1 z => by
    split at z
    · exact ⟨_, _, _, rfl, z⟩
    · exact z.elim⟩
end

/-! ### a def that may be called: where it stands, its promise -/
structure Cal (P : Program) (w : World) (K : PySem.W.Frag) (mg : Str → Option Value) (base : Heap) (CX : CXT) (x : Str) (k : Nat) (ps : List Str) (dvs : List V) (sp : Sp) : Prop where
  ex : ∃ f fd ds, FnOk P w K mg base CX k f fd ps sp ∧ mg x = some (.ref f) ∧ PySem.W.keepIn K (.ref f) = true ∧ Binds K fd ps ds ∧ Vals dvs ds
section
variable {X : Cx} {CX : CXT} {k : Nat} {ps : List Str} {sp : Sp} {dvs : List V} {E : XK} {x : Str} {p pos : Pos} {e : Expr} {es : List Expr} {t : TA}
theorem me_call (C : Cal X.prog X.w X.K X.mg X.base CX x k ps dvs sp) (hr : Room k X.A) (hg : Gl X x) (hx : Passes CX X E) (ha : PA X (e :: es) t) (hdb : (x == ("__debug__" : Str)) = false := by decide)
    (he : starEach (e :: es) X.env = (false, eval e X.env) :: starEach es X.env := by rfl) (hpl : (backTo pos (starEach es X.env)).any (·.1) = false := by rfl) : PE X (.Call (.Name x p) (e :: es) [] pos) (tCall sp dvs E t) := by
  obtain ⟨f, fd, ds, F, hm, hk, hb, hd⟩ := C.ex
  exact pe_call F hr hg hm hk hb hd hx ha hdb he hpl
theorem me_call0 (C : Cal X.prog X.w X.K X.mg X.base CX x k ps dvs sp) (hr : Room k X.A) (hg : Gl X x) (hx : Passes CX X E) (hdb : (x == ("__debug__" : Str)) = false := by decide) : PE X (.Call (.Name x p) [] [] pos) (tCall sp dvs E tNil) := by
  obtain ⟨f, fd, ds, F, hm, hk, hb, hd⟩ := C.ex
  first
    | exact pe_call0 F hr hg hm hk hb hd hx hdb
    | exact pe_call0 F hr hg hm hk hb hd hx
end
section
variable {P : Program} {w : World} {K : PySem.W.Frag} {mg : Str → Option Value} {base : Heap} {CX : CXT} {x : Str} {k j : Nat} {ps : List Str} {dvs : List V} {sp sp' : Sp}
theorem Cal.mono (C : Cal P w K mg base CX x k ps dvs sp) (h : k ≤ j) : Cal P w K mg base CX x j ps dvs sp := by
  obtain ⟨f, fd, ds, F, r⟩ := C.ex
  exact ⟨f, fd, ds, F.mono h, r⟩
theorem Cal.imp (C : Cal P w K mg base CX x k ps dvs sp) (h : ∀ vs H Q E, sp' vs H Q E → sp vs H Q E) : Cal P w K mg base CX x k ps dvs sp' := by
  obtain ⟨f, fd, ds, F, r⟩ := C.ex
  exact ⟨f, fd, ds, F.imp h, r⟩
/-- nothing can be asked with no call left -/
theorem FnOk.zero {f : Addr} {fd : FuncData} {sp : Sp} (no : ∀ vs H Q E, ¬ sp vs H Q E) : FnOk P w K mg base CX 0 f fd ps sp :=
  ⟨fun vs H Q E h => absurd h (no vs H Q E), fun A outer s H args us vs Q E _ _ _ _ h => absurd h (no vs H Q E)⟩
end
end M

namespace M
open PySem PySem.Spec PyProof.Rows L2

/-! ### x in (a, b, ..), written -/
def flB : V → Bool
  | .str _ => true
  | .int _ => true
  | .bl _ => true
  | .non => true
  | _ => false
theorem flB_ok {v : V} (h : flB v = true) : flatV v = true := by cases v <;> first | rfl | cases h
def mInT (neg : Bool) (te : TE) (ta : TA) : TE := fun σ H Q => te σ H fun x H1 => ta σ H1 fun ys H2 => flB x = true ∧ ys.all flB = true ∧ ys.length ≤ sizeLine ∧ ∀ p, H2 p = none → Q (.bl (if neg then !inV x ys else inV x ys)) (upd H2 p (.tup ys))
def mInTT (neg : Bool) (te : TE) (ta : TA) : TT := fun σ H Q => te σ H fun x H1 => ta σ H1 fun ys H2 => flB x = true ∧ ys.all flB = true ∧ ys.length ≤ sizeLine ∧ ∀ p, H2 p = none → Q (if neg then !inV x ys else inV x ys) (upd H2 p (.tup ys))
section
variable {X : Cx} {a : Expr} {es : List Expr} {ta : TE} {t : TA} {pos ps : Pos} {kk : Nat}
theorem all_fl {ys : List V} (h : ys.all flB = true) : ys.all flatV = true := by
  rw [List.all_eq_true] at *
  exact fun v hv => flB_ok (h v hv)
theorem inT_at {K : PySem.W.Frag} {x : V} {ys : List V} {H2 : Hp} {p : Addr} {neg : Bool} {Q : VK} (h1 : flB x = true) (h2 : ys.all flB = true) (q : Q (.bl (if neg then !inV x ys else inV x ys)) (upd H2 p (.tup ys))) : rIn K neg x (.ref p) (upd H2 p (.tup ys)) Q :=
  ⟨p, ys, rfl, .inr (SqT.of upd_same), flB_ok h1, all_fl h2, q⟩
theorem me_inT (ha : PE X a ta) (hb : PA X es t) (hm : behindInMarks .In (.Tuple es kk ps) = false := by rfl) : PE X (.Compare a [.In] [.Tuple es kk ps] pos) (mInT false ta t) :=
  pe_imp (pe_cmpR op_in_seq (pe_cl ha) (pe_tup (pa_cl hb)) hm) fun σ H Q q => ⟨_, q, fun x H1 q1 => ⟨_, q1, fun ys H2 ⟨h1, h2, h3, q2⟩ => ⟨h3, fun p hp => inT_at h1 h2 (q2 p hp)⟩⟩⟩
theorem me_ninT (ha : PE X a ta) (hb : PA X es t) (hm : behindInMarks .NotIn (.Tuple es kk ps) = false := by rfl) : PE X (.Compare a [.NotIn] [.Tuple es kk ps] pos) (mInT true ta t) :=
  pe_imp (pe_cmpR op_notIn_seq (pe_cl ha) (pe_tup (pa_cl hb)) hm) fun σ H Q q => ⟨_, q, fun x H1 q1 => ⟨_, q1, fun ys H2 ⟨h1, h2, h3, q2⟩ => ⟨h3, fun p hp => inT_at h1 h2 (q2 p hp)⟩⟩⟩
theorem mt_inT (ha : PE X a ta) (hb : PA X es t) (hm : behindInMarks .In (.Tuple es kk ps) = false := by rfl) : PT X (.Compare a [.In] [.Tuple es kk ps] pos) (mInTT false ta t) :=
  pt_imp (pt_cmpR op_in_seq (pe_cl ha) (pe_tup (pa_cl hb)) hm) fun σ H Q q => ⟨_, q, fun x H1 q1 => ⟨_, q1, fun ys H2 ⟨h1, h2, h3, q2⟩ => ⟨h3, fun p hp => inT_at h1 h2 ⟨_, rfl, q2 p hp⟩⟩⟩⟩
theorem mt_ninT (ha : PE X a ta) (hb : PA X es t) (hm : behindInMarks .NotIn (.Tuple es kk ps) = false := by rfl) : PT X (.Compare a [.NotIn] [.Tuple es kk ps] pos) (mInTT true ta t) :=
  pt_imp (pt_cmpR op_notIn_seq (pe_cl ha) (pe_tup (pa_cl hb)) hm) fun σ H Q q => ⟨_, q, fun x H1 q1 => ⟨_, q1, fun ys H2 ⟨h1, h2, h3, q2⟩ => ⟨h3, fun p hp => inT_at h1 h2 ⟨_, rfl, q2 p hp⟩⟩⟩⟩
end
theorem inV_nil (x : V) : inV x [] = false := rfl
theorem inV_cons (x y : V) (r : List V) : inV x (y :: r) = (eqV y x || inV x r) := rfl
theorem eqV_SS (a b : List Nat) : eqV (.str (S a)) (.str (S b)) = decide (a = b) := by
  show decide (S a = S b) = _
  by_cases h : a = b
  · subst h; simp
  · have : ¬ S a = S b := fun z => h (S_inj.mp z)
    simp [h, this]
theorem eqV_II (a b : Int) : eqV (.int a) (.int b) = decide (a = b) := by
  show (_ : Bool) = _
  first | rfl | simp [eqV]
end M

/-! ### own errors: class C(TurnError) with __init__(self, fl=None): super().__init__(fl); self.fl = fl -/
namespace M
open PySem PySem.Spec PySem.W PySem.Calls PyProof.Rows PySem.HandSPX
def qp (q : List Pos) (i : Nat) : Pos := q.getD i ⟨0, 0, 0, 0⟩
def eiB (fl : Str) (q : List Pos) : List Stmt := [.Expr (.Call (.Attribute (.Call (.Name "super" (qp q 0)) [] [] (qp q 1)) "__init__" (qp q 2)) [.Name fl (qp q 3)] [] (qp q 4)) (qp q 5), .Assign [.Attribute (.Name "self" (qp q 6)) fl (qp q 7)] (.Name fl (qp q 8)) (qp q 9)]
section
variable {P : Program} {w : World} {A : Around} {E : Value → Shared → Prop} {h : Heap} {g : Array GenState} {d : Drawn} {t : Nat} {os : OsState}
variable {nm q : Str} {C N : Addr} {bs bm : List Value} {hdct : Bool} {sn : List Str} {sub : List Value} {ab : Bool} {col : Option Bool} {dd : Option Addr} {k0 k1 k2 k3 k5 : Option Value}
theorem call_mw {u e t0 : Addr} {rest : List Value} {Q : Value → Shared → Prop}
    (hC : h.get? C = some (excClassObj nm q C N bs bm hdct sn sub ab col dd k0 k1 k2 k3 k5 "ValueError.__new__")) (he : h.get? e = some (HandSPX.excO C t0)) (hu : h.get? u = some (kxs_mw "ValueError.__init__" e)) (hrest : rest.length ≤ sizeLine)
    (hq : ∀ h' t1, (∀ b o, b ≠ e → h.get? b = some o → h'.get? b = some o) → h'.get? e = some (HandSPX.excO C t1) → Q .none ⟨h', g, d, t, os⟩) :
    wpAny (model P w) A (call (.ref u) rest) Q E ⟨h, g, d, t, os⟩ := by
  refine wpAny_call (codeAny_of_tree ?_)
  show wpAny _ A.in1 (callAny (.ref u) ⟨rest, []⟩) _ _ _
  simp only [callAny]
  refine wpAny_bind (wpAny_load hu ?_)
  simp only [kxs_mw, show (Value.type "method-wrapper" == Value.type "method" || Value.type "method-wrapper" == Value.type "builtin_function_or_method" || Value.type "method-wrapper" == Value.type "method-wrapper") = true by decide, if_true]
  refine W.KFB.if_so (by decide) ?_
  refine wpAny_bind (check_bound_init F.excBase_ValueError.toExcCallFacts hC he rfl ?_)
  refine wpAny_bind (wpAny_pure (wpAny_pure ?_))
  refine ⟨plainId_quiet F.excBase_ValueError.init.plain _, codeAny_builtin F.excBase_ValueError.initEntry ?_⟩
  exact exc_init_tree (cls := .ref C) (t0 := t0) (dv := none) (c2 := .none) (c3 := .none) (b4 := .bool false) he hrest fun h' k e' _ => hq h' _ k e'
end
theorem cw_one {Mo : Model} {A : Around} {E : Value → Shared → Prop} {s : Shared} {i : String} {u x : Addr} {pos : Pos} {env : Env} {e : Expr} {Q : Value → Shared → Prop}
    (h : wpAny Mo A (spliced (backTo pos (starEach [e] env))) (fun vs s₁ => KxsAt i u x s₁.heap ∧ wpAny Mo A (call (.ref u) vs) Q E s₁) E s)
    (he : starEach [e] env = (false, eval e env) :: starEach [] env := by rfl) : wpAny Mo A (callWith pos (.ref u) [] (backTo pos (starEach [e] env)) []) Q E s := by
  rw [he] at h ⊢
  exact kxs_callWith (i := i) (x := x) rfl (evalArgs_plain h)
theorem ve_slot : bootBuiltins "super" = some (.type "super") := by decide +kernel
section
variable {P : Program} {w : World} {A : Around} {R : Result → Shared → Prop} {s : Shared} {K : Frag} {mg mb : Str → Option Value} {C fI cda cc : Addr} {fl qual : Str} {sc : Scope} {params : Arguments} {q : List Pos}
  {oc dV kV doc pm ct : Value} {od an : Option Addr} {osl : Array (Option Value)} {ar : Arg}
theorem ini_run {args : Args} {x t0 : Addr} {v : Value} (X : K.In s.heap) (hlim : s.heap.NoLimit) (G : s.heap.Ns mainGlobals mg) (B : s.heap.Ns builtinsNs mb) (gs : mg "super" = none) (bs : mb "super" = some (.type "super")) (T : L2.OexC K C) (nf : findIn K (.ref C) fl = some none)
    (ho : K.lookup fI = some ⟨oc, od, .func (ksFn "__init__" qual params (eiB fl q) sc dV kV doc pm an (.ref cda) ct cc), osl⟩) (hcd : codeIn K (.ref cda) qual = true)
    (hcode : ∃ (ccl : Value) (cdd : Option Addr) (vs : Array Value) (ccs : Array (Option Value)) (file : Str) (tf : Tok), K.lookup cda = some ⟨ccl, cdd, .fields vs, ccs⟩ ∧ vs[2]? = some (.str file tf) ∧ ((P.main.file : Str) == file) = true)
    (hcell : ∃ (cl : Value) (cld : Option Addr) (csl : Array (Option Value)), K.lookup cc = some ⟨cl, cld, .cell (some (.ref C)), csl⟩)
    (hp : (params.posonlyargs ++ params.args).head? = some ar) (har : ar.arg = "self") (hsf : fl ≠ "self") (hdf : (fl == ("__debug__" : Str)) = false)
    (k1 : sc.kind = .function) (k2 : sc.isGenerator = false) (k3 : sc.isCoroutine = false) (k4 : sc.names.lookup ("self" : Str) = some .local) (k5 : sc.names.lookup fl = some .local) (k6 : sc.names.lookup ("super" : Str) = some .globalImplicit)
    (k7 : sc.names.lookup ("__class__" : Str) = some .free) (k8 : ∀ x ∈ sc.names, x.2 ≠ .cell)
    (htop : (P.main.scope.names.lookup ("super" : Str)).isSome = false) (hop : nsIn K cStatics "thirdparty.any" = some none) (sup : ks_superIn K C C "__init__" = some (some (.builtin "ValueError.__init__")))
    (hmro : mroIn K C (.ref C) = some true) (hsub : subIn K (.ref C) (.type "ValueError") = some true)
    (hint : ∀ env : Env, env.scope = sc → interactive env = false)
    (hev : ∀ env : Env, env.scope = sc → ∃ pl : Sem Bool, eval (.Call (.Attribute (.Call (.Name "super" (qp q 0)) [] [] (qp q 1)) "__init__" (qp q 2)) [.Name fl (qp q 3)] [] (qp q 4)) env = (do
      let ov ← attributeBase (.Call (.Name "super" (qp q 0)) [] [] (qp q 1)) "__init__" env (eval (.Call (.Name "super" (qp q 0)) [] [] (qp q 1)) env)
      standAt (qp q 2).atName
      let (f, first) ← holding [ov] (getMethod ov "__init__" pl)
      callWith (qp q 4) f first (backTo (qp q 4) (starEach [.Name fl (qp q 3)] env)) []))
    (hsw : ∀ env : Env, env.scope = sc → swapsWith (.Name fl (qp q 8)) (some (.Attribute (.Name "self" (qp q 6)) fl (qp q 7))) (qp q 9).line env = pure false)
    (hx : s.heap.get? x = some (excO C t0)) (hnx : K.lookup x = none) (hroom : A.depth < recursionLimit) (bind : BindsTo s (ksFn "__init__" qual params (eiB fl q) sc dV kV doc pm an (.ref cda) ct cc) args [("self", .ref x), (fl, v)])
    (hq : ∀ h' tk dx t1, (∀ b o, b ≠ x → s.heap.get? b = some o → h'.get? b = some o) → h'.get? x = some { cls := .ref C, dict := some dx, data := .fields #[.ref t1, .none, .none, .none, .bool false, .none] } → s.heap.objs.size ≤ dx → dx ≠ x →
      h'.Ns1 dx (fun y => if y = fl then some v else none) → R (.ok (.ret .none)) { s with heap := h', toks := tk }) :
    codeAny (model P w) A (.call (.ref fI) args) R s := by
  obtain ⟨nm, q', N, bs', bm, sn, sub, ab, col, dd, z0, z1, z2, z3, z5, hC, hbm⟩ := T.cls
  have hcl : clsIn K C = some { name := nm, bases := bs', mro := .ref C :: bm, ns := N, qualname := q', hasDict := true, slotNames := sn, subclasses := sub, abstract := ab, collection := col, hasDel := false } := by unfold clsIn; rw [hC] <;> rfl
  obtain ⟨ccl, cdd, vs, ccs, file, tf, hcode, hvs, hfile⟩ := hcode
  obtain ⟨cl, cld, csl, hcell⟩ := hcell
  refine ks_codeAny_call_defAt (fd := ksFn "__init__" qual params (eiB fl q) sc dV kV doc pm an (.ref cda) ct cc) (body := eiB fl q) (binds := [("self", .ref x), (fl, v)]) hroom (X _ _ ho) rfl hlim (codeRec_of X hcd) rfl bind k8
    (fun y hy => ?_) (fun h₁ hns hk₁ => ?_) k3 k2 k1
  · rcases List.mem_cons.mp hy with rfl | hy
    · exact k4
    rcases List.mem_cons.mp hy with rfl | hy
    · exact k5
    cases hy
  have hxL : s.heap.objs.size ≠ x := Nat.ne_of_gt (Heap.lt_size hx)
  have X₁ : K.In h₁ := X.keeps hk₁
  have hx₁ := hk₁ _ _ hx
  have mself : (fun x_1 => ([("self", .ref x), (fl, v)] : List (Str × Value)).reverse.lookup x_1) "self" = some (.ref x) := by
    have : (("self" : Str) == fl) = false := by simpa using fun z => hsf z.symm
    simp [List.lookup, this]
  have mfl : (fun x_1 => ([("self", .ref x), (fl, v)] : List (Str × Value)).reverse.lookup x_1) fl = some v := by
    simp [List.lookup]
  generalize hm : (fun x_1 => ([("self", .ref x), (fl, v)] : List (Str × Value)).reverse.lookup x_1) = m at hns mself mfl
  obtain ⟨hp0, g, dr, tk, os⟩ := s
  have I₁ : W.InstAt h₁ x (excO C t0) C none := ⟨hx₁, rfl, rfl, trivial⟩
  obtain ⟨oD, hD1, hD2⟩ : ∃ oD, h₁.get? C = some oD ∧ oD.data = .cls { name := nm, bases := bs', mro := .ref C :: bm, ns := N, qualname := q', hasDict := true, slotNames := sn, subclasses := sub, abstract := ab, collection := col, hasDel := false } := ⟨_, X₁ _ _ hC, rfl⟩
  have nk : ∀ {b : Addr} {o : Obj}, K.lookup b = some o → b ≠ x := fun e z => by rw [z, hnx] at e; cases e
  obtain ⟨pl, hev⟩ := hev (callEnv (ksFn "__init__" qual params (eiB fl q) sc dV kV doc pm an (.ref cda) ct cc) hp0.objs.size fI) rfl
  refine ks_wpAt_execs_cons (ks_wpAt_Expr_any (hi := hint _ rfl) (ks_wpAt_MethodCall (he := hev) ?_))
  refine ks_wpAt_super_base (env := callEnv (ksFn "__init__" qual params (eiB fl q) sc dV kV doc pm an (.ref cda) ct cc) hp0.objs.size fI) k6 k7 (by decide) rfl (X₁ _ _ ho) rfl hp rfl (X₁ _ _ hcode) rfl hvs hfile htop ?_
  refine ks_loadName_global k1 k6 (loadGlobal_builtin (G.keeps hk₁) gs (B.keeps hk₁) bs ⟨rfl, ?_⟩)
  refine wpAny_loadName_free k1 k7 rfl ⟨_, X₁ _ _ hcell, rfl⟩ ?_
  rw [har]
  refine wpAny_loadName_local k1 k4 hns mself ?_
  refine ks_wpAny_isType_cls hD1 hD2 ⟨rfl, ?_⟩
  refine ks_wpAny_call_super hD1 hD2 I₁.at_ I₁.cls (fun c e => by cases e) (looks_mroIn X₁ hmro) (fun h2 e2 kk2 => ?_)
  have X2 : K.In h2 := X₁.keeps kk2
  have hI2 : W.Looks (model P w) h2 (isInstance (.ref x) (.type "ValueError")) true := (show W.InstAt h2 x (excO C t0) C none from ⟨kk2 _ _ hx₁, rfl, rfl, trivial⟩).type.andThen (looks_subIn X2 hsub)
  have hxC : x ≠ C := fun z => by
    rw [← z, hx₁] at hD1
    cases hD1
    cases hD2
  have supA : alongIn K "__init__" (((.ref C :: bm).dropWhile (· != .ref C)).drop 1) = some (some (.builtin "ValueError.__init__")) := by
    have z := sup
    unfold ks_superIn at z
    rw [hcl] at z
    exact z
  refine kxs_getMethod kxs_ValueError e2 (looks_opaque X2 hop) (l₀ := .ref C :: bm) (fun A Q E s k q => wpAny_bind ((looks_clsIn X2 hcl) A _ E s k (wpAny_pure q))) rfl X2 supA hI2 hxC (by decide) ?_
  have kk3 : ∀ b o, h2.get? b = some o → (h2.push (kxs_mw "ValueError.__init__" x)).get? b = some o := fun b o e => Heap.get?_push_of_some _ e
  have hu : (h2.push (kxs_mw "ValueError.__init__" x)).get? h2.objs.size = some (kxs_mw "ValueError.__init__" x) := Heap.get?_push_size _ rfl
  refine cw_one (i := "ValueError.__init__") (x := x) (spliced_more ?_ rfl) rfl
  refine wpAny_Name (wpAny_loadName_local k1 k5 ((hns.keeps kk2).keeps kk3) mfl ?_) hdf
  refine spliced_none ⟨hu, ?_⟩
  refine call_mw (hC := kk3 _ _ (kk2 _ _ (X₁ _ _ hC))) (he := kk3 _ _ (kk2 _ _ hx₁)) hu (by show 1 ≤ sizeLine; rw [sizeLine_eq]; omega) (fun h4 t1 kk4 hx4 => ?_)
  have nx : ∀ {b : Addr} {o : Obj}, h₁.get? b = some o → b ≠ x → h4.get? b = some o := fun {b o} e n => kk4 b o n (kk3 _ _ (kk2 _ _ e))
  have X4 : K.In h4 := fun a o e => nx (X₁ _ _ e) (nk e)
  have hns4 : h4.Ns hp0.objs.size m := hns.at fun o e => nx e hxL
  refine wpAt_of_wpAny (wpAny_execs_cons (plainObj_wpAny_Assign_Attribute (hs := hsw _ rfl) ?_))
  refine wpAny_Name (wpAny_loadName_local k1 k5 hns4 mfl ?_) hdf
  refine wpAny_Name (wpAny_loadName_local k1 k4 hns4 mself ?_) (by decide)
  refine set_plain X4 (ox := excO C t1) (od := none) ⟨hx4, rfl, rfl, trivial⟩ T.sa ?_
  refine exc_osa X4 hx4 hcl (show refsVE (.ref C :: bm) = true from hbm) rfl nf (fun h5 tk5 dx k₅ dn dne hx5 hn5 => ?_)
  show wpAny _ _ (execs _ _) _ _ _
  have z : hp0.objs.size < h₁.objs.size := hns.lt
  have z4 : hp0.objs.size < h4.objs.size := hns4.lt
  exact wpAny_execs_nil (hq h5 tk5 dx t1 (fun b o hb e => k₅ b o hb (nx (hk₁ b o e) hb)) hx5 (Nat.le_of_lt (Nat.lt_of_lt_of_le z4 dn)) dne hn5)
end
end M

/-! ### own errors: raised, made -/
namespace M
open PySem PySem.Spec PyProof.Rows L2 PySem.HandSPX
/-- the run of C's __init__ -/
def IniRun (P : Program) (w : World) (K : PySem.W.Frag) (mg : Str → Option Value) (fl : Str) (C fI : Addr) (fd : FuncData) : Prop :=
  ∀ {A : Around} {R : Result → Shared → Prop} {s : Shared} {args : Args} {x t0 : Addr} {v : Value}, K.In s.heap → s.heap.NoLimit → s.heap.Ns mainGlobals mg → (∃ mb, s.heap.Ns builtinsNs mb ∧ ∀ x : Str, x ≠ "__name__" → mb x = bootBuiltins x) →
    s.heap.get? x = some (excO C t0) → K.lookup x = none → A.depth < recursionLimit → BindsTo s fd args [("self", .ref x), (fl, v)] →
    (∀ h' tk dx t1, (∀ b o, b ≠ x → s.heap.get? b = some o → h'.get? b = some o) → h'.get? x = some { cls := .ref C, dict := some dx, data := .fields #[.ref t1, .none, .none, .none, .bool false, .none] } → s.heap.objs.size ≤ dx → dx ≠ x →
      h'.Ns1 dx (fun y => if y = fl then some v else none) → R (.ok (.ret .none)) { s with heap := h', toks := tk }) → codeAny (model P w) A (.call (.ref fI) args) R s
structure ExcAt (P : Program) (w : World) (K : PySem.W.Frag) (mg : Str → Option Value) (x fl : Str) (C : Addr) : Prop where
  gC : mg x = some (.ref C)
  T : OexC K C
  ga : PySem.W.findIn K (.ref C) "__getattribute__" = some (some (.builtin "BaseException.__getattribute__"))
  gg : PySem.W.findIn K (.ref C) "__getattr__" = some none
  nf : PySem.W.findIn K (.ref C) fl = some none
  hd : PySem.W.hasDictIn K C = true
  init : ∃ (fI : Addr) (fd : FuncData), PySem.W.findIn K (.ref C) "__init__" = some (some (.ref fI)) ∧ PySem.W.typeIn K (.ref fI) = some (.type "function") ∧ IniRun P w K mg fl C fI fd ∧
    (∀ (s : Shared) (u v : Value), K.In s.heap → BindsTo s fd ⟨[u, v], []⟩ [("self", u), (fl, v)]) ∧ (∀ (s : Shared) (u : Value), K.In s.heap → BindsTo s fd ⟨[u], []⟩ [("self", u), (fl, .none)]) ∧
    (∀ (s : Shared) (u v : Value), K.In s.heap → BindsTo s fd ⟨[u], [(fl, v)]⟩ [("self", u), (fl, v)])
theorem relO_one {fl : Str} {v : V} {v' : Value} (r : RelV v v') (f : Str) : RelO (List.lookup f [(fl, v)]) (if f = fl then some v' else none) := relO_put (fs := []) (mA := fun _ => none) r (fun _ => trivial) f
section
variable {X : Cx} {C : Addr} {x fl : Str}
/-- a made one, seen from the caller -/
theorem mk_seen {pins : List (Addr × Obj)} {σ : L2.St} {H1 : Hp} {Q : XK} {hp h' : Heap} {g : Array GenState} {dr : Drawn} {tk tk' : Nat} {os : OsState} {e d t1 : Addr} {v : V} {v' : Value} (T : OexC X.K C) (I1 : Inv X pins σ H1 ⟨hp, g, dr, tk, os⟩)
    (keep : ∀ b o, hp.get? b = some o → h'.get? b = some o) (new : hp.objs.size ≤ e) (hx : h'.get? e = some { cls := .ref C, dict := some d, data := .fields #[.ref t1, .none, .none, .none, .bool false, .none] }) (db : hp.objs.size ≤ d) (dne : d ≠ e)
    (ns : h'.Ns1 d (fun y => if y = fl then some v' else none)) (rv : RelV v v') (q : Q (.ref C) (some d) (upd H1 d (.xd [(fl, v)]))) : MkP X pins σ Q (.ref e) ⟨h', g, dr, tk', os⟩ := by
  obtain ⟨G', g1, g2⟩ := restrict h' fun b => decide (b ≠ e)
  have gk : ∀ b, b ≠ e → G'.get? b = h'.get? b := fun b hb => g1 b (decide_eq_true hb)
  have ge : G'.get? e = none := g2 e (by simp)
  have old : ∀ b o, hp.get? b = some o → G'.get? b = some o := fun b o q => (gk b (Nat.ne_of_lt (Nat.lt_of_lt_of_le (Heap.lt_size q) new))).trans (keep b o q)
  have ob : ObjOk X.prog X.w (upd H1 d (.xd [(fl, v)])) G' d (.xd [(fl, v)]) := ⟨_, ns.at (fun o q => (gk d dne).trans q), fun f => relO_one rv f⟩
  have J : Inv X pins σ (upd H1 d (.xd [(fl, v)])) ⟨G', g, dr, tk', os⟩ := I1.laid (t' := tk') old db ob
  refine ⟨e, _, _, ⟨G', g, dr, tk', os⟩, _, .ref C, some d, rfl, J, fun b o q => ?_, ge, hx, ⟨rfl, rfl⟩, rfl, rfl, ?_, rfl, I1.bare, raises_own T.exC T.tyC, q⟩
  · by_cases hb : b = e
    · have q' : G'.get? b = some o := q
      rw [hb, ge] at q'; cases q'
    · exact (gk b hb).symm.trans q
  · rw [upd_ne (Ne.symm dne)]
    exact I1.hok.fresh new
def mMk (C : Addr) (fl : Str) (ta : TA) : L2.St → Hp → XK → Prop := fun σ H Q => ta σ H fun vs H1 => match vs with
  | [v] => ∀ d, H1 d = none → Q (.ref C) (some d) (upd H1 d (.xd [(fl, v)]))
  | _ => False
theorem vals_one {v : V} {us : List Value} (r : Vals [v] us) : ∃ u, us = [u] ∧ RelV v u := by
  cases r with
  | cons h1 h2 =>
    cases h2
    exact ⟨_, rfl, h1⟩
/-- C(v): the call -/
theorem call_exc {pins : List (Addr × Obj)} {σ : L2.St} {H1 : Hp} {Q : XK} {s1 : Shared} {v : V} {u : Value} {k : Nat} {A : Around} (T : ExcAt X.prog X.w X.K X.mg x fl C) (hr : A.depth + 2 < recursionLimit) (I1 : Inv X pins σ H1 s1) (rv : RelV v u)
    (q : ∀ d, H1 d = none → Q (.ref C) (some d) (upd H1 d (.xd [(fl, v)]))) {E : Value → Shared → Prop} : wpAny (model X.prog X.w) A (call (.ref C) [u]) (MkP X pins σ Q) E s1 := by
  obtain ⟨nm, q', N, bs, bm, sn, sub, ab, col, dd, k0, k1, k2, k3, k5, hC, hbm⟩ := T.T.cls
  obtain ⟨fI, fd, iC, tI, run, b1, _, _⟩ := T.init
  have hlim := I1.nolimit
  have KX := I1.kIn
  have G : s1.heap.Ns mainGlobals X.mg := I1.mod.glob.keeps I1.bk
  obtain ⟨mb, hb1, hb2⟩ := I1.mod.blt
  have B : s1.heap.Ns builtinsNs mb := hb1.keeps I1.bk
  obtain ⟨hp, g, dr, tk, os⟩ := s1
  have kk : ∀ b o, hp.get? b = some o → ((hp.push (PySem.W.kdv_tup [u])).push (excO C hp.objs.size)).get? b = some o := fun b o e => Heap.get?_push_of_some _ (Heap.get?_push_of_some _ e)
  have hget : ((hp.push (PySem.W.kdv_tup [u])).push (excO C hp.objs.size)).get? (hp.objs.size + 1) = some (excO C hp.objs.size) := by heap_get
  have hnx : X.K.lookup (hp.objs.size + 1) = none := by
    cases e : X.K.lookup (hp.objs.size + 1) with
    | none => rfl
    | some o =>
      have z : hp.get? (hp.objs.size + 1) = some o := KX _ _ e
      exact absurd (Nat.lt_of_succ_lt (Heap.lt_size z)) (Nat.lt_irrefl _)
  have KX2 : X.K.In ((hp.push (PySem.W.kdv_tup [u])).push (excO C hp.objs.size)) := KX.keeps kk
  refine wpAny_call (call_own F.excBase_ValueError (fun X => refsVE_contains X bm hbm) (KX _ _ hC) (PySem.W.looks_findIn KX iC) (fun self => PySem.W.bind_fn KX self tI) (by show 1 ≤ sizeLine; rw [sizeLine_eq]; omega) ?_)
  refine run (s := ⟨(hp.push (PySem.W.kdv_tup [u])).push (excO C hp.objs.size), g, dr, tk, os⟩) KX2 (hlim.keeps kk) (G.keeps kk) ⟨mb, B.keeps kk, hb2⟩ hget hnx ?_ (b1 _ _ _ KX2) fun h' tk' dx t1 k' hx dn dne hns => ?_
  · show A.depth + 1 < recursionLimit
    omega
  · have old : ∀ b o, hp.get? b = some o → h'.get? b = some o := fun b o e => k' b o (Nat.ne_of_lt (Nat.lt_succ_of_lt (Heap.lt_size e))) (kk b o e)
    have z : hp.objs.size + 1 + 1 ≤ dx := by
      first
        | (simpa only [Heap.size_push] using dn)
        | exact dn
    have db : hp.objs.size ≤ dx := Nat.le_trans (Nat.le_trans (Nat.le_succ _) (Nat.le_succ _)) z
    exact ⟨rfl, mk_seen T.T I1 old (Nat.le_succ _) hx db dne hns rv (q dx (I1.hok.fresh db))⟩
theorem pmk_exc {es : List Expr} {e : Expr} {ta : TA} {p pos : Pos} {k : Nat} (T : ExcAt X.prog X.w X.K X.mg x fl C) (hr : Room k X.A) (hg : Gl X x) (ha : PA X (e :: es) ta) (hdb : (x == ("__debug__" : Str)) = false := by decide)
    (he : starEach (e :: es) X.env = (false, eval e X.env) :: starEach es X.env := by rfl) (hpl : (backTo pos (starEach es X.env)).any (·.1) = false := by rfl) : PMk X (.Call (.Name x p) (e :: es) [] pos) (mMk C fl ta) := by
  intro pins s σ H Q I h
  refine wpAny_Call_Name_kw (ld_glob I hg T.gC ?_ hdb)
  refine PySem.W.callWith_K (h₀ := X.base) I.ok.mod.kin T.T.kC (thn ((pa_cl ha).run pos pins s σ H (fun vs H1 => ∃ v, vs = [v] ∧ ∀ d, H1 d = none → Q (.ref C) (some d) (upd H1 d (.xd [(fl, v)]))) I ⟨_, h, fun vs H1 z => ?_⟩) fun us s1 ⟨vs, H1, I1, r1, v, ev, q1⟩ => ⟨I1.kIn, ?_⟩) he hpl
  · split at z
    · exact ⟨_, rfl, z⟩
    · exact z.elim
  · subst ev
    obtain ⟨u, rfl, ru⟩ := vals_one r1
    exact call_exc (k := k) T (by have := hr.dp; omega) I1 ru q1
/-- raise C(v) -/
def mRaise (C : Addr) (fl : Str) (ta : TA) (E : XK) : TS := fun _ σ H => mMk C fl ta σ H fun cls d H' => E cls d H'
theorem ms_raise {es : List Expr} {e : Expr} {ta : TA} {p pos pos2 : Pos} {k : Nat} {E : XK} (T : ExcAt X.prog X.w X.K X.mg x fl C) (hr : Room k X.A) (hc : X.calm = true) (tk : Takes X (fun cls d _ H => E cls d H)) (hg : Gl X x) (ha : PA X (e :: es) ta) (hdb : (x == ("__debug__" : Str)) = false := by decide)
    (he : starEach (e :: es) X.env = (false, eval e X.env) :: starEach es X.env := by rfl) (hpl : (backTo pos (starEach es X.env)).any (·.1) = false := by rfl) : PS X (.Raise (some (.Call (.Name x p) (e :: es) [] pos)) none pos2) (mRaise C fl ta E) :=
  ps_raise hc tk (pmk_exc T hr hg ha hdb he hpl)
end
end M

/-! ### a caught error, kept behind the try -/
namespace M
open PySem PySem.Spec PyProof.Rows L2 PySem.HandSPX
/-- at a: an exception of the class cls, its dict d -/
def exk (a : Addr) (cls : Value) (d : Option Addr) : HO := .ext fun h => ∃ (o : Obj) (vs : Array Value), h.get? a = some o ∧ o.cls = cls ∧ o.dict = d ∧ o.data = .fields vs
theorem exk_ok {P : Program} {w : World} {H : Hp} {h : Heap} {a : Addr} {cls : Value} {d : Option Addr} {o : Obj} {vs : Array Value} (e : h.get? a = some o) (hz : Zc cls d o) (hd : o.data = .fields vs) : ObjOk P w H h a (exk a cls d) :=
  ⟨⟨o, vs, e, hz.1, hz.2, hd⟩, ⟨_, e⟩, fun h1 h2 z k => by
    obtain ⟨o, vs, q, r⟩ := z
    exact ⟨o, vs, k _ q, r⟩⟩
theorem exk_at {P : Program} {w : World} {H : Hp} {h : Heap} {a : Addr} {cls : Value} {d : Option Addr} (hok : HOk P w H h) (he : H a = some (exk a cls d)) : ∃ (o : Obj) (vs : Array Value), h.get? a = some o ∧ o.cls = cls ∧ o.dict = d ∧ o.data = .fields vs := by
  have x : ObjOk P w H h a (.ext fun h => ∃ (o : Obj) (vs : Array Value), h.get? a = some o ∧ o.cls = cls ∧ o.dict = d ∧ o.data = .fields vs) := hok a _ he
  exact x.1
section
variable {X : Cx} {pins : List (Addr × Obj)} {σ : L2.St} {H : Hp} {s : Shared}
/-- an object of the heap that was not looked at is looked at from now on -/
theorem Inv_track {a : Addr} {o : Obj} {vs : Array Value} {cls : Value} {d : Option Addr} (I : L2.Inv X pins σ H s) (e : s.heap.get? a = some o) (hz : Zc cls d o) (hd : o.data = .fields vs) (na : H a = none) (n0 : X.s_0.heap.get? a = none) (nL : a ≠ X.env.locals)
    (nP : ∀ p ∈ X.pn ++ pins, p.1 ≠ a) : L2.Inv X pins σ (upd H a (exk a cls d)) s := by
  have n1 : ∀ b o, X.s_0.heap.get? b = some o → b ≠ a := fun b o q z => by rw [z, n0] at q; cases q
  refine ⟨I.ok, I.os, I.bare, ⟨I.base.keep, I.base.slot, fun b o q n hx => ?_, I.base.there, fun b xs q => ?_, fun b o u q => ?_, fun b ps q => ?_⟩, I.loc, I.cell, ?_, fun x c q => ?_, fun p hp => ?_, fun b ob q => ?_, I.len⟩
  · rw [upd_ne (n1 b o q)]; exact I.base.free b o q n hx
  · have z := I.base.tups b xs q
    rw [upd_ne (ne_of_none z na)]; exact z
  · have z := I.base.frzs b o u q
    rw [upd_ne (ne_of_none z na)]; exact z
  · obtain ⟨more, z⟩ := I.base.tbls b ps q
    exact ⟨more, by rw [upd_ne (ne_of_none z na)]; exact z⟩
  · rw [upd_ne (Ne.symm nL)]; exact I.free
  · have : c ≠ a := fun z => by
      obtain ⟨v, hv⟩ := I.cell x c q
      obtain ⟨oc, q1, q2⟩ := hv
      rw [z, e] at q1
      cases q1
      rw [hd] at q2
      cases q2
    rw [upd_ne this]; exact I.freeC x c q
  · obtain ⟨p1, p2, p3⟩ := I.pin p hp
    exact ⟨p1, by rw [upd_ne (nP p hp)]; exact p2, p3⟩
  · by_cases hb : b = a
    · subst hb
      rw [upd_same] at q
      cases q
      exact exk_ok e hz hd
    · rw [upd_ne hb] at q
      exact (I.hok b ob q).stay (fun c v hc z => z) (fun c hc => by rw [upd_ne (ne_of_none hc na)]; exact hc) (fun c xs hc => by rw [upd_ne (ne_of_none hc na)]; exact hc)
/-- what is wished of an exception of the body: it is caught, n = it -/
def wK (K : PySem.W.Frag) (c : Value) (i j : Nat) (D : Ends) : WX := fun cls d σ H => PySem.W.exmOne K cls c = some true ∧ ∀ a, H a = none → D.nx ((σ.set j (some (.ref a))).set i none) (upd H a (exk a cls d))
def mTry (K : PySem.W.Frag) (c : Value) (i j : Nat) (tb : WX → TS) : TS := fun D σ H => tb (wK K c i j D) D σ H
end
end M

namespace M
open PySem PySem.Spec PyProof.Rows L2 PySem.HandSPX
section
variable {X : Cx} {x n y : Str} {c : Value} {i j : Nat} {body : List Stmt} {np pos pos' p1 p2 p3 : Pos} {tb : WX → TS}
theorem ms_try (hs : X.stack = X.env :: X.outer) (hf : X.env.frame = some X.env.locals) (hex : X.ex = []) (hN : X.N.Nodup) (hi : X.N[i]? = some n) (hln : X.env.kindOf n = some .local) (hc : Names X x c)
    (hb : ∀ (W : WX) (pn : List (Addr × Obj)) (xe : Value → Shared → Prop), Takes (X.tr pn xe) W → PassesOwn (model X.prog X.w) X.A X.env xe → PSs (X.tr pn xe) body (tb W))
    (hsu : ∀ (a : Addr) (oe : Obj) (pn : List (Addr × Obj)), (∃ vs, oe.data = .fields vs) → PSs (X.suite a ((a, oe) :: pn)) [.Assign [.Name y p1] (.Name n p2) p3] (tAsg (mVar i) (gName j))) :
    PS X (.Try body [.ExceptHandler (some (.Name x np)) (some n) [.Assign [.Name y p1] (.Name n p2) p3] pos'] [] [] pos) (mTry X.K c i j tb) := by
  refine ⟨fun pins s σ H D I h => ?_⟩
  have ok := I.ok
  have hfr : X.A.frames = some (X.env :: X.outer) := by rw [ok.frames, hs]
  have hloc : Loc X.env.scope n := .inl hln
  refine wpAny_Try_except ?_
  refine wpAny_mono ((hb (wK X.K c i j D) (X.pn ++ pins) (fun e s₁ => wpAny (model X.prog X.w) X.A (noteFrame e X.env) (fun _ s₂ => wpAny (model X.prog X.w) X.A (setFlight e none) (fun _ s₃ =>
    wpAny (model X.prog X.w) X.A (handleBy e X.env [.ExceptHandler (some (.Name x np)) (some n) [.Assign [.Name y p1] (.Name n p2) p3] pos']) (SP X pins D) X.xe s₃) X.xe s₂) X.xe s₁) (fun u s' xx => ?_) PassesOwn.looking).run [] s σ H D (I.toTry _) h) (fun f s1 hsp => ?_) (fun e s1 he => he)
  · obtain ⟨a, B, sI, pins', σ', H', cls, d, rfl, J', nb, up, sky, na, os, ag, hb1, hyes⟩ := xx
    have J : L2.Inv X pins σ' H' sI := J'.ofTry ok
    have sky' : Sky B (X.env :: X.outer) a (Zc cls d) X.env.locals s'.heap := by rw [← hs]; exact sky
    show wpAny (model X.prog X.w) X.A (noteFrame (.ref a) X.env) _ _ _
    refine Sky.land Zc.steady hfr hf sky' fun h3 fl3 up3 => ?_
    have J3 : L2.Inv X pins σ' H' { s' with heap := h3 } := J.landed nb fl3.1 (up.trans up3) os ag
    obtain ⟨oe3, vs3, he3, hz3, hd3⟩ := fl3.there
    have notFr : ∀ {h : Heap} {o : Obj} {vs : Array Value}, h.FunFrames B (X.env :: X.outer) → h.get? a = some o → o.data = .fields vs → a ∉ frs (X.env :: X.outer) := fun {h o vs} ff e dd hm => by
      obtain ⟨_, o', e', hnf⟩ := ff.mem hm
      rw [e] at e'; cases e'
      exact hnf _ dd
    have nfr := notFr fl3.2.2.1 he3 hd3
    have nL : a ≠ X.env.locals := fun z => nfr (List.mem_filterMap.mpr ⟨X.env, List.mem_cons_self, by rw [hf, z]⟩)
    have nF : a ∉ X.fs := fun hm => by
      obtain ⟨e, he, q⟩ := List.mem_filterMap.mp hm
      exact nfr (List.mem_filterMap.mpr ⟨e, List.mem_cons_of_mem _ he, q⟩)
    have nI : sI.heap.get? a = none := by
      cases q : sI.heap.get? a with
      | none => rfl
      | some o =>
        have z := nb a o q (by rw [hs]; exact nfr)
        rw [fl3.2.1] at z
        cases z
    have n0 : X.s_0.heap.get? a = none := by
      cases q : X.s_0.heap.get? a with
      | none => rfl
      | some o =>
        obtain ⟨o', z⟩ := J.base.there a o q (by rw [hex]; simp)
        rw [nI] at z
        cases z
    have nP : ∀ p ∈ X.pn ++ pins, p.1 ≠ a := fun p hp z => by
      have q := (J.pin p hp).1
      rw [z, nI] at q
      cases q
    have S3 := J3.suite he3 hd3 na nL nF
    refine wpAny_handleBy_cons (codeAny_handlers_test ?_) (by intro q; cases q)
    have LT : PySem.W.Looks (model X.prog X.w) h3 (typeOf (.ref a)) cls := fun A Q E s k q => wpAny_typeOf_ref (k _ _ he3) (by rw [hz3.1]; exact q)
    have LM := PySem.W.exm_one (M := model X.prog X.w) (J3.kIn) LT hb1
    have test : ∀ {Q : Value → Shared → Prop} {E : Value → Shared → Prop}, Q c { s' with heap := h3 } → wpAny (model X.prog X.w) (X.A.mark (some (.ref a))) (eval (.Name x np) X.env) Q E { s' with heap := h3 } := fun {Q E} q => by
      obtain ⟨hg, hdbg, hm | ⟨hm, hv, hnn⟩⟩ := hc
      · exact ld_glob (X := X.suite a ((a, oe3) :: (X.pn ++ pins))) S3 hg hm q hdbg
      · exact ld_blt (X := X.suite a ((a, oe3) :: (X.pn ++ pins))) S3 hg hm hv q hnn hdbg
    refine test (LM.here ?_)
    refine codeAny_handlers_suite_as ?_
    refine HandSPX.lands_againZ fl3 fun h4 fl4 up4 => ?_
    have J4 : L2.Inv X pins σ' H' { s' with heap := h4 } := J.landed nb fl4.1 ((up.trans up3).trans up4) os ag
    obtain ⟨oe4, vs4, he4, hz4, hd4⟩ := fl4.there
    have S4 := J4.suite he4 hd4 na nL nF
    refine store_ok (X := X.suite a ((a, oe4) :: (X.pn ++ pins))) (v := .ref a) S4 hN hi hloc rfl (fun s5 S5 => ?_) (.inr hln)
    have il : i < σ'.length := by
      rw [J.len]
      exact (List.getElem?_eq_some_iff.mp hi).1
    have hgt : ∀ (l : Sl) (k : Nat) (v : V), k < l.length → M.gt (l.set k (some v)) k = some v := by
      intro l
      induction l with
      | nil => intro k v hk; exact absurd hk (by simp)
      | cons b r ih =>
        intro k v hk
        cases k with
        | zero => rfl
        | succ k => exact ih k v (by simpa using hk)
    have hread : (tAsg (mVar i) (gName j)) ({ nx := fun σ6 H6 => H6 = H' ∧ σ6 = (σ'.set i (some (.ref a))).set j (some (.ref a)), rt := fun _ _ => False, bk := fun _ _ => False, ct := fun _ _ => False } : Ends) (σ'.set i (some (.ref a))) H' := by
      show (match M.gt (σ'.set i (some (.ref a))) i with | some v => _ | none => False)
      rw [hgt _ _ _ il]
      exact ⟨rfl, rfl⟩
    refine wpAny_mono ((hsu a oe4 (X.pn ++ pins) ⟨_, hd4⟩).run [] s5 _ H' _ S5 hread) (fun f s6 hsp => ?_) (fun _ _ z => False.elim z)
    cases f with
    | next =>
      obtain ⟨σ6, H6, S6, rfl, rfl⟩ := hsp
      have he6 : s6.heap.get? a = some oe4 := (S6.pin (a, oe4) (List.mem_append_left _ List.mem_cons_self)).1
      have T6 := Inv_track (S6.unsuite ok) he6 hz4 hd4 na n0 nL nP
      refine gone_ok T6 hN hi hln fun s7 J7 => ⟨_, _, J7, ?_⟩
      by_cases hij : i = j
      · subst hij
        have z := hyes a na
        rw [List.set_set] at z
        rw [List.set_set, List.set_set]
        exact z
      · have z := hyes a na
        have e : ((σ'.set i (some (V.ref a))).set j (some (V.ref a))).set i none = (σ'.set j (some (V.ref a))).set i none := by
          rw [List.set_comm _ _ hij, List.set_set]
        rw [e]
        exact z
    | brk =>
      obtain ⟨σ6, H6, S6, q6⟩ := hsp
      exact q6.elim
    | cont =>
      obtain ⟨σ6, H6, S6, q6⟩ := hsp
      exact q6.elim
    | ret u =>
      obtain ⟨v6, σ6, H6, S6, r6, q6⟩ := hsp
      exact q6.elim
  · cases f with
    | next =>
      obtain ⟨σ', H', J', q⟩ := hsp
      exact wpAny_execs_nil ⟨σ', H', J'.ofTry ok, q⟩
    | brk =>
      obtain ⟨σ', H', J', q⟩ := hsp
      exact ⟨σ', H', J'.ofTry ok, q⟩
    | cont =>
      obtain ⟨σ', H', J', q⟩ := hsp
      exact ⟨σ', H', J'.ofTry ok, q⟩
    | ret u =>
      obtain ⟨v, σ', H', J', r, q⟩ := hsp
      exact ⟨v, σ', H', J'.ofTry ok, r, q⟩
end
end M

/-! ### defs that show values: no repr is under way above them -/
namespace M
open PySem PySem.Spec PyProof.Rows L2 PySem.HandSPX
structure RoomG (k : Nat) (A : Around) : Prop where
  hd : A.handled = none
  dp : A.depth + k + 20 < recursionLimit
  un : A.units + 8 * k + 300 < cLine
  gd : A.guards = some []
theorem RoomG.mono {j k : Nat} {A : Around} (r : RoomG k A) (h : j ≤ k) : RoomG j A := ⟨r.hd, by have := r.dp; omega, by have := r.un; omega, r.gd⟩
theorem RoomG.deeper {k : Nat} {A : Around} (r : RoomG (k + 1) A) (env : Env) : RoomG k (A.deeper env) := ⟨r.hd, by have := r.dp; show A.depth + 1 + k + 20 < _; omega, by have := r.un; show A.units + 3 + 8 * k + 300 < _; omega, r.gd⟩
theorem RoomG.room {j k : Nat} {A : Around} (r : RoomG k A) (h1 : 3 * j ≤ k + 15) (h2 : 16 * j ≤ 8 * k + 100) : Room j A := ⟨r.hd, by have := r.dp; omega, by have := r.un; omega⟩
theorem RoomG.r0 {k : Nat} {A : Around} (r : RoomG k A) : Room 0 A := r.room (by omega) (by omega)
theorem RoomG.units {k : Nat} {A : Around} (r : RoomG k A) : A.units + 64 < cLine := by have := r.un; omega
theorem RoomG.depth {k : Nat} {A : Around} (r : RoomG k A) : A.depth < recursionLimit := by have := r.dp; omega
structure FnG (P : Program) (w : World) (K : PySem.W.Frag) (mg : Str → Option Value) (base : Heap) (CX : CXT) (k : Nat) (f : Addr) (fd : FuncData) (ps : List Str) (sp : Sp) : Prop where
  len : ∀ vs H Q E, sp vs H Q E → vs.length = ps.length
  run : ∀ (A : Around) (outer : List Env) (s : Shared) (H : Hp) (args : Args) (us : List Value) (vs : List V) (Q : VK) (E : XK), RoomG k A → Env0 P w K mg base A outer s H → BindsTo s fd args (ps.zip us) → Vals vs us → sp vs H Q E →
    codeAny (model P w) A (.call (.ref f) args) (CR CX outer P w H s Q E) s
theorem FnG.of {P : Program} {w : World} {K : PySem.W.Frag} {mg : Str → Option Value} {base : Heap} {CX : CXT} {j k : Nat} {f : Addr} {fd : FuncData} {ps : List Str} {sp : Sp} (F : FnOk P w K mg base CX j f fd ps sp) (h1 : 3 * j ≤ k + 15) (h2 : 16 * j ≤ 8 * k + 100) : FnG P w K mg base CX k f fd ps sp :=
  ⟨F.len, fun A outer s H args us vs Q E hr => F.run A outer s H args us vs Q E (hr.room h1 h2)⟩
theorem FnG.zero {P : Program} {w : World} {K : PySem.W.Frag} {mg : Str → Option Value} {base : Heap} {CX : CXT} {k : Nat} {f : Addr} {fd : FuncData} {ps : List Str} {sp : Sp} (no : ∀ vs H Q E, ¬ sp vs H Q E) : FnG P w K mg base CX k f fd ps sp :=
  ⟨fun vs H Q E h => absurd h (no vs H Q E), fun A outer s H args us vs Q E _ _ _ _ h => absurd h (no vs H Q E)⟩
theorem FnG.mono {P : Program} {w : World} {K : PySem.W.Frag} {mg : Str → Option Value} {base : Heap} {CX : CXT} {j k : Nat} {f : Addr} {fd : FuncData} {ps : List Str} {sp : Sp} (F : FnG P w K mg base CX j f fd ps sp) (h : j ≤ k) : FnG P w K mg base CX k f fd ps sp :=
  ⟨F.len, fun A outer s H args us vs Q E hr => F.run A outer s H args us vs Q E (hr.mono h)⟩
section
variable {P : Program} {w : World} {K : PySem.W.Frag} {mg : Str → Option Value} {base : Heap} {x qual : Str} {params : Arguments} {body : List Stmt} {scope : Scope} {dvs : List V} {kws : List (Str × V)} {f : Addr} {fd : FuncData}
theorem okG {CX : CXT} {N ps : List Str} {k : Nat} {sp : Sp} (F : FunD K x qual params body scope dvs kws f fd) (S : FnScope N ps scope) (len : ∀ vs H Q E, sp vs H Q E → vs.length = ps.length)
    (hbody : ∀ (cdv : Value) (A : Around) (outer : List Env) (s : Shared) (H : Hp) (vs : List V) (Q : VK) (E : XK), RoomG k (A.deeper (envOfC qual scope s.heap.objs.size f cdv)) → sp vs H Q E →
      ∃ t, PSs (cxOf CX P w K mg base N qual scope f cdv A outer s H E) body t ∧ t { nx := fun _ H' => Q .non H', rt := Q } (start N vs) H) : FnG P w K mg base CX (k + 1) f fd ps sp := by
  obtain ⟨oc, od, dV, kV, doc, pm, an, cdv, ct, osl, rfl, lk, hcd, _, _⟩ := F.ex
  refine ⟨len, fun A outer s H args us vs Q E hr e0 hb r hsp => ?_⟩
  have up : ∀ b o, base.get? b = some o → s.heap.get? b = some o := fun b o e => (e0.bs b o e).1
  have KX : K.In s.heap := e0.mod.kin.keeps up
  have par : ∀ y ∈ ps.zip us, scope.names.lookup y.1 = some .local ∨ (scope.names.lookup y.1 = some .cell ∧ ((cellsFrom (s.heap.objs.size + 1) scope.names []).lookup y.1).isSome = true) := by
    rintro ⟨n, v⟩ hy
    exact (S.par n (List.of_mem_zip hy).1).imp id fun q => ⟨q, PySem.W.cellsFrom_some _ _ _ (.inl q)⟩
  refine codeAny_call_function hr.depth (KX _ _ lk) rfl S.co S.gen rfl (PySem.W.codeRec_of KX hcd) (hb _ _ _ _ (wpAny_newFunctionEnv_cells S.kind par fun env he s1 x => ?_))
  subst he
  obtain ⟨t, ht, hq⟩ := hbody cdv A outer s H vs Q E (hr.deeper _) hsp
  refine ⟨(e0.mod.nolimit.keeps up).keeps x.toInCall.keep, codeAny_func (wpAny_mono (ht.run [] s1 (start N vs) H _ (inv_start S hr.hd e0 (len _ _ _ _ hsp) r x) hq) (fun fl s' hs => ?_) fun e s' hs => hs)⟩
  cases fl with
  | ret u =>
    obtain ⟨v, σ', H', J, rv, q⟩ := hs
    exact ⟨v, H', J.os, J.bare, J.base, J.hok, rv, q⟩
  | next =>
    obtain ⟨σ', H', J, q⟩ := hs
    exact ⟨V.non, H', J.os, J.bare, J.base, J.hok, rfl, q⟩
  | brk => exact (hs.elim fun _ z => z.elim fun _ z => z.2).elim
  | cont => exact (hs.elim fun _ z => z.elim fun _ z => z.2).elim
end
structure CalG (P : Program) (w : World) (K : PySem.W.Frag) (mg : Str → Option Value) (base : Heap) (CX : CXT) (x : Str) (k : Nat) (ps : List Str) (dvs : List V) (sp : Sp) : Prop where
  ex : ∃ f fd ds, FnG P w K mg base CX k f fd ps sp ∧ mg x = some (.ref f) ∧ PySem.W.keepIn K (.ref f) = true ∧ Binds K fd ps ds ∧ Vals dvs ds
section
variable {X : Cx} {CX : CXT} {k : Nat} {ps : List Str} {sp : Sp} {dvs : List V} {E : XK} {x : Str} {p pos : Pos} {e : Expr} {es : List Expr} {t : TA}
theorem me_callG (C : CalG X.prog X.w X.K X.mg X.base CX x k ps dvs sp) (hr : RoomG k X.A) (hg : Gl X x) (hx : Passes CX X E) (ha : PA X (e :: es) t) (hdb : (x == ("__debug__" : Str)) = false := by decide)
    (he : starEach (e :: es) X.env = (false, eval e X.env) :: starEach es X.env := by rfl) (hpl : (backTo pos (starEach es X.env)).any (·.1) = false := by rfl) : PE X (.Call (.Name x p) (e :: es) [] pos) (tCall sp dvs E t) := by
  obtain ⟨f, fd, ds, F, hm, hk, hb, hd⟩ := C.ex
  refine ⟨fun pins s σ H Q I h => wpAny_Call_Name_kw (ld_glob I hg hm (PySem.W.callWith_K (h₀ := X.base) I.ok.mod.kin hk (thn (ha.run pos pins s σ H _ I h) fun us s1 ⟨vs, H1, I1, r, q⟩ => ⟨I1.kIn, ?_⟩) he hpl) hdb)⟩
  have r2 : Vals (vs ++ dvs) (us ++ ds) := r.append hd
  refine wpAny_call (codeAny_mono (F.run X.A X.stack s1 H1 ⟨us, []⟩ (us ++ ds) (vs ++ dvs) Q E hr I1.env0 (hb s1 us I1.kIn (r2.length.symm.trans (F.len _ _ _ _ q))) r2 q) fun r s' hq => ?_)
  rcases r with er | fl
  · exact hx pins σ H1 s1 er s' I1 hq
  · cases fl with
    | ret u => exact I1.after hq
    | next => exact False.elim hq
    | brk => exact False.elim hq
    | cont => exact False.elim hq
end
/-! ### repr -/
section
variable {X : Cx}
def fd1 : V → Option PyData
  | .int i => some (.int i)
  | .str z => some (.str z)
  | .bl b => some (.bool b)
  | .non => some .none
  | _ => none
def kd1 : Key → PyData
  | .inl i => .int i
  | .inr x => .str x
def fdKV : List (Key × V) → Option (List (PyData × PyData))
  | [] => some []
  | (k, v) :: r => match fd1 v, fdKV r with
    | some d, some q => some ((kd1 k, d) :: q)
    | _, _ => none
/-- what repr shows of a value -/
inductive Sh (K : PySem.W.Frag) (H : Hp) : V → PyData → Prop
  | dp {v : V} {d : PyData} : Dp K H v d → d.hasDict = false → Sh K H v d
  | dct {a : Addr} {kvs : List (Key × V)} {ds : List (PyData × PyData)} : H a = some (.dK kvs) → fdKV kvs = some ds → Sh K H (.ref a) (.dict ds)
def mRepr (K : PySem.W.Frag) : List V → Hp → VK → Prop := fun xs H Q => match xs with
  | [x] => ∃ d, Sh K H x d ∧ d.showable = true ∧ d.depth ≤ 64 ∧ d.shown.length ≤ sizeLine ∧ Q (.str d.shown) H
  | _ => False
theorem rd1 {h : Heap} {v : V} {u : Value} {d : PyData} (r : RelV v u) (e : fd1 v = some d) : Reads h u d [] := by
  cases v with
  | int i => obtain ⟨t, rfl⟩ := r; cases e; exact .int i t
  | str z => obtain ⟨t, rfl⟩ := r; cases e; exact .str z t
  | bl b => cases r; cases e; exact .bool b
  | non => cases r; cases e; exact .none
  | _ => cases e
theorem rdKV {P : Program} {w : World} {h : Heap} : ∀ {kvs : List (Key × V)} {vs : List (Key × Value)} {es : List DictEntry} {ds : List (PyData × PyData)}, KV kvs vs → Pairs (mixKind P w) es vs → fdKV kvs = some ds →
    ReadsAll h (es.map (·.key)) (ds.map (·.1)) [] ∧ ReadsAll h (es.map (·.val)) (ds.map (·.2)) []
  | _, _, _, _, .nil, .nil, e => by cases e; exact ⟨.nil, .nil⟩
  | (k, v) :: r, (k', u) :: r', en :: es, ds, .cons hk hr, .cons h1 h2 h3, e => by
    obtain ⟨e1, e2⟩ := hk
    unfold fdKV at e
    split at e
    · rename_i d q ed eq
      cases e
      obtain ⟨a1, a2⟩ := rdKV (h := h) hr h3 eq
      refine ⟨?_, ?_⟩
      · refine ReadsAll.cons (as := []) (bs := []) ?_ a1
        show Reads h en.key (kd1 k) []
        have e1' : k = k' := e1
        subst e1'
        rcases keyIs_shape (show keyIs _ en.key = true from h1) with ⟨i, t, z1, z2⟩ | ⟨x, t, z1, z2⟩
        · have z1' : k = .inl i := z1
          rw [z2, z1']; exact .int i t
        · have z1' : k = .inr x := z1
          rw [z2, z1']; exact .str x t
      · refine ReadsAll.cons (as := []) (bs := []) ?_ a2
        show Reads h en.val d []
        rw [h2]
        exact rd1 e2 ed
    · cases e
theorem call_reprM {k : Nat} (hr : RoomG k X.A) : CallR X (.builtin "repr") (mRepr X.K) := by
  intro pins s σ H xs us Q I r h
  unfold mRepr at h
  split at h
  · rename_i x
    obtain ⟨d, hs, h1, h2, h3, q⟩ := h
    obtain ⟨u, rfl, ru⟩ := vals_one r
    have hun := hr.un
    have fin : ∀ (a : Addr) (as : List Addr), Reads s.heap (.ref a) d as → (d.hasDict = true → sysModules ∉ as) → wpAny (model X.prog X.w) X.A (call (.builtin "repr") [.ref a]) (EP X pins σ Q) X.xe s := fun a as rd hsm =>
      repr_of_reads' rd h1 hsm hr.gd (by omega) (fun _ _ e => e) (fun h' u tk k => ⟨.str d.shown, H, I.kept (t' := tk) k, ⟨u, rfl⟩, q⟩) h3
    cases hs with
    | dp hd hn =>
      obtain ⟨as, rd⟩ := Dp.reads I d x u hd ru
      have hsm : d.hasDict = true → sysModules ∉ as := PyData.noDict_hsm hn
      cases rd with
      | none => exact PySem.P.repr_of_none ⟨.str "None", H, I.tok _, ⟨_, rfl⟩, by simpa only [PyData.shown] using q⟩
      | bool b => exact PySem.P.repr_of_bool ⟨.str (if b then "True" else "False"), H, I.tok _, ⟨_, rfl⟩, by simpa only [PyData.shown] using q⟩
      | int i t => exact PySem.P.repr_of_int (by simpa [PyData.showable] using h1) ⟨.str (toString i), H, I.tok _, ⟨_, rfl⟩, by simpa only [PyData.shown] using q⟩
      | str z t => exact PySem.P.repr_of_str ⟨.str (reprText z), H, I.tok _, ⟨_, rfl⟩, by simpa only [PyData.shown] using q⟩ (by simpa only [PyData.shown] using h3)
      | list e1 e2 e3 e4 => exact fin _ _ (.list e1 e2 e3 e4) hsm
      | tuple e1 e2 e3 e4 => exact fin _ _ (.tuple e1 e2 e3 e4) hsm
      | dict e1 e2 e3 e4 e5 => exact fin _ _ (.dict e1 e2 e3 e4 e5) hsm
    | @dct a kvs ds ha hf =>
      cases ru
      obtain ⟨_, hns, vs, hkv, o, es, ep, e1, e2, e3, e4, e5, e6⟩ := dk_of I.hok ha
      obtain ⟨r1, r2⟩ := rdKV (h := s.heap) hkv e5 hf
      refine fin a ([a] ++ [] ++ []) (.dict e1 e2.1 e3 r1 r2) fun _ hm => ?_
      have z : sysModules = a := by simpa using hm
      rw [z] at hns
      simp at hns
  · exact h.elim
end
/-! ### a kept error's field, its class -/
structure ExcK (K : PySem.W.Frag) (fl : Str) (C : Addr) : Prop where
  ga : PySem.W.findIn K (.ref C) "__getattribute__" = some (some (.builtin "BaseException.__getattribute__"))
  gg : PySem.W.findIn K (.ref C) "__getattr__" = some none
  nf : PySem.W.findIn K (.ref C) fl = some none
  hd : PySem.W.hasDictIn K C = true
  exC : PySem.W.subIn K (.ref C) (.type "BaseException") = some true
  ha : PySem.W.findIn K (.ref C) "__class__" = some (some (.builtin "object.__class__"))
  hn : PySem.W.specialIn K (.builtin "object.__class__") "__get__" = some (some (.builtin "getset_descriptor.__get__"))
  ht : PySem.W.takesIn K (.builtin "object.__class__") = some true
  hm : PySem.W.mroIn K C (.type "object") = some true
def mFld (K : PySem.W.Frag) (fl : Str) (te : TE) : TE := fun σ H Q => te σ H fun x H1 => match x with
  | .ref a => ∃ (C d : Addr) (v : V), ExcK K fl C ∧ H1 a = some (exk a (.ref C) (some d)) ∧ H1 d = some (.xd [(fl, v)]) ∧ Q v H1
  | _ => False
section
variable {X : Cx}
theorem inst_of {pins : List (Addr × Obj)} {σ : L2.St} {H : Hp} {s : Shared} {a C d : Addr} {fs : List (Str × V)} (I : L2.Inv X pins σ H s) (h1 : H a = some (exk a (.ref C) (some d))) (h2 : H d = some (.xd fs)) :
    ∃ (o od : Obj) (mA : Str → Option Value), PySem.W.InstAt s.heap a o C (some od) ∧ s.heap.Ns1 d mA ∧ (∀ f, RelO (fs.lookup f) (mA f)) ∧ s.heap.get? d = some od := by
  obtain ⟨o, vs, e1, e2, e3, e4⟩ := exk_at I.hok h1
  have hx : ObjOk X.prog X.w H s.heap d (.xd fs) := I.hok d _ h2
  obtain ⟨mA, hns, hr⟩ := hx
  obtain ⟨od, ho, hl⟩ := lookIn_ns hns
  exact ⟨o, od, mA, ⟨e1, e2, by unfold PySem.W.notCls; rw [e4] <;> rfl, by rw [e3]; exact ho⟩, hns, hr, ho⟩
theorem me_fld {e : Expr} {te : TE} {fl : Str} {pos : Pos} (he : PE X e te) (hb : attributeBase e fl X.env (eval e X.env) = eval e X.env := by rfl) : PE X (.Attribute e fl pos) (mFld X.K fl te) := by
  refine ⟨fun pins s σ H Q I h => attr_of hb (thn ((pe_cl he).run pins s σ H (fun x H1 => ∃ (a C d : Addr) (v : V), x = .ref a ∧ ExcK X.K fl C ∧ H1 a = some (exk a (.ref C) (some d)) ∧ H1 d = some (.xd [(fl, v)]) ∧ Q v H1) I ⟨_, h, fun x H1 z => ?_⟩) fun u s1 hh => ?_)⟩
  · cases x with
    | ref a => obtain ⟨C, d, v, z⟩ := z; exact ⟨a, C, d, v, rfl, z⟩
    | _ => exact z.elim
  · obtain ⟨_, H1, I1, rx, a, C, d, v, rfl, T, h1, h2, q⟩ := hh
    cases rx
    obtain ⟨o, od, mA, J, hns, hr, ho⟩ := inst_of I1 h1 h2
    obtain ⟨od', ho', hl⟩ := lookIn_ns hns
    rw [ho] at ho'
    cases ho'
    have l : List.lookup fl [(fl, v)] = some v := by simp [List.lookup]
    obtain ⟨u, hu, ru⟩ := RelO.some_of (v := v) (o := mA fl) (by rw [← l]; exact hr fl)
    exact HandSPX.exc_get I1.kIn J T.ga T.gg T.exC (PySem.W.findObj_own T.hd T.nf rfl (by rw [hl, hu])) (handed_of ru) ⟨v, H1, I1.tok _, ru, q⟩
/-- isinstance(x, C'), x None or a kept error -/
def mIsiE (K : PySem.W.Frag) : List V → Hp → VK → Prop := fun xs H Q => match xs with
  | [.ref a, .ref C'] => ∃ (C d : Addr) (fl : Str) (fs : List (Str × V)) (b : Bool), ExcK K fl C ∧ H a = some (exk a (.ref C) (some d)) ∧ H d = some (.xd fs) ∧ PySem.W.kitOne K (.ref C) (.ref C') = some b ∧ Q (.bl b) H
  | _ => mIsi K xs H Q
theorem call_isiE : CallR X (.builtin "isinstance") (mIsiE X.K) := by
  intro pins s σ H xs us Q I r h
  unfold mIsiE at h
  split at h
  · rename_i a C'
    obtain ⟨C, d, fl, fs, b, T, h1, h2, hk, q⟩ := h
    cases r with
    | cons rx rr => cases rr with
      | cons rt rr =>
        cases rr; cases rx; cases rt
        obtain ⟨o, od, mA, J, _⟩ := inst_of I h1 h2
        obtain ⟨cd, hcd, _⟩ := PySem.W.any_some T.hd
        exact PySem.W.kia_one (PySem.W.kitx_exc (by rw [hcd]; rfl) T.ga T.gg T.exC T.ha T.hn T.ht T.hm) I.kIn J hk (fun z => nomatch z) fun tk => ⟨.bl b, H, I.kept (t' := tk) fun _ _ z => z, rfl, q⟩
  · exact call_isiM pins s σ H xs us Q I r h
end
end M

/-! ### the law's end for such defs -/
namespace M
open PySem PySem.Spec PyProof.Rows L2
section
variable {P : Program} {w : World} {K : PySem.W.Frag} {mg mb : Str → Option Value} {CX : CXT} {k : Nat} {fa a : Addr} {fd : FuncData} {x : Str} {sp : Sp} {s₁ : Shared} {vs : List Value} {ns : List Int}
/-- all but what H tracks is the ground -/
theorem ground_of {H : Hp} (KX : K.In s₁.heap) (hns : s₁.heap.Ns mainGlobals mg) (hb : s₁.heap.Ns builtinsNs mb) (hbb : ∀ x : Str, x ≠ "__name__" → mb x = bootBuiltins x) (hlim : s₁.heap.NoLimit) (hg : s₁.gens = #[])
    (hok : HOk P w H s₁.heap) (noD : ∀ b o es ep, s₁.heap.get? b = some o → o.data = .dict es ep → H b = none) (noK : ∀ b o, K.lookup b = some o → H b = none) :
    K.In (hidT s₁.heap H) ∧ (hidT s₁.heap H).Ns mainGlobals mg ∧ Env0 P w K mg (hidT s₁.heap H) callerA [] s₁ H := by
  have names : ∀ {b : Addr} {m : Str → Option Value}, s₁.heap.Ns b m → (hidT s₁.heap H).Ns b m := by
    rintro b m ⟨o, es, ep, e, d, r⟩
    exact ⟨o, es, ep, hidT_get e (noD b o es ep e d), d, r⟩
  have kin : K.In (hidT s₁.heap H) := fun b o e => hidT_get (KX b o e) (noK b o e)
  obtain ⟨mc, l1, l2⟩ := hlim
  refine ⟨kin, names hns, rfl, ⟨kin, names hns, ⟨mb, names hb, hbb⟩, mc, names l1, l2⟩, fun b o e => of_hidT e, Nat.le_of_eq (hidT_size _ _), trivial, fun b z => ?_, hok, .of_eq hg⟩
  cases z
theorem law_runG {H : Hp} (F : FnG P w K mg (hidT s₁.heap H) CX k fa fd [x] sp) (hr : RoomG k callerA) (e0 : Env0 P w K mg (hidT s₁.heap H) callerA [] s₁ H) (hbind : ∀ (s : Shared) (u : Value), BindsTo s fd ⟨[u], []⟩ [(x, u)]) (hO : Only H)
    (hsp : sp [.ref a] H (fun v _ => v = .bl true) fun _ _ _ => False) (hCX : ∀ H e s', CX [] H s₁ (fun _ _ _ => False) e s' → False) :
    codeAny (model P w) callerA (.call (.ref fa) ⟨[.ref a], []⟩) (fun r s' => r = .ok (.ret (.bool true)) ∧ OldK s₁.heap s'.heap ∧ s'.os = s₁.os ∧ AllBare s'.gens) s₁ := by
  refine codeAny_mono (F.run callerA [] s₁ H ⟨[.ref a], []⟩ [.ref a] [.ref a] _ _ hr e0 (hbind s₁ (.ref a)) (.cons rfl .nil) hsp) fun r s' h => ?_
  rcases r with e | fl
  · exact (hCX H e s' h).elim
  rcases fl with _ | _ | _ | u
  all_goals first | exact False.elim h | skip
  obtain ⟨v, H', os, bare, un, hok', rv, q⟩ := h
  cases (show v = .bl true from q)
  cases (show u = Value.bool true from rv)
  refine ⟨rfl, OldK.of_keep fun b o e => ?_, os, bare⟩
  rcases hO b with z | ⟨ob, xs, z⟩
  · exact un.keep b o e z (fun y => by cases y) (fun y => by cases y)
  · have e1 := (e0.hok b _ z).1
    have e2 := (hok' b _ (un.frzs b ob _ z)).1
    rw [e] at e1
    cases e1
    exact e2
theorem law_callG (KX : K.In s₁.heap) (hns : s₁.heap.Ns mainGlobals mg) (hb : s₁.heap.Ns builtinsNs mb) (hbb : ∀ x : Str, x ≠ "__name__" → mb x = bootBuiltins x) (hlim : s₁.heap.NoLimit) (hg : s₁.gens = #[])
    (ha : s₁.heap.get? a = some { cls := .type "list", data := .seq vs.toArray }) (hi : IntsAre vs ns) (hl : ns.length ≤ sizeLine) (hr : RoomG k callerA)
    (F : ∀ base : Heap, K.In base → base.Ns mainGlobals mg → FnG P w K mg base CX k fa fd [x] sp) (hbind : ∀ (s : Shared) (u : Value), BindsTo s fd ⟨[u], []⟩ [(x, u)])
    (hsp : ∀ H : Hp, Only H → SqL K H a (ns.map V.int) → sp [.ref a] H (fun v _ => v = .bl true) fun _ _ _ => False)
    (hCX : ∀ H e s', CX [] H s₁ (fun _ _ _ => False) e s' → False) :
    codeAny (model P w) callerA (.call (.ref fa) ⟨[.ref a], []⟩) (fun r s' => r = .ok (.ret (.bool true)) ∧ OldK s₁.heap s'.heap ∧ s'.os = s₁.os ∧ AllBare s'.gens) s₁ := by
  have go : ∀ H : Hp, Only H → SqL K H a (ns.map V.int) → HOk P w H s₁.heap → (∀ b, b ≠ a → H b = none) → (∀ o, K.lookup a = some o → H a = none) →
      codeAny (model P w) callerA (.call (.ref fa) ⟨[.ref a], []⟩) (fun r s' => r = .ok (.ret (.bool true)) ∧ OldK s₁.heap s'.heap ∧ s'.os = s₁.os ∧ AllBare s'.gens) s₁ := by
    intro H hO hS hok oth own
    obtain ⟨kin, nm, e0⟩ := ground_of KX hns hb hbb hlim hg hok (fun b o es ep e d => oth b fun z => by rw [z, ha] at e; cases e; cases d) fun b o e => by
      by_cases z : b = a
      · subst z; exact own o e
      · exact oth b z
    exact law_runG (F _ kin nm) hr e0 hbind hO (hsp H hO hS) hCX
  have rv := vals_ints hi
  cases hk : K.lookup a with
  | some o =>
    have e := KX a o hk
    rw [ha] at e
    cases e
    exact go (fun _ => none) (fun _ => .inl rfl) (.inr ⟨_, vs.toArray, _, hk, rfl, rfl, rfl, by rw [List.size_toArray, hi.length]; exact hl, by simpa using rv⟩) (fun b u z => nomatch (show (none : Option HO) = some u from z)) (fun _ _ => rfl) fun _ _ => rfl
  | none =>
    refine go (upd (fun _ => none) a (.frz { cls := .type "list", data := .seq vs.toArray } (.lst (ns.map V.int)))) (fun b => ?_) (.inl (.inr ⟨_, upd_same⟩)) (fun b u z => ?_) (fun b h => upd_ne h) fun o z => by rw [hk] at z; cases z
    · by_cases h : b = a
      · subst h; exact .inr ⟨_, _, upd_same⟩
      · exact .inl (upd_ne h)
    · by_cases h : b = a
      · subst h
        rw [upd_same] at z
        cases z
        exact ⟨ha, by rw [List.length_map]; exact hl, vs, _, rv, ha⟩
      · rw [upd_ne h] at z
        cases z
end
theorem walk_ofG {l : PySem.W.OpenLaw} {n k : Nat} {q : Program} {loose : List Str} {XP : (Str → Option Value) → Heap → Prop} {YP : World → Heap → Prop} {d : DefRec} {CX : CXT} {x : Str}
    (hn : l.most = some n) (hn2 : n ≤ sizeLine) (hdf : d.params.defaults = []) (hr : RoomG k callerA)
    (F : ∀ (w : World) (mg : Str → Option Value) (fa : Addr) (h : Heap), YP w h → h.Ns mainGlobals mg → mg d.name = some (.ref fa) →
      ∃ (K : PySem.W.Frag) (fd : FuncData) (sp : Sp), K.In h ∧ (∀ (s : Shared) (u : Value), BindsTo s fd ⟨[u], []⟩ [(x, u)]) ∧
        (∀ (H : Hp) (a : Addr) (ns : List Int), ns.length ≤ n → Only H → SqL K H a (ns.map V.int) → sp [.ref a] H (fun v _ => v = .bl true) fun _ _ _ => False) ∧
        ∀ base : Heap, K.In base → base.Ns mainGlobals mg → FnG l.prog w K mg base CX k fa fd [x] sp)
    (hCX : ∀ (H : Hp) (s : Shared) (e : Value) (s' : Shared), CX [] H s (fun _ _ _ => False) e s' → False) :
    PySem.W.WalkO q loose XP YP l.row.toRowW d [] (fun f vs => PySem.call f vs) := by
  refine Att.attach_call hn hdf fun w s₀ s₁ mg mb fa o pm cd doc a vs ns G Y ho hd hcd hmg hobj hints hlen hg => ?_
  obtain ⟨K, fd, sp, KX, hb, hsp, hF⟩ := F w mg fa _ Y G.T.g hmg
  exact law_callG KX G.T.g G.T.b G.T.builtins G.T.nolimit hg hobj hints (Nat.le_trans hlen hn2) hr hF hb (fun H hO hS => hsp H a ns hlen hO hS) fun H e s' => hCX H s₁ e s'
end M

/-! ### the head's facts, own errors among them -/
namespace M
open PySem PySem.Spec PyProof.Rows L2
/-- a def, its closure's names told -/
structure DefX where
  at_ : Str × Option Str
  name : Str
  qual : Str
  params : Arguments
  body : List Stmt
  scope : Scope
  dfl : List He.Dv := []
  kwd : List (Str × He.Dv) := []
  clos : List Str := []
abbrev FnX : Type := Option (Str × Str × Arguments × FuncBody × Scope × Addr × List Str × Addr)
def fnX (K : PySem.W.Frag) (p : Str × Option Str) : FnX := match K.lookup (He.fAd K p) with
  | some ⟨_, _, .func fd, _⟩ => some (fd.name, fd.qualname, fd.params, fd.body, fd.scope, fd.globals, fd.closure.map (·.1), fd.builtins)
  | _ => none
def DefX.val (d : DefX) : FnX := some (d.name, d.qual, d.params, .stmts d.body, d.scope, mainGlobals, d.clos, builtinsNs)
def DefX.dvs (K : PySem.W.Frag) (d : DefX) : List V := d.dfl.map (He.Dv.v K)
def DefX.kws (K : PySem.W.Frag) (d : DefX) : List (Str × V) := d.kwd.map fun q => (q.1, q.2.v K)
def DefX.ok (K : PySem.W.Frag) (d : DefX) : Bool := PySem.W.keepIn K (.ref (He.fAd K d.at_)) && (match K.lookup (He.fAd K d.at_) with
  | some ⟨_, _, .func fd, _⟩ => PySem.W.codeIn K fd.code d.qual && (He.dflB K fd.defaults (d.dvs K) && He.kwdB K fd.kwdefaults (d.kws K))
  | _ => false)
theorem DefX.look {K : PySem.W.Frag} {d : DefX} (e : fnX K d.at_ = d.val) (c : d.ok K = true) : PySem.W.keepIn K (.ref (He.fAd K d.at_)) = true ∧ ∃ (oc : Value) (od : Option Addr) (cl : List (Str × Addr)) (dV kV doc pm : Value) (an : Option Addr) (cdv ct : Value) (osl : Array (Option Value)),
    K.lookup (He.fAd K d.at_) = some ⟨oc, od, .func (PySem.W.fnX d.name d.qual d.params d.body d.scope cl dV kV doc pm an cdv ct), osl⟩ ∧ cl.map (·.1) = d.clos ∧ PySem.W.codeIn K cdv d.qual = true ∧ DflV K dV (d.dvs K) ∧ KwdV K kV (d.kws K) := by
  obtain ⟨kp, c2⟩ := He.ba c
  refine ⟨kp, ?_⟩
  unfold M.fnX at e
  cases q : K.lookup (He.fAd K d.at_) with
  | none =>
    rw [q] at c2
    cases c2
  | some o =>
    obtain ⟨oc, od, dt, osl⟩ := o
    rw [q] at c2 e
    cases dt with
    | func fd =>
      obtain ⟨n1, n2, n3, n4, n5, n6, n7, n8, n9, n10, n11, n12, n13, n14, n15⟩ := fd
      have e2 : (some (n1, n2, n3, n4, n5, n6, n7.map (·.1), n15) : FnX) = some (d.name, d.qual, d.params, .stmts d.body, d.scope, mainGlobals, d.clos, builtinsNs) := e
      simp only [Option.some.injEq, Prod.mk.injEq] at e2
      obtain ⟨h1, h2, h3, h4, h5, h6, h7, h8⟩ := e2
      subst h1 h2 h3 h4 h5 h6 h8
      obtain ⟨k1, k2⟩ := He.ba (show (PySem.W.codeIn K n13 d.qual && (He.dflB K n8 (d.dvs K) && He.kwdB K n9 (d.kws K))) = true from c2)
      obtain ⟨k3, k4⟩ := He.ba k2
      exact ⟨oc, od, n7, n8, n9, n10, n11, n12, n13, n14, osl, rfl, h7, k1, He.dflB_ok k3, He.kwdB_ok k4⟩
    | _ => cases c2
theorem DefX.funD {K : PySem.W.Frag} {d : DefX} (e : fnX K d.at_ = d.val) (c : d.ok K = true) (h : d.clos = []) : ∃ fd, FunD K d.name d.qual d.params d.body d.scope (d.dvs K) (d.kws K) (He.fAd K d.at_) fd := by
  obtain ⟨kp, oc, od, cl, dV, kV, doc, pm, an, cdv, ct, osl, lk, hc, h1, h2, h3⟩ := DefX.look e c
  rw [h] at hc
  obtain rfl : cl = [] := List.map_eq_nil_iff.mp hc
  exact ⟨_, ⟨oc, od, dV, kV, doc, pm, an, cdv, ct, osl, rfl, lk, h1, h2, h3⟩, kp⟩
abbrev FaX : Type := PySem.W.Frag → Bool
def asX (g : Addr → Option Obj) : Nat → List Addr
  | 0 => [mainGlobals, cStatics]
  | n + 1 => He.growD g (asX g n)
abbrev AlX : Type := Bool × List FnX
def obsX (fa : List FaX) (fn : List DefX) (K : PySem.W.Frag) : AlX := ((fa.all fun f => f K) && fn.all fun d => d.ok K, fn.map fun d => fnX K d.at_)
def valX (fn : List DefX) : AlX := (true, fn.map DefX.val)
def SaysX (fa : List FaX) (fn : List DefX) (K : PySem.W.Frag) : Prop := obsX fa fn K = valX fn
def obsXG (n : Nat) (fa : List FaX) (fn : List DefX) (g : Addr → Option Obj) : AlX := obsX fa fn (He.frG g (asX g n))
def hookX (n : Nat) (fa : List FaX) (fn : List DefX) : PySem.W.Hook where
  α := AlX
  obs := fun s => obsXG n fa fn s.heap.get?
  val := fun _ => valX fn
  says := fun _ h => ∃ K : PySem.W.Frag, K.In h ∧ SaysX fa fn K
  of := fun _ _ e => ⟨_, He.frG_in, e⟩
  keeps := fun _ _ _ ⟨K, hK, c⟩ k => ⟨K, PySem.W.Frag.In.keeps hK k, c⟩
theorem obsXG_eq {n : Nat} {fa : List FaX} {fn : List DefX} {g : Addr → Option Obj} {s : Shared} (h : ∀ a, g a = s.heap.get? a) : obsXG n fa fn g = (hookX n fa fn).obs s := by
  have e : g = s.heap.get? := funext h
  rw [e] <;> rfl
section
variable {fa : List FaX} {fn : List DefX} {K : PySem.W.Frag}
theorem SaysX.fact (c : SaysX fa fn K) (i : Nat) {f : FaX} (h : fa[i]? = some f := by rfl) : f K = true := by
  have c1 := (He.ba (show ((fa.all fun f => f K) && fn.all fun d => d.ok K) = true from congrArg (fun z : AlX => z.1) c)).1
  exact List.all_eq_true.mp c1 f (List.mem_of_getElem? h)
theorem SaysX.def0 (c : SaysX fa fn K) (i : Nat) {d : DefX} (h : fn[i]? = some d := by rfl) : fnX K d.at_ = d.val ∧ d.ok K = true := by
  have c2 := (He.ba (show ((fa.all fun f => f K) && fn.all fun d => d.ok K) = true from congrArg (fun z : AlX => z.1) c)).2
  have e : fn.map (fun d => fnX K d.at_) = fn.map DefX.val := congrArg (fun z : AlX => z.2) c
  have e2 : (fn.map fun d => fnX K d.at_)[i]? = (fn.map DefX.val)[i]? := by rw [e]
  rw [List.getElem?_map, List.getElem?_map, h] at e2
  exact ⟨Option.some.inj e2, List.all_eq_true.mp c2 d (List.mem_of_getElem? h)⟩
theorem SaysX.def_ (c : SaysX fa fn K) (i : Nat) {d : DefX} (h : fn[i]? = some d := by rfl) (hc : d.clos = [] := by rfl) : ∃ fd, FunD K d.name d.qual d.params d.body d.scope (d.dvs K) (d.kws K) (He.fAd K d.at_) fd :=
  DefX.funD (c.def0 i h).1 (c.def0 i h).2 hc
end
end M

namespace M
open PySem PySem.Spec PyProof.Rows L2 PySem.HandSPX
/-- the class at C is an own error class -/
def oexB (K : PySem.W.Frag) (C : Addr) : Bool := match K.lookup C with
  | some ⟨c, _, .cls cd, sl⟩ => decide (c = .type "type") && (cd.hasDict && (!cd.hasDel && (match cd.mro, sl.toList with
    | .ref C' :: bm, [_, _, _, _, some (.builtin n), _] => decide (C' = C) && (decide (n = "ValueError.__new__") && refsVE bm)
    | _, _ => false)))
  | _ => false
theorem oexB_ok {K : PySem.W.Frag} {C : Addr} (h : oexB K C = true) : ∃ nm q N bs bm sn sub ab col dd k0 k1 k2 k3 k5, K.lookup C = some (excClassObj nm q C N bs bm true sn sub ab col dd k0 k1 k2 k3 k5 "ValueError.__new__") ∧ refsVE bm = true := by
  unfold oexB at h
  split at h
  · rename_i c dd cd sl ho
    obtain ⟨h1, h⟩ := He.ba h
    obtain ⟨h2, h⟩ := He.ba h
    obtain ⟨h3, h⟩ := He.ba h
    split at h
    · rename_i C' bm k0 k1 k2 k3 n k5 hm hs
      obtain ⟨h4, h⟩ := He.ba h
      obtain ⟨h5, h6⟩ := He.ba h
      obtain ⟨nm, bs, mro, N, qn, hd, sn, sub, ab, col, del⟩ := cd
      obtain ⟨sl⟩ := sl
      have e3 : del = false := by simpa using h3
      have e2 : hd = true := h2
      have e1 := of_decide_eq_true h1
      have e4 := of_decide_eq_true h4
      have e5 := of_decide_eq_true h5
      dsimp only at hm hs
      subst e1 e2 e3 e4 e5 hm hs
      exact ⟨nm, qn, N, bs, bm, sn, sub, ab, col, dd, k0, k1, k2, k3, k5, ho, h6⟩
    · cases h
  · cases h
def cellB (P : Program) (K : PySem.W.Frag) (C : Addr) (f : Addr) : Bool := match K.lookup f with
  | some ⟨_, _, .func fd, _⟩ => (match fd.code with
    | .ref cda => (match K.lookup cda with
      | some ⟨_, _, .fields vs, _⟩ => (match (vs[2]? : Option Value) with
        | some (.str file _) => (P.main.file : Str) == file
        | _ => false)
      | _ => false)
    | _ => false) && (match fd.closure with
      | [(_, cc)] => (match K.lookup cc with
        | some ⟨_, _, .cell (some (.ref D)), _⟩ => decide (D = C)
        | _ => false)
      | _ => false)
  | _ => false
def exB (P : Program) (x fl : Str) (K : PySem.W.Frag) : Bool :=
  He.eqO (PySem.W.nsIn K mainGlobals x) (some (some (.ref (He.ga K x)))) && (oexB K (He.ga K x) && (He.eqO (PySem.W.findIn K (.ref (He.ga K x)) "__setattr__") (some (some (.builtin "object.__setattr__"))) &&
  (decide (PySem.W.subIn K (.ref (He.ga K x)) (.type "BaseException") = some true) && (decide (PySem.W.typeIn K (.ref (He.ga K x)) = some (.type "type")) && (PySem.W.keepIn K (.ref (He.ga K x)) &&
  (He.eqO (PySem.W.findIn K (.ref (He.ga K x)) "__getattribute__") (some (some (.builtin "BaseException.__getattribute__"))) && (He.eqO (PySem.W.findIn K (.ref (He.ga K x)) "__getattr__") (some none) && (He.eqO (PySem.W.findIn K (.ref (He.ga K x)) fl) (some none) &&
  (PySem.W.hasDictIn K (He.ga K x) && (He.eqO (PySem.W.findIn K (.ref (He.ga K x)) "__init__") (some (some (.ref (He.ma K (He.ga K x) "__init__")))) && (decide (PySem.W.typeIn K (.ref (He.ma K (He.ga K x) "__init__")) = some (.type "function")) &&
  (cellB P K (He.ga K x) (He.ma K (He.ga K x) "__init__") && (He.eqO (PySem.W.nsIn K cStatics "thirdparty.any") (some none) && (He.eqO (PySem.W.ks_superIn K (He.ga K x) (He.ga K x) "__init__") (some (some (.builtin "ValueError.__init__"))) &&
  (decide (PySem.W.mroIn K (He.ga K x) (.ref (He.ga K x)) = some true) && (decide (PySem.W.subIn K (.ref (He.ga K x)) (.type "ValueError") = some true) && (He.eqO (PySem.W.findIn K (.ref (He.ga K x)) "__class__") (some (some (.builtin "object.__class__"))) &&
  (He.eqO (PySem.W.nsIn K mainGlobals "super") (some none) && decide (PySem.W.mroIn K (He.ga K x) (.type "object") = some true)))))))))))))))))))
theorem ex_get {K : PySem.W.Frag} : PySem.W.specialIn K (.builtin "object.__class__") "__get__" = some (some (.builtin "getset_descriptor.__get__")) ∧ PySem.W.takesIn K (.builtin "object.__class__") = some true := by
  constructor
  · kernel_rfl
  · kernel_rfl
section
variable {P : Program} {w : World} {K : PySem.W.Frag} {h : Heap} {mg : Str → Option Value} {x fl : Str}
theorem cell_of {C f : Addr} {oc : Value} {od : Option Addr} {osl : Array (Option Value)} {fd : FuncData} (lk : K.lookup f = some ⟨oc, od, .func fd, osl⟩) (c : cellB P K C f = true) :
    (∃ (cda : Addr), fd.code = .ref cda ∧ ∃ (ccl : Value) (cdd : Option Addr) (vs : Array Value) (ccs : Array (Option Value)) (file : Str) (tf : Tok), K.lookup cda = some ⟨ccl, cdd, .fields vs, ccs⟩ ∧ vs[2]? = some (.str file tf) ∧ ((P.main.file : Str) == file) = true) ∧
    ∃ (n : Str) (cc : Addr), fd.closure = [(n, cc)] ∧ ∃ (cl : Value) (cld : Option Addr) (csl : Array (Option Value)), K.lookup cc = some ⟨cl, cld, .cell (some (.ref C)), csl⟩ := by
  unfold cellB at c
  rw [lk] at c
  obtain ⟨c1, c2⟩ := He.ba c
  constructor
  · split at c1
    · rename_i cda e1
      split at c1
      · rename_i ccl cdd vs ccs e2
        split at c1
        · rename_i file tf e3
          exact ⟨cda, e1, ccl, cdd, vs, ccs, file, tf, e2, e3, c1⟩
        · cases c1
      · cases c1
    · cases c1
  · split at c2
    · rename_i n cc e1
      split at c2
      · rename_i cl cld D csl e2
        have e := of_decide_eq_true c2
        subst e
        exact ⟨n, cc, e1, cl, cld, csl, e2⟩
      · cases c2
    · cases c2
theorem ex_of {q : List Pos} {d : DefX} {ar : Arg} (X : K.In h) (G : h.Ns mainGlobals mg) (c : exB P x fl K = true) (D : fnX K d.at_ = d.val ∧ d.ok K = true) (hat : d.at_ = (x, some ("__init__" : Str))) (hn : d.name = "__init__") (hcl : d.clos = [("__class__" : Str)]) (hdf : d.dfl = [.non])
    (hb : d.body = eiB fl q) (hp : (d.params.posonlyargs ++ d.params.args).head? = some ar) (har : ar.arg = "self") (hsf : fl ≠ "self") (hdb : (fl == ("__debug__" : Str)) = false)
    (k1 : d.scope.kind = .function) (k2 : d.scope.isGenerator = false) (k3 : d.scope.isCoroutine = false) (k4 : d.scope.names.lookup ("self" : Str) = some .local) (k5 : d.scope.names.lookup fl = some .local) (k6 : d.scope.names.lookup ("super" : Str) = some .globalImplicit)
    (k7 : d.scope.names.lookup ("__class__" : Str) = some .free) (k8 : ∀ x ∈ d.scope.names, x.2 ≠ .cell) (htop : (P.main.scope.names.lookup ("super" : Str)).isSome = false)
    (hint : ∀ env : Env, env.scope = d.scope → interactive env = false)
    (hev : ∀ env : Env, env.scope = d.scope → ∃ pl : Sem Bool, eval (.Call (.Attribute (.Call (.Name "super" (qp q 0)) [] [] (qp q 1)) "__init__" (qp q 2)) [.Name fl (qp q 3)] [] (qp q 4)) env = (do
      let ov ← attributeBase (.Call (.Name "super" (qp q 0)) [] [] (qp q 1)) "__init__" env (eval (.Call (.Name "super" (qp q 0)) [] [] (qp q 1)) env)
      standAt (qp q 2).atName
      let (f, first) ← holding [ov] (getMethod ov "__init__" pl)
      callWith (qp q 4) f first (backTo (qp q 4) (starEach [.Name fl (qp q 3)] env)) []))
    (hsw : ∀ env : Env, env.scope = d.scope → swapsWith (.Name fl (qp q 8)) (some (.Attribute (.Name "self" (qp q 6)) fl (qp q 7))) (qp q 9).line env = pure false)
    (hb2 : ∀ (T : Addr) (cl : List (Str × Addr)) (kV doc pm : Value) (an : Option Addr) (cdv ct u v : Value), ∃ k, bindArgs (PySem.W.fnX d.name d.qual d.params d.body d.scope cl (.ref T) kV doc pm an cdv ct) ⟨[u, v], []⟩ = seqItems? (.ref T) >>= k ∧ k (some #[.none]) = pure [(("self" : Str), u), (fl, v)])
    (hb1 : ∀ (T : Addr) (cl : List (Str × Addr)) (kV doc pm : Value) (an : Option Addr) (cdv ct u : Value), ∃ k, bindArgs (PySem.W.fnX d.name d.qual d.params d.body d.scope cl (.ref T) kV doc pm an cdv ct) ⟨[u], []⟩ = seqItems? (.ref T) >>= k ∧ k (some #[.none]) = pure [(("self" : Str), u), (fl, .none)])
    (hbk : ∀ (T : Addr) (cl : List (Str × Addr)) (kV doc pm : Value) (an : Option Addr) (cdv ct u v : Value), ∃ k, bindArgs (PySem.W.fnX d.name d.qual d.params d.body d.scope cl (.ref T) kV doc pm an cdv ct) ⟨[u], [(fl, v)]⟩ = seqItems? (.ref T) >>= k ∧ k (some #[.none]) = pure [(("self" : Str), u), (fl, v)]) :
    ExcAt P w K mg x fl (He.ga K x) ∧ ExcK K fl (He.ga K x) := by
  unfold exB at c
  simp only [Bool.and_eq_true, decide_eq_true_eq] at c
  obtain ⟨c1, c2, c3, c4, c5, c6, c7, c8, c9, c10, c11, c12, c13, c14, c15, c16, c17, c18, c19, c20⟩ := c
  have T : OexC K (He.ga K x) := ⟨oexB_ok c2, He.eqO_ok c3, c4, c5, c6⟩
  have hsup := PySem.W.mg_none_of X G (He.eqO_ok c19)
  obtain ⟨_, oc, od, cl, dV, kV, doc, pm, an, cdv, ct, osl, lk, hc, hcode, hD, _⟩ := DefX.look D.1 D.2
  have hf : He.fAd K d.at_ = He.ma K (He.ga K x) "__init__" := by rw [hat]; rfl
  rw [hf] at lk
  obtain ⟨⟨cda, e1, z1⟩, n, cc, e2, z2⟩ := cell_of lk c13
  obtain rfl : cdv = .ref cda := e1
  obtain rfl : cl = [(n, cc)] := e2
  rw [hcl] at hc
  obtain rfl : n = "__class__" := by simpa using hc
  have hdv : d.dvs K = [.non] := by unfold DefX.dvs; rw [hdf]; rfl
  rw [hdv] at hD
  rcases hD with ⟨z, _⟩ | ⟨_, Ta, oT, its, nT, rfl, lT, hT, rT⟩
  · cases z
  obtain ⟨u0, rfl, ru⟩ := vals_one rT
  obtain rfl : u0 = .none := ru
  have bnd : ∀ {args : Args} {r : List (Str × Value)}, (∃ k, bindArgs (PySem.W.fnX d.name d.qual d.params d.body d.scope [("__class__", cc)] (.ref Ta) kV doc pm an (.ref cda) ct) args = seqItems? (.ref Ta) >>= k ∧ k (some #[.none]) = pure r) → ∀ s : Shared, K.In s.heap →
      BindsTo s (PySem.W.fnX d.name d.qual d.params d.body d.scope [("__class__", cc)] (.ref Ta) kV doc pm an (.ref cda) ct) args r := by
    rintro args r ⟨k, e1, e2⟩ s KX
    refine BindsTo.of_looks fun M => ?_
    rw [e1]
    exact looks_items KX lT hT (.of_pure e2)
  refine ⟨⟨PySem.W.mg_of X G (He.eqO_ok c1), T, He.eqO_ok c7, He.eqO_ok c8, He.eqO_ok c9, c10, He.ma K (He.ga K x) "__init__", _, He.eqO_ok c11, c12, ?_, fun s u v KX => bnd (hb2 _ _ _ _ _ _ _ _ _ _) s KX, fun s u KX => bnd (hb1 _ _ _ _ _ _ _ _ _) s KX, fun s u v KX => bnd (hbk _ _ _ _ _ _ _ _ _ _) s KX⟩,
    ⟨He.eqO_ok c7, He.eqO_ok c8, He.eqO_ok c9, c10, c4, He.eqO_ok c18, ex_get.1, ex_get.2, c20⟩⟩
  intro A R s args x' t0 v KX lim Gs Bs hx hnx hroom hbind hq
  obtain ⟨mb, B1, B2⟩ := Bs
  rw [hn, hb] at lk hbind
  exact ini_run (mg := mg) (mb := mb) KX lim Gs B1 hsup ((B2 _ (by decide)).trans ve_slot) T (He.eqO_ok c9) lk hcode z1 z2 hp har hsf hdb k1 k2 k3 k4 k5 k6 k7 k8 htop (He.eqO_ok c14) (He.eqO_ok c15) c16 c17 hint hev hsw hx hnx hroom hbind hq
end
end M

namespace M
open PySem PySem.Spec PyProof.Rows L2
section
variable {X : Cx} {k : Nat} {ps : List Str} {sp : Sp} {dvs : List V} {W : WX} {x : Str} {p pos : Pos} {e : Expr} {es : List Expr} {t : TA}
theorem me_callS (C : CalG X.prog X.w X.K X.mg X.base (L2.CX X.prog X.w) x k ps dvs sp) (hr : RoomG k X.A) (hg : Gl X x) (tk : Takes X W) (ha : PA X (e :: es) t) (hdb : (x == ("__debug__" : Str)) = false := by decide)
    (he : starEach (e :: es) X.env = (false, eval e X.env) :: starEach es X.env := by rfl) (hpl : (backTo pos (starEach es X.env)).any (·.1) = false := by rfl) : PE X (.Call (.Name x p) (e :: es) [] pos) (tCallSD sp dvs (WE W) t) := by
  obtain ⟨f, fd, ds, F, hm, hk, hb, hd⟩ := C.ex
  refine ⟨fun pins s σ H Q I h => wpAny_Call_Name_kw (ld_glob I hg hm (PySem.W.callWith_K (h₀ := X.base) I.ok.mod.kin hk (thn (ha.run pos pins s σ H _ I h) fun us s1 ⟨vs, H1, I1, r, q⟩ => ⟨I1.kIn, ?_⟩) he hpl) hdb)⟩
  have r2 : Vals (vs ++ dvs) (us ++ ds) := r.append hd
  refine wpAny_call (codeAny_mono (F.run X.A X.stack s1 H1 ⟨us, []⟩ (us ++ ds) (vs ++ dvs) Q (WE W σ) hr I1.env0 (hb s1 us I1.kIn (r2.length.symm.trans (F.len _ _ _ _ q))) r2 q) fun r s' hq => ?_)
  rcases r with er | fl
  · exact passAt tk σ pins H1 s1 er s' I1 hq
  · cases fl with
    | ret u => exact I1.after hq
    | next => exact False.elim hq
    | brk => exact False.elim hq
    | cont => exact False.elim hq
theorem me_callG0 {CX : CXT} {E : XK} (C : CalG X.prog X.w X.K X.mg X.base CX x k ps dvs sp) (hr : RoomG k X.A) (hg : Gl X x) (hx : Passes CX X E) (hdb : (x == ("__debug__" : Str)) = false := by decide) : PE X (.Call (.Name x p) [] [] pos) (tCall sp dvs E tNil) := by
  obtain ⟨f, fd, ds, F, hm, hk, hb, hd⟩ := C.ex
  refine ⟨fun pins s σ H Q I h => wpAny_Call_Name_kw (ld_glob I hg hm (PySem.W.callWith_K0 I.kIn hk ?_) hdb)⟩
  refine wpAny_call (codeAny_mono (F.run X.A X.stack s H ⟨[], []⟩ ([] ++ ds) ([] ++ dvs) Q E hr I.env0 (hb s [] I.kIn (hd.length.symm.trans (F.len _ _ _ _ h))) hd h) fun r s' hq => ?_)
  rcases r with er | fl
  · exact hx pins σ H s er s' I hq
  · cases fl with
    | ret u => exact I.after hq
    | next => exact False.elim hq
    | brk => exact False.elim hq
    | cont => exact False.elim hq
theorem CalG.mono {P : Program} {w : World} {K : PySem.W.Frag} {mg : Str → Option Value} {base : Heap} {CX : CXT} {x : Str} {k j : Nat} {ps : List Str} {dvs : List V} {sp : Sp} (C : CalG P w K mg base CX x k ps dvs sp) (h : k ≤ j) : CalG P w K mg base CX x j ps dvs sp := by
  obtain ⟨f, fd, ds, F, r⟩ := C.ex
  exact ⟨f, fd, ds, F.mono h, r⟩
end
end M
namespace M
open PySem PySem.Spec PyProof.Rows L2
/-- no error is wished for: none comes -/
theorem passF {X : Cx} : Passes (L2.CX X.prog X.w) X E0 := fun _ _ _ _ _ _ _ c => by
  obtain ⟨_, _, _, _, _, _, _, _, _, _, _, _, z⟩ := c
  exact z.elim
end M

namespace M
open PySem PySem.Spec PyProof.Rows L2
/-- (a, b, ..) = a tuple or a list -/
def mgSeq (K : PySem.W.Frag) (n : Nat) (t : TGs) : TG := fun v σ H Q => match v with
  | .ref a => ∃ xs, (SqT K H a xs ∨ SqL K H a xs) ∧ xs.length = n ∧ t xs σ H Q
  | _ => False
theorem mg_seq {X : Cx} {es : List Expr} {k : Nat} {t : TGs} {n : Nat} {pos : Pos} (hc : X.calm = true) (h : PGs X es t)
    (hn : (assignEach es X.env).length = n := by rfl) (hst : (assignEach es X.env).findIdx? (·.1) = none := by rfl) : PG X (.Tuple es k pos) (mgSeq X.K n t) := by
  refine ⟨fun pins s σ H v u Q I r q => ?_⟩
  unfold mgSeq at q
  split at q
  · obtain ⟨xs, h1 | h1, h2, h3⟩ := q
    · exact (pg_tup hc h hn hst).run pins s σ H _ u Q I r ⟨_, xs, rfl, h1, h2, h3⟩
    · exact (pg_unl hc h hn hst).run pins s σ H _ u Q I r ⟨_, xs, rfl, h1, h2, h3⟩
  · exact q.elim
end M

/-! ### comprehensions with two clauses; sorted texts -/
namespace M
open PySem PySem.Spec PyProof.Rows L2
section
variable {X : Cx}
/-- sorted(l), l a list of texts of any length -/
def mSorted (K : PySem.W.Frag) : List V → Hp → VK → Prop := fun vs H Q => match vs with
  | [.ref a] => ∃ xs : List Str, SqL K H a (xs.map V.str) ∧ ∀ (ys : List Str) (p : Addr), ys.Perm xs → sortedS ys = true → H p = none → Q (.ref p) (upd H p (.lst (ys.map V.str)))
  | _ => False
theorem call_sortedM : CallR X (.builtin "sorted") (mSorted X.K) := by
  intro pins s σ H vs us Q I r h
  unfold mSorted at h
  split at h
  · rename_i a
    obtain ⟨xs, hs, q⟩ := h
    obtain ⟨its, rv, hl, hz⟩ := I.list hs
    rw [Vals.ref1 r]
    refine PyProof.Rows.sorted_strsAny hl.isList rv.strs (by rw [← rv.length]; exact hz) fun out ys h1 h2 h3 => ?_
    obtain ⟨ep, he'⟩ := PyProof.Rows.sortedAll_at s.heap its out
    have hlen : (ys.map V.str).length ≤ sizeLine := by
      rw [List.length_map, h2.length_eq]
      rw [List.length_map] at hz
      exact hz
    exact ⟨.ref _, upd H (s.heap.objs.size + 1) (.lst (ys.map V.str)), I.laid (t' := s.toks) (fun _ _ => PyProof.Rows.sortedAll_old) (Nat.le_succ _) ⟨hlen, out.toList, ep, vals_of_strs h1, he'⟩, rfl, q ys _ h2 h3 (I.hok.fresh (Nat.le_succ _))⟩
  · exact h.elim
end
/-- what a clause's source hands on -/
def inner (s : Src) (g1 : TG) (tt1 : TT) (te : TE) (vs1 : List Nat) (τ : Sl) (D : Addr) (N : Hp → Prop) (H : Hp) : Prop := match s with
  | .v G L => cV G g1 tt1 te vs1 τ D N L H
  | .p G L => cP G g1 tt1 te vs1 τ D N L H
def dV (G : Hp → Prop) (g : TG) (tt : TT) (wi1 : MI) (g1 : TG) (tt1 : TT) (te : TE) (vs vs1 : List Nat) (τ : Sl) (D : Addr) (Q : Hp → Prop) : List V → Hp → Prop
  | [], H => G H ∧ Q H
  | x :: r, H => G H ∧ g x τ H fun σ2 H2 => wipe σ2 vs = τ ∧ tt σ2 H2 fun b H3 => if b = true then wi1 σ2 H3 fun s H4 => inner s g1 tt1 te vs1 (wipe σ2 vs1) D (dV G g tt wi1 g1 tt1 te vs vs1 τ D Q r) H4 else dV G g tt wi1 g1 tt1 te vs vs1 τ D Q r H3
def dP (G : Hp → Prop) (g : TG) (tt : TT) (wi1 : MI) (g1 : TG) (tt1 : TT) (te : TE) (vs vs1 : List Nat) (τ : Sl) (D : Addr) (Q : Hp → Prop) : List (V × V) → Hp → Prop
  | [], H => G H ∧ Q H
  | x :: r, H => G H ∧ ∀ T, H T = none → g (.ref T) τ (upd H T (.tup [x.1, x.2])) fun σ2 H2 => wipe σ2 vs = τ ∧ tt σ2 H2 fun b H3 => if b = true then wi1 σ2 H3 fun s H4 => inner s g1 tt1 te vs1 (wipe σ2 vs1) D (dP G g tt wi1 g1 tt1 te vs vs1 τ D Q r) H4 else dP G g tt wi1 g1 tt1 te vs vs1 τ D Q r H3
def mLc2 (wi : MI) (g : TG) (tt : TT) (wi1 : MI) (g1 : TG) (tt1 : TT) (te : TE) (vs vs1 : List Nat) : TE := fun σ H Q => wi σ H fun s H1 => ∀ D, H1 D = none → match s with
  | .v G L => dV G g tt wi1 g1 tt1 te vs vs1 (wipe σ vs) D (Q (.ref D)) L (upd H1 D (.lst []))
  | .p G L => dP G g tt wi1 g1 tt1 te vs vs1 (wipe σ vs) D (Q (.ref D)) L (upd H1 D (.lst []))
/-- the second source's own loop, over what feeds -/
theorem inner_W {J : It} {s : Src} (f : Feeds J s) {g1 : TG} {tt1 : TT} {te : TE} {vs1 : List Nat} {σ2 : Sl} {D : Addr} {N : Hp → Prop} {H4 : Hp} (z : inner s g1 tt1 te vs1 (wipe σ2 vs1) D N H4) :
    ∃ W1 : Nat → Nat → Hp → Prop, (∃ m, W1 0 m H4) ∧ ∀ j k H, W1 j k H →
      (J.stop j H ∧ N H) ∨ (J.go j H ∧ ∃ Nx1 : Hp → Prop, (∀ H', Nx1 H' → ∃ k', k' < k ∧ W1 (j + 1) k' H') ∧ ∀ x H', J.yld j H x H' → g1 x (wipe σ2 vs1) H' fun σ3 H5 => wipe σ3 vs1 = wipe σ2 vs1 ∧ tt1 σ3 H5 fun b H6 =>
        if b = true then te σ3 H6 fun y H7 => ∃ acc, H7 D = some (.lst acc) ∧ acc.length < sizeLine ∧ Nx1 (upd H7 D (.lst (acc ++ [y]))) else Nx1 H6) := by
  cases s with
  | v G L =>
    have w : Walk J L.length G (YAt L) := f
    refine ⟨fun i m H => m = L.length - i ∧ i ≤ L.length ∧ cV G g1 tt1 te vs1 (wipe σ2 vs1) D N (L.drop i) H, ⟨_, rfl, Nat.zero_le _, z⟩, ?_⟩
    rintro i m H ⟨rfl, hi, p⟩
    by_cases hlt : i < L.length
    · refine .inr ⟨w.goes i H hlt (cV_G p), fun H' => cV G g1 tt1 te vs1 (wipe σ2 vs1) D N (L.drop (i + 1)) H', fun H' p' => ⟨L.length - (i + 1), by omega, rfl, hlt, p'⟩, fun x H' y => ?_⟩
      obtain ⟨e, hx⟩ := w.yields i H x H' hlt (cV_G p) y
      subst e
      rw [drop_at hx] at p
      exact p.2
    · have e : i = L.length := by omega
      subst e
      refine .inl ⟨w.stops H (cV_G p), ?_⟩
      rw [List.drop_length] at p
      exact p.2
  | p G L =>
    have w : Walk J L.length G (YPair (fun i => L[i]?.map (·.1)) (fun i => L[i]?.map (·.2))) := f
    refine ⟨fun i m H => m = L.length - i ∧ i ≤ L.length ∧ cP G g1 tt1 te vs1 (wipe σ2 vs1) D N (L.drop i) H, ⟨_, rfl, Nat.zero_le _, z⟩, ?_⟩
    rintro i m H ⟨rfl, hi, p⟩
    by_cases hlt : i < L.length
    · refine .inr ⟨w.goes i H hlt (cP_G p), fun H' => cP G g1 tt1 te vs1 (wipe σ2 vs1) D N (L.drop (i + 1)) H', fun H' p' => ⟨L.length - (i + 1), by omega, rfl, hlt, p'⟩, fun x H' y => ?_⟩
      obtain ⟨T, a, b, e1, e2, e3, e4, e5⟩ := w.yields i H x H' hlt (cP_G p) y
      subst e1 e3
      have hx : L[i]? = some L[i] := List.getElem?_eq_getElem hlt
      rw [drop_at hx] at p
      have q := p.2 T e2
      have e4' : L[i]?.map (·.1) = some a := e4
      have e5' : L[i]?.map (·.2) = some b := e5
      rw [hx] at e4' e5'
      cases e4'
      cases e5'
      exact q
    · have e : i = L.length := by omega
      subst e
      refine .inl ⟨w.stops H (cP_G p), ?_⟩
      rw [List.drop_length] at p
      exact p.2
theorem dV_G {G : Hp → Prop} {g : TG} {tt : TT} {wi1 : MI} {g1 : TG} {tt1 : TT} {te : TE} {vs vs1 : List Nat} {τ : Sl} {D : Addr} {Q : Hp → Prop} {L : List V} {H : Hp} (h : dV G g tt wi1 g1 tt1 te vs vs1 τ D Q L H) : G H := by
  cases L <;> exact h.1
theorem dP_G {G : Hp → Prop} {g : TG} {tt : TT} {wi1 : MI} {g1 : TG} {tt1 : TT} {te : TE} {vs vs1 : List Nat} {τ : Sl} {D : Addr} {Q : Hp → Prop} {L : List (V × V)} {H : Hp} (h : dP G g tt wi1 g1 tt1 te vs vs1 τ D Q L H) : G H := by
  cases L <;> exact h.1
def clG (g : TG) : TG := fun v σ H Q => ∃ Q' : Sl → Hp → Prop, g v σ H Q' ∧ ∀ σ' H', Q' σ' H' → Q σ' H'
theorem pg_cl {X : Cx} {e : Expr} {g : TG} (h : PG X e g) : PG X e (clG g) := ⟨fun pins s σ H v u Q I r ⟨Q', q, w⟩ => thn (h.run pins s σ H v u Q' I r q) fun _ _ ⟨σ', H', I', z⟩ => ⟨σ', H', I', w _ _ z⟩⟩
theorem pts_cl {X : Cx} {es : List Expr} {t : TT} (h : PTs X es t) : PTs X es (clT t) := ⟨fun pins s σ H Q I ⟨Q', q, w⟩ => thn (h.run pins s σ H Q' I q) fun _ _ ⟨H', I', z⟩ => ⟨H', I', w _ H' z⟩⟩
theorem lc2_toM {wi : MI} {g : TG} {tt : TT} {wi1 : MI} {g1 : TG} {tt1 : TT} {te : TE} {vs vs1 : List Nat} {σ : Sl} {H : Hp} {Q : VK} (q : mLc2 wi g tt wi1 g1 tt1 te vs vs1 σ H Q) : tLc2 (toTI wi) (clG g) (clT tt) (toTI wi1) g1 tt1 te vs vs1 σ H Q :=
  ⟨_, q, fun s H1 J z f D hD => by
    have z := z D hD
    have nxt : ∀ {N : Hp → Prop} {σ2 : Sl} {H3 : Hp} {b : Bool} (q : if b = true then wi1 σ2 H3 fun s H4 => inner s g1 tt1 te vs1 (wipe σ2 vs1) D N H4 else N H3),
        if b = true then toTI wi1 σ2 H3 fun J1 H4 => ∃ W1 : Nat → Nat → Hp → Prop, (∃ m, W1 0 m H4) ∧ ∀ j k H, W1 j k H →
          (J1.stop j H ∧ N H) ∨ (J1.go j H ∧ ∃ Nx1 : Hp → Prop, (∀ H', Nx1 H' → ∃ k', k' < k ∧ W1 (j + 1) k' H') ∧ ∀ x H', J1.yld j H x H' → g1 x (wipe σ2 vs1) H' fun σ3 H5 => wipe σ3 vs1 = wipe σ2 vs1 ∧ tt1 σ3 H5 fun b H6 =>
            if b = true then te σ3 H6 fun y H7 => ∃ acc, H7 D = some (.lst acc) ∧ acc.length < sizeLine ∧ Nx1 (upd H7 D (.lst (acc ++ [y]))) else Nx1 H6) else N H3 := fun {N σ2 H3 b} q => by
      cases b with
      | false => exact q
      | true => exact ⟨_, q, fun s1 H4 J1 z1 f1 => inner_W f1 z1⟩
    cases s with
    | v G L =>
      have w : Walk J L.length G (YAt L) := f
      refine ⟨fun i m H => m = L.length - i ∧ i ≤ L.length ∧ dV G g tt wi1 g1 tt1 te vs vs1 (wipe σ vs) D (Q (.ref D)) (L.drop i) H, ⟨_, rfl, Nat.zero_le _, z⟩, ?_⟩
      rintro i m H ⟨rfl, hi, p⟩
      by_cases hlt : i < L.length
      · refine .inr ⟨w.goes i H hlt (dV_G p), fun H' => dV G g tt wi1 g1 tt1 te vs vs1 (wipe σ vs) D (Q (.ref D)) (L.drop (i + 1)) H', fun H' p' => ⟨L.length - (i + 1), by omega, rfl, hlt, p'⟩, fun x H' y => ?_⟩
        obtain ⟨e, hx⟩ := w.yields i H x H' hlt (dV_G p) y
        subst e
        rw [drop_at hx] at p
        exact ⟨_, p.2, fun σ2 H2 h => ⟨h.1, _, h.2, fun b H3 h => nxt h⟩⟩
      · have e : i = L.length := by omega
        subst e
        refine .inl ⟨w.stops H (dV_G p), ?_⟩
        rw [List.drop_length] at p
        exact p.2
    | p G L =>
      have w : Walk J L.length G (YPair (fun i => L[i]?.map (·.1)) (fun i => L[i]?.map (·.2))) := f
      refine ⟨fun i m H => m = L.length - i ∧ i ≤ L.length ∧ dP G g tt wi1 g1 tt1 te vs vs1 (wipe σ vs) D (Q (.ref D)) (L.drop i) H, ⟨_, rfl, Nat.zero_le _, z⟩, ?_⟩
      rintro i m H ⟨rfl, hi, p⟩
      by_cases hlt : i < L.length
      · refine .inr ⟨w.goes i H hlt (dP_G p), fun H' => dP G g tt wi1 g1 tt1 te vs vs1 (wipe σ vs) D (Q (.ref D)) (L.drop (i + 1)) H', fun H' p' => ⟨L.length - (i + 1), by omega, rfl, hlt, p'⟩, fun x H' y => ?_⟩
        obtain ⟨T, a, b, e1, e2, e3, e4, e5⟩ := w.yields i H x H' hlt (dP_G p) y
        subst e1 e3
        have hx : L[i]? = some L[i] := List.getElem?_eq_getElem hlt
        rw [drop_at hx] at p
        have q := p.2 T e2
        have e4' : L[i]?.map (·.1) = some a := e4
        have e5' : L[i]?.map (·.2) = some b := e5
        rw [hx] at e4' e5'
        cases e4'
        cases e5'
        exact ⟨_, q, fun σ2 H2 h => ⟨h.1, _, h.2, fun b H3 h => nxt h⟩⟩
      · have e : i = L.length := by omega
        subst e
        refine .inl ⟨w.stops H (dP_G p), ?_⟩
        rw [List.drop_length] at p
        exact p.2⟩
section
variable {X : Cx}
theorem me_lc2 {elt tg iter tg1 iter1 : Expr} {ifs ifs1 : List Expr} {scope : Scope} {own : List (Str × Nat)} {vs1 : List Nat} {pos : Pos} {wi wi1 : MI} {g g1 : TG} {tt tt1 : TT} {te : TE} (hc : X.calm = true) (hN : X.N.Nodup) (hi : PI X tg iter (toTI wi)) (ok : BlkOk X.N X.env.scope scope own) (hv : ∀ i ∈ vs1, i ∈ own.map (·.2))
    (hg : ∀ (s : Shared) (H : Hp) (C : Addr) (cl : List (Str × Addr)) (fp : List Addr), PG (X.blk s H scope (compEnvC scope cl C X.env) fp) tg g) (ht : ∀ (s : Shared) (H : Hp) (C : Addr) (cl : List (Str × Addr)) (fp : List Addr), PTs (X.blk s H scope (compEnvC scope cl C X.env) fp) ifs tt)
    (hi1 : ∀ (s : Shared) (H : Hp) (C : Addr) (cl : List (Str × Addr)) (fp : List Addr), PI (X.blk s H scope (compEnvC scope cl C X.env) fp) tg1 iter1 (toTI wi1))
    (hg1 : ∀ (s : Shared) (H : Hp) (C : Addr) (cl : List (Str × Addr)) (fp : List Addr), PG (X.blk s H scope (compEnvC scope cl C X.env) fp) tg1 g1) (ht1 : ∀ (s : Shared) (H : Hp) (C : Addr) (cl : List (Str × Addr)) (fp : List Addr), PTs (X.blk s H scope (compEnvC scope cl C X.env) fp) ifs1 tt1)
    (he : ∀ (s : Shared) (H : Hp) (C : Addr) (cl : List (Str × Addr)) (fp : List Addr), PE (X.blk s H scope (compEnvC scope cl C X.env) fp) elt te) (hs : ∀ x, foldedSetIterable iter X.env x = pure x := by intro _; rfl) (hs1 : ∀ env x, foldedSetIterable iter1 env x = pure x := by intro _ _; rfl) :
    PE X (.ListComp elt [⟨tg, iter, ifs, 0⟩, ⟨tg1, iter1, ifs1, 0⟩] scope pos) (mLc2 wi g tt wi1 g1 tt1 te (own.map (·.2)) vs1) :=
  pe_imp (pe_lc2 hc hN hi ok hv (fun s H C cl fp => pg_cl (hg s H C cl fp)) (fun s H C cl fp => pts_cl (ht s H C cl fp)) hi1 hg1 ht1 he hs hs1) fun σ H Q q => lc2_toM q
end
end M

namespace M
open PySem PySem.Spec PyProof.Rows L2

/-! ### cuts -/
section
variable {α : Type} (l : List α)
theorem cut_from (i : Nat) : cutL l (some (i : Int)) none = l.drop i := by
  unfold cutL
  rw [HT.sIx_nat, HT.sIx_none]
  by_cases h : i ≤ l.length
  · rw [Nat.min_eq_left h]
    exact List.take_of_length_le (by rw [List.length_drop]; omega)
  · rw [Nat.min_eq_right (by omega), List.drop_length, List.drop_eq_nil_of_le (by omega)]; simp
theorem cut_to (i : Nat) : cutL l none (some (i : Int)) = l.take i := by
  unfold cutL
  rw [HT.sIx_nat, HT.sIx_none, List.drop_zero, Nat.sub_zero]
  by_cases h : i ≤ l.length
  · rw [Nat.min_eq_left h]
  · rw [Nat.min_eq_right (by omega), List.take_length, List.take_of_length_le (by omega)]
theorem cut_mid (i j : Nat) : cutL l (some (i : Int)) (some (j : Int)) = (l.drop i).take (j - i) := by
  unfold cutL
  rw [HT.sIx_nat, HT.sIx_nat]
  by_cases h : i ≤ l.length
  · rw [Nat.min_eq_left h]
    by_cases h2 : j ≤ l.length
    · rw [Nat.min_eq_left h2]
    · rw [Nat.min_eq_right (by omega), List.take_of_length_le (by rw [List.length_drop]; omega), List.take_of_length_le (by rw [List.length_drop]; omega)]
  · rw [Nat.min_eq_right (show l.length ≤ i by omega), List.drop_length, List.drop_eq_nil_of_le (show l.length ≤ i by omega)]; simp
theorem cut_all : cutL l none none = l := by
  unfold cutL
  rw [HT.sIx_none, HT.sIx_none, List.drop_zero, Nat.sub_zero, List.take_length]
theorem sIx_neg (n d k : Nat) (hk : 0 < k) : HT.sIx n d (some (-(k : Int))) = n - k := by
  show (if (-(k : Int)) < 0 then (-(k : Int) + (n : Int)).toNat else _) = _
  rw [if_pos (by omega)]; omega
theorem cut_fromN (k : Nat) (hk : 0 < k) : cutL l (some (-(k : Int))) none = l.drop (l.length - k) := by
  unfold cutL
  rw [sIx_neg _ _ _ hk, HT.sIx_none]
  exact List.take_of_length_le (by rw [List.length_drop]; omega)
theorem cut_toN (k : Nat) (hk : 0 < k) : cutL l none (some (-(k : Int))) = l.take (l.length - k) := by
  unfold cutL
  rw [sIx_neg _ _ _ hk, HT.sIx_none, List.drop_zero, Nat.sub_zero]
theorem cut_midN (i k : Nat) (hk : 0 < k) : cutL l (some (i : Int)) (some (-(k : Int))) = (l.drop i).take (l.length - k - i) := by
  unfold cutL
  rw [sIx_neg _ _ _ hk, HT.sIx_nat]
  by_cases h : i ≤ l.length
  · rw [Nat.min_eq_left h]
  · rw [Nat.min_eq_right (show l.length ≤ i by omega), List.drop_length, List.drop_eq_nil_of_le (show l.length ≤ i by omega)]; simp
end
theorem cut_m3 {α : Type} (l : List α) : cutL l (some (-3)) none = l.drop (l.length - 3) := cut_fromN l 3 (by decide)
theorem cut_t3 {α : Type} (l : List α) : cutL l none (some (-3)) = l.take (l.length - 3) := cut_toN l 3 (by decide)
theorem cut_m1 {α : Type} (l : List α) : cutL l (some (-1)) none = l.drop (l.length - 1) := cut_fromN l 1 (by decide)
theorem cut_t1 {α : Type} (l : List α) : cutL l none (some (-1)) = l.take (l.length - 1) := cut_toN l 1 (by decide)
theorem cut_t2 {α : Type} (l : List α) : cutL l none (some (-2)) = l.take (l.length - 2) := cut_toN l 2 (by decide)
theorem S_def (z : Str) : ∃ l, z = S l := ⟨_, (S_of z).symm⟩
theorem S_eq {a b : List Nat} : (S a = S b) = (a = b) := propext S_inj
theorem szl : (sizeLine : Nat) = 16777216 := sizeLine_eq

/-! ### trees -/
inductive Tr where
  | lf
  | nd (l r : Tr)
  deriving DecidableEq
namespace Tr
def s : Tr → List Nat
  | .lf => [46]
  | .nd l r => 40 :: (l.s ++ (r.s ++ [41]))
def n : Tr → Nat
  | .lf => 0
  | .nd l r => l.n + r.n + 1
theorem s_len : ∀ t : Tr, t.s.length = 3 * t.n + 1
  | .lf => rfl
  | .nd l r => by simp only [s, n, List.length_cons, List.length_append, List.length_nil, s_len l, s_len r]; omega
end Tr

/-! ### is_tree -/
/-- one sign onto the waiting ones -/
def itStep (w : List Nat) (c : Nat) : Option (List Nat) :=
  if c = 41 then (if w.drop (w.length - 3) = [40, 46, 46] then some (w.take (w.length - 3) ++ [46]) else none)
  else if c = 40 ∨ c = 46 then some (w ++ [c]) else none
def itRun : List Nat → List Nat → Option (List Nat)
  | w, [] => some w
  | w, c :: r => (itStep w c).bind fun w' => itRun w' r
def isTr (l : List Nat) : Bool := decide (itRun [] l = some [46])
theorem itRun_app : ∀ (a b w : List Nat), itRun w (a ++ b) = (itRun w a).bind fun w' => itRun w' b
  | [], b, w => rfl
  | c :: a, b, w => by
    show (itStep w c).bind _ = ((itStep w c).bind _).bind _
    cases itStep w c with
    | none => rfl
    | some w' => exact itRun_app a b w'
theorem itRun_tree : ∀ (t : Tr) (w : List Nat), itRun w t.s = some (w ++ [46])
  | .lf, w => by simp [Tr.s, itRun, itStep]
  | .nd l r, w => by
    show (itStep w 40).bind _ = _
    have e1 : itStep w 40 = some (w ++ [40]) := by simp [itStep]
    rw [e1]
    show itRun (w ++ [40]) (l.s ++ (r.s ++ [41])) = _
    rw [itRun_app, itRun_tree l]
    show itRun (w ++ [40] ++ [46]) (r.s ++ [41]) = _
    rw [itRun_app, itRun_tree r]
    show (itStep (w ++ [40] ++ [46] ++ [46]) 41).bind _ = _
    have e2 : itStep (w ++ [40] ++ [46] ++ [46]) 41 = some (w ++ [46]) := by
      simp [itStep]
    rw [e2]; rfl
/-- waiting signs stand for the signs read -/
inductive Waits : List Nat → List Nat → Prop where
  | nil : Waits [] []
  | op {w l : List Nat} : Waits w l → Waits (w ++ [40]) (l ++ [40])
  | tr {w l : List Nat} (t : Tr) : Waits w l → Waits (w ++ [46]) (l ++ t.s)
theorem Waits.last {w l : List Nat} {c : Nat} (h : Waits (w ++ [c]) l) : (c = 40 ∧ ∃ l', l = l' ++ [40] ∧ Waits w l') ∨ (c = 46 ∧ ∃ (l' : List Nat) (t : Tr), l = l' ++ t.s ∧ Waits w l') := by
  generalize e : w ++ [c] = v at h
  cases h with
  | nil => simp at e
  | op h =>
    obtain ⟨rfl, e2⟩ := List.append_inj' e rfl
    cases e2
    exact .inl ⟨rfl, _, rfl, h⟩
  | tr t h =>
    obtain ⟨rfl, e2⟩ := List.append_inj' e rfl
    cases e2
    exact .inr ⟨rfl, _, t, rfl, h⟩
theorem Waits.step {w l w' : List Nat} {c : Nat} (h : Waits w l) (e : itStep w c = some w') : Waits w' (l ++ [c]) := by
  unfold itStep at e
  split at e
  · rename_i hc
    subst hc
    split at e
    · rename_i h3
      cases e
      have ew : w = w.take (w.length - 3) ++ [40] ++ [46] ++ [46] := by
        have := List.take_append_drop (w.length - 3) w
        rw [h3] at this
        simpa using this.symm
      rw [ew] at h
      rcases h.last with ⟨q, _⟩ | ⟨_, l1, t1, rfl, h1⟩
      · cases q
      rcases h1.last with ⟨q, _⟩ | ⟨_, l2, t2, rfl, h2⟩
      · cases q
      rcases h2.last with ⟨_, l3, rfl, h3⟩ | ⟨q, _⟩
      · have := Waits.tr (.nd t2 t1) h3
        simpa [Tr.s] using this
      · cases q
    · cases e
  · split at e
    · rename_i hc
      cases e
      rcases hc with rfl | rfl
      · exact .op h
      · exact .tr .lf h
    · cases e
theorem Waits.run : ∀ {r w l w' : List Nat}, Waits w l → itRun w r = some w' → Waits w' (l ++ r)
  | [], w, l, w', h, e => by
    cases e; simpa using h
  | c :: r, w, l, w', h, e => by
    have e' : (itStep w c).bind (fun w' => itRun w' r) = some w' := e
    cases q : itStep w c with
    | none => rw [q] at e'; cases e'
    | some v =>
      rw [q] at e'
      have := Waits.run (h.step q) e'
      simpa using this
theorem isTr_iff (l : List Nat) : isTr l = true ↔ ∃ t : Tr, l = t.s := by
  unfold isTr
  rw [decide_eq_true_eq]
  constructor
  · intro h
    have q := Waits.run .nil h
    have q' : Waits ([] ++ [46]) l := by simpa using q
    rcases q'.last with ⟨z, _⟩ | ⟨_, l', t, rfl, z⟩
    · cases z
    · generalize e : ([] : List Nat) = v at z
      cases z with
      | nil => exact ⟨t, by simp⟩
      | op _ => simp at e
      | tr _ _ => simp at e
  · rintro ⟨t, rfl⟩
    simpa using itRun_tree t []
theorem isTr_s (t : Tr) : isTr t.s = true := (isTr_iff _).mpr ⟨t, rfl⟩
theorem itStep_len {w w' : List Nat} {c : Nat} (e : itStep w c = some w') : w'.length ≤ w.length + 1 := by
  unfold itStep at e
  split at e
  · split at e
    · cases e; simp
      try omega
    · cases e
  · split at e
    · cases e; simp
    · cases e
end M

namespace M
open PySem PySem.Spec PyProof.Rows L2

/-! ### places -/
section
variable {α : Type}
theorem aI_nat (xs : List α) (i : Nat) : atI xs (i : Int) = xs[i]? := by
  unfold atI ixN
  rw [if_pos (by omega)]
  by_cases h : i < xs.length
  · rw [if_pos (by omega)]; simp
  · rw [if_neg (by omega), List.getElem?_eq_none (by omega)]; rfl
theorem aI_neg (xs : List α) (k : Nat) (hk : 0 < k) (h : k ≤ xs.length) : atI xs (-(k : Int)) = xs[xs.length - k]? := by
  unfold atI ixN
  rw [if_neg (by omega), if_pos (by omega)]
  show xs[(-(k : Int) + (xs.length : Int)).toNat]? = _
  congr 1
  omega
theorem aI_0 (x : α) (xs : List α) : atI (x :: xs) 0 = some x := aI_nat (x :: xs) 0
theorem aI_1 (x y : α) (xs : List α) : atI (x :: y :: xs) 1 = some y := aI_nat (x :: y :: xs) 1
theorem aI_2 (x y z : α) (xs : List α) : atI (x :: y :: z :: xs) 2 = some z := aI_nat (x :: y :: z :: xs) 2
theorem aI_3 (x y z u : α) (xs : List α) : atI (x :: y :: z :: u :: xs) 3 = some u := aI_nat (x :: y :: z :: u :: xs) 3
theorem aI_m1 (xs : List α) (v : α) : atI (xs ++ [v]) (-1) = some v := atI_last xs v
theorem aI_m2 (xs : List α) (u v : α) : atI (xs ++ [u, v]) (-2) = some u := by
  have e := aI_neg (xs ++ [u, v]) 2 (by decide) (by simp)
  rw [show ((2 : Nat) : Int) = 2 from rfl] at e
  rw [e]
  simp
theorem aI_m1' (xs : List α) (u v : α) : atI (xs ++ [u, v]) (-1) = some v := by
  have e := aI_neg (xs ++ [u, v]) 1 (by decide) (by simp)
  rw [show ((1 : Nat) : Int) = 1 from rfl] at e
  rw [e]
  simp
theorem iN_nat {n i : Nat} (h : i < n) : ixN n (i : Int) = some i := by
  unfold ixN
  rw [if_pos (by omega), if_pos (by omega)]; simp
theorem iN_m1 {n : Nat} (h : 0 < n) : ixN n (-1) = some (n - 1) := by
  unfold ixN
  rw [if_neg (by omega), if_pos (by omega)]
  congr 1
  omega
end

/-! ### data -/
def dStrs (l : List (List Nat)) : List PyData := l.map fun z => .str (S z)
def dInts (l : List Int) : List PyData := l.map .int
theorem dp_strs {K : PySem.W.Frag} {H : Hp} : ∀ l : List (List Nat), DpAll K H (l.map fun z => V.str (S z)) (dStrs l)
  | [] => .nil
  | z :: l => .cons (.str _) (dp_strs l)
theorem dp_ints {K : PySem.W.Frag} {H : Hp} : ∀ l : List Int, DpAll K H (l.map V.int) (dInts l)
  | [] => .nil
  | z :: l => .cons (.int _) (dp_ints l)
/-- codes of a text -/
def okc (l : List Nat) : Prop := ∀ c ∈ l, c < 1114112
theorem okc_app {a b : List Nat} (h1 : okc a) (h2 : okc b) : okc (a ++ b) := fun c h => (List.mem_append.mp h).elim (h1 c) (h2 c)
theorem okS {z : List Nat} (h : okc z) : PyData.strOk (S z) = true := by
  unfold PyData.strOk
  simp only [S, List.all_toArray, List.all_eq_true, decide_eq_true_eq]
  exact h
theorem lay_strs : ∀ l : List (List Nat), (∀ z ∈ l, okc z) → PyData.canLayAll0 (dStrs l) = true
  | [], _ => rfl
  | z :: l, h => by
    show PyData.canLayAll0 (.str (S z) :: dStrs l) = true
    simp only [PyData.canLayAll0, PyData.canLay0, lay_strs l fun y hy => h y (List.mem_cons_of_mem _ hy), okS (h z List.mem_cons_self), Bool.and_self]
theorem lay_ints : ∀ l, PyData.canLayAll0 (dInts l) = true
  | [] => rfl
  | z :: l => by show PyData.canLayAll0 (.int z :: dInts l) = true; simp only [PyData.canLayAll0, PyData.canLay0, lay_ints l, Bool.and_self]
theorem dep_strs : ∀ l, PyData.depthAll (dStrs l) = 0
  | [] => rfl
  | z :: l => by show PyData.depthAll (.str (S z) :: dStrs l) = 0; simp only [PyData.depthAll, PyData.depth, dep_strs l]; rfl
theorem dep_ints : ∀ l, PyData.depthAll (dInts l) = 0
  | [] => rfl
  | z :: l => by show PyData.depthAll (.int z :: dInts l) = 0; simp only [PyData.depthAll, PyData.depth, dep_ints l]; rfl
theorem eqv_strs : ∀ a b : List (List Nat), PyData.eqvAll (dStrs a) (dStrs b) = decide (a = b)
  | [], [] => rfl
  | [], z :: b => rfl
  | z :: a, [] => rfl
  | y :: a, z :: b => by
    show PyData.eqvAll (.str (S y) :: dStrs a) (.str (S z) :: dStrs b) = _
    simp only [PyData.eqvAll, PyData.eqv, eqv_strs a b]
    by_cases h : y = z
    · subst h; simp
    · have : ¬ S y = S z := fun q => h (S_inj.mp q)
      simp [h, this]
theorem eqv_ints : ∀ a b : List Int, PyData.eqvAll (dInts a) (dInts b) = decide (a = b)
  | [], [] => rfl
  | [], z :: b => rfl
  | z :: a, [] => rfl
  | y :: a, z :: b => by
    show PyData.eqvAll (.int y :: dInts a) (.int z :: dInts b) = _
    simp only [PyData.eqvAll, PyData.eqv, eqv_ints a b]
    by_cases h : y = z
    · subst h; simp
    · simp [h]
section
variable {K : PySem.W.Frag} {neg : Bool} {H : Hp} {Q : VK}
/-- two lists of texts compared -/
theorem eq_strs {p q : Addr} {a b : List (List Nat)} (h1 : SqL K H p (a.map fun z => V.str (S z))) (h2 : SqL K H q (b.map fun z => V.str (S z))) (oa : ∀ z ∈ a, okc z) (ob : ∀ z ∈ b, okc z) (k : Q (.bl (if neg then !decide (a = b) else decide (a = b))) H) : rEqW K neg (.ref p) (.ref q) H Q :=
  ⟨.list (dStrs a), .list (dStrs b), .lst h1 (dp_strs a), .lst h2 (dp_strs b), by simpa only [PyData.canLay0] using lay_strs a oa, by simpa only [PyData.canLay0] using lay_strs b ob, by simp only [PyData.depth, dep_strs]; decide, by simpa only [PyData.eqv, eqv_strs] using k⟩
theorem eq_ints {p q : Addr} {a b : List Int} (h1 : SqL K H p (a.map V.int)) (h2 : SqL K H q (b.map V.int)) (k : Q (.bl (if neg then !decide (a = b) else decide (a = b))) H) : rEqW K neg (.ref p) (.ref q) H Q :=
  ⟨.list (dInts a), .list (dInts b), .lst h1 (dp_ints a), .lst h2 (dp_ints b), by simpa only [PyData.canLay0] using lay_ints a, by simpa only [PyData.canLay0] using lay_ints b, by simp only [PyData.depth, dep_ints]; decide, by simpa only [PyData.eqv, eqv_ints] using k⟩
end

/-! ### nests: trees as pairs -/
inductive Nst (K : PySem.W.Frag) (H : Hp) : V → Tr → Prop
  | lf {a : Addr} : SqT K H a [] → Nst K H (.ref a) .lf
  | nd {a : Addr} {l r : V} {t u : Tr} : SqT K H a [l, r] → Nst K H l t → Nst K H r u → Nst K H (.ref a) (.nd t u)
theorem Nst.ex {K : PySem.W.Frag} {H H' : Hp} (e : Ex H H') {v : V} {t : Tr} (h : Nst K H v t) : Nst K H' v t := by
  induction h with
  | lf h => exact .lf (e.T h)
  | nd h _ _ i1 i2 => exact .nd (e.T h) i1 i2
def Tr.dat : Tr → PyData
  | .lf => .tuple []
  | .nd l r => .tuple [l.dat, r.dat]
theorem Nst.dp {K : PySem.W.Frag} {H : Hp} {v : V} {t : Tr} (h : Nst K H v t) : Dp K H v t.dat := by
  induction h with
  | lf h => exact .tup h .nil
  | nd h _ _ i1 i2 => exact .tup h (.cons i1 (.cons i2 .nil))
theorem Tr.lay : ∀ t : Tr, t.dat.canLay0 = true
  | .lf => rfl
  | .nd l r => by simp only [Tr.dat, PyData.canLay0, PyData.canLayAll0, Tr.lay l, Tr.lay r, Bool.and_self]
/-- a nest == () -/
theorem eq_nil {K : PySem.W.Frag} {H : Hp} {Q : VK} {v : V} {t : Tr} {q : Addr} (h : Nst K H v t) (h2 : SqT K H q []) (k : Q (.bl (decide (t = .lf))) H) : rEqW K false v (.ref q) H Q := by
  refine ⟨t.dat, .tuple [], h.dp, .tup h2 .nil, t.lay, rfl, Nat.le_trans (Nat.min_le_right _ _) (by simp only [PyData.depth, PyData.depthAll]; decide), ?_⟩
  have e : PyData.eqv t.dat (.tuple []) = decide (t = .lf) := by
    cases t with
    | lf => rfl
    | nd l r => simp [Tr.dat, PyData.eqv, PyData.eqvAll]
  rw [if_neg Bool.false_ne_true, e]
  exact k
theorem Nst.ref {K : PySem.W.Frag} {H : Hp} {v : V} {t : Tr} (h : Nst K H v t) : ∃ a, v = .ref a := by
  cases h <;> exact ⟨_, rfl⟩

/-! ### roads to leaves and nodes -/
namespace Tr
def lvs : Tr → List Nat → List (List Nat)
  | .lf, r => [r]
  | .nd a b, r => a.lvs (r ++ [108]) ++ b.lvs (r ++ [114])
def nds : Tr → List Nat → List (List Nat)
  | .lf, _ => []
  | .nd a b, r => a.nds (r ++ [108]) ++ ([r] ++ b.nds (r ++ [114]))
theorem lvs_len : ∀ (t : Tr) (r : List Nat), (t.lvs r).length = t.n + 1
  | .lf, _ => rfl
  | .nd a b, r => by simp only [lvs, n, List.length_append, lvs_len a, lvs_len b]; omega
theorem nds_len : ∀ (t : Tr) (r : List Nat), (t.nds r).length = t.n
  | .lf, _ => rfl
  | .nd a b, r => by simp only [nds, n, List.length_append, nds_len a, nds_len b, List.length_cons, List.length_nil]; omega
end Tr
end M
namespace M
open PySem PySem.Spec PyProof.Rows L2
theorem Fm.refl (m : List Addr) (H : Hp) : Fm m H H := fun _ _ _ h => h
theorem Fm.trans {m : List Addr} {H H1 H2 : Hp} (a : Fm m H H1) (b : Fm m H1 H2) : Fm m H H2 := fun x o n h => b x o n (a x o n h)
theorem Fm.ex {m : List Addr} {H H1 : Hp} (a : Ex H H1) : Fm m H H1 := fun x o _ h => a x o h
theorem Fm.new {m : List Addr} {H : Hp} {p : Addr} {o : HO} (h : H p = none) : Fm m H (upd H p o) := Fm.ex (Ex.new h)
theorem Fm.mut {m : List Addr} {H : Hp} {p : Addr} {o : HO} (h : p ∈ m) : Fm m H (upd H p o) := fun a u n e => by
  have : a ≠ p := fun z => n (z ▸ h)
  rw [upd_ne this]; exact e
theorem Fm.nil {H H1 : Hp} (a : Fm [] H H1) : Ex H H1 := fun x o h => a x o (by simp) h
theorem Fm.at_ {m : List Addr} {H H1 : Hp} (a : Fm m H H1) {p : Addr} {o : HO} (n : p ∉ m) (h : H p = some o) : H1 p = some o := a p o n h
/-- a purse of random numbers -/
def Pu (H : Hp) (g : Addr) (n : Nat) : Prop := ∃ a b c : Int, H g = some (.lst [.int a, .int b, .int c]) ∧ 0 ≤ a ∧ a < 2 ^ 2000 ∧ 0 ≤ b ∧ b < 2 ^ 31 ∧ 0 ≤ c ∧ c < n
theorem Pu.mono {H : Hp} {g : Addr} {n m : Nat} (h : n ≤ m) (p : Pu H g n) : Pu H g m := by
  obtain ⟨a, b, c, h1, h2, h3, h4, h5, h6, h7⟩ := p
  exact ⟨a, b, c, h1, h2, h3, h4, h5, h6, by omega⟩
theorem Pu.fm {H H1 : Hp} {g : Addr} {n : Nat} (e : Ex H H1) (p : Pu H g n) : Pu H1 g n := by
  obtain ⟨a, b, c, h1, r⟩ := p
  exact ⟨a, b, c, e _ _ h1, r⟩
theorem mulOk (a b : Nat) {i j : Int} (h1 : 0 ≤ i) (h2 : i < (2 : Int) ^ a) (h3 : 0 ≤ j) (h4 : j < (2 : Int) ^ b) (h0 : 0 < a := by decide) (h5 : 0 < b := by decide) (h6 : a + b ≤ 1000000 := by decide) : MulOk i j := by
  refine MulOk.of a b ?_ ?_ h0 h5 h6
  · have : (i.natAbs : Int) < ((2 ^ a : Nat) : Int) := by rw [Int.natAbs_of_nonneg h1]; exact_mod_cast h2
    exact_mod_cast this
  · have : (j.natAbs : Int) < ((2 ^ b : Nat) : Int) := by rw [Int.natAbs_of_nonneg h3]; exact_mod_cast h4
    exact_mod_cast this
theorem divOk (b : Nat) {j : Int} (h : 0 < j) (h4 : j < (2 : Int) ^ b) (h0 : 0 < b := by decide) (h9 : b ≤ 9000 := by decide) : DivOk j := by
  refine DivOk.of b h ?_ h0 h9
  have : (j.natAbs : Int) < ((2 ^ b : Nat) : Int) := by rw [Int.natAbs_of_nonneg (by omega)]; exact_mod_cast h4
  exact_mod_cast this
theorem bits_le {i : Int} {b : Nat} (h : 0 ≤ i) (h4 : i < (2 : Int) ^ b) : Builtin.Int.intBits i ≤ b := by
  unfold Builtin.Int.intBits
  by_cases e : i = 0
  · subst e; simp
  · have e' : (i == 0) = false := by simpa using e
    rw [e', if_neg Bool.false_ne_true]
    have : (i.natAbs : Int) < ((2 ^ b : Nat) : Int) := by rw [Int.natAbs_of_nonneg h]; exact_mod_cast h4
    have h5 : i.natAbs < 2 ^ b := by exact_mod_cast this
    have h6 : i.natAbs ≠ 0 := by omega
    have := (Nat.log2_lt h6).mpr h5
    omega
end M
namespace M
open PySem PySem.Spec PyProof.Rows L2
/-- what is no list stays -/
def Nl (H H' : Hp) : Prop := ∀ a o, (∀ xs, o ≠ .lst xs) → H a = some o → H' a = some o
theorem Nl.refl (H : Hp) : Nl H H := fun _ _ _ h => h
theorem Nl.trans {H H1 H2 : Hp} (a : Nl H H1) (b : Nl H1 H2) : Nl H H2 := fun x o n h => b x o n (a x o n h)
theorem Nl.ex {H H1 : Hp} (a : Ex H H1) : Nl H H1 := fun x o _ h => a x o h
theorem Nl.new {H : Hp} {p : Addr} {o : HO} (h : H p = none) : Nl H (upd H p o) := Nl.ex (Ex.new h)
theorem Nl.mut {H : Hp} {p : Addr} {o : HO} {xs : List V} (h : H p = some (.lst xs)) : Nl H (upd H p o) := fun a u n e => by
  have : a ≠ p := fun z => by rw [z, h] at e; cases e; exact n _ rfl
  rw [upd_ne this]; exact e
theorem Nl.T {K : PySem.W.Frag} {H H' : Hp} {a : Addr} {xs : List V} (e : Nl H H') (h : SqT K H a xs) : SqT K H' a xs := by
  rcases h with h | h
  · rcases h with h | ⟨o, h⟩
    · exact .inl (.inl (e a _ (fun _ z => by cases z) h))
    · exact .inl (.inr ⟨o, e a _ (fun _ z => by cases z) h⟩)
  · exact .inr h
theorem Nst.nl {K : PySem.W.Frag} {H H' : Hp} (e : Nl H H') {v : V} {t : Tr} (h : Nst K H v t) : Nst K H' v t := by
  induction h with
  | lf h => exact .lf (e.T h)
  | nd h _ _ i1 i2 => exact .nd (e.T h) i1 i2
/-- one of the lists that H does not know changes -/
theorem Ex.chg {H H1 : Hp} {p : Addr} {o : HO} (e : Ex H H1) (h : H p = none) : Ex H (upd H1 p o) := e.mut h
end M

/-! ### the readings at values that are known -/
namespace M
open PySem PySem.Spec PyProof.Rows L2
section
variable {K : PySem.W.Frag} {H : Hp} {Q : VK} {i j : Int} {a b : Str} {k l : Bool} {p q : Addr} {x y : V} {lo hi : Option Int}
theorem q_add1 : mAdd (.int i) (.int j) H Q = Q (.int (i + j)) H := rfl
theorem q_add2 : mAdd (.str a) (.str b) H Q = (a.length + b.length ≤ sizeLine ∧ Q (.str (a ++ b)) H) := rfl
theorem q_add3 : mAdd (.ref p) (.ref q) H Q = (∃ xs zs, H p = some (.lst xs) ∧ H q = some (.lst zs) ∧ xs.length + zs.length ≤ sizeLine ∧ ∀ r, H r = none → Q (.ref r) (upd H r (.lst (xs ++ zs)))) := rfl
theorem q_add4 : mAdd (.int i) (.bl k) H Q = Q (.int (i + b2i k)) H := rfl
theorem q_iadd1 : iAdd (.int i) (.int j) H Q = Q (.int (i + j)) H := rfl
theorem q_iadd2 : iAdd (.str a) (.str b) H Q = (a.length + b.length ≤ sizeLine ∧ Q (.str (a ++ b)) H) := rfl
theorem q_iadd3 : iAdd (.ref p) (.ref q) H Q = (∃ xs zs, H p = some (.lst xs) ∧ H q = some (.lst zs) ∧ xs.length + zs.length ≤ sizeLine ∧ Q (.ref p) (upd H p (.lst (xs ++ zs)))) := rfl
theorem q_sub : mSub (.int i) (.int j) H Q = Q (.int (i - j)) H := rfl
theorem q_mul1 : mMul (.int i) (.int j) H Q = (MulOk i j ∧ Q (.int (i * j)) H) := rfl
theorem q_mul2 : mMul (.ref p) (.int i) H Q = (∃ xs, H p = some (.lst xs) ∧ -(2 ^ 63) ≤ i ∧ i < 2 ^ 63 ∧ xs.length * i.toNat ≤ sizeLine ∧ ∀ r, H r = none → Q (.ref r) (upd H r (.lst (List.replicate i.toNat xs).flatten))) := rfl
theorem q_mod : mMod (.int i) (.int j) H Q = (0 < j ∧ Q (.int (i % j)) H) := rfl
theorem q_div : mDiv (.int i) (.int j) H Q = (DivOk j ∧ Q (.int (i / j)) H) := rfl
theorem q_pow : mPow (.int i) (.int j) H Q = ((0 ≤ j ∧ (Builtin.Int.intBits i : Int) * j ≤ 2 ^ 27) ∧ Q (.int (i ^ j.toNat)) H) := rfl
theorem q_eq1 : mEq K (.int i) (.int j) H Q = Q (.bl (decide (i = j))) H := rfl
theorem q_eq2 : mEq K (.str a) (.str b) H Q = Q (.bl (decide (a = b))) H := rfl
theorem q_eq3 : mEq K (.bl k) (.bl l) H Q = Q (.bl (decide (k = l))) H := rfl
theorem q_eq4 : mEq K .non .non H Q = Q (.bl true) H := rfl
theorem q_eq5 : mEq K .non (.int j) H Q = Q (.bl false) H := rfl
theorem q_eq6 : mEq K (.int j) .non H Q = Q (.bl false) H := rfl
theorem q_eq7 : mEq K (.str a) .non H Q = Q (.bl false) H := rfl
theorem q_eq8 : mEq K .non (.str a) H Q = Q (.bl false) H := rfl
theorem q_eq9 : mEq K (.ref p) y H Q = rEqW K false (.ref p) y H Q := by cases y <;> rfl
theorem q_eq10 : mEq K x (.ref p) H Q = rEqW K false x (.ref p) H Q := by cases x <;> rfl
theorem q_ne1 : mNe K (.int i) (.int j) H Q = Q (.bl (!decide (i = j))) H := rfl
theorem q_ne2 : mNe K (.str a) (.str b) H Q = Q (.bl (!decide (a = b))) H := rfl
theorem q_ne3 : mNe K (.bl k) (.bl l) H Q = Q (.bl (!decide (k = l))) H := rfl
theorem q_ne9 : mNe K (.ref p) y H Q = rEqW K true (.ref p) y H Q := by cases y <;> rfl
theorem q_ne10 : mNe K x (.ref p) H Q = rEqW K true x (.ref p) H Q := by cases x <;> rfl
theorem q_lt : mLt (.int i) (.int j) H Q = Q (.bl (decide (i < j))) H := rfl
theorem q_le : mLe (.int i) (.int j) H Q = Q (.bl (decide (i ≤ j))) H := rfl
theorem q_gt : mGt (.int i) (.int j) H Q = Q (.bl (decide (j < i))) H := rfl
theorem q_ge : mGe (.int i) (.int j) H Q = Q (.bl (decide (j ≤ i))) H := rfl
theorem q_inc : mInC (.str a) (.str b) H Q = (∃ k, a = S [k] ∧ Q (.bl (decide (k ∈ b.cps.toList))) H) := rfl
theorem q_ninc : mNinC (.str a) (.str b) H Q = (∃ k, a = S [k] ∧ Q (.bl (!decide (k ∈ b.cps.toList))) H) := rfl
theorem q_inc1 {c : Nat} {z : List Nat} : mInC (.str (S [c])) (.str (S z)) H Q = Q (.bl (decide (c ∈ z))) H := by
  rw [q_inc, S_cps]
  refine propext ⟨fun ⟨k, e, h⟩ => ?_, fun h => ⟨c, rfl, h⟩⟩
  have := S_inj.mp e
  simp only [List.cons.injEq, and_true] at this
  rw [this]; exact h
theorem q_ix1 : mIx K (.str a) (.int i) H Q = (a.length ≤ sizeLine ∧ ∃ c, atI a.cps.toList i = some c ∧ Q (.str (S [c])) H) := rfl
theorem q_ix2 : mIx K (.ref p) (.int i) H Q = (∃ xs v, (SqL K H p xs ∨ SqT K H p xs) ∧ atI xs i = some v ∧ Q v H) := rfl
theorem q_sl1 : mSl K (.str a) lo hi H Q = (a.length ≤ sizeLine ∧ Q (.str (S (cutL a.cps.toList lo hi))) H) := rfl
theorem q_sl2 : mSl K (.ref p) lo hi H Q = (∃ xs, SqL K H p xs ∧ ∀ r, H r = none → Q (.ref r) (upd H r (.lst (cutL xs lo hi)))) := rfl
theorem q_set {R : Hp → Prop} : mSetL (.ref p) (.int i) x H R = (∃ xs j, H p = some (.lst xs) ∧ ixN xs.length i = some j ∧ R (upd H p (.lst (xs.set j x)))) := rfl
theorem q_len1 : mLen K [.str a] H Q = (a.length ≤ sizeLine ∧ Q (.int a.length) H) := rfl
theorem q_len2 : mLen K [.ref p] H Q = (∃ ys, (SqL K H p ys ∨ SqT K H p ys) ∧ Q (.int ys.length) H) := rfl
theorem q_int1 : mInt [.int i] H Q = Q (.int i) H := rfl
theorem q_int2 : mInt [.bl k] H Q = Q (.int (if k then 1 else 0)) H := rfl
theorem q_max : mMax [.int i, .int j] H Q = Q (.int (max i j)) H := rfl
theorem q_min : mMin [.int i, .int j] H Q = Q (.int (min i j)) H := rfl
theorem q_abs : mAbs [.int i] H Q = Q (.int (i.natAbs : Int)) H := rfl
theorem q_sum : mSum K [.ref p] H Q = (∃ ns : List Int, SqL K H p (ns.map V.int) ∧ Q (.int ns.sum) H) := rfl
theorem q_list : mList K [.ref p] H Q = (∃ ys, (SqL K H p ys ∨ SqT K H p ys) ∧ ∀ l, H l = none → Q (.ref l) (upd H l (.lst ys))) := rfl
theorem q_isi1 {z : Str} : mIsi K [.str z, .ty "str"] H Q = Q (.bl true) H := by unfold mIsi; simp only [tyN, kb1]
theorem q_is1 : mIs x .non H Q = Q (.bl (isN x)) H := rfl
theorem q_not1 : mNot x .non H Q = Q (.bl (!isN x)) H := rfl
theorem q_isN1 : isN .non = true := rfl
theorem q_isN2 : isN (.ref p) = false := rfl
theorem q_isN3 : isN (.str a) = false := rfl
theorem q_isN4 : isN (.int i) = false := rfl
theorem q_join : mJoin K a (.ref p) H Q = (∃ ys : List Str, (SqL K H p (ys.map V.str) ∨ SqT K H p (ys.map V.str)) ∧ (ys.map (·.length)).sum + ys.length * a.length ≤ 16777216 ∧ Q (.str (Txt.join a ys)) H) := rfl
theorem q_count : mCount a (.str b) H Q = Q (.int (Txt.count a b)) H := rfl
theorem q_split : mSplit a (.str b) H Q = ((b.length == 0) = false ∧ a.length + 2 ≤ sizeLine ∧ ∀ r, H r = none → Q (.ref r) (upd H r (.lst ((Txt.split a b).map V.str)))) := rfl
theorem q_app {xs : List V} : mApp p xs [y] H Q = (xs.length < sizeLine ∧ Q .non (upd H p (.lst (xs ++ [y])))) := rfl
theorem q_pop {xs : List V} : mPop p xs [] H Q = (∃ y, xs.getLast? = some y ∧ Q y (upd H p (.lst xs.dropLast))) := rfl
theorem q_clear {xs : List V} : mClear p xs [] H Q = Q .non (upd H p (.lst [])) := rfl
theorem q_isiE {C : Addr} : mIsiE K [.ref p, .ref C] H Q = (∃ (D d : Addr) (fl : Str) (fs : List (Str × V)) (b : Bool), ExcK K fl D ∧ H p = some (exk p (.ref D) (some d)) ∧ H d = some (.xd fs) ∧ PySem.W.kitOne K (.ref D) (.ref C) = some b ∧ Q (.bl b) H) := rfl
theorem q_sorted : mSorted K [.ref p] H Q = (∃ xs : List Str, SqL K H p (xs.map V.str) ∧ ∀ (ys : List Str) (r : Addr), ys.Perm xs → sortedS ys = true → H r = none → Q (.ref r) (upd H r (.lst (ys.map V.str)))) := rfl
theorem q_repr : mRepr K [x] H Q = (∃ d, Sh K H x d ∧ d.showable = true ∧ d.depth ≤ 64 ∧ d.shown.length ≤ sizeLine ∧ Q (.str d.shown) H) := rfl
/-- joined texts -/
theorem join_S : ∀ l : List (List Nat), Txt.join (S []) (l.map S) = S l.flatten := by
  intro l
  show PySem.Builtin.Str.glued (S []) (l.map S) = _
  rw [StrLaws.glued_eq_join]
  induction l with
  | nil => rfl
  | cons z l ih =>
    cases l with
    | nil => show S z = S (z ++ []); rw [List.append_nil]
    | cons y r =>
      show S z ++ S [] ++ Str.join (S []) ((y :: r).map S) = _
      rw [ih, S_app, S_app, List.append_nil]
      simp only [List.flatten_cons]
theorem join_signs (l : List Nat) : Txt.join (S []) (l.map fun c => S [c]) = S l := by
  have e : (l.map fun c => S [c]) = (l.map fun c => [c]).map S := by rw [List.map_map]; rfl
  rw [e, join_S]
  congr 1
  induction l with
  | nil => rfl
  | cons c r ih => show [c] ++ (r.map fun c => [c]).flatten = _; rw [ih (by rw [List.map_map]; rfl)]; rfl
end
def sg (P : List Nat) : List V := P.map fun c => V.str (S [c])
def tx (l : List (List Nat)) : List V := l.map fun z => V.str (S z)
theorem sg_tx (P : List Nat) : sg P = tx (P.map fun c => [c]) := by unfold sg tx; rw [List.map_map]; rfl
theorem sg_str (P : List Nat) : sg P = (P.map fun c => S [c]).map V.str := by unfold sg; rw [List.map_map]; rfl
theorem sg_len (P : List Nat) : (sg P).length = P.length := by unfold sg; rw [List.length_map]
theorem tx_len (P : List (List Nat)) : (tx P).length = P.length := by unfold tx; rw [List.length_map]
theorem sg_app (a b : List Nat) : sg (a ++ b) = sg a ++ sg b := by unfold sg; rw [List.map_append]
theorem tx_app (a b : List (List Nat)) : tx (a ++ b) = tx a ++ tx b := by unfold tx; rw [List.map_append]
theorem one_len (P : List Nat) : ((P.map fun c => S [c]).map (·.length)).sum = P.length := by
  induction P with
  | nil => rfl
  | cons c r ih => simp only [List.map_cons, List.sum_cons, List.length_cons, ih, S_len, List.length_nil]; omega
end M

namespace M
open PySem PySem.Spec PyProof.Rows L2
namespace Tr
/-- the part at an address -/
def att : Tr → List Nat → Option Tr
  | t, [] => some t
  | .lf, _ :: _ => none
  | .nd a b, c :: r => if c = 114 then att b r else att a r
/-- another tree put at an address -/
def put : Tr → List Nat → Tr → Tr
  | _, [], o => o
  | .lf, _ :: _, _ => .lf
  | .nd a b, c :: r, o => if c = 114 then .nd a (put b r o) else .nd (put a r o) b
theorem att_lf (c : Nat) (r : List Nat) : att .lf (c :: r) = none := rfl
theorem att_nil (t : Tr) : att t [] = some t := by cases t <;> rfl
theorem put_nil (t o : Tr) : put t [] o = o := by cases t <;> rfl
theorem att_put : ∀ (r : List Nat) (t u : Tr), att t r = some u → ∃ pre post : List Nat, t.s = pre ++ u.s ++ post ∧ ∀ o, (put t r o).s = pre ++ o.s ++ post
  | [], t, u, h => by
    rw [att_nil] at h
    cases h
    exact ⟨[], [], by simp, fun o => by rw [put_nil]; simp⟩
  | c :: r, .lf, u, h => by cases h
  | c :: r, .nd a b, u, h => by
    by_cases z : c = 114
    · simp only [att, if_pos z] at h
      obtain ⟨p, q, h1, h2⟩ := att_put r b u h
      refine ⟨40 :: (a.s ++ p), q ++ [41], ?_, fun o => ?_⟩
      · simp only [Tr.s, h1, List.cons_append, List.append_assoc, List.nil_append]
      · simp only [put, if_pos z, Tr.s, h2, List.cons_append, List.append_assoc, List.nil_append]
    · simp only [att, if_neg z] at h
      obtain ⟨p, q, h1, h2⟩ := att_put r a u h
      refine ⟨40 :: p, q ++ (b.s ++ [41]), ?_, fun o => ?_⟩
      · simp only [Tr.s, h1, List.cons_append, List.append_assoc, List.nil_append]
      · simp only [put, if_neg z, Tr.s, h2, List.cons_append, List.append_assoc, List.nil_append]
theorem att_n : ∀ (r : List Nat) (t u : Tr), att t r = some u → u.n + r.length ≤ t.n
  | [], t, u, h => by rw [att_nil] at h; cases h; simp
  | c :: r, .lf, u, h => by cases h
  | c :: r, .nd a b, u, h => by
    simp only [att] at h
    simp only [Tr.n, List.length_cons]
    split at h
    · have := att_n r b u h; omega
    · have := att_n r a u h; omega
theorem put_n : ∀ (r : List Nat) (t o : Tr), (put t r o).n ≤ t.n + o.n
  | [], t, o => by rw [put_nil]; omega
  | c :: r, .lf, o => by simp [put, Tr.n]
  | c :: r, .nd a b, o => by
    simp only [put]
    split
    · have := put_n r b o; simp only [Tr.n]; omega
    · have := put_n r a o; simp only [Tr.n]; omega
end Tr
/-- an address' letters -/
def isAd (z : List Nat) : Bool := decide (∀ c ∈ z, c = 108 ∨ c = 114)
end M

/-! ### small tactics for heaps -/
namespace M
open PySem PySem.Spec PyProof.Rows L2
theorem Ex.at {H H1 : Hp} {a : Addr} {o : HO} (e : Ex H H1) (h : H a = some o) : H1 a = some o := e a o h
/-- what stands is not what is new -/
theorem ne_new {H : Hp} {p q : Addr} {o : HO} (h : H p = some o) (n : H q = none) : q ≠ p := fun z => by rw [z, h] at n; cases n
/-- what is refused: the error with the value -/
def Fail (E : XK) (H : Hp) (C : Addr) (v : V) : Prop := ∀ H' d, Ex H H' → H d = none → H' d = some (.xd [("value", v)]) → E (.ref C) (some d) H'
theorem Fail.ex {E : XK} {H H1 : Hp} {C : Addr} {v : V} (e : Ex H H1) (h : Fail E H C v) : Fail E H1 C v := fun H' d e1 n hd => h H' d (e.trans e1) (e.free n) hd
end M

/-! ### values shown by repr; a list of texts may grow -/
namespace M
open PySem PySem.Spec PyProof.Rows L2
theorem shown_str_le {z : List Nat} (h : okc z) : (PyData.str (S z)).shown.length ≤ 10 * z.length + 2 := by
  have := StrLaws.reprText_len (S z) fun c hc => by
    rw [S_cps] at hc
    have := h c hc
    exact Nat.lt_trans this (by decide)
  rw [S_len] at this
  simpa only [PyData.shown] using this
theorem shown_strs_sum (n : Nat) : ∀ l : List (List Nat), (∀ z ∈ l, z.length ≤ n ∧ okc z) → ((PyData.shownAll (dStrs l)).map (·.length)).sum ≤ (10 * n + 2) * l.length
  | [], _ => by simp [dStrs, PyData.shownAll]
  | z :: l, h => by
    have ih := shown_strs_sum n l fun y hy => h y (List.mem_cons_of_mem _ hy)
    have h1 := h z List.mem_cons_self
    have h2 := shown_str_le h1.2
    show ((PyData.shownAll (.str (S z) :: dStrs l)).map (·.length)).sum ≤ _
    simp only [PyData.shownAll, List.map_cons, List.sum_cons, List.length_cons, Nat.mul_add, Nat.mul_one]
    have : 10 * z.length ≤ 10 * n := by omega
    omega
theorem shownAll_len : ∀ l : List PyData, (PyData.shownAll l).length = l.length
  | [] => rfl
  | z :: l => by simp only [PyData.shownAll, List.length_cons, shownAll_len l]
theorem shown_list_le {n : Nat} {l : List (List Nat)} (h : ∀ z ∈ l, z.length ≤ n ∧ okc z) : (PyData.list (dStrs l)).shown.length ≤ (10 * n + 4) * l.length + 3 := by
  have h1 := listText_len_le (PyData.shownAll (dStrs l))
  have h2 := shown_strs_sum n l h
  rw [shownAll_len] at h1
  have h3 : (dStrs l).length = l.length := by unfold dStrs; rw [List.length_map]
  rw [h3] at h1
  simp only [PyData.shown]
  have : (10 * n + 4) * l.length = (10 * n + 2) * l.length + 2 * l.length := by rw [← Nat.add_mul]
  omega
theorem shown_tuple_le {n : Nat} {l : List (List Nat)} (h : ∀ z ∈ l, z.length ≤ n ∧ okc z) : (PyData.tuple (dStrs l)).shown.length ≤ (10 * n + 4) * l.length + 3 := by
  have h1 := tupleText_len_le (PyData.shownAll (dStrs l))
  have h2 := shown_strs_sum n l h
  rw [shownAll_len] at h1
  have h3 : (dStrs l).length = l.length := by unfold dStrs; rw [List.length_map]
  rw [h3] at h1
  simp only [PyData.shown]
  have : (10 * n + 4) * l.length = (10 * n + 2) * l.length + 2 * l.length := by rw [← Nat.add_mul]
  omega
theorem showable_strs : ∀ l : List (List Nat), PyData.showableAll (dStrs l) = true
  | [] => rfl
  | z :: l => by show PyData.showableAll (.str (S z) :: dStrs l) = true; simp only [PyData.showableAll, PyData.showable, showable_strs l, Bool.and_self]
theorem noDict_strs : ∀ l : List (List Nat), PyData.hasDictAll (dStrs l) = false
  | [] => rfl
  | z :: l => by show PyData.hasDictAll (.str (S z) :: dStrs l) = false; simp only [PyData.hasDictAll, PyData.hasDict, noDict_strs l, Bool.or_self]
end M

/-! ### texts told by repr have good signs -/
namespace M
open PySem PySem.Spec PyProof.Rows L2
def okT (x : Str) : Prop := ∀ c ∈ x.cps.toList, c < 1114112
theorem okT_strOk {x : Str} (h : okT x) : PyData.strOk x = true := by
  unfold PyData.strOk
  rw [← Array.all_toList, List.all_eq_true]
  intro c hc
  exact decide_eq_true (h c hc)
theorem char_lt (c : Char) : c.toNat < 1114112 := by
  have := c.valid
  rcases this with h | ⟨_, h⟩
  · exact Nat.lt_trans h (by decide)
  · exact h
theorem okT_app {a b : Str} (h1 : okT a) (h2 : okT b) : okT (a ++ b) := by
  intro c hc
  have e : (a ++ b).cps.toList = a.cps.toList ++ b.cps.toList := by
    show (a.cps ++ b.cps).toList = _
    simp
  rw [e] at hc
  exact (List.mem_append.mp hc).elim (h1 c) (h2 c)
theorem okT_of (s : String) : okT (Str.ofString s) := by
  intro c hc
  have e : (Str.ofString s).cps.toList = s.toList.map Char.toNat := by
    unfold Str.ofString
    rw [List.toList_toArray, cpsOfBytes_string]
  rw [e] at hc
  obtain ⟨d, _, rfl⟩ := List.mem_map.mp hc
  exact char_lt d
theorem okT_S {z : List Nat} (h : okc z) : okT (S z) := fun c hc => h c (by rw [S_cps] at hc; exact hc)
theorem hex_ok (w c : Nat) : ∀ d ∈ List.replicate (w - ((Nat.toDigits 16 c).map Char.toNat).length) 48 ++ (Nat.toDigits 16 c).map Char.toNat, d < 1114112 := fun d hd => by
  rcases List.mem_append.mp hd with h | h
  · rw [(List.mem_replicate.mp h).2]; decide
  · obtain ⟨x, _, rfl⟩ := List.mem_map.mp h
    exact char_lt x
theorem reprChar_ok (q c : Nat) (hq : q < 1114112) (hc : c < 1114112) : ∀ d ∈ Builtin.Str.reprChar q c, d < 1114112 := by
  intro d hd
  unfold Builtin.Str.reprChar at hd
  dsimp only at hd
  have h2 := hex_ok 2 c
  have h4 := hex_ok 4 c
  have h8 := hex_ok 8 c
  repeat' split at hd
  all_goals first
    | (simp only [List.mem_cons, List.not_mem_nil, or_false] at hd; omega)
    | (rcases List.mem_append.mp hd with hd | hd
       · simp only [List.mem_cons, List.not_mem_nil, or_false] at hd; omega
       · first | exact h2 d hd | exact h4 d hd | exact h8 d hd)
theorem foldl_repr_ok (q : Nat) (hq : q < 1114112) : ∀ (l : List Nat) (acc : Array Nat), (∀ c ∈ l, c < 1114112) → (∀ c ∈ acc.toList, c < 1114112) → ∀ c ∈ (l.foldl (fun out c => out ++ (Builtin.Str.reprChar q c).toArray) acc).toList, c < 1114112
  | [], acc, _, h => h
  | x :: r, acc, h1, h2 => by
    rw [List.foldl_cons]
    refine foldl_repr_ok q hq r _ (fun c hc => h1 c (List.mem_cons_of_mem _ hc)) fun c hc => ?_
    rw [Array.toList_append, List.toList_toArray] at hc
    exact (List.mem_append.mp hc).elim (h2 c) (reprChar_ok q x hq (h1 x List.mem_cons_self) c)
theorem okT_repr {x : Str} (h : okT x) : okT (reprText x) := by
  have hq : reprQuote x < 1114112 := by
    unfold reprQuote
    split <;> decide
  intro c hc
  unfold reprText at hc
  rw [← Array.foldl_toList] at hc
  simp only [Array.toList_push] at hc
  rcases List.mem_append.mp hc with hc | hc
  · exact foldl_repr_ok _ hq _ _ h (fun c hc => by rw [List.mem_singleton.mp hc]; exact hq) c hc
  · rw [List.mem_singleton.mp hc]; exact hq
theorem okT_join {s : Str} (hs : okT s) : ∀ l : List Str, (∀ x ∈ l, okT x) → okT (Str.join s l)
  | [], _ => fun c hc => by cases hc
  | [x], h => h x List.mem_cons_self
  | x :: y :: r, h => by
    have ih := okT_join hs (y :: r) fun z hz => h z (List.mem_cons_of_mem _ hz)
    show okT (x ++ s ++ Str.join s (y :: r))
    exact okT_app (okT_app (h x List.mem_cons_self) hs) ih
theorem okT_textFrom : ∀ (l : List Str) (k : Nat) (acc : Str), okT acc → (∀ x ∈ l, okT x) → okT (PySem.textFrom k acc l)
  | [], k, acc, h, _ => h
  | x :: r, k, acc, h, hl => by
    refine okT_textFrom r (k + 1) _ (okT_app (okT_app h (okT_of _)) (hl x List.mem_cons_self)) fun z hz => hl z (List.mem_cons_of_mem _ hz)
theorem okT_strs : ∀ l : List (List Nat), (∀ z ∈ l, okc z) → ∀ x ∈ PyData.shownAll (dStrs l), okT x
  | [], _ => fun x hx => by cases hx
  | z :: l, h => fun x hx => by
    have hx' : x ∈ PyData.shownAll (.str (S z) :: dStrs l) := hx
    simp only [PyData.shownAll, PyData.shown] at hx'
    rcases List.mem_cons.mp hx' with rfl | hx'
    · exact okT_repr (okT_S (h z List.mem_cons_self))
    · exact okT_strs l (fun y hy => h y (List.mem_cons_of_mem _ hy)) x hx'
theorem okT_list {l : List (List Nat)} (h : ∀ z ∈ l, okc z) : okT (PyData.list (dStrs l)).shown := by
  simp only [PyData.shown]
  exact okT_app (okT_textFrom _ 0 _ (okT_of "[") (okT_strs l h)) (okT_of "]")
theorem okT_tuple {l : List (List Nat)} (h : ∀ z ∈ l, okc z) : okT (PyData.tuple (dStrs l)).shown := by
  simp only [PyData.shown]
  exact okT_app (okT_app (okT_of "(") (okT_join (okT_of ", ") _ (okT_strs l h))) (okT_of _)
end M

namespace M
open PySem PySem.Spec PyProof.Rows L2
/-- what is shown: a value that stays, or a list of at most n texts that may grow -/
inductive Bd (K : PySem.W.Frag) (n : Nat) (H : Hp) : V → List Addr → PyData → Prop
  | st {v : V} {d : PyData} : (∀ H', Ex H H' → Sh K H' v d) → d.showable = true → d.depth ≤ 64 → d.shown.length ≤ sizeLine → okT d.shown → (∀ (H' : Hp) (Q : VK), Ex H H' → Q (.bl false) H' → mIsi K [v, .ty "list"] H' Q) → Bd K n H v [] d
  | ls {p : Addr} {l : List (List Nat)} : H p = some (.lst (tx l)) → l.length ≤ n → (∀ z ∈ l, z.length ≤ 1000 ∧ okc z) → Bd K n H (.ref p) [p] (.list (dStrs l))
theorem Bd.ex {K : PySem.W.Frag} {n : Nat} {H H' : Hp} {v : V} {m : List Addr} {d : PyData} (e : Ex H H') (h : Bd K n H v m d) : Bd K n H' v m d := by
  cases h with
  | st h1 h2 h3 h4 h6 h5 => exact .st (fun H2 e2 => h1 H2 (e.trans e2)) h2 h3 h4 h6 fun H2 Q e2 => h5 H2 Q (e.trans e2)
  | ls h1 h2 h3 => exact .ls (e _ _ h1) h2 h3
theorem Bd.mono {K : PySem.W.Frag} {n k : Nat} {H : Hp} {v : V} {m : List Addr} {d : PyData} (hk : n ≤ k) (h : Bd K n H v m d) : Bd K k H v m d := by
  cases h with
  | st h1 h2 h3 h4 h6 h5 => exact .st h1 h2 h3 h4 h6 h5
  | ls h1 h2 h3 => exact .ls h1 (by omega) h3
theorem Bd.shows {K : PySem.W.Frag} {n : Nat} {H : Hp} {v : V} {m : List Addr} {d : PyData} (h : Bd K n H v m d) (hn : n ≤ 1000) : Sh K H v d ∧ d.showable = true ∧ d.depth ≤ 64 ∧ d.shown.length ≤ sizeLine ∧ okT d.shown := by
  cases h with
  | st h1 h2 h3 h4 h6 h5 => exact ⟨h1 H (Ex.refl H), h2, h3, h4, h6⟩
  | @ls p l h1 h2 h3 =>
    have := shown_list_le h3
    refine ⟨.dp (.lst (SqL.of h1) (dp_strs l)) (by simpa only [PyData.hasDict] using noDict_strs l), by simpa only [PyData.showable] using showable_strs l, by simp only [PyData.depth, dep_strs]; decide, ?_, okT_list fun z hz => (h3 z hz).2⟩
    have h4 : (10 * 1000 + 4) * l.length ≤ (10 * 1000 + 4) * 1000 := Nat.mul_le_mul_left _ (by omega)
    rw [szl]; omega
section
variable {K : PySem.W.Frag} {n : Nat} {H : Hp}
theorem Bd.non : Bd K n H .non [] .none := .st (fun _ _ => .dp .non rfl) rfl (by decide) (by decide +kernel) (okT_of "None") fun H' Q _ q => by unfold mIsi; simp only [tyN, kb19]; exact q
theorem Bd.int (i : Int) (h1 : (PyData.int i).showable = true) (h2 : (PyData.int i).shown.length ≤ sizeLine) : Bd K n H (.int i) [] (.int i) := .st (fun _ _ => .dp (.int i) rfl) h1 (by simp only [PyData.depth]; decide) h2 (by simp only [PyData.shown]; exact okT_of _) fun H' Q _ q => by unfold mIsi; simp only [tyN, kb9]; exact q
theorem Bd.bl (b : Bool) : Bd K n H (.bl b) [] (.bool b) := .st (fun _ _ => .dp (.bl b) rfl) rfl (by simp only [PyData.depth]; decide) (by cases b <;> decide +kernel) (by simp only [PyData.shown]; cases b <;> exact okT_of _) fun H' Q _ q => by unfold mIsi; simp only [tyN, kb14]; exact q
theorem Bd.str {z : List Nat} (hz : okc z) (hl : z.length ≤ 1000000) : Bd K n H (.str (S z)) [] (.str (S z)) := .st (fun _ _ => .dp (.str _) rfl) rfl (by simp only [PyData.depth]; decide) (by have := shown_str_le hz; rw [szl]; omega) (by simp only [PyData.shown]; exact okT_repr (okT_S hz)) fun H' Q _ q => by unfold mIsi; simp only [tyN, kb4]; exact q
theorem Bd.tup {a : Addr} {l : List (List Nat)} (h : SqT K H a (tx l)) (hl : l.length ≤ 1000) (h3 : ∀ z ∈ l, z.length ≤ 1000 ∧ okc z) : Bd K n H (.ref a) [] (.tuple (dStrs l)) :=
  .st (fun _ e => .dp (.tup (e.T h) (dp_strs l)) (by simpa only [PyData.hasDict] using noDict_strs l)) (by simpa only [PyData.showable] using showable_strs l) (by simp only [PyData.depth, dep_strs]; decide) (by
    have := shown_tuple_le h3
    have h4 : (10 * 1000 + 4) * l.length ≤ (10 * 1000 + 4) * 1000 := Nat.mul_le_mul_left _ (by omega)
    rw [szl]; omega) (okT_tuple fun z hz => (h3 z hz).2) fun H' Q e q => ⟨_, _, tyX_tup (e.T h), ki_tup.2.2.2.1, q⟩
theorem Bd.dct {a : Addr} (h : H a = some (.dK [])) : Bd K n H (.ref a) [] (.dict []) := .st (fun _ e => .dct (e _ _ h) rfl) rfl (by decide) (by decide +kernel) (okT_app (okT_app (okT_of "{") (okT_join (okT_of ", ") _ fun x hx => by cases hx)) (okT_of "}")) fun H' Q e q => ⟨_, _, .base (.dK (e _ _ h)), ki_dict.2.2.2.1, q⟩
end
/-- a bad value shown stays one -/
theorem Bd.fm {K : PySem.W.Frag} {n k : Nat} {H H' : Hp} {v : V} {m : List Addr} {d d' : PyData} (h : Bd K n H v m d) (f : Fm m H H') (h' : Bd K k H' v m d') : Ex H H' ∨ ∃ p xs, v = .ref p ∧ m = [p] ∧ SqL K H' p xs := by
  cases h with
  | st => exact .inl (Fm.nil f)
  | ls => cases h' with
    | ls h1 => exact .inr ⟨_, _, rfl, rfl, SqL.of h1⟩
/-- lists [b, c, text] compared -/
theorem eq_bbs {K : PySem.W.Frag} {neg : Bool} {H : Hp} {Q : VK} {p q : Addr} {b c : Bool} {x : Str} (h1 : SqL K H p [.bl b, .bl c, .str x]) (h2 : SqL K H q [.bl b, .bl c, .str x]) (hx : okT x) (k : Q (.bl (!neg)) H) : rEqW K neg (.ref p) (.ref q) H Q := by
  have lay : (PyData.list [.bool b, .bool c, .str x]).canLay0 = true := by simp only [PyData.canLay0, PyData.canLayAll0, okT_strOk hx, Bool.and_self]
  have dp : ∀ {r : Addr}, SqL K H r [.bl b, .bl c, .str x] → Dp K H (.ref r) (.list [.bool b, .bool c, .str x]) := fun h => .lst h (.cons (.bl b) (.cons (.bl c) (.cons (.str x) .nil)))
  refine ⟨_, _, dp h1, dp h2, lay, lay, by simp only [PyData.depth, PyData.depthAll]; decide, ?_⟩
  have e : PyData.eqv (.list [.bool b, .bool c, .str x]) (.list [.bool b, .bool c, .str x]) = true := by simp [PyData.eqv, PyData.eqvAll]
  rw [e]
  cases neg <;> exact k
end M

/-! ### bad values in a row, each of them a list that may grow -/
namespace M
open PySem PySem.Spec PyProof.Rows L2
def gdL (l : List (List Nat)) : Prop := ∀ z ∈ l, z.length ≤ 1000 ∧ okc z
inductive Bw (K : PySem.W.Frag) (n : Nat) (H : Hp) : V → Prop
  | non : Bw K n H .non
  | int {i : Int} : (PyData.int i).showable = true → (PyData.int i).shown.length ≤ sizeLine → Bw K n H (.int i)
  | bl (b : Bool) : Bw K n H (.bl b)
  | str {z : List Nat} : okc z → z.length ≤ 1000000 → Bw K n H (.str (S z))
  | lst {p : Addr} {l : List (List Nat)} : H p = some (.lst (tx l)) → l.length ≤ n → gdL l → Bw K n H (.ref p)
  | tup {p : Addr} {l : List (List Nat)} : H p = some (.tup (tx l)) → l.length ≤ 1000 → gdL l → Bw K n H (.ref p)
  | dct {p : Addr} : H p = some (.dK []) → Bw K n H (.ref p)
theorem Bw.bd {K : PySem.W.Frag} {n : Nat} {H : Hp} {w : V} (h : Bw K n H w) : ∃ m d, Bd K n H w m d ∧ ∀ p ∈ m, w = .ref p := by
  cases h with
  | non => exact ⟨_, _, .non, fun p h => by cases h⟩
  | int h1 h2 => exact ⟨_, _, .int _ h1 h2, fun p h => by cases h⟩
  | bl b => exact ⟨_, _, .bl b, fun p h => by cases h⟩
  | str h1 h2 => exact ⟨_, _, .str h1 h2, fun p h => by cases h⟩
  | lst h1 h2 h3 => exact ⟨_, _, .ls h1 h2 h3, fun p h => by rw [List.mem_singleton.mp h]⟩
  | tup h1 h2 h3 => exact ⟨_, _, .tup (SqT.of h1) h2 h3, fun p h => by cases h⟩
  | dct h1 => exact ⟨_, _, .dct h1, fun p h => by cases h⟩
theorem Bw.ex {K : PySem.W.Frag} {n : Nat} {H H' : Hp} {w : V} (e : Ex H H') (h : Bw K n H w) : Bw K n H' w := by
  cases h with
  | non => exact .non
  | int h1 h2 => exact .int h1 h2
  | bl b => exact .bl b
  | str h1 h2 => exact .str h1 h2
  | lst h1 h2 h3 => exact .lst (e _ _ h1) h2 h3
  | tup h1 h2 h3 => exact .tup (e _ _ h1) h2 h3
  | dct h1 => exact .dct (e _ _ h1)
theorem Bw.step {K : PySem.W.Frag} {n k : Nat} {H H' : Hp} {v w : V} {m : List Addr} {d d' : PyData} (h : Bw K n H w) (bd : Bd K n H v m d) (f : Fm m H H') (bd' : Bd K k H' v m d') (hk : n ≤ k) : Bw K k H' w := by
  have at_ : ∀ {p : Addr} {o : HO}, H p = some o → (∀ l, o ≠ .lst (tx l)) → H' p = some o := fun {p o} h n => by
    refine f p o (fun hp => ?_) h
    cases bd with
    | st => cases hp
    | ls h1 => rw [List.mem_singleton.mp hp, h1] at h; cases h; exact n _ rfl
  cases h with
  | non => exact .non
  | int h1 h2 => exact .int h1 h2
  | bl b => exact .bl b
  | str h1 h2 => exact .str h1 h2
  | @lst p l h1 h2 h3 =>
    by_cases hp : p ∈ m
    · cases bd' with
      | st => cases hp
      | ls g1 g2 g3 => rw [List.mem_singleton.mp hp]; exact .lst g1 g2 g3
    · exact .lst (f p _ hp h1) (by omega) h3
  | tup h1 h2 h3 => exact .tup (at_ h1 fun l z => by cases z) h2 h3
  | dct h1 => exact .dct (at_ h1 fun l z => by cases z)
/-- the addresses of a value -/
def rf : V → List Addr
  | .ref p => [p]
  | _ => []
theorem rf_mem {v : V} {p : Addr} : p ∈ rf v ↔ v = .ref p := by
  cases v <;> simp [rf, eq_comm]
theorem Bw.stp {K : PySem.W.Frag} {n k : Nat} {H H' : Hp} {v w : V} (h : Bw K n H w) (f : Fm (rf v) H H') (b : Bw K k H' v) (hk : n ≤ k) : Bw K k H' w := by
  have at_ : ∀ {p : Addr} {o : HO}, H p = some o → v ≠ .ref p → H' p = some o := fun {p o} h n => f p o (fun hp => n (rf_mem.mp hp)) h
  cases h with
  | non => exact .non
  | int h1 h2 => exact .int h1 h2
  | bl b => exact .bl b
  | str h1 h2 => exact .str h1 h2
  | @lst p l h1 h2 h3 =>
    by_cases e : v = .ref p
    · rw [← e]; exact b
    · exact .lst (at_ h1 e) (by omega) h3
  | @tup p l h1 h2 h3 =>
    by_cases e : v = .ref p
    · rw [← e]; exact b
    · exact .tup (at_ h1 e) h2 h3
  | @dct p h1 =>
    by_cases e : v = .ref p
    · rw [← e]; exact b
    · exact .dct (at_ h1 e)
theorem SqL.fm {K : PySem.W.Frag} {H H' : Hp} {m : List Addr} {q : Addr} {xs : List V} (hq : q ∉ m) (f : Fm m H H') (hL : SqL K H q xs) : SqL K H' q xs := by
  rcases hL with h | h
  · rcases h with h | ⟨o, h⟩
    · exact .inl (.inl (f _ _ hq h))
    · exact .inl (.inr ⟨o, f _ _ hq h⟩)
  · exact .inr h
theorem Fm.mono {a b : List Addr} {H H' : Hp} (h : ∀ x ∈ a, x ∈ b) (f : Fm a H H') : Fm b H H' := fun x o n => f x o fun y => n (h x y)
theorem Tr.s_okc : ∀ t : Tr, okc t.s
  | .lf => fun c h => by rw [List.mem_singleton.mp h]; decide
  | .nd a b => fun c h => by
    simp only [Tr.s, List.mem_cons, List.mem_append, List.not_mem_nil, or_false] at h
    rcases h with rfl | h | h | rfl
    · decide
    · exact Tr.s_okc a c h
    · exact Tr.s_okc b c h
    · decide
/-- what is new may change -/
theorem Fm.exN {m : List Addr} {H H1 H2 : Hp} (e : Ex H H1) (n : ∀ p ∈ m, H p = none) (f : Fm m H1 H2) : Ex H H2 := fun a o h => f a o (fun z => by rw [n a z] at h; cases h) (e a o h)
end M

/-! ### roads and parts -/
namespace M
open PySem PySem.Spec PyProof.Rows L2
theorem isAd_app {a b : List Nat} (h1 : isAd a = true) (h2 : isAd b = true) : isAd (a ++ b) = true := by
  unfold isAd at h1 h2 ⊢
  rw [decide_eq_true_eq] at h1 h2 ⊢
  exact fun c hc => (List.mem_append.mp hc).elim (h1 c) (h2 c)
theorem Tr.att_app : ∀ (a b : List Nat) (t : Tr), t.att (a ++ b) = (t.att a).bind fun u => u.att b
  | [], b, t => by rw [Tr.att_nil]; rfl
  | c :: a, b, .lf => rfl
  | c :: a, b, .nd l r => by
    show (if c = 114 then r.att (a ++ b) else l.att (a ++ b)) = (if c = 114 then r.att a else l.att a).bind _
    split
    · exact Tr.att_app a b r
    · exact Tr.att_app a b l
theorem lvs_att : ∀ (t : Tr) (r z : List Nat), z ∈ t.lvs r → ∃ s, z = r ++ s ∧ isAd s = true ∧ t.att s = some .lf
  | .lf, r, z, h => ⟨[], by rw [List.mem_singleton.mp h]; simp, rfl, rfl⟩
  | .nd a b, r, z, h => by
    rcases List.mem_append.mp h with h | h
    · obtain ⟨s, e, h1, h2⟩ := lvs_att a _ z h
      exact ⟨108 :: s, by rw [e]; simp, isAd_app (a := [108]) (by decide) h1, h2⟩
    · obtain ⟨s, e, h1, h2⟩ := lvs_att b _ z h
      exact ⟨114 :: s, by rw [e]; simp, isAd_app (a := [114]) (by decide) h1, h2⟩
theorem nds_att : ∀ (t : Tr) (r z : List Nat), z ∈ t.nds r → ∃ s a b, z = r ++ s ∧ isAd s = true ∧ t.att s = some (.nd a b)
  | .lf, r, z, h => by cases h
  | .nd a b, r, z, h => by
    rcases List.mem_append.mp h with h | h
    · obtain ⟨s, x, y, e, h1, h2⟩ := nds_att a _ z h
      exact ⟨108 :: s, x, y, by rw [e]; simp, isAd_app (a := [108]) (by decide) h1, h2⟩
    · rcases List.mem_append.mp h with h | h
      · exact ⟨[], a, b, by rw [List.mem_singleton.mp h]; simp, rfl, rfl⟩
      · obtain ⟨s, x, y, e, h1, h2⟩ := nds_att b _ z h
        exact ⟨114 :: s, x, y, by rw [e]; simp, isAd_app (a := [114]) (by decide) h1, h2⟩
theorem lvs_off {t : Tr} {z w : List Nat} (h : t.att z = some .lf) (hw : w ≠ []) : t.att (z ++ w) = none := by
  rw [Tr.att_app, h]
  cases w with
  | nil => exact absurd rfl hw
  | cons c w => rfl
/-- the tuples of a nest are no list -/
theorem Nst.fm {K : PySem.W.Frag} {m : List Addr} {H H' : Hp} {v : V} {t : Tr} (hm : ∀ p ∈ m, H p = none ∨ ∃ xs, H p = some (.lst xs)) (f : Fm m H H') (h : Nst K H v t) : Nst K H' v t := by
  have T : ∀ {a : Addr} {xs : List V}, SqT K H a xs → SqT K H' a xs := fun {a xs} h => by
    have no : ∀ {o : HO}, H a = some o → (∀ ys, o ≠ .lst ys) → H' a = some o := fun {o} e n => f a o (fun z => by
      rcases hm a z with w | ⟨ys, w⟩
      · rw [w] at e; cases e
      · rw [w] at e; cases e; exact n _ rfl) e
    rcases h with h | h
    · rcases h with h | ⟨o, h⟩
      · exact .inl (.inl (no h fun _ z => by cases z))
      · exact .inl (.inr ⟨o, no h fun _ z => by cases z⟩)
    · exact .inr h
  induction h with
  | lf h => exact .lf (T h)
  | nd h _ _ i1 i2 => exact .nd (T h) i1 i2
theorem Pu.fmo {H H1 : Hp} {g : Addr} {n : Nat} {m : List Addr} (h : g ∉ m) (e : Fm m H H1) (p : Pu H g n) : Pu H1 g n := by
  obtain ⟨a, b, c, h1, r⟩ := p
  exact ⟨a, b, c, e _ _ h h1, r⟩
theorem isTr_dot (t : Tr) : isTr (t.s ++ [46]) = false := by
  unfold isTr
  rw [itRun_app, itRun_tree]
  rfl
theorem Fm.exg {H H1 H2 : Hp} {g : Addr} (e : Ex H H1) (n : H g = none) (f : Fm [g] H1 H2) : Ex H H2 := Fm.exN e (fun p hp => by rw [List.mem_singleton.mp hp]; exact n) f
theorem Pu.lst {H : Hp} {g : Addr} {n : Nat} (p : Pu H g n) : ∃ xs, H g = some (.lst xs) := by
  obtain ⟨a, b, c, h1, r⟩ := p
  exact ⟨_, h1⟩
theorem Pu.ne {H : Hp} {g p : Addr} {n : Nat} (h : Pu H g n) (hp : H p = none) : p ≠ g := fun z => by
  obtain ⟨_, _, _, z1, _⟩ := h
  rw [z, z1] at hp; cases hp
end M

/-! ### a refusal that is caught; values that are shown and stay -/
namespace M
open PySem PySem.Spec PyProof.Rows L2
theorem fin_go {K : PySem.W.Frag} {aT C : Addr} {i j : Nat} {D : Ends} {σ : Sl} {H : Hp} {v : V} (x1 : PySem.W.exmOne K (.ref C) (.ref aT) = some true)
    (k : ∀ (a dd : Addr) (H' : Hp), Ex H H' → H' a = some (exk a (.ref C) (some dd)) → H' dd = some (.xd [("value", v)]) → H a = none → H dd = none → D.nx ((σ.set j (some (.ref a))).set i none) H') : Fail (WE (wK K (.ref aT) i j D) σ) H C v := fun H' dd e nd hd =>
  ⟨x1, fun a na => k a dd _ (e.push na) upd_same (Ex.new na _ _ hd) (e.free na) nd⟩
/-- a value that stays, and is shown -/
def Sv (K : PySem.W.Frag) (H : Hp) (v : V) (d : PyData) : Prop := (∀ H', Ex H H' → Sh K H' v d) ∧ d.showable = true ∧ d.depth ≤ 64 ∧ d.shown.length ≤ sizeLine
theorem Sv.ex {K : PySem.W.Frag} {H H' : Hp} {v : V} {d : PyData} (e : Ex H H') (h : Sv K H v d) : Sv K H' v d := ⟨fun H2 e2 => h.1 H2 (e.trans e2), h.2⟩
section
variable {K : PySem.W.Frag} {H : Hp}
theorem Sv.non : Sv K H .non .none := ⟨fun _ _ => .dp .non rfl, rfl, by decide, by decide +kernel⟩
theorem Sv.int (i : Int) (h1 : (PyData.int i).showable = true) (h2 : (PyData.int i).shown.length ≤ sizeLine) : Sv K H (.int i) (.int i) := ⟨fun _ _ => .dp (.int i) rfl, h1, by simp only [PyData.depth]; decide, h2⟩
theorem Sv.bl (b : Bool) : Sv K H (.bl b) (.bool b) := ⟨fun _ _ => .dp (.bl b) rfl, rfl, by simp only [PyData.depth]; decide, by cases b <;> decide +kernel⟩
theorem Sv.str {z : List Nat} (hz : okc z) (hl : z.length ≤ 1000000) : Sv K H (.str (S z)) (.str (S z)) := ⟨fun _ _ => .dp (.str _) rfl, rfl, by simp only [PyData.depth]; decide, by have := shown_str_le hz; rw [szl]; omega⟩
theorem Sv.dct {a : Addr} (h : H a = some (.dK [])) : Sv K H (.ref a) (.dict []) := ⟨fun _ e => .dct (e _ _ h) rfl, rfl, by decide, by decide +kernel⟩
theorem Sv.lst {a : Addr} {xs : List V} {ds : List PyData} (h : SqL K H a xs) (hd : ∀ H', Ex H H' → DpAll K H' xs ds) (h1 : (PyData.list ds).hasDict = false) (h2 : (PyData.list ds).showable = true) (h3 : (PyData.list ds).depth ≤ 64) (h4 : (PyData.list ds).shown.length ≤ sizeLine) : Sv K H (.ref a) (.list ds) :=
  ⟨fun H' e => .dp (.lst (e.L h) (hd H' e)) h1, h2, h3, h4⟩
theorem Sv.tup {a : Addr} {xs : List V} {ds : List PyData} (h : SqT K H a xs) (hd : ∀ H', Ex H H' → DpAll K H' xs ds) (h1 : (PyData.tuple ds).hasDict = false) (h2 : (PyData.tuple ds).showable = true) (h3 : (PyData.tuple ds).depth ≤ 64) (h4 : (PyData.tuple ds).shown.length ≤ sizeLine) : Sv K H (.ref a) (.tuple ds) :=
  ⟨fun H' e => .dp (.tup (e.T h) (hd H' e)) h1, h2, h3, h4⟩
end
end M

/-! ### all trees of a size, in a row; rows in order -/
namespace M
open PySem PySem.Spec PyProof.Rows L2
def ndS (a b : List Nat) : List Nat := 40 :: (a ++ (b ++ [41]))
def prodS (A B : List (List Nat)) : List (List Nat) := A.flatMap fun a => B.map fun b => ndS a b
def mkL (F : List (List (List Nat))) (c : Nat) : List (List Nat) := (List.range c).flatMap fun l => prodS (F.getD l []) (F.getD (c - 1 - l) [])
def levs : Nat → List (List (List Nat))
  | 0 => [[[46]]]
  | n + 1 => levs n ++ [mkL (levs n) (n + 1)]
def lev (n : Nat) : List (List Nat) := (levs n).getD n []
theorem levs_len : ∀ n, (levs n).length = n + 1
  | 0 => rfl
  | n + 1 => by simp [levs, levs_len n]
theorem levs_get : ∀ n i, i ≤ n → (levs n).getD i [] = lev i
  | 0, i, h => by obtain rfl : i = 0 := by omega
                  rfl
  | n + 1, i, h => by
    by_cases e : i = n + 1
    · subst e; rfl
    · have := levs_get n i (by omega)
      rw [← this, levs, List.getD_eq_getElem?_getD, List.getD_eq_getElem?_getD, List.getElem?_append_left (by rw [levs_len]; omega)]
theorem lev_succ (n : Nat) : lev (n + 1) = mkL (levs n) (n + 1) := by
  unfold lev
  rw [levs, List.getD_eq_getElem?_getD, List.getElem?_append_right (by rw [levs_len]; exact Nat.le_refl _), levs_len]
  simp
theorem lev_mem : ∀ t : Tr, t.s ∈ lev t.n
  | .lf => by simp [Tr.s, Tr.n, lev, levs]
  | .nd a b => by
    have ha := lev_mem a
    have hb := lev_mem b
    show ndS a.s b.s ∈ lev (a.n + b.n + 1)
    rw [lev_succ]
    refine List.mem_flatMap.mpr ⟨a.n, List.mem_range.mpr (by omega), List.mem_flatMap.mpr ⟨a.s, ?_, List.mem_map.mpr ⟨b.s, ?_, rfl⟩⟩⟩
    · rw [levs_get _ _ (by omega)]; exact ha
    · rw [levs_get _ _ (by omega), show a.n + b.n + 1 - 1 - a.n = b.n by omega]; exact hb
theorem lev_tree : ∀ n i, i ≤ n → ∀ z ∈ lev i, ∃ t : Tr, z = t.s ∧ t.n = i
  | 0, i, h, z, hz => by
    obtain rfl : i = 0 := by omega
    exact ⟨.lf, List.mem_singleton.mp hz, rfl⟩
  | n + 1, i, h, z, hz => by
    by_cases e : i = n + 1
    · subst e
      rw [lev_succ] at hz
      obtain ⟨l, hl, h1⟩ := List.mem_flatMap.mp hz
      obtain ⟨a, h2, h3⟩ := List.mem_flatMap.mp h1
      obtain ⟨b, h4, rfl⟩ := List.mem_map.mp h3
      have hl' := List.mem_range.mp hl
      rw [levs_get _ _ (by omega)] at h2 h4
      obtain ⟨t, rfl, ht⟩ := lev_tree n l (by omega) a h2
      obtain ⟨u, rfl, hu⟩ := lev_tree n (n + 1 - 1 - l) (by omega) b h4
      exact ⟨.nd t u, rfl, by show t.n + u.n + 1 = n + 1; omega⟩
    · exact lev_tree n i (by omega) z hz
theorem lev_few {i : Nat} (h : i ≤ 8) : (lev i).length ≤ 1430 := by
  have e : ((levs 8).all fun L => decide (L.length ≤ 1430)) = true := by decide +kernel
  rw [List.all_eq_true] at e
  rw [← levs_get 8 i h, List.getD_eq_getElem?_getD, List.getElem?_eq_getElem (by rw [levs_len]; omega)]
  exact of_decide_eq_true (e _ (List.getElem_mem _))
theorem prodS_len (A B : List (List Nat)) : (prodS A B).length = A.length * B.length := by
  unfold prodS
  induction A with
  | nil => simp
  | cons a A ih => rw [List.flatMap_cons, List.length_append, ih, List.length_map, List.length_cons, Nat.add_mul]; omega
theorem flat_perm {α β : Type} {f g : α → List β} : ∀ l : List α, (∀ x ∈ l, (f x).Perm (g x)) → (l.flatMap f).Perm (l.flatMap g)
  | [], _ => .refl _
  | x :: l, h => by
    rw [List.flatMap_cons, List.flatMap_cons]
    exact (h x List.mem_cons_self).append (flat_perm l fun y hy => h y (List.mem_cons_of_mem _ hy))
theorem prodS_perm {A A' B B' : List (List Nat)} (h1 : A.Perm A') (h2 : B.Perm B') : (prodS A B).Perm (prodS A' B') :=
  (h1.flatMap_right _).trans (flat_perm A' fun a _ => h2.map _)
theorem mkL_perm {F G : List (List (List Nat))} {c : Nat} (h : ∀ i < c, (F.getD i []).Perm (G.getD i [])) : (mkL F c).Perm (mkL G c) :=
  flat_perm _ fun l hl => by
    have := List.mem_range.mp hl
    exact prodS_perm (h l this) (h (c - 1 - l) (by omega))
/-! rows in order -/
theorem perm_eq {α : Type} {le : α → α → Prop} (anti : ∀ a b, le a b → le b a → a = b) : ∀ {l m : List α}, l.Pairwise le → m.Pairwise le → l.Perm m → l = m
  | [], m, _, _, h => (List.Perm.nil_eq h)
  | a :: l, [], _, _, h => absurd h.symm.nil_eq (by simp)
  | a :: l, b :: m, hl, hm, h => by
    have e : a = b := by
      have ha : a ∈ b :: m := h.mem_iff.mp List.mem_cons_self
      have hb : b ∈ a :: l := h.mem_iff.mpr List.mem_cons_self
      rcases List.mem_cons.mp ha with e | ha
      · exact e
      rcases List.mem_cons.mp hb with e | hb
      · exact e.symm
      exact anti a b ((List.pairwise_cons.mp hl).1 b hb) ((List.pairwise_cons.mp hm).1 a ha)
    subst e
    rw [perm_eq anti (List.pairwise_cons.mp hl).2 (List.pairwise_cons.mp hm).2 (List.Perm.cons_inv h)]
def leS (a b : Str) : Prop := a.cps.toList ≤ b.cps.toList
theorem ltCps_eq : ∀ a b : List Nat, ltCps a b = decide (a < b)
  | [], [] => rfl
  | [], b :: t => by simp [ltCps]
  | a :: r, [] => by simp [ltCps]
  | a :: r, b :: t => by
    show (decide (a < b) || (a == b && ltCps r t)) = _
    rw [ltCps_eq r t, Bool.eq_iff_iff]
    simp [List.cons_lt_cons_iff]
theorem rising_pair : ∀ (l : List Str) (p : Str), risingS p l = true → (∀ x ∈ l, leS p x) ∧ l.Pairwise leS
  | [], p, _ => ⟨fun x h => (by cases h), List.Pairwise.nil⟩
  | x :: r, p, h => by
    have h' : (!ltCps x.cps.toList p.cps.toList && risingS x r) = true := h
    rw [Bool.and_eq_true] at h'
    obtain ⟨h1, h2⟩ := rising_pair r x h'.2
    have h3 : leS p x := by
      have := h'.1
      unfold leS
      rw [ltCps_eq] at this
      simpa using this
    exact ⟨fun y hy => by
      rcases List.mem_cons.mp hy with rfl | hy
      · exact h3
      · exact List.le_trans h3 (h1 y hy), List.pairwise_cons.mpr ⟨h1, h2⟩⟩
theorem sortedS_eq {l m : List Str} (h1 : sortedS l = true) (h2 : sortedS m = true) (h : l.Perm m) : l = m := by
  have pw : ∀ {l : List Str}, sortedS l = true → l.Pairwise leS := fun {l} h => by
    cases l with
    | nil => exact .nil
    | cons x r =>
      obtain ⟨a, b⟩ := rising_pair r x h
      exact List.pairwise_cons.mpr ⟨a, b⟩
  refine perm_eq (fun a b h1 h2 => ?_) (pw h1) (pw h2) h
  have e := List.le_antisymm h1 h2
  rw [← S_of a, ← S_of b, e]
/-- a sorted row of texts, as codes -/
theorem row_of {ys : List Str} {L : List (List Nat)} (h : ys.Perm (L.map S)) : ∃ M : List (List Nat), ys = M.map S ∧ M.Perm L := by
  refine ⟨ys.map (·.cps.toList), ?_, ?_⟩
  · rw [List.map_map]
    have : (S ∘ fun x : Str => x.cps.toList) = id := by funext x; exact S_of x
    rw [this, List.map_id]
  · have := h.map (·.cps.toList)
    rw [List.map_map] at this
    have e : ((fun x : Str => x.cps.toList) ∘ S) = id := by funext x; exact S_cps x
    rw [e, List.map_id] at this
    exact this
theorem map_S_inj {L M : List (List Nat)} (h : L.map S = M.map S) : L = M := by
  have := congrArg (List.map fun x : Str => x.cps.toList) h
  rw [List.map_map, List.map_map] at this
  have e : ((fun x : Str => x.cps.toList) ∘ S) = id := by funext x; exact S_cps x
  rw [e, List.map_id, List.map_id] at this
  exact this
end M

namespace Pf
open PySem PySem.Spec PyProof.Rows L2 M
def top (i : Nat) : Stmt := PySem.Challenge.pw_treeturns_k70_all_shapes.main.body.getD i (.Pass ⟨0, 0, 0, 0⟩)
def rd_is_whole (K : PySem.W.Frag) : TS := (tRet (mAndV (tCB (mIsi K) (tCons (mVar 0) (tCons (mC (.ty "int")) tNil))) (mNotV (tCB (mIsi K) (tCons (mVar 0) (tCons (mC (.ty "bool")) tNil))))))
abbrev N_is_whole : List Str := ["value"]
def rd_check_number (K : PySem.W.Frag) (sp_is_whole : Sp) (a_InvalidNumber : Addr) (E : XK) : TS := (tIfS (tNot (mTest (tCall sp_is_whole [] E0 (tCons (mVar 0) tNil)))) (mRaise a_InvalidNumber "value" (tCons (mVar 0) tNil) E) tNext)
abbrev N_check_number : List Str := ["value"]
def rd_check_whole (K : PySem.W.Frag) (sp_check_number : Sp) (a_InvalidNumber : Addr) (E : XK) : TS := (tSeq (tDrop (tCall sp_check_number [] E (tCons (mVar 0) tNil)))
  (tIfS (tOr (mTest (tOp (mLt) (mVar 0) (mVar 1))) (tAnd (mTest (tOp (mNot) (mVar 2) (mC .non))) (mTest (tOp (mGt) (mVar 0) (mVar 2))))) (mRaise a_InvalidNumber "value" (tCons (mVar 0) tNil) E) tNext))
abbrev N_check_whole : List Str := ["value", "least", "most"]
@[reducible] def rd_shapes_b1 (K : PySem.W.Frag) (sp_check_whole : Sp) (E : XK) (D : Ends) (σ : Sl) (H : Hp) : Prop := ((mAug 3 (mLc2 (mIter K (tOp (mIx K) (mVar 1) (mVar 4))) (gName 5) tYes (mIter K (tOp (mIx K) (mVar 1) (tOp mSub (tOp mSub (mVar 2) (mC (.int 1))) (mVar 4)))) (gName 6) tYes (tOp mAdd (tOp mAdd (tOp mAdd (mC (.str (S [40]))) (mVar 5)) (mVar 6)) (mC (.str (S [41])))) [5, 6] [6]) iAdd) : TS) D σ H
@[reducible] def rd_shapes_b2 (K : PySem.W.Frag) (sp_check_whole : Sp) (E : XK) (D : Ends) (σ : Sl) (H : Hp) : Prop := ((tSeq (tAsg (tLst tNil) (gName 3))
  (tSeq (mFor (mRng1 (mVar 2)) (gName 4) (rd_shapes_b1 K sp_check_whole E))
  (tDrop (mLstM mApp (mVar 1) (tCons (tCB (mSorted K) (tCons (mLc (mIter K (mVar 3)) (gName 7) tYes (tCB (mStr) (tCons (mVar 7) tNil)) [7]) tNil)) tNil))))) : TS) D σ H
def rd_shapes (K : PySem.W.Frag) (sp_check_whole : Sp) (E : XK) : TS := (tSeq (tDrop (tCall sp_check_whole [] E (tCons (mVar 0) (tCons (mC (.int 0)) (tCons (mC (.int 8)) tNil)))))
  (tSeq (tAsg (tLst (tCons (tLst (tCons (mC (.str (S [46]))) tNil)) tNil)) (gName 1))
  (tSeq (mFor (mRng2 (mC (.int 1)) (tOp mAdd (mVar 0) (mC (.int 1)))) (gName 2) (rd_shapes_b2 K sp_check_whole E))
  (tRet (tOp (mIx K) (mVar 1) (mVar 0))))))
abbrev N_shapes : List Str := ["nodes", "found", "count", "made", "left", "one", "other", "tree"]
def rd__law_mixed (K : PySem.W.Frag) : TS := (tSeq (tAsg (tOp mMod (tOp mAdd (tOp mAdd (tOp mAdd (tOp mMul (mVar 0) (mC (.int 1103515245))) (tOp mMul (tOp mMul (mC (.int 7919)) (mVar 1)) (mVar 1))) (mVar 1)) (mC (.int 1))) (mC (.int 2147483647))) (gName 2))
  (tSeq (tAsg (tOp mMod (tOp mAdd (tOp mMul (mVar 2) (mVar 2)) (mC (.int 69621))) (mC (.int 2147483629))) (gName 2))
  (tRet (tOp mMod (tOp mMul (mVar 2) (mC (.int 48271))) (mC (.int 2147483587))))))
abbrev N__law_mixed : List Str := ["_law_cell", "_law_k", "_law_number"]
def rd__law_purse (K : PySem.W.Frag) : TS := (tSeq (tAsg (tCB (mSum K) (tCons (tSl (mSl K) (mVar 0) (mPart (mVar 1)) (mPart (tOp mAdd (mVar 1) (mC (.int 1))))) tNil)) (gName 2))
  (tRet (tLst (tCons (tOp mMod (tCB (mMax) (tCons (tOp mSub (mVar 2) (tOp mPow (mC (.int 10)) (mC (.int 18)))) (tCons (mC (.int 0)) tNil))) (tOp mPow (tOp mPow (mC (.int 10)) (mC (.int 60))) (mC (.int 10)))) (tCons (tOp mMod (mVar 2) (mC (.int 2147483647))) (tCons (tOp mMul (mC (.int 1000)) (mVar 1)) tNil))))))
abbrev N__law_purse : List Str := ["_law_script", "_law_at", "_law_cell"]
@[reducible] def rd__law_draw_b1 (K : PySem.W.Frag) (sp__law_mixed : Sp) (D : Ends) (σ : Sl) (H : Hp) : Prop := ((tSeq (tAsg (tOp mAdd (tOp (mIx K) (mVar 0) (mC (.int 2))) (mC (.int 1))) (gSub (mVar 0) (mC (.int 2)) mSetL))
  (tAsg (tOp mAdd (tOp mMul (mVar 3) (mC (.int 2147483587))) (tCall sp__law_mixed [] E0 (tCons (tOp (mIx K) (mVar 0) (mC (.int 1))) (tCons (tOp (mIx K) (mVar 0) (mC (.int 2))) tNil)))) (gName 3))) : TS) D σ H
def rd__law_draw (K : PySem.W.Frag) (sp__law_mixed : Sp) : TS := (tSeq (tIfS (mTest (tOp (mGt) (tOp (mIx K) (mVar 0) (mC (.int 0))) (mC (.int 0)))) (tSeq (tAsg (tOp mMod (tOp (mIx K) (mVar 0) (mC (.int 0))) (mVar 1)) (gName 2))
  (tSeq (tAsg (tOp mDiv (tOp (mIx K) (mVar 0) (mC (.int 0))) (mVar 1)) (gSub (mVar 0) (mC (.int 0)) mSetL))
  (tRet (mVar 2)))) tNext)
  (tSeq (tAsg (mC (.int 0)) (gName 3))
  (tSeq (mFor (mRng1 (tOp mAdd (mC (.int 1)) (tOp mDiv (mBits (mVar 1)) (mC (.int 30))))) (gName 4) (rd__law_draw_b1 K sp__law_mixed))
  (tRet (tOp mMod (mVar 3) (mVar 1))))))
abbrev N__law_draw : List Str := ["_law_purse_here", "_law_out_of", "_law_drawn", "_law_number", "_law_k"]
def rd__law_nest (K : PySem.W.Frag) (sp__law_draw : Sp) (sp__law_nest : Sp) : TS := (tSeq (tIfS (mTest (tOp (mEq K) (mVar 1) (mC (.int 0)))) (tRet (tTup tNil)) tNext)
  (tSeq (tAsg (tCall sp__law_draw [] E0 (tCons (mVar 0) (tCons (mVar 1) tNil))) (gName 2))
  (tSeq (tAsg (tOp (mIx K) (tLst (tCons (mVar 2) (tCons (mVar 2) (tCons (mVar 2) (tCons (mVar 2) (tCons (mC (.int 0)) (tCons (tOp mSub (mVar 1) (mC (.int 1))) tNil))))))) (tCall sp__law_draw [] E0 (tCons (mVar 0) (tCons (mC (.int 6)) tNil)))) (gName 2))
  (tRet (tTup (tCons (tCall sp__law_nest [] E0 (tCons (mVar 0) (tCons (mVar 2) tNil))) (tCons (tCall sp__law_nest [] E0 (tCons (mVar 0) (tCons (tOp mSub (tOp mSub (mVar 1) (mC (.int 1))) (mVar 2)) tNil))) tNil)))))))
abbrev N__law_nest : List Str := ["_law_purse_here", "_law_count", "_law_left"]
def rd__law_text (K : PySem.W.Frag) (sp__law_text : Sp) : TS := (tSeq (tIfS (mTest (tOp (mEq K) (mVar 0) (tTup tNil))) (tRet (mC (.str (S [46])))) tNext)
  (tRet (tOp mAdd (tOp mAdd (tOp mAdd (mC (.str (S [40]))) (tCall sp__law_text [] E0 (tCons (tOp (mIx K) (mVar 0) (mC (.int 0))) tNil))) (tCall sp__law_text [] E0 (tCons (tOp (mIx K) (mVar 0) (mC (.int 1))) tNil))) (mC (.str (S [41]))))))
abbrev N__law_text : List Str := ["_law_nest_here"]
def rd__law_width (K : PySem.W.Frag) (sp__law_width : Sp) : TS := (tRet (tIf (mTest (tOp (mEq K) (mVar 0) (tTup tNil))) (mC (.int 1)) (tOp mAdd (tCall sp__law_width [] E0 (tCons (tOp (mIx K) (mVar 0) (mC (.int 0))) tNil)) (tCall sp__law_width [] E0 (tCons (tOp (mIx K) (mVar 0) (mC (.int 1))) tNil)))))
abbrev N__law_width : List Str := ["_law_nest_here"]
@[reducible] def rd__law_all_b1 (K : PySem.W.Frag) (D : Ends) (σ : Sl) (H : Hp) : Prop := ((tAsg (tOp mAdd (mVar 3) (mLc (mIter K (tOp (mIx K) (mVar 1) (tOp mSub (tOp mSub (mVar 2) (mC (.int 1))) (mVar 4)))) (gName 6) tYes (tOp mAdd (tOp mAdd (tOp mAdd (mC (.str (S [40]))) (mVar 5)) (mVar 6)) (mC (.str (S [41])))) [6])) (gName 3)) : TS) D σ H
@[reducible] def rd__law_all_b2 (K : PySem.W.Frag) (D : Ends) (σ : Sl) (H : Hp) : Prop := ((mFor (mIter K (tOp (mIx K) (mVar 1) (mVar 4))) (gName 5) (rd__law_all_b1 K)) : TS) D σ H
@[reducible] def rd__law_all_b3 (K : PySem.W.Frag) (D : Ends) (σ : Sl) (H : Hp) : Prop := ((tSeq (tAsg (tLst tNil) (gName 3))
  (tSeq (mFor (mRng1 (mVar 2)) (gName 4) (rd__law_all_b2 K))
  (tDrop (mLstM mApp (mVar 1) (tCons (mVar 3) tNil))))) : TS) D σ H
def rd__law_all (K : PySem.W.Frag) : TS := (tSeq (tAsg (tLst (tCons (tLst (tCons (mC (.str (S [46]))) tNil)) tNil)) (gName 1))
  (tSeq (mFor (mRng2 (mC (.int 1)) (tOp mAdd (mVar 0) (mC (.int 1)))) (gName 2) (rd__law_all_b3 K))
  (tRet (tCB (mSorted K) (tCons (mLc (mIter K (tOp (mIx K) (mVar 1) (mVar 0))) (gName 7) tYes (tCB (mStr) (tCons (mVar 7) tNil)) [7]) tNil)))))
abbrev N__law_all : List Str := ["_law_many", "_law_found", "_law_count", "_law_made", "_law_left", "_law_one", "_law_other", "_law_tree"]
@[reducible] def rd_law_b1 (K : PySem.W.Frag) (sp__law_purse : Sp) (sp__law_draw : Sp) (sp__law_all : Sp) (sp_shapes : Sp) (sp__law_text : Sp) (sp__law_nest : Sp) (a_TurnError : Addr) (a_InvalidNumber : Addr) (D : Ends) (σ : Sl) (H : Hp) : Prop := ((tSeq (tAsg (tCall sp__law_purse [] E0 (tCons (mVar 0) (tCons (mVar 1) tNil))) (gName 2))
  (tSeq (tAsg (tCall sp__law_draw [] E0 (tCons (mVar 2) (tCons (mC (.int 9)) tNil))) (gName 3))
  (tSeq (mPar 4 5 (tCons (tCall sp_shapes [] E0 (tCons (mVar 3) tNil)) (tCons (tCall sp__law_all [] E0 (tCons (mVar 3) tNil)) tNil)))
  (tSeq (tIfS (tOr (tNot (mTest (tCB (mIsi K) (tCons (mVar 4) (tCons (mC (.ty "list")) tNil))))) (tOr (mTest (tOp (mNe K) (mVar 4) (mVar 5))) (mTest (tOp (mNinS K) (tCall sp__law_text [] E0 (tCons (tCall sp__law_nest [] E0 (tCons (mVar 2) (tCons (mVar 3) tNil))) tNil)) (mVar 4))))) (tRet (mC (.bl false))) tNext)
  (tSeq (tDrop (mLstM mClear (mVar 4) tNil))
  (tIfS (mTest (tOp (mNe K) (tCall sp_shapes [] E0 (tCons (mVar 3) tNil)) (mVar 5))) (tRet (mC (.bl false))) tNext)))))) : TS) D σ H
@[reducible] def rd_law_b2 (K : PySem.W.Frag) (sp__law_purse : Sp) (sp__law_draw : Sp) (sp__law_all : Sp) (sp_shapes : Sp) (sp__law_text : Sp) (sp__law_nest : Sp) (a_TurnError : Addr) (a_InvalidNumber : Addr) (D : Ends) (σ : Sl) (H : Hp) : Prop := ((tSeq (tAsg (mC .non) (gName 7))
  (tSeq (mTry K (.ref a_TurnError) 8 7 (fun W => (tDrop (tCallSD sp_shapes [] (WE W) (tCons (mVar 6) tNil)))))
  (tIfS (tOr (tNot (mTest (tCB (mIsiE K) (tCons (mVar 7) (tCons (mC (.ref a_InvalidNumber)) tNil))))) (mTest (tOp (mNe K) (tCB (mRepr K) (tCons (mFld K "value" (mVar 7)) tNil)) (tCB (mRepr K) (tCons (mVar 6) tNil))))) (tRet (mC (.bl false))) tNext))) : TS) D σ H
def rd_law (K : PySem.W.Frag) (sp__law_purse : Sp) (sp__law_draw : Sp) (sp__law_all : Sp) (sp_shapes : Sp) (sp__law_text : Sp) (sp__law_nest : Sp) (a_TurnError : Addr) (a_InvalidNumber : Addr) : TS := (tSeq (mFor (mRng1 (mC (.int 3))) (gName 1) (rd_law_b1 K sp__law_purse sp__law_draw sp__law_all sp_shapes sp__law_text sp__law_nest a_TurnError a_InvalidNumber))
  (tSeq (mFor (mIter K (tLst (tCons (mC .non) (tCons (mUn (fun i => -i) (mC (.int 1))) (tCons (mC (.int 9)) (tCons (mC (.bl true)) (tCons (mC (.bl false)) (tCons (mC (.str (S [51]))) (tCons (tLst (tCons (mC (.int 3)) tNil)) (tCons (tTup (tCons (mC (.int 1)) (tCons (mC (.int 2)) tNil))) (tCons tDNewK tNil))))))))))) (gName 6) (rd_law_b2 K sp__law_purse sp__law_draw sp__law_all sp_shapes sp__law_text sp__law_nest a_TurnError a_InvalidNumber))
  (tRet (tOp (mEq K) (tCall sp_shapes [] E0 (tCons (mC (.int 0)) tNil)) (tLst (tCons (mC (.str (S [46]))) tNil))))))
abbrev N_law : List Str := ["_law_script", "_law_cell", "_law_purse_here", "_law_many", "_law_told", "_law_due", "_law_odd", "_law_caught", "e"]
structure Tx (K : PySem.W.Frag) (mg : Str → Option Value) : Prop where
  f_isinstance : mg "isinstance" = none
  f_bool : mg "bool" = none
  f_int : mg "int" = none
  f_range : mg "range" = none
  f_sorted : mg "sorted" = none
  f_str : mg "str" = none
  f_sum : mg "sum" = none
  f_max : mg "max" = none
  f_list : mg "list" = none
  f_repr : mg "repr" = none
  c_MOST_NODES : ∃ t : Tok, mg "MOST_NODES" = some (.int 8 t)
section
variable {P : Program} {w : World} {K : PySem.W.Frag} {mg : Str → Option Value} {base : Heap} {f : Addr} {fd : FuncData}
abbrev s_is_whole : Stmt := top 4
theorem sc_is_whole : FnScope N_is_whole ["value"] (defScope s_is_whole) := ⟨rfl, rfl, rfl, by decide +kernel, rfl, by decide +kernel, by decide +kernel⟩
theorem ok_is_whole {k : Nat} {sp : Sp}  (F : FunD K "is_whole" "is_whole" (defArgs s_is_whole) (defBody s_is_whole) (defScope s_is_whole) [] [] f fd) (T : Tx K mg)  
    (len : ∀ vs H Q E, sp vs H Q E → vs.length = 1) (pu : ∀ vs H Q E, sp vs H Q E → rd_is_whole K { nx := fun _ H' => Q .non H', rt := Q } (start N_is_whole vs) H) :
    FnG P w K mg base CX0 (k + 1) f fd ["value"] sp :=
  okG F sc_is_whole len fun cdv A outer s H vs Q E hr h => ⟨rd_is_whole K, PSs.nox (
    have nd := sc_is_whole.nd
    let N := N_is_whole
    let scope := defScope s_is_whole
    (pss_one (ps_ret (me_and (pe_callB call_isiM (by rfl) T.f_isinstance (by decide +kernel) (pa_cons (mv 0) (pa_cons (me_ty "int" (by rfl) T.f_int (by decide +kernel)) pa_nil))) (pe_one (me_not (pe_callB call_isiM (by rfl) T.f_isinstance (by decide +kernel) (pa_cons (mv 0) (pa_cons (me_ty "bool" (by rfl) T.f_bool (by decide +kernel)) pa_nil))))))))), pu vs H Q E h⟩
abbrev s_check_number : Stmt := top 6
theorem sc_check_number : FnScope N_check_number ["value"] (defScope s_check_number) := ⟨rfl, rfl, rfl, by decide +kernel, rfl, by decide +kernel, by decide +kernel⟩
theorem ok_check_number {k : Nat} {sp : Sp} {sp_is_whole : Sp} {k_is_whole : Nat} {p_is_whole : List Str} {a_InvalidNumber : Addr} (F : FunD K "check_number" "check_number" (defArgs s_check_number) (defBody s_check_number) (defScope s_check_number) [] [] f fd) (T : Tx K mg) (C_is_whole : CalG P w K mg base CX0 "is_whole" k_is_whole p_is_whole [] sp_is_whole) (X_InvalidNumber : ExcAt P w K mg "InvalidNumber" "value" a_InvalidNumber) (l_is_whole : k_is_whole ≤ k)
    (len : ∀ vs H Q E, sp vs H Q E → vs.length = 1) (pu : ∀ vs H Q E, sp vs H Q E → rd_check_number K sp_is_whole a_InvalidNumber E { nx := fun _ H' => Q .non H', rt := Q } (start N_check_number vs) H) :
    FnG P w K mg base (L2.CX P w) (k + 1) f fd ["value"] sp :=
  okG F sc_check_number len fun cdv A outer s H vs Q E hr h => ⟨rd_check_number K sp_is_whole a_InvalidNumber E, (
    have nd := sc_check_number.nd
    let N := N_check_number
    let scope := defScope s_check_number
    (pss_one (ps_if (pt_not (mt_val (me_callG C_is_whole (hr.mono l_is_whole) (by rfl) pass0 (pa_cons (mv 0) pa_nil)))) (pss_one (ms_raise X_InvalidNumber hr.r0 rfl (takes_of rfl rfl rfl rfl) (by rfl) (pa_cons (mv 0) pa_nil))) pss_nil))), pu vs H Q E h⟩
abbrev s_check_whole : Stmt := top 7
theorem sc_check_whole : FnScope N_check_whole ["value", "least", "most"] (defScope s_check_whole) := ⟨rfl, rfl, rfl, by decide +kernel, rfl, by decide +kernel, by decide +kernel⟩
theorem ok_check_whole {k : Nat} {sp : Sp} {sp_check_number : Sp} {k_check_number : Nat} {p_check_number : List Str} {a_InvalidNumber : Addr} (F : FunD K "check_whole" "check_whole" (defArgs s_check_whole) (defBody s_check_whole) (defScope s_check_whole) [.non] [] f fd) (T : Tx K mg) (C_check_number : CalG P w K mg base (L2.CX P w) "check_number" k_check_number p_check_number [] sp_check_number) (X_InvalidNumber : ExcAt P w K mg "InvalidNumber" "value" a_InvalidNumber) (l_check_number : k_check_number ≤ k)
    (len : ∀ vs H Q E, sp vs H Q E → vs.length = 3) (pu : ∀ vs H Q E, sp vs H Q E → rd_check_whole K sp_check_number a_InvalidNumber E { nx := fun _ H' => Q .non H', rt := Q } (start N_check_whole vs) H) :
    FnG P w K mg base (L2.CX P w) (k + 1) f fd ["value", "least", "most"] sp :=
  okG F sc_check_whole len fun cdv A outer s H vs Q E hr h => ⟨rd_check_whole K sp_check_number a_InvalidNumber E, (
    have nd := sc_check_whole.nd
    let N := N_check_whole
    let scope := defScope s_check_whole
    (pss_cons (ps_expr (me_callG C_check_number (hr.mono l_check_number) (by rfl) (passes_call (takes_of rfl rfl rfl rfl) fun _ _ _ _ h => h) (pa_cons (mv 0) pa_nil)))
  (pss_one (ps_if (PW.pt (pw_or (mt_cmp op_ltM (mv 0) (mv 1) (by rfl)) (pw_or1 (PW.pt (pw_and (mt_cmp op_notM (mv 2) me_non (by rfl)) (pw_and1 (mt_cmp op_gtM (mv 0) (mv 2) (by rfl)))))))) (pss_one (ms_raise X_InvalidNumber hr.r0 rfl (takes_of rfl rfl rfl rfl) (by rfl) (pa_cons (mv 0) pa_nil))) pss_nil)))), pu vs H Q E h⟩
abbrev s_shapes : Stmt := top 10
theorem sc_shapes : FnScope N_shapes ["nodes"] (defScope s_shapes) := ⟨rfl, rfl, rfl, by decide +kernel, rfl, by decide +kernel, by decide +kernel⟩
theorem ok_shapes {k : Nat} {sp : Sp} {sp_check_whole : Sp} {k_check_whole : Nat} {p_check_whole : List Str} (F : FunD K "shapes" "shapes" (defArgs s_shapes) (defBody s_shapes) (defScope s_shapes) [] [] f fd) (T : Tx K mg) (C_check_whole : CalG P w K mg base (L2.CX P w) "check_whole" k_check_whole p_check_whole [] sp_check_whole) (l_check_whole : k_check_whole ≤ k)
    (len : ∀ vs H Q E, sp vs H Q E → vs.length = 1) (pu : ∀ vs H Q E, sp vs H Q E → rd_shapes K sp_check_whole E { nx := fun _ H' => Q .non H', rt := Q } (start N_shapes vs) H) :
    FnG P w K mg base (L2.CX P w) (k + 1) f fd ["nodes"] sp :=
  okG F sc_shapes len fun cdv A outer s H vs Q E hr h => ⟨rd_shapes K sp_check_whole E, (
    have nd := sc_shapes.nd
    let N := N_shapes
    let scope := defScope s_shapes
    (pss_cons (ps_expr (me_callG C_check_whole (hr.mono l_check_whole) (by rfl) (passes_call (takes_of rfl rfl rfl rfl) fun _ _ _ _ h => h) (pa_cons (mv 0) (pa_cons me_int (pa_cons (me_gint (by rfl) T.c_MOST_NODES.choose_spec) pa_nil)))))
  (pss_cons (ps_set (i := 1) nd rfl (by first | exact Or.inl rfl | exact Or.inr rfl) (pe_lst (pa_cons (pe_lst (pa_cons (me_str [46] (by rfl)) pa_nil)) pa_nil)))
  (pss_cons (ms_for (passes_of rfl) rfl (pi_rng2M (by rfl) T.f_range me_int (pe_op op_addM (mv 0) me_int)) (pg_name (i := 2) nd rfl (by first | exact Or.inl rfl | exact Or.inr rfl)) (pss_cons (ps_set (i := 3) nd rfl (by first | exact Or.inl rfl | exact Or.inr rfl) (pe_lst pa_nil))
  (pss_cons (ms_for (passes_of rfl) rfl (pi_rng1M (by rfl) T.f_range (mv 2)) (pg_name (i := 4) nd rfl (by first | exact Or.inl rfl | exact Or.inr rfl)) (pss_one (ms_aug (i := 3) nd rfl (by first | exact Or.inl rfl | exact Or.inr rfl) (me_lc2 (own := [("one", 5), ("other", 6)]) (vs1 := [6]) rfl nd (pi_iterM (me_ix (mv 1) (mv 4) (fun _ _ => rfl))) (blkOk_by (own := [("one", 5), ("other", 6)]) (N := N) (sc := scope) (by decide +kernel)) (by decide) (fun _ _ _ _ _ => (pg_name (i := 5) nd rfl (by first | exact Or.inl rfl | exact Or.inr rfl))) (fun _ _ _ _ _ => pts_nil) (fun _ _ _ _ _ => (pi_iterM (me_ix (mv 1) (pe_op op_subM (pe_op op_subM (mv 2) me_int) (mv 4)) (fun _ _ => rfl)))) (fun _ _ _ _ _ => (pg_name (i := 6) nd rfl (by first | exact Or.inl rfl | exact Or.inr rfl))) (fun _ _ _ _ _ => pts_nil) (fun _ _ _ _ _ => (pe_op op_addM (pe_op op_addM (pe_op op_addM (me_str [40] (by rfl)) (mv 5)) (mv 6)) (me_str [41] (by rfl))))) iop_addM)))
  (pss_one (ps_expr (me_append (mv 1) (pe_callB call_sortedM (by rfl) T.f_sorted (by decide +kernel) (pa_cons (me_lc (own := [("tree", 7)]) rfl nd (pi_iterM (mv 3)) (blkOk_by (own := [("tree", 7)]) (N := N) (sc := scope) (by decide +kernel)) (fun _ _ _ _ _ => (pg_name (i := 7) nd rfl (by first | exact Or.inl rfl | exact Or.inr rfl))) (fun _ _ _ _ _ => pts_nil) (fun _ _ _ _ _ => (pe_callTy call_strM (by rfl) T.f_str (by decide +kernel) (pa_cons (mv 7) pa_nil)))) pa_nil))))))))
  (pss_one (ps_ret (me_ix (mv 1) (mv 0) (fun _ _ => rfl)))))))), pu vs H Q E h⟩
abbrev s__law_mixed : Stmt := top 12
theorem sc__law_mixed : FnScope N__law_mixed ["_law_cell", "_law_k"] (defScope s__law_mixed) := ⟨rfl, rfl, rfl, by decide +kernel, rfl, by decide +kernel, by decide +kernel⟩
theorem ok__law_mixed {k : Nat} {sp : Sp}  (F : FunD K "_law_mixed" "_law_mixed" (defArgs s__law_mixed) (defBody s__law_mixed) (defScope s__law_mixed) [] [] f fd) (T : Tx K mg)  
    (len : ∀ vs H Q E, sp vs H Q E → vs.length = 2) (pu : ∀ vs H Q E, sp vs H Q E → rd__law_mixed K { nx := fun _ H' => Q .non H', rt := Q } (start N__law_mixed vs) H) :
    FnG P w K mg base CX0 (k + 1) f fd ["_law_cell", "_law_k"] sp :=
  okG F sc__law_mixed len fun cdv A outer s H vs Q E hr h => ⟨rd__law_mixed K, PSs.nox (
    have nd := sc__law_mixed.nd
    let N := N__law_mixed
    let scope := defScope s__law_mixed
    (pss_cons (ps_set (i := 2) nd rfl (by first | exact Or.inl rfl | exact Or.inr rfl) (pe_op op_modM (pe_op op_addM (pe_op op_addM (pe_op op_addM (pe_op op_mulM (mv 0) me_int) (pe_op op_mulM (pe_op op_mulM me_int (mv 1)) (mv 1))) (mv 1)) me_int) me_int))
  (pss_cons (ps_set (i := 2) nd rfl (by first | exact Or.inl rfl | exact Or.inr rfl) (pe_op op_modM (pe_op op_addM (pe_op op_mulM (mv 2) (mv 2)) me_int) me_int))
  (pss_one (ps_ret (pe_op op_modM (pe_op op_mulM (mv 2) me_int) me_int)))))), pu vs H Q E h⟩
abbrev s__law_purse : Stmt := top 13
theorem sc__law_purse : FnScope N__law_purse ["_law_script", "_law_at"] (defScope s__law_purse) := ⟨rfl, rfl, rfl, by decide +kernel, rfl, by decide +kernel, by decide +kernel⟩
theorem ok__law_purse {k : Nat} {sp : Sp}  (F : FunD K "_law_purse" "_law_purse" (defArgs s__law_purse) (defBody s__law_purse) (defScope s__law_purse) [] [] f fd) (T : Tx K mg)  
    (len : ∀ vs H Q E, sp vs H Q E → vs.length = 2) (pu : ∀ vs H Q E, sp vs H Q E → rd__law_purse K { nx := fun _ H' => Q .non H', rt := Q } (start N__law_purse vs) H) :
    FnG P w K mg base CX0 (k + 1) f fd ["_law_script", "_law_at"] sp :=
  okG F sc__law_purse len fun cdv A outer s H vs Q E hr h => ⟨rd__law_purse K, PSs.nox (
    have nd := sc__law_purse.nd
    let N := N__law_purse
    let scope := defScope s__law_purse
    (pss_cons (ps_set (i := 2) nd rfl (by first | exact Or.inl rfl | exact Or.inr rfl) (pe_callB (call_sumM rfl) (by rfl) T.f_sum (by decide +kernel) (pa_cons (me_slice (mv 0) (mo_some (mv 1)) (mo_some (pe_op op_addM (mv 1) me_int))) pa_nil)))
  (pss_one (ps_ret (pe_lst (pa_cons (pe_op op_modM (pe_callB (call_maxM rfl) (by rfl) T.f_max (by decide +kernel) (pa_cons (pe_op op_subM (mv 2) (pe_op op_powM me_int me_int)) (pa_cons me_int pa_nil))) (pe_op op_powM (pe_op op_powM me_int me_int) me_int)) (pa_cons (pe_op op_modM (mv 2) me_int) (pa_cons (pe_op op_mulM me_int (mv 1)) pa_nil)))))))), pu vs H Q E h⟩
abbrev s__law_draw : Stmt := top 14
theorem sc__law_draw : FnScope N__law_draw ["_law_purse_here", "_law_out_of"] (defScope s__law_draw) := ⟨rfl, rfl, rfl, by decide +kernel, rfl, by decide +kernel, by decide +kernel⟩
theorem ok__law_draw {k : Nat} {sp : Sp} {sp__law_mixed : Sp} {k__law_mixed : Nat} {p__law_mixed : List Str} (F : FunD K "_law_draw" "_law_draw" (defArgs s__law_draw) (defBody s__law_draw) (defScope s__law_draw) [] [] f fd) (T : Tx K mg) (C__law_mixed : CalG P w K mg base CX0 "_law_mixed" k__law_mixed p__law_mixed [] sp__law_mixed) (l__law_mixed : k__law_mixed ≤ k)
    (len : ∀ vs H Q E, sp vs H Q E → vs.length = 2) (pu : ∀ vs H Q E, sp vs H Q E → rd__law_draw K sp__law_mixed { nx := fun _ H' => Q .non H', rt := Q } (start N__law_draw vs) H) :
    FnG P w K mg base CX0 (k + 1) f fd ["_law_purse_here", "_law_out_of"] sp :=
  okG F sc__law_draw len fun cdv A outer s H vs Q E hr h => ⟨rd__law_draw K sp__law_mixed, PSs.nox (
    have nd := sc__law_draw.nd
    let N := N__law_draw
    let scope := defScope s__law_draw
    (pss_cons (ps_if (mt_cmp op_gtM (me_ix (mv 0) me_int (fun _ _ => rfl)) me_int (by rfl)) (pss_cons (ps_set (i := 2) nd rfl (by first | exact Or.inl rfl | exact Or.inr rfl) (pe_op op_modM (me_ix (mv 0) me_int (fun _ _ => rfl)) (mv 1)))
  (pss_cons (ps_asg (pe_op op_divM (me_ix (mv 0) me_int (fun _ _ => rfl)) (mv 1)) (pg_sub (mv 0) me_int set_listM))
  (pss_one (ps_ret (mv 2))))) pss_nil)
  (pss_cons (ps_set (i := 3) nd rfl (by first | exact Or.inl rfl | exact Or.inr rfl) me_int)
  (pss_cons (ms_for PassesOwn.never rfl (pi_rng1M (by rfl) T.f_range (pe_op op_addM me_int (pe_op op_divM (me_bits (mv 1)) me_int))) (pg_name (i := 4) nd rfl (by first | exact Or.inl rfl | exact Or.inr rfl)) (pss_cons (ps_asg (pe_op op_addM (me_ix (mv 0) me_int (fun _ _ => rfl)) me_int) (pg_sub (mv 0) me_int set_listM))
  (pss_one (ps_set (i := 3) nd rfl (by first | exact Or.inl rfl | exact Or.inr rfl) (pe_op op_addM (pe_op op_mulM (mv 3) me_int) (me_callG C__law_mixed (hr.mono l__law_mixed) (by rfl) pass0 (pa_cons (me_ix (mv 0) me_int (fun _ _ => rfl)) (pa_cons (me_ix (mv 0) me_int (fun _ _ => rfl)) pa_nil))))))))
  (pss_one (ps_ret (pe_op op_modM (mv 3) (mv 1)))))))), pu vs H Q E h⟩
abbrev s__law_nest : Stmt := top 15
theorem sc__law_nest : FnScope N__law_nest ["_law_purse_here", "_law_count"] (defScope s__law_nest) := ⟨rfl, rfl, rfl, by decide +kernel, rfl, by decide +kernel, by decide +kernel⟩
theorem ok__law_nest {k : Nat} {sp : Sp} {sp__law_draw : Sp} {sp__law_nest : Sp} {k__law_draw : Nat} {p__law_draw : List Str} {k__law_nest : Nat} {p__law_nest : List Str} (F : FunD K "_law_nest" "_law_nest" (defArgs s__law_nest) (defBody s__law_nest) (defScope s__law_nest) [] [] f fd) (T : Tx K mg) (C__law_draw : CalG P w K mg base CX0 "_law_draw" k__law_draw p__law_draw [] sp__law_draw) (C__law_nest : CalG P w K mg base CX0 "_law_nest" k__law_nest p__law_nest [] sp__law_nest) (l__law_draw : k__law_draw ≤ k) (l__law_nest : k__law_nest ≤ k)
    (len : ∀ vs H Q E, sp vs H Q E → vs.length = 2) (pu : ∀ vs H Q E, sp vs H Q E → rd__law_nest K sp__law_draw sp__law_nest { nx := fun _ H' => Q .non H', rt := Q } (start N__law_nest vs) H) :
    FnG P w K mg base CX0 (k + 1) f fd ["_law_purse_here", "_law_count"] sp :=
  okG F sc__law_nest len fun cdv A outer s H vs Q E hr h => ⟨rd__law_nest K sp__law_draw sp__law_nest, PSs.nox (
    have nd := sc__law_nest.nd
    let N := N__law_nest
    let scope := defScope s__law_nest
    (pss_cons (ps_if (mt_cmp (op_eqM hr.units) (mv 1) me_int (by rfl)) (pss_one (ps_ret (pe_tup pa_nil))) pss_nil)
  (pss_cons (ps_set (i := 2) nd rfl (by first | exact Or.inl rfl | exact Or.inr rfl) (me_callG C__law_draw (hr.mono l__law_draw) (by rfl) pass0 (pa_cons (mv 0) (pa_cons (mv 1) pa_nil))))
  (pss_cons (ps_set (i := 2) nd rfl (by first | exact Or.inl rfl | exact Or.inr rfl) (me_ix (pe_lst (pa_cons (mv 2) (pa_cons (mv 2) (pa_cons (mv 2) (pa_cons (mv 2) (pa_cons me_int (pa_cons (pe_op op_subM (mv 1) me_int) pa_nil))))))) (me_callG C__law_draw (hr.mono l__law_draw) (by rfl) pass0 (pa_cons (mv 0) (pa_cons me_int pa_nil))) (fun _ _ => rfl)))
  (pss_one (ps_ret (pe_tup (pa_cons (me_callG C__law_nest (hr.mono l__law_nest) (by rfl) pass0 (pa_cons (mv 0) (pa_cons (mv 2) pa_nil))) (pa_cons (me_callG C__law_nest (hr.mono l__law_nest) (by rfl) pass0 (pa_cons (mv 0) (pa_cons (pe_op op_subM (pe_op op_subM (mv 1) me_int) (mv 2)) pa_nil))) pa_nil))))))))), pu vs H Q E h⟩
abbrev s__law_text : Stmt := top 16
theorem sc__law_text : FnScope N__law_text ["_law_nest_here"] (defScope s__law_text) := ⟨rfl, rfl, rfl, by decide +kernel, rfl, by decide +kernel, by decide +kernel⟩
theorem ok__law_text {k : Nat} {sp : Sp} {sp__law_text : Sp} {k__law_text : Nat} {p__law_text : List Str} (F : FunD K "_law_text" "_law_text" (defArgs s__law_text) (defBody s__law_text) (defScope s__law_text) [] [] f fd) (T : Tx K mg) (C__law_text : CalG P w K mg base CX0 "_law_text" k__law_text p__law_text [] sp__law_text) (l__law_text : k__law_text ≤ k)
    (len : ∀ vs H Q E, sp vs H Q E → vs.length = 1) (pu : ∀ vs H Q E, sp vs H Q E → rd__law_text K sp__law_text { nx := fun _ H' => Q .non H', rt := Q } (start N__law_text vs) H) :
    FnG P w K mg base CX0 (k + 1) f fd ["_law_nest_here"] sp :=
  okG F sc__law_text len fun cdv A outer s H vs Q E hr h => ⟨rd__law_text K sp__law_text, PSs.nox (
    have nd := sc__law_text.nd
    let N := N__law_text
    let scope := defScope s__law_text
    (pss_cons (ps_if (mt_cmp (op_eqM hr.units) (mv 0) (pe_tup pa_nil) (by rfl)) (pss_one (ps_ret (me_str [46] (by rfl)))) pss_nil)
  (pss_one (ps_ret (pe_op op_addM (pe_op op_addM (pe_op op_addM (me_str [40] (by rfl)) (me_callG C__law_text (hr.mono l__law_text) (by rfl) pass0 (pa_cons (me_ix (mv 0) me_int (fun _ _ => rfl)) pa_nil))) (me_callG C__law_text (hr.mono l__law_text) (by rfl) pass0 (pa_cons (me_ix (mv 0) me_int (fun _ _ => rfl)) pa_nil))) (me_str [41] (by rfl))))))), pu vs H Q E h⟩
abbrev s__law_width : Stmt := top 17
theorem sc__law_width : FnScope N__law_width ["_law_nest_here"] (defScope s__law_width) := ⟨rfl, rfl, rfl, by decide +kernel, rfl, by decide +kernel, by decide +kernel⟩
theorem ok__law_width {k : Nat} {sp : Sp} {sp__law_width : Sp} {k__law_width : Nat} {p__law_width : List Str} (F : FunD K "_law_width" "_law_width" (defArgs s__law_width) (defBody s__law_width) (defScope s__law_width) [] [] f fd) (T : Tx K mg) (C__law_width : CalG P w K mg base CX0 "_law_width" k__law_width p__law_width [] sp__law_width) (l__law_width : k__law_width ≤ k)
    (len : ∀ vs H Q E, sp vs H Q E → vs.length = 1) (pu : ∀ vs H Q E, sp vs H Q E → rd__law_width K sp__law_width { nx := fun _ H' => Q .non H', rt := Q } (start N__law_width vs) H) :
    FnG P w K mg base CX0 (k + 1) f fd ["_law_nest_here"] sp :=
  okG F sc__law_width len fun cdv A outer s H vs Q E hr h => ⟨rd__law_width K sp__law_width, PSs.nox (
    have nd := sc__law_width.nd
    let N := N__law_width
    let scope := defScope s__law_width
    (pss_one (ps_ret (pe_ifExp (mt_cmp (op_eqM hr.units) (mv 0) (pe_tup pa_nil) (by rfl)) me_int (pe_op op_addM (me_callG C__law_width (hr.mono l__law_width) (by rfl) pass0 (pa_cons (me_ix (mv 0) me_int (fun _ _ => rfl)) pa_nil)) (me_callG C__law_width (hr.mono l__law_width) (by rfl) pass0 (pa_cons (me_ix (mv 0) me_int (fun _ _ => rfl)) pa_nil))))))), pu vs H Q E h⟩
abbrev s__law_all : Stmt := top 18
theorem sc__law_all : FnScope N__law_all ["_law_many"] (defScope s__law_all) := ⟨rfl, rfl, rfl, by decide +kernel, rfl, by decide +kernel, by decide +kernel⟩
theorem ok__law_all {k : Nat} {sp : Sp}  (F : FunD K "_law_all" "_law_all" (defArgs s__law_all) (defBody s__law_all) (defScope s__law_all) [] [] f fd) (T : Tx K mg)  
    (len : ∀ vs H Q E, sp vs H Q E → vs.length = 1) (pu : ∀ vs H Q E, sp vs H Q E → rd__law_all K { nx := fun _ H' => Q .non H', rt := Q } (start N__law_all vs) H) :
    FnG P w K mg base CX0 (k + 1) f fd ["_law_many"] sp :=
  okG F sc__law_all len fun cdv A outer s H vs Q E hr h => ⟨rd__law_all K, PSs.nox (
    have nd := sc__law_all.nd
    let N := N__law_all
    let scope := defScope s__law_all
    (pss_cons (ps_set (i := 1) nd rfl (by first | exact Or.inl rfl | exact Or.inr rfl) (pe_lst (pa_cons (pe_lst (pa_cons (me_str [46] (by rfl)) pa_nil)) pa_nil)))
  (pss_cons (ms_for PassesOwn.never rfl (pi_rng2M (by rfl) T.f_range me_int (pe_op op_addM (mv 0) me_int)) (pg_name (i := 2) nd rfl (by first | exact Or.inl rfl | exact Or.inr rfl)) (pss_cons (ps_set (i := 3) nd rfl (by first | exact Or.inl rfl | exact Or.inr rfl) (pe_lst pa_nil))
  (pss_cons (ms_for PassesOwn.never rfl (pi_rng1M (by rfl) T.f_range (mv 2)) (pg_name (i := 4) nd rfl (by first | exact Or.inl rfl | exact Or.inr rfl)) (pss_one (ms_for PassesOwn.never rfl (pi_iterM (me_ix (mv 1) (mv 4) (fun _ _ => rfl))) (pg_name (i := 5) nd rfl (by first | exact Or.inl rfl | exact Or.inr rfl)) (pss_one (ps_set (i := 3) nd rfl (by first | exact Or.inl rfl | exact Or.inr rfl) (pe_op op_addM (mv 3) (me_lc (own := [("_law_other", 6)]) rfl nd (pi_iterM (me_ix (mv 1) (pe_op op_subM (pe_op op_subM (mv 2) me_int) (mv 4)) (fun _ _ => rfl))) (blkOk_by (own := [("_law_other", 6)]) (N := N) (sc := scope) (by decide +kernel)) (fun _ _ _ _ _ => (pg_name (i := 6) nd rfl (by first | exact Or.inl rfl | exact Or.inr rfl))) (fun _ _ _ _ _ => pts_nil) (fun _ _ _ _ _ => (pe_op op_addM (pe_op op_addM (pe_op op_addM (me_str [40] (by rfl)) (mv 5)) (mv 6)) (me_str [41] (by rfl)))))))))))
  (pss_one (ps_expr (me_append (mv 1) (mv 3)))))))
  (pss_one (ps_ret (pe_callB call_sortedM (by rfl) T.f_sorted (by decide +kernel) (pa_cons (me_lc (own := [("_law_tree", 7)]) rfl nd (pi_iterM (me_ix (mv 1) (mv 0) (fun _ _ => rfl))) (blkOk_by (own := [("_law_tree", 7)]) (N := N) (sc := scope) (by decide +kernel)) (fun _ _ _ _ _ => (pg_name (i := 7) nd rfl (by first | exact Or.inl rfl | exact Or.inr rfl))) (fun _ _ _ _ _ => pts_nil) (fun _ _ _ _ _ => (pe_callTy call_strM (by rfl) T.f_str (by decide +kernel) (pa_cons (mv 7) pa_nil)))) pa_nil))))))), pu vs H Q E h⟩
abbrev s_law : Stmt := top 19
theorem sc_law : FnScope N_law ["_law_script"] (defScope s_law) := ⟨rfl, rfl, rfl, by decide +kernel, rfl, by decide +kernel, by decide +kernel⟩
theorem ok_law {k : Nat} {sp : Sp} {sp__law_purse : Sp} {sp__law_draw : Sp} {sp__law_all : Sp} {sp_shapes : Sp} {sp__law_text : Sp} {sp__law_nest : Sp} {k__law_purse : Nat} {p__law_purse : List Str} {k__law_draw : Nat} {p__law_draw : List Str} {k__law_all : Nat} {p__law_all : List Str} {k_shapes : Nat} {p_shapes : List Str} {k__law_nest : Nat} {p__law_nest : List Str} {k__law_text : Nat} {p__law_text : List Str} {a_TurnError : Addr} {a_InvalidNumber : Addr} (F : FunD K "law" "law" (defArgs s_law) (defBody s_law) (defScope s_law) [] [] f fd) (T : Tx K mg) (C__law_purse : CalG P w K mg base CX0 "_law_purse" k__law_purse p__law_purse [] sp__law_purse) (C__law_draw : CalG P w K mg base CX0 "_law_draw" k__law_draw p__law_draw [] sp__law_draw) (C__law_all : CalG P w K mg base CX0 "_law_all" k__law_all p__law_all [] sp__law_all) (C_shapes : CalG P w K mg base (L2.CX P w) "shapes" k_shapes p_shapes [] sp_shapes) (C__law_nest : CalG P w K mg base CX0 "_law_nest" k__law_nest p__law_nest [] sp__law_nest) (C__law_text : CalG P w K mg base CX0 "_law_text" k__law_text p__law_text [] sp__law_text) (G_TurnError : mg "TurnError" = some (.ref a_TurnError)) (X_InvalidNumber : ExcAt P w K mg "InvalidNumber" "value" a_InvalidNumber) (l__law_purse : k__law_purse ≤ k) (l__law_draw : k__law_draw ≤ k) (l__law_all : k__law_all ≤ k) (l_shapes : k_shapes ≤ k) (l__law_nest : k__law_nest ≤ k) (l__law_text : k__law_text ≤ k)
    (len : ∀ vs H Q E, sp vs H Q E → vs.length = 1) (pu : ∀ vs H Q E, sp vs H Q E → rd_law K sp__law_purse sp__law_draw sp__law_all sp_shapes sp__law_text sp__law_nest a_TurnError a_InvalidNumber { nx := fun _ H' => Q .non H', rt := Q } (start N_law vs) H) :
    FnG P w K mg base CX0 (k + 1) f fd ["_law_script"] sp :=
  okG F sc_law len fun cdv A outer s H vs Q E hr h => ⟨rd_law K sp__law_purse sp__law_draw sp__law_all sp_shapes sp__law_text sp__law_nest a_TurnError a_InvalidNumber, PSs.nox (
    have nd := sc_law.nd
    let N := N_law
    let scope := defScope s_law
    (pss_cons (ms_for PassesOwn.never rfl (pi_rng1M (by rfl) T.f_range me_int) (pg_name (i := 1) nd rfl (by first | exact Or.inl rfl | exact Or.inr rfl)) (pss_cons (ps_set (i := 2) nd rfl (by first | exact Or.inl rfl | exact Or.inr rfl) (me_callG C__law_purse (hr.mono l__law_purse) (by rfl) pass0 (pa_cons (mv 0) (pa_cons (mv 1) pa_nil))))
  (pss_cons (ps_set (i := 3) nd rfl (by first | exact Or.inl rfl | exact Or.inr rfl) (me_callG C__law_draw (hr.mono l__law_draw) (by rfl) pass0 (pa_cons (mv 2) (pa_cons me_int pa_nil))))
  (pss_cons (ms_par (i := 4) (j := 5) rfl nd rfl rfl (by decide) rfl rfl (pa_cons (me_callG C_shapes (hr.mono l_shapes) (by rfl) passF (pa_cons (mv 3) pa_nil)) (pa_cons (me_callG C__law_all (hr.mono l__law_all) (by rfl) pass0 (pa_cons (mv 3) pa_nil)) pa_nil)) (by rfl))
  (pss_cons (ps_if (PW.pt (pw_or (pt_not (mt_val (pe_callB call_isiM (by rfl) T.f_isinstance (by decide +kernel) (pa_cons (mv 4) (pa_cons (me_ty "list" (by rfl) T.f_list (by decide +kernel)) pa_nil))))) (pw_or (mt_cmp (op_neM hr.units) (mv 4) (mv 5) (by rfl)) (pw_or1 (mt_cmp op_ninSM (me_callG C__law_text (hr.mono l__law_text) (by rfl) pass0 (pa_cons (me_callG C__law_nest (hr.mono l__law_nest) (by rfl) pass0 (pa_cons (mv 2) (pa_cons (mv 3) pa_nil))) pa_nil)) (mv 4) (by rfl)))))) (pss_one (ps_ret me_bl)) pss_nil)
  (pss_cons (ps_expr (me_clear (mv 4)))
  (pss_one (ps_if (mt_cmp (op_neM hr.units) (me_callG C_shapes (hr.mono l_shapes) (by rfl) passF (pa_cons (mv 3) pa_nil)) (mv 5) (by rfl)) (pss_one (ps_ret me_bl)) pss_nil))))))))
  (pss_cons (ms_for PassesOwn.never rfl (pi_iterM (pe_lst (pa_cons me_non (pa_cons (me_neg me_int) (pa_cons me_int (pa_cons me_bl (pa_cons me_bl (pa_cons (me_str [51] (by rfl)) (pa_cons (pe_lst (pa_cons me_int pa_nil)) (pa_cons (pe_tup (pa_cons me_int (pa_cons me_int pa_nil))) (pa_cons pe_dnewK pa_nil))))))))))) (pg_name (i := 6) nd rfl (by first | exact Or.inl rfl | exact Or.inr rfl)) (pss_cons (ps_set (i := 7) nd rfl (by first | exact Or.inl rfl | exact Or.inr rfl) me_non)
  (pss_cons (ms_try (i := 8) (j := 7) (tb := fun W => (tDrop (tCallSD sp_shapes [] (WE W) (tCons (mVar 6) tNil)))) rfl rfl rfl nd rfl rfl ⟨by rfl, by decide, Or.inl G_TurnError⟩ (fun W pn xe tk po => (pss_one (ps_expr (me_callS C_shapes (hr.mono l_shapes) (by rfl) tk (pa_cons (mv 6) pa_nil))))) (fun a oe pn hf => pss_one (ps_set (i := 7) nd rfl (by first | exact Or.inl rfl | exact Or.inr rfl) (mv 8))))
  (pss_one (ps_if (PW.pt (pw_or (pt_not (mt_val (pe_callB call_isiE (by rfl) T.f_isinstance (by decide +kernel) (pa_cons (mv 7) (pa_cons (pe_glob (by rfl) X_InvalidNumber.gC rfl) pa_nil))))) (pw_or1 (mt_cmp (op_neM hr.units) (pe_callB (call_reprM hr) (by rfl) T.f_repr (by decide +kernel) (pa_cons (me_fld (mv 7)) pa_nil)) (pe_callB (call_reprM hr) (by rfl) T.f_repr (by decide +kernel) (pa_cons (mv 6) pa_nil)) (by rfl))))) (pss_one (ps_ret me_bl)) pss_nil)))))
  (pss_one (ps_ret (pe_cmpR (op_eqM hr.units) (me_callG C_shapes (hr.mono l_shapes) (by rfl) passF (pa_cons me_int pa_nil)) (pe_lst (pa_cons (me_str [46] (by rfl)) pa_nil)) (by rfl))))))), pu vs H Q E h⟩
end
end Pf
namespace Pf
open PySem PySem.Spec PyProof.Rows L2 M
local macro_rules | `(tactic| walk_at "go") => `(tactic| try simp only [tSeq, tIfS, tIf, tNot, mTest, tCB, tCons, tNil, mVar, M.gt, mC, Bool.not_true, Bool.not_false, Bool.false_eq_true, if_false, if_true, tNext, tAsg, gName, gSub, List.set_cons_zero, List.set_cons_succ, mFor, mIter, S_cps, S_len, S_app, tOp, tSl, mPart, mUn, tNoPart, tRet, tRetN, tTup, tLst, tAnd, tOr, mAndV, mOrV, mNotV, tCall, tCallSD, tDrop, mPar, mPar3, mLstM, mStrM, mBits, mRng1, mRng2, mgTup, mgSeq, mgCons, mgNil, q_add1, q_add2, q_add3, q_add4, q_iadd1, q_iadd2, q_iadd3, q_sorted, q_sub, q_mul1, q_mul2, q_mod, q_div, q_pow, q_eq1, q_eq2, q_eq3, q_eq4, q_eq5, q_eq6, q_eq7, q_eq8, q_eq9, q_eq10, q_ne1, q_ne2, q_ne3, q_ne9, q_ne10, q_lt, q_le, q_gt, q_ge, q_inc1, q_ix1, q_ix2, q_sl1, q_sl2, q_set, q_len1, q_len2, q_int1, q_int2, q_max, q_min, q_abs, q_sum, q_list, q_isi1, q_is1, q_not1, q_isN1, q_isN2, q_isN3, q_isN4, q_join, q_count, q_split, q_app, q_pop, q_clear, q_isiE, q_repr, wipe, List.map_cons, List.map_nil, List.length_cons, List.length_nil, List.length_append, List.length_map, List.nil_append, List.cons_append, List.append_nil, cut_m3, cut_t3, cut_m1, cut_t1, cut_t2, S_eq, decide_eq_true_eq, Bool.not_eq_true', decide_eq_false_iff_not, ne_eq])
local macro_rules | `(tactic| walk_at "hh") => `(tactic| first | assumption | exact upd_same | exact Ex.new (by assumption) _ _ (by walk_at "hh") | exact Ex.at (by assumption) (by assumption) | solve_by_elim [Ex.at])
local macro_rules | `(tactic| walk_at "ee") => `(tactic| first | assumption | exact Ex.refl _ | exact Ex.push (by walk_at "ee") (by assumption) | exact Ex.trans (by assumption) (by assumption) | solve_by_elim [Ex.trans])
local macro_rules | `(tactic| walk_at "sz") => `(tactic| first | (rw [szl]; omega) | (simp only [szl, tx_len, sg_len, List.length_map, List.length_append, List.length_cons, List.length_nil, List.length_singleton, S_len]; omega))
def sp__law_mixed : Sp := fun vs H Q _ => ∃ i j : Int, vs = [.int i, .int j] ∧ 0 ≤ i ∧ i < 2 ^ 40 ∧ 0 ≤ j ∧ j < 2 ^ 200 ∧ ∀ r : Int, 0 ≤ r → r < 2147483587 → Q (.int r) H
theorem pu__law_mixed (K : PySem.W.Frag) (vs : List V) (H : Hp) (Q : VK) (E : XK) (h : sp__law_mixed vs H Q E) : rd__law_mixed K { nx := fun _ H' => Q .non H', rt := Q } (L2.start N__law_mixed vs) H := by
  obtain ⟨i, j, rfl, h1, h2, h3, h4, k⟩ := h
  show rd__law_mixed K _ [some _, some _, none] H
  unfold rd__law_mixed
  walk_at "go"
  have m1 : ∀ x : Int, 0 ≤ x % 2147483647 ∧ x % 2147483647 < 2 ^ 31 := fun x => ⟨Int.emod_nonneg _ (by decide), Int.lt_of_lt_of_le (Int.emod_lt_of_pos _ (by decide)) (by decide)⟩
  have m2 : ∀ x : Int, 0 ≤ x % 2147483629 ∧ x % 2147483629 < 2 ^ 31 := fun x => ⟨Int.emod_nonneg _ (by decide), Int.lt_of_lt_of_le (Int.emod_lt_of_pos _ (by decide)) (by decide)⟩
  refine ⟨mulOk 40 31 h1 h2 (by decide) (by decide), mulOk 20 200 (by decide) (by decide) h3 h4, ?_, by decide, mulOk 31 31 (m1 _).1 (m1 _).2 (m1 _).1 (m1 _).2, by decide, mulOk 31 31 (m2 _).1 (m2 _).2 (by decide) (by decide), by decide, k _ (Int.emod_nonneg _ (by decide)) (Int.emod_lt_of_pos _ (by decide))⟩
  refine mulOk 220 200 (Int.mul_nonneg (by decide) h3) ?_ h3 h4
  calc 7919 * j ≤ 7919 * 2 ^ 200 := Int.mul_le_mul_of_nonneg_left (Int.le_of_lt h4) (by decide)
    _ < 2 ^ 220 := by decide
def sp__law_purse (K : PySem.W.Frag) : Sp := fun vs H Q _ => ∃ (a : Addr) (ns : List Int) (i : Nat), vs = [.ref a, .int i] ∧ SqL K H a (ns.map V.int) ∧ i ≤ 1000 ∧ ∀ H' p, Ex H H' → H p = none → Pu H' p 2000000 → Q (.ref p) H'
theorem pu__law_purse (K : PySem.W.Frag) (vs : List V) (H : Hp) (Q : VK) (E : XK) (h : sp__law_purse K vs H Q E) : rd__law_purse K { nx := fun _ H' => Q .non H', rt := Q } (L2.start N__law_purse vs) H := by
  obtain ⟨a, ns, i, rfl, hL, hi, k⟩ := h
  show rd__law_purse K _ [some _, some _, none] H
  unfold rd__law_purse
  walk_at "go"
  refine ⟨_, hL, fun q hq => ?_⟩
  walk_at "go"
  refine ⟨(ns.drop i).take (i + 1 - i), SqL.of ?_, ?_⟩
  · rw [upd_same, show ((i : Int) + 1) = ((i + 1 : Nat) : Int) by omega, cut_mid, ← List.map_drop, ← List.map_take]
  generalize ((ns.drop i).take (i + 1 - i)).sum = r
  walk_at "go"
  refine ⟨by decide, by decide +kernel, by decide +kernel, by decide, by decide, ?_, by walk_at "sz", fun p hp => k _ p ((Ex.new hq).push hp) ((Ex.new hq).free hp) ⟨_, _, _, upd_same, ?_⟩⟩
  · exact mulOk 20 20 (by decide) (by decide) (by omega) (by omega)
  · have e : (((10 : Int) ^ (60 : Int).toNat) ^ (10 : Int).toNat) = 10 ^ 600 := by decide +kernel
    rw [e]
    have e2 : (10 : Int) ^ 600 < 2 ^ 2000 := by decide +kernel
    refine ⟨Int.emod_nonneg _ (by decide +kernel), Int.lt_trans (Int.emod_lt_of_pos _ (by decide +kernel)) e2, Int.emod_nonneg _ (by decide), Int.lt_of_lt_of_le (Int.emod_lt_of_pos _ (by decide)) (by decide), by omega, by omega⟩
def sp__law_draw : Sp := fun vs H Q _ => ∃ (g : Addr) (n : Nat) (m : Int), vs = [.ref g, .int m] ∧ 0 < m ∧ m < 2 ^ 200 ∧ n < 2 ^ 100 ∧ Pu H g n ∧ ∀ H' r, Fm [g] H H' → Pu H' g (n + 10) → 0 ≤ r → r < m → Q (.int r) H'
theorem pu__law_draw (K : PySem.W.Frag) (vs : List V) (H : Hp) (Q : VK) (E : XK) (h : sp__law_draw vs H Q E) : rd__law_draw K sp__law_mixed { nx := fun _ H' => Q .non H', rt := Q } (L2.start N__law_draw vs) H := by
  obtain ⟨g, n, m, rfl, m0, m1, hn, ⟨a, b, c, hg, a0, a1, b0, b1, c0, c1⟩, k⟩ := h
  show rd__law_draw K _ _ [some _, some _, none, none, none] H
  unfold rd__law_draw
  walk_at "go"
  refine ⟨_, _, .inl (SqL.of hg), aI_0 _ _, ?_⟩
  walk_at "go"
  by_cases ca : 0 < a
  · rw [if_pos ca]
    refine ⟨_, _, .inl (SqL.of hg), aI_0 _ _, ?_⟩
    walk_at "go"
    refine ⟨m0, _, _, .inl (SqL.of hg), aI_0 _ _, ?_⟩
    walk_at "go"
    refine ⟨divOk 200 m0 m1, _, 0, hg, rfl, ?_⟩
    refine k _ _ (Fm.mut (by simp)) ⟨_, b, c, upd_same, ?_⟩ (Int.emod_nonneg _ (by omega)) (Int.emod_lt_of_pos _ m0)
    refine ⟨Int.ediv_nonneg a0 (by omega), Int.lt_of_le_of_lt (Int.ediv_le_self _ a0) a1, b0, b1, c0, by omega⟩
  · rw [if_neg ca]
    walk_at "go"
    have hb := bits_le (Int.le_of_lt m0) m1
    have hd : ((Builtin.Int.intBits m : Int) / 30) ≤ 6 := by omega
    have hd0 : 0 ≤ ((Builtin.Int.intBits m : Int) / 30) := by omega
    refine ⟨divOk 10 (by decide) (by decide), ⟨by omega, by omega⟩, ?_⟩
    refine (?lp : ∀ (r : List V) (w : Int) (v : Option V) (j : Nat) (c : Int) (H1 : Hp), Fm [g] H H1 → H1 g = some (.lst [.int a, .int b, .int c]) → 0 ≤ c → c < n + j → 0 ≤ w → w < 2 ^ (40 * j + 1) → r.length + j ≤ 7 → fV _ _ _ _ r [some _, some _, none, some (.int w), v] H1) _ 0 none 0 c H (Fm.refl _ _) hg c0 (by omega) (by decide) (by decide) (by simp [upto]; omega)
    intro r
    induction r with
    | nil =>
      intro w v j c H1 e h1 c0 c1 w0 w1 hl
      simp only [fV]
      walk_at "go"
      refine ⟨trivial, m0, k _ _ e ⟨a, b, c, h1, a0, a1, b0, b1, c0, ?_⟩ (Int.emod_nonneg _ (by omega)) (Int.emod_lt_of_pos _ m0)⟩
      simp only [List.length_nil] at hl; omega
    | cons x r ih =>
      intro w v j c H1 e h1 c0 c1 w0 w1 hl
      simp only [fV]
      walk_at "go"
      refine ⟨trivial, _, _, .inl (SqL.of h1), aI_2 _ _ _ _, ?_⟩
      walk_at "go"
      refine ⟨_, 2, h1, rfl, ?_⟩
      simp only [List.set_cons_zero, List.set_cons_succ]
      refine ⟨?_, _, _, .inl (SqL.of upd_same), aI_1 _ _ _, _, _, .inl (SqL.of upd_same), aI_2 _ _ _ _, ?_⟩
      · refine mulOk 400 40 w0 (Int.lt_of_lt_of_le w1 ?_) (by decide) (by decide)
        exact_mod_cast Nat.pow_le_pow_right (by decide) (by simp only [List.length_cons] at hl; omega)
      · refine ⟨b, c + 1, rfl, b0, Int.lt_of_lt_of_le b1 (by decide), by omega, ?_, fun z z0 z1 => ?_⟩
        · have : (n : Int) < 2 ^ 100 := by exact_mod_cast hn
          simp only [List.length_cons] at hl
          calc c + 1 ≤ (2 : Int) ^ 100 + 8 := by omega
            _ < 2 ^ 200 := by decide
        · walk_at "go"
          refine ih _ _ (j + 1) (c + 1) _ (e.trans (Fm.mut (by simp))) upd_same (by omega) (by omega) ?_ ?_ (by simp only [List.length_cons] at hl; omega)
          · exact Int.add_nonneg (Int.mul_nonneg w0 (by decide)) z0
          · have e1 : (2 : Int) ^ (40 * (j + 1) + 1) = 2 ^ (40 * j + 1) * 2 ^ 40 := by
              rw [show 40 * (j + 1) + 1 = (40 * j + 1) + 40 by omega, Int.pow_add]
            have w2 : w + 1 ≤ 2 ^ (40 * j + 1) := w1
            calc w * 2147483587 + z < w * 2147483587 + 2147483587 := by omega
              _ = (w + 1) * 2147483587 := by rw [Int.add_mul]; omega
              _ ≤ 2 ^ (40 * j + 1) * 2147483587 := Int.mul_le_mul_of_nonneg_right w2 (by decide)
              _ ≤ 2 ^ (40 * j + 1) * 2 ^ 40 := Int.mul_le_mul_of_nonneg_left (by decide) (by omega)
              _ = _ := e1.symm
end Pf

namespace Pf
open PySem PySem.Spec PyProof.Rows L2 M
local macro_rules | `(tactic| walk_at "go") => `(tactic| try simp only [tSeq, tIfS, tIf, tNot, mTest, tCB, tCons, tNil, mVar, M.gt, mC, Bool.not_true, Bool.not_false, Bool.false_eq_true, if_false, if_true, tNext, tAsg, gName, gSub, List.set_cons_zero, List.set_cons_succ, mFor, mIter, S_cps, S_len, S_app, tOp, tSl, mPart, mUn, tNoPart, tRet, tRetN, tTup, tLst, tAnd, tOr, mAndV, mOrV, mNotV, tCall, tCallSD, tDrop, mPar, mPar3, mLstM, mStrM, mBits, mRng1, mRng2, mgTup, mgSeq, mgCons, mgNil, q_add1, q_add2, q_add3, q_add4, q_iadd1, q_iadd2, q_iadd3, q_sorted, q_sub, q_mul1, q_mul2, q_mod, q_div, q_pow, q_eq1, q_eq2, q_eq3, q_eq4, q_eq5, q_eq6, q_eq7, q_eq8, q_eq9, q_eq10, q_ne1, q_ne2, q_ne3, q_ne9, q_ne10, q_lt, q_le, q_gt, q_ge, q_inc1, q_ix1, q_ix2, q_sl1, q_sl2, q_set, q_len1, q_len2, q_int1, q_int2, q_max, q_min, q_abs, q_sum, q_list, q_isi1, q_is1, q_not1, q_isN1, q_isN2, q_isN3, q_isN4, q_join, q_count, q_split, q_app, q_pop, q_clear, q_isiE, q_repr, wipe, List.map_cons, List.map_nil, List.length_cons, List.length_nil, List.length_append, List.length_map, List.nil_append, List.cons_append, List.append_nil, cut_m3, cut_t3, cut_m1, cut_t1, cut_t2, S_eq, decide_eq_true_eq, Bool.not_eq_true', decide_eq_false_iff_not, ne_eq])
local macro_rules | `(tactic| walk_at "hh") => `(tactic| first | assumption | exact upd_same | exact Ex.new (by assumption) _ _ (by walk_at "hh") | exact Ex.at (by assumption) (by assumption) | solve_by_elim [Ex.at])
local macro_rules | `(tactic| walk_at "ee") => `(tactic| first | assumption | exact Ex.refl _ | exact Ex.push (by walk_at "ee") (by assumption) | exact Ex.trans (by assumption) (by assumption) | solve_by_elim [Ex.trans])
local macro_rules | `(tactic| walk_at "sz") => `(tactic| first | (rw [szl]; omega) | (simp only [szl, tx_len, sg_len, List.length_map, List.length_append, List.length_cons, List.length_nil, List.length_singleton, S_len]; omega))
def sp__law_nest (K : PySem.W.Frag) (N : Nat) : Sp := fun vs H Q _ => ∃ (g : Addr) (n m : Nat), vs = [.ref g, .int m] ∧ m < N ∧ m ≤ 2000 ∧ n + 20 * m < 2 ^ 90 ∧ Pu H g n ∧ ∀ H' v (t : Tr), t.n = m → Fm [g] H H' → Pu H' g (n + 20 * m) → Nst K H' v t → Q v H'
theorem pu__law_nest (K : PySem.W.Frag) (N : Nat) (vs : List V) (H : Hp) (Q : VK) (E : XK) (h : sp__law_nest K (N + 1) vs H Q E) : rd__law_nest K sp__law_draw (sp__law_nest K N) { nx := fun _ H' => Q .non H', rt := Q } (L2.start N__law_nest vs) H := by
  obtain ⟨g, n, m, rfl, mN, mm, hn, hp, k⟩ := h
  show rd__law_nest K _ _ _ [some _, some _, none] H
  unfold rd__law_nest
  walk_at "go"
  by_cases c : (m : Int) = 0
  · rw [if_pos c]
    walk_at "go"
    refine ⟨by walk_at "sz", fun p h1 => ?_⟩
    exact k _ _ .lf (by show 0 = m; omega) (Fm.new h1) ((hp.fm (Ex.new h1)).mono (by omega)) (.lf (SqT.of upd_same))
  · rw [if_neg c]
    walk_at "go"
    refine ⟨g, n, (m : Int), rfl, by omega, ?_, by omega, hp, fun H1 r e1 p1 r0 r1 => ?_⟩
    · have : (m : Int) ≤ 2000 := by exact_mod_cast mm
      exact Int.lt_of_le_of_lt this (by decide)
    walk_at "go"
    refine ⟨by walk_at "sz", fun p hp1 => ⟨g, n + 10, 6, rfl, by decide, by decide, by omega, p1.fm (Ex.new hp1), fun H2 j e2 p2 j0 j1 => ?_⟩⟩
    have h2 := e2 p _ (by simpa using p1.ne hp1) (upd_same (H := H1))
    have e3 : Fm [g] H H2 := e1.trans ((Fm.new hp1).trans e2)
    obtain ⟨r, rfl⟩ := Int.eq_ofNat_of_zero_le r0
    obtain ⟨j, rfl⟩ := Int.eq_ofNat_of_zero_le j0
    obtain ⟨q, hq, hqm⟩ : ∃ q : Nat, atI [V.int (r : Int), V.int r, V.int r, V.int r, V.int 0, V.int ((m : Int) - 1)] (j : Int) = some (.int q) ∧ q < m := by
      rcases j with _ | _ | _ | _ | _ | _ | j
      · exact ⟨r, rfl, by omega⟩
      · exact ⟨r, rfl, by omega⟩
      · exact ⟨r, rfl, by omega⟩
      · exact ⟨r, rfl, by omega⟩
      · exact ⟨0, rfl, by omega⟩
      · exact ⟨m - 1, by rw [aI_nat]; show some (V.int _) = _; congr 2; omega, by omega⟩
      · omega
    walk_at "go"
    refine ⟨_, _, .inl (SqL.of h2), hq, ?_⟩
    refine ⟨g, n + 10 + 10, q, rfl, by omega, by omega, by omega, p2, fun H3 v1 t1 ht1 e4 p3 n1 => ?_⟩
    walk_at "go"
    refine ⟨g, n + 10 + 10 + 20 * q, m - 1 - q, by congr 3; omega, by omega, by omega, by omega, p3, fun H4 v2 t2 ht2 e5 p4 n2 => ?_⟩
    walk_at "go"
    refine ⟨by walk_at "sz", fun s hs => ?_⟩
    have e6 := Ex.new (o := .tup [v1, v2]) hs
    have n1' : Nst K H4 v1 t1 := n1.fm (fun p hp => .inr (by rw [List.mem_singleton.mp hp]; exact p3.lst)) e5
    exact k _ _ (.nd t1 t2) (by show t1.n + t2.n + 1 = m; omega) (e3.trans (e4.trans (e5.trans (Fm.ex e6)))) ((p4.fm e6).mono (by omega)) (.nd (SqT.of upd_same) (n1'.ex e6) (n2.ex e6))
end Pf

namespace Pf
open PySem PySem.Spec PyProof.Rows L2 M
local macro_rules | `(tactic| walk_at "go") => `(tactic| try simp only [tSeq, tIfS, tIf, tNot, mTest, tCB, tCons, tNil, mVar, M.gt, mC, Bool.not_true, Bool.not_false, Bool.false_eq_true, if_false, if_true, tNext, tAsg, gName, gSub, List.set_cons_zero, List.set_cons_succ, mFor, mIter, S_cps, S_len, S_app, tOp, tSl, mPart, mUn, tNoPart, tRet, tRetN, tTup, tLst, tAnd, tOr, mAndV, mOrV, mNotV, tCall, tCallSD, tDrop, mPar, mPar3, mLstM, mStrM, mBits, mRng1, mRng2, mgTup, mgSeq, mgCons, mgNil, q_add1, q_add2, q_add3, q_add4, q_iadd1, q_iadd2, q_iadd3, q_sorted, q_sub, q_mul1, q_mul2, q_mod, q_div, q_pow, q_eq1, q_eq2, q_eq3, q_eq4, q_eq5, q_eq6, q_eq7, q_eq8, q_eq9, q_eq10, q_ne1, q_ne2, q_ne3, q_ne9, q_ne10, q_lt, q_le, q_gt, q_ge, q_inc1, q_ix1, q_ix2, q_sl1, q_sl2, q_set, q_len1, q_len2, q_int1, q_int2, q_max, q_min, q_abs, q_sum, q_list, q_isi1, q_is1, q_not1, q_isN1, q_isN2, q_isN3, q_isN4, q_join, q_count, q_split, q_app, q_pop, q_clear, q_isiE, q_repr, wipe, List.map_cons, List.map_nil, List.length_cons, List.length_nil, List.length_append, List.length_map, List.nil_append, List.cons_append, List.append_nil, cut_m3, cut_t3, cut_m1, cut_t1, cut_t2, S_eq, decide_eq_true_eq, Bool.not_eq_true', decide_eq_false_iff_not, ne_eq])
local macro_rules | `(tactic| walk_at "hh") => `(tactic| first | assumption | exact upd_same | exact Ex.new (by assumption) _ _ (by walk_at "hh") | exact Ex.at (by assumption) (by assumption) | solve_by_elim [Ex.at])
local macro_rules | `(tactic| walk_at "ee") => `(tactic| first | assumption | exact Ex.refl _ | exact Ex.push (by walk_at "ee") (by assumption) | exact Ex.trans (by assumption) (by assumption) | solve_by_elim [Ex.trans])
local macro_rules | `(tactic| walk_at "sz") => `(tactic| first | (rw [szl]; omega) | (simp only [szl, tx_len, sg_len, List.length_map, List.length_append, List.length_cons, List.length_nil, List.length_singleton, S_len]; omega))
def sp__law_text (K : PySem.W.Frag) (N : Nat) : Sp := fun vs H Q _ => ∃ (v : V) (t : Tr), vs = [v] ∧ Nst K H v t ∧ t.n < N ∧ t.n ≤ 100000 ∧ ∀ H', Ex H H' → Q (.str (S t.s)) H'
theorem pu__law_text (K : PySem.W.Frag) (N : Nat) (vs : List V) (H : Hp) (Q : VK) (E : XK) (h : sp__law_text K (N + 1) vs H Q E) : rd__law_text K (sp__law_text K N) { nx := fun _ H' => Q .non H', rt := Q } (L2.start N__law_text vs) H := by
  obtain ⟨v, t, rfl, ht, hN, hl, k⟩ := h
  obtain ⟨a, rfl⟩ := ht.ref
  show rd__law_text K _ _ [some _] H
  unfold rd__law_text
  walk_at "go"
  refine ⟨by walk_at "sz", fun p hp => ?_⟩
  refine eq_nil (ht.ex (Ex.new hp)) (SqT.of upd_same) ?_
  have e1 := Ex.new (o := .tup []) hp
  cases ht with
  | lf h1 =>
    walk_at "go"
    exact k _ e1
  | @nd _ l r t u h1 h2 h3 =>
    simp only [Tr.n] at hN hl
    have l1 := t.s_len
    have l2 := u.s_len
    walk_at "go"
    rw [if_neg (by simp)]
    refine ⟨_, _, .inr (e1.T h1), aI_0 _ _, ?_⟩
    refine ⟨l, t, rfl, h2.ex e1, by omega, by omega, fun H1 e2 => ?_⟩
    walk_at "go"
    have e3 := e1.trans e2
    refine ⟨by walk_at "sz", _, _, .inr (e3.T h1), aI_1 _ _ _, ?_⟩
    refine ⟨r, u, rfl, h3.ex e3, by omega, by omega, fun H2 e4 => ?_⟩
    walk_at "go"
    refine ⟨by walk_at "sz", by walk_at "sz", ?_⟩
    have := k H2 (e3.trans e4)
    simpa only [Tr.s, List.append_assoc, List.cons_append, List.nil_append] using this
end Pf

namespace Pf
open PySem PySem.Spec PyProof.Rows L2 M
local macro_rules | `(tactic| walk_at "go") => `(tactic| try simp only [tSeq, tIfS, tIf, tNot, mTest, tCB, tCons, tNil, mVar, M.gt, mC, Bool.not_true, Bool.not_false, Bool.false_eq_true, if_false, if_true, tNext, tAsg, gName, gSub, List.set_cons_zero, List.set_cons_succ, mFor, mIter, S_cps, S_len, S_app, tOp, tSl, mPart, mUn, tNoPart, tRet, tRetN, tTup, tLst, tAnd, tOr, mAndV, mOrV, mNotV, tCall, tCallSD, tDrop, mPar, mPar3, mLstM, mStrM, mBits, mRng1, mRng2, mgTup, mgSeq, mgCons, mgNil, q_add1, q_add2, q_add3, q_add4, q_iadd1, q_iadd2, q_iadd3, q_sorted, q_sub, q_mul1, q_mul2, q_mod, q_div, q_pow, q_eq1, q_eq2, q_eq3, q_eq4, q_eq5, q_eq6, q_eq7, q_eq8, q_eq9, q_eq10, q_ne1, q_ne2, q_ne3, q_ne9, q_ne10, q_lt, q_le, q_gt, q_ge, q_inc1, q_ix1, q_ix2, q_sl1, q_sl2, q_set, q_len1, q_len2, q_int1, q_int2, q_max, q_min, q_abs, q_sum, q_list, q_isi1, q_is1, q_not1, q_isN1, q_isN2, q_isN3, q_isN4, q_join, q_count, q_split, q_app, q_pop, q_clear, q_isiE, q_repr, wipe, List.map_cons, List.map_nil, List.length_cons, List.length_nil, List.length_append, List.length_map, List.nil_append, List.cons_append, List.append_nil, cut_m3, cut_t3, cut_m1, cut_t1, cut_t2, S_eq, decide_eq_true_eq, Bool.not_eq_true', decide_eq_false_iff_not, ne_eq])
/-- no whole number -/
inductive Nw (K : PySem.W.Frag) (H : Hp) : V → Prop
  | non : Nw K H .non
  | bl (b : Bool) : Nw K H (.bl b)
  | str (z : Str) : Nw K H (.str z)
  | lst {a : Addr} {xs : List V} : SqL K H a xs → Nw K H (.ref a)
  | tup {a : Addr} {xs : List V} : SqT K H a xs → Nw K H (.ref a)
  | dct {a : Addr} {kvs : List (Key × V)} : H a = some (.dK kvs) → Nw K H (.ref a)
theorem Nw.ex {K : PySem.W.Frag} {H H' : Hp} (e : Ex H H') {v : V} (h : Nw K H v) : Nw K H' v := by
  cases h with
  | non => exact .non
  | bl b => exact .bl b
  | str z => exact .str z
  | lst h => exact .lst (e.L h)
  | tup h => exact .tup (e.T h)
  | dct h => exact .dct (e _ _ h)
def sp_is_whole (K : PySem.W.Frag) : Sp := fun vs H Q _ => ∃ v, vs = [v] ∧ (((∃ i, v = .int i) ∧ Q (.bl true) H) ∨ (Nw K H v ∧ Q (.bl false) H))
theorem pu_is_whole (K : PySem.W.Frag) (vs : List V) (H : Hp) (Q : VK) (E : XK) (h : sp_is_whole K vs H Q E) : rd_is_whole K { nx := fun _ H' => Q .non H', rt := Q } (L2.start N_is_whole vs) H := by
  obtain ⟨v, rfl, ⟨⟨i, rfl⟩, k⟩ | ⟨nw, k⟩⟩ := h
  · show rd_is_whole K _ [some _] H
    unfold rd_is_whole
    walk_at "go"
    unfold mIsi
    simp only [tyN, kb7, kb8]
    walk_at "go"
    exact k
  · show rd_is_whole K _ [some _] H
    unfold rd_is_whole
    walk_at "go"
    cases nw with
    | non => unfold mIsi; simp only [tyN, kb17]; exact k
    | str z => unfold mIsi; simp only [tyN, kb2]; exact k
    | bl b =>
      unfold mIsi
      simp only [tyN, kb12, kb13]
      walk_at "go"
      exact k
    | lst h => exact ⟨_, _, tyX_list h, ki_list.2.1, k⟩
    | tup h => exact ⟨_, _, tyX_tup h, ki_tup.2.1, k⟩
    | dct h => exact ⟨_, _, .base (.dK h), ki_dict.2.1, k⟩
def sp_check_number (K : PySem.W.Frag) (aN : Addr) : Sp := fun vs H Q E => ∃ v, vs = [v] ∧ (((∃ i, v = .int i) ∧ Q .non H) ∨ (Nw K H v ∧ Fail E H aN v))
theorem pu_check_number (K : PySem.W.Frag) (aN : Addr) (vs : List V) (H : Hp) (Q : VK) (E : XK) (h : sp_check_number K aN vs H Q E) : rd_check_number K (sp_is_whole K) aN E { nx := fun _ H' => Q .non H', rt := Q } (L2.start N_check_number vs) H := by
  obtain ⟨v, rfl, ⟨iv, k⟩ | ⟨nw, f⟩⟩ := h
  · show rd_check_number K _ _ _ _ [some _] H
    unfold rd_check_number
    walk_at "go"
    refine ⟨v, rfl, .inl ⟨iv, ?_⟩⟩
    walk_at "go"
    exact k
  · show rd_check_number K _ _ _ _ [some _] H
    unfold rd_check_number
    walk_at "go"
    refine ⟨v, rfl, .inr ⟨nw, ?_⟩⟩
    walk_at "go"
    unfold mRaise mMk
    walk_at "go"
    exact fun d hd => f _ d (Ex.new hd) hd upd_same
/-- a number that does not fit, or none -/
def BadN (K : PySem.W.Frag) (H : Hp) (v : V) (lo : Int) (m : V) : Prop := Nw K H v ∨ ∃ i, v = .int i ∧ (i < lo ∨ ∃ hi, m = .int hi ∧ hi < i)
def sp_check_whole (K : PySem.W.Frag) (aN : Addr) : Sp := fun vs H Q E => ∃ (v m : V) (lo : Int), vs = [v, .int lo, m] ∧ (m = .non ∨ ∃ hi, m = .int hi) ∧
  ((∃ i, v = .int i ∧ lo ≤ i ∧ (∀ hi, m = .int hi → i ≤ hi) ∧ Q .non H) ∨ (BadN K H v lo m ∧ Fail E H aN v))
theorem pu_check_whole (K : PySem.W.Frag) (aN : Addr) (vs : List V) (H : Hp) (Q : VK) (E : XK) (h : sp_check_whole K aN vs H Q E) : rd_check_whole K (sp_check_number K aN) aN E { nx := fun _ H' => Q .non H', rt := Q } (L2.start N_check_whole vs) H := by
  obtain ⟨v, m, lo, rfl, hm, ⟨i, rfl, h1, h2, k⟩ | ⟨nw | ⟨i, rfl, h1⟩, f⟩⟩ := h
  · show rd_check_whole K _ _ _ _ [some _, some _, some _] H
    unfold rd_check_whole
    walk_at "go"
    refine ⟨_, rfl, .inl ⟨⟨i, rfl⟩, ?_⟩⟩
    dsimp only
    rw [if_neg (by omega)]
    rcases hm with rfl | ⟨hi, rfl⟩
    · walk_at "go"
      exact k
    · walk_at "go"
      have := h2 hi rfl
      rw [if_neg (by omega)]
      exact k
  · show rd_check_whole K _ _ _ _ [some _, some _, some _] H
    unfold rd_check_whole
    walk_at "go"
    exact ⟨_, rfl, .inr ⟨nw, f⟩⟩
  · show rd_check_whole K _ _ _ _ [some _, some _, some _] H
    unfold rd_check_whole
    walk_at "go"
    refine ⟨_, rfl, .inl ⟨⟨i, rfl⟩, ?_⟩⟩
    dsimp only
    by_cases c : i < lo
    · rw [if_pos c]
      unfold mRaise mMk
      walk_at "go"
      exact fun d hd => f _ d (Ex.new hd) hd upd_same
    · obtain h1 | ⟨hi, rfl, h1⟩ := h1
      · exact absurd h1 c
      rw [if_neg c]
      walk_at "go"
      rw [if_pos h1]
      unfold mRaise mMk
      walk_at "go"
      exact fun d hd => f _ d (Ex.new hd) hd upd_same
end Pf

namespace Pf
open PySem PySem.Spec PyProof.Rows L2 M
local macro_rules | `(tactic| walk_at "go") => `(tactic| try simp only [tSeq, tIfS, tIf, tNot, mTest, tCB, tCons, tNil, mVar, M.gt, mC, Bool.not_true, Bool.not_false, Bool.false_eq_true, if_false, if_true, tNext, tAsg, gName, gSub, List.set_cons_zero, List.set_cons_succ, mFor, mIter, S_cps, S_len, S_app, tOp, tSl, mPart, mUn, tNoPart, tRet, tRetN, tTup, tLst, tAnd, tOr, mAndV, mOrV, mNotV, tCall, tCallSD, tDrop, mPar, mPar3, mLstM, mStrM, mBits, mRng1, mRng2, mgTup, mgSeq, mgCons, mgNil, q_add1, q_add2, q_add3, q_add4, q_iadd1, q_iadd2, q_iadd3, q_sorted, q_sub, q_mul1, q_mul2, q_mod, q_div, q_pow, q_eq1, q_eq2, q_eq3, q_eq4, q_eq5, q_eq6, q_eq7, q_eq8, q_eq9, q_eq10, q_ne1, q_ne2, q_ne3, q_ne9, q_ne10, q_lt, q_le, q_gt, q_ge, q_inc1, q_ix1, q_ix2, q_sl1, q_sl2, q_set, q_len1, q_len2, q_int1, q_int2, q_max, q_min, q_abs, q_sum, q_list, q_isi1, q_is1, q_not1, q_isN1, q_isN2, q_isN3, q_isN4, q_join, q_count, q_split, q_app, q_pop, q_clear, q_isiE, q_repr, wipe, List.map_cons, List.map_nil, List.length_cons, List.length_nil, List.length_append, List.length_map, List.nil_append, List.cons_append, List.append_nil, cut_m3, cut_t3, cut_m1, cut_t1, cut_t2, S_eq, decide_eq_true_eq, Bool.not_eq_true', decide_eq_false_iff_not, ne_eq])
local macro_rules | `(tactic| walk_at "hh") => `(tactic| first | assumption | exact upd_same | exact Ex.new (by assumption) _ _ (by walk_at "hh") | exact Ex.at (by assumption) (by assumption) | solve_by_elim [Ex.at])
local macro_rules | `(tactic| walk_at "ee") => `(tactic| first | assumption | exact Ex.refl _ | exact Ex.push (by walk_at "ee") (by assumption) | exact Ex.trans (by assumption) (by assumption) | solve_by_elim [Ex.trans])
local macro_rules | `(tactic| walk_at "sz") => `(tactic| first | (rw [szl]; omega) | (simp only [szl, tx_len, sg_len, List.length_map, List.length_append, List.length_cons, List.length_nil, List.length_singleton, S_len]; omega))
/-- rows of texts in a list, all new beside H -/
structure Lv (H H1 : Hp) (f : Addr) (ps : List Addr) (Ls : List (List (List Nat))) : Prop where
  ex : Ex H H1
  nf : H f = none
  hf : H1 f = some (.lst (ps.map V.ref))
  np : ∀ p ∈ ps, H p = none ∧ p ≠ f
  ln : ps.length = Ls.length
  at_ : ∀ (i : Nat) (p : Addr), ps[i]? = some p → H1 p = some (.lst (tx (Ls.getD i [])))
theorem Lv.exx {H H1 H2 : Hp} {f : Addr} {ps : List Addr} {Ls : List (List (List Nat))} (e : Ex H1 H2) (l : Lv H H1 f ps Ls) : Lv H H2 f ps Ls := ⟨l.ex.trans e, l.nf, e _ _ l.hf, l.np, l.ln, fun i p h => e _ _ (l.at_ i p h)⟩
theorem Lv.get {H H1 : Hp} {f : Addr} {ps : List Addr} {Ls : List (List (List Nat))} (l : Lv H H1 f ps Ls) {i : Nat} (h : i < Ls.length) : ∃ p, atI (ps.map V.ref) (i : Int) = some (.ref p) ∧ H1 p = some (.lst (tx (Ls.getD i []))) := by
  have hp : ps[i]? = some (ps[i]'(by rw [l.ln]; exact h)) := List.getElem?_eq_getElem _
  exact ⟨_, by rw [aI_nat, List.getElem?_map, hp]; rfl, l.at_ i _ hp⟩
/-- one row more -/
theorem Lv.add {H H1 : Hp} {f q : Addr} {ps : List Addr} {Ls : List (List (List Nat))} {M : List (List Nat)} (l : Lv H H1 f ps Ls) (nq : H q = none) (qf : q ≠ f) (hq : H1 q = some (.lst (tx M))) : Lv H (upd H1 f (.lst (ps.map V.ref ++ [V.ref q]))) f (ps ++ [q]) (Ls ++ [M]) := by
  refine ⟨l.ex.mut l.nf, l.nf, by rw [upd_same, List.map_append]; rfl, fun p hp => ?_, by simp [l.ln], fun i p h => ?_⟩
  · rcases List.mem_append.mp hp with h | h
    · exact l.np p h
    · rw [List.mem_singleton.mp h]; exact ⟨nq, qf⟩
  · by_cases c : i < ps.length
    · rw [List.getElem?_append_left c] at h
      have hp := List.mem_of_getElem? h
      rw [upd_ne (l.np p hp).2, l.at_ i p h, List.getD_eq_getElem?_getD, List.getD_eq_getElem?_getD, List.getElem?_append_left (by rw [← l.ln]; exact c)]
    · rw [List.getElem?_append_right (by omega)] at h
      have hi : i - ps.length = 0 := by
        by_cases z : i - ps.length = 0
        · exact z
        · rw [List.getElem?_eq_none (by simp; omega)] at h; cases h
      rw [hi] at h
      cases h
      rw [upd_ne qf, hq, List.getD_eq_getElem?_getD, List.getElem?_append_right (by rw [← l.ln]; omega), ← l.ln, hi]
      rfl
section
variable (K : PySem.W.Frag)
/-- the inner clause: a with each of B -/
theorem lp_in (G : Hp → Prop) (D : Addr) (H1 : Hp) (nD : H1 D = none) (hG : ∀ Hx, Ex H1 Hx → G Hx) (a : List Nat) (ha : a.length ≤ 1000) (x0 x1 x2 x3 x4 x7 : Option V) (N : Hp → Prop) :
    ∀ (B acc : List (List Nat)) (Hx : Hp), (∀ z ∈ B, z.length ≤ 1000) → acc.length + B.length ≤ 16777216 → Ex H1 Hx → Hx D = some (.lst (tx acc)) → (∀ Hy, Ex H1 Hy → Hy D = some (.lst (tx (acc ++ B.map fun b => ndS a b))) → N Hy) →
    cV G (gName 6) tYes (tOp mAdd (tOp mAdd (tOp mAdd (mC (.str (S [40]))) (mVar 5)) (mVar 6)) (mC (.str (S [41])))) [6] [x0, x1, x2, x3, x4, some (.str (S a)), none, x7] D N (tx B) Hx
  | [], acc, Hx, hB, hl, e, h, k => ⟨hG Hx e, k Hx e (by simpa using h)⟩
  | b :: B, acc, Hx, hB, hl, e, h, k => by
    have ih := lp_in G D H1 nD hG a ha x0 x1 x2 x3 x4 x7 N B
    have hb := hB b List.mem_cons_self
    simp only [List.length_cons] at hl
    simp only [tx, List.map_cons, cV]
    refine ⟨hG Hx e, ?_⟩
    simp only [tYes]
    walk_at "go"
    refine ⟨trivial, by walk_at "sz", by walk_at "sz", by walk_at "sz", _, h, by walk_at "sz", ?_⟩
    refine ih (acc ++ [ndS a b]) _ (fun z hz => hB z (List.mem_cons_of_mem _ hz)) (by rw [List.length_append, List.length_singleton]; omega) (e.mut nD) (by rw [upd_same, tx_app]; simp [ndS, tx]) fun Hy ey hy => k Hy ey (by simpa using hy)
end
end Pf

namespace Pf
open PySem PySem.Spec PyProof.Rows L2 M
local macro_rules | `(tactic| walk_at "go") => `(tactic| try simp only [tSeq, tIfS, tIf, tNot, mTest, tCB, tCons, tNil, mVar, M.gt, mC, Bool.not_true, Bool.not_false, Bool.false_eq_true, if_false, if_true, tNext, tAsg, gName, gSub, List.set_cons_zero, List.set_cons_succ, mFor, mIter, S_cps, S_len, S_app, tOp, tSl, mPart, mUn, tNoPart, tRet, tRetN, tTup, tLst, tAnd, tOr, mAndV, mOrV, mNotV, tCall, tCallSD, tDrop, mPar, mPar3, mLstM, mStrM, mBits, mRng1, mRng2, mgTup, mgSeq, mgCons, mgNil, q_add1, q_add2, q_add3, q_add4, q_iadd1, q_iadd2, q_iadd3, q_sorted, q_sub, q_mul1, q_mul2, q_mod, q_div, q_pow, q_eq1, q_eq2, q_eq3, q_eq4, q_eq5, q_eq6, q_eq7, q_eq8, q_eq9, q_eq10, q_ne1, q_ne2, q_ne3, q_ne9, q_ne10, q_lt, q_le, q_gt, q_ge, q_inc1, q_ix1, q_ix2, q_sl1, q_sl2, q_set, q_len1, q_len2, q_int1, q_int2, q_max, q_min, q_abs, q_sum, q_list, q_isi1, q_is1, q_not1, q_isN1, q_isN2, q_isN3, q_isN4, q_join, q_count, q_split, q_app, q_pop, q_clear, q_isiE, q_repr, wipe, List.map_cons, List.map_nil, List.length_cons, List.length_nil, List.length_append, List.length_map, List.nil_append, List.cons_append, List.append_nil, cut_m3, cut_t3, cut_m1, cut_t1, cut_t2, S_eq, decide_eq_true_eq, Bool.not_eq_true', decide_eq_false_iff_not, ne_eq])
local macro_rules | `(tactic| walk_at "hh") => `(tactic| first | assumption | exact upd_same | exact Ex.new (by assumption) _ _ (by walk_at "hh") | exact Ex.at (by assumption) (by assumption) | solve_by_elim [Ex.at])
local macro_rules | `(tactic| walk_at "ee") => `(tactic| first | assumption | exact Ex.refl _ | exact Ex.push (by walk_at "ee") (by assumption) | exact Ex.trans (by assumption) (by assumption) | solve_by_elim [Ex.trans])
local macro_rules | `(tactic| walk_at "sz") => `(tactic| first | (rw [szl]; omega) | (simp only [szl, tx_len, sg_len, List.length_map, List.length_append, List.length_cons, List.length_nil, List.length_singleton, S_len]; omega))
theorem tx_str (L : List (List Nat)) : tx L = (L.map S).map V.str := by unfold tx; rw [List.map_map]; rfl
section
variable (K : PySem.W.Frag)
/-- the outer clause -/
theorem lp_out (D : Addr) (H0 H1 : Hp) (f : Addr) (ps : List Addr) (Ls : List (List (List Nat))) (lv : Lv H0 H1 f ps Ls) (nD : H1 D = none) (G : Hp → Prop) (hG : ∀ Hx, Ex H1 Hx → G Hx) (c l : Nat) (hc : c - 1 - l < Ls.length) (hl : l + 1 ≤ c) (hB : ∀ z ∈ Ls.getD (c - 1 - l) [], z.length ≤ 1000)
    (x0 x3 : Option V) (Q : Hp → Prop) : ∀ (A acc : List (List Nat)) (Hx : Hp), (∀ z ∈ A, z.length ≤ 1000) → acc.length + A.length * (Ls.getD (c - 1 - l) []).length ≤ 16777216 → Ex H1 Hx → Hx D = some (.lst (tx acc)) →
      (∀ Hy, Ex H1 Hy → Hy D = some (.lst (tx (acc ++ prodS A (Ls.getD (c - 1 - l) [])))) → Q Hy) →
    dV G (gName 5) tYes (mIter K (tOp (mIx K) (mVar 1) (tOp mSub (tOp mSub (mVar 2) (mC (.int 1))) (mVar 4)))) (gName 6) tYes (tOp mAdd (tOp mAdd (tOp mAdd (mC (.str (S [40]))) (mVar 5)) (mVar 6)) (mC (.str (S [41])))) [5, 6] [6]
      [x0, some (.ref f), some (.int (c : Int)), x3, some (.int (l : Int)), none, none, none] D Q (tx A) Hx
  | [], acc, Hx, hA, hs, e, h, k => ⟨hG Hx e, k Hx e (by simpa [prodS] using h)⟩
  | a :: A, acc, Hx, hA, hs, e, h, k => by
    have ih := lp_out D H0 H1 f ps Ls lv nD G hG c l hc hl hB x0 x3 Q A
    have ha := hA a List.mem_cons_self
    simp only [List.length_cons, Nat.add_mul, Nat.one_mul] at hs
    simp only [tx, List.map_cons, dV]
    refine ⟨hG Hx e, ?_⟩
    simp only [tYes]
    walk_at "go"
    obtain ⟨p, h1, h2⟩ := lv.get hc
    refine ⟨trivial, _, _, .inl (SqL.of (e _ _ lv.hf)), by rw [show ((c : Int) - 1 - (l : Int)) = ((c - 1 - l : Nat) : Int) by omega]; exact h1, ?_⟩
    walk_at "go"
    refine ⟨_, .inl ⟨SqL.of (e _ _ h2), ?_⟩⟩
    show inner _ _ _ _ _ _ _ _ _
    unfold inner
    refine lp_in _ D H1 nD (fun Hy ey => SqL.of (ey _ _ h2)) a ha _ _ _ _ _ _ _ (Ls.getD (c - 1 - l) []) acc Hx hB (by omega) e h fun Hy ey hy => ?_
    exact ih (acc ++ (Ls.getD (c - 1 - l) []).map fun b => ndS a b) Hy (fun z hz => hA z (List.mem_cons_of_mem _ hz)) (by rw [List.length_append, List.length_map]; omega) ey hy fun Hz ez hz => k Hz ez (by simpa [prodS] using hz)
/-- a copy -/
theorem lp_copy (G : Hp → Prop) (D : Addr) (H1 : Hp) (nD : H1 D = none) (hG : ∀ Hx, Ex H1 Hx → G Hx) (x0 x1 x2 x3 x4 x5 x6 : Option V) (N : Hp → Prop) :
    ∀ (B acc : List (List Nat)) (Hx : Hp), acc.length + B.length ≤ 16777216 → Ex H1 Hx → Hx D = some (.lst (tx acc)) → (∀ Hy, Ex H1 Hy → Hy D = some (.lst (tx (acc ++ B))) → N Hy) →
    cV G (gName 7) tYes (tCB (mStr) (tCons (mVar 7) tNil)) [7] [x0, x1, x2, x3, x4, x5, x6, none] D N (tx B) Hx
  | [], acc, Hx, hl, e, h, k => ⟨hG Hx e, k Hx e (by simpa using h)⟩
  | b :: B, acc, Hx, hl, e, h, k => by
    have ih := lp_copy G D H1 nD hG x0 x1 x2 x3 x4 x5 x6 N B
    simp only [List.length_cons] at hl
    simp only [tx, List.map_cons, cV]
    refine ⟨hG Hx e, ?_⟩
    simp only [tYes]
    walk_at "go"
    unfold mStr
    refine ⟨trivial, _, h, by walk_at "sz", ?_⟩
    refine ih (acc ++ [b]) _ (by rw [List.length_append, List.length_singleton]; omega) (e.mut nD) (by rw [upd_same, tx_app]; rfl) fun Hy ey hy => k Hy ey (by simpa using hy)
end
/-- rows for shapes: each a row of lev, in order -/
structure Rows (Ls : List (List (List Nat))) : Prop where
  pm : ∀ i, i < Ls.length → (Ls.getD i []).Perm (lev i)
  so : ∀ i, i < Ls.length → sortedS ((Ls.getD i []).map S) = true
theorem Rows.few {Ls : List (List (List Nat))} (h : ∀ i, i < Ls.length → (Ls.getD i []).Perm (lev i)) {i : Nat} (hi : i < Ls.length) (h8 : i ≤ 8) : (Ls.getD i []).length ≤ 1430 ∧ ∀ z ∈ Ls.getD i [], z.length ≤ 1000 := by
  refine ⟨by rw [(h i hi).length_eq]; exact lev_few h8, fun z hz => ?_⟩
  obtain ⟨t, rfl, ht⟩ := lev_tree i i (Nat.le_refl _) z ((h i hi).mem_iff.mp hz)
  rw [t.s_len]; omega
theorem mkL_app (F : List (List (List Nat))) (c : Nat) (done : List Nat) (l : Nat) : (done ++ [l]).flatMap (fun l => prodS (F.getD l []) (F.getD (c - 1 - l) [])) = done.flatMap (fun l => prodS (F.getD l []) (F.getD (c - 1 - l) [])) ++ prodS (F.getD l []) (F.getD (c - 1 - l) []) := by
  rw [List.flatMap_append]; simp
/-- the row of all trees of a size that the lesser rows give -/
theorem lp_left (K : PySem.W.Frag) (aN : Addr) (E : XK) (H0 H1 : Hp) (f m : Addr) (ps : List Addr) (Ls : List (List (List Nat))) (lv : Lv H0 H1 f ps Ls) (nm : H1 m = none) (c : Nat) (hc : c ≤ Ls.length) (h8 : c ≤ 8) (few : ∀ i, i < Ls.length → (Ls.getD i []).length ≤ 1430 ∧ ∀ z ∈ Ls.getD i [], z.length ≤ 1000) (x0 : Option V) (D : Ends)
    (k : ∀ (w4 : Option V) Hy, Ex H1 Hy → Hy m = some (.lst (tx (mkL Ls c))) → (mkL Ls c).length ≤ 16777216 → D.nx [x0, some (.ref f), some (.int (c : Int)), some (.ref m), w4, none, none, none] Hy) :
    ∀ (s done : List Nat) (x4 : Option V) (Hx : Hp), done ++ s = List.range c → Ex H1 Hx → Hx m = some (.lst (tx (done.flatMap fun l => prodS (Ls.getD l []) (Ls.getD (c - 1 - l) [])))) → (done.flatMap fun l => prodS (Ls.getD l []) (Ls.getD (c - 1 - l) [])).length ≤ done.length * 2044900 →
      fV (fun _ => True) (gName 4) (rd_shapes_b1 K (sp_check_whole K aN) E) D (s.map fun (i : Nat) => V.int (0 + (i : Int))) [x0, some (.ref f), some (.int (c : Int)), some (.ref m), x4, none, none, none] Hx
  | [], done, x4, Hx, hd, e, h, hlen => by
    rw [List.append_nil] at hd
    subst hd
    have h' := h
    refine ⟨trivial, k _ Hx e h ?_⟩
    rw [List.length_range] at hlen
    have : c * 2044900 ≤ 8 * 2044900 := Nat.mul_le_mul_right _ h8
    show ((List.range c).flatMap _).length ≤ _
    omega
  | l :: s, done, x4, Hx, hd, e, h, hlen => by
    have ih := lp_left K aN E H0 H1 f m ps Ls lv nm c hc h8 few x0 D k s
    have hl : l < c := List.mem_range.mp (by rw [← hd]; simp)
    have hdl : done.length < c := by
      have := congrArg List.length hd
      simp only [List.length_append, List.length_cons, List.length_range] at this
      omega
    obtain ⟨f1, f2⟩ := few l (by omega)
    obtain ⟨f3, f4⟩ := few (c - 1 - l) (by omega)
    have fp : (Ls.getD l []).length * (Ls.getD (c - 1 - l) []).length ≤ 2044900 := Nat.mul_le_mul f1 f3
    have hd8 : done.length * 2044900 ≤ 7 * 2044900 := Nat.mul_le_mul_right _ (by omega)
    simp only [List.map_cons, fV]
    refine ⟨trivial, ?_⟩
    rw [Int.zero_add]
    walk_at "go"
    show mAug 3 (mLc2 _ _ _ _ _ _ _ _ _) _ _ _ _
    unfold mAug mLc2
    walk_at "go"
    obtain ⟨p, h1, h2⟩ := lv.get (i := l) (by omega)
    refine ⟨_, _, .inl (SqL.of (e _ _ lv.hf)), h1, ?_⟩
    walk_at "go"
    refine ⟨_, .inl ⟨SqL.of (e _ _ h2), fun C hC => ?_⟩⟩
    refine lp_out K C H0 Hx f ps Ls (lv.exx e) hC _ (fun Hy ey => SqL.of (ey _ _ (e _ _ h2))) c l (by omega) (by omega) f4 _ _ _ (Ls.getD l []) [] _ f2 (by simp only [List.length_nil]; omega) (Ex.new hC) upd_same fun Hy ey hy => ?_
    rw [List.nil_append] at hy
    refine ⟨_, _, ey _ _ h, hy, by rw [szl, tx_len, tx_len, prodS_len]; omega, ?_⟩
    rw [← tx_app, ← mkL_app]
    refine ih (done ++ [l]) _ _ (by simpa using hd) ((e.trans ey).mut nm) upd_same ?_
    rw [mkL_app, List.length_append, prodS_len, List.length_append, List.length_singleton, Nat.add_mul]
    omega
end Pf

namespace Pf
open PySem PySem.Spec PyProof.Rows L2 M
local macro_rules | `(tactic| walk_at "go") => `(tactic| try simp only [tSeq, tIfS, tIf, tNot, mTest, tCB, tCons, tNil, mVar, M.gt, mC, Bool.not_true, Bool.not_false, Bool.false_eq_true, if_false, if_true, tNext, tAsg, gName, gSub, List.set_cons_zero, List.set_cons_succ, mFor, mIter, S_cps, S_len, S_app, tOp, tSl, mPart, mUn, tNoPart, tRet, tRetN, tTup, tLst, tAnd, tOr, mAndV, mOrV, mNotV, tCall, tCallSD, tDrop, mPar, mPar3, mLstM, mStrM, mBits, mRng1, mRng2, mgTup, mgSeq, mgCons, mgNil, q_add1, q_add2, q_add3, q_add4, q_iadd1, q_iadd2, q_iadd3, q_sorted, q_sub, q_mul1, q_mul2, q_mod, q_div, q_pow, q_eq1, q_eq2, q_eq3, q_eq4, q_eq5, q_eq6, q_eq7, q_eq8, q_eq9, q_eq10, q_ne1, q_ne2, q_ne3, q_ne9, q_ne10, q_lt, q_le, q_gt, q_ge, q_inc1, q_ix1, q_ix2, q_sl1, q_sl2, q_set, q_len1, q_len2, q_int1, q_int2, q_max, q_min, q_abs, q_sum, q_list, q_isi1, q_is1, q_not1, q_isN1, q_isN2, q_isN3, q_isN4, q_join, q_count, q_split, q_app, q_pop, q_clear, q_isiE, q_repr, wipe, List.map_cons, List.map_nil, List.length_cons, List.length_nil, List.length_append, List.length_map, List.nil_append, List.cons_append, List.append_nil, cut_m3, cut_t3, cut_m1, cut_t1, cut_t2, S_eq, decide_eq_true_eq, Bool.not_eq_true', decide_eq_false_iff_not, ne_eq])
local macro_rules | `(tactic| walk_at "hh") => `(tactic| first | assumption | exact upd_same | exact Ex.new (by assumption) _ _ (by walk_at "hh") | exact Ex.at (by assumption) (by assumption) | solve_by_elim [Ex.at])
local macro_rules | `(tactic| walk_at "ee") => `(tactic| first | assumption | exact Ex.refl _ | exact Ex.push (by walk_at "ee") (by assumption) | exact Ex.trans (by assumption) (by assumption) | solve_by_elim [Ex.trans])
local macro_rules | `(tactic| walk_at "sz") => `(tactic| first | (rw [szl]; omega) | (simp only [szl, tx_len, sg_len, List.length_map, List.length_append, List.length_cons, List.length_nil, List.length_singleton, S_len]; omega))
def sp_shapes (K : PySem.W.Frag) (aN : Addr) : Sp := fun vs H Q E => ∃ v, vs = [v] ∧ ((∃ n : Nat, v = .int n ∧ n ≤ 8 ∧ ∀ H' p (L : List (List Nat)), Ex H H' → H p = none → H' p = some (.lst (tx L)) → L.Perm (lev n) → sortedS (L.map S) = true → Q (.ref p) H') ∨ (BadN K H v 0 (.int 8) ∧ Fail E H aN v))
theorem mkL_rows {Ls : List (List (List Nat))} (h1 : 1 ≤ Ls.length) (h : ∀ i, i < Ls.length → (Ls.getD i []).Perm (lev i)) : (mkL Ls (Ls.length)).Perm (lev Ls.length) := by
  obtain ⟨n, e⟩ : ∃ n, Ls.length = n + 1 := ⟨Ls.length - 1, by omega⟩
  rw [e, lev_succ]
  refine mkL_perm fun i hi => ?_
  rw [levs_get n i (by omega)]
  exact h i (by omega)
theorem lp_count (K : PySem.W.Frag) (aN : Addr) (E : XK) (H0 : Hp) (f : Addr) (x0 : Option V) (D : Ends) (n : Nat) (hn : n ≤ 8)
    (k : ∀ (ps : List Addr) (Ls : List (List (List Nat))) (w2 w3 w4 : Option V) Hy, Lv H0 Hy f ps Ls → Rows Ls → Ls.length = n + 1 → D.nx [x0, some (.ref f), w2, w3, w4, none, none, none] Hy) :
    ∀ (s : List Nat) (ps : List Addr) (Ls : List (List (List Nat))) (x2 x3 x4 : Option V) (Hx : Hp), Lv H0 Hx f ps Ls → Rows Ls → 1 ≤ Ls.length → Ls.length + s.length = n + 1 → s = List.range' (Ls.length - 1) s.length →
      fV (fun _ => True) (gName 2) (rd_shapes_b2 K (sp_check_whole K aN) E) D (s.map fun (i : Nat) => V.int (1 + (i : Int))) [x0, some (.ref f), x2, x3, x4, none, none, none] Hx
  | [], ps, Ls, x2, x3, x4, Hx, lv, rw_, h1, hl, hs => ⟨trivial, k ps Ls _ _ _ Hx lv rw_ (by simpa using hl)⟩
  | c :: s, ps, Ls, x2, x3, x4, Hx, lv, rw_, h1, hl, hs => by
    have ih := lp_count K aN E H0 f x0 D n hn k s
    simp only [List.length_cons, List.range'_succ, List.cons.injEq] at hs hl
    obtain ⟨hc, hs⟩ := hs
    subst hc
    simp only [List.map_cons, fV]
    refine ⟨trivial, ?_⟩
    rw [show (1 + ((Ls.length - 1 : Nat) : Int)) = ((Ls.length : Nat) : Int) by omega]
    walk_at "go"
    refine ⟨by walk_at "sz", fun m hm => ?_⟩
    walk_at "go"
    refine ⟨⟨by omega, by omega⟩, ?_⟩
    have few : ∀ i, i < Ls.length → (Ls.getD i []).length ≤ 1430 ∧ ∀ z ∈ Ls.getD i [], z.length ≤ 1000 := fun i hi => Rows.few rw_.pm hi (by omega)
    rw [show upto 0 ((Ls.length : Int)).toNat = (List.range Ls.length).map fun (i : Nat) => V.int (0 + (i : Int)) by simp [upto]]
    refine lp_left K aN E H0 Hx f m ps Ls lv hm Ls.length (Nat.le_refl _) (by omega) few _ _ (fun w4 Hy ey hy hsz => ?_) (List.range Ls.length) [] _ _ rfl (Ex.new hm) (by simpa [tx] using upd_same) (by simp)
    walk_at "go"
    have lvy := lv.exx ey
    refine ⟨⟨_, lvy.hf⟩, ?_⟩
    unfold mLc
    walk_at "go"
    refine ⟨_, .inl ⟨SqL.of hy, fun C hC => ?_⟩⟩
    refine lp_copy _ C Hy hC (fun Hz ez => SqL.of (ez _ _ hy)) _ _ _ _ _ _ _ _ (mkL Ls Ls.length) [] _ (by simpa using hsz) (Ex.new hC) upd_same fun Hz ez hz => ?_
    rw [List.nil_append] at hz
    refine ⟨(mkL Ls Ls.length).map S, SqL.of (by rw [← tx_str]; exact hz), fun ys q hp hso hq => ?_⟩
    obtain ⟨M, rfl, hM⟩ := row_of hp
    have lvz := lvy.exx (ez.push (o := .lst ((M.map S).map V.str)) hq)
    have nq : H0 q = none := lv.ex.free (ey.free (ez.free hq))
    have qf : q ≠ f := fun z => by rw [z, ez _ _ lvy.hf] at hq; cases hq
    refine ⟨_, lvz.hf, by rw [szl, List.length_map, lv.ln]; omega, ?_⟩
    have lv2 := lvz.add (M := M) nq qf (by rw [tx_str]; exact upd_same)
    refine ih (ps ++ [q]) (Ls ++ [M]) _ _ _ _ lv2 ⟨fun i hi => ?_, fun i hi => ?_⟩ (by simp) (by simp; omega) ?_
    · rw [List.length_append, List.length_singleton] at hi
      by_cases c : i < Ls.length
      · rw [List.getD_eq_getElem?_getD, List.getElem?_append_left c, ← List.getD_eq_getElem?_getD]; exact rw_.pm i c
      · obtain rfl : i = Ls.length := by omega
        rw [List.getD_eq_getElem?_getD, List.getElem?_append_right (Nat.le_refl _)]
        simp only [Nat.sub_self, List.getElem?_cons_zero, Option.getD_some]
        exact hM.trans (mkL_rows h1 rw_.pm)
    · rw [List.length_append, List.length_singleton] at hi
      by_cases c : i < Ls.length
      · rw [List.getD_eq_getElem?_getD, List.getElem?_append_left c, ← List.getD_eq_getElem?_getD]; exact rw_.so i c
      · obtain rfl : i = Ls.length := by omega
        rw [List.getD_eq_getElem?_getD, List.getElem?_append_right (Nat.le_refl _)]
        simp only [Nat.sub_self, List.getElem?_cons_zero, Option.getD_some]
        exact hso
    · rw [List.length_append, List.length_singleton]
      rw [hs]
      simp
      congr 1
      omega
theorem pu_shapes (K : PySem.W.Frag) (aN : Addr) (vs : List V) (H : Hp) (Q : VK) (E : XK) (h : sp_shapes K aN vs H Q E) : rd_shapes K (sp_check_whole K aN) E { nx := fun _ H' => Q .non H', rt := Q } (L2.start N_shapes vs) H := by
  obtain ⟨v, rfl, ⟨n, rfl, hn, k⟩ | ⟨bad, f⟩⟩ := h
  · show rd_shapes K _ _ _ [some _, none, none, none, none, none, none, none] H
    unfold rd_shapes
    walk_at "go"
    refine ⟨.int (n : Int), .int 8, 0, rfl, .inr ⟨8, rfl⟩, .inl ⟨(n : Int), rfl, Int.natCast_nonneg n, fun hi h => ?_, ?_⟩⟩
    · have : (8 : Int) = hi := V.int.inj h
      omega
    walk_at "go"
    refine ⟨by walk_at "sz", fun p hp => ?_⟩
    walk_at "go"
    refine ⟨by walk_at "sz", fun f hf => ?_⟩
    walk_at "go"
    refine ⟨⟨by omega, by omega⟩, ?_⟩
    have e1 := Ex.new (o := .lst [.str (S [46])]) hp
    have nf : H f = none := e1.free hf
    have pf : p ≠ f := by exact (ne_new (by walk_at "hh") hf).symm
    have hp2 : upd (upd H p (.lst [.str (S [46])])) f (.lst [.ref p]) p = some (.lst [.str (S [46])]) := by walk_at "hh"
    have lv : Lv H (upd (upd H p (.lst [.str (S [46])])) f (.lst [.ref p])) f [p] [[[46]]] := by
      refine ⟨e1.push hf, nf, upd_same, fun q hq => ?_, rfl, fun i q h => ?_⟩
      · rw [List.mem_singleton.mp hq]
        exact ⟨hp, pf⟩
      · rcases i with _ | i
        · cases h
          exact hp2
        · cases h
    rw [show upto 1 ((n : Int) + 1 - 1).toNat = (List.range n).map fun (i : Nat) => V.int (1 + (i : Int)) by unfold upto; congr 2; omega]
    refine lp_count K aN E H f _ _ n hn (fun ps Ls w2 w3 w4 Hy ly ry hl => ?_) (List.range n) [p] [[[46]]] _ _ _ _ lv ⟨fun i hi => ?_, fun i hi => ?_⟩ (by simp) (by simp; omega) (by rw [List.length_range]; exact List.range_eq_range')
    · walk_at "go"
      obtain ⟨q, h1, h2⟩ := ly.get (i := n) (by omega)
      refine ⟨_, _, .inl (SqL.of ly.hf), h1, ?_⟩
      have qm : q ∈ ps := by
        rw [aI_nat, List.getElem?_map] at h1
        cases e : ps[n]? with
        | none => rw [e] at h1; cases h1
        | some z => rw [e] at h1; cases h1; exact List.mem_of_getElem? e
      exact k Hy q _ ly.ex (ly.np q qm).1 h2 (ry.pm n (by omega)) (ry.so n (by omega))
    · obtain rfl : i = 0 := by simp at hi; omega
      exact .refl _
    · obtain rfl : i = 0 := by simp at hi; omega
      rfl
  · show rd_shapes K _ _ _ [some _, none, none, none, none, none, none, none] H
    unfold rd_shapes
    walk_at "go"
    exact ⟨_, _, _, rfl, .inr ⟨8, rfl⟩, .inr ⟨bad, f⟩⟩
end Pf

namespace Pf
open PySem PySem.Spec PyProof.Rows L2 M
local macro_rules | `(tactic| walk_at "go") => `(tactic| try simp only [tSeq, tIfS, tIf, tNot, mTest, tCB, tCons, tNil, mVar, M.gt, mC, Bool.not_true, Bool.not_false, Bool.false_eq_true, if_false, if_true, tNext, tAsg, gName, gSub, List.set_cons_zero, List.set_cons_succ, mFor, mIter, S_cps, S_len, S_app, tOp, tSl, mPart, mUn, tNoPart, tRet, tRetN, tTup, tLst, tAnd, tOr, mAndV, mOrV, mNotV, tCall, tCallSD, tDrop, mPar, mPar3, mLstM, mStrM, mBits, mRng1, mRng2, mgTup, mgSeq, mgCons, mgNil, q_add1, q_add2, q_add3, q_add4, q_iadd1, q_iadd2, q_iadd3, q_sorted, q_sub, q_mul1, q_mul2, q_mod, q_div, q_pow, q_eq1, q_eq2, q_eq3, q_eq4, q_eq5, q_eq6, q_eq7, q_eq8, q_eq9, q_eq10, q_ne1, q_ne2, q_ne3, q_ne9, q_ne10, q_lt, q_le, q_gt, q_ge, q_inc1, q_ix1, q_ix2, q_sl1, q_sl2, q_set, q_len1, q_len2, q_int1, q_int2, q_max, q_min, q_abs, q_sum, q_list, q_isi1, q_is1, q_not1, q_isN1, q_isN2, q_isN3, q_isN4, q_join, q_count, q_split, q_app, q_pop, q_clear, q_isiE, q_repr, wipe, List.map_cons, List.map_nil, List.length_cons, List.length_nil, List.length_append, List.length_map, List.nil_append, List.cons_append, List.append_nil, cut_m3, cut_t3, cut_m1, cut_t1, cut_t2, S_eq, decide_eq_true_eq, Bool.not_eq_true', decide_eq_false_iff_not, ne_eq])
local macro_rules | `(tactic| walk_at "hh") => `(tactic| first | assumption | exact upd_same | exact Ex.new (by assumption) _ _ (by walk_at "hh") | exact Ex.at (by assumption) (by assumption) | solve_by_elim [Ex.at])
local macro_rules | `(tactic| walk_at "ee") => `(tactic| first | assumption | exact Ex.refl _ | exact Ex.push (by walk_at "ee") (by assumption) | exact Ex.trans (by assumption) (by assumption) | solve_by_elim [Ex.trans])
local macro_rules | `(tactic| walk_at "sz") => `(tactic| first | (rw [szl]; omega) | (simp only [szl, tx_len, sg_len, List.length_map, List.length_append, List.length_cons, List.length_nil, List.length_singleton, S_len]; omega))
section
variable (K : PySem.W.Frag)
theorem al_one (D : Ends) (Hb H0 H1 : Hp) (eb : Ex Hb H1) (f : Addr) (ps : List Addr) (Ls : List (List (List Nat))) (lv : Lv H0 H1 f ps Ls) (G : Hp → Prop) (hG : ∀ Hx, Ex H1 Hx → G Hx) (c l : Nat) (hc : c - 1 - l < Ls.length) (hl : l + 1 ≤ c) (hB : ∀ z ∈ Ls.getD (c - 1 - l) [], z.length ≤ 1000) (hB2 : (Ls.getD (c - 1 - l) []).length ≤ 1430)
    (x0 x7 : Option V) : ∀ (A acc : List (List Nat)) (m : Addr) (x5 x6 : Option V) (Hx : Hp), (∀ z ∈ A, z.length ≤ 1000) → acc.length + A.length * (Ls.getD (c - 1 - l) []).length ≤ 16777216 → Ex H1 Hx → Hx m = some (.lst (tx acc)) → Hb m = none → x6 = none →
      (∀ (m' : Addr) (w5 : Option V) Hy, Hb m' = none → Ex H1 Hy → Hy m' = some (.lst (tx (acc ++ prodS A (Ls.getD (c - 1 - l) [])))) → D.nx [x0, some (.ref f), some (.int (c : Int)), some (.ref m'), some (.int (l : Int)), w5, none, none] Hy) → x7 = none →
    fV G (gName 5) (rd__law_all_b1 K) D (tx A) [x0, some (.ref f), some (.int (c : Int)), some (.ref m), some (.int (l : Int)), x5, x6, x7] Hx
  | [], acc, m, x5, x6, Hx, hA, hs, e, h, nm, h6, k, h7 => by
    subst h6 h7
    exact ⟨hG Hx e, k m x5 Hx nm e (by simpa [prodS] using h)⟩
  | a :: A, acc, m, x5, x6, Hx, hA, hs, e, h, nm, h6, k, h7 => by
    have ih := al_one D Hb H0 H1 eb f ps Ls lv G hG c l hc hl hB hB2 x0 x7 A
    subst h6 h7
    have ha := hA a List.mem_cons_self
    simp only [List.length_cons, Nat.add_mul, Nat.one_mul] at hs
    simp only [tx, List.map_cons, fV]
    refine ⟨hG Hx e, ?_⟩
    walk_at "go"
    unfold mLc
    walk_at "go"
    obtain ⟨p, h1, h2⟩ := lv.get hc
    refine ⟨_, _, .inl (SqL.of (e _ _ lv.hf)), by rw [show ((c : Int) - 1 - (l : Int)) = ((c - 1 - l : Nat) : Int) by omega]; exact h1, ?_⟩
    walk_at "go"
    refine ⟨_, .inl ⟨SqL.of (e _ _ h2), fun C hC => ?_⟩⟩
    refine lp_in _ C Hx hC (fun Hy ey => SqL.of (ey _ _ (e _ _ h2))) a ha _ _ _ _ _ _ _ (Ls.getD (c - 1 - l) []) [] _ hB (by simp only [List.length_nil]; omega) (Ex.new hC) upd_same fun Hy ey hy => ?_
    rw [List.nil_append] at hy
    refine ⟨_, _, ey _ _ h, hy, by rw [szl, tx_len, tx_len, List.length_map]; omega, fun q hq => ?_⟩
    rw [← tx_app]
    refine ih (acc ++ (Ls.getD (c - 1 - l) []).map fun b => ndS a b) q _ _ _ (fun z hz => hA z (List.mem_cons_of_mem _ hz)) (by rw [List.length_append, List.length_map]; omega) ((e.trans ey).push hq) upd_same ((eb.trans (e.trans ey)).free hq) rfl (fun m' w5 Hz nz ez hz => k m' w5 Hz nz ez (by simpa [prodS] using hz)) rfl
theorem al_left (H0 H1 : Hp) (f : Addr) (ps : List Addr) (Ls : List (List (List Nat))) (lv : Lv H0 H1 f ps Ls) (c : Nat) (hc : c ≤ Ls.length) (h8 : c ≤ 8) (few : ∀ i, i < Ls.length → (Ls.getD i []).length ≤ 1430 ∧ ∀ z ∈ Ls.getD i [], z.length ≤ 1000) (x0 : Option V) (D : Ends)
    (k : ∀ (m : Addr) (w4 w5 : Option V) Hy, H1 m = none → Ex H1 Hy → Hy m = some (.lst (tx (mkL Ls c))) → (mkL Ls c).length ≤ 16777216 → D.nx [x0, some (.ref f), some (.int (c : Int)), some (.ref m), w4, w5, none, none] Hy) :
    ∀ (s done : List Nat) (m : Addr) (x4 x5 : Option V) (Hx : Hp), done ++ s = List.range c → Ex H1 Hx → H1 m = none → Hx m = some (.lst (tx (done.flatMap fun l => prodS (Ls.getD l []) (Ls.getD (c - 1 - l) [])))) → (done.flatMap fun l => prodS (Ls.getD l []) (Ls.getD (c - 1 - l) [])).length ≤ done.length * 2044900 →
      fV (fun _ => True) (gName 4) (rd__law_all_b2 K) D (s.map fun (i : Nat) => V.int (0 + (i : Int))) [x0, some (.ref f), some (.int (c : Int)), some (.ref m), x4, x5, none, none] Hx
  | [], done, m, x4, x5, Hx, hd, e, nm, h, hlen => by
    rw [List.append_nil] at hd
    subst hd
    have h' := h
    refine ⟨trivial, k _ _ _ Hx nm e h ?_⟩
    rw [List.length_range] at hlen
    have : c * 2044900 ≤ 8 * 2044900 := Nat.mul_le_mul_right _ h8
    show ((List.range c).flatMap _).length ≤ _
    omega
  | l :: s, done, m, x4, x5, Hx, hd, e, nm, h, hlen => by
    have ih := al_left H0 H1 f ps Ls lv c hc h8 few x0 D k s
    have hl : l < c := List.mem_range.mp (by rw [← hd]; simp)
    have hdl : done.length < c := by
      have := congrArg List.length hd
      simp only [List.length_append, List.length_cons, List.length_range] at this
      omega
    obtain ⟨f1, f2⟩ := few l (by omega)
    obtain ⟨f3, f4⟩ := few (c - 1 - l) (by omega)
    have fp : (Ls.getD l []).length * (Ls.getD (c - 1 - l) []).length ≤ 2044900 := Nat.mul_le_mul f1 f3
    have hd8 : done.length * 2044900 ≤ 7 * 2044900 := Nat.mul_le_mul_right _ (by omega)
    simp only [List.map_cons, fV]
    refine ⟨trivial, ?_⟩
    rw [Int.zero_add]
    walk_at "go"
    obtain ⟨p, h1, h2⟩ := lv.get (i := l) (by omega)
    refine ⟨_, _, .inl (SqL.of (e _ _ lv.hf)), h1, ?_⟩
    walk_at "go"
    refine ⟨_, .inl ⟨SqL.of (e _ _ h2), ?_⟩⟩
    refine al_one K _ H1 H0 Hx e f ps Ls (lv.exx e) _ (fun Hy ey => SqL.of (ey _ _ (e _ _ h2))) c l (by omega) (by omega) f4 f3 _ _ (Ls.getD l []) _ m _ _ Hx f2 (by omega) (Ex.refl _) h nm rfl (fun m' w5 Hy nm' ey hy => ?_) rfl
    rw [← mkL_app] at hy
    refine ih (done ++ [l]) m' _ _ _ (by simpa using hd) (e.trans ey) nm' hy ?_
    rw [mkL_app, List.length_append, prodS_len, List.length_append, List.length_singleton, Nat.add_mul]
    omega
theorem al_count (H0 : Hp) (f : Addr) (x0 : Option V) (D : Ends) (n : Nat) (hn : n ≤ 8)
    (k : ∀ (ps : List Addr) (w2 w3 w4 w5 : Option V) Hy, Lv H0 Hy f ps (levs n) → D.nx [x0, some (.ref f), w2, w3, w4, w5, none, none] Hy) :
    ∀ (s : List Nat) (j : Nat) (ps : List Addr) (x2 x3 x4 x5 : Option V) (Hx : Hp), Lv H0 Hx f ps (levs j) → j + s.length = n → s = List.range' j s.length →
      fV (fun _ => True) (gName 2) (rd__law_all_b3 K) D (s.map fun (i : Nat) => V.int (1 + (i : Int))) [x0, some (.ref f), x2, x3, x4, x5, none, none] Hx
  | [], j, ps, x2, x3, x4, x5, Hx, lv, hl, hs => by
    obtain rfl : j = n := by simpa using hl
    exact ⟨trivial, k ps _ _ _ _ Hx lv⟩
  | c :: s, j, ps, x2, x3, x4, x5, Hx, lv, hl, hs => by
    have ih := al_count H0 f x0 D n hn k s
    simp only [List.length_cons, List.range'_succ, List.cons.injEq] at hs hl
    obtain ⟨hc, hs⟩ := hs
    subst hc
    simp only [List.map_cons, fV]
    refine ⟨trivial, ?_⟩
    rw [show (1 + (c : Int)) = ((c + 1 : Nat) : Int) by omega]
    walk_at "go"
    refine ⟨by walk_at "sz", fun m hm => ?_⟩
    walk_at "go"
    refine ⟨⟨by omega, by omega⟩, ?_⟩
    have ll := levs_len c
    have few : ∀ i, i < (levs c).length → ((levs c).getD i []).length ≤ 1430 ∧ ∀ z ∈ (levs c).getD i [], z.length ≤ 1000 := fun i hi => Rows.few (fun i hi => by rw [levs_get c i (by omega)]) hi (by omega)
    rw [show upto 0 (((c + 1 : Nat) : Int)).toNat = (List.range (c + 1)).map fun (i : Nat) => V.int (0 + (i : Int)) by simp [upto]]
    refine al_left K H0 Hx f ps (levs c) lv (c + 1) (by omega) (by omega) few _ _ (fun m' w4 w5 Hy nm' ey hy hsz => ?_) (List.range (c + 1)) [] m _ _ _ rfl (Ex.new hm) hm (by simpa [tx] using upd_same) (by simp)
    walk_at "go"
    have lvy := lv.exx ey
    refine ⟨⟨_, lvy.hf⟩, _, lvy.hf, by rw [szl, List.length_map, lv.ln]; omega, ?_⟩
    have mf : m' ≠ f := fun z => by rw [z, lv.hf] at nm'; cases nm'
    exact ih (c + 1) _ _ _ _ _ _ (lvy.add (lv.ex.free nm') mf hy) (by omega) hs
def sp__law_all : Sp := fun vs H Q E => ∃ n : Nat, vs = [.int n] ∧ n ≤ 8 ∧ ∀ H' p (L : List (List Nat)), Ex H H' → H p = none → H' p = some (.lst (tx L)) → L.Perm (lev n) → sortedS (L.map S) = true → Q (.ref p) H'
theorem pu__law_all (vs : List V) (H : Hp) (Q : VK) (E : XK) (h : sp__law_all vs H Q E) : rd__law_all K { nx := fun _ H' => Q .non H', rt := Q } (L2.start N__law_all vs) H := by
  obtain ⟨n, rfl, hn, k⟩ := h
  show rd__law_all K _ [some _, none, none, none, none, none, none, none] H
  unfold rd__law_all
  walk_at "go"
  refine ⟨by walk_at "sz", fun p hp => ?_⟩
  walk_at "go"
  refine ⟨by walk_at "sz", fun f hf => ?_⟩
  walk_at "go"
  refine ⟨⟨by omega, by omega⟩, ?_⟩
  have e1 := Ex.new (o := .lst [.str (S [46])]) hp
  have nf : H f = none := e1.free hf
  have pf : p ≠ f := by exact (ne_new (by walk_at "hh") hf).symm
  have hp2 : upd (upd H p (.lst [.str (S [46])])) f (.lst [.ref p]) p = some (.lst [.str (S [46])]) := by walk_at "hh"
  have lv : Lv H (upd (upd H p (.lst [.str (S [46])])) f (.lst [.ref p])) f [p] (levs 0) := by
    refine ⟨e1.push hf, nf, upd_same, fun q hq => ?_, rfl, fun i q h => ?_⟩
    · rw [List.mem_singleton.mp hq]
      exact ⟨hp, pf⟩
    · rcases i with _ | i
      · cases h
        exact hp2
      · cases h
  rw [show upto 1 ((n : Int) + 1 - 1).toNat = (List.range n).map fun (i : Nat) => V.int (1 + (i : Int)) by unfold upto; congr 2; omega]
  refine al_count K H f _ _ n hn (fun ps w2 w3 w4 w5 Hy ly => ?_) (List.range n) 0 [p] _ _ _ _ _ lv (by simp) (by rw [List.length_range]; exact List.range_eq_range')
  walk_at "go"
  unfold mLc
  walk_at "go"
  have ll := levs_len n
  obtain ⟨q, h1, h2⟩ := ly.get (i := n) (by omega)
  refine ⟨_, _, .inl (SqL.of ly.hf), h1, ?_⟩
  walk_at "go"
  refine ⟨_, .inl ⟨SqL.of h2, fun C hC => ?_⟩⟩
  have hlen := lev_few hn
  refine lp_copy _ C Hy hC (fun Hz ez => SqL.of (ez _ _ h2)) _ _ _ _ _ _ _ _ (lev n) [] _ (by simp only [List.length_nil]; omega) (Ex.new hC) upd_same fun Hz ez hz => ?_
  rw [List.nil_append] at hz
  refine ⟨(lev n).map S, SqL.of (by rw [← tx_str]; exact hz), fun ys q hp hso hq => ?_⟩
  obtain ⟨M, rfl, hM⟩ := row_of hp
  exact k _ q M ((ly.ex.trans ez).push hq) ((ly.ex.trans ez).free hq) (by rw [tx_str]; exact upd_same) hM hso
end
end Pf

namespace Pf
open PySem PySem.Spec PyProof.Rows L2 M
local macro_rules | `(tactic| walk_at "go") => `(tactic| try simp only [tSeq, tIfS, tIf, tNot, mTest, tCB, tCons, tNil, mVar, M.gt, mC, Bool.not_true, Bool.not_false, Bool.false_eq_true, if_false, if_true, tNext, tAsg, gName, gSub, List.set_cons_zero, List.set_cons_succ, mFor, mIter, S_cps, S_len, S_app, tOp, tSl, mPart, mUn, tNoPart, tRet, tRetN, tTup, tLst, tAnd, tOr, mAndV, mOrV, mNotV, tCall, tCallSD, tDrop, mPar, mPar3, mLstM, mStrM, mBits, mRng1, mRng2, mgTup, mgSeq, mgCons, mgNil, q_add1, q_add2, q_add3, q_add4, q_iadd1, q_iadd2, q_iadd3, q_sorted, q_sub, q_mul1, q_mul2, q_mod, q_div, q_pow, q_eq1, q_eq2, q_eq3, q_eq4, q_eq5, q_eq6, q_eq7, q_eq8, q_eq9, q_eq10, q_ne1, q_ne2, q_ne3, q_ne9, q_ne10, q_lt, q_le, q_gt, q_ge, q_inc1, q_ix1, q_ix2, q_sl1, q_sl2, q_set, q_len1, q_len2, q_int1, q_int2, q_max, q_min, q_abs, q_sum, q_list, q_isi1, q_is1, q_not1, q_isN1, q_isN2, q_isN3, q_isN4, q_join, q_count, q_split, q_app, q_pop, q_clear, q_isiE, q_repr, wipe, List.map_cons, List.map_nil, List.length_cons, List.length_nil, List.length_append, List.length_map, List.nil_append, List.cons_append, List.append_nil, cut_m3, cut_t3, cut_m1, cut_t1, cut_t2, S_eq, decide_eq_true_eq, Bool.not_eq_true', decide_eq_false_iff_not, ne_eq])
local macro_rules | `(tactic| walk_at "hh") => `(tactic| first | assumption | exact upd_same | exact Ex.new (by assumption) _ _ (by walk_at "hh") | exact Ex.at (by assumption) (by assumption) | solve_by_elim [Ex.at])
local macro_rules | `(tactic| walk_at "ee") => `(tactic| first | assumption | exact Ex.refl _ | exact Ex.push (by walk_at "ee") (by assumption) | exact Ex.trans (by assumption) (by assumption) | solve_by_elim [Ex.trans])
local macro_rules | `(tactic| walk_at "sz") => `(tactic| first | (rw [szl]; omega) | (simp only [szl, tx_len, sg_len, List.length_map, List.length_append, List.length_cons, List.length_nil, List.length_singleton, S_len]; omega))
def sp_law (K : PySem.W.Frag) : Sp := fun vs H Q _ => ∃ (a : Addr) (ns : List Int), vs = [.ref a] ∧ SqL K H a (ns.map V.int) ∧ ∀ H', Q (.bl true) H'
theorem BadN.ex {K : PySem.W.Frag} {H H' : Hp} (e : Ex H H') {v m : V} {lo : Int} (h : BadN K H v lo m) : BadN K H' v lo m := h.imp (Nw.ex e) id
theorem lev_okc {n : Nat} {L : List (List Nat)} (h : L.Perm (lev n)) : ∀ z ∈ L, okc z := fun z hz => by
  obtain ⟨t, rfl, _⟩ := lev_tree n n (Nat.le_refl _) z (h.mem_iff.mp hz)
  exact t.s_okc
section
variable (K : PySem.W.Frag) (aT aN : Addr) (N : Nat)


theorem lw_1 (hN : 9 ≤ N) (D : Ends) (H : Hp) (a : Addr) (ns : List Int) (hL : SqL K H a (ns.map V.int)) (i : Nat) (hi : i ≤ 1000) (v2 v3 v4 v5 v6 v7 v8 : Option V) (H1 : Hp) (e1 : Ex H H1)
    (k : ∀ (w2 w3 w4 w5 : Option V) H2, Ex H H2 → D.nx [some (.ref a), some (.int i), w2, w3, w4, w5, v6, v7, v8] H2) :
    (rd_law_b1 K (sp__law_purse K) sp__law_draw sp__law_all (sp_shapes K aN) (sp__law_text K N) (sp__law_nest K N) aT aN) D [some (.ref a), some (.int i), v2, v3, v4, v5, v6, v7, v8] H1 := by
  walk_at "go"
  refine ⟨a, ns, i, rfl, e1.L hL, hi, fun H2 g e2 ng0 p2 => ?_⟩
  have ng : H g = none := e1.free ng0
  walk_at "go"
  refine ⟨g, 2000000, 9, rfl, by decide, by decide, by decide, p2, fun H3 r f3 p3 r0 r1 => ?_⟩
  obtain ⟨n, rfl⟩ := Int.eq_ofNat_of_zero_le r0
  have e3 : Ex H H3 := Fm.exg (e1.trans e2) ng f3
  walk_at "go"
  refine ⟨_, rfl, .inl ⟨n, rfl, by omega, fun H4 t L e4 nt ht hL1 hL2 => ?_⟩⟩
  refine ⟨n, rfl, by omega, fun H5 d M e5 nd hd hM1 hM2 => ?_⟩
  walk_at "go"
  have eLM : L = M := map_S_inj (sortedS_eq hL2 hM2 ((hL1.trans hM1.symm).map S))
  subst eLM
  refine ⟨_, _, tyX_list (SqL.of (e5 _ _ ht)), ki_list.2.2.2.1, ?_⟩
  dsimp only
  rw [if_neg (by decide)]
  refine eq_strs (a := L) (b := L) (SqL.of (e5 _ _ ht)) (SqL.of hd) (lev_okc hL1) (lev_okc hL1) ?_
  rw [show (!decide (L = L)) = false by simp]
  walk_at "go"
  refine ⟨g, 2000010, n, rfl, by omega, by omega, by omega, (p3.fm e4).fm e5, fun H6 v u hu f6 p6 hv => ?_⟩
  refine ⟨v, u, rfl, hv, by omega, by omega, fun H7 e7 => ?_⟩
  have g4 : t ≠ g := p3.ne nt
  have ht7 : H7 t = some (.lst (tx L)) := e7 _ _ (f6 _ _ (by simpa using g4) (e5 _ _ ht))
  have d4 : d ≠ g := (p3.fm e4).ne nd
  have hd7 : H7 d = some (.lst (tx L)) := e7 _ _ (f6 _ _ (by simpa using d4) hd)
  refine ⟨t, tx L, rfl, .inl (SqL.of ht7), rfl, by unfold tx; simp [flatV], ?_⟩
  have hin : inV (.str (S u.s)) (tx L) = true := by
    unfold inV tx
    rw [List.any_eq_true]
    exact ⟨_, List.mem_map.mpr ⟨u.s, hL1.mem_iff.mpr (hu ▸ lev_mem u), rfl⟩, by rw [eqV_SS]; simp⟩
  rw [hin]
  walk_at "go"
  refine ⟨⟨_, ht7⟩, _, ht7, ?_⟩
  have td : t ≠ d := ne_of_none ht nd
  have e7' : Ex H (upd H7 t (.lst [])) := (Fm.exg (e3.trans (e4.trans e5)) ng (f6.trans (Fm.ex e7))).mut (e3.free nt)
  refine ⟨_, rfl, .inl ⟨n, rfl, by omega, fun H8 q L2 e8 nq hq hQ1 hQ2 => ?_⟩⟩
  have eL2 : L2 = L := map_S_inj (sortedS_eq hQ2 hL2 ((hQ1.trans hL1.symm).map S))
  subst eL2
  refine eq_strs (a := L2) (b := L2) (SqL.of hq) (SqL.of (e8 _ _ ((upd_ne (Ne.symm td)).trans hd7))) (lev_okc hL1) (lev_okc hL1) ?_
  rw [show (!decide (L2 = L2)) = false by simp]
  walk_at "go"
  exact k _ _ _ _ H8 (e7'.trans e8)
theorem lw_2 (x1 : PySem.W.exmOne K (.ref aN) (.ref aT) = some true) (x2 : ExcK K "value" aN) (z1 : PySem.W.kitOne K (.ref aN) (.ref aN) = some true) (D : Ends) (b : Addr) (xs : List V) (v0 v1 v2 v3 v4 v5 : Option V) :
    ∀ (s : List V) (v6 v7 : Option V) (H : Hp), SqL K H b xs → (∀ w ∈ s, BadN K H w 0 (.int 8) ∧ ∃ d, Sv K H w d) → (∀ (w6 w7 : Option V) H', D.nx [v0, v1, v2, v3, v4, v5, w6, w7, none] H') →
    fV (fun H => SqL K H b xs) (gName 6) (rd_law_b2 K (sp__law_purse K) sp__law_draw sp__law_all (sp_shapes K aN) (sp__law_text K N) (sp__law_nest K N) aT aN) D s [v0, v1, v2, v3, v4, v5, v6, v7, none] H
  | [], v6, v7, H, hb, hs, k => ⟨hb, k _ _ H⟩
  | w :: s, v6, v7, H, hb, hs, k => by
    have ih := lw_2 x1 x2 z1 D b xs v0 v1 v2 v3 v4 v5 s
    obtain ⟨bad, d, sv⟩ := hs w List.mem_cons_self
    simp only [fV]
    refine ⟨hb, ?_⟩
    walk_at "go"
    unfold mTry
    walk_at "go"
    refine ⟨w, rfl, .inr ⟨bad, fin_go x1 fun a dd H' e ha hd na nd => ?_⟩⟩
    walk_at "go"
    refine ⟨aN, dd, "value", _, true, x2, ha, hd, z1, ?_⟩
    walk_at "go"
    unfold mFld
    walk_at "go"
    refine ⟨aN, dd, w, x2, ha, hd, ?_⟩
    walk_at "go"
    obtain ⟨s1, s2, s3, s4⟩ := sv
    refine ⟨d, s1 _ e, s2, s3, s4, d, s1 _ e, s2, s3, s4, ?_⟩
    rw [if_neg (by simp)]
    exact ih _ _ H' (e.L hb) (fun y hy => by
      obtain ⟨b1, d', b2⟩ := hs y (List.mem_cons_of_mem _ hy)
      exact ⟨b1.ex e, d', b2.ex e⟩) k
theorem pu_law (hN : 9 ≤ N) (x1 : PySem.W.exmOne K (.ref aN) (.ref aT) = some true) (x2 : ExcK K "value" aN) (z1 : PySem.W.kitOne K (.ref aN) (.ref aN) = some true) (vs : List V) (H : Hp) (Q : VK) (E : XK) (h : sp_law K vs H Q E) :
    rd_law K (sp__law_purse K) sp__law_draw sp__law_all (sp_shapes K aN) (sp__law_text K N) (sp__law_nest K N) aT aN { nx := fun _ H' => Q .non H', rt := Q } (L2.start N_law vs) H := by
  obtain ⟨a, ns, rfl, hL, k⟩ := h
  show rd_law K _ _ _ _ _ _ _ _ _ [some _, none, none, none, none, none, none, none, none] H
  unfold rd_law
  walk_at "go"
  refine ⟨⟨by decide, by decide⟩, ?_⟩
  refine (?l1 : ∀ (s : List Nat) (v1 v2 v3 v4 v5 : Option V) (H1 : Hp), (∀ i ∈ s, i ≤ 1000) → Ex H H1 → fV _ _ _ _ (s.map fun (i : Nat) => V.int (0 + (i : Int))) [some (.ref a), v1, v2, v3, v4, v5, none, none, none] H1) (List.range 3) none none none none none H (fun i hi => by have := List.mem_range.mp hi; omega) (Ex.refl H)
  intro s
  induction s with
  | cons i s ih =>
    intro v1 v2 v3 v4 v5 H1 hs e1
    simp only [List.map_cons, fV]
    refine ⟨trivial, ?_⟩
    rw [Int.zero_add]
    exact lw_1 K aT aN N hN _ H a ns hL i (hs i List.mem_cons_self) v2 v3 v4 v5 _ _ _ H1 e1 fun w2 w3 w4 w5 H2 e2 => ih _ _ _ _ _ H2 (fun j hj => hs j (List.mem_cons_of_mem _ hj)) e2
  | nil =>
    intro v1 v2 v3 v4 v5 H1 hs e1
    simp only [List.map_nil, fV]
    refine ⟨trivial, ?_⟩
    unfold tDNewK
    walk_at "go"
    refine ⟨by walk_at "sz", fun p1 h1 => ?_⟩
    walk_at "go"
    refine ⟨by walk_at "sz", fun p2 h2 p3 h3 => ?_⟩
    walk_at "go"
    refine ⟨by walk_at "sz", fun p4 h4 => ?_⟩
    walk_at "go"
    refine ⟨_, .inl ⟨SqL.of upd_same, ?_⟩⟩
    refine lw_2 K aT aN N x1 x2 z1 _ p4 _ _ _ _ _ _ _ _ _ _ _ (SqL.of upd_same) (fun w hw => ?_) fun w6 w7 H2 => ?_
    · simp only [List.mem_cons, List.not_mem_nil, or_false] at hw
      rcases hw with rfl | rfl | rfl | rfl | rfl | rfl | rfl | rfl | rfl
      · exact ⟨.inl .non, _, .non⟩
      · exact ⟨.inr ⟨_, rfl, .inl (by decide)⟩, _, .int _ (by decide) (by decide +kernel)⟩
      · exact ⟨.inr ⟨_, rfl, .inr ⟨8, rfl, by decide⟩⟩, _, .int _ (by decide) (by decide +kernel)⟩
      · exact ⟨.inl (.bl _), _, .bl _⟩
      · exact ⟨.inl (.bl _), _, .bl _⟩
      · exact ⟨.inl (.str _), _, .str (by show ∀ c ∈ _, c < 1114112; decide) (by decide)⟩
      · exact ⟨.inl (.lst (SqL.of (by walk_at "hh"))), .list [.int 3], .lst (SqL.of (xs := [.int 3]) (by walk_at "hh")) (fun H' e => .cons (.int 3) .nil) (by decide) (by decide) (by decide) (by decide +kernel)⟩
      · exact ⟨.inl (.tup (SqT.of (by walk_at "hh"))), .tuple [.int 1, .int 2], .tup (SqT.of (xs := [.int 1, .int 2]) (by walk_at "hh")) (fun H' e => .cons (.int 1) (.cons (.int 2) .nil)) (by decide) (by decide) (by decide) (by decide +kernel)⟩
      · exact ⟨.inl (.dct (by walk_at "hh")), _, .dct (by walk_at "hh")⟩
    · walk_at "go"
      refine ⟨_, rfl, .inl ⟨0, rfl, by omega, fun H8 q L2 e8 nq hq hQ1 hQ2 => ?_⟩⟩
      refine ⟨by walk_at "sz", fun r hr => ?_⟩
      have eL : L2 = [[46]] := List.perm_singleton.mp hQ1
      subst eL
      refine eq_strs (a := [[46]]) (b := [[46]]) (SqL.of (Ex.new hr _ _ hq)) (SqL.of upd_same) (fun z hz => ?_) (fun z hz => ?_) ?_
      · rw [List.mem_singleton.mp hz]; show ∀ c ∈ _, c < 1114112; decide
      · rw [List.mem_singleton.mp hz]; show ∀ c ∈ _, c < 1114112; decide
      · exact k _
end
end Pf

namespace Pf
open PySem PySem.Spec PyProof.Rows L2 M
abbrev Rw : PySem.W.OpenRow := PySem.W.OpenLaw.row PySem.Challenge.rw_treeturns_k70_all_shapes
abbrev Pg : Program := (PySem.Challenge.rw_treeturns_k70_all_shapes).prog
def dx_InvalidNumber___init__ : DefX := ⟨("InvalidNumber", some "__init__"), "__init__", "InvalidNumber.__init__", defArgs (inClass (top 2) 0), defBody (inClass (top 2) 0), defScope (inClass (top 2) 0), [.non], [], ["__class__"]⟩
def dx_is_whole : DefX := ⟨("is_whole", none), "is_whole", "is_whole", defArgs (top 4), defBody (top 4), defScope (top 4), [], [], []⟩
def dx_check_number : DefX := ⟨("check_number", none), "check_number", "check_number", defArgs (top 6), defBody (top 6), defScope (top 6), [], [], []⟩
def dx_check_whole : DefX := ⟨("check_whole", none), "check_whole", "check_whole", defArgs (top 7), defBody (top 7), defScope (top 7), [.non], [], []⟩
def dx_shapes : DefX := ⟨("shapes", none), "shapes", "shapes", defArgs (top 10), defBody (top 10), defScope (top 10), [], [], []⟩
def dx__law_mixed : DefX := ⟨("_law_mixed", none), "_law_mixed", "_law_mixed", defArgs (top 12), defBody (top 12), defScope (top 12), [], [], []⟩
def dx__law_purse : DefX := ⟨("_law_purse", none), "_law_purse", "_law_purse", defArgs (top 13), defBody (top 13), defScope (top 13), [], [], []⟩
def dx__law_draw : DefX := ⟨("_law_draw", none), "_law_draw", "_law_draw", defArgs (top 14), defBody (top 14), defScope (top 14), [], [], []⟩
def dx__law_nest : DefX := ⟨("_law_nest", none), "_law_nest", "_law_nest", defArgs (top 15), defBody (top 15), defScope (top 15), [], [], []⟩
def dx__law_text : DefX := ⟨("_law_text", none), "_law_text", "_law_text", defArgs (top 16), defBody (top 16), defScope (top 16), [], [], []⟩
def dx__law_width : DefX := ⟨("_law_width", none), "_law_width", "_law_width", defArgs (top 17), defBody (top 17), defScope (top 17), [], [], []⟩
def dx__law_all : DefX := ⟨("_law_all", none), "_law_all", "_law_all", defArgs (top 18), defBody (top 18), defScope (top 18), [], [], []⟩
def dx_law : DefX := ⟨("law", none), "law", "law", defArgs (top 19), defBody (top 19), defScope (top 19), [], [], []⟩
def fnL : List DefX := ([dx_InvalidNumber___init__,
  dx_is_whole,
  dx_check_number,
  dx_check_whole,
  dx_shapes,
  dx__law_mixed,
  dx__law_purse,
  dx__law_draw,
  dx__law_nest,
  dx__law_text,
  dx__law_width,
  dx__law_all,
  dx_law] : List DefX)
def faL : List FaX := ([fun K => (He.Fa.glo "TurnError").ok K,
  fun K => (He.Fa.glo "InvalidNumber").ok K,
  fun K => (He.Fa.glo "is_whole").ok K,
  fun K => (He.Fa.glo "check_number").ok K,
  fun K => (He.Fa.glo "check_whole").ok K,
  fun K => (He.Fa.glo "shapes").ok K,
  fun K => (He.Fa.glo "_law_mixed").ok K,
  fun K => (He.Fa.glo "_law_purse").ok K,
  fun K => (He.Fa.glo "_law_draw").ok K,
  fun K => (He.Fa.glo "_law_nest").ok K,
  fun K => (He.Fa.glo "_law_text").ok K,
  fun K => (He.Fa.glo "_law_width").ok K,
  fun K => (He.Fa.glo "_law_all").ok K,
  fun K => (He.Fa.glo "law").ok K,
  fun K => (He.Fa.free "isinstance").ok K] : List FaX) ++ ([fun K => (He.Fa.free "bool").ok K,
  fun K => (He.Fa.free "int").ok K,
  fun K => (He.Fa.free "range").ok K,
  fun K => (He.Fa.free "sorted").ok K,
  fun K => (He.Fa.free "str").ok K,
  fun K => (He.Fa.free "sum").ok K,
  fun K => (He.Fa.free "max").ok K,
  fun K => (He.Fa.free "list").ok K,
  fun K => (He.Fa.free "repr").ok K,
  fun K => (He.Fa.int "MOST_NODES" 8).ok K,
  fun K => exB Pg "InvalidNumber" "value" K,
  fun K => (He.Fa.exm "InvalidNumber" "TurnError" true).ok K,
  fun K => decide (PySem.W.kitOne K (.ref (He.ga K "InvalidNumber")) (.ref (He.ga K "InvalidNumber")) = some true)] : List FaX)
def loose : List PySem.Str := (["TurnError",
  "InvalidNumber",
  "is_whole",
  "check_number",
  "check_whole",
  "shapes",
  "_law_mixed",
  "_law_purse",
  "_law_draw",
  "_law_nest",
  "_law_text",
  "_law_width",
  "_law_all",
  "MOST_NODES"] : List PySem.Str)
abbrev hk : PySem.W.Hook := hookX 4 faL fnL
def ob (s : PySem.W.SharedT) : AlX := obsXG 4 faL fnL (HandSHeadRun.getT s)
theorem ob_eq (s : PySem.W.SharedT) : ob s = hk.obs s.abs := obsXG_eq (HandSHeadRun.getT_eq s)
set_option maxHeartbeats 0 in
theorem run (w : World) : HandSHeadRun.RunEq Rw (PySem.W.view Rw.prog [19]) hk ob 6000 loose w := by
  intro os
  kernel_rfl
theorem facts {w : World} {K : PySem.W.Frag} {h : Heap} {mg : Str → Option Value} {fa : Addr} (X : K.In h) (G : h.Ns mainGlobals mg) (hfa : mg ("law" : Str) = some (.ref fa)) (c : SaysX faL fnL K) :
    ∃ fd : FuncData, (∀ (s : Shared) (v : Value), BindsTo s fd ⟨[v], []⟩ [("_law_script", v)]) ∧ ∀ base : Heap, K.In base → base.Ns mainGlobals mg → FnG Pg w K mg base CX0 40 fa fd ["_law_script"] (sp_law K) := by
  have g_TurnError : mg "TurnError" = some (.ref (He.ga K "TurnError")) := He.glo_ok X G (c.fact 0 (f := fun K => (He.Fa.glo "TurnError").ok K))
  have g_InvalidNumber : mg "InvalidNumber" = some (.ref (He.ga K "InvalidNumber")) := He.glo_ok X G (c.fact 1 (f := fun K => (He.Fa.glo "InvalidNumber").ok K))
  have g_is_whole : mg "is_whole" = some (.ref (He.ga K "is_whole")) := He.glo_ok X G (c.fact 2 (f := fun K => (He.Fa.glo "is_whole").ok K))
  have g_check_number : mg "check_number" = some (.ref (He.ga K "check_number")) := He.glo_ok X G (c.fact 3 (f := fun K => (He.Fa.glo "check_number").ok K))
  have g_check_whole : mg "check_whole" = some (.ref (He.ga K "check_whole")) := He.glo_ok X G (c.fact 4 (f := fun K => (He.Fa.glo "check_whole").ok K))
  have g_shapes : mg "shapes" = some (.ref (He.ga K "shapes")) := He.glo_ok X G (c.fact 5 (f := fun K => (He.Fa.glo "shapes").ok K))
  have g__law_mixed : mg "_law_mixed" = some (.ref (He.ga K "_law_mixed")) := He.glo_ok X G (c.fact 6 (f := fun K => (He.Fa.glo "_law_mixed").ok K))
  have g__law_purse : mg "_law_purse" = some (.ref (He.ga K "_law_purse")) := He.glo_ok X G (c.fact 7 (f := fun K => (He.Fa.glo "_law_purse").ok K))
  have g__law_draw : mg "_law_draw" = some (.ref (He.ga K "_law_draw")) := He.glo_ok X G (c.fact 8 (f := fun K => (He.Fa.glo "_law_draw").ok K))
  have g__law_nest : mg "_law_nest" = some (.ref (He.ga K "_law_nest")) := He.glo_ok X G (c.fact 9 (f := fun K => (He.Fa.glo "_law_nest").ok K))
  have g__law_text : mg "_law_text" = some (.ref (He.ga K "_law_text")) := He.glo_ok X G (c.fact 10 (f := fun K => (He.Fa.glo "_law_text").ok K))
  have g__law_width : mg "_law_width" = some (.ref (He.ga K "_law_width")) := He.glo_ok X G (c.fact 11 (f := fun K => (He.Fa.glo "_law_width").ok K))
  have g__law_all : mg "_law_all" = some (.ref (He.ga K "_law_all")) := He.glo_ok X G (c.fact 12 (f := fun K => (He.Fa.glo "_law_all").ok K))
  have g_law : mg "law" = some (.ref (He.ga K "law")) := He.glo_ok X G (c.fact 13 (f := fun K => (He.Fa.glo "law").ok K))
  have T : Tx K mg := ⟨He.free_ok X G (c.fact 14 (f := fun K => (He.Fa.free "isinstance").ok K)), He.free_ok X G (c.fact 15 (f := fun K => (He.Fa.free "bool").ok K)), He.free_ok X G (c.fact 16 (f := fun K => (He.Fa.free "int").ok K)), He.free_ok X G (c.fact 17 (f := fun K => (He.Fa.free "range").ok K)), He.free_ok X G (c.fact 18 (f := fun K => (He.Fa.free "sorted").ok K)), He.free_ok X G (c.fact 19 (f := fun K => (He.Fa.free "str").ok K)), He.free_ok X G (c.fact 20 (f := fun K => (He.Fa.free "sum").ok K)), He.free_ok X G (c.fact 21 (f := fun K => (He.Fa.free "max").ok K)), He.free_ok X G (c.fact 22 (f := fun K => (He.Fa.free "list").ok K)), He.free_ok X G (c.fact 23 (f := fun K => (He.Fa.free "repr").ok K)), He.int_ok X G (c.fact 24 (f := fun K => (He.Fa.int "MOST_NODES" 8).ok K))⟩
  have x1 : PySem.W.exmOne K (.ref (He.ga K "InvalidNumber")) (.ref (He.ga K "TurnError")) = some true := He.exm_ok (c.fact 26 (f := fun K => (He.Fa.exm "InvalidNumber" "TurnError" true).ok K))
  have z1 : PySem.W.kitOne K (.ref (He.ga K "InvalidNumber")) (.ref (He.ga K "InvalidNumber")) = some true := of_decide_eq_true (c.fact 27 (f := fun K => decide (PySem.W.kitOne K (.ref (He.ga K "InvalidNumber")) (.ref (He.ga K "InvalidNumber")) = some true)))
  obtain ⟨X_InvalidNumber, E_InvalidNumber⟩ : ExcAt Pg w K mg "InvalidNumber" "value" (He.ga K "InvalidNumber") ∧ ExcK K "value" (He.ga K "InvalidNumber") := ex_of (q := [⟨7, 8, 7, 13⟩, ⟨7, 8, 7, 15⟩, ⟨7, 8, 7, 24⟩, ⟨7, 25, 7, 30⟩, ⟨7, 8, 7, 31⟩, ⟨7, 8, 7, 31⟩, ⟨8, 8, 8, 12⟩, ⟨8, 8, 8, 18⟩, ⟨8, 21, 8, 26⟩, ⟨8, 8, 8, 26⟩]) X G (c.fact 25 (f := fun K => exB Pg "InvalidNumber" "value" K)) (c.def0 0 (d := dx_InvalidNumber___init__)) rfl rfl rfl rfl rfl rfl rfl (by decide) (by decide) rfl rfl rfl rfl rfl rfl rfl (by decide) (by decide +kernel) (fun env h => by cases env; cases h; rfl) (fun env h => by cases env; cases h; exact ⟨_, rfl⟩) (fun env h => by cases env; cases h; rfl) (fun _ _ _ _ _ _ _ _ _ _ => ⟨_, rfl, rfl⟩) (fun _ _ _ _ _ _ _ _ _ => ⟨_, rfl, rfl⟩) (fun _ _ _ _ _ _ _ _ _ _ => ⟨_, rfl, rfl⟩)
  obtain ⟨fd_is_whole, F_is_whole⟩ := c.def_ 1 (d := dx_is_whole)
  obtain ⟨fd_check_number, F_check_number⟩ := c.def_ 2 (d := dx_check_number)
  obtain ⟨fd_check_whole, F_check_whole⟩ := c.def_ 3 (d := dx_check_whole)
  obtain ⟨fd_shapes, F_shapes⟩ := c.def_ 4 (d := dx_shapes)
  obtain ⟨fd__law_mixed, F__law_mixed⟩ := c.def_ 5 (d := dx__law_mixed)
  obtain ⟨fd__law_purse, F__law_purse⟩ := c.def_ 6 (d := dx__law_purse)
  obtain ⟨fd__law_draw, F__law_draw⟩ := c.def_ 7 (d := dx__law_draw)
  obtain ⟨fd__law_nest, F__law_nest⟩ := c.def_ 8 (d := dx__law_nest)
  obtain ⟨fd__law_text, F__law_text⟩ := c.def_ 9 (d := dx__law_text)
  obtain ⟨fd__law_width, F__law_width⟩ := c.def_ 10 (d := dx__law_width)
  obtain ⟨fd__law_all, F__law_all⟩ := c.def_ 11 (d := dx__law_all)
  obtain ⟨fd_law, F_law⟩ := c.def_ 12 (d := dx_law)
  cases hfa.symm.trans g_law
  refine ⟨fd_law, fun s v => FunD.bindsA (ps := ["_law_script"]) F_law (fun _ _ _ _ _ _ us hl => match us, hl with | [_], _ => rfl) s [v] rfl, fun base _ _ => ?_⟩
  have C__law_purse : CalG Pg w K mg base CX0 "_law_purse" 1 ["_law_script", "_law_at"] [] (sp__law_purse K) := ⟨_, fd__law_purse, [], ok__law_purse (k := 0) F__law_purse T   (fun vs H Q E h => by first | (obtain ⟨_, rfl, _⟩ := h; rfl) | (obtain ⟨_, _, rfl, _⟩ := h; rfl) | (obtain ⟨_, _, _, rfl, _⟩ := h; rfl) | (obtain ⟨_, _, _, _, rfl, _⟩ := h; rfl) | (obtain ⟨_, _, _, _, _, rfl, _⟩ := h; rfl) | (obtain ⟨_, _, _, _, _, _, rfl, _⟩ := h; rfl) | (obtain ⟨_, _, _, _, _, _, _, rfl, _⟩ := h; rfl) | (obtain ⟨_, _, _, _, _, _, _, _, rfl, _⟩ := h; rfl) | (obtain ⟨_, _, _, _, _, _, _, _, _, rfl, _⟩ := h; rfl) | (obtain ⟨_, _, _, _, _, _, _, _, _, _, rfl, _⟩ := h; rfl) | (obtain ⟨_, _, _, _, _, _, _, _, _, _, _, rfl, _⟩ := h; rfl) | (obtain ⟨_, _, _, _, _, _, _, _, _, _, _, _, rfl, _⟩ := h; rfl) | (obtain ⟨_, _, _, _, _, _, _, _, _, _, _, _, _, rfl, _⟩ := h; rfl) | (obtain ⟨_, _, _, _, _, _, _, _, _, _, _, _, _, _, rfl, _⟩ := h; rfl)) (pu__law_purse K), g__law_purse, F__law_purse.kp, F__law_purse.bindsN (ps := ["_law_script", "_law_at"]) fun _ _ _ _ _ _ us hl => match us, hl with | [_, _], _ => rfl, .nil⟩
  have C__law_mixed : CalG Pg w K mg base CX0 "_law_mixed" 1 ["_law_cell", "_law_k"] [] (sp__law_mixed) := ⟨_, fd__law_mixed, [], ok__law_mixed (k := 0) F__law_mixed T   (fun vs H Q E h => by first | (obtain ⟨_, rfl, _⟩ := h; rfl) | (obtain ⟨_, _, rfl, _⟩ := h; rfl) | (obtain ⟨_, _, _, rfl, _⟩ := h; rfl) | (obtain ⟨_, _, _, _, rfl, _⟩ := h; rfl) | (obtain ⟨_, _, _, _, _, rfl, _⟩ := h; rfl) | (obtain ⟨_, _, _, _, _, _, rfl, _⟩ := h; rfl) | (obtain ⟨_, _, _, _, _, _, _, rfl, _⟩ := h; rfl) | (obtain ⟨_, _, _, _, _, _, _, _, rfl, _⟩ := h; rfl) | (obtain ⟨_, _, _, _, _, _, _, _, _, rfl, _⟩ := h; rfl) | (obtain ⟨_, _, _, _, _, _, _, _, _, _, rfl, _⟩ := h; rfl) | (obtain ⟨_, _, _, _, _, _, _, _, _, _, _, rfl, _⟩ := h; rfl) | (obtain ⟨_, _, _, _, _, _, _, _, _, _, _, _, rfl, _⟩ := h; rfl) | (obtain ⟨_, _, _, _, _, _, _, _, _, _, _, _, _, rfl, _⟩ := h; rfl) | (obtain ⟨_, _, _, _, _, _, _, _, _, _, _, _, _, _, rfl, _⟩ := h; rfl)) (pu__law_mixed K), g__law_mixed, F__law_mixed.kp, F__law_mixed.bindsN (ps := ["_law_cell", "_law_k"]) fun _ _ _ _ _ _ us hl => match us, hl with | [_, _], _ => rfl, .nil⟩
  have C__law_draw : CalG Pg w K mg base CX0 "_law_draw" 2 ["_law_purse_here", "_law_out_of"] [] (sp__law_draw) := ⟨_, fd__law_draw, [], ok__law_draw (k := 1) F__law_draw T C__law_mixed (by omega) (fun vs H Q E h => by first | (obtain ⟨_, rfl, _⟩ := h; rfl) | (obtain ⟨_, _, rfl, _⟩ := h; rfl) | (obtain ⟨_, _, _, rfl, _⟩ := h; rfl) | (obtain ⟨_, _, _, _, rfl, _⟩ := h; rfl) | (obtain ⟨_, _, _, _, _, rfl, _⟩ := h; rfl) | (obtain ⟨_, _, _, _, _, _, rfl, _⟩ := h; rfl) | (obtain ⟨_, _, _, _, _, _, _, rfl, _⟩ := h; rfl) | (obtain ⟨_, _, _, _, _, _, _, _, rfl, _⟩ := h; rfl) | (obtain ⟨_, _, _, _, _, _, _, _, _, rfl, _⟩ := h; rfl) | (obtain ⟨_, _, _, _, _, _, _, _, _, _, rfl, _⟩ := h; rfl) | (obtain ⟨_, _, _, _, _, _, _, _, _, _, _, rfl, _⟩ := h; rfl) | (obtain ⟨_, _, _, _, _, _, _, _, _, _, _, _, rfl, _⟩ := h; rfl) | (obtain ⟨_, _, _, _, _, _, _, _, _, _, _, _, _, rfl, _⟩ := h; rfl) | (obtain ⟨_, _, _, _, _, _, _, _, _, _, _, _, _, _, rfl, _⟩ := h; rfl)) (pu__law_draw K), g__law_draw, F__law_draw.kp, F__law_draw.bindsN (ps := ["_law_purse_here", "_law_out_of"]) fun _ _ _ _ _ _ us hl => match us, hl with | [_, _], _ => rfl, .nil⟩
  have C__law_all : CalG Pg w K mg base CX0 "_law_all" 1 ["_law_many"] [] (sp__law_all) := ⟨_, fd__law_all, [], ok__law_all (k := 0) F__law_all T   (fun vs H Q E h => by first | (obtain ⟨_, rfl, _⟩ := h; rfl) | (obtain ⟨_, _, rfl, _⟩ := h; rfl) | (obtain ⟨_, _, _, rfl, _⟩ := h; rfl) | (obtain ⟨_, _, _, _, rfl, _⟩ := h; rfl) | (obtain ⟨_, _, _, _, _, rfl, _⟩ := h; rfl) | (obtain ⟨_, _, _, _, _, _, rfl, _⟩ := h; rfl) | (obtain ⟨_, _, _, _, _, _, _, rfl, _⟩ := h; rfl) | (obtain ⟨_, _, _, _, _, _, _, _, rfl, _⟩ := h; rfl) | (obtain ⟨_, _, _, _, _, _, _, _, _, rfl, _⟩ := h; rfl) | (obtain ⟨_, _, _, _, _, _, _, _, _, _, rfl, _⟩ := h; rfl) | (obtain ⟨_, _, _, _, _, _, _, _, _, _, _, rfl, _⟩ := h; rfl) | (obtain ⟨_, _, _, _, _, _, _, _, _, _, _, _, rfl, _⟩ := h; rfl) | (obtain ⟨_, _, _, _, _, _, _, _, _, _, _, _, _, rfl, _⟩ := h; rfl) | (obtain ⟨_, _, _, _, _, _, _, _, _, _, _, _, _, _, rfl, _⟩ := h; rfl)) (pu__law_all K), g__law_all, F__law_all.kp, F__law_all.bindsN (ps := ["_law_many"]) fun _ _ _ _ _ _ us hl => match us, hl with | [_], _ => rfl, .nil⟩
  have C_is_whole : CalG Pg w K mg base CX0 "is_whole" 1 ["value"] [] (sp_is_whole K) := ⟨_, fd_is_whole, [], ok_is_whole (k := 0) F_is_whole T   (fun vs H Q E h => by first | (obtain ⟨_, rfl, _⟩ := h; rfl) | (obtain ⟨_, _, rfl, _⟩ := h; rfl) | (obtain ⟨_, _, _, rfl, _⟩ := h; rfl) | (obtain ⟨_, _, _, _, rfl, _⟩ := h; rfl) | (obtain ⟨_, _, _, _, _, rfl, _⟩ := h; rfl) | (obtain ⟨_, _, _, _, _, _, rfl, _⟩ := h; rfl) | (obtain ⟨_, _, _, _, _, _, _, rfl, _⟩ := h; rfl) | (obtain ⟨_, _, _, _, _, _, _, _, rfl, _⟩ := h; rfl) | (obtain ⟨_, _, _, _, _, _, _, _, _, rfl, _⟩ := h; rfl) | (obtain ⟨_, _, _, _, _, _, _, _, _, _, rfl, _⟩ := h; rfl) | (obtain ⟨_, _, _, _, _, _, _, _, _, _, _, rfl, _⟩ := h; rfl) | (obtain ⟨_, _, _, _, _, _, _, _, _, _, _, _, rfl, _⟩ := h; rfl) | (obtain ⟨_, _, _, _, _, _, _, _, _, _, _, _, _, rfl, _⟩ := h; rfl) | (obtain ⟨_, _, _, _, _, _, _, _, _, _, _, _, _, _, rfl, _⟩ := h; rfl)) (pu_is_whole K), g_is_whole, F_is_whole.kp, F_is_whole.bindsN (ps := ["value"]) fun _ _ _ _ _ _ us hl => match us, hl with | [_], _ => rfl, .nil⟩
  have C_check_number : CalG Pg w K mg base (L2.CX Pg w) "check_number" 2 ["value"] [] (sp_check_number K (He.ga K "InvalidNumber")) := ⟨_, fd_check_number, [], ok_check_number (k := 1) F_check_number T C_is_whole X_InvalidNumber (by omega) (fun vs H Q E h => by first | (obtain ⟨_, rfl, _⟩ := h; rfl) | (obtain ⟨_, _, rfl, _⟩ := h; rfl) | (obtain ⟨_, _, _, rfl, _⟩ := h; rfl) | (obtain ⟨_, _, _, _, rfl, _⟩ := h; rfl) | (obtain ⟨_, _, _, _, _, rfl, _⟩ := h; rfl) | (obtain ⟨_, _, _, _, _, _, rfl, _⟩ := h; rfl) | (obtain ⟨_, _, _, _, _, _, _, rfl, _⟩ := h; rfl) | (obtain ⟨_, _, _, _, _, _, _, _, rfl, _⟩ := h; rfl) | (obtain ⟨_, _, _, _, _, _, _, _, _, rfl, _⟩ := h; rfl) | (obtain ⟨_, _, _, _, _, _, _, _, _, _, rfl, _⟩ := h; rfl) | (obtain ⟨_, _, _, _, _, _, _, _, _, _, _, rfl, _⟩ := h; rfl) | (obtain ⟨_, _, _, _, _, _, _, _, _, _, _, _, rfl, _⟩ := h; rfl) | (obtain ⟨_, _, _, _, _, _, _, _, _, _, _, _, _, rfl, _⟩ := h; rfl) | (obtain ⟨_, _, _, _, _, _, _, _, _, _, _, _, _, _, rfl, _⟩ := h; rfl)) (pu_check_number K (He.ga K "InvalidNumber")), g_check_number, F_check_number.kp, F_check_number.bindsN (ps := ["value"]) fun _ _ _ _ _ _ us hl => match us, hl with | [_], _ => rfl, .nil⟩
  have C_check_whole : CalG Pg w K mg base (L2.CX Pg w) "check_whole" 3 ["value", "least", "most"] [] (sp_check_whole K (He.ga K "InvalidNumber")) := by
    obtain ⟨ds, rds, hb⟩ := ((show FunD K _ _ _ _ _ [.non] [] _ _ from F_check_whole).binds1 (ps := ["value", "least", "most"]) 3 1 (by simp) (by rfl) fun _ _ _ _ _ _ _ us its hu hi => match us, hu, its, hi with | [_, _, _], _, [_], _ => ⟨_, rfl, rfl⟩)
    exact ⟨_, fd_check_whole, ds, ok_check_whole (k := 2) F_check_whole T C_check_number X_InvalidNumber (by omega) (fun vs H Q E h => by first | (obtain ⟨_, rfl, _⟩ := h; rfl) | (obtain ⟨_, _, rfl, _⟩ := h; rfl) | (obtain ⟨_, _, _, rfl, _⟩ := h; rfl) | (obtain ⟨_, _, _, _, rfl, _⟩ := h; rfl) | (obtain ⟨_, _, _, _, _, rfl, _⟩ := h; rfl) | (obtain ⟨_, _, _, _, _, _, rfl, _⟩ := h; rfl) | (obtain ⟨_, _, _, _, _, _, _, rfl, _⟩ := h; rfl) | (obtain ⟨_, _, _, _, _, _, _, _, rfl, _⟩ := h; rfl) | (obtain ⟨_, _, _, _, _, _, _, _, _, rfl, _⟩ := h; rfl) | (obtain ⟨_, _, _, _, _, _, _, _, _, _, rfl, _⟩ := h; rfl) | (obtain ⟨_, _, _, _, _, _, _, _, _, _, _, rfl, _⟩ := h; rfl) | (obtain ⟨_, _, _, _, _, _, _, _, _, _, _, _, rfl, _⟩ := h; rfl) | (obtain ⟨_, _, _, _, _, _, _, _, _, _, _, _, _, rfl, _⟩ := h; rfl) | (obtain ⟨_, _, _, _, _, _, _, _, _, _, _, _, _, _, rfl, _⟩ := h; rfl)) (pu_check_whole K (He.ga K "InvalidNumber")), g_check_whole, F_check_whole.kp, hb, rds⟩
  have C_shapes : CalG Pg w K mg base (L2.CX Pg w) "shapes" 4 ["nodes"] [] (sp_shapes K (He.ga K "InvalidNumber")) := ⟨_, fd_shapes, [], ok_shapes (k := 3) F_shapes T C_check_whole (by omega) (fun vs H Q E h => by first | (obtain ⟨_, rfl, _⟩ := h; rfl) | (obtain ⟨_, _, rfl, _⟩ := h; rfl) | (obtain ⟨_, _, _, rfl, _⟩ := h; rfl) | (obtain ⟨_, _, _, _, rfl, _⟩ := h; rfl) | (obtain ⟨_, _, _, _, _, rfl, _⟩ := h; rfl) | (obtain ⟨_, _, _, _, _, _, rfl, _⟩ := h; rfl) | (obtain ⟨_, _, _, _, _, _, _, rfl, _⟩ := h; rfl) | (obtain ⟨_, _, _, _, _, _, _, _, rfl, _⟩ := h; rfl) | (obtain ⟨_, _, _, _, _, _, _, _, _, rfl, _⟩ := h; rfl) | (obtain ⟨_, _, _, _, _, _, _, _, _, _, rfl, _⟩ := h; rfl) | (obtain ⟨_, _, _, _, _, _, _, _, _, _, _, rfl, _⟩ := h; rfl) | (obtain ⟨_, _, _, _, _, _, _, _, _, _, _, _, rfl, _⟩ := h; rfl) | (obtain ⟨_, _, _, _, _, _, _, _, _, _, _, _, _, rfl, _⟩ := h; rfl) | (obtain ⟨_, _, _, _, _, _, _, _, _, _, _, _, _, _, rfl, _⟩ := h; rfl)) (pu_shapes K (He.ga K "InvalidNumber")), g_shapes, F_shapes.kp, F_shapes.bindsN (ps := ["nodes"]) fun _ _ _ _ _ _ us hl => match us, hl with | [_], _ => rfl, .nil⟩
  have R__law_nest : ∀ n : Nat, FnG Pg w K mg base CX0 (2 + n) (He.ga K "_law_nest") fd__law_nest ["_law_purse_here", "_law_count"] (sp__law_nest K n) := by
    intro n
    induction n with
    | zero => exact FnG.zero (fun vs H Q E h => by obtain ⟨_, _, _, _, z, _⟩ := h; exact absurd z (Nat.not_lt_zero _))
    | succ n ih =>
      have I__law_nest : CalG Pg w K mg base CX0 "_law_nest" (2 + n) ["_law_purse_here", "_law_count"] [] (sp__law_nest K n) := ⟨_, fd__law_nest, [], ih, g__law_nest, F__law_nest.kp, F__law_nest.bindsN (ps := ["_law_purse_here", "_law_count"]) fun _ _ _ _ _ _ us hl => match us, hl with | [_, _], _ => rfl, .nil⟩
      exact ok__law_nest (k := 2 + n) F__law_nest T C__law_draw I__law_nest (by omega) (by omega) (fun vs H Q E h => by first | (obtain ⟨_, rfl, _⟩ := h; rfl) | (obtain ⟨_, _, rfl, _⟩ := h; rfl) | (obtain ⟨_, _, _, rfl, _⟩ := h; rfl) | (obtain ⟨_, _, _, _, rfl, _⟩ := h; rfl) | (obtain ⟨_, _, _, _, _, rfl, _⟩ := h; rfl) | (obtain ⟨_, _, _, _, _, _, rfl, _⟩ := h; rfl) | (obtain ⟨_, _, _, _, _, _, _, rfl, _⟩ := h; rfl) | (obtain ⟨_, _, _, _, _, _, _, _, rfl, _⟩ := h; rfl) | (obtain ⟨_, _, _, _, _, _, _, _, _, rfl, _⟩ := h; rfl) | (obtain ⟨_, _, _, _, _, _, _, _, _, _, rfl, _⟩ := h; rfl) | (obtain ⟨_, _, _, _, _, _, _, _, _, _, _, rfl, _⟩ := h; rfl) | (obtain ⟨_, _, _, _, _, _, _, _, _, _, _, _, rfl, _⟩ := h; rfl) | (obtain ⟨_, _, _, _, _, _, _, _, _, _, _, _, _, rfl, _⟩ := h; rfl) | (obtain ⟨_, _, _, _, _, _, _, _, _, _, _, _, _, _, rfl, _⟩ := h; rfl)) (pu__law_nest K n)
  have C__law_nest : CalG Pg w K mg base CX0 "_law_nest" 22 ["_law_purse_here", "_law_count"] [] (sp__law_nest K 20) := ⟨_, fd__law_nest, [], R__law_nest 20, g__law_nest, F__law_nest.kp, F__law_nest.bindsN (ps := ["_law_purse_here", "_law_count"]) fun _ _ _ _ _ _ us hl => match us, hl with | [_, _], _ => rfl, .nil⟩
  have R__law_text : ∀ n : Nat, FnG Pg w K mg base CX0 (0 + n) (He.ga K "_law_text") fd__law_text ["_law_nest_here"] (sp__law_text K n) := by
    intro n
    induction n with
    | zero => exact FnG.zero (fun vs H Q E h => by obtain ⟨_, _, _, _, z, _⟩ := h; exact absurd z (Nat.not_lt_zero _))
    | succ n ih =>
      have I__law_text : CalG Pg w K mg base CX0 "_law_text" (0 + n) ["_law_nest_here"] [] (sp__law_text K n) := ⟨_, fd__law_text, [], ih, g__law_text, F__law_text.kp, F__law_text.bindsN (ps := ["_law_nest_here"]) fun _ _ _ _ _ _ us hl => match us, hl with | [_], _ => rfl, .nil⟩
      exact ok__law_text (k := 0 + n) F__law_text T I__law_text (by omega) (fun vs H Q E h => by first | (obtain ⟨_, rfl, _⟩ := h; rfl) | (obtain ⟨_, _, rfl, _⟩ := h; rfl) | (obtain ⟨_, _, _, rfl, _⟩ := h; rfl) | (obtain ⟨_, _, _, _, rfl, _⟩ := h; rfl) | (obtain ⟨_, _, _, _, _, rfl, _⟩ := h; rfl) | (obtain ⟨_, _, _, _, _, _, rfl, _⟩ := h; rfl) | (obtain ⟨_, _, _, _, _, _, _, rfl, _⟩ := h; rfl) | (obtain ⟨_, _, _, _, _, _, _, _, rfl, _⟩ := h; rfl) | (obtain ⟨_, _, _, _, _, _, _, _, _, rfl, _⟩ := h; rfl) | (obtain ⟨_, _, _, _, _, _, _, _, _, _, rfl, _⟩ := h; rfl) | (obtain ⟨_, _, _, _, _, _, _, _, _, _, _, rfl, _⟩ := h; rfl) | (obtain ⟨_, _, _, _, _, _, _, _, _, _, _, _, rfl, _⟩ := h; rfl) | (obtain ⟨_, _, _, _, _, _, _, _, _, _, _, _, _, rfl, _⟩ := h; rfl) | (obtain ⟨_, _, _, _, _, _, _, _, _, _, _, _, _, _, rfl, _⟩ := h; rfl)) (pu__law_text K n)
  have C__law_text : CalG Pg w K mg base CX0 "_law_text" 20 ["_law_nest_here"] [] (sp__law_text K 20) := ⟨_, fd__law_text, [], R__law_text 20, g__law_text, F__law_text.kp, F__law_text.bindsN (ps := ["_law_nest_here"]) fun _ _ _ _ _ _ us hl => match us, hl with | [_], _ => rfl, .nil⟩
  exact (ok_law (k := 22) F_law T C__law_purse C__law_draw C__law_all C_shapes C__law_nest C__law_text g_TurnError X_InvalidNumber (by omega) (by omega) (by omega) (by omega) (by omega) (by omega) (fun vs H Q E h => by first | (obtain ⟨_, rfl, _⟩ := h; rfl) | (obtain ⟨_, _, rfl, _⟩ := h; rfl) | (obtain ⟨_, _, _, rfl, _⟩ := h; rfl) | (obtain ⟨_, _, _, _, rfl, _⟩ := h; rfl) | (obtain ⟨_, _, _, _, _, rfl, _⟩ := h; rfl) | (obtain ⟨_, _, _, _, _, _, rfl, _⟩ := h; rfl) | (obtain ⟨_, _, _, _, _, _, _, rfl, _⟩ := h; rfl) | (obtain ⟨_, _, _, _, _, _, _, _, rfl, _⟩ := h; rfl) | (obtain ⟨_, _, _, _, _, _, _, _, _, rfl, _⟩ := h; rfl) | (obtain ⟨_, _, _, _, _, _, _, _, _, _, rfl, _⟩ := h; rfl) | (obtain ⟨_, _, _, _, _, _, _, _, _, _, _, rfl, _⟩ := h; rfl) | (obtain ⟨_, _, _, _, _, _, _, _, _, _, _, _, rfl, _⟩ := h; rfl) | (obtain ⟨_, _, _, _, _, _, _, _, _, _, _, _, _, rfl, _⟩ := h; rfl) | (obtain ⟨_, _, _, _, _, _, _, _, _, _, _, _, _, _, rfl, _⟩ := h; rfl)) (pu_law K (He.ga K "TurnError") (He.ga K "InvalidNumber") 20 (by decide) x1 E_InvalidNumber z1)).mono (by omega)
end Pf
open PySem PySem.W PySem.Calls PyProof.Rows
set_option maxHeartbeats 0 in
theorem PySem.Challenge.cw_treeturns_k70_all_shapes_holds : PySem.Challenge.rw_treeturns_k70_all_shapes.Holds := by
  w_on; o_law
  refine HandSHeadRun.head_any (r := OpenLaw.row PySem.Challenge.rw_treeturns_k70_all_shapes) (q := view (OpenLaw.row PySem.Challenge.rw_treeturns_k70_all_shapes).prog [19]) (H := Pf.hk) (ob := Pf.ob) (M := 6000) (loose := Pf.loose) (d := HandSHeadRun.topDef (OpenLaw.row PySem.Challenge.rw_treeturns_k70_all_shapes).prog 19) (kwd := []) Pf.ob_eq
    (by kernel_rfl) (fun s => by kernel_rfl) Pf.run (by kernel_rfl) (by kernel_rfl) (by kernel_rfl) (by rfl) (by first | assumption | decide +kernel) (by decide +kernel) ⟨rfl, rfl, rfl, rfl, rfl, by decide +kernel⟩ ?hw ?hc
  case hw => w_witness2
  case hc =>
    refine M.walk_ofG (l := PySem.Challenge.rw_treeturns_k70_all_shapes) (n := 63) (k := 40) (x := "_law_script") (CX := L2.CX0) rfl (by decide) (by kernel_rfl) ⟨rfl, by decide, by decide, rfl⟩ ?F (fun _ _ _ _ z => z)
    intro w mg fa h Y G hmg0
    obtain ⟨K, KX, c⟩ := Y
    have hmg : mg ("law" : PySem.Str) = some (.ref fa) := by
      have e : (HandSHeadRun.topDef (OpenLaw.row PySem.Challenge.rw_treeturns_k70_all_shapes).prog 19).name = ("law" : PySem.Str) := by kernel_rfl
      rw [← e]
      exact hmg0
    obtain ⟨fd, hb, hF⟩ := Pf.facts (w := w) KX G hmg c
    exact ⟨K, fd, Pf.sp_law K, KX, hb, fun H a ns hl _ hS => ⟨a, ns, rfl, hS, fun _ => rfl⟩, hF⟩
