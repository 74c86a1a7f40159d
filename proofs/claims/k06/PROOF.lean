import PyProof.Rows.All
import Wide.All
import OpenK.AllK
import Wide.FinOn
import KE.KStateDown
import HandS.ForMost
import HandS.ForExc
import HandS.Style
import HandS.Wide
import HandS.WideBits
import HandS.CallSlots
import HandS.Defaults
import HandS.Walk
import KE.KExcSuper
import KE.KExcIs
import HandS.ExcInit
import HandS.ExcSuper
import HandS.ExcField
import HandS.ExcIs
import HandS.ExcOwn
import HandS.Ends
import PyProof.ReprRoads
import HandS.Head0
import HandS.Head1
import HandS.Head2
import HandS.HeadEnd
import HandS.HeadHook1
import HandS.HeadHook2
import HandS.HeadHook3
import HandS.IsInst
import HandS.RaiseMore
import HandS.NoneIn
import HandS.Codes
import PySem.Challenge.RW_treeturns_k06_whole_trees_as_a_lattice
set_option Elab.async false
set_option linter.all false
set_option maxRecDepth 100000
set_option maxHeartbeats 4000000
set_option exponentiation.threshold 4000
/-! M0: readings that reckon themselves (by cases on the values at hand), over the hand layer's judgements. -/
namespace M
open PySem PySem.Spec PyProof.Rows L2

/-! ### weakening -/
section
variable {X : Cx}
theorem pe_imp {e : Expr} {t t' : TE} (h : PE X e t) (w : ∀ σ H Q, t' σ H Q → t σ H Q) : PE X e t' := ⟨fun pins s σ H Q I q => h.run pins s σ H Q I (w σ H Q q)⟩
theorem pt_imp {e : Expr} {t t' : TT} (h : PT X e t) (w : ∀ σ H Q, t' σ H Q → t σ H Q) : PT X e t' := ⟨fun pins s σ H Q I q => h.run pins s σ H Q I (w σ H Q q)⟩
theorem ps_imp {e : Stmt} {t t' : TS} (h : PS X e t) (w : ∀ D σ H, t' D σ H → t D σ H) : PS X e t' := ⟨fun pins s σ H D I q => h.run pins s σ H D I (w D σ H q)⟩
theorem pg_imp {e : Expr} {t t' : TG} (h : PG X e t) (w : ∀ v σ H Q, t' v σ H Q → t v σ H Q) : PG X e t' := ⟨fun pins s σ H v u Q I r q => h.run pins s σ H v u Q I r (w v σ H Q q)⟩
theorem pgs_imp {e : List Expr} {t t' : TGs} (h : PGs X e t) (w : ∀ v σ H Q, t' v σ H Q → t v σ H Q) : PGs X e t' := ⟨fun pins s σ H v u Q I r q => h.run pins s σ H v u Q I r (w v σ H Q q)⟩
theorem opR_imp {f : Value → Value → Sem Value} {r r' : R2} (h : OpR X f r) (w : ∀ x y H Q, r' x y H Q → r x y H Q) : OpR X f r' := fun pins s σ H x y v u Q I rx ry q => h pins s σ H x y v u Q I rx ry (w x y H Q q)
theorem ixR_imp {r r' : R2} (h : IxR X r) (w : ∀ x y H Q, r' x y H Q → r x y H Q) : IxR X r' := fun value slice pins s σ H x y v u Q I rx ry q => h value slice pins s σ H x y v u Q I rx ry (w x y H Q q)
theorem slR_imp {r r' : V → Option Int → Option Int → Hp → VK → Prop} (h : SlR X r) (w : ∀ x l u H Q, r' x l u H Q → r x l u H Q) : SlR X r' := fun pins s σ H x v vl vu lo hi sl Q I rx hs pl pu q => h pins s σ H x v vl vu lo hi sl Q I rx hs pl pu (w _ _ _ _ _ q)
theorem callR_imp {f : Value} {r r' : List V → Hp → VK → Prop} (h : CallR X f r) (w : ∀ x H Q, r' x H Q → r x H Q) : CallR X f r' := fun pins s σ H xs us Q I r q => h pins s σ H xs us Q I r (w _ _ _ q)
end

/-! ### texts as lists of codes -/
def S (l : List Nat) : Str := ⟨l.toArray⟩
theorem S_cps (l : List Nat) : (S l).cps.toList = l := by simp [S]
theorem S_len (l : List Nat) : (S l).length = l.length := by simp [S, Str.length]
theorem S_app (a b : List Nat) : S a ++ S b = S (a ++ b) := by
  show (⟨a.toArray ++ b.toArray⟩ : Str) = ⟨(a ++ b).toArray⟩
  rw [← List.append_toArray]
theorem S_inj {a b : List Nat} : S a = S b ↔ a = b := by
  constructor
  · intro h
    have := congrArg (fun s : Str => s.cps.toList) h
    simpa [S] using this
  · rintro rfl; rfl
theorem S_of (z : Str) : S z.cps.toList = z := by
  cases z; simp [S]
theorem S_one (c : Nat) : (⟨#[c]⟩ : Str) = S [c] := rfl
theorem str_S (a b : List Nat) : (V.str (S a) = V.str (S b)) ↔ a = b := by
  rw [V.str.injEq, S_inj]

/-! ### slots -/
abbrev Sl := List (Option V)
def gt : Sl → Nat → Option V
  | [], _ => none
  | x :: _, 0 => x
  | _ :: r, n + 1 => gt r n
theorem gt_some : ∀ {σ : Sl} {i : Nat} {v : V}, gt σ i = some v → σ[i]? = some (some v)
  | [], _, _, h => by cases h
  | x :: _, 0, v, h => by
    have h' : x = some v := h
    rw [h']; rfl
  | _ :: r, n + 1, v, h => by
    have := gt_some (σ := r) (i := n) (v := v) h
    simpa using this
def mVar (i : Nat) : TE := fun σ H Q => match gt σ i with | some v => Q v H | none => False
def mC (v : V) : TE := fun _ H Q => Q v H
section
variable {X : Cx} {a b : Expr} {ta tb : TE} {pos : Pos}
theorem mv (i : Nat) {x : Str} {pos : Pos} (hN : X.N[i]? = some x := by rfl) (hv : Vis X.env.scope x := by first | exact Or.inl rfl | exact Or.inr (Or.inl rfl) | exact Or.inr (Or.inr rfl)) (hd : (x == ("__debug__" : Str)) = false := by decide)
    (hcd : (x == ("__classdict__" : Str)) = false := by decide) : PE X (.Name x pos) (mVar i) := pe_imp (pe_var hN hv hd hcd) fun σ H Q q => by
  unfold mVar at q
  cases e : gt σ i with
  | none => rw [e] at q; exact q.elim
  | some v => rw [e] at q; exact ⟨v, gt_some e, q⟩
theorem me_int {i j pos} : PE X (.Constant (.int i) j pos) (mC (.int i)) := pe_int
theorem me_bl {i j pos} : PE X (.Constant (.bool i) j pos) (mC (.bl i)) := pe_bl
theorem me_non {j pos} : PE X (.Constant .none j pos) (mC .non) := pe_non
theorem me_str (l : List Nat) {x j pos} (h : x = S l) : PE X (.Constant (.str x) j pos) (mC (.str (S l))) := by subst h; exact pe_str
theorem me_gint {x : Str} {i : Int} {t : Tok} {pos : Pos} (hg : Gl X x) (hm : X.mg x = some (.int i t)) (hd : (x == ("__debug__" : Str)) = false := by decide) : PE X (.Name x pos) (mC (.int i)) := pe_glob hg hm ⟨t, rfl⟩ hd
theorem me_gstr (l : List Nat) {x z : Str} {t : Tok} {pos : Pos} (hg : Gl X x) (hm : X.mg x = some (.str z t)) (h : z = S l) (hd : (x == ("__debug__" : Str)) = false := by decide) : PE X (.Name x pos) (mC (.str (S l))) := by
  subst h; exact pe_glob hg hm ⟨t, rfl⟩ hd

/-! ### operators -/
/-- a number below this many bits in all -/
def MulOk (i j : Int) : Prop := i.natAbs.log2 + j.natAbs.log2 < 1000000
theorem MulOk.of {i j : Int} (a b : Nat) (ha : i.natAbs < 2 ^ a) (hb : j.natAbs < 2 ^ b) (h0 : 0 < a := by decide) (h1 : 0 < b := by decide) (h : a + b ≤ 1000000 := by decide) : MulOk i j := wide_mul ha hb h0 h1 h
def DivOk (j : Int) : Prop := 0 < j ∧ j.natAbs.log2 < 9000
theorem DivOk.of {j : Int} (b : Nat) (h : 0 < j) (hb : j.natAbs < 2 ^ b) (h0 : 0 < b := by decide) (h9 : b ≤ 9000 := by decide) : DivOk j := wide_div (i := 0) h hb h0 h9
def mAdd : R2 := fun x y H Q => match x, y with
  | .int i, .int j => Q (.int (i + j)) H
  | .str a, .str b => a.length + b.length ≤ sizeLine ∧ Q (.str (a ++ b)) H
  | .ref a, .ref b => (∃ xs zs, H a = some (.lst xs) ∧ H b = some (.lst zs) ∧ xs.length + zs.length ≤ sizeLine ∧ ∀ p, H p = none → Q (.ref p) (upd H p (.lst (xs ++ zs))))
  | .int i, .bl k => Q (.int (i + b2i k)) H
  | _, _ => False
theorem op_addM : OpR X (binaryOp .Add) mAdd := by
  intro pins s σ H x y v u Q I rx ry q
  unfold mAdd at q
  split at q
  · exact op_add pins s σ H _ _ v u Q I rx ry ⟨_, _, rfl, rfl, q⟩
  · exact op_add_str pins s σ H _ _ v u Q I rx ry ⟨_, _, rfl, rfl, q⟩
  · obtain ⟨xs, zs, h1, h2, h3, h4⟩ := q
    exact op_cat pins s σ H _ _ v u Q I rx ry ⟨_, _, xs, zs, rfl, rfl, h1, h2, h3, h4⟩
  · exact op_add_ib pins s σ H _ _ v u Q I rx ry ⟨_, _, rfl, rfl, q⟩
  · exact q.elim
def mSub : R2 := fun x y H Q => match x, y with
  | .int i, .int j => Q (.int (i - j)) H
  | _, _ => False
theorem op_subM : OpR X (binaryOp .Sub) mSub := opR_imp op_sub fun x y H Q q => by
  unfold mSub at q
  split at q
  · exact ⟨_, _, rfl, rfl, q⟩
  · exact q.elim
def mMul : R2 := fun x y H Q => match x, y with
  | .int i, .int j => MulOk i j ∧ Q (.int (i * j)) H
  | .ref l, .int k => ∃ xs, H l = some (.lst xs) ∧ -(2 ^ 63) ≤ k ∧ k < 2 ^ 63 ∧ xs.length * k.toNat ≤ sizeLine ∧ ∀ p, H p = none → Q (.ref p) (upd H p (.lst (List.replicate k.toNat xs).flatten))
  | _, _ => False
theorem op_mulM : OpR X (binaryOp .Mult) mMul := by
  intro pins s σ H x y v u Q I rx ry q
  unfold mMul at q
  split at q
  · exact op_mulW pins s σ H _ _ v u Q I rx ry ⟨_, _, rfl, rfl, q⟩
  · obtain ⟨xs, h1, h2, h3, h4, h5⟩ := q
    exact op_rep pins s σ H _ _ v u Q I rx ry ⟨_, _, xs, rfl, rfl, h1, h2, h3, h4, h5⟩
  · exact q.elim
def mMod : R2 := fun x y H Q => match x, y with
  | .int i, .int j => 0 < j ∧ Q (.int (i % j)) H
  | _, _ => False
theorem op_modM : OpR X (binaryOp .Mod) mMod := opR_imp op_mod fun x y H Q q => by
  unfold mMod at q
  split at q
  · exact ⟨_, _, rfl, rfl, q⟩
  · exact q.elim
def mDiv : R2 := fun x y H Q => match x, y with
  | .int i, .int j => DivOk j ∧ Q (.int (i / j)) H
  | _, _ => False
theorem op_divM : OpR X (binaryOp .FloorDiv) mDiv := opR_imp op_fdivW fun x y H Q q => by
  unfold mDiv at q
  split at q
  · exact ⟨_, _, rfl, rfl, q⟩
  · exact q.elim
def mPow : R2 := fun x y H Q => match x, y with
  | .int i, .int j => (0 ≤ j ∧ (Builtin.Int.intBits i : Int) * j ≤ 2 ^ 27) ∧ Q (.int (i ^ j.toNat)) H
  | _, _ => False
theorem op_powM : OpR X (binaryOp .Pow) mPow := by
  intro pins s σ H x y v u Q I rx ry q
  unfold mPow at q
  split at q
  · obtain ⟨t, rfl⟩ := rx
    obtain ⟨t', rfl⟩ := ry
    exact pow_int q.1.1 q.1.2 ⟨.int _, H, I.tok _, ⟨_, rfl⟩, q.2⟩
  · exact q.elim

/-! ### comparisons -/
def mEqB (x y : V) : Option Bool := match x, y with
  | .int i, .int j => some (decide (i = j))
  | .str a, .str b => some (decide (a = b))
  | .bl a, .bl b => some (decide (a = b))
  | .non, .non => some true
  | .non, .int _ => some false
  | .non, .str _ => some false
  | .non, .bl _ => some false
  | .int _, .non => some false
  | .str _, .non => some false
  | .bl _, .non => some false
  | .int _, .str _ => some false
  | .str _, .int _ => some false
  | .bl _, .str _ => some false
  | .str _, .bl _ => some false
  | _, _ => none
theorem mEqB_ok {x y : V} {b : Bool} (h : mEqB x y = some b) : scal x y = true ∧ decide (x = y) = b := by
  unfold mEqB at h
  split at h <;> (try cases h) <;> refine ⟨rfl, ?_⟩ <;> simp
/-- == of data, one of both not deep -/
def rEqW (K : PySem.W.Frag) (neg : Bool) : R2 := fun x y H Q => ∃ d e, Dp K H x d ∧ Dp K H y e ∧ d.canLay0 = true ∧ e.canLay0 = true ∧ min d.depth e.depth ≤ 64 ∧ Q (.bl (if neg then !PyData.eqv d e else PyData.eqv d e)) H
theorem op_eqW (hu : X.A.units + 64 < cLine) : OpR X (compareOp .Eq) (rEqW X.K false) := by
  intro pins s σ H x y v u Q I rx ry h
  obtain ⟨d, e, hd, he, sd, se, hm, q⟩ := h
  obtain ⟨as, r1⟩ := Dp.reads I d x v hd rx
  obtain ⟨bs, r2⟩ := Dp.reads I e y u he ry
  exact SeqAt.compareEq_reads r1 r2 sd se (by omega) ⟨.bl _, H, I, rfl, q⟩
theorem op_neW (hu : X.A.units + 64 < cLine) : OpR X (compareOp .NotEq) (rEqW X.K true) := by
  intro pins s σ H x y v u Q I rx ry h
  obtain ⟨d, e, hd, he, sd, se, hm, q⟩ := h
  obtain ⟨as, r1⟩ := Dp.reads I d x v hd rx
  obtain ⟨bs, r2⟩ := Dp.reads I e y u he ry
  exact SeqAt.compareNe_reads r1 r2 sd se (by omega) ⟨.bl _, H, I, rfl, q⟩
def mEq (K : PySem.W.Frag) : R2 := fun x y H Q => match mEqB x y with
  | some b => Q (.bl b) H
  | none => rEqW K false x y H Q
def mNe (K : PySem.W.Frag) : R2 := fun x y H Q => match mEqB x y with
  | some b => Q (.bl (!b)) H
  | none => rEqW K true x y H Q
theorem op_eqM (hu : X.A.units + 64 < cLine) : OpR X (compareOp .Eq) (mEq X.K) := by
  intro pins s σ H x y v u Q I rx ry q
  unfold mEq at q
  split at q
  · rename_i b e
    obtain ⟨h1, h2⟩ := mEqB_ok e
    refine op_eq pins s σ H _ _ v u Q I rx ry ⟨h1, ?_⟩
    rw [h2]; exact q
  · exact op_eqW hu pins s σ H _ _ v u Q I rx ry q
theorem op_neM (hu : X.A.units + 64 < cLine) : OpR X (compareOp .NotEq) (mNe X.K) := by
  intro pins s σ H x y v u Q I rx ry q
  unfold mNe at q
  split at q
  · rename_i b e
    obtain ⟨h1, h2⟩ := mEqB_ok e
    refine op_ne pins s σ H _ _ v u Q I rx ry ⟨h1, ?_⟩
    rw [h2]; exact q
  · exact op_neW hu pins s σ H _ _ v u Q I rx ry q
def mCmp (p : Int → Int → Bool) : R2 := fun x y H Q => match x, y with
  | .int i, .int j => Q (.bl (p i j)) H
  | _, _ => False
theorem cmp_imp {p : Int → Int → Bool} {f : Value → Value → Sem Value} (h : OpR X f (rI0 fun i j => .bl (p i j))) : OpR X f (mCmp p) := opR_imp h fun x y H Q q => by
  unfold mCmp at q
  split at q
  · exact ⟨_, _, rfl, rfl, q⟩
  · exact q.elim
def mLt : R2 := mCmp fun i j => decide (i < j)
def mLe : R2 := mCmp fun i j => decide (i ≤ j)
def mGt : R2 := mCmp fun i j => decide (j < i)
def mGe : R2 := mCmp fun i j => decide (j ≤ i)
theorem op_ltM : OpR X (compareOp .Lt) mLt := cmp_imp op_lt
theorem op_leM : OpR X (compareOp .LtE) mLe := cmp_imp op_le
theorem op_gtM : OpR X (compareOp .Gt) mGt := cmp_imp op_gt
theorem op_geM : OpR X (compareOp .GtE) mGe := cmp_imp op_ge
/-- is None, is not None -/
def isN : V → Bool
  | .non => true
  | _ => false
theorem isN_eq (x : V) : decide (x = .non) = isN x := by cases x <;> simp [isN]
def mIsN : R2 := fun x y H Q => match y with
  | .non => Q (.bl (isN x)) H
  | _ => False
def mNotN : R2 := fun x y H Q => match y with
  | .non => Q (.bl (!isN x)) H
  | _ => False
theorem op_isNM : OpR X (compareOp .Is) mIsN := opR_imp op_isN fun x y H Q q => by
  unfold mIsN at q
  split at q
  · exact ⟨rfl, by rw [isN_eq]; exact q⟩
  · exact q.elim
theorem op_notNM : OpR X (compareOp .IsNot) mNotN := opR_imp op_notN fun x y H Q q => by
  unfold mNotN at q
  split at q
  · exact ⟨rfl, by rw [isN_eq]; exact q⟩
  · exact q.elim
/-- x in a list or tuple of flat things -/
def mInS (K : PySem.W.Frag) : R2 := fun x y H Q => rIn K false x y H Q
def mNinS (K : PySem.W.Frag) : R2 := fun x y H Q => rIn K true x y H Q
theorem op_inSM : OpR X (compareOp .In) (mInS X.K) := op_in_seq
theorem op_ninSM : OpR X (compareOp .NotIn) (mNinS X.K) := op_notIn_seq
/-- one sign in a text -/
def mInC : R2 := fun x y H Q => match x, y with
  | .str c, .str z => ∃ k, c = S [k] ∧ Q (.bl (decide (k ∈ z.cps.toList))) H
  | _, _ => False
theorem op_inCM : OpR X (compareOp .In) mInC := opR_imp op_in_sign fun x y H Q q => by
  unfold mInC at q
  split at q
  · obtain ⟨k, rfl, q⟩ := q
    exact ⟨k, _, rfl, rfl, q⟩
  · exact q.elim
def mNinC : R2 := fun x y H Q => match x, y with
  | .str c, .str z => ∃ k, c = S [k] ∧ Q (.bl (!decide (k ∈ z.cps.toList))) H
  | _, _ => False
theorem op_ninCM : OpR X (compareOp .NotIn) mNinC := opR_imp op_notIn_sign fun x y H Q q => by
  unfold mNinC at q
  split at q
  · obtain ⟨k, rfl, q⟩ := q
    exact ⟨k, _, rfl, rfl, q⟩
  · exact q.elim

/-! ### tests -/
def mTest (t : TE) : TT := fun σ H Q => t σ H fun x H' => match x with
  | .bl k => Q k H'
  | _ => False
def bX (Q : Bool → Hp → Prop) : VK := fun x H' => ∃ k, x = .bl k ∧ Q k H'
theorem bX_of {Q : Bool → Hp → Prop} {x : V} {H : Hp} (q : match x with | .bl k => Q k H | _ => False) : ∃ k, x = .bl k ∧ Q k H := by
  cases x with
  | bl k => exact ⟨k, rfl, q⟩
  | _ => exact q.elim
end
end M

namespace M
open PySem PySem.Spec PyProof.Rows L2

/-! ### a reading's closure: what it wants may be weaker than what is given -/
def cl (t : TE) : TE := fun σ H Q => ∃ Q' : VK, t σ H Q' ∧ ∀ v H', Q' v H' → Q v H'
def clT (t : TT) : TT := fun σ H Q => ∃ Q' : Bool → Hp → Prop, t σ H Q' ∧ ∀ v H', Q' v H' → Q v H'
def clA (t : TA) : TA := fun σ H Q => ∃ Q' : List V → Hp → Prop, t σ H Q' ∧ ∀ v H', Q' v H' → Q v H'
section
variable {X : Cx} {a b c : Expr} {ta tb tc : TE} {pos : Pos} {t u : TT}
theorem pe_cl (h : PE X a ta) : PE X a (cl ta) := ⟨fun pins s σ H Q I ⟨Q', q, w⟩ => thn (h.run pins s σ H Q' I q) fun _ _ ⟨v, H', I', r, z⟩ => ⟨v, H', I', r, w v H' z⟩⟩
theorem pt_cl (h : PT X a t) : PT X a (clT t) := ⟨fun pins s σ H Q I ⟨Q', q, w⟩ => thn (h.run pins s σ H Q' I q) fun _ _ ⟨H', I', z⟩ => ⟨H', I', w _ H' z⟩⟩
theorem pa_cl {es : List Expr} {t : TA} (h : PA X es t) : PA X es (clA t) := ⟨fun pos pins s σ H Q I ⟨Q', q, w⟩ => thn (h.run pos pins s σ H Q' I q) fun _ _ ⟨v, H', I', r, z⟩ => ⟨v, H', I', r, w v H' z⟩⟩
def clR (r : R2) : R2 := fun x y H Q => ∃ Q' : VK, r x y H Q' ∧ ∀ v H', Q' v H' → Q v H'
theorem opR_cl {f : Value → Value → Sem Value} {r : R2} (h : OpR X f r) : OpR X f (clR r) := fun pins s σ H x y v u Q I rx ry ⟨Q', q, w⟩ => thn (h pins s σ H x y v u Q' I rx ry q) fun _ _ ⟨v, H', I', r, z⟩ => ⟨v, H', I', r, w v H' z⟩

/-! ### tests -/
theorem mt_val (h : PE X a ta) (he : ∀ whole, isTrue a X.env whole = (do let v ← whole; standAt a.pos; holding [v] (truthy v)) := by intro _; rfl) : PT X a (mTest ta) :=
  pt_imp (pt_val (pe_cl h) he) fun σ H Q q => ⟨_, q, fun v H' z => bX_of z⟩
theorem mt_cmp {op : CmpOp} {r : R2} (ho : OpR X (compareOp op) r) (ha : PE X a ta) (hb : PE X b tb) (hm : behindInMarks op b = false) : PT X (.Compare a [op] [b] pos) (mTest (tOp r ta tb)) :=
  pt_imp (pt_cmpR (opR_cl ho) (pe_cl ha) (pe_cl hb) hm) fun σ H Q q => ⟨_, q, fun x H1 q1 => ⟨_, q1, fun y H2 q2 => ⟨_, q2, fun z H3 q3 => bX_of q3⟩⟩⟩
def mChain (r r' : R2) (ta tb tc : TE) : TE := fun σ H Q => ta σ H fun x H1 => tb σ H1 fun y H2 => r x y H2 fun z H3 => match z with
  | .bl true => tc σ H3 fun w H4 => r' y w H4 Q
  | .bl false => Q (.bl false) H3
  | _ => False
/-! and, or, not as values -/
def mAndV (ta tb : TE) : TE := fun σ H Q => ta σ H fun x H1 => match x with
  | .bl c => if c = true then tb σ H1 Q else Q (.bl false) H1
  | _ => False
def mOrV (ta tb : TE) : TE := fun σ H Q => ta σ H fun x H1 => match x with
  | .bl c => if c = true then Q (.bl true) H1 else tb σ H1 Q
  | _ => False
def mNotV (ta : TE) : TE := fun σ H Q => ta σ H fun x H1 => match x with
  | .bl c => Q (.bl (!c)) H1
  | _ => False
variable {rest : List Expr}
theorem me_and (ha : PE X a ta) (hb : PE X (.BoolOp .And (b :: rest) pos) tb) : PE X (.BoolOp .And (a :: b :: rest) pos) (mAndV ta tb) :=
  pe_imp (pe_and (pe_cl ha) hb) fun σ H Q q => ⟨_, q, fun x H1 z => by
    cases x with
    | bl c => exact ⟨c, rfl, z⟩
    | _ => exact z.elim⟩
theorem me_or (ha : PE X a ta) (hb : PE X (.BoolOp .Or (b :: rest) pos) tb) : PE X (.BoolOp .Or (a :: b :: rest) pos) (mOrV ta tb) :=
  pe_imp (pe_or (pe_cl ha) hb) fun σ H Q q => ⟨_, q, fun x H1 z => by
    cases x with
    | bl c => exact ⟨c, rfl, z⟩
    | _ => exact z.elim⟩
theorem me_not (ha : PE X a ta) : PE X (.UnaryOp .Not a pos) (mNotV ta) :=
  pe_imp (pe_not (pe_cl ha)) fun σ H Q q => ⟨_, q, fun x H1 z => by
    cases x with
    | bl c => exact ⟨c, rfl, z⟩
    | _ => exact z.elim⟩
def mUn (f : Int → Int) (ta : TE) : TE := fun σ H Q => ta σ H fun x H1 => match x with
  | .int i => Q (.int (f i)) H1
  | _ => False
theorem me_neg (ha : PE X a ta) : PE X (.UnaryOp .USub a pos) (mUn (fun i => -i) ta) :=
  pe_imp (pe_un un_neg (pe_cl ha)) fun σ H Q q => ⟨_, q, fun x H1 z => by
    cases x with
    | int i => exact ⟨i, rfl, z⟩
    | _ => exact z.elim⟩

/-! ### subscripts -/
def mIx (K : PySem.W.Frag) : R2 := fun x y H Q => match x, y with
  | .str z, .int i => z.length ≤ sizeLine ∧ ∃ c, atI z.cps.toList i = some c ∧ Q (.str (S [c])) H
  | .ref p, .int i => ∃ xs v, (SqL K H p xs ∨ SqT K H p xs) ∧ atI xs i = some v ∧ Q v H
  | _, _ => False
theorem ix_M : IxR X (mIx X.K) := ixR_imp ix_seq fun x y H Q q => by
  unfold mIx at q
  split at q
  · obtain ⟨h, c, e, q⟩ := q
    exact .inr (.inr ⟨_, _, c, rfl, rfl, h, e, q⟩)
  · obtain ⟨xs, v, h | h, e, q⟩ := q
    · exact .inl ⟨_, xs, _, v, rfl, rfl, h, e, q⟩
    · exact .inr (.inl ⟨_, xs, _, v, rfl, rfl, h, e, q⟩)
  · exact q.elim
theorem me_ix (ha : PE X a ta) (hb : PE X b tb) (hs : PlainIx b) : PE X (.Subscript a b pos) (tOp (mIx X.K) ta tb) := pe_ix ix_M ha hb hs
def mPart (t : TE) : TO := fun σ H Q => t σ H fun x H1 => match x with
  | .int i => Q (some i) H1
  | _ => False
theorem mo_some (h : PE X a ta) : PO X (some a) (mPart ta) := by
  have z := po_some (pe_cl h)
  exact ⟨fun pins s σ H Q I q => z.run pins s σ H Q I ⟨_, q, fun x H1 y => by
    cases x with
    | int i => exact ⟨i, rfl, y⟩
    | _ => exact y.elim⟩⟩
/-- l[lo:hi] -/
def cutL {α : Type} (l : List α) (lo hi : Option Int) : List α := (l.drop (HT.sIx l.length 0 lo)).take (HT.sIx l.length l.length hi - HT.sIx l.length 0 lo)
def mSl (K : PySem.W.Frag) : V → Option Int → Option Int → Hp → VK → Prop := fun x lo hi H Q => match x with
  | .str z => z.length ≤ sizeLine ∧ Q (.str (S (cutL z.cps.toList lo hi))) H
  | .ref a => (∃ xs, SqL K H a xs ∧ ∀ p, H p = none → Q (.ref p) (upd H p (.lst (cutL xs lo hi))))
  | _ => False
theorem sl_M : SlR X (mSl X.K) := slR_imp (sl_str.or sl_list) fun x lo hi H Q q => by
  unfold mSl at q
  split at q
  · exact .inl ⟨_, rfl, q.1, q.2⟩
  · obtain ⟨xs, h, q⟩ := q
    exact .inr ⟨_, xs, rfl, h, q⟩
  · exact q.elim
theorem me_slice {lo hi : Option Expr} {tl th : TO} {p2 : Pos} (ha : PE X a ta) (hl : PO X lo tl) (hh : PO X hi th) : PE X (.Subscript a (.Slice lo hi none p2) pos) (tSl (mSl X.K) ta tl th) := pe_slice sl_M ha hl hh
end

/-! ### statements -/
section
variable {X : Cx} {pos : Pos}
/-- (a, b, ..) = a tuple -/
def mgTup (K : PySem.W.Frag) (n : Nat) (t : TGs) : TG := fun v σ H Q => match v with
  | .ref a => ∃ xs, SqT K H a xs ∧ xs.length = n ∧ t xs σ H Q
  | _ => False
theorem mg_tup {es : List Expr} {k : Nat} {t : TGs} {n : Nat} (hc : X.calm = true) (h : PGs X es t)
    (hn : (assignEach es X.env).length = n := by rfl) (hst : (assignEach es X.env).findIdx? (·.1) = none := by rfl) : PG X (.Tuple es k pos) (mgTup X.K n t) :=
  pg_imp (pg_tup hc h hn hst) fun v σ H Q q => by
    unfold mgTup at q
    split at q
    · obtain ⟨xs, h, q⟩ := q
      exact ⟨_, xs, rfl, h, q⟩
    · exact q.elim
def mgNil : TGs := fun vs σ H Q => match vs with
  | [] => Q σ H
  | _ => False
def mgCons (t : TG) (u : TGs) : TGs := fun vs σ H Q => match vs with
  | v :: r => t v σ H fun σ' H' => u r σ' H' Q
  | [] => False
theorem mgs_nil : PGs X [] mgNil := pgs_imp pgs_nil fun vs σ H Q q => by
  cases vs with
  | nil => exact ⟨rfl, q⟩
  | cons _ _ => exact q.elim
theorem mgs_cons {e : Expr} {es : List Expr} {t : TG} {u : TGs} (h1 : PG X e t) (h2 : PGs X es u)
    (hs : (assignEach (e :: es) X.env).map (·.2) = assign e X.env :: (assignEach es X.env).map (·.2) := by rfl) : PGs X (e :: es) (mgCons t u) := pgs_imp (pgs_cons h1 h2 hs) fun vs σ H Q q => by
  cases vs with
  | nil => exact q.elim
  | cons v r => exact ⟨v, r, rfl, q⟩
/-- o[i] = v, a list -/
def mSetL : V → V → V → Hp → (Hp → Prop) → Prop := fun o i v H Q => match o, i with
  | .ref p, .int k => ∃ xs j, H p = some (.lst xs) ∧ ixN xs.length k = some j ∧ Q (upd H p (.lst (xs.set j v)))
  | _, _ => False
theorem set_listM : PSet X mSetL := fun pins s σ H o i v ov iv u Q I ro ri rv q => by
  unfold mSetL at q
  split at q
  · obtain ⟨xs, j, h1, h2, q⟩ := q
    exact set_list pins s σ H _ _ v ov iv u Q I ro ri rv ⟨_, xs, _, j, rfl, rfl, h1, h2, q⟩
  · exact q.elim
/-- a, b = x, y -/
def mPar (i j : Nat) (ta : TA) : TS := fun D σ H => ta σ H fun vs H1 => match vs with
  | [v, w] => D.nx ((σ.set i (some v)).set j (some w)) H1
  | _ => False
theorem ms_par {i j : Nat} {x y : Str} {a b : Expr} {ta : TA} {px py pt : Pos} {kt k2 pt2} (hc : X.calm = true) (hN : X.N.Nodup) (hi : X.N[i]? = some x) (hj : X.N[j]? = some y) (hij : i ≠ j)
    (hx : X.env.scope.names.lookup x = some .local) (hy : X.env.scope.names.lookup y = some .local) (ha : PA X [a, b] ta)
    (hw : swappedStores [.Tuple [.Name x px, .Name y py] kt pt] (.Tuple [a, b] k2 pt2) X.env = pure (some [x, y]))
    (hs : swapsWithSole [.Tuple [.Name x px, .Name y py] kt pt] (.Tuple [a, b] k2 pt2) pos.line X.env = pure false := by rfl) :
    PS X (.Assign [.Tuple [.Name x px, .Name y py] kt pt] (.Tuple [a, b] k2 pt2) pos) (mPar i j ta) :=
  ps_imp (ps_par hc hN hi hj hij hx hy (pa_cl ha) hw hs) fun D σ H q => ⟨_, q, fun vs H1 z => by
    split at z
    · exact ⟨_, _, rfl, z⟩
    · exact z.elim⟩
/-- name op= e -/
def mAug (i : Nat) (te : TE) (r : R2) : TS := fun D σ H => match gt σ i with
  | some x => te σ H fun y H1 => r x y H1 fun z H2 => D.nx (σ.set i (some z)) H2
  | none => False
theorem ms_aug {i : Nat} {x : Str} {e : Expr} {te : TE} {op : Operator} {r : R2} {pos' : Pos} (hN : X.N.Nodup) (hi : X.N[i]? = some x) (hx : Loc X.env.scope x) (he : PE X e te) (ho : OpR X (inplaceOp op) r) (hf : X.fn x = true ∨ X.env.scope.names.lookup x = some .local := by first | exact .inl rfl | exact .inr rfl | assumption) :
    PS X (.AugAssign (.Name x pos') op e pos) (mAug i te r) :=
  ps_imp (ps_aug hN hi hx he (ti := r) (fun pins s σ H x y v u Q I r1 r2 h => ho pins s σ H x y v u Q I r1 r2 h) hf) fun D σ H q => by
    unfold mAug at q
    split at q
    · rename_i x e
      exact ⟨x, gt_some e, q⟩
    · exact q.elim
def iAdd : R2 := fun x y H Q => match x, y with
  | .int i, .int j => Q (.int (i + j)) H
  | .str a, .str b => a.length + b.length ≤ sizeLine ∧ Q (.str (a ++ b)) H
  | _, _ => False
theorem iop_addM : OpR X (inplaceOp .Add) iAdd := by
  intro pins s σ H x y v u Q I rx ry q
  unfold iAdd at q
  split at q
  · exact iop_add pins s σ H _ _ v u Q I rx ry ⟨_, _, rfl, rfl, q⟩
  · exact iop_add_str pins s σ H _ _ v u Q I rx ry ⟨_, _, rfl, rfl, q⟩
  · exact q.elim
theorem iop_subM : OpR X (inplaceOp .Sub) mSub := opR_imp iop_sub fun x y H Q q => by
  unfold mSub at q
  split at q
  · exact ⟨_, _, rfl, rfl, q⟩
  · exact q.elim
end

/-! ### what is walked -/
inductive Src where
  | v (G : Hp → Prop) (L : List V)
  | p (G : Hp → Prop) (L : List (V × V))
def Feeds (J : It) : Src → Prop
  | .v G L => Walk J L.length G (YAt L)
  | .p G L => Walk J L.length G (YPair (fun i => L[i]?.map (·.1)) (fun i => L[i]?.map (·.2)))
abbrev MI := Sl → Hp → (Src → Hp → Prop) → Prop
def toTI (wi : MI) : TI := fun σ H R => ∃ P : Src → Hp → Prop, wi σ H P ∧ ∀ s H1 J, P s H1 → Feeds J s → R J H1
section
variable {X : Cx} {tg : Expr} {l e2 : Expr} {tl t2 : TE}
def mIter (K : PySem.W.Frag) (tl : TE) : MI := fun σ H P => tl σ H fun x H1 => match x with
  | .ref a => ∃ xs, (SqL K H1 a xs ∧ P (.v (fun H => SqL K H a xs) xs) H1) ∨ (SqT K H1 a xs ∧ P (.v (fun H => SqT K H a xs) xs) H1)
  | .str z => P (.v (fun _ => True) (z.cps.toList.map fun c => .str (S [c]))) H1
  | _ => False
/-- the walk of a value, by its rule -/
def ItR (X : Cx) (tg : Expr) (r : V → Hp → (It → Hp → Prop) → Prop) : Prop :=
  ∀ (pins : List (Addr × Obj)) (s : Shared) (σ : L2.St) (H : Hp) (x : V) (v : Value) (R : It → Hp → Prop), Inv X pins σ H s → RelV x v → r x H R → wpAny (model X.prog X.w) X.A (pyIter v) (PIE X pins σ tg R) X.xe s
theorem pi_of {r : V → Hp → (It → Hp → Prop) → Prop} (he : PE X l tl) (hr : ItR X tg r) : PI X tg l (fun σ H R => tl σ H fun x H1 => r x H1 R) :=
  ⟨fun pins s σ H R I h => thn (he.run pins s σ H _ I h) fun v s1 ⟨x, H1, I1, r1, q1⟩ => hr pins s1 σ H1 x v R I1 r1 q1⟩
theorem itr_list : ItR X tg (fun x H R => ∃ a, x = .ref a ∧ (∃ xs, SqL X.K H a xs) ∧ R (Itl X.K a) H) := by
  intro pins s1 σ H1 x v R I1 r1 q1
  obtain ⟨a, e, ⟨xs, hq⟩, q⟩ := q1
  subst e
  cases r1
  obtain ⟨its, rv, p, hz⟩ := I1.list hq
  refine wpAny_pyIter_list p.isList ?_
  refine ⟨s1.heap.objs.size, [s1.heap.objs.size], _, _, H1, rfl, I1.kept (t' := s1.toks) fun b o e => Heap.get?_push_of_some _ e, turn_list a _, ⟨_, Heap.get?_push_size _ rfl, rfl, rfl⟩, fun b hb => ?_, q⟩
  have e : b = s1.heap.objs.size := by simpa using hb
  subst e
  exact I1.fpOk (Nat.le_refl _) (I1.hok.fresh (Nat.le_refl _))
theorem itr_tup : ItR X tg (fun x H R => ∃ a, x = .ref a ∧ (∃ xs, SqT X.K H a xs) ∧ R (Itt X.K a) H) := by
  intro pins s1 σ H1 x v R I1 r1 q1
  obtain ⟨a, e, ⟨xs, hq⟩, q⟩ := q1
  subst e
  cases r1
  obtain ⟨its, rv, p, hz⟩ := I1.tuple hq
  refine wpAny_pyIter_tuple (show s1.heap.IsTuple a its.toArray from p) ?_
  refine ⟨s1.heap.objs.size, [s1.heap.objs.size], _, _, H1, rfl, I1.kept (t' := s1.toks) fun b o e => Heap.get?_push_of_some _ e, turn_tuple a _, ⟨_, Heap.get?_push_size _ rfl, rfl, rfl⟩, fun b hb => ?_, q⟩
  have e : b = s1.heap.objs.size := by simpa using hb
  subst e
  exact I1.fpOk (Nat.le_refl _) (I1.hok.fresh (Nat.le_refl _))
theorem itr_str : ItR X tg (fun x H R => ∃ z, x = .str z ∧ R (Its z) H) := by
  intro pins s1 σ H1 y v R I1 r1 q1
  obtain ⟨x, ex, q⟩ := q1
  subst ex
  obtain ⟨t, rfl⟩ := r1
  cases ha : x.cps.all (· < 128)
  · exact wpAny_pyIter_wide ha (pi_one (tk := s1.toks) I1 _ (turn_str _ x t "str_iterator" (.inr rfl)) ⟨_, Heap.get?_push_size _ rfl, rfl, rfl⟩ q)
  · exact wpAny_pyIter_ascii ha (pi_one (tk := s1.toks) I1 _ (turn_str _ x t "str_ascii_iterator" (.inl rfl)) ⟨_, Heap.get?_push_size _ rfl, rfl, rfl⟩ q)
theorem feeds_list {K : PySem.W.Frag} {a : Addr} {xs : List V} : Feeds (Itl K a) (.v (fun H => SqL K H a xs) xs) := walk_list
theorem feeds_tup {K : PySem.W.Frag} {a : Addr} {xs : List V} : Feeds (Itt K a) (.v (fun H => SqT K H a xs) xs) := walk_tup
theorem feeds_str {z : Str} : Feeds (Its z) (.v (fun _ => True) (z.cps.toList.map fun c => .str (S [c]))) := by
  have e : z.cps.size = (z.cps.toList.map fun c => V.str (S [c])).length := by simp
  have w := walk_str (z := z)
  rw [e] at w
  refine Walk.mono w (fun _ h => h) fun i H x H' _ _ ⟨h1, c, h2, h3⟩ => ⟨h1, ?_⟩
  rw [List.getElem?_map, Array.getElem?_toList, h2, h3]; rfl
theorem pi_iterM (he : PE X l tl) : PI X tg l (toTI (mIter X.K tl)) := by
  refine ⟨fun pins s σ H R I ⟨P, q, w⟩ => thn (he.run pins s σ H _ I q) fun v s1 ⟨x, H1, I1, r1, q1⟩ => ?_⟩
  cases x with
  | ref a =>
    obtain ⟨xs, h | h⟩ := q1
    · exact itr_list pins s1 σ H1 _ v R I1 r1 ⟨a, rfl, ⟨xs, h.1⟩, w _ _ _ h.2 feeds_list⟩
    · exact itr_tup pins s1 σ H1 _ v R I1 r1 ⟨a, rfl, ⟨xs, h.1⟩, w _ _ _ h.2 feeds_tup⟩
  | str z => exact itr_str pins s1 σ H1 _ v R I1 r1 ⟨z, rfl, w _ _ _ q1 feeds_str⟩
  | _ => exact q1.elim
theorem pi_imp {t t' : TI} (h : PI X tg l t) (w : ∀ σ H R, t' σ H R → t σ H R) : PI X tg l t' := ⟨fun pins s σ H R I q => h.run pins s σ H R I (w σ H R q)⟩
/-- range(n), range(a, b) -/
def upto (lo : Int) (n : Nat) : List V := (List.range n).map fun (i : Nat) => V.int (lo + (i : Int))
theorem upto_zero (lo : Int) : upto lo 0 = [] := rfl
theorem upto_succ (lo : Int) (n : Nat) : upto lo (n + 1) = .int lo :: upto (lo + 1) n := by
  unfold upto
  rw [List.range_succ_eq_map]
  simp only [List.map_cons, List.map_map]
  congr 1
  · simp
  · apply List.map_congr_left
    intro i _
    show V.int _ = V.int _
    congr 1
    simp
    omega
theorem feeds_range {lo : Int} {n : Nat} : Feeds (Itr lo n) (.v (fun _ => True) (upto lo n)) := by
  have e : n = (upto lo n).length := by simp [upto]
  have w := walk_range (lo := lo) (n := n)
  show Walk _ (upto lo n).length _ _
  rw [← e]
  refine Walk.mono w (fun _ h => h) fun i H x H' hi _ ⟨h1, h2⟩ => ⟨h1, ?_⟩
  unfold upto
  rw [List.getElem?_map, List.getElem?_range hi, h2]; rfl
def mRng1 (ta : TE) : MI := fun σ H P => ta σ H fun x H1 => match x with
  | .int j => (-(2 ^ 62) ≤ j ∧ j < 2 ^ 62) ∧ P (.v (fun _ => True) (upto 0 j.toNat)) H1
  | _ => False
def mRng2 (ta tb : TE) : MI := fun σ H P => ta σ H fun x H1 => tb σ H1 fun y H2 => match x, y with
  | .int i, .int j => (-(2 ^ 62) ≤ i ∧ i < 2 ^ 62 ∧ -(2 ^ 62) ≤ j ∧ j < 2 ^ 62) ∧ P (.v (fun _ => True) (upto i (j - i).toNat)) H2
  | _, _ => False
theorem pi_rng1M {a : Expr} {ta : TE} {p pos : Pos} (hg : Gl X "range") (hm : X.mg "range" = none) (ha : PE X a ta) (hs : starEach [a] X.env = [(false, eval a X.env)] := by rfl) : PI X tg (.Call (.Name "range" p) [a] [] pos) (toTI (mRng1 ta)) :=
  pi_imp (pi_range1 hg hm (pa_cons (pe_cl ha) pa_nil hs) hs) fun σ H R ⟨P, q, w⟩ => ⟨_, q, fun x H1 z => by
    cases x with
    | int j => exact ⟨j, rfl, z.1.1, z.1.2, w _ _ _ z.2 feeds_range⟩
    | _ => exact z.elim⟩
theorem pi_rng2M {a b : Expr} {ta tb : TE} {p pos : Pos} (hg : Gl X "range") (hm : X.mg "range" = none) (ha : PE X a ta) (hb : PE X b tb) (hs : starEach [a, b] X.env = [(false, eval a X.env), (false, eval b X.env)] := by rfl) (hs2 : starEach [b] X.env = [(false, eval b X.env)] := by rfl) :
    PI X tg (.Call (.Name "range" p) [a, b] [] pos) (toTI (mRng2 ta tb)) :=
  pi_imp (pi_range2 hg hm (pa_cons (pe_cl ha) (pa_cons (pe_cl hb) pa_nil hs2) (by rw [hs, hs2])) hs hs2) fun σ H R ⟨P, q, w⟩ => ⟨_, q, fun x H1 z => ⟨_, z, fun y H2 z2 => by
    split at z2
    · exact ⟨_, _, rfl, z2.1, w _ _ _ z2.2 feeds_range⟩
    · exact z2.elim⟩⟩
/-- enumerate(list) -/
def numd : Nat → List V → List (V × V)
  | _, [] => []
  | i, x :: r => (.int (i : Int), x) :: numd (i + 1) r
theorem numd_get : ∀ {k : Nat} {xs : List V} {i : Nat}, (numd k xs)[i]? = xs[i]?.map fun x => (V.int ((k + i : Nat) : Int), x)
  | _, [], _ => by simp [numd]
  | k, x :: r, 0 => by simp [numd]
  | k, x :: r, i + 1 => by
    have := numd_get (k := k + 1) (xs := r) (i := i)
    simp only [numd, List.getElem?_cons_succ, this]
    congr 1
    funext z
    congr 3
    omega
theorem numd_len : ∀ {k : Nat} {xs : List V}, (numd k xs).length = xs.length
  | _, [] => rfl
  | k, x :: r => by simp [numd, numd_len]
theorem feeds_enum {K : PySem.W.Frag} {a : Addr} {xs : List V} : Feeds (Ite K a) (.p (fun H => SqL K H a xs) (numd 0 xs)) := by
  show Walk _ (numd 0 xs).length _ _
  rw [numd_len]
  refine Walk.mono walk_enum (fun _ h => h) fun i H x H' _ _ ⟨T, y, z, h1, h2, h3, h4, h5⟩ => ⟨T, y, z, h1, h2, h3, ?_, ?_⟩
  · show (numd 0 xs)[i]?.map (·.1) = _
    have h5' : xs[i]? = some z := h5
    rw [numd_get, h5', ← h4]; simp
  · show (numd 0 xs)[i]?.map (·.2) = _
    have h5' : xs[i]? = some z := h5
    rw [numd_get, h5']; simp
def mEnum (K : PySem.W.Frag) (ta : TE) : MI := fun σ H P => ta σ H fun x H1 => match x with
  | .ref a => ∃ xs, SqL K H1 a xs ∧ P (.p (fun H => SqL K H a xs) (numd 0 xs)) H1
  | _ => False
theorem pi_enumM {e : Expr} {ta : TE} {p pos tpos : Pos} {elts : List Expr} {kk : Nat} (hg : Gl X "enumerate") (hm : X.mg "enumerate" = none) (ha : PE X e ta) (hs : starEach [e] X.env = [(false, eval e X.env)] := by rfl) :
    PI X (.Tuple elts kk tpos) (.Call (.Name "enumerate" p) [e] [] pos) (toTI (mEnum X.K ta)) :=
  pi_imp (pi_enum hg hm (pa_cons (pe_cl ha) pa_nil hs) hs) fun σ H R ⟨P, q, w⟩ => ⟨_, q, fun x H1 z => by
    cases x with
    | ref a => obtain ⟨xs, h, z⟩ := z; exact ⟨a, xs, rfl, h, w _ _ _ z feeds_enum⟩
    | _ => exact z.elim⟩
/-- zip(list, list) -/
theorem feeds_zip {K : PySem.W.Frag} {a b : Addr} {xs ys : List V} : Feeds (Itz K a b) (.p (fun H => SqL K H a xs ∧ SqL K H b ys) (xs.zip ys)) := by
  show Walk _ (xs.zip ys).length _ _
  rw [List.length_zip]
  refine Walk.mono (walk_zip rfl) (fun _ h => h) fun i H x H' _ _ ⟨T, y, z, h1, h2, h3, h4, h5⟩ => ⟨T, y, z, h1, h2, h3, ?_, ?_⟩
  · show (xs.zip ys)[i]?.map (·.1) = _
    have h4' : xs[i]? = some y := h4
    have h5' : ys[i]? = some z := h5
    rw [show (xs.zip ys)[i]? = some (y, z) from List.getElem?_zip_eq_some.mpr ⟨h4', h5'⟩]; rfl
  · show (xs.zip ys)[i]?.map (·.2) = _
    have h4' : xs[i]? = some y := h4
    have h5' : ys[i]? = some z := h5
    rw [show (xs.zip ys)[i]? = some (y, z) from List.getElem?_zip_eq_some.mpr ⟨h4', h5'⟩]; rfl
def mZip (K : PySem.W.Frag) (ta tb : TE) : MI := fun σ H P => ta σ H fun x H1 => tb σ H1 fun y H2 => match x, y with
  | .ref a, .ref b => ∃ xs ys, SqL K H2 a xs ∧ SqL K H2 b ys ∧ P (.p (fun H => SqL K H a xs ∧ SqL K H b ys) (xs.zip ys)) H2
  | _, _ => False
theorem pi_zipM {e e2 : Expr} {ta tb : TE} {p pos tpos : Pos} {elts : List Expr} {kk : Nat} (hg : Gl X "zip") (hm : X.mg "zip" = none) (ha : PE X e ta) (hb : PE X e2 tb)
    (hs : starEach [e, e2] X.env = (false, eval e X.env) :: starEach [e2] X.env := by rfl) (hs2 : starEach [e2] X.env = [(false, eval e2 X.env)] := by rfl) (hpl : (backTo pos (starEach [e2] X.env)).any (·.1) = false := by rfl) :
    PI X (.Tuple elts kk tpos) (.Call (.Name "zip" p) [e, e2] [] pos) (toTI (mZip X.K ta tb)) :=
  pi_imp (pi_zip hg hm (pa_cons (pe_cl ha) (pa_cons (pe_cl hb) pa_nil hs2) hs) hs hpl) fun σ H R ⟨P, q, w⟩ => ⟨_, q, fun x H1 z => ⟨_, z, fun y H2 z2 => by
    split at z2
    · obtain ⟨xs, ys, h1, h2, z2⟩ := z2
      exact ⟨_, _, xs, ys, rfl, h1, h2, w _ _ _ z2 feeds_zip⟩
    · exact z2.elim⟩⟩
end

/-! ### for -/
def fV (G : Hp → Prop) (g : TG) (tb : TS) (D : Ends) : List V → Sl → Hp → Prop
  | [], σ, H => G H ∧ D.nx σ H
  | x :: r, σ, H => G H ∧ g x σ H fun σ2 H2 => tb { D with nx := fV G g tb D r, ct := fV G g tb D r, bk := D.nx } σ2 H2
def fP (G : Hp → Prop) (g : TG) (tb : TS) (D : Ends) : List (V × V) → Sl → Hp → Prop
  | [], σ, H => G H ∧ D.nx σ H
  | x :: r, σ, H => G H ∧ ∀ T, H T = none → g (.ref T) σ (upd H T (.tup [x.1, x.2])) fun σ2 H2 => tb { D with nx := fP G g tb D r, ct := fP G g tb D r, bk := D.nx } σ2 H2
def mFor (wi : MI) (g : TG) (tb : TS) : TS := fun D σ H => wi σ H fun s H1 => match s with
  | .v G L => fV G g tb D L σ H1
  | .p G L => fP G g tb D L σ H1
theorem fV_G {G : Hp → Prop} {g : TG} {tb : TS} {D : Ends} {L : List V} {σ : Sl} {H : Hp} (h : fV G g tb D L σ H) : G H := by
  cases L <;> exact h.1
theorem fP_G {G : Hp → Prop} {g : TG} {tb : TS} {D : Ends} {L : List (V × V)} {σ : Sl} {H : Hp} (h : fP G g tb D L σ H) : G H := by
  cases L <;> exact h.1
theorem drop_at {α : Type} {L : List α} {i : Nat} {x : α} (h : L[i]? = some x) : L.drop i = x :: L.drop (i + 1) := by
  obtain ⟨hi, e⟩ := List.getElem?_eq_some_iff.mp h
  rw [← e]; exact List.drop_eq_getElem_cons hi
theorem ms_for {X : Cx} {tg iter : Expr} {body : List Stmt} {wi : MI} {g : TG} {tb : TS} {pos : Pos} (hp : PassesOwn (model X.prog X.w) X.A X.env X.xe) (hc : X.calm = true) (hi : PI X tg iter (toTI wi)) (hg : PG X tg g) (hb : PSs X body tb)
    (hs : ∀ x, foldedSetIterable iter X.env x = pure x := by intro _; rfl) : PS X (.For tg iter body [] pos) (mFor wi g tb) :=
  ps_imp (ps_for hp hc hi hg hb hs) fun D σ H q => ⟨_, q, fun s H1 J z f => by
    cases s with
    | v G L =>
      refine for_it f (fun i σ H => fV G g tb D (L.drop i) σ H) z (fun i σ H _ p => fV_G p) (fun i x σ H H' hi p y => ?_) (fun σ H p => ?_)
      · obtain ⟨e, hx⟩ := y
        subst e
        rw [drop_at hx] at p
        exact p.2
      · rw [List.drop_length] at p
        exact p.2
    | p G L =>
      refine for_it f (fun i σ H => fP G g tb D (L.drop i) σ H) z (fun i σ H _ p => fP_G p) (fun i x σ H H' hi p y => ?_) (fun σ H p => ?_)
      · obtain ⟨T, a, b, e1, e2, e3, e4, e5⟩ := y
        subst e1 e3
        have hx : L[i]? = some L[i] := List.getElem?_eq_getElem hi
        rw [drop_at hx] at p
        have q := p.2 T e2
        have e4' : L[i]?.map (·.1) = some a := e4
        have e5' : L[i]?.map (·.2) = some b := e5
        rw [hx] at e4' e5'
        cases e4'
        cases e5'
        exact q
      · rw [List.drop_length] at p
        exact p.2⟩
/-! ### comprehensions -/
def cV (G : Hp → Prop) (g : TG) (tt : TT) (te : TE) (vs : List Nat) (τ : Sl) (D : Addr) (Q : Hp → Prop) : List V → Hp → Prop
  | [], H => G H ∧ Q H
  | x :: r, H => G H ∧ g x τ H fun σ2 H2 => wipe σ2 vs = τ ∧ tt σ2 H2 fun b H3 => if b = true then te σ2 H3 fun y H4 => ∃ acc, H4 D = some (.lst acc) ∧ acc.length < sizeLine ∧ cV G g tt te vs τ D Q r (upd H4 D (.lst (acc ++ [y]))) else cV G g tt te vs τ D Q r H3
def cP (G : Hp → Prop) (g : TG) (tt : TT) (te : TE) (vs : List Nat) (τ : Sl) (D : Addr) (Q : Hp → Prop) : List (V × V) → Hp → Prop
  | [], H => G H ∧ Q H
  | x :: r, H => G H ∧ ∀ T, H T = none → g (.ref T) τ (upd H T (.tup [x.1, x.2])) fun σ2 H2 => wipe σ2 vs = τ ∧ tt σ2 H2 fun b H3 => if b = true then te σ2 H3 fun y H4 => ∃ acc, H4 D = some (.lst acc) ∧ acc.length < sizeLine ∧ cP G g tt te vs τ D Q r (upd H4 D (.lst (acc ++ [y]))) else cP G g tt te vs τ D Q r H3
def mLc (wi : MI) (g : TG) (tt : TT) (te : TE) (vs : List Nat) : TE := fun σ H Q => wi σ H fun s H1 => ∀ D, H1 D = none → match s with
  | .v G L => cV G g tt te vs (wipe σ vs) D (Q (.ref D)) L (upd H1 D (.lst []))
  | .p G L => cP G g tt te vs (wipe σ vs) D (Q (.ref D)) L (upd H1 D (.lst []))
theorem cV_G {G : Hp → Prop} {g : TG} {tt : TT} {te : TE} {vs : List Nat} {τ : Sl} {D : Addr} {Q : Hp → Prop} {L : List V} {H : Hp} (h : cV G g tt te vs τ D Q L H) : G H := by
  cases L <;> exact h.1
theorem cP_G {G : Hp → Prop} {g : TG} {tt : TT} {te : TE} {vs : List Nat} {τ : Sl} {D : Addr} {Q : Hp → Prop} {L : List (V × V)} {H : Hp} (h : cP G g tt te vs τ D Q L H) : G H := by
  cases L <;> exact h.1
theorem lc_toM {wi : MI} {g : TG} {tt : TT} {te : TE} {vs : List Nat} {σ : Sl} {H : Hp} {Q : VK} (q : mLc wi g tt te vs σ H Q) : tLc (toTI wi) g tt te vs σ H Q :=
  ⟨_, q, fun s H1 J z f D hD => by
    have z := z D hD
    cases s with
    | v G L =>
      refine lc_it f (fun i H => cV G g tt te vs (wipe σ vs) D (Q (.ref D)) (L.drop i) H) z (fun i H _ p => cV_G p) (fun i x H H' hi p y => ?_) (fun H p => ?_)
      · obtain ⟨e, hx⟩ := y
        subst e
        rw [drop_at hx] at p
        exact p.2
      · rw [List.drop_length] at p
        exact p.2
    | p G L =>
      refine lc_it f (fun i H => cP G g tt te vs (wipe σ vs) D (Q (.ref D)) (L.drop i) H) z (fun i H _ p => cP_G p) (fun i x H H' hi p y => ?_) (fun H p => ?_)
      · obtain ⟨T, a, b, e1, e2, e3, e4, e5⟩ := y
        subst e1 e3
        have hx : L[i]? = some L[i] := List.getElem?_eq_getElem hi
        rw [drop_at hx] at p
        have q := p.2 T e2
        have e4' : L[i]?.map (·.1) = some a := e4
        have e5' : L[i]?.map (·.2) = some b := e5
        rw [hx] at e4' e5'
        cases e4'
        cases e5'
        exact q
      · rw [List.drop_length] at p
        exact p.2⟩
section
variable {X : Cx}
theorem me_lc {elt tg iter : Expr} {ifs : List Expr} {scope : Scope} {own : List (Str × Nat)} {pos : Pos} {wi : MI} {g : TG} {tt : TT} {te : TE} (hc : X.calm = true) (hN : X.N.Nodup) (hi : PI X tg iter (toTI wi)) (ok : BlkOk X.N X.env.scope scope own)
    (hg : ∀ (s : Shared) (H : Hp) (C : Addr) (cl : List (Str × Addr)) (fp : List Addr), PG (X.blk s H scope (compEnvC scope cl C X.env) fp) tg g) (ht : ∀ (s : Shared) (H : Hp) (C : Addr) (cl : List (Str × Addr)) (fp : List Addr), PTs (X.blk s H scope (compEnvC scope cl C X.env) fp) ifs tt)
    (he : ∀ (s : Shared) (H : Hp) (C : Addr) (cl : List (Str × Addr)) (fp : List Addr), PE (X.blk s H scope (compEnvC scope cl C X.env) fp) elt te) (hs : ∀ x, foldedSetIterable iter X.env x = pure x := by intro _; rfl) :
    PE X (.ListComp elt [⟨tg, iter, ifs, 0⟩] scope pos) (mLc wi g tt te (own.map (·.2))) := pe_imp (pe_lc hc hN hi ok hg ht he hs) fun σ H Q q => lc_toM q
theorem ms_setLc {i : Nat} {y : Str} {py : Pos} {elt tg iter : Expr} {ifs : List Expr} {scope : Scope} {own : List (Str × Nat)} {pos spos : Pos} {wi : MI} {g : TG} {tt : TT} {te : TE} (hc : X.calm = true) (hN : X.N.Nodup) (hy : X.N[i]? = some y) (hyl : X.env.scope.names.lookup y = some .local)
    (hsw : swapsWith (.ListComp elt [⟨tg, iter, ifs, 0⟩] scope pos) (some (.Name y py)) spos.line X.env = pure true) (hi : PI X tg iter (toTI wi)) (ok : BlkOk X.N X.env.scope scope own)
    (hg : ∀ (s : Shared) (H : Hp) (C : Addr) (cl : List (Str × Addr)) (fp : List Addr), PG (X.blk s H scope (compEnvC scope cl C X.env) fp) tg g) (ht : ∀ (s : Shared) (H : Hp) (C : Addr) (cl : List (Str × Addr)) (fp : List Addr), PTs (X.blk s H scope (compEnvC scope cl C X.env) fp) ifs tt)
    (he : ∀ (s : Shared) (H : Hp) (C : Addr) (cl : List (Str × Addr)) (fp : List Addr), PE (X.blk s H scope (compEnvC scope cl C X.env) fp) elt te) (hs : ∀ x, foldedSetIterable iter X.env x = pure x := by intro _; rfl) :
    PS X (.Assign [.Name y py] (.ListComp elt [⟨tg, iter, ifs, 0⟩] scope pos) spos) (tAsg (mLc wi g tt te (own.map (·.2))) (gName i)) := ps_imp (ps_setLc hc hN hy hyl hsw hi ok hg ht he hs) fun D σ H q => lc_toM (Q := fun x H1 => gName i x σ H1 D.nx) q
end
/-! ### while -/
def whW (c : TT) (tb : TS) (D : Ends) : Nat → Sl → Hp → Prop
  | 0, _, _ => False
  | n + 1, σ, H => c σ H fun b H1 => if b = true then tb { D with nx := whW c tb D n, ct := whW c tb D n, bk := D.nx } σ H1 else D.nx σ H1
def mWhile (c : TT) (tb : TS) : TS := fun D σ H => ∃ n, whW c tb D n σ H
theorem ms_while {X : Cx} {c : Expr} {body : List Stmt} {tc : TT} {tb : TS} {pos : Pos} (hp : PassesOwn (model X.prog X.w) X.A X.env X.xe) (hc : PT X c tc) (hb : PSs X body tb) : PS X (.While c body [] pos) (mWhile tc tb) :=
  ps_imp (ps_while hp (pt_cl hc) hb) fun D σ H ⟨n, q⟩ => ⟨fun m σ H => whW tc tb D m σ H, ⟨n, q⟩, fun m σ H w => by
    cases m with
    | zero => exact w.elim
    | succ k =>
      refine ⟨_, w, fun b H1 z => ?_⟩
      cases b with
      | true => exact ⟨_, fun σ' H' y => ⟨k, Nat.lt_succ_self _, y⟩, z⟩
      | false => exact z⟩
end M

namespace M
open PySem PySem.Spec PyProof.Rows L2

/-! ### built-in functions -/
section
variable {X : Cx}
def mLen (K : PySem.W.Frag) : List V → Hp → VK → Prop := fun xs H Q => match xs with
  | [.str z] => z.length ≤ sizeLine ∧ Q (.int z.length) H
  | [.ref p] => ∃ ys, (SqL K H p ys ∨ SqT K H p ys) ∧ Q (.int ys.length) H
  | _ => False
theorem call_lenM : CallR X (.builtin "len") (mLen X.K) := callR_imp (call_len_seq.or call_len_str) fun xs H Q q => by
  unfold mLen at q
  split at q
  · exact .inr ⟨_, rfl, q⟩
  · obtain ⟨ys, h, q⟩ := q
    exact .inl ⟨_, ys, rfl, h, q⟩
  · exact q.elim
def mInt : List V → Hp → VK → Prop := fun xs H Q => match xs with
  | [.int i] => Q (.int i) H
  | [.bl k] => Q (.int (if k then 1 else 0)) H
  | _ => False
theorem call_intM : CallR X (.type "int") mInt := callR_imp call_int1 fun xs H Q q => by
  unfold mInt at q
  split at q
  · exact .inl ⟨_, rfl, q⟩
  · exact .inr ⟨_, rfl, q⟩
  · exact q.elim
def mStr : List V → Hp → VK → Prop := fun xs H Q => match xs with
  | [.str i] => Q (.str i) H
  | _ => False
theorem call_strM : CallR X (.type "str") mStr := callR_imp SkE.call_str_str fun xs H Q q => by
  unfold mStr at q
  split at q
  · exact ⟨_, rfl, q⟩
  · exact q.elim
def mMax : List V → Hp → VK → Prop := fun xs H Q => match xs with
  | [.int i, .int j] => Q (.int (max i j)) H
  | _ => False
theorem call_maxM (hc : X.calm = true) : CallR X (.builtin "max") mMax := callR_imp (call_max2 hc) fun xs H Q q => by
  unfold mMax at q
  split at q
  · rename_i i j
    refine ⟨i, j, rfl, ?_⟩
    have e : max i j = if j > i then j else i := by split <;> omega
    rw [← e]; exact q
  · exact q.elim
def mMin : List V → Hp → VK → Prop := fun xs H Q => match xs with
  | [.int i, .int j] => Q (.int (min i j)) H
  | _ => False
theorem call_minM (hc : X.calm = true) : CallR X (.builtin "min") mMin := callR_imp (call_min2 hc) fun xs H Q q => by
  unfold mMin at q
  split at q
  · rename_i i j
    refine ⟨i, j, rfl, ?_⟩
    have e : min i j = if j < i then j else i := by split <;> omega
    rw [← e]; exact q
  · exact q.elim
def mAbs : List V → Hp → VK → Prop := fun xs H Q => match xs with
  | [.int i] => Q (.int (i.natAbs : Int)) H
  | _ => False
theorem call_absM : CallR X (.builtin "abs") mAbs := callR_imp call_abs fun xs H Q q => by
  unfold mAbs at q
  split at q
  · rename_i i
    refine ⟨i, rfl, ?_⟩
    have e : (i.natAbs : Int) = if i < 0 then -i else i := by split <;> omega
    rw [← e]; exact q
  · exact q.elim
def mSum (K : PySem.W.Frag) : List V → Hp → VK → Prop := fun xs H Q => match xs with
  | [.ref a] => ∃ ns : List Int, SqL K H a (ns.map V.int) ∧ Q (.int ns.sum) H
  | _ => False
theorem call_sumM (hc : X.calm = true) : CallR X (.builtin "sum") (mSum X.K) := callR_imp (cr_sum hc) fun xs H Q q => by
  unfold mSum at q
  split at q
  · obtain ⟨ns, h, q⟩ := q
    exact ⟨_, ns, rfl, h, q⟩
  · exact q.elim
def mMaxL (K : PySem.W.Frag) : List V → Hp → VK → Prop := fun xs H Q => match xs with
  | [.ref a] => ∃ ns : List Int, SqL K H a (ns.map V.int) ∧ 0 < ns.length ∧ ∀ m, m ∈ ns → (∀ y, y ∈ ns → y ≤ m) → Q (.int m) H
  | _ => False
theorem call_maxLM (hc : X.calm = true) : CallR X (.builtin "max") (mMaxL X.K) := callR_imp (cr_max hc) fun xs H Q q => by
  unfold mMaxL at q
  split at q
  · obtain ⟨ns, h, q⟩ := q
    exact ⟨_, ns, rfl, h, q⟩
  · exact q.elim
def mMinL (K : PySem.W.Frag) : List V → Hp → VK → Prop := fun xs H Q => match xs with
  | [.ref a] => ∃ ns : List Int, SqL K H a (ns.map V.int) ∧ 0 < ns.length ∧ ∀ m, m ∈ ns → (∀ y, y ∈ ns → m ≤ y) → Q (.int m) H
  | _ => False
theorem call_minLM (hc : X.calm = true) : CallR X (.builtin "min") (mMinL X.K) := callR_imp (cr_min hc) fun xs H Q q => by
  unfold mMinL at q
  split at q
  · obtain ⟨ns, h, q⟩ := q
    exact ⟨_, ns, rfl, h, q⟩
  · exact q.elim
def mList (K : PySem.W.Frag) : List V → Hp → VK → Prop := fun xs H Q => match xs with
  | [.ref p] => ∃ ys, (SqL K H p ys ∨ SqT K H p ys) ∧ ∀ l, H l = none → Q (.ref l) (upd H l (.lst ys))
  | _ => False
theorem call_listM : CallR X (.type "list") (mList X.K) := callR_imp call_list_of fun xs H Q q => by
  unfold mList at q
  split at q
  · obtain ⟨ys, h, q⟩ := q
    exact ⟨_, ys, rfl, h, q⟩
  · exact q.elim
/-! isinstance(x, T) -/
def tyN : V → Option String
  | .str _ => some "str"
  | .int _ => some "int"
  | .bl _ => some "bool"
  | .non => some "NoneType"
  | _ => none
def mIsi (K : PySem.W.Frag) : List V → Hp → VK → Prop := fun xs H Q => match xs with
  | [x, .ty T] => match tyN x with
    | some n => (match kitB n T with
      | some b => Q (.bl b) H
      | none => False)
    | none => ∃ t b, TyX K H x t ∧ PySem.W.kitOne K t (.type T) = some b ∧ Q (.bl b) H
  | [x, .ref C] => ∃ t b, TyX K H x t ∧ PySem.W.kitOne K t (.ref C) = some b ∧ Q (.bl b) H
  | _ => False
theorem tyN_ok {K : PySem.W.Frag} {H : Hp} {x : V} {n : String} (h : tyN x = some n) : TyX K H x (.type n) := by
  cases x with
  | str z => cases h; exact .base (.str z)
  | int z => cases h; exact .base (.int z)
  | bl z => cases h; exact .base (.bl z)
  | non => cases h; exact .base .non
  | _ => cases h
theorem call_isiM : CallR X (.builtin "isinstance") (mIsi X.K) := callR_imp call_isi fun xs H Q q => by
  unfold mIsi at q
  split at q
  · rename_i x T
    cases e : tyN x with
    | some n =>
      rw [e] at q
      cases e2 : kitB n T with
      | none => simp only [e2] at q
      | some b => simp only [e2] at q; exact ⟨x, .ty T, _, _, b, rfl, .ty T, tyN_ok e, kit_ty e2, q⟩
    | none =>
      rw [e] at q
      obtain ⟨t, b, h1, h2, q⟩ := q
      exact ⟨x, .ty T, t, _, b, rfl, .ty T, h1, h2, q⟩
  · obtain ⟨t, b, h1, h2, q⟩ := q
    exact ⟨_, _, t, _, b, rfl, .own _, h1, h2, q⟩
  · exact q.elim
theorem kb1 : kitB "str" "str" = some true := by decide +kernel
theorem kb2 : kitB "str" "int" = some false := by decide +kernel
theorem kb3 : kitB "str" "bool" = some false := by decide +kernel
theorem kb4 : kitB "str" "list" = some false := by decide +kernel
theorem kb5 : kitB "str" "tuple" = some false := by decide +kernel
theorem kb6 : kitB "int" "str" = some false := by decide +kernel
theorem kb7 : kitB "int" "int" = some true := by decide +kernel
theorem kb8 : kitB "int" "bool" = some false := by decide +kernel
theorem kb9 : kitB "int" "list" = some false := by decide +kernel
theorem kb10 : kitB "int" "tuple" = some false := by decide +kernel
theorem kb11 : kitB "bool" "str" = some false := by decide +kernel
theorem kb12 : kitB "bool" "int" = some true := by decide +kernel
theorem kb13 : kitB "bool" "bool" = some true := by decide +kernel
theorem kb14 : kitB "bool" "list" = some false := by decide +kernel
theorem kb15 : kitB "bool" "tuple" = some false := by decide +kernel
theorem kb16 : kitB "NoneType" "str" = some false := by decide +kernel
theorem kb17 : kitB "NoneType" "int" = some false := by decide +kernel
theorem kb18 : kitB "NoneType" "bool" = some false := by decide +kernel
theorem kb19 : kitB "NoneType" "list" = some false := by decide +kernel
theorem kb20 : kitB "NoneType" "tuple" = some false := by decide +kernel
theorem tyX_list {K : PySem.W.Frag} {H : Hp} {a : Addr} {xs : List V} (h : SqL K H a xs) : TyX K H (.ref a) (.type "list") := by
  rcases h with h | ⟨o, its, n, h, c, _⟩
  · rcases h with h | ⟨o, h⟩
    · exact .base (.lst h)
    · exact .base (.frz h)
  · exact .kList h c
theorem tyX_tup {K : PySem.W.Frag} {H : Hp} {a : Addr} {xs : List V} (h : SqT K H a xs) : TyX K H (.ref a) (.type "tuple") := by
  rcases h with h | ⟨o, its, n, h, c, _⟩
  · rcases h with h | ⟨o, h⟩
    · exact .base (.tup h)
    · exact .fTuple h
  · exact .kTuple h c
theorem ki_list {K : PySem.W.Frag} : PySem.W.kitOne K (.type "list") (.type "str") = some false ∧ PySem.W.kitOne K (.type "list") (.type "int") = some false ∧ PySem.W.kitOne K (.type "list") (.type "bool") = some false ∧ PySem.W.kitOne K (.type "list") (.type "list") = some true ∧ PySem.W.kitOne K (.type "list") (.type "tuple") = some false :=
  ⟨kit_ty (by decide +kernel), kit_ty (by decide +kernel), kit_ty (by decide +kernel), kit_ty (by decide +kernel), kit_ty (by decide +kernel)⟩
theorem ki_tup {K : PySem.W.Frag} : PySem.W.kitOne K (.type "tuple") (.type "str") = some false ∧ PySem.W.kitOne K (.type "tuple") (.type "int") = some false ∧ PySem.W.kitOne K (.type "tuple") (.type "bool") = some false ∧ PySem.W.kitOne K (.type "tuple") (.type "list") = some false ∧ PySem.W.kitOne K (.type "tuple") (.type "tuple") = some true :=
  ⟨kit_ty (by decide +kernel), kit_ty (by decide +kernel), kit_ty (by decide +kernel), kit_ty (by decide +kernel), kit_ty (by decide +kernel)⟩
theorem ki_dict {K : PySem.W.Frag} : PySem.W.kitOne K (.type "dict") (.type "str") = some false ∧ PySem.W.kitOne K (.type "dict") (.type "int") = some false ∧ PySem.W.kitOne K (.type "dict") (.type "bool") = some false ∧ PySem.W.kitOne K (.type "dict") (.type "list") = some false ∧ PySem.W.kitOne K (.type "dict") (.type "tuple") = some false :=
  ⟨kit_ty (by decide +kernel), kit_ty (by decide +kernel), kit_ty (by decide +kernel), kit_ty (by decide +kernel), kit_ty (by decide +kernel)⟩
/-- a built-in class as a value -/
theorem me_ty {x : Str} (T : String) {pos : Pos} (hg : Gl X x) (hm : X.mg x = none) (hv : bootBuiltins x = some (.type T)) (hn : x ≠ "__name__" := by decide) (hd : (x == ("__debug__" : Str)) = false := by decide) : PE X (.Name x pos) (mC (.ty T)) := pe_bltn hg hm hv rfl hn hd
end

/-! ### methods of texts and lists -/
section
variable {X : Cx} {o e : Expr} {to te : TE} {apos pos : Pos}
def mBits (to : TE) : TE := fun σ H Q => to σ H fun x H1 => match x with
  | .int i => Q (.int (Builtin.Int.intBits i : Nat)) H1
  | _ => False
theorem me_bits (ho : PE X o to) (hbase : attributeBase o "bit_length" X.env (eval o X.env) = eval o X.env := by rfl) (hline : (apos.endLine == pos.line) = true := by rfl) : PE X (.Call (.Attribute o "bit_length" apos) [] [] pos) (mBits to) :=
  pe_imp (pe_bits (pe_cl ho) hbase hline) fun σ H Q q => ⟨_, q, fun x H1 z => by
    cases x with
    | int i => exact ⟨i, rfl, z⟩
    | _ => exact z.elim⟩
def mStrM (r : Str → V → Hp → VK → Prop) (to te : TE) : TE := fun σ H Q => to σ H fun x H1 => match x with
  | .str a => te σ H1 fun y H2 => r a y H2 Q
  | _ => False
theorem me_m1 {id : String} {name : Str} {r : Str → V → Hp → VK → Prop} (slot : Slot "str" name id) (ty : typeOf (.builtin id) = pure (.type "method_descriptor")) (rule : MtR X id (fun x xs H Q => ∃ a y, x = .str a ∧ xs = [y] ∧ r a y H Q)) (ho : PE X o to) (he : PE X e te)
    (hs : starEach [e] X.env = [(false, eval e X.env)] := by rfl) (hbase : attributeBase o name X.env (eval o X.env) = eval o X.env := by rfl) (hline : (apos.endLine == pos.line) = true := by rfl) :
    PE X (.Call (.Attribute o name apos) [e] [] pos) (mStrM r to te) :=
  pe_imp (pe_m1 slot ty rule (pe_cl ho) (pe_cl he) hs hbase hline) fun σ H Q q => ⟨_, q, fun x H1 z => by
    cases x with
    | str a => exact ⟨⟨a, rfl⟩, _, z, fun y H2 w => ⟨a, y, rfl, rfl, w⟩⟩
    | _ => exact z.elim⟩
def mJoin (K : PySem.W.Frag) : Str → V → Hp → VK → Prop := fun a y H Q => match y with
  | .ref p => ∃ ys : List Str, (SqL K H p (ys.map V.str) ∨ SqT K H p (ys.map V.str)) ∧ (ys.map (·.length)).sum + ys.length * a.length ≤ 16777216 ∧ Q (.str (Txt.join a ys)) H
  | _ => False
theorem mt_joinM : MtR X "str.join" (fun x xs H Q => ∃ a y, x = .str a ∧ xs = [y] ∧ mJoin X.K a y H Q) := fun pins s σ H x xs v us Q I rx rs ⟨a, y, e1, e2, q⟩ => by
  unfold mJoin at q
  split at q
  · obtain ⟨ys, h1, h2, q⟩ := q
    exact mt_join pins s σ H x xs v us Q I rx rs ⟨a, _, ys, e1, e2, h1, h2, q⟩
  · exact q.elim
def mCount : Str → V → Hp → VK → Prop := fun a y H Q => match y with
  | .str b => Q (.int (Txt.count a b)) H
  | _ => False
theorem mt_countM : MtR X "str.count" (fun x xs H Q => ∃ a y, x = .str a ∧ xs = [y] ∧ mCount a y H Q) := fun pins s σ H x xs v us Q I rx rs ⟨a, y, e1, e2, q⟩ => by
  unfold mCount at q
  split at q
  · exact mt_count pins s σ H x xs v us Q I rx rs ⟨a, _, e1, e2, q⟩
  · exact q.elim
def mSplit : Str → V → Hp → VK → Prop := fun a y H Q => match y with
  | .str b => (b.length == 0) = false ∧ a.length + 2 ≤ sizeLine ∧ ∀ p, H p = none → Q (.ref p) (upd H p (.lst ((Txt.split a b).map V.str)))
  | _ => False
theorem mt_splitM : MtR X "str.split" (fun x xs H Q => ∃ a y, x = .str a ∧ xs = [y] ∧ mSplit a y H Q) := fun pins s σ H x xs v us Q I rx rs ⟨a, y, e1, e2, q⟩ => by
  unfold mSplit at q
  split at q
  · exact mt_split pins s σ H x xs v us Q I rx rs ⟨a, _, e1, e2, q.1, q.2.1, q.2.2⟩
  · exact q.elim
theorem me_join (ho : PE X o to) (he : PE X e te) (hs : starEach [e] X.env = [(false, eval e X.env)] := by rfl) (hbase : attributeBase o "join" X.env (eval o X.env) = eval o X.env := by rfl) (hline : (apos.endLine == pos.line) = true := by rfl) :
    PE X (.Call (.Attribute o "join" apos) [e] [] pos) (mStrM (mJoin X.K) to te) := me_m1 PySem.F.slot_str_join PySem.F.type_str_join mt_joinM ho he hs hbase hline
theorem me_count (ho : PE X o to) (he : PE X e te) (hs : starEach [e] X.env = [(false, eval e X.env)] := by rfl) (hbase : attributeBase o "count" X.env (eval o X.env) = eval o X.env := by rfl) (hline : (apos.endLine == pos.line) = true := by rfl) :
    PE X (.Call (.Attribute o "count" apos) [e] [] pos) (mStrM mCount to te) := me_m1 PySem.F.slot_str_count PySem.F.type_str_count mt_countM ho he hs hbase hline
theorem me_split (ho : PE X o to) (he : PE X e te) (hs : starEach [e] X.env = [(false, eval e X.env)] := by rfl) (hbase : attributeBase o "split" X.env (eval o X.env) = eval o X.env := by rfl) (hline : (apos.endLine == pos.line) = true := by rfl) :
    PE X (.Call (.Attribute o "split" apos) [e] [] pos) (mStrM mSplit to te) := me_m1 PySem.F.slot_str_split PySem.F.type_str_split mt_splitM ho he hs hbase hline
/-- a list's method: the receiver a list that stands in H -/
def mLstM (r : Addr → List V → List V → Hp → VK → Prop) (to : TE) (t : TA) : TE := fun σ H Q => to σ H fun x H1 => match x with
  | .ref l => (∃ ys, H1 l = some (.lst ys)) ∧ t σ H1 fun vs H2 => ∃ xs, H2 l = some (.lst xs) ∧ r l xs vs H2 Q
  | _ => False
def mApp : Addr → List V → List V → Hp → VK → Prop := fun l xs vs H Q => match vs with
  | [y] => xs.length < sizeLine ∧ Q .non (upd H l (.lst (xs ++ [y])))
  | _ => False
def mPop : Addr → List V → List V → Hp → VK → Prop := fun l xs vs H Q => match vs with
  | [] => ∃ y, xs.getLast? = some y ∧ Q y (upd H l (.lst xs.dropLast))
  | _ => False
def mClear : Addr → List V → List V → Hp → VK → Prop := fun l xs vs H Q => match vs with
  | [] => Q .non (upd H l (.lst []))
  | _ => False
theorem me_append (ho : PE X o to) (he : PE X e te) (hbase : attributeBase o "append" X.env (eval o X.env) = eval o X.env := by rfl)
    (hfew : ((backTo pos (starEach [e] X.env)).all (fun x => !x.1) && (backToKw pos (keywordEach [] X.env)).all (fun x => x.1.isSome) && decide (([e] : List Expr).length + ([] : List Keyword).length + (if ([] : List Keyword).isEmpty then 0 else 1) < 30)) = true := by rfl)
    (hline : (apos.endLine == pos.line) = true := by rfl) (hs : starEach [e] X.env = (false, eval e X.env) :: starEach [] X.env := by rfl) (hplain : (backTo pos (starEach [] X.env)).any (·.1) = false := by rfl) :
    PE X (.Call (.Attribute o "append" apos) [e] [] pos) (mLstM mApp to (tCons te tNil)) :=
  pe_imp (pe_bm PySem.F.plainAttrs_list PySem.F.slot_list_append PySem.F.type_list_append mt_append (pe_cl ho) (pa_cons (pe_cl he) pa_nil hs) hbase hfew hline hs hplain) fun σ H Q q => ⟨_, q, fun x H1 z => by
    cases x with
    | ref l =>
      obtain ⟨⟨ys, h⟩, z⟩ := z
      exact ⟨.inl ⟨rfl, _, SqL.of h⟩, _, z, fun y H2 w => by
        obtain ⟨xs, h2, w⟩ := w
        exact ⟨l, xs, y, rfl, rfl, h2, w.1, w.2⟩⟩
    | _ => exact z.elim⟩
theorem last_at {α : Type} (xs : List α) : xs[xs.length - 1]? = xs.getLast? := by
  rw [List.getLast?_eq_getElem?]
theorem me_pop (ho : PE X o to) (hbase : attributeBase o "pop" X.env (eval o X.env) = eval o X.env := by rfl) (hline : (apos.endLine == pos.line) = true := by rfl) : PE X (.Call (.Attribute o "pop" apos) [] [] pos) (mLstM mPop to tNil) :=
  pe_imp (pe_bm0 PySem.F.plainAttrs_list PySem.F.slot_list_pop PySem.F.type_list_pop mt_pop (pe_cl ho) hbase hline) fun σ H Q q => ⟨_, q, fun x H1 z => by
    cases x with
    | ref l =>
      obtain ⟨⟨ys, h⟩, xs, h2, y, h3, z⟩ := z
      exact ⟨.inl ⟨rfl, _, SqL.of h⟩, l, xs, y, rfl, rfl, h2, by rw [last_at]; exact h3, z⟩
    | _ => exact z.elim⟩
theorem me_clear (ho : PE X o to) (hbase : attributeBase o "clear" X.env (eval o X.env) = eval o X.env := by rfl) (hline : (apos.endLine == pos.line) = true := by rfl) : PE X (.Call (.Attribute o "clear" apos) [] [] pos) (mLstM mClear to tNil) :=
  pe_imp (pe_bm0 PySem.F.plainAttrs_list PySem.F.slot_list_clear PySem.F.type_list_clear mt_clear (pe_cl ho) hbase hline) fun σ H Q q => ⟨_, q, fun x H1 z => by
    cases x with
    | ref l =>
      obtain ⟨⟨ys, h⟩, xs, h2, z⟩ := z
      exact ⟨.inl ⟨rfl, _, SqL.of h⟩, l, xs, rfl, rfl, h2, z⟩
    | _ => exact z.elim⟩
def mRev (K : PySem.W.Frag) (te : TE) : TE := fun σ H Q => te σ H fun x H1 => match x with
  | .ref a => ∃ xs, SqL K H1 a xs ∧ ∀ p, H1 p = none → Q (.ref p) (upd H1 p (.lst xs.reverse))
  | _ => False
theorem me_revL {k : Nat} {p1 p2 p3 pos : Pos} (he : PE X e te) : PE X (.Subscript e (.Slice none none (some (.UnaryOp .USub (.Constant (.int 1) k p1) p2)) p3) pos) (mRev X.K te) :=
  pe_imp (pe_revL (pe_cl he)) fun σ H Q q => ⟨_, q, fun x H1 z => by
    cases x with
    | ref a => obtain ⟨xs, h, z⟩ := z; exact ⟨a, xs, rfl, h, z⟩
    | _ => exact z.elim⟩
end

/-! ### heaps -/
/-- what stands at the addresses other than those of m stays -/
def Fm (m : List Addr) (H H' : Hp) : Prop := ∀ a o, a ∉ m → H a = some o → H' a = some o
abbrev Ex (H H' : Hp) : Prop := ∀ a o, H a = some o → H' a = some o
theorem Ex.refl (H : Hp) : Ex H H := fun _ _ h => h
theorem Ex.trans {H H1 H2 : Hp} (a : Ex H H1) (b : Ex H1 H2) : Ex H H2 := fun x o h => b x o (a x o h)
theorem Ex.new {H : Hp} {p : Addr} {o : HO} (h : H p = none) : Ex H (upd H p o) := fun a u e => by
  rw [upd_ne (ne_of_none e h)]; exact e
theorem Ex.push {H H' : Hp} {p : Addr} {o : HO} (e : Ex H H') (h : H' p = none) : Ex H (upd H' p o) := e.trans (Ex.new h)
/-- an object that H does not know may change -/
theorem Ex.mut {H H' : Hp} {p : Addr} {o : HO} (e : Ex H H') (h : H p = none) : Ex H (upd H' p o) := fun a u ha => by
  rw [upd_ne (ne_of_none ha h)]; exact e a u ha
theorem Ex.free {H H' : Hp} {p : Addr} (e : Ex H H') (h : H' p = none) : H p = none := by
  cases h1 : H p with
  | none => rfl
  | some o => rw [e p o h1] at h; cases h
theorem ex_rd {H H' : Hp} {a : Addr} {u : HO} (e : Ex H H') (h : Rd H a u) : Rd H' a u := by
  rcases h with h | ⟨o, h⟩
  · exact .inl (e a _ h)
  · exact .inr ⟨o, e a _ h⟩
theorem Ex.L {K : PySem.W.Frag} {H H' : Hp} {a : Addr} {xs : List V} (e : Ex H H') (h : SqL K H a xs) : SqL K H' a xs := by
  rcases h with h | h
  · exact .inl (ex_rd e h)
  · exact .inr h
theorem Ex.T {K : PySem.W.Frag} {H H' : Hp} {a : Addr} {xs : List V} (e : Ex H H') (h : SqT K H a xs) : SqT K H' a xs := by
  rcases h with h | h
  · exact .inl (ex_rd e h)
  · exact .inr h
theorem sz_of {n : Nat} (h : n ≤ 10000000) : n ≤ sizeLine := Nat.le_trans h (by decide)
theorem sz_lt {n : Nat} (h : n < 10000000) : n < sizeLine := Nat.lt_of_lt_of_le h (by decide)
end M

namespace M
open PySem PySem.Spec PyProof.Rows L2

/-! ### more of tests and assignments -/
section
variable {X : Cx} {a b c : Expr} {ta tb tc : TE} {pos : Pos}
/-- is None, is True, is False -/
def mIs : R2 := fun x y H Q => match y with
  | .non => Q (.bl (isN x)) H
  | .bl k => (match x with
    | .bl j => Q (.bl (decide (j = k))) H
    | _ => False)
  | _ => False
def mNot : R2 := fun x y H Q => match y with
  | .non => Q (.bl (!isN x)) H
  | .bl k => (match x with
    | .bl j => Q (.bl (!decide (j = k))) H
    | _ => False)
  | _ => False
theorem op_isM : OpR X (compareOp .Is) mIs := opR_imp (op_isN.or op_isBl) fun x y H Q q => by
  unfold mIs at q
  split at q
  · exact .inl ⟨rfl, by rw [isN_eq]; exact q⟩
  · split at q
    · exact .inr ⟨_, _, rfl, rfl, q⟩
    · exact q.elim
  · exact q.elim
theorem op_notM : OpR X (compareOp .IsNot) mNot := opR_imp (op_notN.or op_notBl) fun x y H Q q => by
  unfold mNot at q
  split at q
  · exact .inl ⟨rfl, by rw [isN_eq]; exact q⟩
  · split at q
    · exact .inr ⟨_, _, rfl, rfl, q⟩
    · exact q.elim
  · exact q.elim
/-- a < b <= c -/
theorem chain_cl {r r' : R2} {σ : Sl} {H : Hp} {Q : VK} (q : mChain r r' ta tb tc σ H Q) : tChain (clR r) r' (cl ta) (cl tb) tc σ H Q :=
  ⟨_, q, fun x H1 q1 => ⟨_, q1, fun y H2 q2 => ⟨_, q2, fun z H3 q3 => by
    cases z with
    | bl k => cases k <;> exact ⟨_, rfl, q3⟩
    | _ => exact q3.elim⟩⟩⟩
theorem me_chain {op op' : CmpOp} {r r' : R2} (ho : OpR X (compareOp op) r) (ho' : OpR X (compareOp op') r') (ha : PE X a ta) (hb : PE X b tb) (hc : PE X c tc)
    (hm : lastMarks [op, op'] [b, c] = false := by with_unfolding_all rfl) : PE X (.Compare a [op, op'] [b, c] pos) (mChain r r' ta tb tc) :=
  pe_imp (pe_chain (opR_cl ho) ho' (pe_cl ha) (pe_cl hb) hc hm) fun σ H Q q => chain_cl q
def mTestC (r r' : R2) (ta tb tc : TE) : TT := fun σ H Q => mChain r r' ta tb tc σ H fun x H' => match x with
  | .bl k => Q k H'
  | _ => False
theorem mt_chain {op op' : CmpOp} {r r' : R2} (ho : OpR X (compareOp op) r) (ho' : OpR X (compareOp op') r') (ha : PE X a ta) (hb : PE X b tb) (hc : PE X c tc)
    (hm : lastMarks [op, op'] [b, c] = false := by with_unfolding_all rfl) : PT X (.Compare a [op, op'] [b, c] pos) (mTest (mChain r r' ta tb tc)) :=
  pt_imp (pt_chain (opR_cl ho) (opR_cl ho') (pe_cl ha) (pe_cl hb) (pe_cl hc) hm) fun σ H Q q => ⟨_, q, fun x H1 q1 => ⟨_, q1, fun y H2 q2 => ⟨_, q2, fun z H3 q3 => by
    cases z with
    | bl k =>
      cases k with
      | true => exact ⟨true, rfl, _, q3, fun w H4 q4 => ⟨_, q4, fun v H5 q5 => bX_of q5⟩⟩
      | false => exact ⟨false, rfl, false, rfl, q3⟩
    | _ => exact q3.elim⟩⟩⟩
/-- a, b, c = x, y, z -/
def mPar3 (i j l : Nat) (ta : TA) : TS := fun D σ H => ta σ H fun vs H1 => match vs with
  | [u, v, w] => D.nx (((σ.set i (some u)).set j (some v)).set l (some w)) H1
  | _ => False
theorem ms_par3 {i j l : Nat} {x y z : Str} {a b c : Expr} {ta : TA} {px py pz pt pos : Pos} {kt k2 pt2} (hc : X.calm = true) (hN : X.N.Nodup) (hi : X.N[i]? = some x) (hj : X.N[j]? = some y) (hl : X.N[l]? = some z) (hij : i ≠ j) (hil : i ≠ l) (hjl : j ≠ l)
    (hx : X.env.scope.names.lookup x = some .local) (hy : X.env.scope.names.lookup y = some .local) (hz : X.env.scope.names.lookup z = some .local) (ha : PA X [a, b, c] ta)
    (hw : swappedStores [.Tuple [.Name x px, .Name y py, .Name z pz] kt pt] (.Tuple [a, b, c] k2 pt2) X.env = pure (some [x, y, z]))
    (hs : swapsWithSole [.Tuple [.Name x px, .Name y py, .Name z pz] kt pt] (.Tuple [a, b, c] k2 pt2) pos.line X.env = pure false := by rfl) :
    PS X (.Assign [.Tuple [.Name x px, .Name y py, .Name z pz] kt pt] (.Tuple [a, b, c] k2 pt2) pos) (mPar3 i j l ta) :=
  ps_imp (ps_par3 hc hN hi hj hl hij hil hjl hx hy hz (pa_cl ha) hw hs) fun D σ H q => ⟨_, q, fun vs H1 z => by
    split at z
    · exact ⟨_, _, _, rfl, z⟩
    · exact z.elim⟩
end

/-! ### a def that may be called: where it stands, its promise -/
structure Cal (P : Program) (w : World) (K : PySem.W.Frag) (mg : Str → Option Value) (base : Heap) (CX : CXT) (x : Str) (k : Nat) (ps : List Str) (dvs : List V) (sp : Sp) : Prop where
  ex : ∃ f fd ds, FnOk P w K mg base CX k f fd ps sp ∧ mg x = some (.ref f) ∧ PySem.W.keepIn K (.ref f) = true ∧ Binds K fd ps ds ∧ Vals dvs ds
section
variable {X : Cx} {CX : CXT} {k : Nat} {ps : List Str} {sp : Sp} {dvs : List V} {E : XK} {x : Str} {p pos : Pos} {e : Expr} {es : List Expr} {t : TA}
theorem me_call (C : Cal X.prog X.w X.K X.mg X.base CX x k ps dvs sp) (hr : Room k X.A) (hg : Gl X x) (hx : Passes CX X E) (ha : PA X (e :: es) t) (hdb : (x == ("__debug__" : Str)) = false := by decide)
    (he : starEach (e :: es) X.env = (false, eval e X.env) :: starEach es X.env := by rfl) (hpl : (backTo pos (starEach es X.env)).any (·.1) = false := by rfl) : PE X (.Call (.Name x p) (e :: es) [] pos) (tCall sp dvs E t) := by
  obtain ⟨f, fd, ds, F, hm, hk, hb, hd⟩ := C.ex
  exact pe_call F hr hg hm hk hb hd hx ha hdb he hpl
theorem me_call0 (C : Cal X.prog X.w X.K X.mg X.base CX x k ps dvs sp) (hr : Room k X.A) (hg : Gl X x) (hx : Passes CX X E) (hdb : (x == ("__debug__" : Str)) = false := by decide) : PE X (.Call (.Name x p) [] [] pos) (tCall sp dvs E tNil) := by
  obtain ⟨f, fd, ds, F, hm, hk, hb, hd⟩ := C.ex
  first
    | exact pe_call0 F hr hg hm hk hb hd hx hdb
    | exact pe_call0 F hr hg hm hk hb hd hx
end
section
variable {P : Program} {w : World} {K : PySem.W.Frag} {mg : Str → Option Value} {base : Heap} {CX : CXT} {x : Str} {k j : Nat} {ps : List Str} {dvs : List V} {sp sp' : Sp}
theorem Cal.mono (C : Cal P w K mg base CX x k ps dvs sp) (h : k ≤ j) : Cal P w K mg base CX x j ps dvs sp := by
  obtain ⟨f, fd, ds, F, r⟩ := C.ex
  exact ⟨f, fd, ds, F.mono h, r⟩
theorem Cal.imp (C : Cal P w K mg base CX x k ps dvs sp) (h : ∀ vs H Q E, sp' vs H Q E → sp vs H Q E) : Cal P w K mg base CX x k ps dvs sp' := by
  obtain ⟨f, fd, ds, F, r⟩ := C.ex
  exact ⟨f, fd, ds, F.imp h, r⟩
/-- nothing can be asked with no call left -/
theorem FnOk.zero {f : Addr} {fd : FuncData} {sp : Sp} (no : ∀ vs H Q E, ¬ sp vs H Q E) : FnOk P w K mg base CX 0 f fd ps sp :=
  ⟨fun vs H Q E h => absurd h (no vs H Q E), fun A outer s H args us vs Q E _ _ _ _ h => absurd h (no vs H Q E)⟩
end
end M

namespace M
open PySem PySem.Spec PyProof.Rows L2

/-! ### x in (a, b, ..), written -/
def flB : V → Bool
  | .str _ => true
  | .int _ => true
  | .bl _ => true
  | .non => true
  | _ => false
theorem flB_ok {v : V} (h : flB v = true) : flatV v = true := by cases v <;> first | rfl | cases h
def mInT (neg : Bool) (te : TE) (ta : TA) : TE := fun σ H Q => te σ H fun x H1 => ta σ H1 fun ys H2 => flB x = true ∧ ys.all flB = true ∧ ys.length ≤ sizeLine ∧ ∀ p, H2 p = none → Q (.bl (if neg then !inV x ys else inV x ys)) (upd H2 p (.tup ys))
def mInTT (neg : Bool) (te : TE) (ta : TA) : TT := fun σ H Q => te σ H fun x H1 => ta σ H1 fun ys H2 => flB x = true ∧ ys.all flB = true ∧ ys.length ≤ sizeLine ∧ ∀ p, H2 p = none → Q (if neg then !inV x ys else inV x ys) (upd H2 p (.tup ys))
section
variable {X : Cx} {a : Expr} {es : List Expr} {ta : TE} {t : TA} {pos ps : Pos} {kk : Nat}
theorem all_fl {ys : List V} (h : ys.all flB = true) : ys.all flatV = true := by
  rw [List.all_eq_true] at *
  exact fun v hv => flB_ok (h v hv)
theorem inT_at {K : PySem.W.Frag} {x : V} {ys : List V} {H2 : Hp} {p : Addr} {neg : Bool} {Q : VK} (h1 : flB x = true) (h2 : ys.all flB = true) (q : Q (.bl (if neg then !inV x ys else inV x ys)) (upd H2 p (.tup ys))) : rIn K neg x (.ref p) (upd H2 p (.tup ys)) Q :=
  ⟨p, ys, rfl, .inr (SqT.of upd_same), flB_ok h1, all_fl h2, q⟩
theorem me_inT (ha : PE X a ta) (hb : PA X es t) (hm : behindInMarks .In (.Tuple es kk ps) = false := by rfl) : PE X (.Compare a [.In] [.Tuple es kk ps] pos) (mInT false ta t) :=
  pe_imp (pe_cmpR op_in_seq (pe_cl ha) (pe_tup (pa_cl hb)) hm) fun σ H Q q => ⟨_, q, fun x H1 q1 => ⟨_, q1, fun ys H2 ⟨h1, h2, h3, q2⟩ => ⟨h3, fun p hp => inT_at h1 h2 (q2 p hp)⟩⟩⟩
theorem me_ninT (ha : PE X a ta) (hb : PA X es t) (hm : behindInMarks .NotIn (.Tuple es kk ps) = false := by rfl) : PE X (.Compare a [.NotIn] [.Tuple es kk ps] pos) (mInT true ta t) :=
  pe_imp (pe_cmpR op_notIn_seq (pe_cl ha) (pe_tup (pa_cl hb)) hm) fun σ H Q q => ⟨_, q, fun x H1 q1 => ⟨_, q1, fun ys H2 ⟨h1, h2, h3, q2⟩ => ⟨h3, fun p hp => inT_at h1 h2 (q2 p hp)⟩⟩⟩
theorem mt_inT (ha : PE X a ta) (hb : PA X es t) (hm : behindInMarks .In (.Tuple es kk ps) = false := by rfl) : PT X (.Compare a [.In] [.Tuple es kk ps] pos) (mInTT false ta t) :=
  pt_imp (pt_cmpR op_in_seq (pe_cl ha) (pe_tup (pa_cl hb)) hm) fun σ H Q q => ⟨_, q, fun x H1 q1 => ⟨_, q1, fun ys H2 ⟨h1, h2, h3, q2⟩ => ⟨h3, fun p hp => inT_at h1 h2 ⟨_, rfl, q2 p hp⟩⟩⟩⟩
theorem mt_ninT (ha : PE X a ta) (hb : PA X es t) (hm : behindInMarks .NotIn (.Tuple es kk ps) = false := by rfl) : PT X (.Compare a [.NotIn] [.Tuple es kk ps] pos) (mInTT true ta t) :=
  pt_imp (pt_cmpR op_notIn_seq (pe_cl ha) (pe_tup (pa_cl hb)) hm) fun σ H Q q => ⟨_, q, fun x H1 q1 => ⟨_, q1, fun ys H2 ⟨h1, h2, h3, q2⟩ => ⟨h3, fun p hp => inT_at h1 h2 ⟨_, rfl, q2 p hp⟩⟩⟩⟩
end
theorem inV_nil (x : V) : inV x [] = false := rfl
theorem inV_cons (x y : V) (r : List V) : inV x (y :: r) = (eqV y x || inV x r) := rfl
theorem eqV_SS (a b : List Nat) : eqV (.str (S a)) (.str (S b)) = decide (a = b) := by
  show decide (S a = S b) = _
  by_cases h : a = b
  · subst h; simp
  · have : ¬ S a = S b := fun z => h (S_inj.mp z)
    simp [h, this]
theorem eqV_II (a b : Int) : eqV (.int a) (.int b) = decide (a = b) := by
  show (_ : Bool) = _
  first | rfl | simp [eqV]
end M

/-! ### own errors: class C(TurnError) with __init__(self, fl=None): super().__init__(fl); self.fl = fl -/
namespace M
open PySem PySem.Spec PySem.W PySem.Calls PyProof.Rows PySem.HandSPX
def qp (q : List Pos) (i : Nat) : Pos := q.getD i ⟨0, 0, 0, 0⟩
def eiB (fl : Str) (q : List Pos) : List Stmt := [.Expr (.Call (.Attribute (.Call (.Name "super" (qp q 0)) [] [] (qp q 1)) "__init__" (qp q 2)) [.Name fl (qp q 3)] [] (qp q 4)) (qp q 5), .Assign [.Attribute (.Name "self" (qp q 6)) fl (qp q 7)] (.Name fl (qp q 8)) (qp q 9)]
section
variable {P : Program} {w : World} {A : Around} {E : Value → Shared → Prop} {h : Heap} {g : Array GenState} {d : Drawn} {t : Nat} {os : OsState}
variable {nm q : Str} {C N : Addr} {bs bm : List Value} {hdct : Bool} {sn : List Str} {sub : List Value} {ab : Bool} {col : Option Bool} {dd : Option Addr} {k0 k1 k2 k3 k5 : Option Value}
theorem call_mw {u e t0 : Addr} {rest : List Value} {Q : Value → Shared → Prop}
    (hC : h.get? C = some (excClassObj nm q C N bs bm hdct sn sub ab col dd k0 k1 k2 k3 k5 "ValueError.__new__")) (he : h.get? e = some (HandSPX.excO C t0)) (hu : h.get? u = some (kxs_mw "ValueError.__init__" e)) (hrest : rest.length ≤ sizeLine)
    (hq : ∀ h' t1, (∀ b o, b ≠ e → h.get? b = some o → h'.get? b = some o) → h'.get? e = some (HandSPX.excO C t1) → Q .none ⟨h', g, d, t, os⟩) :
    wpAny (model P w) A (call (.ref u) rest) Q E ⟨h, g, d, t, os⟩ := by
  refine wpAny_call (codeAny_of_tree ?_)
  show wpAny _ A.in1 (callAny (.ref u) ⟨rest, []⟩) _ _ _
  simp only [callAny]
  refine wpAny_bind (wpAny_load hu ?_)
  simp only [kxs_mw, show (Value.type "method-wrapper" == Value.type "method" || Value.type "method-wrapper" == Value.type "builtin_function_or_method" || Value.type "method-wrapper" == Value.type "method-wrapper") = true by decide, if_true]
  refine W.KFB.if_so (by decide) ?_
  refine wpAny_bind (check_bound_init F.excBase_ValueError.toExcCallFacts hC he rfl ?_)
  refine wpAny_bind (wpAny_pure (wpAny_pure ?_))
  refine ⟨plainId_quiet F.excBase_ValueError.init.plain _, codeAny_builtin F.excBase_ValueError.initEntry ?_⟩
  exact exc_init_tree (cls := .ref C) (t0 := t0) (dv := none) (c2 := .none) (c3 := .none) (b4 := .bool false) he hrest fun h' k e' _ => hq h' _ k e'
end
theorem cw_one {Mo : Model} {A : Around} {E : Value → Shared → Prop} {s : Shared} {i : String} {u x : Addr} {pos : Pos} {env : Env} {e : Expr} {Q : Value → Shared → Prop}
    (h : wpAny Mo A (spliced (backTo pos (starEach [e] env))) (fun vs s₁ => KxsAt i u x s₁.heap ∧ wpAny Mo A (call (.ref u) vs) Q E s₁) E s)
    (he : starEach [e] env = (false, eval e env) :: starEach [] env := by rfl) : wpAny Mo A (callWith pos (.ref u) [] (backTo pos (starEach [e] env)) []) Q E s := by
  rw [he] at h ⊢
  exact kxs_callWith (i := i) (x := x) rfl (evalArgs_plain h)
theorem ve_slot : bootBuiltins "super" = some (.type "super") := by decide +kernel
section
variable {P : Program} {w : World} {A : Around} {R : Result → Shared → Prop} {s : Shared} {K : Frag} {mg mb : Str → Option Value} {C fI cda cc : Addr} {fl qual : Str} {sc : Scope} {params : Arguments} {q : List Pos}
  {oc dV kV doc pm ct : Value} {od an : Option Addr} {osl : Array (Option Value)} {ar : Arg}
theorem ini_run {args : Args} {x t0 : Addr} {v : Value} (X : K.In s.heap) (hlim : s.heap.NoLimit) (G : s.heap.Ns mainGlobals mg) (B : s.heap.Ns builtinsNs mb) (gs : mg "super" = none) (bs : mb "super" = some (.type "super")) (T : L2.OexC K C) (nf : findIn K (.ref C) fl = some none)
    (ho : K.lookup fI = some ⟨oc, od, .func (ksFn "__init__" qual params (eiB fl q) sc dV kV doc pm an (.ref cda) ct cc), osl⟩) (hcd : codeIn K (.ref cda) qual = true)
    (hcode : ∃ (ccl : Value) (cdd : Option Addr) (vs : Array Value) (ccs : Array (Option Value)) (file : Str) (tf : Tok), K.lookup cda = some ⟨ccl, cdd, .fields vs, ccs⟩ ∧ vs[2]? = some (.str file tf) ∧ ((P.main.file : Str) == file) = true)
    (hcell : ∃ (cl : Value) (cld : Option Addr) (csl : Array (Option Value)), K.lookup cc = some ⟨cl, cld, .cell (some (.ref C)), csl⟩)
    (hp : (params.posonlyargs ++ params.args).head? = some ar) (har : ar.arg = "self") (hsf : fl ≠ "self") (hdf : (fl == ("__debug__" : Str)) = false)
    (k1 : sc.kind = .function) (k2 : sc.isGenerator = false) (k3 : sc.isCoroutine = false) (k4 : sc.names.lookup ("self" : Str) = some .local) (k5 : sc.names.lookup fl = some .local) (k6 : sc.names.lookup ("super" : Str) = some .globalImplicit)
    (k7 : sc.names.lookup ("__class__" : Str) = some .free) (k8 : ∀ x ∈ sc.names, x.2 ≠ .cell)
    (htop : (P.main.scope.names.lookup ("super" : Str)).isSome = false) (hop : nsIn K cStatics "thirdparty.any" = some none) (sup : ks_superIn K C C "__init__" = some (some (.builtin "ValueError.__init__")))
    (hmro : mroIn K C (.ref C) = some true) (hsub : subIn K (.ref C) (.type "ValueError") = some true)
    (hint : ∀ env : Env, env.scope = sc → interactive env = false)
    (hev : ∀ env : Env, env.scope = sc → ∃ pl : Sem Bool, eval (.Call (.Attribute (.Call (.Name "super" (qp q 0)) [] [] (qp q 1)) "__init__" (qp q 2)) [.Name fl (qp q 3)] [] (qp q 4)) env = (do
      let ov ← attributeBase (.Call (.Name "super" (qp q 0)) [] [] (qp q 1)) "__init__" env (eval (.Call (.Name "super" (qp q 0)) [] [] (qp q 1)) env)
      standAt (qp q 2).atName
      let (f, first) ← holding [ov] (getMethod ov "__init__" pl)
      callWith (qp q 4) f first (backTo (qp q 4) (starEach [.Name fl (qp q 3)] env)) []))
    (hsw : ∀ env : Env, env.scope = sc → swapsWith (.Name fl (qp q 8)) (some (.Attribute (.Name "self" (qp q 6)) fl (qp q 7))) (qp q 9).line env = pure false)
    (hx : s.heap.get? x = some (excO C t0)) (hnx : K.lookup x = none) (hroom : A.depth < recursionLimit) (bind : BindsTo s (ksFn "__init__" qual params (eiB fl q) sc dV kV doc pm an (.ref cda) ct cc) args [("self", .ref x), (fl, v)])
    (hq : ∀ h' tk dx t1, (∀ b o, b ≠ x → s.heap.get? b = some o → h'.get? b = some o) → h'.get? x = some { cls := .ref C, dict := some dx, data := .fields #[.ref t1, .none, .none, .none, .bool false, .none] } → s.heap.objs.size ≤ dx → dx ≠ x →
      h'.Ns1 dx (fun y => if y = fl then some v else none) → R (.ok (.ret .none)) { s with heap := h', toks := tk }) :
    codeAny (model P w) A (.call (.ref fI) args) R s := by
  obtain ⟨nm, q', N, bs', bm, sn, sub, ab, col, dd, z0, z1, z2, z3, z5, hC, hbm⟩ := T.cls
  have hcl : clsIn K C = some { name := nm, bases := bs', mro := .ref C :: bm, ns := N, qualname := q', hasDict := true, slotNames := sn, subclasses := sub, abstract := ab, collection := col, hasDel := false } := by unfold clsIn; rw [hC] <;> rfl
  obtain ⟨ccl, cdd, vs, ccs, file, tf, hcode, hvs, hfile⟩ := hcode
  obtain ⟨cl, cld, csl, hcell⟩ := hcell
  refine ks_codeAny_call_defAt (fd := ksFn "__init__" qual params (eiB fl q) sc dV kV doc pm an (.ref cda) ct cc) (body := eiB fl q) (binds := [("self", .ref x), (fl, v)]) hroom (X _ _ ho) rfl hlim (codeRec_of X hcd) rfl bind k8
    (fun y hy => ?_) (fun h₁ hns hk₁ => ?_) k3 k2 k1
  · rcases List.mem_cons.mp hy with rfl | hy
    · exact k4
    rcases List.mem_cons.mp hy with rfl | hy
    · exact k5
    cases hy
  have hxL : s.heap.objs.size ≠ x := Nat.ne_of_gt (Heap.lt_size hx)
  have X₁ : K.In h₁ := X.keeps hk₁
  have hx₁ := hk₁ _ _ hx
  have mself : (fun x_1 => ([("self", .ref x), (fl, v)] : List (Str × Value)).reverse.lookup x_1) "self" = some (.ref x) := by
    have : (("self" : Str) == fl) = false := by simpa using fun z => hsf z.symm
    simp [List.lookup, this]
  have mfl : (fun x_1 => ([("self", .ref x), (fl, v)] : List (Str × Value)).reverse.lookup x_1) fl = some v := by
    simp [List.lookup]
  generalize hm : (fun x_1 => ([("self", .ref x), (fl, v)] : List (Str × Value)).reverse.lookup x_1) = m at hns mself mfl
  obtain ⟨hp0, g, dr, tk, os⟩ := s
  have I₁ : W.InstAt h₁ x (excO C t0) C none := ⟨hx₁, rfl, rfl, trivial⟩
  obtain ⟨oD, hD1, hD2⟩ : ∃ oD, h₁.get? C = some oD ∧ oD.data = .cls { name := nm, bases := bs', mro := .ref C :: bm, ns := N, qualname := q', hasDict := true, slotNames := sn, subclasses := sub, abstract := ab, collection := col, hasDel := false } := ⟨_, X₁ _ _ hC, rfl⟩
  have nk : ∀ {b : Addr} {o : Obj}, K.lookup b = some o → b ≠ x := fun e z => by rw [z, hnx] at e; cases e
  obtain ⟨pl, hev⟩ := hev (callEnv (ksFn "__init__" qual params (eiB fl q) sc dV kV doc pm an (.ref cda) ct cc) hp0.objs.size fI) rfl
  refine ks_wpAt_execs_cons (ks_wpAt_Expr_any (hi := hint _ rfl) (ks_wpAt_MethodCall (he := hev) ?_))
  refine ks_wpAt_super_base (env := callEnv (ksFn "__init__" qual params (eiB fl q) sc dV kV doc pm an (.ref cda) ct cc) hp0.objs.size fI) k6 k7 (by decide) rfl (X₁ _ _ ho) rfl hp rfl (X₁ _ _ hcode) rfl hvs hfile htop ?_
  refine ks_loadName_global k1 k6 (loadGlobal_builtin (G.keeps hk₁) gs (B.keeps hk₁) bs ⟨rfl, ?_⟩)
  refine wpAny_loadName_free k1 k7 rfl ⟨_, X₁ _ _ hcell, rfl⟩ ?_
  rw [har]
  refine wpAny_loadName_local k1 k4 hns mself ?_
  refine ks_wpAny_isType_cls hD1 hD2 ⟨rfl, ?_⟩
  refine ks_wpAny_call_super hD1 hD2 I₁.at_ I₁.cls (fun c e => by cases e) (looks_mroIn X₁ hmro) (fun h2 e2 kk2 => ?_)
  have X2 : K.In h2 := X₁.keeps kk2
  have hI2 : W.Looks (model P w) h2 (isInstance (.ref x) (.type "ValueError")) true := (show W.InstAt h2 x (excO C t0) C none from ⟨kk2 _ _ hx₁, rfl, rfl, trivial⟩).type.andThen (looks_subIn X2 hsub)
  have hxC : x ≠ C := fun z => by
    rw [← z, hx₁] at hD1
    cases hD1
    cases hD2
  have supA : alongIn K "__init__" (((.ref C :: bm).dropWhile (· != .ref C)).drop 1) = some (some (.builtin "ValueError.__init__")) := by
    have z := sup
    unfold ks_superIn at z
    rw [hcl] at z
    exact z
  refine kxs_getMethod kxs_ValueError e2 (looks_opaque X2 hop) (l₀ := .ref C :: bm) (fun A Q E s k q => wpAny_bind ((looks_clsIn X2 hcl) A _ E s k (wpAny_pure q))) rfl X2 supA hI2 hxC (by decide) ?_
  have kk3 : ∀ b o, h2.get? b = some o → (h2.push (kxs_mw "ValueError.__init__" x)).get? b = some o := fun b o e => Heap.get?_push_of_some _ e
  have hu : (h2.push (kxs_mw "ValueError.__init__" x)).get? h2.objs.size = some (kxs_mw "ValueError.__init__" x) := Heap.get?_push_size _ rfl
  refine cw_one (i := "ValueError.__init__") (x := x) (spliced_more ?_ rfl) rfl
  refine wpAny_Name (wpAny_loadName_local k1 k5 ((hns.keeps kk2).keeps kk3) mfl ?_) hdf
  refine spliced_none ⟨hu, ?_⟩
  refine call_mw (hC := kk3 _ _ (kk2 _ _ (X₁ _ _ hC))) (he := kk3 _ _ (kk2 _ _ hx₁)) hu (by show 1 ≤ sizeLine; rw [sizeLine_eq]; omega) (fun h4 t1 kk4 hx4 => ?_)
  have nx : ∀ {b : Addr} {o : Obj}, h₁.get? b = some o → b ≠ x → h4.get? b = some o := fun {b o} e n => kk4 b o n (kk3 _ _ (kk2 _ _ e))
  have X4 : K.In h4 := fun a o e => nx (X₁ _ _ e) (nk e)
  have hns4 : h4.Ns hp0.objs.size m := hns.at fun o e => nx e hxL
  refine wpAt_of_wpAny (wpAny_execs_cons (plainObj_wpAny_Assign_Attribute (hs := hsw _ rfl) ?_))
  refine wpAny_Name (wpAny_loadName_local k1 k5 hns4 mfl ?_) hdf
  refine wpAny_Name (wpAny_loadName_local k1 k4 hns4 mself ?_) (by decide)
  refine set_plain X4 (ox := excO C t1) (od := none) ⟨hx4, rfl, rfl, trivial⟩ T.sa ?_
  refine exc_osa X4 hx4 hcl (show refsVE (.ref C :: bm) = true from hbm) rfl nf (fun h5 tk5 dx k₅ dn dne hx5 hn5 => ?_)
  show wpAny _ _ (execs _ _) _ _ _
  have z : hp0.objs.size < h₁.objs.size := hns.lt
  have z4 : hp0.objs.size < h4.objs.size := hns4.lt
  exact wpAny_execs_nil (hq h5 tk5 dx t1 (fun b o hb e => k₅ b o hb (nx (hk₁ b o e) hb)) hx5 (Nat.le_of_lt (Nat.lt_of_lt_of_le z4 dn)) dne hn5)
end
end M

/-! ### own errors: raised, made -/
namespace M
open PySem PySem.Spec PyProof.Rows L2 PySem.HandSPX
/-- the run of C's __init__ -/
def IniRun (P : Program) (w : World) (K : PySem.W.Frag) (mg : Str → Option Value) (fl : Str) (C fI : Addr) (fd : FuncData) : Prop :=
  ∀ {A : Around} {R : Result → Shared → Prop} {s : Shared} {args : Args} {x t0 : Addr} {v : Value}, K.In s.heap → s.heap.NoLimit → s.heap.Ns mainGlobals mg → (∃ mb, s.heap.Ns builtinsNs mb ∧ ∀ x : Str, x ≠ "__name__" → mb x = bootBuiltins x) →
    s.heap.get? x = some (excO C t0) → K.lookup x = none → A.depth < recursionLimit → BindsTo s fd args [("self", .ref x), (fl, v)] →
    (∀ h' tk dx t1, (∀ b o, b ≠ x → s.heap.get? b = some o → h'.get? b = some o) → h'.get? x = some { cls := .ref C, dict := some dx, data := .fields #[.ref t1, .none, .none, .none, .bool false, .none] } → s.heap.objs.size ≤ dx → dx ≠ x →
      h'.Ns1 dx (fun y => if y = fl then some v else none) → R (.ok (.ret .none)) { s with heap := h', toks := tk }) → codeAny (model P w) A (.call (.ref fI) args) R s
structure ExcAt (P : Program) (w : World) (K : PySem.W.Frag) (mg : Str → Option Value) (x fl : Str) (C : Addr) : Prop where
  gC : mg x = some (.ref C)
  T : OexC K C
  ga : PySem.W.findIn K (.ref C) "__getattribute__" = some (some (.builtin "BaseException.__getattribute__"))
  gg : PySem.W.findIn K (.ref C) "__getattr__" = some none
  nf : PySem.W.findIn K (.ref C) fl = some none
  hd : PySem.W.hasDictIn K C = true
  init : ∃ (fI : Addr) (fd : FuncData), PySem.W.findIn K (.ref C) "__init__" = some (some (.ref fI)) ∧ PySem.W.typeIn K (.ref fI) = some (.type "function") ∧ IniRun P w K mg fl C fI fd ∧
    (∀ (s : Shared) (u v : Value), K.In s.heap → BindsTo s fd ⟨[u, v], []⟩ [("self", u), (fl, v)]) ∧ (∀ (s : Shared) (u : Value), K.In s.heap → BindsTo s fd ⟨[u], []⟩ [("self", u), (fl, .none)]) ∧
    (∀ (s : Shared) (u v : Value), K.In s.heap → BindsTo s fd ⟨[u], [(fl, v)]⟩ [("self", u), (fl, v)])
theorem relO_one {fl : Str} {v : V} {v' : Value} (r : RelV v v') (f : Str) : RelO (List.lookup f [(fl, v)]) (if f = fl then some v' else none) := relO_put (fs := []) (mA := fun _ => none) r (fun _ => trivial) f
section
variable {X : Cx} {C : Addr} {x fl : Str}
/-- a made one, seen from the caller -/
theorem mk_seen {pins : List (Addr × Obj)} {σ : L2.St} {H1 : Hp} {Q : XK} {hp h' : Heap} {g : Array GenState} {dr : Drawn} {tk tk' : Nat} {os : OsState} {e d t1 : Addr} {v : V} {v' : Value} (T : OexC X.K C) (I1 : Inv X pins σ H1 ⟨hp, g, dr, tk, os⟩)
    (keep : ∀ b o, hp.get? b = some o → h'.get? b = some o) (new : hp.objs.size ≤ e) (hx : h'.get? e = some { cls := .ref C, dict := some d, data := .fields #[.ref t1, .none, .none, .none, .bool false, .none] }) (db : hp.objs.size ≤ d) (dne : d ≠ e)
    (ns : h'.Ns1 d (fun y => if y = fl then some v' else none)) (rv : RelV v v') (q : Q (.ref C) (some d) (upd H1 d (.xd [(fl, v)]))) : MkP X pins σ Q (.ref e) ⟨h', g, dr, tk', os⟩ := by
  obtain ⟨G', g1, g2⟩ := restrict h' fun b => decide (b ≠ e)
  have gk : ∀ b, b ≠ e → G'.get? b = h'.get? b := fun b hb => g1 b (decide_eq_true hb)
  have ge : G'.get? e = none := g2 e (by simp)
  have old : ∀ b o, hp.get? b = some o → G'.get? b = some o := fun b o q => (gk b (Nat.ne_of_lt (Nat.lt_of_lt_of_le (Heap.lt_size q) new))).trans (keep b o q)
  have ob : ObjOk X.prog X.w (upd H1 d (.xd [(fl, v)])) G' d (.xd [(fl, v)]) := ⟨_, ns.at (fun o q => (gk d dne).trans q), fun f => relO_one rv f⟩
  have J : Inv X pins σ (upd H1 d (.xd [(fl, v)])) ⟨G', g, dr, tk', os⟩ := I1.laid (t' := tk') old db ob
  refine ⟨e, _, _, ⟨G', g, dr, tk', os⟩, _, .ref C, some d, rfl, J, fun b o q => ?_, ge, hx, ⟨rfl, rfl⟩, rfl, rfl, ?_, rfl, I1.bare, raises_own T.exC T.tyC, q⟩
  · by_cases hb : b = e
    · have q' : G'.get? b = some o := q
      rw [hb, ge] at q'; cases q'
    · exact (gk b hb).symm.trans q
  · rw [upd_ne (Ne.symm dne)]
    exact I1.hok.fresh new
def mMk (C : Addr) (fl : Str) (ta : TA) : L2.St → Hp → XK → Prop := fun σ H Q => ta σ H fun vs H1 => match vs with
  | [v] => ∀ d, H1 d = none → Q (.ref C) (some d) (upd H1 d (.xd [(fl, v)]))
  | _ => False
theorem vals_one {v : V} {us : List Value} (r : Vals [v] us) : ∃ u, us = [u] ∧ RelV v u := by
  cases r with
  | cons h1 h2 =>
    cases h2
    exact ⟨_, rfl, h1⟩
/-- C(v): the call -/
theorem call_exc {pins : List (Addr × Obj)} {σ : L2.St} {H1 : Hp} {Q : XK} {s1 : Shared} {v : V} {u : Value} {k : Nat} {A : Around} (T : ExcAt X.prog X.w X.K X.mg x fl C) (hr : A.depth + 2 < recursionLimit) (I1 : Inv X pins σ H1 s1) (rv : RelV v u)
    (q : ∀ d, H1 d = none → Q (.ref C) (some d) (upd H1 d (.xd [(fl, v)]))) {E : Value → Shared → Prop} : wpAny (model X.prog X.w) A (call (.ref C) [u]) (MkP X pins σ Q) E s1 := by
  obtain ⟨nm, q', N, bs, bm, sn, sub, ab, col, dd, k0, k1, k2, k3, k5, hC, hbm⟩ := T.T.cls
  obtain ⟨fI, fd, iC, tI, run, b1, _, _⟩ := T.init
  have hlim := I1.nolimit
  have KX := I1.kIn
  have G : s1.heap.Ns mainGlobals X.mg := I1.mod.glob.keeps I1.bk
  obtain ⟨mb, hb1, hb2⟩ := I1.mod.blt
  have B : s1.heap.Ns builtinsNs mb := hb1.keeps I1.bk
  obtain ⟨hp, g, dr, tk, os⟩ := s1
  have kk : ∀ b o, hp.get? b = some o → ((hp.push (PySem.W.kdv_tup [u])).push (excO C hp.objs.size)).get? b = some o := fun b o e => Heap.get?_push_of_some _ (Heap.get?_push_of_some _ e)
  have hget : ((hp.push (PySem.W.kdv_tup [u])).push (excO C hp.objs.size)).get? (hp.objs.size + 1) = some (excO C hp.objs.size) := by heap_get
  have hnx : X.K.lookup (hp.objs.size + 1) = none := by
    cases e : X.K.lookup (hp.objs.size + 1) with
    | none => rfl
    | some o =>
      have z : hp.get? (hp.objs.size + 1) = some o := KX _ _ e
      exact absurd (Nat.lt_of_succ_lt (Heap.lt_size z)) (Nat.lt_irrefl _)
  have KX2 : X.K.In ((hp.push (PySem.W.kdv_tup [u])).push (excO C hp.objs.size)) := KX.keeps kk
  refine wpAny_call (call_own F.excBase_ValueError (fun X => refsVE_contains X bm hbm) (KX _ _ hC) (PySem.W.looks_findIn KX iC) (fun self => PySem.W.bind_fn KX self tI) (by show 1 ≤ sizeLine; rw [sizeLine_eq]; omega) ?_)
  refine run (s := ⟨(hp.push (PySem.W.kdv_tup [u])).push (excO C hp.objs.size), g, dr, tk, os⟩) KX2 (hlim.keeps kk) (G.keeps kk) ⟨mb, B.keeps kk, hb2⟩ hget hnx ?_ (b1 _ _ _ KX2) fun h' tk' dx t1 k' hx dn dne hns => ?_
  · show A.depth + 1 < recursionLimit
    omega
  · have old : ∀ b o, hp.get? b = some o → h'.get? b = some o := fun b o e => k' b o (Nat.ne_of_lt (Nat.lt_succ_of_lt (Heap.lt_size e))) (kk b o e)
    have z : hp.objs.size + 1 + 1 ≤ dx := by
      first
        | (simpa only [Heap.size_push] using dn)
        | exact dn
    have db : hp.objs.size ≤ dx := Nat.le_trans (Nat.le_trans (Nat.le_succ _) (Nat.le_succ _)) z
    exact ⟨rfl, mk_seen T.T I1 old (Nat.le_succ _) hx db dne hns rv (q dx (I1.hok.fresh db))⟩
theorem pmk_exc {es : List Expr} {e : Expr} {ta : TA} {p pos : Pos} {k : Nat} (T : ExcAt X.prog X.w X.K X.mg x fl C) (hr : Room k X.A) (hg : Gl X x) (ha : PA X (e :: es) ta) (hdb : (x == ("__debug__" : Str)) = false := by decide)
    (he : starEach (e :: es) X.env = (false, eval e X.env) :: starEach es X.env := by rfl) (hpl : (backTo pos (starEach es X.env)).any (·.1) = false := by rfl) : PMk X (.Call (.Name x p) (e :: es) [] pos) (mMk C fl ta) := by
  intro pins s σ H Q I h
  refine wpAny_Call_Name_kw (ld_glob I hg T.gC ?_ hdb)
  refine PySem.W.callWith_K (h₀ := X.base) I.ok.mod.kin T.T.kC (thn ((pa_cl ha).run pos pins s σ H (fun vs H1 => ∃ v, vs = [v] ∧ ∀ d, H1 d = none → Q (.ref C) (some d) (upd H1 d (.xd [(fl, v)]))) I ⟨_, h, fun vs H1 z => ?_⟩) fun us s1 ⟨vs, H1, I1, r1, v, ev, q1⟩ => ⟨I1.kIn, ?_⟩) he hpl
  · split at z
    · exact ⟨_, rfl, z⟩
    · exact z.elim
  · subst ev
    obtain ⟨u, rfl, ru⟩ := vals_one r1
    exact call_exc (k := k) T (by have := hr.dp; omega) I1 ru q1
/-- raise C(v) -/
def mRaise (C : Addr) (fl : Str) (ta : TA) (E : XK) : TS := fun _ σ H => mMk C fl ta σ H fun cls d H' => E cls d H'
theorem ms_raise {es : List Expr} {e : Expr} {ta : TA} {p pos pos2 : Pos} {k : Nat} {E : XK} (T : ExcAt X.prog X.w X.K X.mg x fl C) (hr : Room k X.A) (hc : X.calm = true) (tk : Takes X (fun cls d _ H => E cls d H)) (hg : Gl X x) (ha : PA X (e :: es) ta) (hdb : (x == ("__debug__" : Str)) = false := by decide)
    (he : starEach (e :: es) X.env = (false, eval e X.env) :: starEach es X.env := by rfl) (hpl : (backTo pos (starEach es X.env)).any (·.1) = false := by rfl) : PS X (.Raise (some (.Call (.Name x p) (e :: es) [] pos)) none pos2) (mRaise C fl ta E) :=
  ps_raise hc tk (pmk_exc T hr hg ha hdb he hpl)
end
end M

/-! ### a caught error, kept behind the try -/
namespace M
open PySem PySem.Spec PyProof.Rows L2 PySem.HandSPX
/-- at a: an exception of the class cls, its dict d -/
def exk (a : Addr) (cls : Value) (d : Option Addr) : HO := .ext fun h => ∃ (o : Obj) (vs : Array Value), h.get? a = some o ∧ o.cls = cls ∧ o.dict = d ∧ o.data = .fields vs
theorem exk_ok {P : Program} {w : World} {H : Hp} {h : Heap} {a : Addr} {cls : Value} {d : Option Addr} {o : Obj} {vs : Array Value} (e : h.get? a = some o) (hz : Zc cls d o) (hd : o.data = .fields vs) : ObjOk P w H h a (exk a cls d) :=
  ⟨⟨o, vs, e, hz.1, hz.2, hd⟩, ⟨_, e⟩, fun h1 h2 z k => by
    obtain ⟨o, vs, q, r⟩ := z
    exact ⟨o, vs, k _ q, r⟩⟩
theorem exk_at {P : Program} {w : World} {H : Hp} {h : Heap} {a : Addr} {cls : Value} {d : Option Addr} (hok : HOk P w H h) (he : H a = some (exk a cls d)) : ∃ (o : Obj) (vs : Array Value), h.get? a = some o ∧ o.cls = cls ∧ o.dict = d ∧ o.data = .fields vs := by
  have x : ObjOk P w H h a (.ext fun h => ∃ (o : Obj) (vs : Array Value), h.get? a = some o ∧ o.cls = cls ∧ o.dict = d ∧ o.data = .fields vs) := hok a _ he
  exact x.1
section
variable {X : Cx} {pins : List (Addr × Obj)} {σ : L2.St} {H : Hp} {s : Shared}
/-- an object of the heap that was not looked at is looked at from now on -/
theorem Inv_track {a : Addr} {o : Obj} {vs : Array Value} {cls : Value} {d : Option Addr} (I : L2.Inv X pins σ H s) (e : s.heap.get? a = some o) (hz : Zc cls d o) (hd : o.data = .fields vs) (na : H a = none) (n0 : X.s_0.heap.get? a = none) (nL : a ≠ X.env.locals)
    (nP : ∀ p ∈ X.pn ++ pins, p.1 ≠ a) : L2.Inv X pins σ (upd H a (exk a cls d)) s := by
  have n1 : ∀ b o, X.s_0.heap.get? b = some o → b ≠ a := fun b o q z => by rw [z, n0] at q; cases q
  refine ⟨I.ok, I.os, I.bare, ⟨I.base.keep, I.base.slot, fun b o q n hx => ?_, I.base.there, fun b xs q => ?_, fun b o u q => ?_, fun b ps q => ?_⟩, I.loc, I.cell, ?_, fun x c q => ?_, fun p hp => ?_, fun b ob q => ?_, I.len⟩
  · rw [upd_ne (n1 b o q)]; exact I.base.free b o q n hx
  · have z := I.base.tups b xs q
    rw [upd_ne (ne_of_none z na)]; exact z
  · have z := I.base.frzs b o u q
    rw [upd_ne (ne_of_none z na)]; exact z
  · obtain ⟨more, z⟩ := I.base.tbls b ps q
    exact ⟨more, by rw [upd_ne (ne_of_none z na)]; exact z⟩
  · rw [upd_ne (Ne.symm nL)]; exact I.free
  · have : c ≠ a := fun z => by
      obtain ⟨v, hv⟩ := I.cell x c q
      obtain ⟨oc, q1, q2⟩ := hv
      rw [z, e] at q1
      cases q1
      rw [hd] at q2
      cases q2
    rw [upd_ne this]; exact I.freeC x c q
  · obtain ⟨p1, p2, p3⟩ := I.pin p hp
    exact ⟨p1, by rw [upd_ne (nP p hp)]; exact p2, p3⟩
  · by_cases hb : b = a
    · subst hb
      rw [upd_same] at q
      cases q
      exact exk_ok e hz hd
    · rw [upd_ne hb] at q
      exact (I.hok b ob q).stay (fun c v hc z => z) (fun c hc => by rw [upd_ne (ne_of_none hc na)]; exact hc) (fun c xs hc => by rw [upd_ne (ne_of_none hc na)]; exact hc)
/-- what is wished of an exception of the body: it is caught, n = it -/
def wK (K : PySem.W.Frag) (c : Value) (i j : Nat) (D : Ends) : WX := fun cls d σ H => PySem.W.exmOne K cls c = some true ∧ ∀ a, H a = none → D.nx ((σ.set j (some (.ref a))).set i none) (upd H a (exk a cls d))
def mTry (K : PySem.W.Frag) (c : Value) (i j : Nat) (tb : WX → TS) : TS := fun D σ H => tb (wK K c i j D) D σ H
end
end M

namespace M
open PySem PySem.Spec PyProof.Rows L2 PySem.HandSPX
section
variable {X : Cx} {x n y : Str} {c : Value} {i j : Nat} {body : List Stmt} {np pos pos' p1 p2 p3 : Pos} {tb : WX → TS}
theorem ms_try (hs : X.stack = X.env :: X.outer) (hf : X.env.frame = some X.env.locals) (hex : X.ex = []) (hN : X.N.Nodup) (hi : X.N[i]? = some n) (hln : X.env.kindOf n = some .local) (hc : Names X x c)
    (hb : ∀ (W : WX) (pn : List (Addr × Obj)) (xe : Value → Shared → Prop), Takes (X.tr pn xe) W → PassesOwn (model X.prog X.w) X.A X.env xe → PSs (X.tr pn xe) body (tb W))
    (hsu : ∀ (a : Addr) (oe : Obj) (pn : List (Addr × Obj)), (∃ vs, oe.data = .fields vs) → PSs (X.suite a ((a, oe) :: pn)) [.Assign [.Name y p1] (.Name n p2) p3] (tAsg (mVar i) (gName j))) :
    PS X (.Try body [.ExceptHandler (some (.Name x np)) (some n) [.Assign [.Name y p1] (.Name n p2) p3] pos'] [] [] pos) (mTry X.K c i j tb) := by
  refine ⟨fun pins s σ H D I h => ?_⟩
  have ok := I.ok
  have hfr : X.A.frames = some (X.env :: X.outer) := by rw [ok.frames, hs]
  have hloc : Loc X.env.scope n := .inl hln
  refine wpAny_Try_except ?_
  refine wpAny_mono ((hb (wK X.K c i j D) (X.pn ++ pins) (fun e s₁ => wpAny (model X.prog X.w) X.A (noteFrame e X.env) (fun _ s₂ => wpAny (model X.prog X.w) X.A (setFlight e none) (fun _ s₃ =>
    wpAny (model X.prog X.w) X.A (handleBy e X.env [.ExceptHandler (some (.Name x np)) (some n) [.Assign [.Name y p1] (.Name n p2) p3] pos']) (SP X pins D) X.xe s₃) X.xe s₂) X.xe s₁) (fun u s' xx => ?_) PassesOwn.looking).run [] s σ H D (I.toTry _) h) (fun f s1 hsp => ?_) (fun e s1 he => he)
  · obtain ⟨a, B, sI, pins', σ', H', cls, d, rfl, J', nb, up, sky, na, os, ag, hb1, hyes⟩ := xx
    have J : L2.Inv X pins σ' H' sI := J'.ofTry ok
    have sky' : Sky B (X.env :: X.outer) a (Zc cls d) X.env.locals s'.heap := by rw [← hs]; exact sky
    show wpAny (model X.prog X.w) X.A (noteFrame (.ref a) X.env) _ _ _
    refine Sky.land Zc.steady hfr hf sky' fun h3 fl3 up3 => ?_
    have J3 : L2.Inv X pins σ' H' { s' with heap := h3 } := J.landed nb fl3.1 (up.trans up3) os ag
    obtain ⟨oe3, vs3, he3, hz3, hd3⟩ := fl3.there
    have notFr : ∀ {h : Heap} {o : Obj} {vs : Array Value}, h.FunFrames B (X.env :: X.outer) → h.get? a = some o → o.data = .fields vs → a ∉ frs (X.env :: X.outer) := fun {h o vs} ff e dd hm => by
      obtain ⟨_, o', e', hnf⟩ := ff.mem hm
      rw [e] at e'; cases e'
      exact hnf _ dd
    have nfr := notFr fl3.2.2.1 he3 hd3
    have nL : a ≠ X.env.locals := fun z => nfr (List.mem_filterMap.mpr ⟨X.env, List.mem_cons_self, by rw [hf, z]⟩)
    have nF : a ∉ X.fs := fun hm => by
      obtain ⟨e, he, q⟩ := List.mem_filterMap.mp hm
      exact nfr (List.mem_filterMap.mpr ⟨e, List.mem_cons_of_mem _ he, q⟩)
    have nI : sI.heap.get? a = none := by
      cases q : sI.heap.get? a with
      | none => rfl
      | some o =>
        have z := nb a o q (by rw [hs]; exact nfr)
        rw [fl3.2.1] at z
        cases z
    have n0 : X.s_0.heap.get? a = none := by
      cases q : X.s_0.heap.get? a with
      | none => rfl
      | some o =>
        obtain ⟨o', z⟩ := J.base.there a o q (by rw [hex]; simp)
        rw [nI] at z
        cases z
    have nP : ∀ p ∈ X.pn ++ pins, p.1 ≠ a := fun p hp z => by
      have q := (J.pin p hp).1
      rw [z, nI] at q
      cases q
    have S3 := J3.suite he3 hd3 na nL nF
    refine wpAny_handleBy_cons (codeAny_handlers_test ?_) (by intro q; cases q)
    have LT : PySem.W.Looks (model X.prog X.w) h3 (typeOf (.ref a)) cls := fun A Q E s k q => wpAny_typeOf_ref (k _ _ he3) (by rw [hz3.1]; exact q)
    have LM := PySem.W.exm_one (M := model X.prog X.w) (J3.kIn) LT hb1
    have test : ∀ {Q : Value → Shared → Prop} {E : Value → Shared → Prop}, Q c { s' with heap := h3 } → wpAny (model X.prog X.w) (X.A.mark (some (.ref a))) (eval (.Name x np) X.env) Q E { s' with heap := h3 } := fun {Q E} q => by
      obtain ⟨hg, hdbg, hm | ⟨hm, hv, hnn⟩⟩ := hc
      · exact ld_glob (X := X.suite a ((a, oe3) :: (X.pn ++ pins))) S3 hg hm q hdbg
      · exact ld_blt (X := X.suite a ((a, oe3) :: (X.pn ++ pins))) S3 hg hm hv q hnn hdbg
    refine test (LM.here ?_)
    refine codeAny_handlers_suite_as ?_
    refine HandSPX.lands_againZ fl3 fun h4 fl4 up4 => ?_
    have J4 : L2.Inv X pins σ' H' { s' with heap := h4 } := J.landed nb fl4.1 ((up.trans up3).trans up4) os ag
    obtain ⟨oe4, vs4, he4, hz4, hd4⟩ := fl4.there
    have S4 := J4.suite he4 hd4 na nL nF
    refine store_ok (X := X.suite a ((a, oe4) :: (X.pn ++ pins))) (v := .ref a) S4 hN hi hloc rfl (fun s5 S5 => ?_) (.inr hln)
    have il : i < σ'.length := by
      rw [J.len]
      exact (List.getElem?_eq_some_iff.mp hi).1
    have hgt : ∀ (l : Sl) (k : Nat) (v : V), k < l.length → M.gt (l.set k (some v)) k = some v := by
      intro l
      induction l with
      | nil => intro k v hk; exact absurd hk (by simp)
      | cons b r ih =>
        intro k v hk
        cases k with
        | zero => rfl
        | succ k => exact ih k v (by simpa using hk)
    have hread : (tAsg (mVar i) (gName j)) ({ nx := fun σ6 H6 => H6 = H' ∧ σ6 = (σ'.set i (some (.ref a))).set j (some (.ref a)), rt := fun _ _ => False, bk := fun _ _ => False, ct := fun _ _ => False } : Ends) (σ'.set i (some (.ref a))) H' := by
      show (match M.gt (σ'.set i (some (.ref a))) i with | some v => _ | none => False)
      rw [hgt _ _ _ il]
      exact ⟨rfl, rfl⟩
    refine wpAny_mono ((hsu a oe4 (X.pn ++ pins) ⟨_, hd4⟩).run [] s5 _ H' _ S5 hread) (fun f s6 hsp => ?_) (fun _ _ z => False.elim z)
    cases f with
    | next =>
      obtain ⟨σ6, H6, S6, rfl, rfl⟩ := hsp
      have he6 : s6.heap.get? a = some oe4 := (S6.pin (a, oe4) (List.mem_append_left _ List.mem_cons_self)).1
      have T6 := Inv_track (S6.unsuite ok) he6 hz4 hd4 na n0 nL nP
      refine gone_ok T6 hN hi hln fun s7 J7 => ⟨_, _, J7, ?_⟩
      by_cases hij : i = j
      · subst hij
        have z := hyes a na
        rw [List.set_set] at z
        rw [List.set_set, List.set_set]
        exact z
      · have z := hyes a na
        have e : ((σ'.set i (some (V.ref a))).set j (some (V.ref a))).set i none = (σ'.set j (some (V.ref a))).set i none := by
          rw [List.set_comm _ _ hij, List.set_set]
        rw [e]
        exact z
    | brk =>
      obtain ⟨σ6, H6, S6, q6⟩ := hsp
      exact q6.elim
    | cont =>
      obtain ⟨σ6, H6, S6, q6⟩ := hsp
      exact q6.elim
    | ret u =>
      obtain ⟨v6, σ6, H6, S6, r6, q6⟩ := hsp
      exact q6.elim
  · cases f with
    | next =>
      obtain ⟨σ', H', J', q⟩ := hsp
      exact wpAny_execs_nil ⟨σ', H', J'.ofTry ok, q⟩
    | brk =>
      obtain ⟨σ', H', J', q⟩ := hsp
      exact ⟨σ', H', J'.ofTry ok, q⟩
    | cont =>
      obtain ⟨σ', H', J', q⟩ := hsp
      exact ⟨σ', H', J'.ofTry ok, q⟩
    | ret u =>
      obtain ⟨v, σ', H', J', r, q⟩ := hsp
      exact ⟨v, σ', H', J'.ofTry ok, r, q⟩
end
end M

/-! ### defs that show values: no repr is under way above them -/
namespace M
open PySem PySem.Spec PyProof.Rows L2 PySem.HandSPX
structure RoomG (k : Nat) (A : Around) : Prop where
  hd : A.handled = none
  dp : A.depth + k + 20 < recursionLimit
  un : A.units + 8 * k + 300 < cLine
  gd : A.guards = some []
theorem RoomG.mono {j k : Nat} {A : Around} (r : RoomG k A) (h : j ≤ k) : RoomG j A := ⟨r.hd, by have := r.dp; omega, by have := r.un; omega, r.gd⟩
theorem RoomG.deeper {k : Nat} {A : Around} (r : RoomG (k + 1) A) (env : Env) : RoomG k (A.deeper env) := ⟨r.hd, by have := r.dp; show A.depth + 1 + k + 20 < _; omega, by have := r.un; show A.units + 3 + 8 * k + 300 < _; omega, r.gd⟩
theorem RoomG.room {j k : Nat} {A : Around} (r : RoomG k A) (h1 : 3 * j ≤ k + 15) (h2 : 16 * j ≤ 8 * k + 100) : Room j A := ⟨r.hd, by have := r.dp; omega, by have := r.un; omega⟩
theorem RoomG.r0 {k : Nat} {A : Around} (r : RoomG k A) : Room 0 A := r.room (by omega) (by omega)
theorem RoomG.units {k : Nat} {A : Around} (r : RoomG k A) : A.units + 64 < cLine := by have := r.un; omega
theorem RoomG.depth {k : Nat} {A : Around} (r : RoomG k A) : A.depth < recursionLimit := by have := r.dp; omega
structure FnG (P : Program) (w : World) (K : PySem.W.Frag) (mg : Str → Option Value) (base : Heap) (CX : CXT) (k : Nat) (f : Addr) (fd : FuncData) (ps : List Str) (sp : Sp) : Prop where
  len : ∀ vs H Q E, sp vs H Q E → vs.length = ps.length
  run : ∀ (A : Around) (outer : List Env) (s : Shared) (H : Hp) (args : Args) (us : List Value) (vs : List V) (Q : VK) (E : XK), RoomG k A → Env0 P w K mg base A outer s H → BindsTo s fd args (ps.zip us) → Vals vs us → sp vs H Q E →
    codeAny (model P w) A (.call (.ref f) args) (CR CX outer P w H s Q E) s
theorem FnG.of {P : Program} {w : World} {K : PySem.W.Frag} {mg : Str → Option Value} {base : Heap} {CX : CXT} {j k : Nat} {f : Addr} {fd : FuncData} {ps : List Str} {sp : Sp} (F : FnOk P w K mg base CX j f fd ps sp) (h1 : 3 * j ≤ k + 15) (h2 : 16 * j ≤ 8 * k + 100) : FnG P w K mg base CX k f fd ps sp :=
  ⟨F.len, fun A outer s H args us vs Q E hr => F.run A outer s H args us vs Q E (hr.room h1 h2)⟩
theorem FnG.zero {P : Program} {w : World} {K : PySem.W.Frag} {mg : Str → Option Value} {base : Heap} {CX : CXT} {k : Nat} {f : Addr} {fd : FuncData} {ps : List Str} {sp : Sp} (no : ∀ vs H Q E, ¬ sp vs H Q E) : FnG P w K mg base CX k f fd ps sp :=
  ⟨fun vs H Q E h => absurd h (no vs H Q E), fun A outer s H args us vs Q E _ _ _ _ h => absurd h (no vs H Q E)⟩
theorem FnG.mono {P : Program} {w : World} {K : PySem.W.Frag} {mg : Str → Option Value} {base : Heap} {CX : CXT} {j k : Nat} {f : Addr} {fd : FuncData} {ps : List Str} {sp : Sp} (F : FnG P w K mg base CX j f fd ps sp) (h : j ≤ k) : FnG P w K mg base CX k f fd ps sp :=
  ⟨F.len, fun A outer s H args us vs Q E hr => F.run A outer s H args us vs Q E (hr.mono h)⟩
section
variable {P : Program} {w : World} {K : PySem.W.Frag} {mg : Str → Option Value} {base : Heap} {x qual : Str} {params : Arguments} {body : List Stmt} {scope : Scope} {dvs : List V} {kws : List (Str × V)} {f : Addr} {fd : FuncData}
theorem okG {CX : CXT} {N ps : List Str} {k : Nat} {sp : Sp} (F : FunD K x qual params body scope dvs kws f fd) (S : FnScope N ps scope) (len : ∀ vs H Q E, sp vs H Q E → vs.length = ps.length)
    (hbody : ∀ (cdv : Value) (A : Around) (outer : List Env) (s : Shared) (H : Hp) (vs : List V) (Q : VK) (E : XK), RoomG k (A.deeper (envOfC qual scope s.heap.objs.size f cdv)) → sp vs H Q E →
      ∃ t, PSs (cxOf CX P w K mg base N qual scope f cdv A outer s H E) body t ∧ t { nx := fun _ H' => Q .non H', rt := Q } (start N vs) H) : FnG P w K mg base CX (k + 1) f fd ps sp := by
  obtain ⟨oc, od, dV, kV, doc, pm, an, cdv, ct, osl, rfl, lk, hcd, _, _⟩ := F.ex
  refine ⟨len, fun A outer s H args us vs Q E hr e0 hb r hsp => ?_⟩
  have up : ∀ b o, base.get? b = some o → s.heap.get? b = some o := fun b o e => (e0.bs b o e).1
  have KX : K.In s.heap := e0.mod.kin.keeps up
  have par : ∀ y ∈ ps.zip us, scope.names.lookup y.1 = some .local ∨ (scope.names.lookup y.1 = some .cell ∧ ((cellsFrom (s.heap.objs.size + 1) scope.names []).lookup y.1).isSome = true) := by
    rintro ⟨n, v⟩ hy
    exact (S.par n (List.of_mem_zip hy).1).imp id fun q => ⟨q, PySem.W.cellsFrom_some _ _ _ (.inl q)⟩
  refine codeAny_call_function hr.depth (KX _ _ lk) rfl S.co S.gen rfl (PySem.W.codeRec_of KX hcd) (hb _ _ _ _ (wpAny_newFunctionEnv_cells S.kind par fun env he s1 x => ?_))
  subst he
  obtain ⟨t, ht, hq⟩ := hbody cdv A outer s H vs Q E (hr.deeper _) hsp
  refine ⟨(e0.mod.nolimit.keeps up).keeps x.toInCall.keep, codeAny_func (wpAny_mono (ht.run [] s1 (start N vs) H _ (inv_start S hr.hd e0 (len _ _ _ _ hsp) r x) hq) (fun fl s' hs => ?_) fun e s' hs => hs)⟩
  cases fl with
  | ret u =>
    obtain ⟨v, σ', H', J, rv, q⟩ := hs
    exact ⟨v, H', J.os, J.bare, J.base, J.hok, rv, q⟩
  | next =>
    obtain ⟨σ', H', J, q⟩ := hs
    exact ⟨V.non, H', J.os, J.bare, J.base, J.hok, rfl, q⟩
  | brk => exact (hs.elim fun _ z => z.elim fun _ z => z.2).elim
  | cont => exact (hs.elim fun _ z => z.elim fun _ z => z.2).elim
end
structure CalG (P : Program) (w : World) (K : PySem.W.Frag) (mg : Str → Option Value) (base : Heap) (CX : CXT) (x : Str) (k : Nat) (ps : List Str) (dvs : List V) (sp : Sp) : Prop where
  ex : ∃ f fd ds, FnG P w K mg base CX k f fd ps sp ∧ mg x = some (.ref f) ∧ PySem.W.keepIn K (.ref f) = true ∧ Binds K fd ps ds ∧ Vals dvs ds
section
variable {X : Cx} {CX : CXT} {k : Nat} {ps : List Str} {sp : Sp} {dvs : List V} {E : XK} {x : Str} {p pos : Pos} {e : Expr} {es : List Expr} {t : TA}
theorem me_callG (C : CalG X.prog X.w X.K X.mg X.base CX x k ps dvs sp) (hr : RoomG k X.A) (hg : Gl X x) (hx : Passes CX X E) (ha : PA X (e :: es) t) (hdb : (x == ("__debug__" : Str)) = false := by decide)
    (he : starEach (e :: es) X.env = (false, eval e X.env) :: starEach es X.env := by rfl) (hpl : (backTo pos (starEach es X.env)).any (·.1) = false := by rfl) : PE X (.Call (.Name x p) (e :: es) [] pos) (tCall sp dvs E t) := by
  obtain ⟨f, fd, ds, F, hm, hk, hb, hd⟩ := C.ex
  refine ⟨fun pins s σ H Q I h => wpAny_Call_Name_kw (ld_glob I hg hm (PySem.W.callWith_K (h₀ := X.base) I.ok.mod.kin hk (thn (ha.run pos pins s σ H _ I h) fun us s1 ⟨vs, H1, I1, r, q⟩ => ⟨I1.kIn, ?_⟩) he hpl) hdb)⟩
  have r2 : Vals (vs ++ dvs) (us ++ ds) := r.append hd
  refine wpAny_call (codeAny_mono (F.run X.A X.stack s1 H1 ⟨us, []⟩ (us ++ ds) (vs ++ dvs) Q E hr I1.env0 (hb s1 us I1.kIn (r2.length.symm.trans (F.len _ _ _ _ q))) r2 q) fun r s' hq => ?_)
  rcases r with er | fl
  · exact hx pins σ H1 s1 er s' I1 hq
  · cases fl with
    | ret u => exact I1.after hq
    | next => exact False.elim hq
    | brk => exact False.elim hq
    | cont => exact False.elim hq
end
/-! ### repr -/
section
variable {X : Cx}
def fd1 : V → Option PyData
  | .int i => some (.int i)
  | .str z => some (.str z)
  | .bl b => some (.bool b)
  | .non => some .none
  | _ => none
def kd1 : Key → PyData
  | .inl i => .int i
  | .inr x => .str x
def fdKV : List (Key × V) → Option (List (PyData × PyData))
  | [] => some []
  | (k, v) :: r => match fd1 v, fdKV r with
    | some d, some q => some ((kd1 k, d) :: q)
    | _, _ => none
/-- what repr shows of a value -/
inductive Sh (K : PySem.W.Frag) (H : Hp) : V → PyData → Prop
  | dp {v : V} {d : PyData} : Dp K H v d → d.hasDict = false → Sh K H v d
  | dct {a : Addr} {kvs : List (Key × V)} {ds : List (PyData × PyData)} : H a = some (.dK kvs) → fdKV kvs = some ds → Sh K H (.ref a) (.dict ds)
def mRepr (K : PySem.W.Frag) : List V → Hp → VK → Prop := fun xs H Q => match xs with
  | [x] => ∃ d, Sh K H x d ∧ d.showable = true ∧ d.depth ≤ 64 ∧ d.shown.length ≤ sizeLine ∧ Q (.str d.shown) H
  | _ => False
theorem rd1 {h : Heap} {v : V} {u : Value} {d : PyData} (r : RelV v u) (e : fd1 v = some d) : Reads h u d [] := by
  cases v with
  | int i => obtain ⟨t, rfl⟩ := r; cases e; exact .int i t
  | str z => obtain ⟨t, rfl⟩ := r; cases e; exact .str z t
  | bl b => cases r; cases e; exact .bool b
  | non => cases r; cases e; exact .none
  | _ => cases e
theorem rdKV {P : Program} {w : World} {h : Heap} : ∀ {kvs : List (Key × V)} {vs : List (Key × Value)} {es : List DictEntry} {ds : List (PyData × PyData)}, KV kvs vs → Pairs (mixKind P w) es vs → fdKV kvs = some ds →
    ReadsAll h (es.map (·.key)) (ds.map (·.1)) [] ∧ ReadsAll h (es.map (·.val)) (ds.map (·.2)) []
  | _, _, _, _, .nil, .nil, e => by cases e; exact ⟨.nil, .nil⟩
  | (k, v) :: r, (k', u) :: r', en :: es, ds, .cons hk hr, .cons h1 h2 h3, e => by
    obtain ⟨e1, e2⟩ := hk
    unfold fdKV at e
    split at e
    · rename_i d q ed eq
      cases e
      obtain ⟨a1, a2⟩ := rdKV (h := h) hr h3 eq
      refine ⟨?_, ?_⟩
      · refine ReadsAll.cons (as := []) (bs := []) ?_ a1
        show Reads h en.key (kd1 k) []
        have e1' : k = k' := e1
        subst e1'
        rcases keyIs_shape (show keyIs _ en.key = true from h1) with ⟨i, t, z1, z2⟩ | ⟨x, t, z1, z2⟩
        · have z1' : k = .inl i := z1
          rw [z2, z1']; exact .int i t
        · have z1' : k = .inr x := z1
          rw [z2, z1']; exact .str x t
      · refine ReadsAll.cons (as := []) (bs := []) ?_ a2
        show Reads h en.val d []
        rw [h2]
        exact rd1 e2 ed
    · cases e
theorem call_reprM {k : Nat} (hr : RoomG k X.A) : CallR X (.builtin "repr") (mRepr X.K) := by
  intro pins s σ H xs us Q I r h
  unfold mRepr at h
  split at h
  · rename_i x
    obtain ⟨d, hs, h1, h2, h3, q⟩ := h
    obtain ⟨u, rfl, ru⟩ := vals_one r
    have hun := hr.un
    have fin : ∀ (a : Addr) (as : List Addr), Reads s.heap (.ref a) d as → (d.hasDict = true → sysModules ∉ as) → wpAny (model X.prog X.w) X.A (call (.builtin "repr") [.ref a]) (EP X pins σ Q) X.xe s := fun a as rd hsm =>
      repr_of_reads' rd h1 hsm hr.gd (by omega) (fun _ _ e => e) (fun h' u tk k => ⟨.str d.shown, H, I.kept (t' := tk) k, ⟨u, rfl⟩, q⟩) h3
    cases hs with
    | dp hd hn =>
      obtain ⟨as, rd⟩ := Dp.reads I d x u hd ru
      have hsm : d.hasDict = true → sysModules ∉ as := PyData.noDict_hsm hn
      cases rd with
      | none => exact PySem.P.repr_of_none ⟨.str "None", H, I.tok _, ⟨_, rfl⟩, by simpa only [PyData.shown] using q⟩
      | bool b => exact PySem.P.repr_of_bool ⟨.str (if b then "True" else "False"), H, I.tok _, ⟨_, rfl⟩, by simpa only [PyData.shown] using q⟩
      | int i t => exact PySem.P.repr_of_int (by simpa [PyData.showable] using h1) ⟨.str (toString i), H, I.tok _, ⟨_, rfl⟩, by simpa only [PyData.shown] using q⟩
      | str z t => exact PySem.P.repr_of_str ⟨.str (reprText z), H, I.tok _, ⟨_, rfl⟩, by simpa only [PyData.shown] using q⟩ (by simpa only [PyData.shown] using h3)
      | list e1 e2 e3 e4 => exact fin _ _ (.list e1 e2 e3 e4) hsm
      | tuple e1 e2 e3 e4 => exact fin _ _ (.tuple e1 e2 e3 e4) hsm
      | dict e1 e2 e3 e4 e5 => exact fin _ _ (.dict e1 e2 e3 e4 e5) hsm
    | @dct a kvs ds ha hf =>
      cases ru
      obtain ⟨_, hns, vs, hkv, o, es, ep, e1, e2, e3, e4, e5, e6⟩ := dk_of I.hok ha
      obtain ⟨r1, r2⟩ := rdKV (h := s.heap) hkv e5 hf
      refine fin a ([a] ++ [] ++ []) (.dict e1 e2.1 e3 r1 r2) fun _ hm => ?_
      have z : sysModules = a := by simpa using hm
      rw [z] at hns
      simp at hns
  · exact h.elim
end
/-! ### a kept error's field, its class -/
structure ExcK (K : PySem.W.Frag) (fl : Str) (C : Addr) : Prop where
  ga : PySem.W.findIn K (.ref C) "__getattribute__" = some (some (.builtin "BaseException.__getattribute__"))
  gg : PySem.W.findIn K (.ref C) "__getattr__" = some none
  nf : PySem.W.findIn K (.ref C) fl = some none
  hd : PySem.W.hasDictIn K C = true
  exC : PySem.W.subIn K (.ref C) (.type "BaseException") = some true
  ha : PySem.W.findIn K (.ref C) "__class__" = some (some (.builtin "object.__class__"))
  hn : PySem.W.specialIn K (.builtin "object.__class__") "__get__" = some (some (.builtin "getset_descriptor.__get__"))
  ht : PySem.W.takesIn K (.builtin "object.__class__") = some true
  hm : PySem.W.mroIn K C (.type "object") = some true
def mFld (K : PySem.W.Frag) (fl : Str) (te : TE) : TE := fun σ H Q => te σ H fun x H1 => match x with
  | .ref a => ∃ (C d : Addr) (v : V), ExcK K fl C ∧ H1 a = some (exk a (.ref C) (some d)) ∧ H1 d = some (.xd [(fl, v)]) ∧ Q v H1
  | _ => False
section
variable {X : Cx}
theorem inst_of {pins : List (Addr × Obj)} {σ : L2.St} {H : Hp} {s : Shared} {a C d : Addr} {fs : List (Str × V)} (I : L2.Inv X pins σ H s) (h1 : H a = some (exk a (.ref C) (some d))) (h2 : H d = some (.xd fs)) :
    ∃ (o od : Obj) (mA : Str → Option Value), PySem.W.InstAt s.heap a o C (some od) ∧ s.heap.Ns1 d mA ∧ (∀ f, RelO (fs.lookup f) (mA f)) ∧ s.heap.get? d = some od := by
  obtain ⟨o, vs, e1, e2, e3, e4⟩ := exk_at I.hok h1
  have hx : ObjOk X.prog X.w H s.heap d (.xd fs) := I.hok d _ h2
  obtain ⟨mA, hns, hr⟩ := hx
  obtain ⟨od, ho, hl⟩ := lookIn_ns hns
  exact ⟨o, od, mA, ⟨e1, e2, by unfold PySem.W.notCls; rw [e4] <;> rfl, by rw [e3]; exact ho⟩, hns, hr, ho⟩
theorem me_fld {e : Expr} {te : TE} {fl : Str} {pos : Pos} (he : PE X e te) (hb : attributeBase e fl X.env (eval e X.env) = eval e X.env := by rfl) : PE X (.Attribute e fl pos) (mFld X.K fl te) := by
  refine ⟨fun pins s σ H Q I h => attr_of hb (thn ((pe_cl he).run pins s σ H (fun x H1 => ∃ (a C d : Addr) (v : V), x = .ref a ∧ ExcK X.K fl C ∧ H1 a = some (exk a (.ref C) (some d)) ∧ H1 d = some (.xd [(fl, v)]) ∧ Q v H1) I ⟨_, h, fun x H1 z => ?_⟩) fun u s1 hh => ?_)⟩
  · cases x with
    | ref a => obtain ⟨C, d, v, z⟩ := z; exact ⟨a, C, d, v, rfl, z⟩
    | _ => exact z.elim
  · obtain ⟨_, H1, I1, rx, a, C, d, v, rfl, T, h1, h2, q⟩ := hh
    cases rx
    obtain ⟨o, od, mA, J, hns, hr, ho⟩ := inst_of I1 h1 h2
    obtain ⟨od', ho', hl⟩ := lookIn_ns hns
    rw [ho] at ho'
    cases ho'
    have l : List.lookup fl [(fl, v)] = some v := by simp [List.lookup]
    obtain ⟨u, hu, ru⟩ := RelO.some_of (v := v) (o := mA fl) (by rw [← l]; exact hr fl)
    exact HandSPX.exc_get I1.kIn J T.ga T.gg T.exC (PySem.W.findObj_own T.hd T.nf rfl (by rw [hl, hu])) (handed_of ru) ⟨v, H1, I1.tok _, ru, q⟩
/-- isinstance(x, C'), x None or a kept error -/
def mIsiE (K : PySem.W.Frag) : List V → Hp → VK → Prop := fun xs H Q => match xs with
  | [.ref a, .ref C'] => ∃ (C d : Addr) (fl : Str) (fs : List (Str × V)) (b : Bool), ExcK K fl C ∧ H a = some (exk a (.ref C) (some d)) ∧ H d = some (.xd fs) ∧ PySem.W.kitOne K (.ref C) (.ref C') = some b ∧ Q (.bl b) H
  | _ => mIsi K xs H Q
theorem call_isiE : CallR X (.builtin "isinstance") (mIsiE X.K) := by
  intro pins s σ H xs us Q I r h
  unfold mIsiE at h
  split at h
  · rename_i a C'
    obtain ⟨C, d, fl, fs, b, T, h1, h2, hk, q⟩ := h
    cases r with
    | cons rx rr => cases rr with
      | cons rt rr =>
        cases rr; cases rx; cases rt
        obtain ⟨o, od, mA, J, _⟩ := inst_of I h1 h2
        obtain ⟨cd, hcd, _⟩ := PySem.W.any_some T.hd
        exact PySem.W.kia_one (PySem.W.kitx_exc (by rw [hcd]; rfl) T.ga T.gg T.exC T.ha T.hn T.ht T.hm) I.kIn J hk (fun z => nomatch z) fun tk => ⟨.bl b, H, I.kept (t' := tk) fun _ _ z => z, rfl, q⟩
  · exact call_isiM pins s σ H xs us Q I r h
end
end M

/-! ### the law's end for such defs -/
namespace M
open PySem PySem.Spec PyProof.Rows L2
section
variable {P : Program} {w : World} {K : PySem.W.Frag} {mg mb : Str → Option Value} {CX : CXT} {k : Nat} {fa a : Addr} {fd : FuncData} {x : Str} {sp : Sp} {s₁ : Shared} {vs : List Value} {ns : List Int}
/-- all but what H tracks is the ground -/
theorem ground_of {H : Hp} (KX : K.In s₁.heap) (hns : s₁.heap.Ns mainGlobals mg) (hb : s₁.heap.Ns builtinsNs mb) (hbb : ∀ x : Str, x ≠ "__name__" → mb x = bootBuiltins x) (hlim : s₁.heap.NoLimit) (hg : s₁.gens = #[])
    (hok : HOk P w H s₁.heap) (noD : ∀ b o es ep, s₁.heap.get? b = some o → o.data = .dict es ep → H b = none) (noK : ∀ b o, K.lookup b = some o → H b = none) :
    K.In (hidT s₁.heap H) ∧ (hidT s₁.heap H).Ns mainGlobals mg ∧ Env0 P w K mg (hidT s₁.heap H) callerA [] s₁ H := by
  have names : ∀ {b : Addr} {m : Str → Option Value}, s₁.heap.Ns b m → (hidT s₁.heap H).Ns b m := by
    rintro b m ⟨o, es, ep, e, d, r⟩
    exact ⟨o, es, ep, hidT_get e (noD b o es ep e d), d, r⟩
  have kin : K.In (hidT s₁.heap H) := fun b o e => hidT_get (KX b o e) (noK b o e)
  obtain ⟨mc, l1, l2⟩ := hlim
  refine ⟨kin, names hns, rfl, ⟨kin, names hns, ⟨mb, names hb, hbb⟩, mc, names l1, l2⟩, fun b o e => of_hidT e, Nat.le_of_eq (hidT_size _ _), trivial, fun b z => ?_, hok, .of_eq hg⟩
  cases z
theorem law_runG {H : Hp} (F : FnG P w K mg (hidT s₁.heap H) CX k fa fd [x] sp) (hr : RoomG k callerA) (e0 : Env0 P w K mg (hidT s₁.heap H) callerA [] s₁ H) (hbind : ∀ (s : Shared) (u : Value), BindsTo s fd ⟨[u], []⟩ [(x, u)]) (hO : Only H)
    (hsp : sp [.ref a] H (fun v _ => v = .bl true) fun _ _ _ => False) (hCX : ∀ H e s', CX [] H s₁ (fun _ _ _ => False) e s' → False) :
    codeAny (model P w) callerA (.call (.ref fa) ⟨[.ref a], []⟩) (fun r s' => r = .ok (.ret (.bool true)) ∧ OldK s₁.heap s'.heap ∧ s'.os = s₁.os ∧ AllBare s'.gens) s₁ := by
  refine codeAny_mono (F.run callerA [] s₁ H ⟨[.ref a], []⟩ [.ref a] [.ref a] _ _ hr e0 (hbind s₁ (.ref a)) (.cons rfl .nil) hsp) fun r s' h => ?_
  rcases r with e | fl
  · exact (hCX H e s' h).elim
  rcases fl with _ | _ | _ | u
  all_goals first | exact False.elim h | skip
  obtain ⟨v, H', os, bare, un, hok', rv, q⟩ := h
  cases (show v = .bl true from q)
  cases (show u = Value.bool true from rv)
  refine ⟨rfl, OldK.of_keep fun b o e => ?_, os, bare⟩
  rcases hO b with z | ⟨ob, xs, z⟩
  · exact un.keep b o e z (fun y => by cases y) (fun y => by cases y)
  · have e1 := (e0.hok b _ z).1
    have e2 := (hok' b _ (un.frzs b ob _ z)).1
    rw [e] at e1
    cases e1
    exact e2
theorem law_callG (KX : K.In s₁.heap) (hns : s₁.heap.Ns mainGlobals mg) (hb : s₁.heap.Ns builtinsNs mb) (hbb : ∀ x : Str, x ≠ "__name__" → mb x = bootBuiltins x) (hlim : s₁.heap.NoLimit) (hg : s₁.gens = #[])
    (ha : s₁.heap.get? a = some { cls := .type "list", data := .seq vs.toArray }) (hi : IntsAre vs ns) (hl : ns.length ≤ sizeLine) (hr : RoomG k callerA)
    (F : ∀ base : Heap, K.In base → base.Ns mainGlobals mg → FnG P w K mg base CX k fa fd [x] sp) (hbind : ∀ (s : Shared) (u : Value), BindsTo s fd ⟨[u], []⟩ [(x, u)])
    (hsp : ∀ H : Hp, Only H → SqL K H a (ns.map V.int) → sp [.ref a] H (fun v _ => v = .bl true) fun _ _ _ => False)
    (hCX : ∀ H e s', CX [] H s₁ (fun _ _ _ => False) e s' → False) :
    codeAny (model P w) callerA (.call (.ref fa) ⟨[.ref a], []⟩) (fun r s' => r = .ok (.ret (.bool true)) ∧ OldK s₁.heap s'.heap ∧ s'.os = s₁.os ∧ AllBare s'.gens) s₁ := by
  have go : ∀ H : Hp, Only H → SqL K H a (ns.map V.int) → HOk P w H s₁.heap → (∀ b, b ≠ a → H b = none) → (∀ o, K.lookup a = some o → H a = none) →
      codeAny (model P w) callerA (.call (.ref fa) ⟨[.ref a], []⟩) (fun r s' => r = .ok (.ret (.bool true)) ∧ OldK s₁.heap s'.heap ∧ s'.os = s₁.os ∧ AllBare s'.gens) s₁ := by
    intro H hO hS hok oth own
    obtain ⟨kin, nm, e0⟩ := ground_of KX hns hb hbb hlim hg hok (fun b o es ep e d => oth b fun z => by rw [z, ha] at e; cases e; cases d) fun b o e => by
      by_cases z : b = a
      · subst z; exact own o e
      · exact oth b z
    exact law_runG (F _ kin nm) hr e0 hbind hO (hsp H hO hS) hCX
  have rv := vals_ints hi
  cases hk : K.lookup a with
  | some o =>
    have e := KX a o hk
    rw [ha] at e
    cases e
    exact go (fun _ => none) (fun _ => .inl rfl) (.inr ⟨_, vs.toArray, _, hk, rfl, rfl, rfl, by rw [List.size_toArray, hi.length]; exact hl, by simpa using rv⟩) (fun b u z => nomatch (show (none : Option HO) = some u from z)) (fun _ _ => rfl) fun _ _ => rfl
  | none =>
    refine go (upd (fun _ => none) a (.frz { cls := .type "list", data := .seq vs.toArray } (.lst (ns.map V.int)))) (fun b => ?_) (.inl (.inr ⟨_, upd_same⟩)) (fun b u z => ?_) (fun b h => upd_ne h) fun o z => by rw [hk] at z; cases z
    · by_cases h : b = a
      · subst h; exact .inr ⟨_, _, upd_same⟩
      · exact .inl (upd_ne h)
    · by_cases h : b = a
      · subst h
        rw [upd_same] at z
        cases z
        exact ⟨ha, by rw [List.length_map]; exact hl, vs, _, rv, ha⟩
      · rw [upd_ne h] at z
        cases z
end
theorem walk_ofG {l : PySem.W.OpenLaw} {n k : Nat} {q : Program} {loose : List Str} {XP : (Str → Option Value) → Heap → Prop} {YP : World → Heap → Prop} {d : DefRec} {CX : CXT} {x : Str}
    (hn : l.most = some n) (hn2 : n ≤ sizeLine) (hdf : d.params.defaults = []) (hr : RoomG k callerA)
    (F : ∀ (w : World) (mg : Str → Option Value) (fa : Addr) (h : Heap), YP w h → h.Ns mainGlobals mg → mg d.name = some (.ref fa) →
      ∃ (K : PySem.W.Frag) (fd : FuncData) (sp : Sp), K.In h ∧ (∀ (s : Shared) (u : Value), BindsTo s fd ⟨[u], []⟩ [(x, u)]) ∧
        (∀ (H : Hp) (a : Addr) (ns : List Int), ns.length ≤ n → Only H → SqL K H a (ns.map V.int) → sp [.ref a] H (fun v _ => v = .bl true) fun _ _ _ => False) ∧
        ∀ base : Heap, K.In base → base.Ns mainGlobals mg → FnG l.prog w K mg base CX k fa fd [x] sp)
    (hCX : ∀ (H : Hp) (s : Shared) (e : Value) (s' : Shared), CX [] H s (fun _ _ _ => False) e s' → False) :
    PySem.W.WalkO q loose XP YP l.row.toRowW d [] (fun f vs => PySem.call f vs) := by
  refine Att.attach_call hn hdf fun w s₀ s₁ mg mb fa o pm cd doc a vs ns G Y ho hd hcd hmg hobj hints hlen hg => ?_
  obtain ⟨K, fd, sp, KX, hb, hsp, hF⟩ := F w mg fa _ Y G.T.g hmg
  exact law_callG KX G.T.g G.T.b G.T.builtins G.T.nolimit hg hobj hints (Nat.le_trans hlen hn2) hr hF hb (fun H hO hS => hsp H a ns hlen hO hS) fun H e s' => hCX H s₁ e s'
end M

/-! ### the head's facts, own errors among them -/
namespace M
open PySem PySem.Spec PyProof.Rows L2
/-- a def, its closure's names told -/
structure DefX where
  at_ : Str × Option Str
  name : Str
  qual : Str
  params : Arguments
  body : List Stmt
  scope : Scope
  dfl : List He.Dv := []
  kwd : List (Str × He.Dv) := []
  clos : List Str := []
abbrev FnX : Type := Option (Str × Str × Arguments × FuncBody × Scope × Addr × List Str × Addr)
def fnX (K : PySem.W.Frag) (p : Str × Option Str) : FnX := match K.lookup (He.fAd K p) with
  | some ⟨_, _, .func fd, _⟩ => some (fd.name, fd.qualname, fd.params, fd.body, fd.scope, fd.globals, fd.closure.map (·.1), fd.builtins)
  | _ => none
def DefX.val (d : DefX) : FnX := some (d.name, d.qual, d.params, .stmts d.body, d.scope, mainGlobals, d.clos, builtinsNs)
def DefX.dvs (K : PySem.W.Frag) (d : DefX) : List V := d.dfl.map (He.Dv.v K)
def DefX.kws (K : PySem.W.Frag) (d : DefX) : List (Str × V) := d.kwd.map fun q => (q.1, q.2.v K)
def DefX.ok (K : PySem.W.Frag) (d : DefX) : Bool := PySem.W.keepIn K (.ref (He.fAd K d.at_)) && (match K.lookup (He.fAd K d.at_) with
  | some ⟨_, _, .func fd, _⟩ => PySem.W.codeIn K fd.code d.qual && (He.dflB K fd.defaults (d.dvs K) && He.kwdB K fd.kwdefaults (d.kws K))
  | _ => false)
theorem DefX.look {K : PySem.W.Frag} {d : DefX} (e : fnX K d.at_ = d.val) (c : d.ok K = true) : PySem.W.keepIn K (.ref (He.fAd K d.at_)) = true ∧ ∃ (oc : Value) (od : Option Addr) (cl : List (Str × Addr)) (dV kV doc pm : Value) (an : Option Addr) (cdv ct : Value) (osl : Array (Option Value)),
    K.lookup (He.fAd K d.at_) = some ⟨oc, od, .func (PySem.W.fnX d.name d.qual d.params d.body d.scope cl dV kV doc pm an cdv ct), osl⟩ ∧ cl.map (·.1) = d.clos ∧ PySem.W.codeIn K cdv d.qual = true ∧ DflV K dV (d.dvs K) ∧ KwdV K kV (d.kws K) := by
  obtain ⟨kp, c2⟩ := He.ba c
  refine ⟨kp, ?_⟩
  unfold M.fnX at e
  cases q : K.lookup (He.fAd K d.at_) with
  | none =>
    rw [q] at c2
    cases c2
  | some o =>
    obtain ⟨oc, od, dt, osl⟩ := o
    rw [q] at c2 e
    cases dt with
    | func fd =>
      obtain ⟨n1, n2, n3, n4, n5, n6, n7, n8, n9, n10, n11, n12, n13, n14, n15⟩ := fd
      have e2 : (some (n1, n2, n3, n4, n5, n6, n7.map (·.1), n15) : FnX) = some (d.name, d.qual, d.params, .stmts d.body, d.scope, mainGlobals, d.clos, builtinsNs) := e
      simp only [Option.some.injEq, Prod.mk.injEq] at e2
      obtain ⟨h1, h2, h3, h4, h5, h6, h7, h8⟩ := e2
      subst h1 h2 h3 h4 h5 h6 h8
      obtain ⟨k1, k2⟩ := He.ba (show (PySem.W.codeIn K n13 d.qual && (He.dflB K n8 (d.dvs K) && He.kwdB K n9 (d.kws K))) = true from c2)
      obtain ⟨k3, k4⟩ := He.ba k2
      exact ⟨oc, od, n7, n8, n9, n10, n11, n12, n13, n14, osl, rfl, h7, k1, He.dflB_ok k3, He.kwdB_ok k4⟩
    | _ => cases c2
theorem DefX.funD {K : PySem.W.Frag} {d : DefX} (e : fnX K d.at_ = d.val) (c : d.ok K = true) (h : d.clos = []) : ∃ fd, FunD K d.name d.qual d.params d.body d.scope (d.dvs K) (d.kws K) (He.fAd K d.at_) fd := by
  obtain ⟨kp, oc, od, cl, dV, kV, doc, pm, an, cdv, ct, osl, lk, hc, h1, h2, h3⟩ := DefX.look e c
  rw [h] at hc
  obtain rfl : cl = [] := List.map_eq_nil_iff.mp hc
  exact ⟨_, ⟨oc, od, dV, kV, doc, pm, an, cdv, ct, osl, rfl, lk, h1, h2, h3⟩, kp⟩
abbrev FaX : Type := PySem.W.Frag → Bool
def asX (g : Addr → Option Obj) : Nat → List Addr
  | 0 => [mainGlobals, cStatics]
  | n + 1 => He.growD g (asX g n)
abbrev AlX : Type := Bool × List FnX
def obsX (fa : List FaX) (fn : List DefX) (K : PySem.W.Frag) : AlX := ((fa.all fun f => f K) && fn.all fun d => d.ok K, fn.map fun d => fnX K d.at_)
def valX (fn : List DefX) : AlX := (true, fn.map DefX.val)
def SaysX (fa : List FaX) (fn : List DefX) (K : PySem.W.Frag) : Prop := obsX fa fn K = valX fn
def obsXG (n : Nat) (fa : List FaX) (fn : List DefX) (g : Addr → Option Obj) : AlX := obsX fa fn (He.frG g (asX g n))
def hookX (n : Nat) (fa : List FaX) (fn : List DefX) : PySem.W.Hook where
  α := AlX
  obs := fun s => obsXG n fa fn s.heap.get?
  val := fun _ => valX fn
  says := fun _ h => ∃ K : PySem.W.Frag, K.In h ∧ SaysX fa fn K
  of := fun _ _ e => ⟨_, He.frG_in, e⟩
  keeps := fun _ _ _ ⟨K, hK, c⟩ k => ⟨K, PySem.W.Frag.In.keeps hK k, c⟩
theorem obsXG_eq {n : Nat} {fa : List FaX} {fn : List DefX} {g : Addr → Option Obj} {s : Shared} (h : ∀ a, g a = s.heap.get? a) : obsXG n fa fn g = (hookX n fa fn).obs s := by
  have e : g = s.heap.get? := funext h
  rw [e] <;> rfl
section
variable {fa : List FaX} {fn : List DefX} {K : PySem.W.Frag}
theorem SaysX.fact (c : SaysX fa fn K) (i : Nat) {f : FaX} (h : fa[i]? = some f := by rfl) : f K = true := by
  have c1 := (He.ba (show ((fa.all fun f => f K) && fn.all fun d => d.ok K) = true from congrArg (fun z : AlX => z.1) c)).1
  exact List.all_eq_true.mp c1 f (List.mem_of_getElem? h)
theorem SaysX.def0 (c : SaysX fa fn K) (i : Nat) {d : DefX} (h : fn[i]? = some d := by rfl) : fnX K d.at_ = d.val ∧ d.ok K = true := by
  have c2 := (He.ba (show ((fa.all fun f => f K) && fn.all fun d => d.ok K) = true from congrArg (fun z : AlX => z.1) c)).2
  have e : fn.map (fun d => fnX K d.at_) = fn.map DefX.val := congrArg (fun z : AlX => z.2) c
  have e2 : (fn.map fun d => fnX K d.at_)[i]? = (fn.map DefX.val)[i]? := by rw [e]
  rw [List.getElem?_map, List.getElem?_map, h] at e2
  exact ⟨Option.some.inj e2, List.all_eq_true.mp c2 d (List.mem_of_getElem? h)⟩
theorem SaysX.def_ (c : SaysX fa fn K) (i : Nat) {d : DefX} (h : fn[i]? = some d := by rfl) (hc : d.clos = [] := by rfl) : ∃ fd, FunD K d.name d.qual d.params d.body d.scope (d.dvs K) (d.kws K) (He.fAd K d.at_) fd :=
  DefX.funD (c.def0 i h).1 (c.def0 i h).2 hc
end
end M

namespace M
open PySem PySem.Spec PyProof.Rows L2 PySem.HandSPX
/-- the class at C is an own error class -/
def oexB (K : PySem.W.Frag) (C : Addr) : Bool := match K.lookup C with
  | some ⟨c, _, .cls cd, sl⟩ => decide (c = .type "type") && (cd.hasDict && (!cd.hasDel && (match cd.mro, sl.toList with
    | .ref C' :: bm, [_, _, _, _, some (.builtin n), _] => decide (C' = C) && (decide (n = "ValueError.__new__") && refsVE bm)
    | _, _ => false)))
  | _ => false
theorem oexB_ok {K : PySem.W.Frag} {C : Addr} (h : oexB K C = true) : ∃ nm q N bs bm sn sub ab col dd k0 k1 k2 k3 k5, K.lookup C = some (excClassObj nm q C N bs bm true sn sub ab col dd k0 k1 k2 k3 k5 "ValueError.__new__") ∧ refsVE bm = true := by
  unfold oexB at h
  split at h
  · rename_i c dd cd sl ho
    obtain ⟨h1, h⟩ := He.ba h
    obtain ⟨h2, h⟩ := He.ba h
    obtain ⟨h3, h⟩ := He.ba h
    split at h
    · rename_i C' bm k0 k1 k2 k3 n k5 hm hs
      obtain ⟨h4, h⟩ := He.ba h
      obtain ⟨h5, h6⟩ := He.ba h
      obtain ⟨nm, bs, mro, N, qn, hd, sn, sub, ab, col, del⟩ := cd
      obtain ⟨sl⟩ := sl
      have e3 : del = false := by simpa using h3
      have e2 : hd = true := h2
      have e1 := of_decide_eq_true h1
      have e4 := of_decide_eq_true h4
      have e5 := of_decide_eq_true h5
      dsimp only at hm hs
      subst e1 e2 e3 e4 e5 hm hs
      exact ⟨nm, qn, N, bs, bm, sn, sub, ab, col, dd, k0, k1, k2, k3, k5, ho, h6⟩
    · cases h
  · cases h
def cellB (P : Program) (K : PySem.W.Frag) (C : Addr) (f : Addr) : Bool := match K.lookup f with
  | some ⟨_, _, .func fd, _⟩ => (match fd.code with
    | .ref cda => (match K.lookup cda with
      | some ⟨_, _, .fields vs, _⟩ => (match (vs[2]? : Option Value) with
        | some (.str file _) => (P.main.file : Str) == file
        | _ => false)
      | _ => false)
    | _ => false) && (match fd.closure with
      | [(_, cc)] => (match K.lookup cc with
        | some ⟨_, _, .cell (some (.ref D)), _⟩ => decide (D = C)
        | _ => false)
      | _ => false)
  | _ => false
def exB (P : Program) (x fl : Str) (K : PySem.W.Frag) : Bool :=
  He.eqO (PySem.W.nsIn K mainGlobals x) (some (some (.ref (He.ga K x)))) && (oexB K (He.ga K x) && (He.eqO (PySem.W.findIn K (.ref (He.ga K x)) "__setattr__") (some (some (.builtin "object.__setattr__"))) &&
  (decide (PySem.W.subIn K (.ref (He.ga K x)) (.type "BaseException") = some true) && (decide (PySem.W.typeIn K (.ref (He.ga K x)) = some (.type "type")) && (PySem.W.keepIn K (.ref (He.ga K x)) &&
  (He.eqO (PySem.W.findIn K (.ref (He.ga K x)) "__getattribute__") (some (some (.builtin "BaseException.__getattribute__"))) && (He.eqO (PySem.W.findIn K (.ref (He.ga K x)) "__getattr__") (some none) && (He.eqO (PySem.W.findIn K (.ref (He.ga K x)) fl) (some none) &&
  (PySem.W.hasDictIn K (He.ga K x) && (He.eqO (PySem.W.findIn K (.ref (He.ga K x)) "__init__") (some (some (.ref (He.ma K (He.ga K x) "__init__")))) && (decide (PySem.W.typeIn K (.ref (He.ma K (He.ga K x) "__init__")) = some (.type "function")) &&
  (cellB P K (He.ga K x) (He.ma K (He.ga K x) "__init__") && (He.eqO (PySem.W.nsIn K cStatics "thirdparty.any") (some none) && (He.eqO (PySem.W.ks_superIn K (He.ga K x) (He.ga K x) "__init__") (some (some (.builtin "ValueError.__init__"))) &&
  (decide (PySem.W.mroIn K (He.ga K x) (.ref (He.ga K x)) = some true) && (decide (PySem.W.subIn K (.ref (He.ga K x)) (.type "ValueError") = some true) && (He.eqO (PySem.W.findIn K (.ref (He.ga K x)) "__class__") (some (some (.builtin "object.__class__"))) &&
  (He.eqO (PySem.W.nsIn K mainGlobals "super") (some none) && decide (PySem.W.mroIn K (He.ga K x) (.type "object") = some true)))))))))))))))))))
theorem ex_get {K : PySem.W.Frag} : PySem.W.specialIn K (.builtin "object.__class__") "__get__" = some (some (.builtin "getset_descriptor.__get__")) ∧ PySem.W.takesIn K (.builtin "object.__class__") = some true := by
  constructor
  · kernel_rfl
  · kernel_rfl
section
variable {P : Program} {w : World} {K : PySem.W.Frag} {h : Heap} {mg : Str → Option Value} {x fl : Str}
theorem cell_of {C f : Addr} {oc : Value} {od : Option Addr} {osl : Array (Option Value)} {fd : FuncData} (lk : K.lookup f = some ⟨oc, od, .func fd, osl⟩) (c : cellB P K C f = true) :
    (∃ (cda : Addr), fd.code = .ref cda ∧ ∃ (ccl : Value) (cdd : Option Addr) (vs : Array Value) (ccs : Array (Option Value)) (file : Str) (tf : Tok), K.lookup cda = some ⟨ccl, cdd, .fields vs, ccs⟩ ∧ vs[2]? = some (.str file tf) ∧ ((P.main.file : Str) == file) = true) ∧
    ∃ (n : Str) (cc : Addr), fd.closure = [(n, cc)] ∧ ∃ (cl : Value) (cld : Option Addr) (csl : Array (Option Value)), K.lookup cc = some ⟨cl, cld, .cell (some (.ref C)), csl⟩ := by
  unfold cellB at c
  rw [lk] at c
  obtain ⟨c1, c2⟩ := He.ba c
  constructor
  · split at c1
    · rename_i cda e1
      split at c1
      · rename_i ccl cdd vs ccs e2
        split at c1
        · rename_i file tf e3
          exact ⟨cda, e1, ccl, cdd, vs, ccs, file, tf, e2, e3, c1⟩
        · cases c1
      · cases c1
    · cases c1
  · split at c2
    · rename_i n cc e1
      split at c2
      · rename_i cl cld D csl e2
        have e := of_decide_eq_true c2
        subst e
        exact ⟨n, cc, e1, cl, cld, csl, e2⟩
      · cases c2
    · cases c2
theorem ex_of {q : List Pos} {d : DefX} {ar : Arg} (X : K.In h) (G : h.Ns mainGlobals mg) (c : exB P x fl K = true) (D : fnX K d.at_ = d.val ∧ d.ok K = true) (hat : d.at_ = (x, some ("__init__" : Str))) (hn : d.name = "__init__") (hcl : d.clos = [("__class__" : Str)]) (hdf : d.dfl = [.non])
    (hb : d.body = eiB fl q) (hp : (d.params.posonlyargs ++ d.params.args).head? = some ar) (har : ar.arg = "self") (hsf : fl ≠ "self") (hdb : (fl == ("__debug__" : Str)) = false)
    (k1 : d.scope.kind = .function) (k2 : d.scope.isGenerator = false) (k3 : d.scope.isCoroutine = false) (k4 : d.scope.names.lookup ("self" : Str) = some .local) (k5 : d.scope.names.lookup fl = some .local) (k6 : d.scope.names.lookup ("super" : Str) = some .globalImplicit)
    (k7 : d.scope.names.lookup ("__class__" : Str) = some .free) (k8 : ∀ x ∈ d.scope.names, x.2 ≠ .cell) (htop : (P.main.scope.names.lookup ("super" : Str)).isSome = false)
    (hint : ∀ env : Env, env.scope = d.scope → interactive env = false)
    (hev : ∀ env : Env, env.scope = d.scope → ∃ pl : Sem Bool, eval (.Call (.Attribute (.Call (.Name "super" (qp q 0)) [] [] (qp q 1)) "__init__" (qp q 2)) [.Name fl (qp q 3)] [] (qp q 4)) env = (do
      let ov ← attributeBase (.Call (.Name "super" (qp q 0)) [] [] (qp q 1)) "__init__" env (eval (.Call (.Name "super" (qp q 0)) [] [] (qp q 1)) env)
      standAt (qp q 2).atName
      let (f, first) ← holding [ov] (getMethod ov "__init__" pl)
      callWith (qp q 4) f first (backTo (qp q 4) (starEach [.Name fl (qp q 3)] env)) []))
    (hsw : ∀ env : Env, env.scope = d.scope → swapsWith (.Name fl (qp q 8)) (some (.Attribute (.Name "self" (qp q 6)) fl (qp q 7))) (qp q 9).line env = pure false)
    (hb2 : ∀ (T : Addr) (cl : List (Str × Addr)) (kV doc pm : Value) (an : Option Addr) (cdv ct u v : Value), ∃ k, bindArgs (PySem.W.fnX d.name d.qual d.params d.body d.scope cl (.ref T) kV doc pm an cdv ct) ⟨[u, v], []⟩ = seqItems? (.ref T) >>= k ∧ k (some #[.none]) = pure [(("self" : Str), u), (fl, v)])
    (hb1 : ∀ (T : Addr) (cl : List (Str × Addr)) (kV doc pm : Value) (an : Option Addr) (cdv ct u : Value), ∃ k, bindArgs (PySem.W.fnX d.name d.qual d.params d.body d.scope cl (.ref T) kV doc pm an cdv ct) ⟨[u], []⟩ = seqItems? (.ref T) >>= k ∧ k (some #[.none]) = pure [(("self" : Str), u), (fl, .none)])
    (hbk : ∀ (T : Addr) (cl : List (Str × Addr)) (kV doc pm : Value) (an : Option Addr) (cdv ct u v : Value), ∃ k, bindArgs (PySem.W.fnX d.name d.qual d.params d.body d.scope cl (.ref T) kV doc pm an cdv ct) ⟨[u], [(fl, v)]⟩ = seqItems? (.ref T) >>= k ∧ k (some #[.none]) = pure [(("self" : Str), u), (fl, v)]) :
    ExcAt P w K mg x fl (He.ga K x) ∧ ExcK K fl (He.ga K x) := by
  unfold exB at c
  simp only [Bool.and_eq_true, decide_eq_true_eq] at c
  obtain ⟨c1, c2, c3, c4, c5, c6, c7, c8, c9, c10, c11, c12, c13, c14, c15, c16, c17, c18, c19, c20⟩ := c
  have T : OexC K (He.ga K x) := ⟨oexB_ok c2, He.eqO_ok c3, c4, c5, c6⟩
  have hsup := PySem.W.mg_none_of X G (He.eqO_ok c19)
  obtain ⟨_, oc, od, cl, dV, kV, doc, pm, an, cdv, ct, osl, lk, hc, hcode, hD, _⟩ := DefX.look D.1 D.2
  have hf : He.fAd K d.at_ = He.ma K (He.ga K x) "__init__" := by rw [hat]; rfl
  rw [hf] at lk
  obtain ⟨⟨cda, e1, z1⟩, n, cc, e2, z2⟩ := cell_of lk c13
  obtain rfl : cdv = .ref cda := e1
  obtain rfl : cl = [(n, cc)] := e2
  rw [hcl] at hc
  obtain rfl : n = "__class__" := by simpa using hc
  have hdv : d.dvs K = [.non] := by unfold DefX.dvs; rw [hdf]; rfl
  rw [hdv] at hD
  rcases hD with ⟨z, _⟩ | ⟨_, Ta, oT, its, nT, rfl, lT, hT, rT⟩
  · cases z
  obtain ⟨u0, rfl, ru⟩ := vals_one rT
  obtain rfl : u0 = .none := ru
  have bnd : ∀ {args : Args} {r : List (Str × Value)}, (∃ k, bindArgs (PySem.W.fnX d.name d.qual d.params d.body d.scope [("__class__", cc)] (.ref Ta) kV doc pm an (.ref cda) ct) args = seqItems? (.ref Ta) >>= k ∧ k (some #[.none]) = pure r) → ∀ s : Shared, K.In s.heap →
      BindsTo s (PySem.W.fnX d.name d.qual d.params d.body d.scope [("__class__", cc)] (.ref Ta) kV doc pm an (.ref cda) ct) args r := by
    rintro args r ⟨k, e1, e2⟩ s KX
    refine BindsTo.of_looks fun M => ?_
    rw [e1]
    exact looks_items KX lT hT (.of_pure e2)
  refine ⟨⟨PySem.W.mg_of X G (He.eqO_ok c1), T, He.eqO_ok c7, He.eqO_ok c8, He.eqO_ok c9, c10, He.ma K (He.ga K x) "__init__", _, He.eqO_ok c11, c12, ?_, fun s u v KX => bnd (hb2 _ _ _ _ _ _ _ _ _ _) s KX, fun s u KX => bnd (hb1 _ _ _ _ _ _ _ _ _) s KX, fun s u v KX => bnd (hbk _ _ _ _ _ _ _ _ _ _) s KX⟩,
    ⟨He.eqO_ok c7, He.eqO_ok c8, He.eqO_ok c9, c10, c4, He.eqO_ok c18, ex_get.1, ex_get.2, c20⟩⟩
  intro A R s args x' t0 v KX lim Gs Bs hx hnx hroom hbind hq
  obtain ⟨mb, B1, B2⟩ := Bs
  rw [hn, hb] at lk hbind
  exact ini_run (mg := mg) (mb := mb) KX lim Gs B1 hsup ((B2 _ (by decide)).trans ve_slot) T (He.eqO_ok c9) lk hcode z1 z2 hp har hsf hdb k1 k2 k3 k4 k5 k6 k7 k8 htop (He.eqO_ok c14) (He.eqO_ok c15) c16 c17 hint hev hsw hx hnx hroom hbind hq
end
end M

namespace M
open PySem PySem.Spec PyProof.Rows L2
section
variable {X : Cx} {k : Nat} {ps : List Str} {sp : Sp} {dvs : List V} {W : WX} {x : Str} {p pos : Pos} {e : Expr} {es : List Expr} {t : TA}
theorem me_callS (C : CalG X.prog X.w X.K X.mg X.base (L2.CX X.prog X.w) x k ps dvs sp) (hr : RoomG k X.A) (hg : Gl X x) (tk : Takes X W) (ha : PA X (e :: es) t) (hdb : (x == ("__debug__" : Str)) = false := by decide)
    (he : starEach (e :: es) X.env = (false, eval e X.env) :: starEach es X.env := by rfl) (hpl : (backTo pos (starEach es X.env)).any (·.1) = false := by rfl) : PE X (.Call (.Name x p) (e :: es) [] pos) (tCallSD sp dvs (WE W) t) := by
  obtain ⟨f, fd, ds, F, hm, hk, hb, hd⟩ := C.ex
  refine ⟨fun pins s σ H Q I h => wpAny_Call_Name_kw (ld_glob I hg hm (PySem.W.callWith_K (h₀ := X.base) I.ok.mod.kin hk (thn (ha.run pos pins s σ H _ I h) fun us s1 ⟨vs, H1, I1, r, q⟩ => ⟨I1.kIn, ?_⟩) he hpl) hdb)⟩
  have r2 : Vals (vs ++ dvs) (us ++ ds) := r.append hd
  refine wpAny_call (codeAny_mono (F.run X.A X.stack s1 H1 ⟨us, []⟩ (us ++ ds) (vs ++ dvs) Q (WE W σ) hr I1.env0 (hb s1 us I1.kIn (r2.length.symm.trans (F.len _ _ _ _ q))) r2 q) fun r s' hq => ?_)
  rcases r with er | fl
  · exact passAt tk σ pins H1 s1 er s' I1 hq
  · cases fl with
    | ret u => exact I1.after hq
    | next => exact False.elim hq
    | brk => exact False.elim hq
    | cont => exact False.elim hq
theorem me_callG0 {CX : CXT} {E : XK} (C : CalG X.prog X.w X.K X.mg X.base CX x k ps dvs sp) (hr : RoomG k X.A) (hg : Gl X x) (hx : Passes CX X E) (hdb : (x == ("__debug__" : Str)) = false := by decide) : PE X (.Call (.Name x p) [] [] pos) (tCall sp dvs E tNil) := by
  obtain ⟨f, fd, ds, F, hm, hk, hb, hd⟩ := C.ex
  refine ⟨fun pins s σ H Q I h => wpAny_Call_Name_kw (ld_glob I hg hm (PySem.W.callWith_K0 I.kIn hk ?_) hdb)⟩
  refine wpAny_call (codeAny_mono (F.run X.A X.stack s H ⟨[], []⟩ ([] ++ ds) ([] ++ dvs) Q E hr I.env0 (hb s [] I.kIn (hd.length.symm.trans (F.len _ _ _ _ h))) hd h) fun r s' hq => ?_)
  rcases r with er | fl
  · exact hx pins σ H s er s' I hq
  · cases fl with
    | ret u => exact I.after hq
    | next => exact False.elim hq
    | brk => exact False.elim hq
    | cont => exact False.elim hq
theorem CalG.mono {P : Program} {w : World} {K : PySem.W.Frag} {mg : Str → Option Value} {base : Heap} {CX : CXT} {x : Str} {k j : Nat} {ps : List Str} {dvs : List V} {sp : Sp} (C : CalG P w K mg base CX x k ps dvs sp) (h : k ≤ j) : CalG P w K mg base CX x j ps dvs sp := by
  obtain ⟨f, fd, ds, F, r⟩ := C.ex
  exact ⟨f, fd, ds, F.mono h, r⟩
end
end M
namespace M
open PySem PySem.Spec PyProof.Rows L2
/-- no error is wished for: none comes -/
theorem passF {X : Cx} : Passes (L2.CX X.prog X.w) X E0 := fun _ _ _ _ _ _ _ c => by
  obtain ⟨_, _, _, _, _, _, _, _, _, _, _, _, z⟩ := c
  exact z.elim
end M

namespace M
open PySem PySem.Spec PyProof.Rows L2
/-- (a, b, ..) = a tuple or a list -/
def mgSeq (K : PySem.W.Frag) (n : Nat) (t : TGs) : TG := fun v σ H Q => match v with
  | .ref a => ∃ xs, (SqT K H a xs ∨ SqL K H a xs) ∧ xs.length = n ∧ t xs σ H Q
  | _ => False
theorem mg_seq {X : Cx} {es : List Expr} {k : Nat} {t : TGs} {n : Nat} {pos : Pos} (hc : X.calm = true) (h : PGs X es t)
    (hn : (assignEach es X.env).length = n := by rfl) (hst : (assignEach es X.env).findIdx? (·.1) = none := by rfl) : PG X (.Tuple es k pos) (mgSeq X.K n t) := by
  refine ⟨fun pins s σ H v u Q I r q => ?_⟩
  unfold mgSeq at q
  split at q
  · obtain ⟨xs, h1 | h1, h2, h3⟩ := q
    · exact (pg_tup hc h hn hst).run pins s σ H _ u Q I r ⟨_, xs, rfl, h1, h2, h3⟩
    · exact (pg_unl hc h hn hst).run pins s σ H _ u Q I r ⟨_, xs, rfl, h1, h2, h3⟩
  · exact q.elim
end M

namespace M
open PySem PySem.Spec PyProof.Rows L2

/-! ### cuts -/
section
variable {α : Type} (l : List α)
theorem cut_from (i : Nat) : cutL l (some (i : Int)) none = l.drop i := by
  unfold cutL
  rw [HT.sIx_nat, HT.sIx_none]
  by_cases h : i ≤ l.length
  · rw [Nat.min_eq_left h]
    exact List.take_of_length_le (by rw [List.length_drop]; omega)
  · rw [Nat.min_eq_right (by omega), List.drop_length, List.drop_eq_nil_of_le (by omega)]; simp
theorem cut_to (i : Nat) : cutL l none (some (i : Int)) = l.take i := by
  unfold cutL
  rw [HT.sIx_nat, HT.sIx_none, List.drop_zero, Nat.sub_zero]
  by_cases h : i ≤ l.length
  · rw [Nat.min_eq_left h]
  · rw [Nat.min_eq_right (by omega), List.take_length, List.take_of_length_le (by omega)]
theorem cut_mid (i j : Nat) : cutL l (some (i : Int)) (some (j : Int)) = (l.drop i).take (j - i) := by
  unfold cutL
  rw [HT.sIx_nat, HT.sIx_nat]
  by_cases h : i ≤ l.length
  · rw [Nat.min_eq_left h]
    by_cases h2 : j ≤ l.length
    · rw [Nat.min_eq_left h2]
    · rw [Nat.min_eq_right (by omega), List.take_of_length_le (by rw [List.length_drop]; omega), List.take_of_length_le (by rw [List.length_drop]; omega)]
  · rw [Nat.min_eq_right (show l.length ≤ i by omega), List.drop_length, List.drop_eq_nil_of_le (show l.length ≤ i by omega)]; simp
theorem cut_all : cutL l none none = l := by
  unfold cutL
  rw [HT.sIx_none, HT.sIx_none, List.drop_zero, Nat.sub_zero, List.take_length]
theorem sIx_neg (n d k : Nat) (hk : 0 < k) : HT.sIx n d (some (-(k : Int))) = n - k := by
  show (if (-(k : Int)) < 0 then (-(k : Int) + (n : Int)).toNat else _) = _
  rw [if_pos (by omega)]; omega
theorem cut_fromN (k : Nat) (hk : 0 < k) : cutL l (some (-(k : Int))) none = l.drop (l.length - k) := by
  unfold cutL
  rw [sIx_neg _ _ _ hk, HT.sIx_none]
  exact List.take_of_length_le (by rw [List.length_drop]; omega)
theorem cut_toN (k : Nat) (hk : 0 < k) : cutL l none (some (-(k : Int))) = l.take (l.length - k) := by
  unfold cutL
  rw [sIx_neg _ _ _ hk, HT.sIx_none, List.drop_zero, Nat.sub_zero]
theorem cut_midN (i k : Nat) (hk : 0 < k) : cutL l (some (i : Int)) (some (-(k : Int))) = (l.drop i).take (l.length - k - i) := by
  unfold cutL
  rw [sIx_neg _ _ _ hk, HT.sIx_nat]
  by_cases h : i ≤ l.length
  · rw [Nat.min_eq_left h]
  · rw [Nat.min_eq_right (show l.length ≤ i by omega), List.drop_length, List.drop_eq_nil_of_le (show l.length ≤ i by omega)]; simp
end
theorem cut_m3 {α : Type} (l : List α) : cutL l (some (-3)) none = l.drop (l.length - 3) := cut_fromN l 3 (by decide)
theorem cut_t3 {α : Type} (l : List α) : cutL l none (some (-3)) = l.take (l.length - 3) := cut_toN l 3 (by decide)
theorem cut_m1 {α : Type} (l : List α) : cutL l (some (-1)) none = l.drop (l.length - 1) := cut_fromN l 1 (by decide)
theorem cut_t1 {α : Type} (l : List α) : cutL l none (some (-1)) = l.take (l.length - 1) := cut_toN l 1 (by decide)
theorem cut_t2 {α : Type} (l : List α) : cutL l none (some (-2)) = l.take (l.length - 2) := cut_toN l 2 (by decide)
theorem S_def (z : Str) : ∃ l, z = S l := ⟨_, (S_of z).symm⟩
theorem S_eq {a b : List Nat} : (S a = S b) = (a = b) := propext S_inj
theorem szl : (sizeLine : Nat) = 16777216 := sizeLine_eq

/-! ### trees -/
inductive Tr where
  | lf
  | nd (l r : Tr)
  deriving DecidableEq
namespace Tr
def s : Tr → List Nat
  | .lf => [46]
  | .nd l r => 40 :: (l.s ++ (r.s ++ [41]))
def n : Tr → Nat
  | .lf => 0
  | .nd l r => l.n + r.n + 1
theorem s_len : ∀ t : Tr, t.s.length = 3 * t.n + 1
  | .lf => rfl
  | .nd l r => by simp only [s, n, List.length_cons, List.length_append, List.length_nil, s_len l, s_len r]; omega
end Tr

/-! ### is_tree -/
/-- one sign onto the waiting ones -/
def itStep (w : List Nat) (c : Nat) : Option (List Nat) :=
  if c = 41 then (if w.drop (w.length - 3) = [40, 46, 46] then some (w.take (w.length - 3) ++ [46]) else none)
  else if c = 40 ∨ c = 46 then some (w ++ [c]) else none
def itRun : List Nat → List Nat → Option (List Nat)
  | w, [] => some w
  | w, c :: r => (itStep w c).bind fun w' => itRun w' r
def isTr (l : List Nat) : Bool := decide (itRun [] l = some [46])
theorem itRun_app : ∀ (a b w : List Nat), itRun w (a ++ b) = (itRun w a).bind fun w' => itRun w' b
  | [], b, w => rfl
  | c :: a, b, w => by
    show (itStep w c).bind _ = ((itStep w c).bind _).bind _
    cases itStep w c with
    | none => rfl
    | some w' => exact itRun_app a b w'
theorem itRun_tree : ∀ (t : Tr) (w : List Nat), itRun w t.s = some (w ++ [46])
  | .lf, w => by simp [Tr.s, itRun, itStep]
  | .nd l r, w => by
    show (itStep w 40).bind _ = _
    have e1 : itStep w 40 = some (w ++ [40]) := by simp [itStep]
    rw [e1]
    show itRun (w ++ [40]) (l.s ++ (r.s ++ [41])) = _
    rw [itRun_app, itRun_tree l]
    show itRun (w ++ [40] ++ [46]) (r.s ++ [41]) = _
    rw [itRun_app, itRun_tree r]
    show (itStep (w ++ [40] ++ [46] ++ [46]) 41).bind _ = _
    have e2 : itStep (w ++ [40] ++ [46] ++ [46]) 41 = some (w ++ [46]) := by
      simp [itStep]
    rw [e2]; rfl
/-- waiting signs stand for the signs read -/
inductive Waits : List Nat → List Nat → Prop where
  | nil : Waits [] []
  | op {w l : List Nat} : Waits w l → Waits (w ++ [40]) (l ++ [40])
  | tr {w l : List Nat} (t : Tr) : Waits w l → Waits (w ++ [46]) (l ++ t.s)
theorem Waits.last {w l : List Nat} {c : Nat} (h : Waits (w ++ [c]) l) : (c = 40 ∧ ∃ l', l = l' ++ [40] ∧ Waits w l') ∨ (c = 46 ∧ ∃ (l' : List Nat) (t : Tr), l = l' ++ t.s ∧ Waits w l') := by
  generalize e : w ++ [c] = v at h
  cases h with
  | nil => simp at e
  | op h =>
    obtain ⟨rfl, e2⟩ := List.append_inj' e rfl
    cases e2
    exact .inl ⟨rfl, _, rfl, h⟩
  | tr t h =>
    obtain ⟨rfl, e2⟩ := List.append_inj' e rfl
    cases e2
    exact .inr ⟨rfl, _, t, rfl, h⟩
theorem Waits.step {w l w' : List Nat} {c : Nat} (h : Waits w l) (e : itStep w c = some w') : Waits w' (l ++ [c]) := by
  unfold itStep at e
  split at e
  · rename_i hc
    subst hc
    split at e
    · rename_i h3
      cases e
      have ew : w = w.take (w.length - 3) ++ [40] ++ [46] ++ [46] := by
        have := List.take_append_drop (w.length - 3) w
        rw [h3] at this
        simpa using this.symm
      rw [ew] at h
      rcases h.last with ⟨q, _⟩ | ⟨_, l1, t1, rfl, h1⟩
      · cases q
      rcases h1.last with ⟨q, _⟩ | ⟨_, l2, t2, rfl, h2⟩
      · cases q
      rcases h2.last with ⟨_, l3, rfl, h3⟩ | ⟨q, _⟩
      · have := Waits.tr (.nd t2 t1) h3
        simpa [Tr.s] using this
      · cases q
    · cases e
  · split at e
    · rename_i hc
      cases e
      rcases hc with rfl | rfl
      · exact .op h
      · exact .tr .lf h
    · cases e
theorem Waits.run : ∀ {r w l w' : List Nat}, Waits w l → itRun w r = some w' → Waits w' (l ++ r)
  | [], w, l, w', h, e => by
    cases e; simpa using h
  | c :: r, w, l, w', h, e => by
    have e' : (itStep w c).bind (fun w' => itRun w' r) = some w' := e
    cases q : itStep w c with
    | none => rw [q] at e'; cases e'
    | some v =>
      rw [q] at e'
      have := Waits.run (h.step q) e'
      simpa using this
theorem isTr_iff (l : List Nat) : isTr l = true ↔ ∃ t : Tr, l = t.s := by
  unfold isTr
  rw [decide_eq_true_eq]
  constructor
  · intro h
    have q := Waits.run .nil h
    have q' : Waits ([] ++ [46]) l := by simpa using q
    rcases q'.last with ⟨z, _⟩ | ⟨_, l', t, rfl, z⟩
    · cases z
    · generalize e : ([] : List Nat) = v at z
      cases z with
      | nil => exact ⟨t, by simp⟩
      | op _ => simp at e
      | tr _ _ => simp at e
  · rintro ⟨t, rfl⟩
    simpa using itRun_tree t []
theorem isTr_s (t : Tr) : isTr t.s = true := (isTr_iff _).mpr ⟨t, rfl⟩
theorem itStep_len {w w' : List Nat} {c : Nat} (e : itStep w c = some w') : w'.length ≤ w.length + 1 := by
  unfold itStep at e
  split at e
  · split at e
    · cases e; simp
      try omega
    · cases e
  · split at e
    · cases e; simp
    · cases e
end M

namespace M
open PySem PySem.Spec PyProof.Rows L2

/-! ### places -/
section
variable {α : Type}
theorem aI_nat (xs : List α) (i : Nat) : atI xs (i : Int) = xs[i]? := by
  unfold atI ixN
  rw [if_pos (by omega)]
  by_cases h : i < xs.length
  · rw [if_pos (by omega)]; simp
  · rw [if_neg (by omega), List.getElem?_eq_none (by omega)]; rfl
theorem aI_neg (xs : List α) (k : Nat) (hk : 0 < k) (h : k ≤ xs.length) : atI xs (-(k : Int)) = xs[xs.length - k]? := by
  unfold atI ixN
  rw [if_neg (by omega), if_pos (by omega)]
  show xs[(-(k : Int) + (xs.length : Int)).toNat]? = _
  congr 1
  omega
theorem aI_0 (x : α) (xs : List α) : atI (x :: xs) 0 = some x := aI_nat (x :: xs) 0
theorem aI_1 (x y : α) (xs : List α) : atI (x :: y :: xs) 1 = some y := aI_nat (x :: y :: xs) 1
theorem aI_2 (x y z : α) (xs : List α) : atI (x :: y :: z :: xs) 2 = some z := aI_nat (x :: y :: z :: xs) 2
theorem aI_3 (x y z u : α) (xs : List α) : atI (x :: y :: z :: u :: xs) 3 = some u := aI_nat (x :: y :: z :: u :: xs) 3
theorem aI_m1 (xs : List α) (v : α) : atI (xs ++ [v]) (-1) = some v := atI_last xs v
theorem aI_m2 (xs : List α) (u v : α) : atI (xs ++ [u, v]) (-2) = some u := by
  have e := aI_neg (xs ++ [u, v]) 2 (by decide) (by simp)
  rw [show ((2 : Nat) : Int) = 2 from rfl] at e
  rw [e]
  simp
theorem aI_m1' (xs : List α) (u v : α) : atI (xs ++ [u, v]) (-1) = some v := by
  have e := aI_neg (xs ++ [u, v]) 1 (by decide) (by simp)
  rw [show ((1 : Nat) : Int) = 1 from rfl] at e
  rw [e]
  simp
theorem iN_nat {n i : Nat} (h : i < n) : ixN n (i : Int) = some i := by
  unfold ixN
  rw [if_pos (by omega), if_pos (by omega)]; simp
theorem iN_m1 {n : Nat} (h : 0 < n) : ixN n (-1) = some (n - 1) := by
  unfold ixN
  rw [if_neg (by omega), if_pos (by omega)]
  congr 1
  omega
end

/-! ### data -/
def dStrs (l : List (List Nat)) : List PyData := l.map fun z => .str (S z)
def dInts (l : List Int) : List PyData := l.map .int
theorem dp_strs {K : PySem.W.Frag} {H : Hp} : ∀ l : List (List Nat), DpAll K H (l.map fun z => V.str (S z)) (dStrs l)
  | [] => .nil
  | z :: l => .cons (.str _) (dp_strs l)
theorem dp_ints {K : PySem.W.Frag} {H : Hp} : ∀ l : List Int, DpAll K H (l.map V.int) (dInts l)
  | [] => .nil
  | z :: l => .cons (.int _) (dp_ints l)
/-- codes of a text -/
def okc (l : List Nat) : Prop := ∀ c ∈ l, c < 1114112
theorem okc_app {a b : List Nat} (h1 : okc a) (h2 : okc b) : okc (a ++ b) := fun c h => (List.mem_append.mp h).elim (h1 c) (h2 c)
theorem okS {z : List Nat} (h : okc z) : PyData.strOk (S z) = true := by
  unfold PyData.strOk
  simp only [S, List.all_toArray, List.all_eq_true, decide_eq_true_eq]
  exact h
theorem lay_strs : ∀ l : List (List Nat), (∀ z ∈ l, okc z) → PyData.canLayAll0 (dStrs l) = true
  | [], _ => rfl
  | z :: l, h => by
    show PyData.canLayAll0 (.str (S z) :: dStrs l) = true
    simp only [PyData.canLayAll0, PyData.canLay0, lay_strs l fun y hy => h y (List.mem_cons_of_mem _ hy), okS (h z List.mem_cons_self), Bool.and_self]
theorem lay_ints : ∀ l, PyData.canLayAll0 (dInts l) = true
  | [] => rfl
  | z :: l => by show PyData.canLayAll0 (.int z :: dInts l) = true; simp only [PyData.canLayAll0, PyData.canLay0, lay_ints l, Bool.and_self]
theorem dep_strs : ∀ l, PyData.depthAll (dStrs l) = 0
  | [] => rfl
  | z :: l => by show PyData.depthAll (.str (S z) :: dStrs l) = 0; simp only [PyData.depthAll, PyData.depth, dep_strs l]; rfl
theorem dep_ints : ∀ l, PyData.depthAll (dInts l) = 0
  | [] => rfl
  | z :: l => by show PyData.depthAll (.int z :: dInts l) = 0; simp only [PyData.depthAll, PyData.depth, dep_ints l]; rfl
theorem eqv_strs : ∀ a b : List (List Nat), PyData.eqvAll (dStrs a) (dStrs b) = decide (a = b)
  | [], [] => rfl
  | [], z :: b => rfl
  | z :: a, [] => rfl
  | y :: a, z :: b => by
    show PyData.eqvAll (.str (S y) :: dStrs a) (.str (S z) :: dStrs b) = _
    simp only [PyData.eqvAll, PyData.eqv, eqv_strs a b]
    by_cases h : y = z
    · subst h; simp
    · have : ¬ S y = S z := fun q => h (S_inj.mp q)
      simp [h, this]
theorem eqv_ints : ∀ a b : List Int, PyData.eqvAll (dInts a) (dInts b) = decide (a = b)
  | [], [] => rfl
  | [], z :: b => rfl
  | z :: a, [] => rfl
  | y :: a, z :: b => by
    show PyData.eqvAll (.int y :: dInts a) (.int z :: dInts b) = _
    simp only [PyData.eqvAll, PyData.eqv, eqv_ints a b]
    by_cases h : y = z
    · subst h; simp
    · simp [h]
section
variable {K : PySem.W.Frag} {neg : Bool} {H : Hp} {Q : VK}
/-- two lists of texts compared -/
theorem eq_strs {p q : Addr} {a b : List (List Nat)} (h1 : SqL K H p (a.map fun z => V.str (S z))) (h2 : SqL K H q (b.map fun z => V.str (S z))) (oa : ∀ z ∈ a, okc z) (ob : ∀ z ∈ b, okc z) (k : Q (.bl (if neg then !decide (a = b) else decide (a = b))) H) : rEqW K neg (.ref p) (.ref q) H Q :=
  ⟨.list (dStrs a), .list (dStrs b), .lst h1 (dp_strs a), .lst h2 (dp_strs b), by simpa only [PyData.canLay0] using lay_strs a oa, by simpa only [PyData.canLay0] using lay_strs b ob, by simp only [PyData.depth, dep_strs]; decide, by simpa only [PyData.eqv, eqv_strs] using k⟩
theorem eq_ints {p q : Addr} {a b : List Int} (h1 : SqL K H p (a.map V.int)) (h2 : SqL K H q (b.map V.int)) (k : Q (.bl (if neg then !decide (a = b) else decide (a = b))) H) : rEqW K neg (.ref p) (.ref q) H Q :=
  ⟨.list (dInts a), .list (dInts b), .lst h1 (dp_ints a), .lst h2 (dp_ints b), by simpa only [PyData.canLay0] using lay_ints a, by simpa only [PyData.canLay0] using lay_ints b, by simp only [PyData.depth, dep_ints]; decide, by simpa only [PyData.eqv, eqv_ints] using k⟩
end

/-! ### nests: trees as pairs -/
inductive Nst (K : PySem.W.Frag) (H : Hp) : V → Tr → Prop
  | lf {a : Addr} : SqT K H a [] → Nst K H (.ref a) .lf
  | nd {a : Addr} {l r : V} {t u : Tr} : SqT K H a [l, r] → Nst K H l t → Nst K H r u → Nst K H (.ref a) (.nd t u)
theorem Nst.ex {K : PySem.W.Frag} {H H' : Hp} (e : Ex H H') {v : V} {t : Tr} (h : Nst K H v t) : Nst K H' v t := by
  induction h with
  | lf h => exact .lf (e.T h)
  | nd h _ _ i1 i2 => exact .nd (e.T h) i1 i2
def Tr.dat : Tr → PyData
  | .lf => .tuple []
  | .nd l r => .tuple [l.dat, r.dat]
theorem Nst.dp {K : PySem.W.Frag} {H : Hp} {v : V} {t : Tr} (h : Nst K H v t) : Dp K H v t.dat := by
  induction h with
  | lf h => exact .tup h .nil
  | nd h _ _ i1 i2 => exact .tup h (.cons i1 (.cons i2 .nil))
theorem Tr.lay : ∀ t : Tr, t.dat.canLay0 = true
  | .lf => rfl
  | .nd l r => by simp only [Tr.dat, PyData.canLay0, PyData.canLayAll0, Tr.lay l, Tr.lay r, Bool.and_self]
/-- a nest == () -/
theorem eq_nil {K : PySem.W.Frag} {H : Hp} {Q : VK} {v : V} {t : Tr} {q : Addr} (h : Nst K H v t) (h2 : SqT K H q []) (k : Q (.bl (decide (t = .lf))) H) : rEqW K false v (.ref q) H Q := by
  refine ⟨t.dat, .tuple [], h.dp, .tup h2 .nil, t.lay, rfl, Nat.le_trans (Nat.min_le_right _ _) (by simp only [PyData.depth, PyData.depthAll]; decide), ?_⟩
  have e : PyData.eqv t.dat (.tuple []) = decide (t = .lf) := by
    cases t with
    | lf => rfl
    | nd l r => simp [Tr.dat, PyData.eqv, PyData.eqvAll]
  rw [if_neg Bool.false_ne_true, e]
  exact k
theorem Nst.ref {K : PySem.W.Frag} {H : Hp} {v : V} {t : Tr} (h : Nst K H v t) : ∃ a, v = .ref a := by
  cases h <;> exact ⟨_, rfl⟩

/-! ### roads to leaves and nodes -/
namespace Tr
def lvs : Tr → List Nat → List (List Nat)
  | .lf, r => [r]
  | .nd a b, r => a.lvs (r ++ [108]) ++ b.lvs (r ++ [114])
def nds : Tr → List Nat → List (List Nat)
  | .lf, _ => []
  | .nd a b, r => a.nds (r ++ [108]) ++ ([r] ++ b.nds (r ++ [114]))
theorem lvs_len : ∀ (t : Tr) (r : List Nat), (t.lvs r).length = t.n + 1
  | .lf, _ => rfl
  | .nd a b, r => by simp only [lvs, n, List.length_append, lvs_len a, lvs_len b]; omega
theorem nds_len : ∀ (t : Tr) (r : List Nat), (t.nds r).length = t.n
  | .lf, _ => rfl
  | .nd a b, r => by simp only [nds, n, List.length_append, nds_len a, nds_len b, List.length_cons, List.length_nil]; omega
end Tr
end M
namespace M
open PySem PySem.Spec PyProof.Rows L2
theorem Fm.refl (m : List Addr) (H : Hp) : Fm m H H := fun _ _ _ h => h
theorem Fm.trans {m : List Addr} {H H1 H2 : Hp} (a : Fm m H H1) (b : Fm m H1 H2) : Fm m H H2 := fun x o n h => b x o n (a x o n h)
theorem Fm.ex {m : List Addr} {H H1 : Hp} (a : Ex H H1) : Fm m H H1 := fun x o _ h => a x o h
theorem Fm.new {m : List Addr} {H : Hp} {p : Addr} {o : HO} (h : H p = none) : Fm m H (upd H p o) := Fm.ex (Ex.new h)
theorem Fm.mut {m : List Addr} {H : Hp} {p : Addr} {o : HO} (h : p ∈ m) : Fm m H (upd H p o) := fun a u n e => by
  have : a ≠ p := fun z => n (z ▸ h)
  rw [upd_ne this]; exact e
theorem Fm.nil {H H1 : Hp} (a : Fm [] H H1) : Ex H H1 := fun x o h => a x o (by simp) h
theorem Fm.at_ {m : List Addr} {H H1 : Hp} (a : Fm m H H1) {p : Addr} {o : HO} (n : p ∉ m) (h : H p = some o) : H1 p = some o := a p o n h
/-- a purse of random numbers -/
def Pu (H : Hp) (g : Addr) (n : Nat) : Prop := ∃ a b c : Int, H g = some (.lst [.int a, .int b, .int c]) ∧ 0 ≤ a ∧ a < 2 ^ 2000 ∧ 0 ≤ b ∧ b < 2 ^ 31 ∧ 0 ≤ c ∧ c < n
theorem Pu.mono {H : Hp} {g : Addr} {n m : Nat} (h : n ≤ m) (p : Pu H g n) : Pu H g m := by
  obtain ⟨a, b, c, h1, h2, h3, h4, h5, h6, h7⟩ := p
  exact ⟨a, b, c, h1, h2, h3, h4, h5, h6, by omega⟩
theorem Pu.fm {H H1 : Hp} {g : Addr} {n : Nat} (e : Ex H H1) (p : Pu H g n) : Pu H1 g n := by
  obtain ⟨a, b, c, h1, r⟩ := p
  exact ⟨a, b, c, e _ _ h1, r⟩
theorem mulOk (a b : Nat) {i j : Int} (h1 : 0 ≤ i) (h2 : i < (2 : Int) ^ a) (h3 : 0 ≤ j) (h4 : j < (2 : Int) ^ b) (h0 : 0 < a := by decide) (h5 : 0 < b := by decide) (h6 : a + b ≤ 1000000 := by decide) : MulOk i j := by
  refine MulOk.of a b ?_ ?_ h0 h5 h6
  · have : (i.natAbs : Int) < ((2 ^ a : Nat) : Int) := by rw [Int.natAbs_of_nonneg h1]; exact_mod_cast h2
    exact_mod_cast this
  · have : (j.natAbs : Int) < ((2 ^ b : Nat) : Int) := by rw [Int.natAbs_of_nonneg h3]; exact_mod_cast h4
    exact_mod_cast this
theorem divOk (b : Nat) {j : Int} (h : 0 < j) (h4 : j < (2 : Int) ^ b) (h0 : 0 < b := by decide) (h9 : b ≤ 9000 := by decide) : DivOk j := by
  refine DivOk.of b h ?_ h0 h9
  have : (j.natAbs : Int) < ((2 ^ b : Nat) : Int) := by rw [Int.natAbs_of_nonneg (by omega)]; exact_mod_cast h4
  exact_mod_cast this
theorem bits_le {i : Int} {b : Nat} (h : 0 ≤ i) (h4 : i < (2 : Int) ^ b) : Builtin.Int.intBits i ≤ b := by
  unfold Builtin.Int.intBits
  by_cases e : i = 0
  · subst e; simp
  · have e' : (i == 0) = false := by simpa using e
    rw [e', if_neg Bool.false_ne_true]
    have : (i.natAbs : Int) < ((2 ^ b : Nat) : Int) := by rw [Int.natAbs_of_nonneg h]; exact_mod_cast h4
    have h5 : i.natAbs < 2 ^ b := by exact_mod_cast this
    have h6 : i.natAbs ≠ 0 := by omega
    have := (Nat.log2_lt h6).mpr h5
    omega
end M
namespace M
open PySem PySem.Spec PyProof.Rows L2
/-- what is no list stays -/
def Nl (H H' : Hp) : Prop := ∀ a o, (∀ xs, o ≠ .lst xs) → H a = some o → H' a = some o
theorem Nl.refl (H : Hp) : Nl H H := fun _ _ _ h => h
theorem Nl.trans {H H1 H2 : Hp} (a : Nl H H1) (b : Nl H1 H2) : Nl H H2 := fun x o n h => b x o n (a x o n h)
theorem Nl.ex {H H1 : Hp} (a : Ex H H1) : Nl H H1 := fun x o _ h => a x o h
theorem Nl.new {H : Hp} {p : Addr} {o : HO} (h : H p = none) : Nl H (upd H p o) := Nl.ex (Ex.new h)
theorem Nl.mut {H : Hp} {p : Addr} {o : HO} {xs : List V} (h : H p = some (.lst xs)) : Nl H (upd H p o) := fun a u n e => by
  have : a ≠ p := fun z => by rw [z, h] at e; cases e; exact n _ rfl
  rw [upd_ne this]; exact e
theorem Nl.T {K : PySem.W.Frag} {H H' : Hp} {a : Addr} {xs : List V} (e : Nl H H') (h : SqT K H a xs) : SqT K H' a xs := by
  rcases h with h | h
  · rcases h with h | ⟨o, h⟩
    · exact .inl (.inl (e a _ (fun _ z => by cases z) h))
    · exact .inl (.inr ⟨o, e a _ (fun _ z => by cases z) h⟩)
  · exact .inr h
theorem Nst.nl {K : PySem.W.Frag} {H H' : Hp} (e : Nl H H') {v : V} {t : Tr} (h : Nst K H v t) : Nst K H' v t := by
  induction h with
  | lf h => exact .lf (e.T h)
  | nd h _ _ i1 i2 => exact .nd (e.T h) i1 i2
/-- one of the lists that H does not know changes -/
theorem Ex.chg {H H1 : Hp} {p : Addr} {o : HO} (e : Ex H H1) (h : H p = none) : Ex H (upd H1 p o) := e.mut h
end M

/-! ### the readings at values that are known -/
namespace M
open PySem PySem.Spec PyProof.Rows L2
section
variable {K : PySem.W.Frag} {H : Hp} {Q : VK} {i j : Int} {a b : Str} {k l : Bool} {p q : Addr} {x y : V} {lo hi : Option Int}
theorem q_add1 : mAdd (.int i) (.int j) H Q = Q (.int (i + j)) H := rfl
theorem q_add2 : mAdd (.str a) (.str b) H Q = (a.length + b.length ≤ sizeLine ∧ Q (.str (a ++ b)) H) := rfl
theorem q_add3 : mAdd (.ref p) (.ref q) H Q = (∃ xs zs, H p = some (.lst xs) ∧ H q = some (.lst zs) ∧ xs.length + zs.length ≤ sizeLine ∧ ∀ r, H r = none → Q (.ref r) (upd H r (.lst (xs ++ zs)))) := rfl
theorem q_add4 : mAdd (.int i) (.bl k) H Q = Q (.int (i + b2i k)) H := rfl
theorem q_iadd1 : iAdd (.int i) (.int j) H Q = Q (.int (i + j)) H := rfl
theorem q_iadd2 : iAdd (.str a) (.str b) H Q = (a.length + b.length ≤ sizeLine ∧ Q (.str (a ++ b)) H) := rfl
theorem q_sub : mSub (.int i) (.int j) H Q = Q (.int (i - j)) H := rfl
theorem q_mul1 : mMul (.int i) (.int j) H Q = (MulOk i j ∧ Q (.int (i * j)) H) := rfl
theorem q_mul2 : mMul (.ref p) (.int i) H Q = (∃ xs, H p = some (.lst xs) ∧ -(2 ^ 63) ≤ i ∧ i < 2 ^ 63 ∧ xs.length * i.toNat ≤ sizeLine ∧ ∀ r, H r = none → Q (.ref r) (upd H r (.lst (List.replicate i.toNat xs).flatten))) := rfl
theorem q_mod : mMod (.int i) (.int j) H Q = (0 < j ∧ Q (.int (i % j)) H) := rfl
theorem q_div : mDiv (.int i) (.int j) H Q = (DivOk j ∧ Q (.int (i / j)) H) := rfl
theorem q_pow : mPow (.int i) (.int j) H Q = ((0 ≤ j ∧ (Builtin.Int.intBits i : Int) * j ≤ 2 ^ 27) ∧ Q (.int (i ^ j.toNat)) H) := rfl
theorem q_eq1 : mEq K (.int i) (.int j) H Q = Q (.bl (decide (i = j))) H := rfl
theorem q_eq2 : mEq K (.str a) (.str b) H Q = Q (.bl (decide (a = b))) H := rfl
theorem q_eq3 : mEq K (.bl k) (.bl l) H Q = Q (.bl (decide (k = l))) H := rfl
theorem q_eq4 : mEq K .non .non H Q = Q (.bl true) H := rfl
theorem q_eq5 : mEq K .non (.int j) H Q = Q (.bl false) H := rfl
theorem q_eq6 : mEq K (.int j) .non H Q = Q (.bl false) H := rfl
theorem q_eq7 : mEq K (.str a) .non H Q = Q (.bl false) H := rfl
theorem q_eq8 : mEq K .non (.str a) H Q = Q (.bl false) H := rfl
theorem q_eq9 : mEq K (.ref p) y H Q = rEqW K false (.ref p) y H Q := by cases y <;> rfl
theorem q_eq10 : mEq K x (.ref p) H Q = rEqW K false x (.ref p) H Q := by cases x <;> rfl
theorem q_ne1 : mNe K (.int i) (.int j) H Q = Q (.bl (!decide (i = j))) H := rfl
theorem q_ne2 : mNe K (.str a) (.str b) H Q = Q (.bl (!decide (a = b))) H := rfl
theorem q_ne3 : mNe K (.bl k) (.bl l) H Q = Q (.bl (!decide (k = l))) H := rfl
theorem q_ne9 : mNe K (.ref p) y H Q = rEqW K true (.ref p) y H Q := by cases y <;> rfl
theorem q_ne10 : mNe K x (.ref p) H Q = rEqW K true x (.ref p) H Q := by cases x <;> rfl
theorem q_lt : mLt (.int i) (.int j) H Q = Q (.bl (decide (i < j))) H := rfl
theorem q_le : mLe (.int i) (.int j) H Q = Q (.bl (decide (i ≤ j))) H := rfl
theorem q_gt : mGt (.int i) (.int j) H Q = Q (.bl (decide (j < i))) H := rfl
theorem q_ge : mGe (.int i) (.int j) H Q = Q (.bl (decide (j ≤ i))) H := rfl
theorem q_inc : mInC (.str a) (.str b) H Q = (∃ k, a = S [k] ∧ Q (.bl (decide (k ∈ b.cps.toList))) H) := rfl
theorem q_ninc : mNinC (.str a) (.str b) H Q = (∃ k, a = S [k] ∧ Q (.bl (!decide (k ∈ b.cps.toList))) H) := rfl
theorem q_inc1 {c : Nat} {z : List Nat} : mInC (.str (S [c])) (.str (S z)) H Q = Q (.bl (decide (c ∈ z))) H := by
  rw [q_inc, S_cps]
  refine propext ⟨fun ⟨k, e, h⟩ => ?_, fun h => ⟨c, rfl, h⟩⟩
  have := S_inj.mp e
  simp only [List.cons.injEq, and_true] at this
  rw [this]; exact h
theorem q_ix1 : mIx K (.str a) (.int i) H Q = (a.length ≤ sizeLine ∧ ∃ c, atI a.cps.toList i = some c ∧ Q (.str (S [c])) H) := rfl
theorem q_ix2 : mIx K (.ref p) (.int i) H Q = (∃ xs v, (SqL K H p xs ∨ SqT K H p xs) ∧ atI xs i = some v ∧ Q v H) := rfl
theorem q_sl1 : mSl K (.str a) lo hi H Q = (a.length ≤ sizeLine ∧ Q (.str (S (cutL a.cps.toList lo hi))) H) := rfl
theorem q_sl2 : mSl K (.ref p) lo hi H Q = (∃ xs, SqL K H p xs ∧ ∀ r, H r = none → Q (.ref r) (upd H r (.lst (cutL xs lo hi)))) := rfl
theorem q_set {R : Hp → Prop} : mSetL (.ref p) (.int i) x H R = (∃ xs j, H p = some (.lst xs) ∧ ixN xs.length i = some j ∧ R (upd H p (.lst (xs.set j x)))) := rfl
theorem q_len1 : mLen K [.str a] H Q = (a.length ≤ sizeLine ∧ Q (.int a.length) H) := rfl
theorem q_len2 : mLen K [.ref p] H Q = (∃ ys, (SqL K H p ys ∨ SqT K H p ys) ∧ Q (.int ys.length) H) := rfl
theorem q_int1 : mInt [.int i] H Q = Q (.int i) H := rfl
theorem q_int2 : mInt [.bl k] H Q = Q (.int (if k then 1 else 0)) H := rfl
theorem q_max : mMax [.int i, .int j] H Q = Q (.int (max i j)) H := rfl
theorem q_min : mMin [.int i, .int j] H Q = Q (.int (min i j)) H := rfl
theorem q_abs : mAbs [.int i] H Q = Q (.int (i.natAbs : Int)) H := rfl
theorem q_sum : mSum K [.ref p] H Q = (∃ ns : List Int, SqL K H p (ns.map V.int) ∧ Q (.int ns.sum) H) := rfl
theorem q_list : mList K [.ref p] H Q = (∃ ys, (SqL K H p ys ∨ SqT K H p ys) ∧ ∀ l, H l = none → Q (.ref l) (upd H l (.lst ys))) := rfl
theorem q_isi1 {z : Str} : mIsi K [.str z, .ty "str"] H Q = Q (.bl true) H := by unfold mIsi; simp only [tyN, kb1]
theorem q_is1 : mIs x .non H Q = Q (.bl (isN x)) H := rfl
theorem q_not1 : mNot x .non H Q = Q (.bl (!isN x)) H := rfl
theorem q_isN1 : isN .non = true := rfl
theorem q_isN2 : isN (.ref p) = false := rfl
theorem q_isN3 : isN (.str a) = false := rfl
theorem q_isN4 : isN (.int i) = false := rfl
theorem q_join : mJoin K a (.ref p) H Q = (∃ ys : List Str, (SqL K H p (ys.map V.str) ∨ SqT K H p (ys.map V.str)) ∧ (ys.map (·.length)).sum + ys.length * a.length ≤ 16777216 ∧ Q (.str (Txt.join a ys)) H) := rfl
theorem q_count : mCount a (.str b) H Q = Q (.int (Txt.count a b)) H := rfl
theorem q_split : mSplit a (.str b) H Q = ((b.length == 0) = false ∧ a.length + 2 ≤ sizeLine ∧ ∀ r, H r = none → Q (.ref r) (upd H r (.lst ((Txt.split a b).map V.str)))) := rfl
theorem q_app {xs : List V} : mApp p xs [y] H Q = (xs.length < sizeLine ∧ Q .non (upd H p (.lst (xs ++ [y])))) := rfl
theorem q_pop {xs : List V} : mPop p xs [] H Q = (∃ y, xs.getLast? = some y ∧ Q y (upd H p (.lst xs.dropLast))) := rfl
theorem q_clear {xs : List V} : mClear p xs [] H Q = Q .non (upd H p (.lst [])) := rfl
theorem q_isiE {C : Addr} : mIsiE K [.ref p, .ref C] H Q = (∃ (D d : Addr) (fl : Str) (fs : List (Str × V)) (b : Bool), ExcK K fl D ∧ H p = some (exk p (.ref D) (some d)) ∧ H d = some (.xd fs) ∧ PySem.W.kitOne K (.ref D) (.ref C) = some b ∧ Q (.bl b) H) := rfl
theorem q_repr : mRepr K [x] H Q = (∃ d, Sh K H x d ∧ d.showable = true ∧ d.depth ≤ 64 ∧ d.shown.length ≤ sizeLine ∧ Q (.str d.shown) H) := rfl
/-- joined texts -/
theorem join_S : ∀ l : List (List Nat), Txt.join (S []) (l.map S) = S l.flatten := by
  intro l
  show PySem.Builtin.Str.glued (S []) (l.map S) = _
  rw [StrLaws.glued_eq_join]
  induction l with
  | nil => rfl
  | cons z l ih =>
    cases l with
    | nil => show S z = S (z ++ []); rw [List.append_nil]
    | cons y r =>
      show S z ++ S [] ++ Str.join (S []) ((y :: r).map S) = _
      rw [ih, S_app, S_app, List.append_nil]
      simp only [List.flatten_cons]
theorem join_signs (l : List Nat) : Txt.join (S []) (l.map fun c => S [c]) = S l := by
  have e : (l.map fun c => S [c]) = (l.map fun c => [c]).map S := by rw [List.map_map]; rfl
  rw [e, join_S]
  congr 1
  induction l with
  | nil => rfl
  | cons c r ih => show [c] ++ (r.map fun c => [c]).flatten = _; rw [ih (by rw [List.map_map]; rfl)]; rfl
end
def sg (P : List Nat) : List V := P.map fun c => V.str (S [c])
def tx (l : List (List Nat)) : List V := l.map fun z => V.str (S z)
theorem sg_tx (P : List Nat) : sg P = tx (P.map fun c => [c]) := by unfold sg tx; rw [List.map_map]; rfl
theorem sg_str (P : List Nat) : sg P = (P.map fun c => S [c]).map V.str := by unfold sg; rw [List.map_map]; rfl
theorem sg_len (P : List Nat) : (sg P).length = P.length := by unfold sg; rw [List.length_map]
theorem tx_len (P : List (List Nat)) : (tx P).length = P.length := by unfold tx; rw [List.length_map]
theorem sg_app (a b : List Nat) : sg (a ++ b) = sg a ++ sg b := by unfold sg; rw [List.map_append]
theorem tx_app (a b : List (List Nat)) : tx (a ++ b) = tx a ++ tx b := by unfold tx; rw [List.map_append]
theorem one_len (P : List Nat) : ((P.map fun c => S [c]).map (·.length)).sum = P.length := by
  induction P with
  | nil => rfl
  | cons c r ih => simp only [List.map_cons, List.sum_cons, List.length_cons, ih, S_len, List.length_nil]; omega
end M

/-! ### texts counted and cut at a sign -/
namespace M
open PySem PySem.Spec PyProof.Rows L2
theorem splitS {z : List Nat} {c : Nat} (hc : c < 256) : Txt.split (S z) (S [c]) = (TL.spl [c] 0 [] z).map S := SX.split_S (by simp) (by simpa using hc)
theorem spl_one {c d : Nat} {acc r : List Nat} : TL.spl [c] 0 acc (d :: r) = if d = c then acc :: TL.spl [c] 0 [] r else TL.spl [c] 0 (acc ++ [d]) r := by
  show (if TL.pre [c] (d :: r) = true then acc :: TL.spl [c] 0 [] r else TL.spl [c] 0 (acc ++ [d]) r) = _
  have : (TL.pre [c] (d :: r) = true) = (d = c) := by simp [TL.pre]
  simp only [this]
theorem spl_count (c : Nat) : ∀ (z acc : List Nat), (TL.spl [c] 0 acc z).length = z.count c + 1
  | [], acc => rfl
  | d :: r, acc => by
    rw [spl_one, List.count_cons]
    by_cases h : d = c
    · rw [if_pos h, List.length_cons, spl_count c r]; simp [h]
    · rw [if_neg h, spl_count c r]; simp [h]
theorem count_split {z : List Nat} {c : Nat} (hc : c < 256) : Txt.count (S z) (S [c]) + 1 = ((Txt.split (S z) (S [c])).length : Int) := by
  unfold Txt.count Txt.split
  by_cases h1 : (decide ((S z).length < (S [c]).length) || decide (Builtin.Str.strKind (S z) < Builtin.Str.strKind (S [c]))) = true
  · rw [if_pos h1]
    have hz : z = [] := by
      rcases Bool.or_eq_true_iff.mp h1 with h | h
      · have := of_decide_eq_true h
        simp only [S_len, List.length_singleton] at this
        exact List.length_eq_zero_iff.mp (by omega)
      · exact absurd (of_decide_eq_true h) (TL.kind_ok (SX.all256 (by simpa using hc)))
    subst hz
    have : Builtin.Str.occurrences (S []) (S [c]) 0 (S []).length ((S []).length + 1) = [] := by
      show Builtin.Str.occurrences (S []) (S [c]) 0 0 1 = []
      simp [Builtin.Str.occurrences, S_len]
    rw [this]; rfl
  · rw [if_neg h1]
    split
    · rename_i h2
      rw [List.isEmpty_iff.mp h2]; rfl
    · rw [length_partsBetween]
      push_cast
      rfl
theorem count_S {z : List Nat} {c : Nat} (hc : c < 256) : Txt.count (S z) (S [c]) = (z.count c : Int) := by
  have h := count_split (z := z) hc
  rw [splitS hc, List.length_map, spl_count] at h
  omega
theorem Tr.cnt_op : ∀ t : Tr, t.s.count 40 = t.n
  | .lf => rfl
  | .nd a b => by
    have h1 := Tr.cnt_op a
    have h2 := Tr.cnt_op b
    simp only [Tr.s, Tr.n, List.count_cons, List.count_append, List.count_nil, h1, h2]
    simp
theorem Tr.cnt_lf : ∀ t : Tr, t.s.count 46 = t.n + 1
  | .lf => rfl
  | .nd a b => by
    have h1 := Tr.cnt_lf a
    have h2 := Tr.cnt_lf b
    simp only [Tr.s, Tr.n, List.count_cons, List.count_append, List.count_nil, h1, h2]
    simp
    omega
/-- the pieces with texts between them -/
def fillP : List (List Nat) → List (List Nat) → List Nat
  | [], _ => []
  | p :: _, [] => p
  | p :: ps, h :: hs => p ++ h ++ fillP ps hs
theorem fill_acc (c : Nat) : ∀ (z acc : List Nat) (hs : List (List Nat)), fillP (TL.spl [c] 0 acc z) hs = acc ++ fillP (TL.spl [c] 0 [] z) hs
  | [], acc, hs => by cases hs <;> simp [TL.spl_nil, fillP]
  | d :: r, acc, hs => by
    rw [spl_one, spl_one]
    by_cases h : d = c
    · rw [if_pos h, if_pos h]
      cases hs <;> simp [fillP]
    · rw [if_neg h, if_neg h, fill_acc c r (acc ++ [d]), fill_acc c r ([] ++ [d])]
      simp
end M

/-! ### trees as a lattice -/
namespace M
namespace Tr
theorem s_cons (t : Tr) : ∃ c r, t.s = c :: r := by cases t <;> exact ⟨_, _, rfl⟩
theorem s_pre : ∀ (t u : Tr) (a b : List Nat), t.s ++ a = u.s ++ b → t = u ∧ a = b
  | .lf, .lf, a, b, h => ⟨rfl, by simpa [s] using h⟩
  | .lf, .nd l r, a, b, h => by simp [s] at h
  | .nd l r, .lf, a, b, h => by simp [s] at h
  | .nd l r, .nd l' r', a, b, h => by
    simp only [s, List.cons_append, List.append_assoc, List.cons.injEq, true_and] at h
    obtain ⟨rfl, h2⟩ := s_pre l l' _ _ h
    obtain ⟨rfl, h3⟩ := s_pre r r' _ _ h2
    exact ⟨rfl, by simpa using h3⟩
theorem s_inj {t u : Tr} : t.s = u.s ↔ t = u := ⟨fun h => (s_pre t u [] [] (by rw [h])).1, fun h => by rw [h]⟩
def join : Tr → Tr → Tr
  | .lf, t => t
  | .nd a b, .lf => .nd a b
  | .nd a b, .nd c d => .nd (join a c) (join b d)
def meet : Tr → Tr → Tr
  | .lf, _ => .lf
  | .nd _ _, .lf => .lf
  | .nd a b, .nd c d => .nd (meet a c) (meet b d)
/-- the first one grows into the second one -/
def le : Tr → Tr → Bool
  | .lf, _ => true
  | .nd _ _, .lf => false
  | .nd a b, .nd c d => le a c && le b d
theorem join_lf (t : Tr) : join t .lf = t := by cases t <;> rfl
theorem meet_lf (t : Tr) : meet t .lf = .lf := by cases t <;> rfl
theorem join_comm : ∀ t u : Tr, join t u = join u t
  | .lf, u => (join_lf u).symm
  | .nd a b, .lf => rfl
  | .nd a b, .nd c d => by simp only [join, join_comm a c, join_comm b d]
theorem meet_comm : ∀ t u : Tr, meet t u = meet u t
  | .lf, u => (meet_lf u).symm
  | .nd a b, .lf => rfl
  | .nd a b, .nd c d => by simp only [meet, meet_comm a c, meet_comm b d]
theorem join_self : ∀ t : Tr, join t t = t
  | .lf => rfl
  | .nd a b => by simp only [join, join_self a, join_self b]
theorem meet_self : ∀ t : Tr, meet t t = t
  | .lf => rfl
  | .nd a b => by simp only [meet, meet_self a, meet_self b]
theorem join_meet : ∀ t u : Tr, join t (meet t u) = t
  | .lf, u => rfl
  | .nd a b, .lf => rfl
  | .nd a b, .nd c d => by simp only [join, meet, join_meet a c, join_meet b d]
theorem meet_join : ∀ t u : Tr, meet t (join t u) = t
  | .lf, u => rfl
  | .nd a b, .lf => by show meet (.nd a b) (.nd a b) = _; exact meet_self _
  | .nd a b, .nd c d => by simp only [join, meet, meet_join a c, meet_join b d]
theorem join_assoc : ∀ t u v : Tr, join (join t u) v = join t (join u v)
  | .lf, u, v => rfl
  | .nd a b, .lf, v => rfl
  | .nd a b, .nd c d, .lf => rfl
  | .nd a b, .nd c d, .nd e f => by simp only [join, join_assoc a c e, join_assoc b d f]
theorem meet_assoc : ∀ t u v : Tr, meet (meet t u) v = meet t (meet u v)
  | .lf, u, v => rfl
  | .nd a b, .lf, v => rfl
  | .nd a b, .nd c d, .lf => rfl
  | .nd a b, .nd c d, .nd e f => by simp only [meet, meet_assoc a c e, meet_assoc b d f]
theorem join_dist : ∀ t u v : Tr, join t (meet u v) = meet (join t u) (join t v)
  | .lf, u, v => rfl
  | .nd a b, .lf, .lf => by show Tr.nd a b = meet (.nd a b) (.nd a b); rw [meet_self]
  | .nd a b, .lf, .nd e f => by
    show Tr.nd a b = meet (.nd a b) (.nd (join a e) (join b f))
    simp only [meet, meet_join]
  | .nd a b, .nd c d, .lf => by
    show Tr.nd a b = meet (.nd (join a c) (join b d)) (.nd a b)
    rw [meet_comm]; simp only [meet, meet_join]
  | .nd a b, .nd c d, .nd e f => by simp only [join, meet, join_dist a c e, join_dist b d f]
theorem n_join : ∀ t u : Tr, (join t u).n + (meet t u).n = t.n + u.n
  | .lf, u => by show u.n + 0 = 0 + u.n; omega
  | .nd a b, .lf => rfl
  | .nd a b, .nd c d => by
    have h1 := n_join a c
    have h2 := n_join b d
    simp only [join, meet, n]; omega
theorem le_join_iff : ∀ t u : Tr, le u t = true ↔ join t u = t
  | t, .lf => by simp [le, join_lf]
  | .lf, .nd c d => by simp [le, join]
  | .nd a b, .nd c d => by simp only [le, join, Bool.and_eq_true, le_join_iff a c, le_join_iff b d, Tr.nd.injEq]
theorem le_meet_iff : ∀ t u : Tr, le u t = true ↔ meet t u = u
  | t, .lf => by simp [le, meet_lf]
  | .lf, .nd c d => by simp [le, meet]
  | .nd a b, .nd c d => by simp only [le, meet, Bool.and_eq_true, le_meet_iff a c, le_meet_iff b d, Tr.nd.injEq]
theorem le_join (t u : Tr) : le t (join t u) = true := (le_meet_iff _ _).mpr (by rw [meet_comm, meet_join])
theorem meet_le (t u : Tr) : le (meet t u) t = true := (le_join_iff _ _).mpr (join_meet t u)
theorem join_n_le (t u : Tr) : (join t u).n ≤ t.n + u.n := by have := n_join t u; omega
theorem meet_n_le (t u : Tr) : (meet t u).n ≤ t.n + u.n := by have := n_join t u; omega
theorem le_n : ∀ t u : Tr, le t u = true → t.n ≤ u.n
  | .lf, u, _ => Nat.zero_le _
  | .nd a b, .lf, h => by simp [le] at h
  | .nd a b, .nd c d, h => by
    simp only [le, Bool.and_eq_true] at h
    have h1 := le_n a c h.1
    have h2 := le_n b d h.2
    simp only [n]; omega
/-- the trees with which a top grows into a tree -/
def hang : Tr → Tr → List Tr
  | .lf, t => [t]
  | .nd _ _, .lf => []
  | .nd a b, .nd c d => hang a c ++ hang b d
/-- the leaves replaced, from left to right -/
def grow : Tr → List Tr → Tr × List Tr
  | .lf, [] => (.lf, [])
  | .lf, h :: r => (h, r)
  | .nd a b, l => (.nd (grow a l).1 (grow b (grow a l).2).1, (grow b (grow a l).2).2)
theorem hang_len : ∀ t u : Tr, le t u = true → (hang t u).length = t.n + 1
  | .lf, u, _ => rfl
  | .nd a b, .lf, h => by simp [le] at h
  | .nd a b, .nd c d, h => by
    simp only [le, Bool.and_eq_true] at h
    simp only [hang, n, List.length_append, hang_len a c h.1, hang_len b d h.2]; omega
theorem grow_hang : ∀ (t u : Tr) (r : List Tr), le t u = true → grow t (hang t u ++ r) = (u, r)
  | .lf, u, r, _ => rfl
  | .nd a b, .lf, r, h => by simp [le] at h
  | .nd a b, .nd c d, r, h => by
    simp only [le, Bool.and_eq_true] at h
    simp only [grow, hang, List.append_assoc, grow_hang a c _ h.1, grow_hang b d _ h.2]
theorem hang_n : ∀ (t u h : Tr), h ∈ hang t u → h.n ≤ u.n
  | .lf, u, h, hm => by rw [List.mem_singleton.mp hm]; exact Nat.le_refl _
  | .nd a b, .lf, h, hm => by cases hm
  | .nd a b, .nd c d, h, hm => by
    simp only [n]
    rcases List.mem_append.mp hm with hm | hm
    · have := hang_n a c h hm; omega
    · have := hang_n b d h hm; omega
theorem fill_grow : ∀ (t : Tr) (hs : List Tr) (r : List Nat), t.n + 1 ≤ hs.length → fillP (TL.spl [46] 0 [] (t.s ++ r)) (hs.map Tr.s) = (grow t hs).1.s ++ fillP (TL.spl [46] 0 [] r) ((grow t hs).2.map Tr.s) ∧ (grow t hs).2.length + (t.n + 1) = hs.length
  | .lf, [], r, h => by simp [n] at h
  | .lf, x :: hs, r, h => by
    show fillP (TL.spl [46] 0 [] (46 :: r)) _ = _ ∧ _
    rw [spl_one, if_pos rfl]
    exact ⟨by simp [fillP, grow], by simp [grow, n]⟩
  | .nd a b, hs, r, h => by
    simp only [n] at h
    obtain ⟨a1, a2⟩ := fill_grow a hs (b.s ++ 41 :: r) (by omega)
    obtain ⟨b1, b2⟩ := fill_grow b (grow a hs).2 (41 :: r) (by omega)
    have e0 : TL.spl [46] 0 [] ((Tr.nd a b).s ++ r) = TL.spl [46] 0 [40] (a.s ++ (b.s ++ 41 :: r)) := by
      show TL.spl [46] 0 [] (40 :: ((a.s ++ (b.s ++ [41])) ++ r)) = _
      rw [spl_one, if_neg (by decide)]
      simp
    have e1 : fillP (TL.spl [46] 0 [] (41 :: r)) ((grow b (grow a hs).2).2.map Tr.s) = 41 :: fillP (TL.spl [46] 0 [] r) ((grow b (grow a hs).2).2.map Tr.s) := by
      rw [spl_one, if_neg (by decide), fill_acc]
      rfl
    refine ⟨?_, by simp only [grow, n]; omega⟩
    rw [e0, fill_acc, a1, b1, e1]
    simp [grow, s]
theorem fill_all (t : Tr) (hs : List Tr) (h : hs.length = t.n + 1) : fillP (TL.spl [46] 0 [] t.s) (hs.map Tr.s) = (grow t hs).1.s := by
  obtain ⟨h1, h2⟩ := fill_grow t hs [] (by omega)
  rw [List.append_nil] at h1
  have : (grow t hs).2 = [] := List.length_eq_zero_iff.mp (by omega)
  rw [h1, this]
  simp [TL.spl_nil, fillP]
theorem grow_n : ∀ (t : Tr) (hs : List Tr), (grow t hs).1.n + ((grow t hs).2.map Tr.n).sum ≤ t.n + (hs.map Tr.n).sum
  | .lf, [] => by simp [grow]
  | .lf, x :: hs => by simp [grow, n]
  | .nd a b, hs => by
    have h1 := grow_n a hs
    have h2 := grow_n b (grow a hs).2
    simp only [grow, n]
    omega
end Tr
end M

namespace Pf
open PySem PySem.Spec PyProof.Rows L2 M
def top (i : Nat) : Stmt := PySem.Challenge.pw_treeturns_k06_whole_trees_as_a_lattice.main.body.getD i (.Pass ⟨0, 0, 0, 0⟩)
@[reducible] def rd_is_tree_b1 (K : PySem.W.Frag) (D : Ends) (σ : Sl) (H : Hp) : Prop := ((tIfS (mTest (tOp (mEq K) (mVar 2) (mC (.str (S [41]))))) (tSeq (tIfS (mTest (tOp (mNe K) (tSl (mSl K) (mVar 1) (mPart (mUn (fun i => -i) (mC (.int 3)))) tNoPart) (mC (.str (S [40, 46, 46]))))) (tRet (mC (.bl false))) tNext)
  (tAsg (tOp mAdd (tSl (mSl K) (mVar 1) tNoPart (mPart (mUn (fun i => -i) (mC (.int 3))))) (mC (.str (S [46])))) (gName 1))) (tIfS (mInTT false (mVar 2) (tCons (mC (.str (S [40]))) (tCons (mC (.str (S [46]))) tNil))) (tAsg (tOp mAdd (mVar 1) (mVar 2)) (gName 1)) (tRet (mC (.bl false))))) : TS) D σ H
def rd_is_tree (K : PySem.W.Frag) : TS := (tSeq (tIfS (tNot (mTest (tCB (mIsi K) (tCons (mVar 0) (tCons (mC (.ty "str")) tNil))))) (tRet (mC (.bl false))) tNext)
  (tSeq (tAsg (mC (.str (S []))) (gName 1))
  (tSeq (mFor (mIter K (mVar 0)) (gName 2) (rd_is_tree_b1 K))
  (tRet (tOp (mEq K) (mVar 1) (mC (.str (S [46]))))))))
abbrev N_is_tree : List Str := ["value", "waiting", "sign"]
def rd_check_tree (K : PySem.W.Frag) (sp_is_tree : Sp) (a_InvalidTree : Addr) (E : XK) : TS := (tIfS (tNot (mTest (tCall sp_is_tree [] E0 (tCons (mVar 0) tNil)))) (mRaise a_InvalidTree "value" (tCons (mVar 0) tNil) E) tNext)
abbrev N_check_tree : List Str := ["value"]
def rd_size (K : PySem.W.Frag) (sp_check_tree : Sp) : TS := (tSeq (tDrop (tCall sp_check_tree [] E0 (tCons (mVar 0) tNil)))
  (tRet (mStrM (mCount) (mVar 0) (mC (.str (S [40]))))))
abbrev N_size : List Str := ["tree"]
@[reducible] def rd_end_of_b1 (K : PySem.W.Frag) (D : Ends) (σ : Sl) (H : Hp) : Prop := ((tSeq (tIfS (mTest (tOp (mEq K) (tOp (mIx K) (mVar 0) (mVar 2)) (mC (.str (S [40]))))) (tAsg (tOp mAdd (mVar 3) (mC (.int 1))) (gName 3)) (tIfS (mTest (tOp (mEq K) (tOp (mIx K) (mVar 0) (mVar 2)) (mC (.str (S [41]))))) (tAsg (tOp mSub (mVar 3) (mC (.int 1))) (gName 3)) tNext))
  (tSeq (tAsg (tOp mAdd (mVar 2) (mC (.int 1))) (gName 2))
  (tIfS (mTest (tOp (mEq K) (mVar 3) (mC (.int 0)))) (tRet (mVar 2)) tNext))) : TS) D σ H
def rd_end_of (K : PySem.W.Frag) : TS := (tSeq (tAsg (mVar 1) (gName 2))
  (tSeq (tAsg (mC (.int 0)) (gName 3))
  (mWhile (mTest (mC (.bl true))) (rd_end_of_b1 K))))
abbrev N_end_of : List Str := ["tree", "start", "at", "opened"]
def rd_grown_by (K : PySem.W.Frag) : TS := (tSeq (tAsg (mStrM (mSplit) (mVar 0) (mC (.str (S [46])))) (gName 2))
  (tRet (tOp mAdd (tOp (mIx K) (mVar 2) (mC (.int 0))) (mStrM (mJoin K) (mC (.str (S []))) (mLc (mEnum K (mVar 1)) (mgTup K 2 (mgCons (gName 3) (mgCons (gName 4) mgNil))) tYes (tOp mAdd (mVar 4) (tOp (mIx K) (mVar 2) (tOp mAdd (mVar 3) (mC (.int 1))))) [3, 4])))))
abbrev N_grown_by : List Str := ["tree", "trees", "pieces", "number", "other"]
def rd_grown (K : PySem.W.Frag) (sp_check_tree : Sp) (sp_is_tree : Sp) (sp_grown_by : Sp) (a_InvalidList : Addr) : TS := (tSeq (tDrop (tCall sp_check_tree [] E0 (tCons (mVar 0) tNil)))
  (tSeq (tIfS (tOr (tNot (mTest (tCB (mIsi K) (tCons (mVar 1) (tCons (mC (.ty "list")) tNil))))) (mTest (tOp (mNe K) (tCB (mLen K) (tCons (mVar 1) tNil)) (mStrM (mCount) (mVar 0) (mC (.str (S [46]))))))) (mRaise a_InvalidList "value" (tCons (mVar 1) tNil) E0) tNext)
  (tSeq (tIfS (mTest (tOp (mNe K) (mLc (mIter K (mVar 1)) (gName 2) (tNot (mTest (tCall sp_is_tree [] E0 (tCons (mVar 2) tNil)))) (mVar 2) [2]) (tLst tNil))) (mRaise a_InvalidList "value" (tCons (mVar 1) tNil) E0) tNext)
  (tRet (tCall sp_grown_by [] E0 (tCons (mVar 0) (tCons (mVar 1) tNil)))))))
abbrev N_grown : List Str := ["tree", "hung", "other"]
@[reducible] def rd_hung_on_b1 (K : PySem.W.Frag) (sp_end_of : Sp) (D : Ends) (σ : Sl) (H : Hp) : Prop := ((tIfS (mTest (tOp (mEq K) (mVar 4) (mC (.str (S [46]))))) (tSeq (tAsg (tCall sp_end_of [] E0 (tCons (mVar 0) (tCons (mVar 3) tNil))) (gName 5))
  (tSeq (tAsg (tOp mAdd (mVar 2) (tLst (tCons (tSl (mSl K) (mVar 0) (mPart (mVar 3)) (mPart (mVar 5))) tNil))) (gName 2))
  (tAsg (mVar 5) (gName 3)))) (tIfS (mTest (tOp (mEq K) (tOp (mIx K) (mVar 0) (mVar 3)) (mVar 4))) (tAsg (tOp mAdd (mVar 3) (mC (.int 1))) (gName 3)) (tRet (mC .non)))) : TS) D σ H
def rd_hung_on (K : PySem.W.Frag) (sp_end_of : Sp) : TS := (tSeq (tAsg (tLst tNil) (gName 2))
  (tSeq (tAsg (mC (.int 0)) (gName 3))
  (tSeq (mFor (mIter K (mVar 1)) (gName 4) (rd_hung_on_b1 K sp_end_of))
  (tRet (mVar 2)))))
abbrev N_hung_on : List Str := ["tree", "top", "found", "at", "sign", "end"]
def rd_hung (K : PySem.W.Frag) (sp_check_tree : Sp) (sp_hung_on : Sp) : TS := (tSeq (tDrop (tCall sp_check_tree [] E0 (tCons (mVar 0) tNil)))
  (tSeq (tDrop (tCall sp_check_tree [] E0 (tCons (mVar 1) tNil)))
  (tRet (tCall sp_hung_on [] E0 (tCons (mVar 0) (tCons (mVar 1) tNil))))))
abbrev N_hung : List Str := ["tree", "top"]
@[reducible] def rd_joined_trees_b1 (K : PySem.W.Frag) (sp_end_of : Sp) (D : Ends) (σ : Sl) (H : Hp) : Prop := ((tIfS (mTest (tOp (mEq K) (tOp (mIx K) (mVar 0) (mVar 3)) (mC (.str (S [46]))))) (tSeq (tAsg (tCall sp_end_of [] E0 (tCons (mVar 1) (tCons (mVar 4) tNil))) (gName 5))
  (tSeq (tAsg (tOp mAdd (mVar 2) (tSl (mSl K) (mVar 1) (mPart (mVar 4)) (mPart (mVar 5)))) (gName 2))
  (tSeq (tAsg (tOp mAdd (mVar 3) (mC (.int 1))) (gName 3))
  (tAsg (mVar 5) (gName 4))))) (tIfS (mTest (tOp (mEq K) (tOp (mIx K) (mVar 1) (mVar 4)) (mC (.str (S [46]))))) (tSeq (tAsg (tCall sp_end_of [] E0 (tCons (mVar 0) (tCons (mVar 3) tNil))) (gName 5))
  (tSeq (tAsg (tOp mAdd (mVar 2) (tSl (mSl K) (mVar 0) (mPart (mVar 3)) (mPart (mVar 5)))) (gName 2))
  (tSeq (tAsg (mVar 5) (gName 3))
  (tAsg (tOp mAdd (mVar 4) (mC (.int 1))) (gName 4))))) (tSeq (tAsg (tOp mAdd (mVar 2) (tOp (mIx K) (mVar 0) (mVar 3))) (gName 2))
  (tSeq (tAsg (tOp mAdd (mVar 3) (mC (.int 1))) (gName 3))
  (tAsg (tOp mAdd (mVar 4) (mC (.int 1))) (gName 4)))))) : TS) D σ H
def rd_joined_trees (K : PySem.W.Frag) (sp_end_of : Sp) : TS := (tSeq (tAsg (mC (.str (S []))) (gName 2))
  (tSeq (tAsg (mC (.int 0)) (gName 3))
  (tSeq (tAsg (mC (.int 0)) (gName 4))
  (tSeq (mWhile (mTest (tOp (mLt) (mVar 3) (tCB (mLen K) (tCons (mVar 0) tNil)))) (rd_joined_trees_b1 K sp_end_of))
  (tRet (mVar 2))))))
abbrev N_joined_trees : List Str := ["one", "other", "found", "at", "place", "end"]
def rd_joined (K : PySem.W.Frag) (sp_check_tree : Sp) (sp_joined_trees : Sp) : TS := (tSeq (tDrop (tCall sp_check_tree [] E0 (tCons (mVar 0) tNil)))
  (tSeq (tDrop (tCall sp_check_tree [] E0 (tCons (mVar 1) tNil)))
  (tRet (tCall sp_joined_trees [] E0 (tCons (mVar 0) (tCons (mVar 1) tNil))))))
abbrev N_joined : List Str := ["one", "other"]
@[reducible] def rd_shared_b1 (K : PySem.W.Frag) (sp_check_tree : Sp) (sp_end_of : Sp) (D : Ends) (σ : Sl) (H : Hp) : Prop := ((tIfS (tOr (mTest (tOp (mEq K) (tOp (mIx K) (mVar 0) (mVar 3)) (mC (.str (S [46]))))) (mTest (tOp (mEq K) (tOp (mIx K) (mVar 1) (mVar 4)) (mC (.str (S [46])))))) (tSeq (tDrop (mLstM mApp (mVar 2) (tCons (mC (.str (S [46]))) tNil)))
  (mPar 3 4 (tCons (tCall sp_end_of [] E0 (tCons (mVar 0) (tCons (mVar 3) tNil))) (tCons (tCall sp_end_of [] E0 (tCons (mVar 1) (tCons (mVar 4) tNil))) tNil)))) (tSeq (tDrop (mLstM mApp (mVar 2) (tCons (tOp (mIx K) (mVar 0) (mVar 3)) tNil)))
  (mPar 3 4 (tCons (tOp mAdd (mVar 3) (mC (.int 1))) (tCons (tOp mAdd (mVar 4) (mC (.int 1))) tNil))))) : TS) D σ H
def rd_shared (K : PySem.W.Frag) (sp_check_tree : Sp) (sp_end_of : Sp) : TS := (tSeq (tDrop (tCall sp_check_tree [] E0 (tCons (mVar 0) tNil)))
  (tSeq (tDrop (tCall sp_check_tree [] E0 (tCons (mVar 1) tNil)))
  (tSeq (mPar3 2 3 4 (tCons (tLst tNil) (tCons (mC (.int 0)) (tCons (mC (.int 0)) tNil))))
  (tSeq (mWhile (mTest (tOp (mLt) (mVar 3) (tCB (mLen K) (tCons (mVar 0) tNil)))) (rd_shared_b1 K sp_check_tree sp_end_of))
  (tRet (mStrM (mJoin K) (mC (.str (S []))) (mVar 2)))))))
abbrev N_shared : List Str := ["one", "other", "found", "at", "place"]
def rd__law_cell (K : PySem.W.Frag) : TS := (tSeq (tIfS (mTest (tOp (mLt) (mVar 1) (tCB (mLen K) (tCons (mVar 0) tNil)))) (tRet (tOp (mIx K) (mVar 0) (mVar 1))) tNext)
  (tRet (mC (.int 0))))
abbrev N__law_cell : List Str := ["_law_script", "_law_index"]
def rd__law_hash (K : PySem.W.Frag) : TS := (tSeq (tAsg (tOp mMod (tCB (mInt) (tCons (tOp mAdd (tOp mAdd (tOp mAdd (tOp mMul (mVar 0) (mC (.int 1103515245))) (tOp mMul (tOp mMul (mC (.int 7919)) (mVar 1)) (mVar 1))) (mVar 1)) (mC (.int 1))) tNil)) (mC (.int 2147483647))) (gName 2))
  (tSeq (tAsg (tOp mMod (tCB (mInt) (tCons (tOp mAdd (tOp mMul (mVar 2) (mVar 2)) (mC (.int 69621))) tNil)) (mC (.int 2147483629))) (gName 2))
  (tRet (tOp mMod (tCB (mInt) (tCons (tOp mMul (mVar 2) (mC (.int 48271))) tNil)) (mC (.int 2147483587))))))
abbrev N__law_hash : List Str := ["_law_seed", "_law_index", "_law_mixed"]
def rd__law_generator (K : PySem.W.Frag) (sp__law_cell : Sp) : TS := (tSeq (tAsg (tCall sp__law_cell [] E0 (tCons (mVar 0) (tCons (mVar 1) tNil))) (gName 2))
  (tRet (tLst (tCons (tOp mMod (tCB (mInt) (tCons (tCB (mMax) (tCons (tOp mSub (mVar 2) (tOp mPow (mC (.int 10)) (mC (.int 18)))) (tCons (mC (.int 0)) tNil))) tNil)) (tOp mPow (tOp mPow (mC (.int 10)) (mC (.int 60))) (mC (.int 10)))) (tCons (tOp mMod (tCB (mInt) (tCons (mVar 2) tNil)) (mC (.int 2147483647))) (tCons (tOp mMul (mC (.int 1000)) (mVar 1)) tNil))))))
abbrev N__law_generator : List Str := ["_law_script", "_law_index", "_law_seed"]
def rd__law_tree (K : PySem.W.Frag) (sp__law_random : Sp) (sp__law_tree : Sp) : TS := (tSeq (tIfS (mTest (tOp (mEq K) (mVar 1) (mC (.int 0)))) (tRet (mC (.str (S [46])))) tNext)
  (tSeq (tAsg (tOp (mIx K) (tLst (tCons (mC (.int 0)) (tCons (tOp mSub (mVar 1) (mC (.int 1))) (tCons (tCall sp__law_random [] E0 (tCons (mVar 0) (tCons (mVar 1) tNil))) (tCons (tOp mDiv (mVar 1) (mC (.int 2))) tNil))))) (tCall sp__law_random [] E0 (tCons (mVar 0) (tCons (mC (.int 4)) tNil)))) (gName 2))
  (tRet (tOp mAdd (tOp mAdd (tOp mAdd (mC (.str (S [40]))) (tCall sp__law_tree [] E0 (tCons (mVar 0) (tCons (mVar 2) tNil)))) (tCall sp__law_tree [] E0 (tCons (mVar 0) (tCons (tOp mSub (tOp mSub (mVar 1) (mC (.int 1))) (mVar 2)) tNil)))) (mC (.str (S [41])))))))
abbrev N__law_tree : List Str := ["_law_generator_here", "_law_many", "_law_left"]
@[reducible] def rd__law_trees_b1 (K : PySem.W.Frag) (sp__law_tree : Sp) (sp__law_random : Sp) (D : Ends) (σ : Sl) (H : Hp) : Prop := ((tDrop (mLstM mApp (mVar 2) (tCons (tIf (mTest (tOp (mLt) (mVar 3) (mC (.int 30)))) (tCall sp__law_tree [] E0 (tCons (mVar 0) (tCons (tOp (mIx K) (tLst (tCons (mC (.int 0)) (tCons (mC (.int 0)) (tCons (mC (.int 1)) (tCons (mC (.int 2)) (tCons (mC (.int 3)) tNil)))))) (tCall sp__law_random [] E0 (tCons (mVar 0) (tCons (mC (.int 5)) tNil)))) tNil))) (mC (.str (S [46])))) tNil))) : TS) D σ H
def rd__law_trees (K : PySem.W.Frag) (sp__law_tree : Sp) (sp__law_random : Sp) : TS := (tSeq (tAsg (tLst tNil) (gName 2))
  (tSeq (mFor (mRng1 (mVar 1)) (gName 3) (rd__law_trees_b1 K sp__law_tree sp__law_random))
  (tRet (mVar 2))))
abbrev N__law_trees : List Str := ["_law_generator_here", "_law_many", "_law_found", "_law_leaf"]
@[reducible] def rd__law_random_b1 (K : PySem.W.Frag) (sp__law_hash : Sp) (D : Ends) (σ : Sl) (H : Hp) : Prop := ((tSeq (tAsg (tOp mAdd (tOp (mIx K) (mVar 0) (mC (.int 2))) (mC (.int 1))) (gSub (mVar 0) (mC (.int 2)) mSetL))
  (tAsg (tOp mAdd (tOp mMul (mVar 2) (mC (.int 2147483587))) (tCall sp__law_hash [] E0 (tCons (tOp (mIx K) (mVar 0) (mC (.int 1))) (tCons (tOp (mIx K) (mVar 0) (mC (.int 2))) tNil)))) (gName 2))) : TS) D σ H
def rd__law_random (K : PySem.W.Frag) (sp__law_hash : Sp) : TS := (tSeq (tIfS (mTest (tOp (mGt) (tOp (mIx K) (mVar 0) (mC (.int 0))) (mC (.int 0)))) (tSeq (tAsg (tOp mMod (tCB (mInt) (tCons (tOp (mIx K) (mVar 0) (mC (.int 0))) tNil)) (mVar 1)) (gName 2))
  (tSeq (tAsg (tOp mDiv (tOp (mIx K) (mVar 0) (mC (.int 0))) (mVar 1)) (gSub (mVar 0) (mC (.int 0)) mSetL))
  (tRet (mVar 2)))) tNext)
  (tSeq (tAsg (mC (.int 0)) (gName 2))
  (tSeq (mFor (mRng1 (tOp mAdd (mC (.int 1)) (tOp mDiv (mBits (mVar 1)) (mC (.int 30))))) (gName 3) (rd__law_random_b1 K sp__law_hash))
  (tRet (tOp mMod (tCB (mInt) (tCons (mVar 2) tNil)) (mVar 1))))))
abbrev N__law_random : List Str := ["_law_generator_here", "_law_bound", "_law_drawn", "_law_turn"]
@[reducible] def rd__law_two_right_b1 (K : PySem.W.Frag) (sp_shared : Sp) (sp_joined : Sp) (sp_size : Sp) (sp_hung : Sp) (sp_grown : Sp) (D : Ends) (σ : Sl) (H : Hp) : Prop := ((tIfS (tOr (mTest (tOp (mNe K) (tCall sp_grown [] E0 (tCons (mVar 3) (tCons (tCall sp_hung [] E0 (tCons (mVar 4) (tCons (mVar 3) tNil))) tNil))) (mVar 4))) (mTest (tOp (mNe K) (tCall sp_grown [] E0 (tCons (mVar 4) (tCons (tCall sp_hung [] E0 (tCons (mVar 2) (tCons (mVar 4) tNil))) tNil))) (mVar 2)))) (tRet (mC (.bl false))) tNext) : TS) D σ H
def rd__law_two_right (K : PySem.W.Frag) (sp_shared : Sp) (sp_joined : Sp) (sp_size : Sp) (sp_hung : Sp) (sp_grown : Sp) : TS := (tSeq (mPar 2 3 (tCons (tCall sp_joined [] E0 (tCons (mVar 0) (tCons (mVar 1) tNil))) (tCons (tCall sp_shared [] E0 (tCons (mVar 0) (tCons (mVar 1) tNil))) tNil)))
  (tSeq (tIfS (tOr (mTest (tOp (mNe K) (tCall sp_joined [] E0 (tCons (mVar 1) (tCons (mVar 0) tNil))) (mVar 2))) (mTest (tOp (mNe K) (tCall sp_shared [] E0 (tCons (mVar 1) (tCons (mVar 0) tNil))) (mVar 3)))) (tRet (mC (.bl false))) tNext)
  (tSeq (tIfS (tOr (mTest (tOp (mNe K) (tCall sp_joined [] E0 (tCons (mVar 0) (tCons (mVar 3) tNil))) (mVar 0))) (mTest (tOp (mNe K) (tCall sp_shared [] E0 (tCons (mVar 0) (tCons (mVar 2) tNil))) (mVar 0)))) (tRet (mC (.bl false))) tNext)
  (tSeq (tIfS (mTest (tOp (mNe K) (tOp mAdd (tCall sp_size [] E0 (tCons (mVar 2) tNil)) (tCall sp_size [] E0 (tCons (mVar 3) tNil))) (tOp mAdd (tCall sp_size [] E0 (tCons (mVar 0) tNil)) (tCall sp_size [] E0 (tCons (mVar 1) tNil))))) (tRet (mC (.bl false))) tNext)
  (tSeq (tIfS (tOr (mTest (tOp (mNe K) (tOp (mNot) (tCall sp_hung [] E0 (tCons (mVar 0) (tCons (mVar 1) tNil))) (mC .non)) (tOp (mEq K) (mVar 2) (mVar 0)))) (mTest (tOp (mNe K) (tOp (mNot) (tCall sp_hung [] E0 (tCons (mVar 0) (tCons (mVar 1) tNil))) (mC .non)) (tOp (mEq K) (mVar 3) (mVar 1))))) (tRet (mC (.bl false))) tNext)
  (tSeq (mFor (mIter K (tLst (tCons (mVar 0) (tCons (mVar 1) tNil)))) (gName 4) (rd__law_two_right_b1 K sp_shared sp_joined sp_size sp_hung sp_grown))
  (tRet (mAndV (tOp (mEq K) (tCall sp_joined [] E0 (tCons (mVar 0) (tCons (mVar 0) tNil))) (mVar 0)) (mAndV (tOp (mEq K) (tCall sp_shared [] E0 (tCons (mVar 0) (tCons (mC (.str (S [46]))) tNil))) (mC (.str (S [46])))) (tOp (mEq K) (tCall sp_joined [] E0 (tCons (mVar 0) (tCons (mC (.str (S [46]))) tNil))) (mVar 0)))))))))))
abbrev N__law_two_right : List Str := ["_law_one", "_law_other", "_law_over", "_law_under", "_law_tree_here"]
@[reducible] def rd_law_b1 (K : PySem.W.Frag) (sp__law_generator : Sp) (sp__law_tree : Sp) (sp__law_random : Sp) (sp_grown : Sp) (sp__law_trees : Sp) (sp__law_two_right : Sp) (sp_joined : Sp) (sp_shared : Sp) (D : Ends) (σ : Sl) (H : Hp) : Prop := ((tSeq (tAsg (tCall sp__law_generator [] E0 (tCons (mVar 0) (tCons (mVar 1) tNil))) (gName 2))
  (tSeq (tAsg (mLc (mRng1 (mC (.int 3))) (gName 7) tYes (tCall sp__law_tree [] E0 (tCons (mVar 2) (tCons (tCall sp__law_random [] E0 (tCons (mVar 2) (tCons (mC (.int 16)) tNil))) tNil))) [7]) (gName 3))
  (tSeq (tIfS (mTest (tOp (mEq K) (tCall sp__law_random [] E0 (tCons (mVar 2) (tCons (mC (.int 2)) tNil))) (mC (.int 0)))) (tAsg (tCall sp_grown [] E0 (tCons (tOp (mIx K) (mVar 3) (mC (.int 0))) (tCons (tCall sp__law_trees [] E0 (tCons (mVar 2) (tCons (mStrM (mCount) (tOp (mIx K) (mVar 3) (mC (.int 0))) (mC (.str (S [46])))) tNil))) tNil))) (gSub (mVar 3) (mC (.int 1)) mSetL)) tNext)
  (tSeq (tAsg (mVar 3) (mgSeq K 3 (mgCons (gName 4) (mgCons (gName 5) (mgCons (gName 6) mgNil)))))
  (tSeq (tIfS (mTest (tOp (mNe K) (mLc (mIter K (mVar 3)) (gName 8) (mTest (tOp (mNe K) (mLc (mIter K (mVar 3)) (gName 9) (tNot (mTest (tCall sp__law_two_right [] E0 (tCons (mVar 8) (tCons (mVar 9) tNil))))) (mVar 9) [9]) (tLst tNil))) (mVar 8) [8]) (tLst tNil))) (tRet (mC (.bl false))) tNext)
  (tSeq (tIfS (mTest (tOp (mNe K) (tCall sp_joined [] E0 (tCons (tCall sp_joined [] E0 (tCons (mVar 4) (tCons (mVar 5) tNil))) (tCons (mVar 6) tNil))) (tCall sp_joined [] E0 (tCons (mVar 4) (tCons (tCall sp_joined [] E0 (tCons (mVar 5) (tCons (mVar 6) tNil))) tNil))))) (tRet (mC (.bl false))) tNext)
  (tSeq (tIfS (mTest (tOp (mNe K) (tCall sp_shared [] E0 (tCons (tCall sp_shared [] E0 (tCons (mVar 4) (tCons (mVar 5) tNil))) (tCons (mVar 6) tNil))) (tCall sp_shared [] E0 (tCons (mVar 4) (tCons (tCall sp_shared [] E0 (tCons (mVar 5) (tCons (mVar 6) tNil))) tNil))))) (tRet (mC (.bl false))) tNext)
  (tIfS (mTest (tOp (mNe K) (tCall sp_joined [] E0 (tCons (mVar 4) (tCons (tCall sp_shared [] E0 (tCons (mVar 5) (tCons (mVar 6) tNil))) tNil))) (tCall sp_shared [] E0 (tCons (tCall sp_joined [] E0 (tCons (mVar 4) (tCons (mVar 5) tNil))) (tCons (tCall sp_joined [] E0 (tCons (mVar 4) (tCons (mVar 6) tNil))) tNil))))) (tRet (mC (.bl false))) tNext)))))))) : TS) D σ H
def rd_law (K : PySem.W.Frag) (sp__law_generator : Sp) (sp__law_tree : Sp) (sp__law_random : Sp) (sp_grown : Sp) (sp__law_trees : Sp) (sp__law_two_right : Sp) (sp_joined : Sp) (sp_shared : Sp) : TS := (tSeq (mFor (mRng1 (mC (.int 3))) (gName 1) (rd_law_b1 K sp__law_generator sp__law_tree sp__law_random sp_grown sp__law_trees sp__law_two_right sp_joined sp_shared))
  (tRet (mC (.bl true))))
abbrev N_law : List Str := ["_law_script", "_law_index", "_law_generator_here", "_law_trees_here", "_law_first", "_law_second", "_law_third", "_law_turn", "_law_one", "_law_other"]
structure Tx (K : PySem.W.Frag) (mg : Str → Option Value) : Prop where
  f_isinstance : mg "isinstance" = none
  f_str : mg "str" = none
  f_enumerate : mg "enumerate" = none
  f_len : mg "len" = none
  f_list : mg "list" = none
  f_int : mg "int" = none
  f_max : mg "max" = none
  f_range : mg "range" = none
section
variable {P : Program} {w : World} {K : PySem.W.Frag} {mg : Str → Option Value} {base : Heap} {f : Addr} {fd : FuncData}
abbrev s_is_tree : Stmt := top 5
theorem sc_is_tree : FnScope N_is_tree ["value"] (defScope s_is_tree) := ⟨rfl, rfl, rfl, by decide +kernel, rfl, by decide +kernel, by decide +kernel⟩
theorem ok_is_tree {k : Nat} {sp : Sp}  (F : FunD K "is_tree" "is_tree" (defArgs s_is_tree) (defBody s_is_tree) (defScope s_is_tree) [] [] f fd) (T : Tx K mg)  
    (len : ∀ vs H Q E, sp vs H Q E → vs.length = 1) (pu : ∀ vs H Q E, sp vs H Q E → rd_is_tree K { nx := fun _ H' => Q .non H', rt := Q } (start N_is_tree vs) H) :
    FnG P w K mg base CX0 (k + 1) f fd ["value"] sp :=
  okG F sc_is_tree len fun cdv A outer s H vs Q E hr h => ⟨rd_is_tree K, PSs.nox (
    have nd := sc_is_tree.nd
    let N := N_is_tree
    let scope := defScope s_is_tree
    (pss_cons (ps_if (pt_not (mt_val (pe_callB call_isiM (by rfl) T.f_isinstance (by decide +kernel) (pa_cons (mv 0) (pa_cons (me_ty "str" (by rfl) T.f_str (by decide +kernel)) pa_nil))))) (pss_one (ps_ret me_bl)) pss_nil)
  (pss_cons (ps_set (i := 1) nd rfl (by first | exact Or.inl rfl | exact Or.inr rfl) (me_str [] (by rfl)))
  (pss_cons (ms_for PassesOwn.never rfl (pi_iterM (mv 0)) (pg_name (i := 2) nd rfl (by first | exact Or.inl rfl | exact Or.inr rfl)) (pss_one (ps_if (mt_cmp (op_eqM hr.units) (mv 2) (me_str [41] (by rfl)) (by rfl)) (pss_cons (ps_if (mt_cmp (op_neM hr.units) (me_slice (mv 1) (mo_some (me_neg me_int)) po_none) (me_str [40, 46, 46] (by rfl)) (by rfl)) (pss_one (ps_ret me_bl)) pss_nil)
  (pss_one (ps_set (i := 1) nd rfl (by first | exact Or.inl rfl | exact Or.inr rfl) (pe_op op_addM (me_slice (mv 1) po_none (mo_some (me_neg me_int))) (me_str [46] (by rfl)))))) (pss_one (ps_if (mt_inT (mv 2) (pa_cons (me_str [40] (by rfl)) (pa_cons (me_str [46] (by rfl)) pa_nil))) (pss_one (ps_set (i := 1) nd rfl (by first | exact Or.inl rfl | exact Or.inr rfl) (pe_op op_addM (mv 1) (mv 2)))) (pss_one (ps_ret me_bl)))))))
  (pss_one (ps_ret (pe_cmpR (op_eqM hr.units) (mv 1) (me_str [46] (by rfl)) (by rfl)))))))), pu vs H Q E h⟩
abbrev s_check_tree : Stmt := top 6
theorem sc_check_tree : FnScope N_check_tree ["value"] (defScope s_check_tree) := ⟨rfl, rfl, rfl, by decide +kernel, rfl, by decide +kernel, by decide +kernel⟩
theorem ok_check_tree {k : Nat} {sp : Sp} {sp_is_tree : Sp} {k_is_tree : Nat} {p_is_tree : List Str} {a_InvalidTree : Addr} (F : FunD K "check_tree" "check_tree" (defArgs s_check_tree) (defBody s_check_tree) (defScope s_check_tree) [] [] f fd) (T : Tx K mg) (C_is_tree : CalG P w K mg base CX0 "is_tree" k_is_tree p_is_tree [] sp_is_tree) (X_InvalidTree : ExcAt P w K mg "InvalidTree" "value" a_InvalidTree) (l_is_tree : k_is_tree ≤ k)
    (len : ∀ vs H Q E, sp vs H Q E → vs.length = 1) (pu : ∀ vs H Q E, sp vs H Q E → rd_check_tree K sp_is_tree a_InvalidTree E { nx := fun _ H' => Q .non H', rt := Q } (start N_check_tree vs) H) :
    FnG P w K mg base (L2.CX P w) (k + 1) f fd ["value"] sp :=
  okG F sc_check_tree len fun cdv A outer s H vs Q E hr h => ⟨rd_check_tree K sp_is_tree a_InvalidTree E, (
    have nd := sc_check_tree.nd
    let N := N_check_tree
    let scope := defScope s_check_tree
    (pss_one (ps_if (pt_not (mt_val (me_callG C_is_tree (hr.mono l_is_tree) (by rfl) pass0 (pa_cons (mv 0) pa_nil)))) (pss_one (ms_raise X_InvalidTree hr.r0 rfl (takes_of rfl rfl rfl rfl) (by rfl) (pa_cons (mv 0) pa_nil))) pss_nil))), pu vs H Q E h⟩
abbrev s_size : Stmt := top 7
theorem sc_size : FnScope N_size ["tree"] (defScope s_size) := ⟨rfl, rfl, rfl, by decide +kernel, rfl, by decide +kernel, by decide +kernel⟩
theorem ok_size {k : Nat} {sp : Sp} {sp_check_tree : Sp} {k_check_tree : Nat} {p_check_tree : List Str} (F : FunD K "size" "size" (defArgs s_size) (defBody s_size) (defScope s_size) [] [] f fd) (T : Tx K mg) (C_check_tree : CalG P w K mg base (L2.CX P w) "check_tree" k_check_tree p_check_tree [] sp_check_tree) (l_check_tree : k_check_tree ≤ k)
    (len : ∀ vs H Q E, sp vs H Q E → vs.length = 1) (pu : ∀ vs H Q E, sp vs H Q E → rd_size K sp_check_tree { nx := fun _ H' => Q .non H', rt := Q } (start N_size vs) H) :
    FnG P w K mg base CX0 (k + 1) f fd ["tree"] sp :=
  okG F sc_size len fun cdv A outer s H vs Q E hr h => ⟨rd_size K sp_check_tree, PSs.nox (
    have nd := sc_size.nd
    let N := N_size
    let scope := defScope s_size
    (pss_cons (ps_expr (me_callG C_check_tree (hr.mono l_check_tree) (by rfl) passF (pa_cons (mv 0) pa_nil)))
  (pss_one (ps_ret (me_count (mv 0) (me_str [40] (by rfl))))))), pu vs H Q E h⟩
abbrev s_end_of : Stmt := top 8
theorem sc_end_of : FnScope N_end_of ["tree", "start"] (defScope s_end_of) := ⟨rfl, rfl, rfl, by decide +kernel, rfl, by decide +kernel, by decide +kernel⟩
theorem ok_end_of {k : Nat} {sp : Sp}  (F : FunD K "end_of" "end_of" (defArgs s_end_of) (defBody s_end_of) (defScope s_end_of) [] [] f fd) (T : Tx K mg)  
    (len : ∀ vs H Q E, sp vs H Q E → vs.length = 2) (pu : ∀ vs H Q E, sp vs H Q E → rd_end_of K { nx := fun _ H' => Q .non H', rt := Q } (start N_end_of vs) H) :
    FnG P w K mg base CX0 (k + 1) f fd ["tree", "start"] sp :=
  okG F sc_end_of len fun cdv A outer s H vs Q E hr h => ⟨rd_end_of K, PSs.nox (
    have nd := sc_end_of.nd
    let N := N_end_of
    let scope := defScope s_end_of
    (pss_cons (ps_set (i := 2) nd rfl (by first | exact Or.inl rfl | exact Or.inr rfl) (mv 1))
  (pss_cons (ps_set (i := 3) nd rfl (by first | exact Or.inl rfl | exact Or.inr rfl) me_int)
  (pss_one (ms_while PassesOwn.never (mt_val me_bl) (pss_cons (ps_if (mt_cmp (op_eqM hr.units) (me_ix (mv 0) (mv 2) (fun _ _ => rfl)) (me_str [40] (by rfl)) (by rfl)) (pss_one (ps_set (i := 3) nd rfl (by first | exact Or.inl rfl | exact Or.inr rfl) (pe_op op_addM (mv 3) me_int))) (pss_one (ps_if (mt_cmp (op_eqM hr.units) (me_ix (mv 0) (mv 2) (fun _ _ => rfl)) (me_str [41] (by rfl)) (by rfl)) (pss_one (ps_set (i := 3) nd rfl (by first | exact Or.inl rfl | exact Or.inr rfl) (pe_op op_subM (mv 3) me_int))) pss_nil)))
  (pss_cons (ps_set (i := 2) nd rfl (by first | exact Or.inl rfl | exact Or.inr rfl) (pe_op op_addM (mv 2) me_int))
  (pss_one (ps_if (mt_cmp (op_eqM hr.units) (mv 3) me_int (by rfl)) (pss_one (ps_ret (mv 2))) pss_nil))))))))), pu vs H Q E h⟩
abbrev s_grown_by : Stmt := top 9
theorem sc_grown_by : FnScope N_grown_by ["tree", "trees"] (defScope s_grown_by) := ⟨rfl, rfl, rfl, by decide +kernel, rfl, by decide +kernel, by decide +kernel⟩
theorem ok_grown_by {k : Nat} {sp : Sp}  (F : FunD K "grown_by" "grown_by" (defArgs s_grown_by) (defBody s_grown_by) (defScope s_grown_by) [] [] f fd) (T : Tx K mg)  
    (len : ∀ vs H Q E, sp vs H Q E → vs.length = 2) (pu : ∀ vs H Q E, sp vs H Q E → rd_grown_by K { nx := fun _ H' => Q .non H', rt := Q } (start N_grown_by vs) H) :
    FnG P w K mg base CX0 (k + 1) f fd ["tree", "trees"] sp :=
  okG F sc_grown_by len fun cdv A outer s H vs Q E hr h => ⟨rd_grown_by K, PSs.nox (
    have nd := sc_grown_by.nd
    let N := N_grown_by
    let scope := defScope s_grown_by
    (pss_cons (ps_set (i := 2) nd rfl (by first | exact Or.inl rfl | exact Or.inr rfl) (me_split (mv 0) (me_str [46] (by rfl))))
  (pss_one (ps_ret (pe_op op_addM (me_ix (mv 2) me_int (fun _ _ => rfl)) (me_join (me_str [] (by rfl)) (me_lc (own := [("number", 3), ("other", 4)]) rfl nd (pi_enumM (by rfl) T.f_enumerate (mv 1)) (blkOk_by (own := [("number", 3), ("other", 4)]) (N := N) (sc := scope) (by decide +kernel)) (fun _ _ _ _ _ => (mg_tup rfl (mgs_cons (pg_name (i := 3) nd rfl (by first | exact Or.inl rfl | exact Or.inr rfl)) (mgs_cons (pg_name (i := 4) nd rfl (by first | exact Or.inl rfl | exact Or.inr rfl)) mgs_nil)))) (fun _ _ _ _ _ => pts_nil) (fun _ _ _ _ _ => (pe_op op_addM (mv 4) (me_ix (mv 2) (pe_op op_addM (mv 3) me_int) (fun _ _ => rfl))))))))))), pu vs H Q E h⟩
abbrev s_grown : Stmt := top 10
theorem sc_grown : FnScope N_grown ["tree", "hung"] (defScope s_grown) := ⟨rfl, rfl, rfl, by decide +kernel, rfl, by decide +kernel, by decide +kernel⟩
theorem ok_grown {k : Nat} {sp : Sp} {sp_check_tree : Sp} {k_check_tree : Nat} {p_check_tree : List Str} {sp_is_tree : Sp} {k_is_tree : Nat} {p_is_tree : List Str} {sp_grown_by : Sp} {k_grown_by : Nat} {p_grown_by : List Str} {a_InvalidList : Addr} (F : FunD K "grown" "grown" (defArgs s_grown) (defBody s_grown) (defScope s_grown) [] [] f fd) (T : Tx K mg) (C_check_tree : CalG P w K mg base (L2.CX P w) "check_tree" k_check_tree p_check_tree [] sp_check_tree) (C_is_tree : CalG P w K mg base CX0 "is_tree" k_is_tree p_is_tree [] sp_is_tree) (C_grown_by : CalG P w K mg base CX0 "grown_by" k_grown_by p_grown_by [] sp_grown_by) (X_InvalidList : ExcAt P w K mg "InvalidList" "value" a_InvalidList) (l_check_tree : k_check_tree ≤ k) (l_is_tree : k_is_tree ≤ k) (l_grown_by : k_grown_by ≤ k)
    (len : ∀ vs H Q E, sp vs H Q E → vs.length = 2) (pu : ∀ vs H Q E, sp vs H Q E → rd_grown K sp_check_tree sp_is_tree sp_grown_by a_InvalidList { nx := fun _ H' => Q .non H', rt := Q } (start N_grown vs) H) :
    FnG P w K mg base CX0 (k + 1) f fd ["tree", "hung"] sp :=
  okG F sc_grown len fun cdv A outer s H vs Q E hr h => ⟨rd_grown K sp_check_tree sp_is_tree sp_grown_by a_InvalidList, PSs.nox (
    have nd := sc_grown.nd
    let N := N_grown
    let scope := defScope s_grown
    (pss_cons (ps_expr (me_callG C_check_tree (hr.mono l_check_tree) (by rfl) passF (pa_cons (mv 0) pa_nil)))
  (pss_cons (ps_if (PW.pt (pw_or (pt_not (mt_val (pe_callB call_isiM (by rfl) T.f_isinstance (by decide +kernel) (pa_cons (mv 1) (pa_cons (me_ty "list" (by rfl) T.f_list (by decide +kernel)) pa_nil))))) (pw_or1 (mt_cmp (op_neM hr.units) (pe_callB call_lenM (by rfl) T.f_len (by decide +kernel) (pa_cons (mv 1) pa_nil)) (me_count (mv 0) (me_str [46] (by rfl))) (by rfl))))) (pss_one (ms_raise (E := E0) X_InvalidList hr.r0 rfl takes0 (by rfl) (pa_cons (mv 1) pa_nil))) pss_nil)
  (pss_cons (ps_if (mt_cmp (op_neM hr.units) (me_lc (own := [("other", 2)]) rfl nd (pi_iterM (mv 1)) (blkOk_by (own := [("other", 2)]) (N := N) (sc := scope) (by decide +kernel)) (fun _ _ _ _ _ => (pg_name (i := 2) nd rfl (by first | exact Or.inl rfl | exact Or.inr rfl))) (fun _ _ _ _ _ => (pts_one (pt_not (mt_val (me_callG C_is_tree (hr.mono l_is_tree) (by rfl) pass0 (pa_cons (mv 2) pa_nil)))))) (fun _ _ _ _ _ => (mv 2))) (pe_lst pa_nil) (by rfl)) (pss_one (ms_raise (E := E0) X_InvalidList hr.r0 rfl takes0 (by rfl) (pa_cons (mv 1) pa_nil))) pss_nil)
  (pss_one (ps_ret (me_callG C_grown_by (hr.mono l_grown_by) (by rfl) pass0 (pa_cons (mv 0) (pa_cons (mv 1) pa_nil))))))))), pu vs H Q E h⟩
abbrev s_hung_on : Stmt := top 11
theorem sc_hung_on : FnScope N_hung_on ["tree", "top"] (defScope s_hung_on) := ⟨rfl, rfl, rfl, by decide +kernel, rfl, by decide +kernel, by decide +kernel⟩
theorem ok_hung_on {k : Nat} {sp : Sp} {sp_end_of : Sp} {k_end_of : Nat} {p_end_of : List Str} (F : FunD K "hung_on" "hung_on" (defArgs s_hung_on) (defBody s_hung_on) (defScope s_hung_on) [] [] f fd) (T : Tx K mg) (C_end_of : CalG P w K mg base CX0 "end_of" k_end_of p_end_of [] sp_end_of) (l_end_of : k_end_of ≤ k)
    (len : ∀ vs H Q E, sp vs H Q E → vs.length = 2) (pu : ∀ vs H Q E, sp vs H Q E → rd_hung_on K sp_end_of { nx := fun _ H' => Q .non H', rt := Q } (start N_hung_on vs) H) :
    FnG P w K mg base CX0 (k + 1) f fd ["tree", "top"] sp :=
  okG F sc_hung_on len fun cdv A outer s H vs Q E hr h => ⟨rd_hung_on K sp_end_of, PSs.nox (
    have nd := sc_hung_on.nd
    let N := N_hung_on
    let scope := defScope s_hung_on
    (pss_cons (ps_set (i := 2) nd rfl (by first | exact Or.inl rfl | exact Or.inr rfl) (pe_lst pa_nil))
  (pss_cons (ps_set (i := 3) nd rfl (by first | exact Or.inl rfl | exact Or.inr rfl) me_int)
  (pss_cons (ms_for PassesOwn.never rfl (pi_iterM (mv 1)) (pg_name (i := 4) nd rfl (by first | exact Or.inl rfl | exact Or.inr rfl)) (pss_one (ps_if (mt_cmp (op_eqM hr.units) (mv 4) (me_str [46] (by rfl)) (by rfl)) (pss_cons (ps_set (i := 5) nd rfl (by first | exact Or.inl rfl | exact Or.inr rfl) (me_callG C_end_of (hr.mono l_end_of) (by rfl) pass0 (pa_cons (mv 0) (pa_cons (mv 3) pa_nil))))
  (pss_cons (ps_set (i := 2) nd rfl (by first | exact Or.inl rfl | exact Or.inr rfl) (pe_op op_addM (mv 2) (pe_lst (pa_cons (me_slice (mv 0) (mo_some (mv 3)) (mo_some (mv 5))) pa_nil))))
  (pss_one (ps_set (i := 3) nd rfl (by first | exact Or.inl rfl | exact Or.inr rfl) (mv 5))))) (pss_one (ps_if (mt_cmp (op_eqM hr.units) (me_ix (mv 0) (mv 3) (fun _ _ => rfl)) (mv 4) (by rfl)) (pss_one (ps_set (i := 3) nd rfl (by first | exact Or.inl rfl | exact Or.inr rfl) (pe_op op_addM (mv 3) me_int))) (pss_one (ps_ret me_non)))))))
  (pss_one (ps_ret (mv 2))))))), pu vs H Q E h⟩
abbrev s_hung : Stmt := top 12
theorem sc_hung : FnScope N_hung ["tree", "top"] (defScope s_hung) := ⟨rfl, rfl, rfl, by decide +kernel, rfl, by decide +kernel, by decide +kernel⟩
theorem ok_hung {k : Nat} {sp : Sp} {sp_check_tree : Sp} {k_check_tree : Nat} {p_check_tree : List Str} {sp_hung_on : Sp} {k_hung_on : Nat} {p_hung_on : List Str} (F : FunD K "hung" "hung" (defArgs s_hung) (defBody s_hung) (defScope s_hung) [] [] f fd) (T : Tx K mg) (C_check_tree : CalG P w K mg base (L2.CX P w) "check_tree" k_check_tree p_check_tree [] sp_check_tree) (C_hung_on : CalG P w K mg base CX0 "hung_on" k_hung_on p_hung_on [] sp_hung_on) (l_check_tree : k_check_tree ≤ k) (l_hung_on : k_hung_on ≤ k)
    (len : ∀ vs H Q E, sp vs H Q E → vs.length = 2) (pu : ∀ vs H Q E, sp vs H Q E → rd_hung K sp_check_tree sp_hung_on { nx := fun _ H' => Q .non H', rt := Q } (start N_hung vs) H) :
    FnG P w K mg base CX0 (k + 1) f fd ["tree", "top"] sp :=
  okG F sc_hung len fun cdv A outer s H vs Q E hr h => ⟨rd_hung K sp_check_tree sp_hung_on, PSs.nox (
    have nd := sc_hung.nd
    let N := N_hung
    let scope := defScope s_hung
    (pss_cons (ps_expr (me_callG C_check_tree (hr.mono l_check_tree) (by rfl) passF (pa_cons (mv 0) pa_nil)))
  (pss_cons (ps_expr (me_callG C_check_tree (hr.mono l_check_tree) (by rfl) passF (pa_cons (mv 1) pa_nil)))
  (pss_one (ps_ret (me_callG C_hung_on (hr.mono l_hung_on) (by rfl) pass0 (pa_cons (mv 0) (pa_cons (mv 1) pa_nil)))))))), pu vs H Q E h⟩
abbrev s_joined_trees : Stmt := top 13
theorem sc_joined_trees : FnScope N_joined_trees ["one", "other"] (defScope s_joined_trees) := ⟨rfl, rfl, rfl, by decide +kernel, rfl, by decide +kernel, by decide +kernel⟩
theorem ok_joined_trees {k : Nat} {sp : Sp} {sp_end_of : Sp} {k_end_of : Nat} {p_end_of : List Str} (F : FunD K "joined_trees" "joined_trees" (defArgs s_joined_trees) (defBody s_joined_trees) (defScope s_joined_trees) [] [] f fd) (T : Tx K mg) (C_end_of : CalG P w K mg base CX0 "end_of" k_end_of p_end_of [] sp_end_of) (l_end_of : k_end_of ≤ k)
    (len : ∀ vs H Q E, sp vs H Q E → vs.length = 2) (pu : ∀ vs H Q E, sp vs H Q E → rd_joined_trees K sp_end_of { nx := fun _ H' => Q .non H', rt := Q } (start N_joined_trees vs) H) :
    FnG P w K mg base CX0 (k + 1) f fd ["one", "other"] sp :=
  okG F sc_joined_trees len fun cdv A outer s H vs Q E hr h => ⟨rd_joined_trees K sp_end_of, PSs.nox (
    have nd := sc_joined_trees.nd
    let N := N_joined_trees
    let scope := defScope s_joined_trees
    (pss_cons (ps_set (i := 2) nd rfl (by first | exact Or.inl rfl | exact Or.inr rfl) (me_str [] (by rfl)))
  (pss_cons (ps_set (i := 3) nd rfl (by first | exact Or.inl rfl | exact Or.inr rfl) me_int)
  (pss_cons (ps_set (i := 4) nd rfl (by first | exact Or.inl rfl | exact Or.inr rfl) me_int)
  (pss_cons (ms_while PassesOwn.never (mt_cmp op_ltM (mv 3) (pe_callB call_lenM (by rfl) T.f_len (by decide +kernel) (pa_cons (mv 0) pa_nil)) (by rfl)) (pss_one (ps_if (mt_cmp (op_eqM hr.units) (me_ix (mv 0) (mv 3) (fun _ _ => rfl)) (me_str [46] (by rfl)) (by rfl)) (pss_cons (ps_set (i := 5) nd rfl (by first | exact Or.inl rfl | exact Or.inr rfl) (me_callG C_end_of (hr.mono l_end_of) (by rfl) pass0 (pa_cons (mv 1) (pa_cons (mv 4) pa_nil))))
  (pss_cons (ps_set (i := 2) nd rfl (by first | exact Or.inl rfl | exact Or.inr rfl) (pe_op op_addM (mv 2) (me_slice (mv 1) (mo_some (mv 4)) (mo_some (mv 5)))))
  (pss_cons (ps_set (i := 3) nd rfl (by first | exact Or.inl rfl | exact Or.inr rfl) (pe_op op_addM (mv 3) me_int))
  (pss_one (ps_set (i := 4) nd rfl (by first | exact Or.inl rfl | exact Or.inr rfl) (mv 5)))))) (pss_one (ps_if (mt_cmp (op_eqM hr.units) (me_ix (mv 1) (mv 4) (fun _ _ => rfl)) (me_str [46] (by rfl)) (by rfl)) (pss_cons (ps_set (i := 5) nd rfl (by first | exact Or.inl rfl | exact Or.inr rfl) (me_callG C_end_of (hr.mono l_end_of) (by rfl) pass0 (pa_cons (mv 0) (pa_cons (mv 3) pa_nil))))
  (pss_cons (ps_set (i := 2) nd rfl (by first | exact Or.inl rfl | exact Or.inr rfl) (pe_op op_addM (mv 2) (me_slice (mv 0) (mo_some (mv 3)) (mo_some (mv 5)))))
  (pss_cons (ps_set (i := 3) nd rfl (by first | exact Or.inl rfl | exact Or.inr rfl) (mv 5))
  (pss_one (ps_set (i := 4) nd rfl (by first | exact Or.inl rfl | exact Or.inr rfl) (pe_op op_addM (mv 4) me_int)))))) (pss_cons (ps_set (i := 2) nd rfl (by first | exact Or.inl rfl | exact Or.inr rfl) (pe_op op_addM (mv 2) (me_ix (mv 0) (mv 3) (fun _ _ => rfl))))
  (pss_cons (ps_set (i := 3) nd rfl (by first | exact Or.inl rfl | exact Or.inr rfl) (pe_op op_addM (mv 3) me_int))
  (pss_one (ps_set (i := 4) nd rfl (by first | exact Or.inl rfl | exact Or.inr rfl) (pe_op op_addM (mv 4) me_int))))))))))
  (pss_one (ps_ret (mv 2)))))))), pu vs H Q E h⟩
abbrev s_joined : Stmt := top 14
theorem sc_joined : FnScope N_joined ["one", "other"] (defScope s_joined) := ⟨rfl, rfl, rfl, by decide +kernel, rfl, by decide +kernel, by decide +kernel⟩
theorem ok_joined {k : Nat} {sp : Sp} {sp_check_tree : Sp} {k_check_tree : Nat} {p_check_tree : List Str} {sp_joined_trees : Sp} {k_joined_trees : Nat} {p_joined_trees : List Str} (F : FunD K "joined" "joined" (defArgs s_joined) (defBody s_joined) (defScope s_joined) [] [] f fd) (T : Tx K mg) (C_check_tree : CalG P w K mg base (L2.CX P w) "check_tree" k_check_tree p_check_tree [] sp_check_tree) (C_joined_trees : CalG P w K mg base CX0 "joined_trees" k_joined_trees p_joined_trees [] sp_joined_trees) (l_check_tree : k_check_tree ≤ k) (l_joined_trees : k_joined_trees ≤ k)
    (len : ∀ vs H Q E, sp vs H Q E → vs.length = 2) (pu : ∀ vs H Q E, sp vs H Q E → rd_joined K sp_check_tree sp_joined_trees { nx := fun _ H' => Q .non H', rt := Q } (start N_joined vs) H) :
    FnG P w K mg base CX0 (k + 1) f fd ["one", "other"] sp :=
  okG F sc_joined len fun cdv A outer s H vs Q E hr h => ⟨rd_joined K sp_check_tree sp_joined_trees, PSs.nox (
    have nd := sc_joined.nd
    let N := N_joined
    let scope := defScope s_joined
    (pss_cons (ps_expr (me_callG C_check_tree (hr.mono l_check_tree) (by rfl) passF (pa_cons (mv 0) pa_nil)))
  (pss_cons (ps_expr (me_callG C_check_tree (hr.mono l_check_tree) (by rfl) passF (pa_cons (mv 1) pa_nil)))
  (pss_one (ps_ret (me_callG C_joined_trees (hr.mono l_joined_trees) (by rfl) pass0 (pa_cons (mv 0) (pa_cons (mv 1) pa_nil)))))))), pu vs H Q E h⟩
abbrev s_shared : Stmt := top 15
theorem sc_shared : FnScope N_shared ["one", "other"] (defScope s_shared) := ⟨rfl, rfl, rfl, by decide +kernel, rfl, by decide +kernel, by decide +kernel⟩
theorem ok_shared {k : Nat} {sp : Sp} {sp_check_tree : Sp} {k_check_tree : Nat} {p_check_tree : List Str} {sp_end_of : Sp} {k_end_of : Nat} {p_end_of : List Str} (F : FunD K "shared" "shared" (defArgs s_shared) (defBody s_shared) (defScope s_shared) [] [] f fd) (T : Tx K mg) (C_check_tree : CalG P w K mg base (L2.CX P w) "check_tree" k_check_tree p_check_tree [] sp_check_tree) (C_end_of : CalG P w K mg base CX0 "end_of" k_end_of p_end_of [] sp_end_of) (l_check_tree : k_check_tree ≤ k) (l_end_of : k_end_of ≤ k)
    (len : ∀ vs H Q E, sp vs H Q E → vs.length = 2) (pu : ∀ vs H Q E, sp vs H Q E → rd_shared K sp_check_tree sp_end_of { nx := fun _ H' => Q .non H', rt := Q } (start N_shared vs) H) :
    FnG P w K mg base CX0 (k + 1) f fd ["one", "other"] sp :=
  okG F sc_shared len fun cdv A outer s H vs Q E hr h => ⟨rd_shared K sp_check_tree sp_end_of, PSs.nox (
    have nd := sc_shared.nd
    let N := N_shared
    let scope := defScope s_shared
    (pss_cons (ps_expr (me_callG C_check_tree (hr.mono l_check_tree) (by rfl) passF (pa_cons (mv 0) pa_nil)))
  (pss_cons (ps_expr (me_callG C_check_tree (hr.mono l_check_tree) (by rfl) passF (pa_cons (mv 1) pa_nil)))
  (pss_cons (ms_par3 (i := 2) (j := 3) (l := 4) rfl nd rfl rfl rfl (by decide) (by decide) (by decide) rfl rfl rfl (pa_cons (pe_lst pa_nil) (pa_cons me_int (pa_cons me_int pa_nil))) (by rfl))
  (pss_cons (ms_while PassesOwn.never (mt_cmp op_ltM (mv 3) (pe_callB call_lenM (by rfl) T.f_len (by decide +kernel) (pa_cons (mv 0) pa_nil)) (by rfl)) (pss_one (ps_if (PW.pt (pw_or (mt_cmp (op_eqM hr.units) (me_ix (mv 0) (mv 3) (fun _ _ => rfl)) (me_str [46] (by rfl)) (by rfl)) (pw_or1 (mt_cmp (op_eqM hr.units) (me_ix (mv 1) (mv 4) (fun _ _ => rfl)) (me_str [46] (by rfl)) (by rfl))))) (pss_cons (ps_expr (me_append (mv 2) (me_str [46] (by rfl))))
  (pss_one (ms_par (i := 3) (j := 4) rfl nd rfl rfl (by decide) rfl rfl (pa_cons (me_callG C_end_of (hr.mono l_end_of) (by rfl) pass0 (pa_cons (mv 0) (pa_cons (mv 3) pa_nil))) (pa_cons (me_callG C_end_of (hr.mono l_end_of) (by rfl) pass0 (pa_cons (mv 1) (pa_cons (mv 4) pa_nil))) pa_nil)) (by rfl)))) (pss_cons (ps_expr (me_append (mv 2) (me_ix (mv 0) (mv 3) (fun _ _ => rfl))))
  (pss_one (ms_par (i := 3) (j := 4) rfl nd rfl rfl (by decide) rfl rfl (pa_cons (pe_op op_addM (mv 3) me_int) (pa_cons (pe_op op_addM (mv 4) me_int) pa_nil)) (by rfl)))))))
  (pss_one (ps_ret (me_join (me_str [] (by rfl)) (mv 2))))))))), pu vs H Q E h⟩
abbrev s__law_cell : Stmt := top 17
theorem sc__law_cell : FnScope N__law_cell ["_law_script", "_law_index"] (defScope s__law_cell) := ⟨rfl, rfl, rfl, by decide +kernel, rfl, by decide +kernel, by decide +kernel⟩
theorem ok__law_cell {k : Nat} {sp : Sp}  (F : FunD K "_law_cell" "_law_cell" (defArgs s__law_cell) (defBody s__law_cell) (defScope s__law_cell) [] [] f fd) (T : Tx K mg)  
    (len : ∀ vs H Q E, sp vs H Q E → vs.length = 2) (pu : ∀ vs H Q E, sp vs H Q E → rd__law_cell K { nx := fun _ H' => Q .non H', rt := Q } (start N__law_cell vs) H) :
    FnG P w K mg base CX0 (k + 1) f fd ["_law_script", "_law_index"] sp :=
  okG F sc__law_cell len fun cdv A outer s H vs Q E hr h => ⟨rd__law_cell K, PSs.nox (
    have nd := sc__law_cell.nd
    let N := N__law_cell
    let scope := defScope s__law_cell
    (pss_cons (ps_if (mt_cmp op_ltM (mv 1) (pe_callB call_lenM (by rfl) T.f_len (by decide +kernel) (pa_cons (mv 0) pa_nil)) (by rfl)) (pss_one (ps_ret (me_ix (mv 0) (mv 1) (fun _ _ => rfl)))) pss_nil)
  (pss_one (ps_ret me_int)))), pu vs H Q E h⟩
abbrev s__law_hash : Stmt := top 18
theorem sc__law_hash : FnScope N__law_hash ["_law_seed", "_law_index"] (defScope s__law_hash) := ⟨rfl, rfl, rfl, by decide +kernel, rfl, by decide +kernel, by decide +kernel⟩
theorem ok__law_hash {k : Nat} {sp : Sp}  (F : FunD K "_law_hash" "_law_hash" (defArgs s__law_hash) (defBody s__law_hash) (defScope s__law_hash) [] [] f fd) (T : Tx K mg)  
    (len : ∀ vs H Q E, sp vs H Q E → vs.length = 2) (pu : ∀ vs H Q E, sp vs H Q E → rd__law_hash K { nx := fun _ H' => Q .non H', rt := Q } (start N__law_hash vs) H) :
    FnG P w K mg base CX0 (k + 1) f fd ["_law_seed", "_law_index"] sp :=
  okG F sc__law_hash len fun cdv A outer s H vs Q E hr h => ⟨rd__law_hash K, PSs.nox (
    have nd := sc__law_hash.nd
    let N := N__law_hash
    let scope := defScope s__law_hash
    (pss_cons (ps_set (i := 2) nd rfl (by first | exact Or.inl rfl | exact Or.inr rfl) (pe_op op_modM (pe_callTy call_intM (by rfl) T.f_int (by decide +kernel) (pa_cons (pe_op op_addM (pe_op op_addM (pe_op op_addM (pe_op op_mulM (mv 0) me_int) (pe_op op_mulM (pe_op op_mulM me_int (mv 1)) (mv 1))) (mv 1)) me_int) pa_nil)) me_int))
  (pss_cons (ps_set (i := 2) nd rfl (by first | exact Or.inl rfl | exact Or.inr rfl) (pe_op op_modM (pe_callTy call_intM (by rfl) T.f_int (by decide +kernel) (pa_cons (pe_op op_addM (pe_op op_mulM (mv 2) (mv 2)) me_int) pa_nil)) me_int))
  (pss_one (ps_ret (pe_op op_modM (pe_callTy call_intM (by rfl) T.f_int (by decide +kernel) (pa_cons (pe_op op_mulM (mv 2) me_int) pa_nil)) me_int)))))), pu vs H Q E h⟩
abbrev s__law_generator : Stmt := top 19
theorem sc__law_generator : FnScope N__law_generator ["_law_script", "_law_index"] (defScope s__law_generator) := ⟨rfl, rfl, rfl, by decide +kernel, rfl, by decide +kernel, by decide +kernel⟩
theorem ok__law_generator {k : Nat} {sp : Sp} {sp__law_cell : Sp} {k__law_cell : Nat} {p__law_cell : List Str} (F : FunD K "_law_generator" "_law_generator" (defArgs s__law_generator) (defBody s__law_generator) (defScope s__law_generator) [] [] f fd) (T : Tx K mg) (C__law_cell : CalG P w K mg base CX0 "_law_cell" k__law_cell p__law_cell [] sp__law_cell) (l__law_cell : k__law_cell ≤ k)
    (len : ∀ vs H Q E, sp vs H Q E → vs.length = 2) (pu : ∀ vs H Q E, sp vs H Q E → rd__law_generator K sp__law_cell { nx := fun _ H' => Q .non H', rt := Q } (start N__law_generator vs) H) :
    FnG P w K mg base CX0 (k + 1) f fd ["_law_script", "_law_index"] sp :=
  okG F sc__law_generator len fun cdv A outer s H vs Q E hr h => ⟨rd__law_generator K sp__law_cell, PSs.nox (
    have nd := sc__law_generator.nd
    let N := N__law_generator
    let scope := defScope s__law_generator
    (pss_cons (ps_set (i := 2) nd rfl (by first | exact Or.inl rfl | exact Or.inr rfl) (me_callG C__law_cell (hr.mono l__law_cell) (by rfl) pass0 (pa_cons (mv 0) (pa_cons (mv 1) pa_nil))))
  (pss_one (ps_ret (pe_lst (pa_cons (pe_op op_modM (pe_callTy call_intM (by rfl) T.f_int (by decide +kernel) (pa_cons (pe_callB (call_maxM rfl) (by rfl) T.f_max (by decide +kernel) (pa_cons (pe_op op_subM (mv 2) (pe_op op_powM me_int me_int)) (pa_cons me_int pa_nil))) pa_nil)) (pe_op op_powM (pe_op op_powM me_int me_int) me_int)) (pa_cons (pe_op op_modM (pe_callTy call_intM (by rfl) T.f_int (by decide +kernel) (pa_cons (mv 2) pa_nil)) me_int) (pa_cons (pe_op op_mulM me_int (mv 1)) pa_nil)))))))), pu vs H Q E h⟩
abbrev s__law_tree : Stmt := top 20
theorem sc__law_tree : FnScope N__law_tree ["_law_generator_here", "_law_many"] (defScope s__law_tree) := ⟨rfl, rfl, rfl, by decide +kernel, rfl, by decide +kernel, by decide +kernel⟩
theorem ok__law_tree {k : Nat} {sp : Sp} {sp__law_random : Sp} {k__law_random : Nat} {p__law_random : List Str} {sp__law_tree : Sp} {k__law_tree : Nat} {p__law_tree : List Str} (F : FunD K "_law_tree" "_law_tree" (defArgs s__law_tree) (defBody s__law_tree) (defScope s__law_tree) [] [] f fd) (T : Tx K mg) (C__law_random : CalG P w K mg base CX0 "_law_random" k__law_random p__law_random [] sp__law_random) (C__law_tree : CalG P w K mg base CX0 "_law_tree" k__law_tree p__law_tree [] sp__law_tree) (l__law_random : k__law_random ≤ k) (l__law_tree : k__law_tree ≤ k)
    (len : ∀ vs H Q E, sp vs H Q E → vs.length = 2) (pu : ∀ vs H Q E, sp vs H Q E → rd__law_tree K sp__law_random sp__law_tree { nx := fun _ H' => Q .non H', rt := Q } (start N__law_tree vs) H) :
    FnG P w K mg base CX0 (k + 1) f fd ["_law_generator_here", "_law_many"] sp :=
  okG F sc__law_tree len fun cdv A outer s H vs Q E hr h => ⟨rd__law_tree K sp__law_random sp__law_tree, PSs.nox (
    have nd := sc__law_tree.nd
    let N := N__law_tree
    let scope := defScope s__law_tree
    (pss_cons (ps_if (mt_cmp (op_eqM hr.units) (mv 1) me_int (by rfl)) (pss_one (ps_ret (me_str [46] (by rfl)))) pss_nil)
  (pss_cons (ps_set (i := 2) nd rfl (by first | exact Or.inl rfl | exact Or.inr rfl) (me_ix (pe_lst (pa_cons me_int (pa_cons (pe_op op_subM (mv 1) me_int) (pa_cons (me_callG C__law_random (hr.mono l__law_random) (by rfl) pass0 (pa_cons (mv 0) (pa_cons (mv 1) pa_nil))) (pa_cons (pe_op op_divM (mv 1) me_int) pa_nil))))) (me_callG C__law_random (hr.mono l__law_random) (by rfl) pass0 (pa_cons (mv 0) (pa_cons me_int pa_nil))) (fun _ _ => rfl)))
  (pss_one (ps_ret (pe_op op_addM (pe_op op_addM (pe_op op_addM (me_str [40] (by rfl)) (me_callG C__law_tree (hr.mono l__law_tree) (by rfl) pass0 (pa_cons (mv 0) (pa_cons (mv 2) pa_nil)))) (me_callG C__law_tree (hr.mono l__law_tree) (by rfl) pass0 (pa_cons (mv 0) (pa_cons (pe_op op_subM (pe_op op_subM (mv 1) me_int) (mv 2)) pa_nil)))) (me_str [41] (by rfl)))))))), pu vs H Q E h⟩
abbrev s__law_trees : Stmt := top 21
theorem sc__law_trees : FnScope N__law_trees ["_law_generator_here", "_law_many"] (defScope s__law_trees) := ⟨rfl, rfl, rfl, by decide +kernel, rfl, by decide +kernel, by decide +kernel⟩
theorem ok__law_trees {k : Nat} {sp : Sp} {sp__law_tree : Sp} {k__law_tree : Nat} {p__law_tree : List Str} {sp__law_random : Sp} {k__law_random : Nat} {p__law_random : List Str} (F : FunD K "_law_trees" "_law_trees" (defArgs s__law_trees) (defBody s__law_trees) (defScope s__law_trees) [] [] f fd) (T : Tx K mg) (C__law_tree : CalG P w K mg base CX0 "_law_tree" k__law_tree p__law_tree [] sp__law_tree) (C__law_random : CalG P w K mg base CX0 "_law_random" k__law_random p__law_random [] sp__law_random) (l__law_tree : k__law_tree ≤ k) (l__law_random : k__law_random ≤ k)
    (len : ∀ vs H Q E, sp vs H Q E → vs.length = 2) (pu : ∀ vs H Q E, sp vs H Q E → rd__law_trees K sp__law_tree sp__law_random { nx := fun _ H' => Q .non H', rt := Q } (start N__law_trees vs) H) :
    FnG P w K mg base CX0 (k + 1) f fd ["_law_generator_here", "_law_many"] sp :=
  okG F sc__law_trees len fun cdv A outer s H vs Q E hr h => ⟨rd__law_trees K sp__law_tree sp__law_random, PSs.nox (
    have nd := sc__law_trees.nd
    let N := N__law_trees
    let scope := defScope s__law_trees
    (pss_cons (ps_set (i := 2) nd rfl (by first | exact Or.inl rfl | exact Or.inr rfl) (pe_lst pa_nil))
  (pss_cons (ms_for PassesOwn.never rfl (pi_rng1M (by rfl) T.f_range (mv 1)) (pg_name (i := 3) nd rfl (by first | exact Or.inl rfl | exact Or.inr rfl)) (pss_one (ps_expr (me_append (mv 2) (pe_ifExp (mt_cmp op_ltM (mv 3) me_int (by rfl)) (me_callG C__law_tree (hr.mono l__law_tree) (by rfl) pass0 (pa_cons (mv 0) (pa_cons (me_ix (pe_lst (pa_cons me_int (pa_cons me_int (pa_cons me_int (pa_cons me_int (pa_cons me_int pa_nil)))))) (me_callG C__law_random (hr.mono l__law_random) (by rfl) pass0 (pa_cons (mv 0) (pa_cons me_int pa_nil))) (fun _ _ => rfl)) pa_nil))) (me_str [46] (by rfl)))))))
  (pss_one (ps_ret (mv 2)))))), pu vs H Q E h⟩
abbrev s__law_random : Stmt := top 22
theorem sc__law_random : FnScope N__law_random ["_law_generator_here", "_law_bound"] (defScope s__law_random) := ⟨rfl, rfl, rfl, by decide +kernel, rfl, by decide +kernel, by decide +kernel⟩
theorem ok__law_random {k : Nat} {sp : Sp} {sp__law_hash : Sp} {k__law_hash : Nat} {p__law_hash : List Str} (F : FunD K "_law_random" "_law_random" (defArgs s__law_random) (defBody s__law_random) (defScope s__law_random) [] [] f fd) (T : Tx K mg) (C__law_hash : CalG P w K mg base CX0 "_law_hash" k__law_hash p__law_hash [] sp__law_hash) (l__law_hash : k__law_hash ≤ k)
    (len : ∀ vs H Q E, sp vs H Q E → vs.length = 2) (pu : ∀ vs H Q E, sp vs H Q E → rd__law_random K sp__law_hash { nx := fun _ H' => Q .non H', rt := Q } (start N__law_random vs) H) :
    FnG P w K mg base CX0 (k + 1) f fd ["_law_generator_here", "_law_bound"] sp :=
  okG F sc__law_random len fun cdv A outer s H vs Q E hr h => ⟨rd__law_random K sp__law_hash, PSs.nox (
    have nd := sc__law_random.nd
    let N := N__law_random
    let scope := defScope s__law_random
    (pss_cons (ps_if (mt_cmp op_gtM (me_ix (mv 0) me_int (fun _ _ => rfl)) me_int (by rfl)) (pss_cons (ps_set (i := 2) nd rfl (by first | exact Or.inl rfl | exact Or.inr rfl) (pe_op op_modM (pe_callTy call_intM (by rfl) T.f_int (by decide +kernel) (pa_cons (me_ix (mv 0) me_int (fun _ _ => rfl)) pa_nil)) (mv 1)))
  (pss_cons (ps_asg (pe_op op_divM (me_ix (mv 0) me_int (fun _ _ => rfl)) (mv 1)) (pg_sub (mv 0) me_int set_listM))
  (pss_one (ps_ret (mv 2))))) pss_nil)
  (pss_cons (ps_set (i := 2) nd rfl (by first | exact Or.inl rfl | exact Or.inr rfl) me_int)
  (pss_cons (ms_for PassesOwn.never rfl (pi_rng1M (by rfl) T.f_range (pe_op op_addM me_int (pe_op op_divM (me_bits (mv 1)) me_int))) (pg_name (i := 3) nd rfl (by first | exact Or.inl rfl | exact Or.inr rfl)) (pss_cons (ps_asg (pe_op op_addM (me_ix (mv 0) me_int (fun _ _ => rfl)) me_int) (pg_sub (mv 0) me_int set_listM))
  (pss_one (ps_set (i := 2) nd rfl (by first | exact Or.inl rfl | exact Or.inr rfl) (pe_op op_addM (pe_op op_mulM (mv 2) me_int) (me_callG C__law_hash (hr.mono l__law_hash) (by rfl) pass0 (pa_cons (me_ix (mv 0) me_int (fun _ _ => rfl)) (pa_cons (me_ix (mv 0) me_int (fun _ _ => rfl)) pa_nil))))))))
  (pss_one (ps_ret (pe_op op_modM (pe_callTy call_intM (by rfl) T.f_int (by decide +kernel) (pa_cons (mv 2) pa_nil)) (mv 1)))))))), pu vs H Q E h⟩
abbrev s__law_two_right : Stmt := top 23
theorem sc__law_two_right : FnScope N__law_two_right ["_law_one", "_law_other"] (defScope s__law_two_right) := ⟨rfl, rfl, rfl, by decide +kernel, rfl, by decide +kernel, by decide +kernel⟩
theorem ok__law_two_right {k : Nat} {sp : Sp} {sp_shared : Sp} {k_shared : Nat} {p_shared : List Str} {sp_joined : Sp} {k_joined : Nat} {p_joined : List Str} {sp_size : Sp} {k_size : Nat} {p_size : List Str} {sp_hung : Sp} {k_hung : Nat} {p_hung : List Str} {sp_grown : Sp} {k_grown : Nat} {p_grown : List Str} (F : FunD K "_law_two_right" "_law_two_right" (defArgs s__law_two_right) (defBody s__law_two_right) (defScope s__law_two_right) [] [] f fd) (T : Tx K mg) (C_shared : CalG P w K mg base CX0 "shared" k_shared p_shared [] sp_shared) (C_joined : CalG P w K mg base CX0 "joined" k_joined p_joined [] sp_joined) (C_size : CalG P w K mg base CX0 "size" k_size p_size [] sp_size) (C_hung : CalG P w K mg base CX0 "hung" k_hung p_hung [] sp_hung) (C_grown : CalG P w K mg base CX0 "grown" k_grown p_grown [] sp_grown) (l_shared : k_shared ≤ k) (l_joined : k_joined ≤ k) (l_size : k_size ≤ k) (l_hung : k_hung ≤ k) (l_grown : k_grown ≤ k)
    (len : ∀ vs H Q E, sp vs H Q E → vs.length = 2) (pu : ∀ vs H Q E, sp vs H Q E → rd__law_two_right K sp_shared sp_joined sp_size sp_hung sp_grown { nx := fun _ H' => Q .non H', rt := Q } (start N__law_two_right vs) H) :
    FnG P w K mg base CX0 (k + 1) f fd ["_law_one", "_law_other"] sp :=
  okG F sc__law_two_right len fun cdv A outer s H vs Q E hr h => ⟨rd__law_two_right K sp_shared sp_joined sp_size sp_hung sp_grown, PSs.nox (
    have nd := sc__law_two_right.nd
    let N := N__law_two_right
    let scope := defScope s__law_two_right
    (pss_cons (ms_par (i := 2) (j := 3) rfl nd rfl rfl (by decide) rfl rfl (pa_cons (me_callG C_joined (hr.mono l_joined) (by rfl) pass0 (pa_cons (mv 0) (pa_cons (mv 1) pa_nil))) (pa_cons (me_callG C_shared (hr.mono l_shared) (by rfl) pass0 (pa_cons (mv 0) (pa_cons (mv 1) pa_nil))) pa_nil)) (by rfl))
  (pss_cons (ps_if (PW.pt (pw_or (mt_cmp (op_neM hr.units) (me_callG C_joined (hr.mono l_joined) (by rfl) pass0 (pa_cons (mv 1) (pa_cons (mv 0) pa_nil))) (mv 2) (by rfl)) (pw_or1 (mt_cmp (op_neM hr.units) (me_callG C_shared (hr.mono l_shared) (by rfl) pass0 (pa_cons (mv 1) (pa_cons (mv 0) pa_nil))) (mv 3) (by rfl))))) (pss_one (ps_ret me_bl)) pss_nil)
  (pss_cons (ps_if (PW.pt (pw_or (mt_cmp (op_neM hr.units) (me_callG C_joined (hr.mono l_joined) (by rfl) pass0 (pa_cons (mv 0) (pa_cons (mv 3) pa_nil))) (mv 0) (by rfl)) (pw_or1 (mt_cmp (op_neM hr.units) (me_callG C_shared (hr.mono l_shared) (by rfl) pass0 (pa_cons (mv 0) (pa_cons (mv 2) pa_nil))) (mv 0) (by rfl))))) (pss_one (ps_ret me_bl)) pss_nil)
  (pss_cons (ps_if (mt_cmp (op_neM hr.units) (pe_op op_addM (me_callG C_size (hr.mono l_size) (by rfl) pass0 (pa_cons (mv 2) pa_nil)) (me_callG C_size (hr.mono l_size) (by rfl) pass0 (pa_cons (mv 3) pa_nil))) (pe_op op_addM (me_callG C_size (hr.mono l_size) (by rfl) pass0 (pa_cons (mv 0) pa_nil)) (me_callG C_size (hr.mono l_size) (by rfl) pass0 (pa_cons (mv 1) pa_nil))) (by rfl)) (pss_one (ps_ret me_bl)) pss_nil)
  (pss_cons (ps_if (PW.pt (pw_or (mt_cmp (op_neM hr.units) (pe_cmpR op_notM (me_callG C_hung (hr.mono l_hung) (by rfl) pass0 (pa_cons (mv 0) (pa_cons (mv 1) pa_nil))) me_non (by rfl)) (pe_cmpR (op_eqM hr.units) (mv 2) (mv 0) (by rfl)) (by rfl)) (pw_or1 (mt_cmp (op_neM hr.units) (pe_cmpR op_notM (me_callG C_hung (hr.mono l_hung) (by rfl) pass0 (pa_cons (mv 0) (pa_cons (mv 1) pa_nil))) me_non (by rfl)) (pe_cmpR (op_eqM hr.units) (mv 3) (mv 1) (by rfl)) (by rfl))))) (pss_one (ps_ret me_bl)) pss_nil)
  (pss_cons (ms_for PassesOwn.never rfl (pi_iterM (pe_lst (pa_cons (mv 0) (pa_cons (mv 1) pa_nil)))) (pg_name (i := 4) nd rfl (by first | exact Or.inl rfl | exact Or.inr rfl)) (pss_one (ps_if (PW.pt (pw_or (mt_cmp (op_neM hr.units) (me_callG C_grown (hr.mono l_grown) (by rfl) pass0 (pa_cons (mv 3) (pa_cons (me_callG C_hung (hr.mono l_hung) (by rfl) pass0 (pa_cons (mv 4) (pa_cons (mv 3) pa_nil))) pa_nil))) (mv 4) (by rfl)) (pw_or1 (mt_cmp (op_neM hr.units) (me_callG C_grown (hr.mono l_grown) (by rfl) pass0 (pa_cons (mv 4) (pa_cons (me_callG C_hung (hr.mono l_hung) (by rfl) pass0 (pa_cons (mv 2) (pa_cons (mv 4) pa_nil))) pa_nil))) (mv 2) (by rfl))))) (pss_one (ps_ret me_bl)) pss_nil)))
  (pss_one (ps_ret (me_and (pe_cmpR (op_eqM hr.units) (me_callG C_joined (hr.mono l_joined) (by rfl) pass0 (pa_cons (mv 0) (pa_cons (mv 0) pa_nil))) (mv 0) (by rfl)) (me_and (pe_cmpR (op_eqM hr.units) (me_callG C_shared (hr.mono l_shared) (by rfl) pass0 (pa_cons (mv 0) (pa_cons (me_str [46] (by rfl)) pa_nil))) (me_str [46] (by rfl)) (by rfl)) (pe_one (pe_cmpR (op_eqM hr.units) (me_callG C_joined (hr.mono l_joined) (by rfl) pass0 (pa_cons (mv 0) (pa_cons (me_str [46] (by rfl)) pa_nil))) (mv 0) (by rfl)))))))))))))), pu vs H Q E h⟩
abbrev s_law : Stmt := top 24
theorem sc_law : FnScope N_law ["_law_script"] (defScope s_law) := ⟨rfl, rfl, rfl, by decide +kernel, rfl, by decide +kernel, by decide +kernel⟩
theorem ok_law {k : Nat} {sp : Sp} {sp__law_generator : Sp} {k__law_generator : Nat} {p__law_generator : List Str} {sp__law_tree : Sp} {k__law_tree : Nat} {p__law_tree : List Str} {sp__law_random : Sp} {k__law_random : Nat} {p__law_random : List Str} {sp_grown : Sp} {k_grown : Nat} {p_grown : List Str} {sp__law_trees : Sp} {k__law_trees : Nat} {p__law_trees : List Str} {sp__law_two_right : Sp} {k__law_two_right : Nat} {p__law_two_right : List Str} {sp_joined : Sp} {k_joined : Nat} {p_joined : List Str} {sp_shared : Sp} {k_shared : Nat} {p_shared : List Str} (F : FunD K "law" "law" (defArgs s_law) (defBody s_law) (defScope s_law) [] [] f fd) (T : Tx K mg) (C__law_generator : CalG P w K mg base CX0 "_law_generator" k__law_generator p__law_generator [] sp__law_generator) (C__law_tree : CalG P w K mg base CX0 "_law_tree" k__law_tree p__law_tree [] sp__law_tree) (C__law_random : CalG P w K mg base CX0 "_law_random" k__law_random p__law_random [] sp__law_random) (C_grown : CalG P w K mg base CX0 "grown" k_grown p_grown [] sp_grown) (C__law_trees : CalG P w K mg base CX0 "_law_trees" k__law_trees p__law_trees [] sp__law_trees) (C__law_two_right : CalG P w K mg base CX0 "_law_two_right" k__law_two_right p__law_two_right [] sp__law_two_right) (C_joined : CalG P w K mg base CX0 "joined" k_joined p_joined [] sp_joined) (C_shared : CalG P w K mg base CX0 "shared" k_shared p_shared [] sp_shared) (l__law_generator : k__law_generator ≤ k) (l__law_tree : k__law_tree ≤ k) (l__law_random : k__law_random ≤ k) (l_grown : k_grown ≤ k) (l__law_trees : k__law_trees ≤ k) (l__law_two_right : k__law_two_right ≤ k) (l_joined : k_joined ≤ k) (l_shared : k_shared ≤ k)
    (len : ∀ vs H Q E, sp vs H Q E → vs.length = 1) (pu : ∀ vs H Q E, sp vs H Q E → rd_law K sp__law_generator sp__law_tree sp__law_random sp_grown sp__law_trees sp__law_two_right sp_joined sp_shared { nx := fun _ H' => Q .non H', rt := Q } (start N_law vs) H) :
    FnG P w K mg base CX0 (k + 1) f fd ["_law_script"] sp :=
  okG F sc_law len fun cdv A outer s H vs Q E hr h => ⟨rd_law K sp__law_generator sp__law_tree sp__law_random sp_grown sp__law_trees sp__law_two_right sp_joined sp_shared, PSs.nox (
    have nd := sc_law.nd
    let N := N_law
    let scope := defScope s_law
    (pss_cons (ms_for PassesOwn.never rfl (pi_rng1M (by rfl) T.f_range me_int) (pg_name (i := 1) nd rfl (by first | exact Or.inl rfl | exact Or.inr rfl)) (pss_cons (ps_set (i := 2) nd rfl (by first | exact Or.inl rfl | exact Or.inr rfl) (me_callG C__law_generator (hr.mono l__law_generator) (by rfl) pass0 (pa_cons (mv 0) (pa_cons (mv 1) pa_nil))))
  (pss_cons (ps_set (i := 3) nd rfl (by first | exact Or.inl rfl | exact Or.inr rfl) (me_lc (own := [("_law_turn", 7)]) rfl nd (pi_rng1M (by rfl) T.f_range me_int) (blkOk_by (own := [("_law_turn", 7)]) (N := N) (sc := scope) (by decide +kernel)) (fun _ _ _ _ _ => (pg_name (i := 7) nd rfl (by first | exact Or.inl rfl | exact Or.inr rfl))) (fun _ _ _ _ _ => pts_nil) (fun _ _ _ _ _ => (me_callG C__law_tree (hr.mono l__law_tree) (by rfl) pass0 (pa_cons (mv 2) (pa_cons (me_callG C__law_random (hr.mono l__law_random) (by rfl) pass0 (pa_cons (mv 2) (pa_cons me_int pa_nil))) pa_nil))))))
  (pss_cons (ps_if (mt_cmp (op_eqM hr.units) (me_callG C__law_random (hr.mono l__law_random) (by rfl) pass0 (pa_cons (mv 2) (pa_cons me_int pa_nil))) me_int (by rfl)) (pss_one (ps_asg (me_callG C_grown (hr.mono l_grown) (by rfl) pass0 (pa_cons (me_ix (mv 3) me_int (fun _ _ => rfl)) (pa_cons (me_callG C__law_trees (hr.mono l__law_trees) (by rfl) pass0 (pa_cons (mv 2) (pa_cons (me_count (me_ix (mv 3) me_int (fun _ _ => rfl)) (me_str [46] (by rfl))) pa_nil))) pa_nil))) (pg_sub (mv 3) me_int set_listM))) pss_nil)
  (pss_cons (ps_asg (mv 3) (mg_seq rfl (mgs_cons (pg_name (i := 4) nd rfl (by first | exact Or.inl rfl | exact Or.inr rfl)) (mgs_cons (pg_name (i := 5) nd rfl (by first | exact Or.inl rfl | exact Or.inr rfl)) (mgs_cons (pg_name (i := 6) nd rfl (by first | exact Or.inl rfl | exact Or.inr rfl)) mgs_nil)))))
  (pss_cons (ps_if (mt_cmp (op_neM hr.units) (me_lc (own := [("_law_one", 8)]) rfl nd (pi_iterM (mv 3)) (blkOk_by (own := [("_law_one", 8)]) (N := N) (sc := scope) (by decide +kernel)) (fun _ _ _ _ _ => (pg_name (i := 8) nd rfl (by first | exact Or.inl rfl | exact Or.inr rfl))) (fun _ _ _ _ _ => (pts_one (mt_cmp (op_neM hr.units) (me_lc (own := [("_law_other", 9)]) rfl nd (pi_iterM (mv 3)) (blkOk_by (own := [("_law_other", 9)]) (N := N) (sc := { kind := .function, names := [(".0", .local), ("_law_one", .cell), ("_law_trees_here", .cell)], isGenerator := false, isCoroutine := false, more := [] }) (by decide +kernel)) (fun _ _ _ _ _ => (pg_name (i := 9) nd rfl (by first | exact Or.inl rfl | exact Or.inr rfl))) (fun _ _ _ _ _ => (pts_one (pt_not (mt_val (me_callG C__law_two_right (hr.mono l__law_two_right) (by rfl) pass0 (pa_cons (mv 8) (pa_cons (mv 9) pa_nil))))))) (fun _ _ _ _ _ => (mv 9))) (pe_lst pa_nil) (by rfl)))) (fun _ _ _ _ _ => (mv 8))) (pe_lst pa_nil) (by rfl)) (pss_one (ps_ret me_bl)) pss_nil)
  (pss_cons (ps_if (mt_cmp (op_neM hr.units) (me_callG C_joined (hr.mono l_joined) (by rfl) pass0 (pa_cons (me_callG C_joined (hr.mono l_joined) (by rfl) pass0 (pa_cons (mv 4) (pa_cons (mv 5) pa_nil))) (pa_cons (mv 6) pa_nil))) (me_callG C_joined (hr.mono l_joined) (by rfl) pass0 (pa_cons (mv 4) (pa_cons (me_callG C_joined (hr.mono l_joined) (by rfl) pass0 (pa_cons (mv 5) (pa_cons (mv 6) pa_nil))) pa_nil))) (by rfl)) (pss_one (ps_ret me_bl)) pss_nil)
  (pss_cons (ps_if (mt_cmp (op_neM hr.units) (me_callG C_shared (hr.mono l_shared) (by rfl) pass0 (pa_cons (me_callG C_shared (hr.mono l_shared) (by rfl) pass0 (pa_cons (mv 4) (pa_cons (mv 5) pa_nil))) (pa_cons (mv 6) pa_nil))) (me_callG C_shared (hr.mono l_shared) (by rfl) pass0 (pa_cons (mv 4) (pa_cons (me_callG C_shared (hr.mono l_shared) (by rfl) pass0 (pa_cons (mv 5) (pa_cons (mv 6) pa_nil))) pa_nil))) (by rfl)) (pss_one (ps_ret me_bl)) pss_nil)
  (pss_one (ps_if (mt_cmp (op_neM hr.units) (me_callG C_joined (hr.mono l_joined) (by rfl) pass0 (pa_cons (mv 4) (pa_cons (me_callG C_shared (hr.mono l_shared) (by rfl) pass0 (pa_cons (mv 5) (pa_cons (mv 6) pa_nil))) pa_nil))) (me_callG C_shared (hr.mono l_shared) (by rfl) pass0 (pa_cons (me_callG C_joined (hr.mono l_joined) (by rfl) pass0 (pa_cons (mv 4) (pa_cons (mv 5) pa_nil))) (pa_cons (me_callG C_joined (hr.mono l_joined) (by rfl) pass0 (pa_cons (mv 4) (pa_cons (mv 6) pa_nil))) pa_nil))) (by rfl)) (pss_one (ps_ret me_bl)) pss_nil))))))))))
  (pss_one (ps_ret me_bl)))), pu vs H Q E h⟩
end
end Pf
namespace Pf
open PySem PySem.Spec PyProof.Rows L2 M
local macro_rules | `(tactic| walk_at "go") => `(tactic| try simp only [tSeq, tIfS, tIf, tNot, mTest, tCB, tCons, tNil, mVar, M.gt, mC, Bool.not_true, Bool.not_false, Bool.false_eq_true, if_false, if_true, tNext, tAsg, gName, gSub, List.set_cons_zero, List.set_cons_succ, mFor, mIter, S_cps, S_len, S_app, tOp, tSl, mPart, mUn, tNoPart, tRet, tRetN, tTup, tLst, tAnd, tOr, mAndV, mOrV, mNotV, tCall, tCallSD, tDrop, mPar, mPar3, mLstM, mStrM, mBits, mRng1, mRng2, mgTup, mgCons, mgNil, q_add1, q_add2, q_add3, q_add4, q_iadd1, q_iadd2, q_sub, q_mul1, q_mul2, q_mod, q_div, q_pow, q_eq1, q_eq2, q_eq3, q_eq4, q_eq5, q_eq6, q_eq7, q_eq8, q_eq9, q_eq10, q_ne1, q_ne2, q_ne3, q_ne9, q_ne10, q_lt, q_le, q_gt, q_ge, q_inc1, q_ix1, q_ix2, q_sl1, q_sl2, q_set, q_len1, q_len2, q_int1, q_int2, q_max, q_min, q_abs, q_sum, q_list, q_isi1, q_is1, q_not1, q_isN1, q_isN2, q_isN3, q_isN4, q_join, q_count, q_app, q_pop, q_clear, q_isiE, q_repr, wipe, List.map_cons, List.map_nil, List.length_cons, List.length_nil, List.length_append, List.length_map, List.nil_append, List.cons_append, List.append_nil, cut_m3, cut_t3, cut_m1, cut_t1, cut_t2, S_eq, decide_eq_true_eq, Bool.not_eq_true', decide_eq_false_iff_not, ne_eq])
def sp__law_cell (K : PySem.W.Frag) : Sp := fun vs H Q _ => ∃ (a : Addr) (ns : List Int) (i : Nat), vs = [.ref a, .int i] ∧ SqL K H a (ns.map V.int) ∧ ∀ r : Int, Q (.int r) H
theorem pu__law_cell (K : PySem.W.Frag) (vs : List V) (H : Hp) (Q : VK) (E : XK) (h : sp__law_cell K vs H Q E) : rd__law_cell K { nx := fun _ H' => Q .non H', rt := Q } (L2.start N__law_cell vs) H := by
  obtain ⟨a, ns, i, rfl, hL, k⟩ := h
  show rd__law_cell K _ [some _, some _] H
  unfold rd__law_cell
  walk_at "go"
  refine ⟨_, .inl hL, ?_⟩
  by_cases c : (i : Int) < ((ns.map V.int).length : Int)
  · rw [if_pos c]
    have hc : i < ns.length := by simpa using c
    refine ⟨_, .int ns[i], .inl hL, ?_, k _⟩
    rw [aI_nat]; simp [hc]
  · rw [if_neg c]; exact k 0
def sp__law_hash : Sp := fun vs H Q _ => ∃ i j : Int, vs = [.int i, .int j] ∧ 0 ≤ i ∧ i < 2 ^ 40 ∧ 0 ≤ j ∧ j < 2 ^ 200 ∧ ∀ r : Int, 0 ≤ r → r < 2147483587 → Q (.int r) H
theorem pu__law_hash (K : PySem.W.Frag) (vs : List V) (H : Hp) (Q : VK) (E : XK) (h : sp__law_hash vs H Q E) : rd__law_hash K { nx := fun _ H' => Q .non H', rt := Q } (L2.start N__law_hash vs) H := by
  obtain ⟨i, j, rfl, h1, h2, h3, h4, k⟩ := h
  show rd__law_hash K _ [some _, some _, none] H
  unfold rd__law_hash
  walk_at "go"
  have m1 : ∀ x : Int, 0 ≤ x % 2147483647 ∧ x % 2147483647 < 2 ^ 31 := fun x => ⟨Int.emod_nonneg _ (by decide), Int.lt_of_lt_of_le (Int.emod_lt_of_pos _ (by decide)) (by decide)⟩
  have m2 : ∀ x : Int, 0 ≤ x % 2147483629 ∧ x % 2147483629 < 2 ^ 31 := fun x => ⟨Int.emod_nonneg _ (by decide), Int.lt_of_lt_of_le (Int.emod_lt_of_pos _ (by decide)) (by decide)⟩
  refine ⟨mulOk 40 31 h1 h2 (by decide) (by decide), mulOk 20 200 (by decide) (by decide) h3 h4, ?_, by decide, mulOk 31 31 (m1 _).1 (m1 _).2 (m1 _).1 (m1 _).2, by decide, mulOk 31 31 (m2 _).1 (m2 _).2 (by decide) (by decide), by decide, k _ (Int.emod_nonneg _ (by decide)) (Int.emod_lt_of_pos _ (by decide))⟩
  refine mulOk 220 200 (Int.mul_nonneg (by decide) h3) ?_ h3 h4
  calc 7919 * j ≤ 7919 * 2 ^ 200 := Int.mul_le_mul_of_nonneg_left (Int.le_of_lt h4) (by decide)
    _ < 2 ^ 220 := by decide
def sp__law_generator (K : PySem.W.Frag) : Sp := fun vs H Q _ => ∃ (a : Addr) (ns : List Int) (i : Nat), vs = [.ref a, .int i] ∧ SqL K H a (ns.map V.int) ∧ i ≤ 1000 ∧ ∀ p o, H p = none → Pu (upd H p o) p 2000000 → Q (.ref p) (upd H p o)
theorem pu__law_generator (K : PySem.W.Frag) (vs : List V) (H : Hp) (Q : VK) (E : XK) (h : sp__law_generator K vs H Q E) : rd__law_generator K (sp__law_cell K) { nx := fun _ H' => Q .non H', rt := Q } (L2.start N__law_generator vs) H := by
  obtain ⟨a, ns, i, rfl, hL, hi, k⟩ := h
  show rd__law_generator K _ _ [some _, some _, none] H
  unfold rd__law_generator
  walk_at "go"
  refine ⟨a, ns, i, rfl, hL, fun r => ?_⟩
  walk_at "go"
  refine ⟨by decide, by decide +kernel, by decide +kernel, by decide, by decide, ?_, by decide, fun p hp => k p _ hp ⟨_, _, _, upd_same, ?_⟩⟩
  · exact mulOk 20 20 (by decide) (by decide) (by omega) (by omega)
  · have e : (((10 : Int) ^ (60 : Int).toNat) ^ (10 : Int).toNat) = 10 ^ 600 := by decide +kernel
    rw [e]
    have e2 : (10 : Int) ^ 600 < 2 ^ 2000 := by decide +kernel
    refine ⟨Int.emod_nonneg _ (by decide +kernel), Int.lt_trans (Int.emod_lt_of_pos _ (by decide +kernel)) e2, Int.emod_nonneg _ (by decide), Int.lt_of_lt_of_le (Int.emod_lt_of_pos _ (by decide)) (by decide), by omega, by omega⟩
def sp__law_random : Sp := fun vs H Q _ => ∃ (g : Addr) (n : Nat) (m : Int), vs = [.ref g, .int m] ∧ 0 < m ∧ m < 2 ^ 200 ∧ n < 2 ^ 100 ∧ Pu H g n ∧ ∀ H' r, Fm [g] H H' → Pu H' g (n + 10) → 0 ≤ r → r < m → Q (.int r) H'
theorem pu__law_random (K : PySem.W.Frag) (vs : List V) (H : Hp) (Q : VK) (E : XK) (h : sp__law_random vs H Q E) : rd__law_random K sp__law_hash { nx := fun _ H' => Q .non H', rt := Q } (L2.start N__law_random vs) H := by
  obtain ⟨g, n, m, rfl, m0, m1, hn, ⟨a, b, c, hg, a0, a1, b0, b1, c0, c1⟩, k⟩ := h
  show rd__law_random K _ _ [some _, some _, none, none] H
  unfold rd__law_random
  walk_at "go"
  refine ⟨_, _, .inl (SqL.of hg), aI_0 _ _, ?_⟩
  walk_at "go"
  by_cases ca : 0 < a
  · rw [if_pos ca]
    refine ⟨_, _, .inl (SqL.of hg), aI_0 _ _, ?_⟩
    walk_at "go"
    refine ⟨m0, _, _, .inl (SqL.of hg), aI_0 _ _, ?_⟩
    walk_at "go"
    refine ⟨divOk 200 m0 m1, _, 0, hg, rfl, ?_⟩
    refine k _ _ (Fm.mut (by simp)) ⟨_, b, c, upd_same, ?_⟩ (Int.emod_nonneg _ (by omega)) (Int.emod_lt_of_pos _ m0)
    refine ⟨Int.ediv_nonneg a0 (by omega), Int.lt_of_le_of_lt (Int.ediv_le_self _ a0) a1, b0, b1, c0, by omega⟩
  · rw [if_neg ca]
    walk_at "go"
    have hb := bits_le (Int.le_of_lt m0) m1
    have hd : ((Builtin.Int.intBits m : Int) / 30) ≤ 6 := by omega
    have hd0 : 0 ≤ ((Builtin.Int.intBits m : Int) / 30) := by omega
    refine ⟨divOk 10 (by decide) (by decide), ⟨by omega, by omega⟩, ?_⟩
    refine (?lp : ∀ (r : List V) (w : Int) (v : Option V) (j : Nat) (c : Int) (H1 : Hp), Fm [g] H H1 → H1 g = some (.lst [.int a, .int b, .int c]) → 0 ≤ c → c < n + j → 0 ≤ w → w < 2 ^ (40 * j + 1) → r.length + j ≤ 7 → fV _ _ _ _ r [some _, some _, some (.int w), v] H1) _ 0 none 0 c H (Fm.refl _ _) hg c0 (by omega) (by decide) (by decide) (by simp [upto]; omega)
    intro r
    induction r with
    | nil =>
      intro w v j c H1 e h1 c0 c1 w0 w1 hl
      simp only [fV]
      walk_at "go"
      refine ⟨trivial, m0, k _ _ e ⟨a, b, c, h1, a0, a1, b0, b1, c0, ?_⟩ (Int.emod_nonneg _ (by omega)) (Int.emod_lt_of_pos _ m0)⟩
      simp only [List.length_nil] at hl; omega
    | cons x r ih =>
      intro w v j c H1 e h1 c0 c1 w0 w1 hl
      simp only [fV]
      walk_at "go"
      refine ⟨trivial, _, _, .inl (SqL.of h1), aI_2 _ _ _ _, ?_⟩
      walk_at "go"
      refine ⟨_, 2, h1, rfl, ?_⟩
      simp only [List.set_cons_zero, List.set_cons_succ]
      refine ⟨?_, _, _, .inl (SqL.of upd_same), aI_1 _ _ _, _, _, .inl (SqL.of upd_same), aI_2 _ _ _ _, ?_⟩
      · refine mulOk 400 40 w0 (Int.lt_of_lt_of_le w1 ?_) (by decide) (by decide)
        exact_mod_cast Nat.pow_le_pow_right (by decide) (by simp only [List.length_cons] at hl; omega)
      · refine ⟨b, c + 1, rfl, b0, Int.lt_of_lt_of_le b1 (by decide), by omega, ?_, fun z z0 z1 => ?_⟩
        · have : (n : Int) < 2 ^ 100 := by exact_mod_cast hn
          simp only [List.length_cons] at hl
          calc c + 1 ≤ (2 : Int) ^ 100 + 8 := by omega
            _ < 2 ^ 200 := by decide
        · walk_at "go"
          refine ih _ _ (j + 1) (c + 1) _ (e.trans (Fm.mut (by simp))) upd_same (by omega) (by omega) ?_ ?_ (by simp only [List.length_cons] at hl; omega)
          · exact Int.add_nonneg (Int.mul_nonneg w0 (by decide)) z0
          · have e1 : (2 : Int) ^ (40 * (j + 1) + 1) = 2 ^ (40 * j + 1) * 2 ^ 40 := by
              rw [show 40 * (j + 1) + 1 = (40 * j + 1) + 40 by omega, Int.pow_add]
            have w2 : w + 1 ≤ 2 ^ (40 * j + 1) := w1
            calc w * 2147483587 + z < w * 2147483587 + 2147483587 := by omega
              _ = (w + 1) * 2147483587 := by rw [Int.add_mul]; omega
              _ ≤ 2 ^ (40 * j + 1) * 2147483587 := Int.mul_le_mul_of_nonneg_right w2 (by decide)
              _ ≤ 2 ^ (40 * j + 1) * 2 ^ 40 := Int.mul_le_mul_of_nonneg_left (by decide) (by omega)
              _ = _ := e1.symm
end Pf

namespace Pf
open PySem PySem.Spec PyProof.Rows L2 M
local macro_rules | `(tactic| walk_at "go") => `(tactic| try simp only [tSeq, tIfS, tIf, tNot, mTest, tCB, tCons, tNil, mVar, M.gt, mC, Bool.not_true, Bool.not_false, Bool.false_eq_true, if_false, if_true, tNext, tAsg, gName, gSub, List.set_cons_zero, List.set_cons_succ, mFor, mIter, S_cps, S_len, S_app, tOp, tSl, mPart, mUn, tNoPart, tRet, tRetN, tTup, tLst, tAnd, tOr, mAndV, mOrV, mNotV, tCall, tCallSD, tDrop, mPar, mPar3, mLstM, mStrM, mBits, mRng1, mRng2, mgTup, mgCons, mgNil, q_add1, q_add2, q_add3, q_add4, q_iadd1, q_iadd2, q_sub, q_mul1, q_mul2, q_mod, q_div, q_pow, q_eq1, q_eq2, q_eq3, q_eq4, q_eq5, q_eq6, q_eq7, q_eq8, q_eq9, q_eq10, q_ne1, q_ne2, q_ne3, q_ne9, q_ne10, q_lt, q_le, q_gt, q_ge, q_inc1, q_ix1, q_ix2, q_sl1, q_sl2, q_set, q_len1, q_len2, q_int1, q_int2, q_max, q_min, q_abs, q_sum, q_list, q_isi1, q_is1, q_not1, q_isN1, q_isN2, q_isN3, q_isN4, q_join, q_count, q_app, q_pop, q_clear, q_isiE, q_repr, wipe, List.map_cons, List.map_nil, List.length_cons, List.length_nil, List.length_append, List.length_map, List.nil_append, List.cons_append, List.append_nil, cut_m3, cut_t3, cut_m1, cut_t1, cut_t2, S_eq, decide_eq_true_eq, Bool.not_eq_true', decide_eq_false_iff_not, ne_eq])
def sp__law_tree (N : Nat) : Sp := fun vs H Q _ => ∃ (g : Addr) (n m : Nat), vs = [.ref g, .int m] ∧ m < N ∧ m ≤ 2000 ∧ n + 20 * m < 2 ^ 90 ∧ Pu H g n ∧ ∀ H' (t : Tr), t.n = m → Fm [g] H H' → Pu H' g (n + 20 * m) → Q (.str (S t.s)) H'
theorem pu__law_tree (K : PySem.W.Frag) (N : Nat) (vs : List V) (H : Hp) (Q : VK) (E : XK) (h : sp__law_tree (N + 1) vs H Q E) : rd__law_tree K sp__law_random (sp__law_tree N) { nx := fun _ H' => Q .non H', rt := Q } (L2.start N__law_tree vs) H := by
  obtain ⟨g, n, m, rfl, mN, mm, hn, hp, k⟩ := h
  show rd__law_tree K _ _ _ [some _, some _, none] H
  unfold rd__law_tree
  walk_at "go"
  by_cases c : (m : Int) = 0
  · rw [if_pos c]
    walk_at "go"
    exact k H .lf (by show 0 = m; omega) (Fm.refl _ _) (hp.mono (by omega))
  · rw [if_neg c]
    walk_at "go"
    refine ⟨g, n, (m : Int), rfl, by omega, ?_, by omega, hp, fun H1 r e1 p1 r0 r1 => ?_⟩
    · have : (m : Int) ≤ 2000 := by exact_mod_cast mm
      exact Int.lt_of_le_of_lt this (by decide)
    walk_at "go"
    refine ⟨divOk 10 (by decide) (by decide), ?_⟩
    refine ⟨by rw [szl]; omega, fun p hp1 => ⟨g, n + 10, 4, rfl, by decide, by decide, by omega, p1.fm (Ex.new hp1), fun H2 j e2 p2 j0 j1 => ?_⟩⟩
    have hgp : p ≠ g := fun z => by
      obtain ⟨_, _, _, z1, _⟩ := p1
      rw [z, z1] at hp1; cases hp1
    have h2 := e2 p _ (by simpa using hgp) (upd_same (H := H1))
    have e3 : Fm [g] H H2 := e1.trans ((Fm.new hp1).trans e2)
    obtain ⟨j, rfl⟩ := Int.eq_ofNat_of_zero_le j0
    have hj : j < 4 := by omega
    obtain ⟨q, hq, hqm⟩ : ∃ q : Nat, atI [V.int 0, V.int ((m : Int) - 1), V.int r, V.int ((m : Int) / 2)] (j : Int) = some (.int q) ∧ q < m := by
      rcases j with _ | _ | _ | _ | j
      · exact ⟨0, rfl, by omega⟩
      · exact ⟨m - 1, by rw [aI_nat]; show some (V.int _) = _; congr 2; omega, by omega⟩
      · exact ⟨r.toNat, by rw [aI_nat]; show some (V.int _) = _; congr 2; omega, by omega⟩
      · exact ⟨m / 2, by rw [aI_nat]; show some (V.int _) = _; congr 2, by omega⟩
      · omega
    walk_at "go"
    refine ⟨_, _, .inl (SqL.of h2), hq, ?_⟩
    refine ⟨g, n + 10 + 10, q, rfl, by omega, by omega, by omega, p2, fun H3 t1 ht1 e4 p3 => ?_⟩
    walk_at "go"
    have hs1 := t1.s_len
    refine ⟨by rw [szl]; omega, ?_⟩
    refine ⟨g, n + 10 + 10 + 20 * q, m - 1 - q, by congr 3; omega, by omega, by omega, by omega, p3, fun H4 t2 ht2 e5 p4 => ?_⟩
    have hs2 := t2.s_len
    walk_at "go"
    refine ⟨by rw [szl]; omega, by rw [szl]; omega, ?_⟩
    have := k H4 (.nd t1 t2) (by show t1.n + t2.n + 1 = m; omega) (e3.trans (e4.trans e5)) (p4.mono (by omega))
    simpa only [Tr.s, List.append_assoc, List.cons_append, List.nil_append] using this
end Pf

namespace Pf
open PySem PySem.Spec PyProof.Rows L2 M
local macro_rules | `(tactic| walk_at "go") => `(tactic| try simp only [tSeq, tIfS, tIf, tNot, mTest, tCB, tCons, tNil, mVar, M.gt, mC, Bool.not_true, Bool.not_false, Bool.false_eq_true, if_false, if_true, tNext, tAsg, gName, gSub, List.set_cons_zero, List.set_cons_succ, mFor, mIter, S_cps, S_len, S_app, tOp, tSl, mPart, mUn, tNoPart, tRet, tRetN, tTup, tLst, tAnd, tOr, mAndV, mOrV, mNotV, tCall, tCallSD, tDrop, mPar, mPar3, mLstM, mStrM, mBits, mRng1, mRng2, mgTup, mgCons, mgNil, q_add1, q_add2, q_add3, q_add4, q_iadd1, q_iadd2, q_sub, q_mul1, q_mul2, q_mod, q_div, q_pow, q_eq1, q_eq2, q_eq3, q_eq4, q_eq5, q_eq6, q_eq7, q_eq8, q_eq9, q_eq10, q_ne1, q_ne2, q_ne3, q_ne9, q_ne10, q_lt, q_le, q_gt, q_ge, q_inc1, q_ix1, q_ix2, q_sl1, q_sl2, q_set, q_len1, q_len2, q_int1, q_int2, q_max, q_min, q_abs, q_sum, q_list, q_isi1, q_is1, q_not1, q_isN1, q_isN2, q_isN3, q_isN4, q_join, q_count, q_app, q_pop, q_clear, q_isiE, q_repr, wipe, List.map_cons, List.map_nil, List.length_cons, List.length_nil, List.length_append, List.length_map, List.nil_append, List.cons_append, List.append_nil, cut_m3, cut_t3, cut_m1, cut_t1, cut_t2, S_eq, decide_eq_true_eq, Bool.not_eq_true', decide_eq_false_iff_not, ne_eq])
/-- a value that is no text -/
inductive Oth (K : PySem.W.Frag) (H : Hp) : V → Prop
  | non : Oth K H .non
  | int (i : Int) : Oth K H (.int i)
  | bl (b : Bool) : Oth K H (.bl b)
  | lst {a : Addr} {xs : List V} : SqL K H a xs → Oth K H (.ref a)
  | tup {a : Addr} {xs : List V} : SqT K H a xs → Oth K H (.ref a)
  | dct {a : Addr} {kvs : List (Key × V)} : H a = some (.dK kvs) → Oth K H (.ref a)
theorem Oth.ex {K : PySem.W.Frag} {H H' : Hp} (e : Ex H H') {v : V} (h : Oth K H v) : Oth K H' v := by
  cases h with
  | non => exact .non
  | int i => exact .int i
  | bl b => exact .bl b
  | lst h => exact .lst (e.L h)
  | tup h => exact .tup (e.T h)
  | dct h => exact .dct (e _ _ h)
theorem Oth.isi {K : PySem.W.Frag} {H : Hp} {v : V} {Q : VK} (h : Oth K H v) (q : Q (.bl false) H) : mIsi K [v, .ty "str"] H Q := by
  cases h with
  | non => unfold mIsi; simp only [tyN, kb16]; exact q
  | int i => unfold mIsi; simp only [tyN, kb6]; exact q
  | bl b => unfold mIsi; simp only [tyN, kb11]; exact q
  | lst h => exact ⟨_, _, tyX_list h, ki_list.1, q⟩
  | tup h => exact ⟨_, _, tyX_tup h, ki_tup.1, q⟩
  | dct h => exact ⟨_, _, .base (.dK h), ki_dict.1, q⟩
def TV (K : PySem.W.Frag) (H : Hp) (v : V) (b : Bool) : Prop := (∃ z, v = .str (S z) ∧ z.length ≤ 1000000 ∧ b = isTr z) ∨ (Oth K H v ∧ b = false)
theorem TV.ex {K : PySem.W.Frag} {H H' : Hp} (e : Ex H H') {v : V} {b : Bool} (h : TV K H v b) : TV K H' v b := h.imp id fun ⟨h1, h2⟩ => ⟨h1.ex e, h2⟩
def sp_is_tree (K : PySem.W.Frag) : Sp := fun vs H Q _ => ∃ v b, vs = [v] ∧ TV K H v b ∧ ∀ H', Ex H H' → Q (.bl b) H'
theorem pu_is_tree (K : PySem.W.Frag) (vs : List V) (H : Hp) (Q : VK) (E : XK) (h : sp_is_tree K vs H Q E) : rd_is_tree K { nx := fun _ H' => Q .non H', rt := Q } (L2.start N_is_tree vs) H := by
  obtain ⟨v, b, rfl, ⟨z, rfl, hz, rfl⟩ | ⟨ho, rfl⟩, k⟩ := h
  · show rd_is_tree K _ [some _, none, none] H
    unfold rd_is_tree
    walk_at "go"
    refine (?lp : ∀ (r w : List Nat) (v : Option V) (H1 : Hp), Ex H H1 → (isTr z = true ↔ itRun w r = some [46]) → w.length + r.length ≤ z.length → fV _ _ _ _ (List.map (fun c => V.str (S [c])) r) [some (V.str (S z)), some (V.str (S w)), v] H1) z [] none H (Ex.refl H) (by unfold isTr; exact decide_eq_true_iff) (by simp)
    intro r
    induction r with
    | nil =>
      intro w v H1 e hi hl
      simp only [List.map_nil, fV]
      walk_at "go"
      refine ⟨trivial, ?_⟩
      have e2 : isTr z = decide (w = [46]) := by
        rw [Bool.eq_iff_iff, hi, decide_eq_true_iff]
        simp [itRun]
      have := k H1 e
      rw [e2] at this
      exact this
    | cons c r ih =>
      intro w v H1 e hi hl
      simp only [List.length_cons] at hl
      simp only [List.map_cons, fV]
      walk_at "go"
      simp only [itRun] at hi
      refine ⟨trivial, ?_⟩
      by_cases c1 : [c] = [41]
      · rw [if_pos c1]
        simp only [List.cons.injEq, and_true] at c1
        subst c1
        refine ⟨by rw [szl]; omega, ?_⟩
        by_cases c2 : w.drop (w.length - 3) = [40, 46, 46]
        · have e1 : itStep w 41 = some (w.take (w.length - 3) ++ [46]) := by unfold itStep; rw [if_pos rfl, if_pos c2]
          rw [e1, Option.bind_some] at hi
          rw [if_neg (by simpa using c2)]
          walk_at "go"
          refine ⟨by rw [szl]; omega, by rw [szl, List.length_take]; omega, ?_⟩
          exact ih _ _ _ e hi (by rw [List.length_append, List.length_take, List.length_singleton]; omega)
        · have e1 : itStep w 41 = none := by unfold itStep; rw [if_pos rfl, if_neg c2]
          rw [e1] at hi
          rw [if_pos (by simpa using c2)]
          walk_at "go"
          have e2 : isTr z = false := by rw [Bool.eq_false_iff, Ne, hi]; simp
          have := k H1 e
          rw [e2] at this
          exact this
      · rw [if_neg c1]
        simp only [List.cons.injEq, and_true] at c1
        walk_at "go"
        unfold mInTT
        walk_at "go"
        refine ⟨rfl, rfl, by rw [szl]; omega, fun p hp => ?_⟩
        by_cases c2 : c = 40 ∨ c = 46
        · have e1 : itStep w c = some (w ++ [c]) := by unfold itStep; rw [if_neg c1, if_pos c2]
          rw [e1, Option.bind_some] at hi
          have e2 : inV (.str (S [c])) [.str (S [40]), .str (S [46])] = true := by
            simp only [inV_cons, inV_nil, eqV_SS, Bool.or_false, Bool.or_eq_true, decide_eq_true_eq, List.cons.injEq, and_true]
            rcases c2 with rfl | rfl <;> simp
          rw [e2]
          walk_at "go"
          refine ⟨by rw [szl]; omega, ?_⟩
          exact ih _ _ _ (e.push hp) hi (by rw [List.length_append, List.length_singleton]; omega)
        · have e1 : itStep w c = none := by unfold itStep; rw [if_neg c1, if_neg c2]
          rw [e1] at hi
          have e2 : inV (.str (S [c])) [.str (S [40]), .str (S [46])] = false := by
            simp only [inV_cons, inV_nil, eqV_SS, Bool.or_false, Bool.or_eq_false_iff, decide_eq_false_iff_not, List.cons.injEq, and_true]
            exact ⟨fun z => c2 (.inl z.symm), fun z => c2 (.inr z.symm)⟩
          rw [e2]
          walk_at "go"
          have e3 : isTr z = false := by rw [Bool.eq_false_iff, Ne, hi]; simp
          rw [e3] at k
          exact k _ (e.push hp)
  · show rd_is_tree K _ [some _, none, none] H
    unfold rd_is_tree
    walk_at "go"
    refine ho.isi ?_
    walk_at "go"
    exact k H (Ex.refl H)
end Pf

namespace Pf
open PySem PySem.Spec PyProof.Rows L2 M
local macro_rules | `(tactic| walk_at "go") => `(tactic| try simp only [tSeq, tIfS, tIf, tNot, mTest, tCB, tCons, tNil, mVar, M.gt, mC, Bool.not_true, Bool.not_false, Bool.false_eq_true, if_false, if_true, tNext, tAsg, gName, gSub, List.set_cons_zero, List.set_cons_succ, mFor, mIter, S_cps, S_len, S_app, tOp, tSl, mPart, mUn, tNoPart, tRet, tRetN, tTup, tLst, tAnd, tOr, mAndV, mOrV, mNotV, tCall, tCallSD, tDrop, mPar, mPar3, mLstM, mStrM, mBits, mRng1, mRng2, mgTup, mgCons, mgNil, q_add1, q_add2, q_add3, q_add4, q_iadd1, q_iadd2, q_sub, q_mul1, q_mul2, q_mod, q_div, q_pow, q_eq1, q_eq2, q_eq3, q_eq4, q_eq5, q_eq6, q_eq7, q_eq8, q_eq9, q_eq10, q_ne1, q_ne2, q_ne3, q_ne9, q_ne10, q_lt, q_le, q_gt, q_ge, q_inc1, q_ix1, q_ix2, q_sl1, q_sl2, q_set, q_len1, q_len2, q_int1, q_int2, q_max, q_min, q_abs, q_sum, q_list, q_isi1, q_is1, q_not1, q_isN1, q_isN2, q_isN3, q_isN4, q_join, q_count, q_app, q_pop, q_clear, q_isiE, q_repr, wipe, List.map_cons, List.map_nil, List.length_cons, List.length_nil, List.length_append, List.length_map, List.nil_append, List.cons_append, List.append_nil, cut_m3, cut_t3, cut_m1, cut_t1, cut_t2, S_eq, decide_eq_true_eq, Bool.not_eq_true', decide_eq_false_iff_not, ne_eq])
def sp_check_tree (K : PySem.W.Frag) (a_InvalidTree : Addr) : Sp := fun vs H Q E => ∃ v b, vs = [v] ∧ TV K H v b ∧ (b = true → ∀ H', Ex H H' → Q .non H') ∧ (b = false → ∀ H' d, Ex H H' → H d = none → H' d = some (.xd [("value", v)]) → E (.ref a_InvalidTree) (some d) H')
theorem pu_check_tree (K : PySem.W.Frag) (a : Addr) (vs : List V) (H : Hp) (Q : VK) (E : XK) (h : sp_check_tree K a vs H Q E) : rd_check_tree K (sp_is_tree K) a E { nx := fun _ H' => Q .non H', rt := Q } (L2.start N_check_tree vs) H := by
  obtain ⟨v, b, rfl, tv, k1, k2⟩ := h
  show rd_check_tree K _ _ _ _ [some _] H
  unfold rd_check_tree
  walk_at "go"
  refine ⟨v, b, rfl, tv, fun H1 e => ?_⟩
  cases b with
  | true =>
    walk_at "go"
    exact k1 rfl H1 e
  | false =>
    walk_at "go"
    unfold mRaise mMk
    walk_at "go"
    exact fun d hd => k2 rfl _ d (e.push hd) (e.free hd) upd_same
end Pf

namespace Pf
open PySem PySem.Spec PyProof.Rows L2 M
local macro_rules | `(tactic| walk_at "go") => `(tactic| try simp only [tSeq, tIfS, tIf, tNot, mTest, tCB, tCons, tNil, mVar, M.gt, mC, Bool.not_true, Bool.not_false, Bool.false_eq_true, if_false, if_true, tNext, tAsg, gName, gSub, List.set_cons_zero, List.set_cons_succ, mFor, mIter, S_cps, S_len, S_app, tOp, tSl, mPart, mUn, tNoPart, tRet, tRetN, tTup, tLst, tAnd, tOr, mAndV, mOrV, mNotV, tCall, tCallSD, tDrop, mPar, mPar3, mLstM, mStrM, mBits, mRng1, mRng2, mgTup, mgSeq, mgCons, mgNil, q_add1, q_add2, q_add3, q_add4, q_iadd1, q_iadd2, q_sub, q_mul1, q_mul2, q_mod, q_div, q_pow, q_eq1, q_eq2, q_eq3, q_eq4, q_eq5, q_eq6, q_eq7, q_eq8, q_eq9, q_eq10, q_ne1, q_ne2, q_ne3, q_ne9, q_ne10, q_lt, q_le, q_gt, q_ge, q_inc1, q_ix1, q_ix2, q_sl1, q_sl2, q_set, q_len1, q_len2, q_int1, q_int2, q_max, q_min, q_abs, q_sum, q_list, q_isi1, q_is1, q_not1, q_isN1, q_isN2, q_isN3, q_isN4, q_join, q_count, q_split, q_app, q_pop, q_clear, q_isiE, q_repr, wipe, List.map_cons, List.map_nil, List.length_cons, List.length_nil, List.length_append, List.length_map, List.nil_append, List.cons_append, List.append_nil, cut_m3, cut_t3, cut_m1, cut_t1, cut_t2, S_eq, decide_eq_true_eq, Bool.not_eq_true', decide_eq_false_iff_not, ne_eq])
def sp_end_of : Sp := fun vs H Q _ => ∃ (z : List Nat) (i : Nat) (t : Tr) (rest : List Nat), vs = [.str (S z), .int i] ∧ z.drop i = t.s ++ rest ∧ z.length ≤ 1000000 ∧ Q (.int ((i + t.s.length : Nat) : Int)) H
theorem drop_get {z r : List Nat} {i c : Nat} (h : z.drop i = c :: r) : z[i]? = some c ∧ z.drop (i + 1) = r := by
  constructor
  · have := congrArg (fun l => l[0]?) h
    simpa [List.getElem?_drop] using this
  · rw [← List.drop_drop, h]; rfl
theorem lp_end_of (K : PySem.W.Frag) (D : Ends) (H : Hp) (z : List Nat) (hz : z.length ≤ 1000000) (x : Option V) : ∀ (t : Tr) (rest : List Nat) (i d n : Nat), z.drop i = t.s ++ rest → 0 < d →
    whW (mTest (mC (.bl true))) (rd_end_of_b1 K) D n [some (.str (S z)), x, some (.int ((i + t.s.length : Nat) : Int)), some (.int d)] H →
    whW (mTest (mC (.bl true))) (rd_end_of_b1 K) D (n + t.s.length) [some (.str (S z)), x, some (.int i), some (.int d)] H := by
  intro t
  induction t with
  | lf =>
    intro rest i d n hd h0 k
    obtain ⟨hg, hr⟩ := drop_get hd
    show whW _ _ _ (n + 1) _ _
    simp only [whW]
    walk_at "go"
    refine ⟨by rw [szl]; omega, 46, by rw [aI_nat]; exact hg, ?_⟩
    walk_at "go"
    rw [if_neg (by decide)]
    refine ⟨by rw [szl]; omega, 46, by rw [aI_nat]; exact hg, ?_⟩
    walk_at "go"
    rw [if_neg (by decide)]
    walk_at "go"
    rw [if_neg (by omega)]
    walk_at "go"
    exact k
  | nd a b iha ihb =>
    intro rest i d n hd h0 k
    simp only [Tr.s, List.cons_append, List.append_assoc] at hd
    obtain ⟨hg, hr⟩ := drop_get hd
    have hr2 : z.drop (i + 1 + a.s.length) = b.s ++ ([41] ++ rest) := by
      rw [← List.drop_drop, hr]; simp
    have hr3 : z.drop (i + 1 + a.s.length + b.s.length) = 41 :: rest := by
      rw [← List.drop_drop, hr2]; simp
    obtain ⟨hg3, _⟩ := drop_get hr3
    have e : n + (Tr.nd a b).s.length = (n + 1 + b.s.length + a.s.length) + 1 := by simp [Tr.s]; omega
    rw [e]
    simp only [whW]
    walk_at "go"
    refine ⟨by rw [szl]; omega, 40, by rw [aI_nat]; exact hg, ?_⟩
    walk_at "go"
    rw [if_neg (by omega)]
    walk_at "go"
    refine iha _ (i + 1) (d + 1) _ hr (by omega) ?_
    refine ihb _ (i + 1 + a.s.length) (d + 1) _ hr2 (by omega) ?_
    simp only [whW]
    walk_at "go"
    refine ⟨by rw [szl]; omega, 41, by rw [aI_nat]; exact hg3, ?_⟩
    walk_at "go"
    rw [if_neg (by decide)]
    refine ⟨by rw [szl]; omega, 41, by rw [aI_nat]; exact hg3, ?_⟩
    walk_at "go"
    rw [if_neg (by omega)]
    have e1 : ((d + 1 : Nat) : Int) - 1 = (d : Int) := by omega
    have e2 : ((i + 1 + a.s.length + b.s.length : Nat) : Int) + 1 = ((i + (Tr.nd a b).s.length : Nat) : Int) := by simp [Tr.s]; omega
    rw [e1, e2]
    exact k
theorem pu_end_of (K : PySem.W.Frag) (vs : List V) (H : Hp) (Q : VK) (E : XK) (h : sp_end_of vs H Q E) : rd_end_of K { nx := fun _ H' => Q .non H', rt := Q } (L2.start N_end_of vs) H := by
  obtain ⟨z, i, t, rest, rfl, hd, hz, k⟩ := h
  show rd_end_of K _ [some _, some _, none, none] H
  unfold rd_end_of
  walk_at "go"
  cases t with
  | lf =>
    obtain ⟨hg, hr⟩ := drop_get hd
    refine ⟨1, ?_⟩
    simp only [whW]
    walk_at "go"
    refine ⟨by rw [szl]; omega, 46, by rw [aI_nat]; exact hg, ?_⟩
    walk_at "go"
    rw [if_neg (by decide)]
    refine ⟨by rw [szl]; omega, 46, by rw [aI_nat]; exact hg, ?_⟩
    walk_at "go"
    rw [if_neg (by decide)]
    walk_at "go"
    exact k
  | nd a b =>
    simp only [Tr.s, List.cons_append, List.append_assoc] at hd
    obtain ⟨hg, hr⟩ := drop_get hd
    have hr2 : z.drop (i + 1 + a.s.length) = b.s ++ ([41] ++ rest) := by
      rw [← List.drop_drop, hr]; simp
    have hr3 : z.drop (i + 1 + a.s.length + b.s.length) = 41 :: rest := by
      rw [← List.drop_drop, hr2]; simp
    obtain ⟨hg3, _⟩ := drop_get hr3
    refine ⟨(0 + 1 + b.s.length + a.s.length) + 1, ?_⟩
    simp only [whW]
    walk_at "go"
    refine ⟨by rw [szl]; omega, 40, by rw [aI_nat]; exact hg, ?_⟩
    walk_at "go"
    rw [if_neg (by decide)]
    refine lp_end_of K _ H z hz _ a _ (i + 1) 1 _ hr (by omega) ?_
    refine lp_end_of K _ H z hz _ b _ (i + 1 + a.s.length) 1 _ hr2 (by omega) ?_
    simp only [whW]
    walk_at "go"
    refine ⟨by rw [szl]; omega, 41, by rw [aI_nat]; exact hg3, ?_⟩
    walk_at "go"
    rw [if_neg (by decide)]
    refine ⟨by rw [szl]; omega, 41, by rw [aI_nat]; exact hg3, ?_⟩
    walk_at "go"
    have e2 : ((i + 1 + a.s.length + b.s.length : Nat) : Int) + 1 = ((i + (Tr.nd a b).s.length : Nat) : Int) := by simp [Tr.s]; omega
    rw [e2]
    exact k
end Pf

namespace Pf
open PySem PySem.Spec PyProof.Rows L2 M
local macro_rules | `(tactic| walk_at "go") => `(tactic| try simp only [tSeq, tIfS, tIf, tNot, mTest, tCB, tCons, tNil, mVar, M.gt, mC, Bool.not_true, Bool.not_false, Bool.false_eq_true, if_false, if_true, tNext, tAsg, gName, gSub, List.set_cons_zero, List.set_cons_succ, mFor, mIter, S_cps, S_len, S_app, tOp, tSl, mPart, mUn, tNoPart, tRet, tRetN, tTup, tLst, tAnd, tOr, mAndV, mOrV, mNotV, tCall, tCallSD, tDrop, mPar, mPar3, mLstM, mStrM, mBits, mRng1, mRng2, mgTup, mgSeq, mgCons, mgNil, q_add1, q_add2, q_add3, q_add4, q_iadd1, q_iadd2, q_sub, q_mul1, q_mul2, q_mod, q_div, q_pow, q_eq1, q_eq2, q_eq3, q_eq4, q_eq5, q_eq6, q_eq7, q_eq8, q_eq9, q_eq10, q_ne1, q_ne2, q_ne3, q_ne9, q_ne10, q_lt, q_le, q_gt, q_ge, q_inc1, q_ix1, q_ix2, q_sl1, q_sl2, q_set, q_len1, q_len2, q_int1, q_int2, q_max, q_min, q_abs, q_sum, q_list, q_isi1, q_is1, q_not1, q_isN1, q_isN2, q_isN3, q_isN4, q_join, q_count, q_split, q_app, q_pop, q_clear, q_isiE, q_repr, wipe, List.map_cons, List.map_nil, List.length_cons, List.length_nil, List.length_append, List.length_map, List.nil_append, List.cons_append, List.append_nil, cut_m3, cut_t3, cut_m1, cut_t1, cut_t2, S_eq, decide_eq_true_eq, Bool.not_eq_true', decide_eq_false_iff_not, ne_eq])
theorem cut_at {z r m : List Nat} {i : Nat} (h : z.drop i = m ++ r) : cutL z (some (i : Int)) (some ((i + m.length : Nat) : Int)) = m := by
  rw [cut_mid, h, Nat.add_sub_cancel_left]; simp
theorem drop_app {z r m : List Nat} {i : Nat} (h : z.drop i = m ++ r) : z.drop (i + m.length) = r := by
  rw [← List.drop_drop, h]; simp
theorem drop_lt {z r m : List Nat} {i : Nat} (h : z.drop i = m ++ r) (hm : m ≠ []) : i + m.length ≤ z.length := by
  have := congrArg List.length h
  rw [List.length_drop, List.length_append] at this
  have : 0 < m.length := List.length_pos_iff.mpr hm
  omega
theorem s_ne (t : Tr) : t.s ≠ [] := by cases t <;> simp [Tr.s]
theorem lp_joined (K : PySem.W.Frag) (D : Ends) (H : Hp) (z y : List Nat) (hz : z.length ≤ 1000000) (hy : y.length ≤ 1000000) : ∀ (t u : Tr) (r1 r2 F : List Nat) (i j : Nat) (v5 : Option V), z.drop i = t.s ++ r1 → y.drop j = u.s ++ r2 → F.length ≤ i + j →
    (∀ v5', ∃ n, whW (mTest (tOp mLt (mVar 3) (tCB (mLen K) (tCons (mVar 0) tNil)))) (rd_joined_trees_b1 K sp_end_of) D n [some (.str (S z)), some (.str (S y)), some (.str (S (F ++ (Tr.join t u).s))), some (.int ((i + t.s.length : Nat) : Int)), some (.int ((j + u.s.length : Nat) : Int)), v5'] H) →
    ∃ n, whW (mTest (tOp mLt (mVar 3) (tCB (mLen K) (tCons (mVar 0) tNil)))) (rd_joined_trees_b1 K sp_end_of) D n [some (.str (S z)), some (.str (S y)), some (.str (S F)), some (.int i), some (.int j), v5] H := by
  intro t
  induction t with
  | lf =>
    intro u r1 r2 F i j v5 h1 h2 hF k
    obtain ⟨hg, _⟩ := drop_get h1
    have l1 := drop_lt h1 (s_ne _)
    have l2 := drop_lt h2 (s_ne _)
    obtain ⟨n, k⟩ := k (some (.int ((j + u.s.length : Nat) : Int)))
    refine ⟨n + 1, ?_⟩
    simp only [whW]
    walk_at "go"
    simp only [Tr.s, List.length_singleton] at l1
    refine ⟨by rw [szl]; omega, ?_⟩
    rw [if_pos (by omega)]
    refine ⟨by rw [szl]; omega, 46, by rw [aI_nat]; exact hg, ?_⟩
    walk_at "go"
    refine ⟨y, j, u, r2, rfl, h2, hy, ?_⟩
    walk_at "go"
    refine ⟨by rw [szl]; omega, ?_⟩
    rw [cut_at h2]
    refine ⟨by rw [szl]; omega, ?_⟩
    exact k
  | nd a b iha ihb =>
    intro u r1 r2 F i j v5 h1 h2 hF k
    have l1 := drop_lt h1 (s_ne _)
    have l2 := drop_lt h2 (s_ne _)
    cases u with
    | lf =>
      have h1' := h1
      simp only [Tr.s, List.cons_append, List.append_assoc] at h1'
      obtain ⟨hg, _⟩ := drop_get h1'
      obtain ⟨hg2, _⟩ := drop_get h2
      obtain ⟨n, k⟩ := k (some (.int ((i + (Tr.nd a b).s.length : Nat) : Int)))
      have ls := (Tr.nd a b).s_len
      refine ⟨n + 1, ?_⟩
      simp only [whW]
      walk_at "go"
      refine ⟨by rw [szl]; omega, ?_⟩
      rw [if_pos (by omega)]
      refine ⟨by rw [szl]; omega, 40, by rw [aI_nat]; exact hg, ?_⟩
      walk_at "go"
      rw [if_neg (by decide)]
      refine ⟨by rw [szl]; omega, 46, by rw [aI_nat]; exact hg2, ?_⟩
      walk_at "go"
      refine ⟨z, i, .nd a b, r1, rfl, h1, hz, ?_⟩
      walk_at "go"
      refine ⟨by rw [szl]; omega, ?_⟩
      rw [cut_at h1]
      refine ⟨by rw [szl]; omega, ?_⟩
      exact k
    | nd c d =>
      have h1' := h1
      have h2' := h2
      simp only [Tr.s, List.cons_append, List.append_assoc] at h1' h2'
      obtain ⟨hg, ha⟩ := drop_get h1'
      obtain ⟨hg2, hc⟩ := drop_get h2'
      have hb := drop_app ha
      have hd := drop_app hc
      have he1 := drop_app hb
      have he2 := drop_app hd
      obtain ⟨hg3, _⟩ := drop_get he1
      obtain ⟨hg4, _⟩ := drop_get he2
      have x1 : (Tr.nd a b).s.length = a.s.length + b.s.length + 2 := by simp [Tr.s]; omega
      have x2 : (Tr.nd c d).s.length = c.s.length + d.s.length + 2 := by simp [Tr.s]; omega
      have y1 := (Tr.join a c).s_len
      have y2 := (Tr.join b d).s_len
      have y3 := Tr.join_n_le a c
      have y4 := Tr.join_n_le b d
      have y5 := a.s_len
      have y6 := b.s_len
      have y7 := c.s_len
      have y8 := d.s_len
      suffices hs : ∃ n, whW (mTest (tOp mLt (mVar 3) (tCB (mLen K) (tCons (mVar 0) tNil)))) (rd_joined_trees_b1 K sp_end_of) D n [some (.str (S z)), some (.str (S y)), some (.str (S (F ++ [40]))), some (.int ((i + 1 : Nat) : Int)), some (.int ((j + 1 : Nat) : Int)), v5] H by
        obtain ⟨n, k⟩ := hs
        refine ⟨n + 1, ?_⟩
        simp only [whW]
        walk_at "go"
        refine ⟨by rw [szl]; omega, ?_⟩
        rw [if_pos (by omega)]
        refine ⟨by rw [szl]; omega, 40, by rw [aI_nat]; exact hg, ?_⟩
        walk_at "go"
        rw [if_neg (by decide)]
        refine ⟨by rw [szl]; omega, 40, by rw [aI_nat]; exact hg2, ?_⟩
        walk_at "go"
        rw [if_neg (by decide)]
        refine ⟨by rw [szl]; omega, 40, by rw [aI_nat]; exact hg, ?_⟩
        walk_at "go"
        exact ⟨by rw [szl]; omega, k⟩
      refine iha c _ _ (F ++ [40]) (i + 1) (j + 1) v5 ha hc (by rw [List.length_append, List.length_singleton]; omega) fun v6 => ?_
      refine ihb d _ _ _ (i + 1 + a.s.length) (j + 1 + c.s.length) v6 hb hd (by simp only [List.length_append, List.length_singleton]; omega) fun v7 => ?_
      obtain ⟨n, k⟩ := k v7
      refine ⟨n + 1, ?_⟩
      simp only [whW]
      walk_at "go"
      refine ⟨by rw [szl]; omega, ?_⟩
      rw [if_pos (by omega)]
      refine ⟨by rw [szl]; omega, 41, by rw [aI_nat]; exact hg3, ?_⟩
      walk_at "go"
      rw [if_neg (by decide)]
      refine ⟨by rw [szl]; omega, 41, by rw [aI_nat]; exact hg4, ?_⟩
      walk_at "go"
      rw [if_neg (by decide)]
      refine ⟨by rw [szl]; omega, 41, by rw [aI_nat]; exact hg3, ?_⟩
      walk_at "go"
      refine ⟨by rw [szl]; try simp only [List.length_append, List.length_singleton]
                 omega, ?_⟩
      have e1 : F ++ [40] ++ (Tr.join a c).s ++ (Tr.join b d).s ++ [41] = F ++ (Tr.join (.nd a b) (.nd c d)).s := by simp [Tr.join, Tr.s]
      have e2 : ((i + 1 + a.s.length + b.s.length : Nat) : Int) + 1 = ((i + (Tr.nd a b).s.length : Nat) : Int) := by omega
      have e3 : ((j + 1 + c.s.length + d.s.length : Nat) : Int) + 1 = ((j + (Tr.nd c d).s.length : Nat) : Int) := by omega
      rw [e1, e2, e3]
      exact k
def sp_joined_trees : Sp := fun vs H Q _ => ∃ t u : Tr, vs = [.str (S t.s), .str (S u.s)] ∧ t.n ≤ 100000 ∧ u.n ≤ 100000 ∧ Q (.str (S (Tr.join t u).s)) H
theorem pu_joined_trees (K : PySem.W.Frag) (vs : List V) (H : Hp) (Q : VK) (E : XK) (h : sp_joined_trees vs H Q E) : rd_joined_trees K sp_end_of { nx := fun _ H' => Q .non H', rt := Q } (L2.start N_joined_trees vs) H := by
  obtain ⟨t, u, rfl, ht, hu, k⟩ := h
  show rd_joined_trees K _ _ [some _, some _, none, none, none, none] H
  unfold rd_joined_trees
  walk_at "go"
  have l1 := t.s_len
  have l2 := u.s_len
  unfold mWhile
  refine lp_joined K _ H t.s u.s (by omega) (by omega) t u [] [] [] 0 0 none (by simp) (by simp) (by simp) fun v => ⟨1, ?_⟩
  simp only [whW]
  walk_at "go"
  refine ⟨by rw [szl]; omega, ?_⟩
  rw [if_neg (by omega)]
  exact k
def sp_joined (K : PySem.W.Frag) : Sp := fun vs H Q _ => ∃ t u : Tr, vs = [.str (S t.s), .str (S u.s)] ∧ t.n ≤ 100000 ∧ u.n ≤ 100000 ∧ ∀ H', Ex H H' → Q (.str (S (Tr.join t u).s)) H'
theorem tv_tree (K : PySem.W.Frag) (H : Hp) (t : Tr) (h : t.n ≤ 100000) : TV K H (.str (S t.s)) true := .inl ⟨t.s, rfl, by rw [t.s_len]; omega, (isTr_s t).symm⟩
theorem pu_joined (K : PySem.W.Frag) (a : Addr) (vs : List V) (H : Hp) (Q : VK) (E : XK) (h : sp_joined K vs H Q E) : rd_joined K (sp_check_tree K a) sp_joined_trees { nx := fun _ H' => Q .non H', rt := Q } (L2.start N_joined vs) H := by
  obtain ⟨t, u, rfl, ht, hu, k⟩ := h
  show rd_joined K _ _ _ [some _, some _] H
  unfold rd_joined
  walk_at "go"
  refine ⟨_, true, rfl, tv_tree K H t ht, fun _ H1 e1 => ?_, fun z => by (cases z)⟩
  walk_at "go"
  refine ⟨_, true, rfl, tv_tree K H1 u hu, fun _ H2 e2 => ?_, fun z => by (cases z)⟩
  walk_at "go"
  exact ⟨t, u, rfl, ht, hu, k _ (e1.trans e2)⟩
end Pf

namespace Pf
open PySem PySem.Spec PyProof.Rows L2 M
local macro_rules | `(tactic| walk_at "go") => `(tactic| try simp only [tSeq, tIfS, tIf, tNot, mTest, tCB, tCons, tNil, mVar, M.gt, mC, Bool.not_true, Bool.not_false, Bool.false_eq_true, if_false, if_true, tNext, tAsg, gName, gSub, List.set_cons_zero, List.set_cons_succ, mFor, mIter, S_cps, S_len, S_app, tOp, tSl, mPart, mUn, tNoPart, tRet, tRetN, tTup, tLst, tAnd, tOr, mAndV, mOrV, mNotV, tCall, tCallSD, tDrop, mPar, mPar3, mLstM, mStrM, mBits, mRng1, mRng2, mgTup, mgSeq, mgCons, mgNil, q_add1, q_add2, q_add3, q_add4, q_iadd1, q_iadd2, q_sub, q_mul1, q_mul2, q_mod, q_div, q_pow, q_eq1, q_eq2, q_eq3, q_eq4, q_eq5, q_eq6, q_eq7, q_eq8, q_eq9, q_eq10, q_ne1, q_ne2, q_ne3, q_ne9, q_ne10, q_lt, q_le, q_gt, q_ge, q_inc1, q_ix1, q_ix2, q_sl1, q_sl2, q_set, q_len1, q_len2, q_int1, q_int2, q_max, q_min, q_abs, q_sum, q_list, q_isi1, q_is1, q_not1, q_isN1, q_isN2, q_isN3, q_isN4, q_join, q_count, q_split, q_app, q_pop, q_clear, q_isiE, q_repr, wipe, List.map_cons, List.map_nil, List.length_cons, List.length_nil, List.length_append, List.length_map, List.nil_append, List.cons_append, List.append_nil, cut_m3, cut_t3, cut_m1, cut_t1, cut_t2, S_eq, decide_eq_true_eq, Bool.not_eq_true', decide_eq_false_iff_not, ne_eq])
theorem lp_shared (K : PySem.W.Frag) (a : Addr) (D : Ends) (H0 : Hp) (p : Addr) (np : H0 p = none) (z y : List Nat) (hz : z.length ≤ 1000000) (hy : y.length ≤ 1000000) : ∀ (t u : Tr) (r1 r2 F : List Nat) (i j : Nat) (H : Hp), z.drop i = t.s ++ r1 → y.drop j = u.s ++ r2 → F.length ≤ i + j → Ex H0 H → H p = some (.lst (sg F)) →
    (∀ H', Ex H0 H' → H' p = some (.lst (sg (F ++ (Tr.meet t u).s))) → ∃ n, whW (mTest (tOp mLt (mVar 3) (tCB (mLen K) (tCons (mVar 0) tNil)))) (rd_shared_b1 K (sp_check_tree K a) sp_end_of) D n [some (.str (S z)), some (.str (S y)), some (.ref p), some (.int ((i + t.s.length : Nat) : Int)), some (.int ((j + u.s.length : Nat) : Int))] H') →
    ∃ n, whW (mTest (tOp mLt (mVar 3) (tCB (mLen K) (tCons (mVar 0) tNil)))) (rd_shared_b1 K (sp_check_tree K a) sp_end_of) D n [some (.str (S z)), some (.str (S y)), some (.ref p), some (.int i), some (.int j)] H := by
  intro t
  induction t with
  | lf =>
    intro u r1 r2 F i j H h1 h2 hF e hp k
    obtain ⟨hg, _⟩ := drop_get h1
    have l1 := drop_lt h1 (s_ne _)
    have l2 := drop_lt h2 (s_ne _)
    obtain ⟨n, k⟩ := k (upd H p (.lst (sg (F ++ [46])))) (e.mut np) upd_same
    refine ⟨n + 1, ?_⟩
    simp only [whW]
    walk_at "go"
    simp only [Tr.s, List.length_singleton] at l1
    refine ⟨by rw [szl]; omega, ?_⟩
    rw [if_pos (by omega)]
    refine ⟨by rw [szl]; omega, 46, by rw [aI_nat]; exact hg, ?_⟩
    walk_at "go"
    refine ⟨⟨_, hp⟩, _, hp, by rw [szl, sg_len]; omega, ?_⟩
    rw [show sg F ++ [V.str (S [46])] = sg (F ++ [46]) by rw [sg_app]; rfl]
    refine ⟨z, i, .lf, r1, rfl, h1, hz, ?_⟩
    refine ⟨y, j, u, r2, rfl, h2, hy, ?_⟩
    exact k
  | nd b c ihb ihc =>
    intro u r1 r2 F i j H h1 h2 hF e hp k
    have l1 := drop_lt h1 (s_ne _)
    have l2 := drop_lt h2 (s_ne _)
    have h1' := h1
    simp only [Tr.s, List.cons_append, List.append_assoc] at h1'
    obtain ⟨hg, hb⟩ := drop_get h1'
    cases u with
    | lf =>
      obtain ⟨hg2, _⟩ := drop_get h2
      obtain ⟨n, k⟩ := k (upd H p (.lst (sg (F ++ [46])))) (e.mut np) upd_same
      have ls := (Tr.nd b c).s_len
      refine ⟨n + 1, ?_⟩
      simp only [whW]
      walk_at "go"
      refine ⟨by rw [szl]; omega, ?_⟩
      rw [if_pos (by omega)]
      refine ⟨by rw [szl]; omega, 40, by rw [aI_nat]; exact hg, ?_⟩
      walk_at "go"
      rw [if_neg (by decide)]
      refine ⟨by rw [szl]; omega, 46, by rw [aI_nat]; exact hg2, ?_⟩
      walk_at "go"
      refine ⟨⟨_, hp⟩, _, hp, by rw [szl, sg_len]; omega, ?_⟩
      rw [show sg F ++ [V.str (S [46])] = sg (F ++ [46]) by rw [sg_app]; rfl]
      refine ⟨z, i, .nd b c, r1, rfl, h1, hz, ?_⟩
      refine ⟨y, j, .lf, r2, rfl, h2, hy, ?_⟩
      exact k
    | nd d f =>
      have h2' := h2
      simp only [Tr.s, List.cons_append, List.append_assoc] at h2'
      obtain ⟨hg2, hd⟩ := drop_get h2'
      have hc := drop_app hb
      have hf := drop_app hd
      have he1 := drop_app hc
      have he2 := drop_app hf
      obtain ⟨hg3, _⟩ := drop_get he1
      obtain ⟨hg4, _⟩ := drop_get he2
      have x1 : (Tr.nd b c).s.length = b.s.length + c.s.length + 2 := by simp [Tr.s]; omega
      have x2 : (Tr.nd d f).s.length = d.s.length + f.s.length + 2 := by simp [Tr.s]; omega
      have y1 := (Tr.meet b d).s_len
      have y2 := (Tr.meet c f).s_len
      have y3 := Tr.meet_n_le b d
      have y4 := Tr.meet_n_le c f
      have y5 := b.s_len
      have y6 := c.s_len
      have y7 := d.s_len
      have y8 := f.s_len
      suffices hs : ∃ n, whW (mTest (tOp mLt (mVar 3) (tCB (mLen K) (tCons (mVar 0) tNil)))) (rd_shared_b1 K (sp_check_tree K a) sp_end_of) D n [some (.str (S z)), some (.str (S y)), some (.ref p), some (.int ((i + 1 : Nat) : Int)), some (.int ((j + 1 : Nat) : Int))] (upd H p (.lst (sg (F ++ [40])))) by
        obtain ⟨n, k⟩ := hs
        refine ⟨n + 1, ?_⟩
        simp only [whW]
        walk_at "go"
        refine ⟨by rw [szl]; omega, ?_⟩
        rw [if_pos (by omega)]
        refine ⟨by rw [szl]; omega, 40, by rw [aI_nat]; exact hg, ?_⟩
        walk_at "go"
        rw [if_neg (by decide)]
        refine ⟨by rw [szl]; omega, 40, by rw [aI_nat]; exact hg2, ?_⟩
        walk_at "go"
        rw [if_neg (by decide)]
        refine ⟨⟨_, hp⟩, by rw [szl]; omega, 40, by rw [aI_nat]; exact hg, _, hp, by rw [szl, sg_len]; omega, ?_⟩
        rw [show sg F ++ [V.str (S [40])] = sg (F ++ [40]) by rw [sg_app]; rfl]
        exact k
      refine ihb d _ _ (F ++ [40]) (i + 1) (j + 1) _ hb hd (by rw [List.length_append, List.length_singleton]; omega) (e.mut np) upd_same fun H1 e1 hp1 => ?_
      refine ihc f _ _ _ (i + 1 + b.s.length) (j + 1 + d.s.length) H1 hc hf (by simp only [List.length_append, List.length_singleton]; omega) e1 hp1 fun H2 e2 hp2 => ?_
      have e5 : F ++ [40] ++ (Tr.meet b d).s ++ (Tr.meet c f).s ++ [41] = F ++ (Tr.meet (.nd b c) (.nd d f)).s := by simp [Tr.meet, Tr.s]
      obtain ⟨n, k⟩ := k (upd H2 p (.lst (sg (F ++ (Tr.meet (.nd b c) (.nd d f)).s)))) (e2.mut np) upd_same
      refine ⟨n + 1, ?_⟩
      simp only [whW]
      walk_at "go"
      refine ⟨by rw [szl]; omega, ?_⟩
      rw [if_pos (by omega)]
      refine ⟨by rw [szl]; omega, 41, by rw [aI_nat]; exact hg3, ?_⟩
      walk_at "go"
      rw [if_neg (by decide)]
      refine ⟨by rw [szl]; omega, 41, by rw [aI_nat]; exact hg4, ?_⟩
      walk_at "go"
      rw [if_neg (by decide)]
      refine ⟨⟨_, hp2⟩, by rw [szl]; omega, 41, by rw [aI_nat]; exact hg3, _, hp2, by rw [szl, sg_len]; simp only [List.length_append, List.length_singleton]; omega, ?_⟩
      rw [show sg (F ++ [40] ++ (Tr.meet b d).s ++ (Tr.meet c f).s) ++ [V.str (S [41])] = sg (F ++ (Tr.meet (.nd b c) (.nd d f)).s) by rw [← e5, sg_app (F ++ [40] ++ (Tr.meet b d).s ++ (Tr.meet c f).s)]; rfl]
      have e3 : ((i + 1 + b.s.length + c.s.length : Nat) : Int) + 1 = ((i + (Tr.nd b c).s.length : Nat) : Int) := by omega
      have e4 : ((j + 1 + d.s.length + f.s.length : Nat) : Int) + 1 = ((j + (Tr.nd d f).s.length : Nat) : Int) := by omega
      rw [e3, e4]
      exact k
def sp_shared (K : PySem.W.Frag) : Sp := fun vs H Q _ => ∃ t u : Tr, vs = [.str (S t.s), .str (S u.s)] ∧ t.n ≤ 100000 ∧ u.n ≤ 100000 ∧ ∀ H', Ex H H' → Q (.str (S (Tr.meet t u).s)) H'
theorem pu_shared (K : PySem.W.Frag) (a : Addr) (vs : List V) (H : Hp) (Q : VK) (E : XK) (h : sp_shared K vs H Q E) : rd_shared K (sp_check_tree K a) sp_end_of { nx := fun _ H' => Q .non H', rt := Q } (L2.start N_shared vs) H := by
  obtain ⟨t, u, rfl, ht, hu, k⟩ := h
  show rd_shared K _ _ _ [some _, some _, none, none, none] H
  unfold rd_shared
  walk_at "go"
  have l1 := t.s_len
  have l2 := u.s_len
  refine ⟨_, true, rfl, tv_tree K H t ht, fun _ H1 e1 => ?_, fun z => by (cases z)⟩
  walk_at "go"
  refine ⟨_, true, rfl, tv_tree K H1 u hu, fun _ H2 e2 => ?_, fun z => by (cases z)⟩
  walk_at "go"
  refine ⟨by rw [szl]; omega, fun p hp => ?_⟩
  walk_at "go"
  unfold mWhile
  refine lp_shared K a _ H2 p hp t.s u.s (by omega) (by omega) t u [] [] [] 0 0 _ (by simp) (by simp) (by simp) (Ex.new hp) upd_same fun H3 e3 hp3 => ⟨1, ?_⟩
  simp only [whW]
  walk_at "go"
  refine ⟨by rw [szl]; omega, ?_⟩
  rw [if_neg (by omega)]
  walk_at "go"
  have l3 := (Tr.meet t u).s_len
  have l4 := Tr.meet_n_le t u
  simp only [List.nil_append] at hp3
  refine ⟨(Tr.meet t u).s.map fun c => S [c], .inl (SqL.of (by rw [← sg_str]; exact hp3)), ?_, ?_⟩
  · rw [one_len]; simp only [List.length_map, Nat.mul_zero, Nat.add_zero]; omega
  rw [show Txt.join (S []) ((Tr.meet t u).s.map fun c => S [c]) = S (Tr.meet t u).s from join_signs _]
  exact k _ (e1.trans (e2.trans e3))
end Pf

namespace Pf
open PySem PySem.Spec PyProof.Rows L2 M
local macro_rules | `(tactic| walk_at "go") => `(tactic| try simp only [tSeq, tIfS, tIf, tNot, mTest, tCB, tCons, tNil, mVar, M.gt, mC, Bool.not_true, Bool.not_false, Bool.false_eq_true, if_false, if_true, tNext, tAsg, gName, gSub, List.set_cons_zero, List.set_cons_succ, mFor, mIter, S_cps, S_len, S_app, tOp, tSl, mPart, mUn, tNoPart, tRet, tRetN, tTup, tLst, tAnd, tOr, mAndV, mOrV, mNotV, tCall, tCallSD, tDrop, mPar, mPar3, mLstM, mStrM, mBits, mRng1, mRng2, mgTup, mgSeq, mgCons, mgNil, q_add1, q_add2, q_add3, q_add4, q_iadd1, q_iadd2, q_sub, q_mul1, q_mul2, q_mod, q_div, q_pow, q_eq1, q_eq2, q_eq3, q_eq4, q_eq5, q_eq6, q_eq7, q_eq8, q_eq9, q_eq10, q_ne1, q_ne2, q_ne3, q_ne9, q_ne10, q_lt, q_le, q_gt, q_ge, q_inc1, q_ix1, q_ix2, q_sl1, q_sl2, q_set, q_len1, q_len2, q_int1, q_int2, q_max, q_min, q_abs, q_sum, q_list, q_isi1, q_is1, q_not1, q_isN1, q_isN2, q_isN3, q_isN4, q_join, q_count, q_split, q_app, q_pop, q_clear, q_isiE, q_repr, wipe, List.map_cons, List.map_nil, List.length_cons, List.length_nil, List.length_append, List.length_map, List.nil_append, List.cons_append, List.append_nil, cut_m3, cut_t3, cut_m1, cut_t1, cut_t2, S_eq, decide_eq_true_eq, Bool.not_eq_true', decide_eq_false_iff_not, ne_eq])
def sp_size (K : PySem.W.Frag) : Sp := fun vs H Q _ => ∃ t : Tr, vs = [.str (S t.s)] ∧ t.n ≤ 100000 ∧ ∀ H', Ex H H' → Q (.int t.n) H'
theorem pu_size (K : PySem.W.Frag) (a : Addr) (vs : List V) (H : Hp) (Q : VK) (E : XK) (h : sp_size K vs H Q E) : rd_size K (sp_check_tree K a) { nx := fun _ H' => Q .non H', rt := Q } (L2.start N_size vs) H := by
  obtain ⟨t, rfl, ht, k⟩ := h
  show rd_size K _ _ [some _] H
  unfold rd_size
  walk_at "go"
  refine ⟨_, true, rfl, tv_tree K H t ht, fun _ H1 e1 => ?_, fun z => by (cases z)⟩
  walk_at "go"
  rw [count_S (by decide), Tr.cnt_op]
  exact k H1 e1
def trs (l : List Tr) : List V := l.map fun t => V.str (S t.s)
theorem trs_app (a b : List Tr) : trs (a ++ b) = trs a ++ trs b := by unfold trs; rw [List.map_append]
theorem trs_len (a : List Tr) : (trs a).length = a.length := by unfold trs; rw [List.length_map]
theorem lp_hung (K : PySem.W.Frag) (D : Ends) (H0 : Hp) (z : List Nat) (hz : z.length ≤ 1000000) (x : Option V) : ∀ (u t : Tr) (r1 : List Nat) (rest : List V) (L : List Tr) (p : Addr) (i : Nat) (v4 v5 : Option V) (H : Hp), z.drop i = t.s ++ r1 → Ex H0 H → H p = some (.lst (trs L)) → H0 p = none → L.length + u.n + 10 ≤ 1000000 → (Tr.le u t = false → ∀ H', Ex H0 H' → D.rt .non H') →
    (Tr.le u t = true → ∀ p' w4 w5 H', Ex H0 H' → H0 p' = none → H' p' = some (.lst (trs (L ++ Tr.hang u t))) → fV (fun _ => True) (gName 4) (rd_hung_on_b1 K sp_end_of) D rest [some (.str (S z)), x, some (.ref p'), some (.int ((i + t.s.length : Nat) : Int)), w4, w5] H') →
    fV (fun _ => True) (gName 4) (rd_hung_on_b1 K sp_end_of) D (u.s.map (fun c => V.str (S [c])) ++ rest) [some (.str (S z)), x, some (.ref p), some (.int i), v4, v5] H := by
  intro u
  induction u with
  | lf =>
    intro t r1 rest L p i v4 v5 H h1 e hp np hl kN k
    have l1 := drop_lt h1 (s_ne _)
    simp only [Tr.s, List.map_cons, List.map_nil, List.cons_append, List.nil_append, fV]
    refine ⟨trivial, ?_⟩
    walk_at "go"
    refine ⟨z, i, t, r1, rfl, h1, hz, ?_⟩
    walk_at "go"
    refine ⟨by rw [szl]; omega, ?_⟩
    rw [cut_at h1]
    refine ⟨by rw [szl]; omega, fun q hq => ?_⟩
    have d1 : p ≠ q := ne_of_none hp hq
    walk_at "go"
    refine ⟨_, _, by rw [upd_ne d1]; exact hp, upd_same, by rw [szl, trs_len, List.length_singleton]; omega, fun q2 hq2 => ?_⟩
    walk_at "go"
    refine k rfl q2 _ _ _ ((e.push hq).push hq2) ((e.push hq).free hq2) ?_
    rw [upd_same, trs_app]; rfl
  | nd a b iha ihb =>
    intro t r1 rest L p i v4 v5 H h1 e hp np hl kN k
    have l1 := drop_lt h1 (s_ne _)
    simp only [Tr.n] at hl
    simp only [Tr.s, List.map_cons, List.map_append, List.map_nil, List.cons_append, List.append_assoc, List.nil_append, fV]
    refine ⟨trivial, ?_⟩
    cases t with
    | lf =>
      obtain ⟨hg, _⟩ := drop_get h1
      walk_at "go"
      rw [if_neg (by decide)]
      refine ⟨by rw [szl]; omega, 46, by rw [aI_nat]; exact hg, ?_⟩
      walk_at "go"
      rw [if_neg (by decide)]
      walk_at "go"
      exact kN rfl H e
    | nd c d =>
      have h1' := h1
      simp only [Tr.s, List.cons_append, List.append_assoc] at h1'
      obtain ⟨hg, hc⟩ := drop_get h1'
      have hd := drop_app hc
      have he := drop_app hd
      obtain ⟨hg2, _⟩ := drop_get he
      walk_at "go"
      rw [if_neg (by decide)]
      refine ⟨by rw [szl]; omega, 40, by rw [aI_nat]; exact hg, ?_⟩
      walk_at "go"
      have ii : ((i : Int) + 1) = ((i + 1 : Nat) : Int) := by omega
      rw [ii]
      refine iha c _ _ L p (i + 1) _ _ H hc e hp np (by omega) (fun z => kN (by simp only [Tr.le, z, Bool.false_and])) fun la p1 w4 w5 H1 e1 np1 hp1 => ?_
      have lla := Tr.hang_len a c la
      refine ihb d _ _ _ p1 (i + 1 + c.s.length) _ _ H1 hd e1 hp1 np1 (by rw [List.length_append, lla]; omega) (fun z => kN (by simp only [Tr.le, z, Bool.and_false])) fun lb p2 w4 w5 H2 e2 np2 hp2 => ?_
      simp only [fV]
      refine ⟨trivial, ?_⟩
      have x1 : (Tr.nd c d).s.length = c.s.length + d.s.length + 2 := by simp [Tr.s]; omega
      walk_at "go"
      rw [if_neg (by decide)]
      refine ⟨by rw [szl]; omega, 41, by rw [aI_nat]; exact hg2, ?_⟩
      walk_at "go"
      have jj : ((i + 1 + c.s.length + d.s.length : Nat) : Int) + 1 = ((i + (Tr.nd c d).s.length : Nat) : Int) := by omega
      rw [jj]
      exact k (by simp only [Tr.le, la, lb, Bool.and_self]) p2 _ _ H2 e2 np2 (by simpa only [Tr.hang, List.append_assoc] using hp2)
def sp_hung_on : Sp := fun vs H Q _ => ∃ t u : Tr, vs = [.str (S t.s), .str (S u.s)] ∧ t.n ≤ 100000 ∧ u.n ≤ 100000 ∧ (Tr.le u t = false → ∀ H', Ex H H' → Q .non H') ∧ (Tr.le u t = true → ∀ H' p, Ex H H' → H p = none → H' p = some (.lst (trs (Tr.hang u t))) → Q (.ref p) H')
theorem pu_hung_on (K : PySem.W.Frag) (vs : List V) (H : Hp) (Q : VK) (E : XK) (h : sp_hung_on vs H Q E) : rd_hung_on K sp_end_of { nx := fun _ H' => Q .non H', rt := Q } (L2.start N_hung_on vs) H := by
  obtain ⟨t, u, rfl, ht, hu, k0, k1⟩ := h
  show rd_hung_on K _ _ [some _, some _, none, none, none, none] H
  unfold rd_hung_on
  walk_at "go"
  have l1 := t.s_len
  refine ⟨by rw [szl]; omega, fun p hp => ?_⟩
  walk_at "go"
  rw [show u.s.map (fun c => V.str (S [c])) = u.s.map (fun c => V.str (S [c])) ++ [] by simp]
  refine lp_hung K _ H t.s (by omega) _ u t [] [] [] p 0 _ _ _ (by simp) (Ex.new hp) upd_same hp (by simp; omega) (fun z H' e => k0 z H' e) fun hl p' w4 w5 H1 e1 np1 hp1 => ?_
  simp only [fV]
  walk_at "go"
  exact ⟨trivial, k1 hl H1 p' e1 np1 (by simpa only [List.nil_append] using hp1)⟩
def sp_hung (K : PySem.W.Frag) : Sp := fun vs H Q _ => ∃ t u : Tr, vs = [.str (S t.s), .str (S u.s)] ∧ t.n ≤ 100000 ∧ u.n ≤ 100000 ∧ (Tr.le u t = false → ∀ H', Ex H H' → Q .non H') ∧ (Tr.le u t = true → ∀ H' p, Ex H H' → H p = none → H' p = some (.lst (trs (Tr.hang u t))) → Q (.ref p) H')
theorem pu_hung (K : PySem.W.Frag) (a : Addr) (vs : List V) (H : Hp) (Q : VK) (E : XK) (h : sp_hung K vs H Q E) : rd_hung K (sp_check_tree K a) sp_hung_on { nx := fun _ H' => Q .non H', rt := Q } (L2.start N_hung vs) H := by
  obtain ⟨t, u, rfl, ht, hu, k0, k1⟩ := h
  show rd_hung K _ _ _ [some _, some _] H
  unfold rd_hung
  walk_at "go"
  refine ⟨_, true, rfl, tv_tree K H t ht, fun _ H1 e1 => ?_, fun z => by (cases z)⟩
  walk_at "go"
  refine ⟨_, true, rfl, tv_tree K H1 u hu, fun _ H2 e2 => ?_, fun z => by (cases z)⟩
  walk_at "go"
  have e := e1.trans e2
  exact ⟨t, u, rfl, ht, hu, fun z H' e3 => k0 z H' (e.trans e3), fun z H' p e3 np hp => k1 z H' p (e.trans e3) (e.free np) hp⟩
end Pf

namespace Pf
open PySem PySem.Spec PyProof.Rows L2 M
local macro_rules | `(tactic| walk_at "go") => `(tactic| try simp only [tSeq, tIfS, tIf, tNot, mTest, tCB, tCons, tNil, mVar, M.gt, mC, Bool.not_true, Bool.not_false, Bool.false_eq_true, if_false, if_true, tNext, tAsg, gName, gSub, List.set_cons_zero, List.set_cons_succ, mFor, mIter, S_cps, S_len, S_app, tOp, tSl, mPart, mUn, tNoPart, tRet, tRetN, tTup, tLst, tAnd, tOr, mAndV, mOrV, mNotV, tCall, tCallSD, tDrop, mPar, mPar3, mLstM, mStrM, mBits, mRng1, mRng2, mgTup, mgSeq, mgCons, mgNil, q_add1, q_add2, q_add3, q_add4, q_iadd1, q_iadd2, q_sub, q_mul1, q_mul2, q_mod, q_div, q_pow, q_eq1, q_eq2, q_eq3, q_eq4, q_eq5, q_eq6, q_eq7, q_eq8, q_eq9, q_eq10, q_ne1, q_ne2, q_ne3, q_ne9, q_ne10, q_lt, q_le, q_gt, q_ge, q_inc1, q_ix1, q_ix2, q_sl1, q_sl2, q_set, q_len1, q_len2, q_int1, q_int2, q_max, q_min, q_abs, q_sum, q_list, q_isi1, q_is1, q_not1, q_isN1, q_isN2, q_isN3, q_isN4, q_join, q_count, q_split, q_app, q_pop, q_clear, q_isiE, q_repr, wipe, List.map_cons, List.map_nil, List.length_cons, List.length_nil, List.length_append, List.length_map, List.nil_append, List.cons_append, List.append_nil, cut_m3, cut_t3, cut_m1, cut_t1, cut_t2, S_eq, decide_eq_true_eq, Bool.not_eq_true', decide_eq_false_iff_not, ne_eq])
theorem fill_zip : ∀ (P hs : List (List Nat)) (p : List Nat), P.length = hs.length → fillP (p :: P) hs = p ++ (List.zipWith (fun h q => h ++ q) hs P).flatten
  | [], [], p, _ => by simp [fillP]
  | [], h :: hs, p, hl => by simp at hl
  | q :: P, [], p, hl => by simp at hl
  | q :: P, h :: hs, p, hl => by
    show p ++ h ++ fillP (q :: P) hs = _
    rw [fill_zip P hs q (by simpa using hl)]
    simp
theorem spl_le (c : Nat) : ∀ (z acc p : List Nat), p ∈ TL.spl [c] 0 acc z → p.length ≤ acc.length + z.length
  | [], acc, p, h => by
    rw [TL.spl_nil] at h
    rw [List.mem_singleton.mp h]; simp
  | d :: r, acc, p, h => by
    rw [spl_one] at h
    by_cases e : d = c
    · rw [if_pos e] at h
      rcases List.mem_cons.mp h with rfl | h
      · simp
      · have := spl_le c r [] p h
        simp only [List.length_nil, List.length_cons] at *; omega
    · rw [if_neg e] at h
      have := spl_le c r _ p h
      simp only [List.length_append, List.length_cons, List.length_nil] at *; omega
theorem sum_flat (l : List (List Nat)) : ((l.map S).map (·.length)).sum = l.flatten.length := by
  induction l with
  | nil => rfl
  | cons a l ih => simp only [List.map_cons, List.sum_cons, ih, S_len, List.flatten_cons, List.length_append]
theorem le_sum : ∀ {l : List Nat} {a : Nat}, a ∈ l → a ≤ l.sum
  | b :: l, a, h => by
    rw [List.sum_cons]
    rcases List.mem_cons.mp h with rfl | h
    · omega
    · have := le_sum h; omega
theorem tx_S (l : List (List Nat)) : tx l = (l.map S).map V.str := by unfold tx; rw [List.map_map]; rfl
theorem tx_at {l : List (List Nat)} {i : Nat} {z : List Nat} (h : l[i]? = some z) : (tx l)[i]? = some (V.str (S z)) := by unfold tx; rw [List.getElem?_map, h]; rfl
def sp_grown_by (K : PySem.W.Frag) : Sp := fun vs H Q _ => ∃ (t : Tr) (hs : List Tr) (b : Addr), vs = [.str (S t.s), .ref b] ∧ SqL K H b (trs hs) ∧ hs.length = t.n + 1 ∧ t.n ≤ 100000 ∧ (hs.map Tr.n).sum ≤ 100000 ∧ ∀ H', Ex H H' → Q (.str (S (Tr.grow t hs).1.s)) H'
theorem pu_grown_by (K : PySem.W.Frag) (vs : List V) (H : Hp) (Q : VK) (E : XK) (h : sp_grown_by K vs H Q E) : rd_grown_by K { nx := fun _ H' => Q .non H', rt := Q } (L2.start N_grown_by vs) H := by
  obtain ⟨t, hs, b, rfl, hb, hl, hn, hsum, k⟩ := h
  show rd_grown_by K _ [some _, some _, none, none, none] H
  unfold rd_grown_by mLc mEnum
  walk_at "go"
  have l1 := t.s_len
  have gs := (Tr.grow t hs).1.s_len
  have gn : (Tr.grow t hs).1.n ≤ t.n + (hs.map Tr.n).sum := by have := Tr.grow_n t hs; omega
  have hfill := Tr.fill_all t hs hl
  have hpl := spl_count 46 t.s []
  rw [Tr.cnt_lf] at hpl
  rw [splitS (by decide)]
  have hple := spl_le 46 t.s []
  generalize hP : TL.spl [46] 0 [] t.s = P at *
  obtain ⟨p0, P, rfl⟩ : ∃ p P', P = p :: P' := by
    cases P with
    | nil => simp at hpl
    | cons p P' => exact ⟨p, P', rfl⟩
  rw [fill_zip _ _ _ (by rw [List.length_map]; simp only [List.length_cons] at hpl; omega)] at hfill
  refine ⟨by simp, by rw [szl]; omega, fun p hp => ?_⟩
  rw [← tx_S]
  walk_at "go"
  have e1 := Ex.new (o := .lst (tx (p0 :: P))) hp
  refine ⟨_, _, .inl (SqL.of upd_same), aI_0 _ _, _, e1.L hb, fun D hD => ?_⟩
  have d1 : p ≠ D := fun z => by rw [← z, upd_same] at hD; cases hD
  refine (?lp : ∀ (s : List Tr) (acc : List (List Nat)) (H2 : Hp), Ex H H2 → H2 p = some (.lst (tx (p0 :: P))) → H2 D = some (.lst (tx acc)) → acc.length + s.length = hs.length → (∀ x ∈ s, x ∈ hs) → acc ++ List.zipWith (fun h q => h ++ q) (s.map Tr.s) (P.drop acc.length) = List.zipWith (fun h q => h ++ q) (hs.map Tr.s) P →
      cP _ _ _ _ _ _ D _ (numd acc.length (trs s)) H2) hs [] _ (e1.push hD) (by rw [upd_ne d1]; exact upd_same) upd_same (by simp) (fun x h => h) (by simp)
  intro s
  induction s with
  | nil =>
    intro acc H2 e2 h1 h2 ha hm hz
    simp only [trs, List.map_nil, numd, cP]
    refine ⟨?_, ?_⟩
    · exact e2.L hb
    rw [List.map_nil, List.zipWith_nil_left, List.append_nil] at hz
    walk_at "go"
    have hfl : (p0 ++ acc.flatten).length = 3 * (Tr.grow t hs).1.n + 1 := by rw [hz, hfill, gs]
    rw [List.length_append] at hfl
    refine ⟨acc.map S, .inl (SqL.of (by rw [← tx_S]; exact h2)), ?_, ?_⟩
    · rw [sum_flat]; simp only [Nat.mul_zero, Nat.add_zero]; omega
    rw [join_S]
    walk_at "go"
    refine ⟨by rw [szl]; omega, ?_⟩
    rw [hz, hfill]
    exact k _ e2
  | cons x s ih =>
    intro acc H2 e2 h1 h2 ha hm hz
    simp only [trs, List.map_cons, numd, cP]
    refine ⟨e2.L hb, fun T hT => ?_⟩
    walk_at "go"
    refine ⟨_, SqT.of upd_same, rfl, ?_⟩
    walk_at "go"
    have dT : p ≠ T := ne_of_none h1 hT
    have dT2 : D ≠ T := ne_of_none h2 hT
    simp only [List.length_cons] at ha hpl
    obtain ⟨q, hq⟩ : ∃ q, P[acc.length]? = some q := ⟨P[acc.length]'(by omega), List.getElem?_eq_getElem (by omega)⟩
    refine ⟨trivial, ?_⟩
    unfold tYes
    walk_at "go"
    have jj : ((acc.length : Int) + 1) = ((acc.length + 1 : Nat) : Int) := by omega
    rw [jj]
    have hqm : q ∈ p0 :: P := List.mem_cons_of_mem _ (List.mem_of_getElem? hq)
    have hql := hple q hqm
    have hxs := x.s_len
    have hxn : x.n ≤ (hs.map Tr.n).sum := le_sum (List.mem_map_of_mem (hm x List.mem_cons_self))
    simp only [List.length_nil] at hql
    refine ⟨_, _, .inl (SqL.of (by rw [upd_ne dT]; exact h1)), by rw [aI_nat]; exact tx_at (l := p0 :: P) (by simpa using hq), ?_⟩
    walk_at "go"
    refine ⟨by rw [szl]; omega, _, by rw [upd_ne dT2]; exact h2, by rw [szl, tx_len]; omega, ?_⟩
    have hz' : acc ++ [x.s ++ q] ++ List.zipWith (fun h q => h ++ q) (s.map Tr.s) (P.drop (acc ++ [x.s ++ q]).length) = List.zipWith (fun h q => h ++ q) (hs.map Tr.s) P := by
      rw [← hz]
      have hd : P.drop acc.length = q :: P.drop (acc.length + 1) := by
        rw [List.drop_eq_getElem_cons (by omega)]
        congr 1
        exact Option.some.inj ((List.getElem?_eq_getElem (by omega)).symm.trans hq)
      rw [hd, List.length_append, List.length_singleton]
      simp
    have := ih (acc ++ [x.s ++ q]) (upd (upd H2 T (.tup [.int acc.length, .str (S x.s)])) D (.lst (tx acc ++ [.str (S (x.s ++ q))]))) ((e2.push hT).mut (e1.free hD)) (by rw [upd_ne d1, upd_ne dT]; exact h1) (by rw [upd_same, tx_app]; rfl) (by rw [List.length_append, List.length_singleton]; omega) (fun y hy => hm y (List.mem_cons_of_mem _ hy)) hz'
    rw [List.length_append, List.length_singleton] at this
    exact this
end Pf

namespace Pf
open PySem PySem.Spec PyProof.Rows L2 M
local macro_rules | `(tactic| walk_at "go") => `(tactic| try simp only [tSeq, tIfS, tIf, tNot, mTest, tCB, tCons, tNil, mVar, M.gt, mC, Bool.not_true, Bool.not_false, Bool.false_eq_true, if_false, if_true, tNext, tAsg, gName, gSub, List.set_cons_zero, List.set_cons_succ, mFor, mIter, S_cps, S_len, S_app, tOp, tSl, mPart, mUn, tNoPart, tRet, tRetN, tTup, tLst, tAnd, tOr, mAndV, mOrV, mNotV, tCall, tCallSD, tDrop, mPar, mPar3, mLstM, mStrM, mBits, mRng1, mRng2, mgTup, mgSeq, mgCons, mgNil, q_add1, q_add2, q_add3, q_add4, q_iadd1, q_iadd2, q_sub, q_mul1, q_mul2, q_mod, q_div, q_pow, q_eq1, q_eq2, q_eq3, q_eq4, q_eq5, q_eq6, q_eq7, q_eq8, q_eq9, q_eq10, q_ne1, q_ne2, q_ne3, q_ne9, q_ne10, q_lt, q_le, q_gt, q_ge, q_inc1, q_ix1, q_ix2, q_sl1, q_sl2, q_set, q_len1, q_len2, q_int1, q_int2, q_max, q_min, q_abs, q_sum, q_list, q_isi1, q_is1, q_not1, q_isN1, q_isN2, q_isN3, q_isN4, q_join, q_count, q_split, q_app, q_pop, q_clear, q_isiE, q_repr, wipe, List.map_cons, List.map_nil, List.length_cons, List.length_nil, List.length_append, List.length_map, List.nil_append, List.cons_append, List.append_nil, cut_m3, cut_t3, cut_m1, cut_t1, cut_t2, S_eq, decide_eq_true_eq, Bool.not_eq_true', decide_eq_false_iff_not, ne_eq])
def sp_grown (K : PySem.W.Frag) : Sp := fun vs H Q _ => ∃ (t : Tr) (hs : List Tr) (b : Addr), vs = [.str (S t.s), .ref b] ∧ SqL K H b (trs hs) ∧ hs.length = t.n + 1 ∧ t.n ≤ 100000 ∧ (hs.map Tr.n).sum ≤ 100000 ∧ ∀ H', Ex H H' → Q (.str (S (Tr.grow t hs).1.s)) H'
theorem pu_grown (K : PySem.W.Frag) (a aL : Addr) (vs : List V) (H : Hp) (Q : VK) (E : XK) (h : sp_grown K vs H Q E) : rd_grown K (sp_check_tree K a) (sp_is_tree K) (sp_grown_by K) aL { nx := fun _ H' => Q .non H', rt := Q } (L2.start N_grown vs) H := by
  obtain ⟨t, hs, b, rfl, hb, hl, hn, hsum, k⟩ := h
  show rd_grown K _ _ _ _ _ [some _, some _, none] H
  unfold rd_grown mLc
  walk_at "go"
  refine ⟨_, true, rfl, tv_tree K H t hn, fun _ H1 e1 => ?_, fun z => by (cases z)⟩
  have hb1 := e1.L hb
  walk_at "go"
  refine ⟨_, _, tyX_list hb1, ki_list.2.2.2.1, ?_⟩
  walk_at "go"
  refine ⟨_, .inl hb1, ?_⟩
  rw [count_S (by decide), Tr.cnt_lf, trs_len]
  walk_at "go"
  rw [if_neg (by rw [hl]; simp)]
  refine ⟨_, .inl ⟨hb1, fun D hD => ?_⟩⟩
  refine (?lp : ∀ (s : List Tr) (H2 : Hp), Ex H1 H2 → H2 D = some (.lst []) → (∀ x ∈ s, x ∈ hs) → cV _ _ _ _ _ _ D _ (trs s) H2) hs _ (Ex.new hD) upd_same (fun x h => h)
  intro s
  induction s with
  | nil =>
    intro H2 e2 h2 hm
    simp only [trs, List.map_nil, cV]
    refine ⟨e2.L hb1, ?_⟩
    walk_at "go"
    refine ⟨by rw [szl]; omega, fun q hq => ?_⟩
    refine eq_strs (a := []) (b := []) (SqL.of (by rw [upd_ne (ne_of_none h2 hq)]; exact h2)) (SqL.of upd_same) (fun z hz => by cases hz) (fun z hz => by cases hz) ?_
    rw [show (decide (([] : List (List Nat)) = [])) = true by decide]
    walk_at "go"
    have e3 := e2.push (o := .lst []) hq
    exact ⟨t, hs, b, rfl, e3.L hb1, hl, hn, hsum, fun H3 e4 => k H3 (e1.trans (e3.trans e4))⟩
  | cons x s ih =>
    intro H2 e2 h2 hm
    simp only [trs, List.map_cons, cV]
    refine ⟨e2.L hb1, ?_⟩
    walk_at "go"
    have hxn : x.n ≤ (hs.map Tr.n).sum := le_sum (List.mem_map_of_mem (hm x List.mem_cons_self))
    refine ⟨trivial, _, true, rfl, tv_tree K H2 x (by omega), fun H3 e3 => ?_⟩
    walk_at "go"
    exact ih H3 (e2.trans e3) (e3 _ _ h2) (fun y hy => hm y (List.mem_cons_of_mem _ hy))
def sp__law_trees : Sp := fun vs H Q _ => ∃ (g : Addr) (n m : Nat), vs = [.ref g, .int m] ∧ m ≤ 1000 ∧ n < 2 ^ 40 ∧ Pu H g n ∧ ∀ H' p (hs : List Tr), Fm [g] H H' → Pu H' g (n + 100 * m) → H p = none → H' p = some (.lst (trs hs)) → hs.length = m → (∀ x ∈ hs, x.n ≤ 3) → Q (.ref p) H'
theorem pu__law_trees (K : PySem.W.Frag) (N : Nat) (hN : 4 ≤ N) (vs : List V) (H : Hp) (Q : VK) (E : XK) (h : sp__law_trees vs H Q E) : rd__law_trees K (sp__law_tree N) sp__law_random { nx := fun _ H' => Q .non H', rt := Q } (L2.start N__law_trees vs) H := by
  obtain ⟨g, n, m, rfl, hm, hn, pu, k⟩ := h
  show rd__law_trees K _ _ _ [some _, some _, none, none] H
  unfold rd__law_trees
  walk_at "go"
  refine ⟨by rw [szl]; omega, fun p hp => ?_⟩
  have dg : p ≠ g := fun z => by obtain ⟨_, _, _, z1, _⟩ := pu; rw [z, z1] at hp; cases hp
  walk_at "go"
  refine ⟨⟨by omega, by omega⟩, ?_⟩
  rw [show upto 0 ((m : Int)).toNat = (List.range m).map fun (i : Nat) => V.int (0 + (i : Int)) by simp [upto]]
  refine (?lp : ∀ (s : List Nat) (hs : List Tr) (v : Option V) (H1 : Hp), Fm [g] H H1 → Pu H1 g (n + 100 * hs.length) → H1 p = some (.lst (trs hs)) → hs.length + s.length = m → (∀ x ∈ hs, x.n ≤ 3) → fV _ _ _ _ (s.map fun (i : Nat) => V.int (0 + (i : Int))) [some (.ref g), some (.int m), some (.ref p), v] H1) (List.range m) [] none _ (Fm.new hp) ((pu.fm (Ex.new hp)).mono (by simp)) upd_same (by simp) (fun x h => by cases h)
  intro s
  induction s with
  | nil =>
    intro hs v H1 f1 p1 h1 hl hx
    simp only [List.map_nil, fV]
    walk_at "go"
    simp only [List.length_nil, Nat.add_zero] at hl
    subst hl
    exact ⟨trivial, k H1 p hs f1 p1 hp h1 rfl hx⟩
  | cons i s ih =>
    intro hs v H1 f1 p1 h1 hl hx
    simp only [List.length_cons] at hl
    simp only [List.map_cons, fV]
    refine ⟨trivial, ?_⟩
    rw [Int.zero_add]
    walk_at "go"
    refine ⟨⟨_, h1⟩, ?_⟩
    by_cases c : (i : Int) < 30
    · rw [if_pos c]
      refine ⟨by rw [szl]; omega, fun q hq => ?_⟩
      have dq : q ≠ g := fun z => by obtain ⟨_, _, _, z1, _⟩ := p1; rw [z, z1] at hq; cases hq
      have dpq : p ≠ q := ne_of_none h1 hq
      refine ⟨g, n + 100 * hs.length, 5, rfl, by decide, by decide, by omega, p1.fm (Ex.new hq), fun H2 r f2 p2 r0 r1 => ?_⟩
      have hq2 := f2 q _ (by simpa using dq) upd_same
      have hp2 : H2 p = some (.lst (trs hs)) := f2 p _ (by simpa using dg) (by rw [upd_ne dpq]; exact h1)
      obtain ⟨r, rfl⟩ := Int.eq_ofNat_of_zero_le r0
      obtain ⟨w, hw, hw3⟩ : ∃ w : Nat, atI [V.int 0, V.int 0, V.int 1, V.int 2, V.int 3] (r : Int) = some (.int w) ∧ w ≤ 3 := by
        rcases r with _ | _ | _ | _ | _ | r
        · exact ⟨0, rfl, by decide⟩
        · exact ⟨0, rfl, by decide⟩
        · exact ⟨1, rfl, by decide⟩
        · exact ⟨2, rfl, by decide⟩
        · exact ⟨3, rfl, by decide⟩
        · omega
      walk_at "go"
      refine ⟨_, _, .inl (SqL.of hq2), hw, ?_⟩
      refine ⟨g, n + 100 * hs.length + 10, w, rfl, by omega, by omega, by omega, p2, fun H3 t ht f3 p3 => ?_⟩
      have hp3 : H3 p = some (.lst (trs hs)) := f3 p _ (by simpa using dg) hp2
      refine ⟨_, hp3, by rw [szl, trs_len]; omega, ?_⟩
      have f4 : Fm [g] H (upd H3 p (.lst (trs hs ++ [.str (S t.s)]))) := fun a o na ha => by
        have : a ≠ p := fun z => by rw [z, hp] at ha; cases ha
        rw [upd_ne this]
        refine f3 a o na (f2 a o na ?_)
        have := f1 a o na ha
        rw [upd_ne (ne_of_none this hq)]
        exact this
      refine ih (hs ++ [t]) _ _ f4 ?_ (by rw [upd_same, trs_app]; rfl) (by rw [List.length_append, List.length_singleton]; omega) (fun x hx2 => (List.mem_append.mp hx2).elim (hx x) fun z => by rw [List.mem_singleton.mp z]; omega)
      obtain ⟨aa, bb, cc, z1, z2⟩ := p3
      have : Pu (upd H3 p (.lst (trs hs ++ [.str (S t.s)]))) g (n + 100 * hs.length + 10 + 20 * w) := ⟨aa, bb, cc, by rw [upd_ne (Ne.symm dg)]; exact z1, z2⟩
      exact this.mono (by rw [List.length_append, List.length_singleton]; omega)
    · rw [if_neg c]
      walk_at "go"
      refine ⟨_, h1, by rw [szl, trs_len]; omega, ?_⟩
      refine ih (hs ++ [.lf]) _ _ (fun a o na ha => ?_) ?_ (by rw [upd_same, trs_app]; rfl) (by rw [List.length_append, List.length_singleton]; omega) (fun x hx2 => (List.mem_append.mp hx2).elim (hx x) fun z => by rw [List.mem_singleton.mp z]; decide)
      · have : a ≠ p := fun z => by rw [z, hp] at ha; cases ha
        rw [upd_ne this]
        exact f1 a o na ha
      · obtain ⟨aa, bb, cc, z1, z2⟩ := p1
        have : Pu (upd H1 p (.lst (trs hs ++ [.str (S [46])]))) g (n + 100 * hs.length) := ⟨aa, bb, cc, by rw [upd_ne (Ne.symm dg)]; exact z1, z2⟩
        exact this.mono (by rw [List.length_append, List.length_singleton]; omega)
end Pf

namespace Pf
open PySem PySem.Spec PyProof.Rows L2 M
local macro_rules | `(tactic| walk_at "go") => `(tactic| try simp only [tSeq, tIfS, tIf, tNot, mTest, tCB, tCons, tNil, mVar, M.gt, mC, Bool.not_true, Bool.not_false, Bool.false_eq_true, if_false, if_true, tNext, tAsg, gName, gSub, List.set_cons_zero, List.set_cons_succ, mFor, mIter, S_cps, S_len, S_app, tOp, tSl, mPart, mUn, tNoPart, tRet, tRetN, tTup, tLst, tAnd, tOr, mAndV, mOrV, mNotV, tCall, tCallSD, tDrop, mPar, mPar3, mLstM, mStrM, mBits, mRng1, mRng2, mgTup, mgSeq, mgCons, mgNil, q_add1, q_add2, q_add3, q_add4, q_iadd1, q_iadd2, q_sub, q_mul1, q_mul2, q_mod, q_div, q_pow, q_eq1, q_eq2, q_eq3, q_eq4, q_eq5, q_eq6, q_eq7, q_eq8, q_eq9, q_eq10, q_ne1, q_ne2, q_ne3, q_ne9, q_ne10, q_lt, q_le, q_gt, q_ge, q_inc1, q_ix1, q_ix2, q_sl1, q_sl2, q_set, q_len1, q_len2, q_int1, q_int2, q_max, q_min, q_abs, q_sum, q_list, q_isi1, q_is1, q_not1, q_isN1, q_isN2, q_isN3, q_isN4, q_join, q_count, q_split, q_app, q_pop, q_clear, q_isiE, q_repr, wipe, List.map_cons, List.map_nil, List.length_cons, List.length_nil, List.length_append, List.length_map, List.nil_append, List.cons_append, List.append_nil, cut_m3, cut_t3, cut_m1, cut_t1, cut_t2, S_eq, decide_eq_true_eq, Bool.not_eq_true', decide_eq_false_iff_not, ne_eq])
theorem hang_sum : ∀ t u : Tr, Tr.le t u = true → ((Tr.hang t u).map Tr.n).sum + t.n = u.n
  | .lf, u, _ => by simp [Tr.hang, Tr.n]
  | .nd a b, .lf, h => by simp [Tr.le] at h
  | .nd a b, .nd c d, h => by
    simp only [Tr.le, Bool.and_eq_true] at h
    have h1 := hang_sum a c h.1
    have h2 := hang_sum b d h.2
    simp only [Tr.hang, List.map_append, List.sum_append, Tr.n]; omega
theorem grow_back (t u : Tr) (h : Tr.le t u = true) : (Tr.grow t (Tr.hang t u)).1 = u := by
  have := Tr.grow_hang t u [] h
  rw [List.append_nil] at this
  rw [this]
theorem back_ok {K : PySem.W.Frag} {H : Hp} {R : VK} (top w : Tr) (h1 : Tr.le top w = true) (hw : w.n ≤ 3000) (k : ∀ H', Ex H H' → R (.str (S w.s)) H') : sp_hung K [.str (S w.s), .str (S top.s)] H (fun v H1 => sp_grown K [.str (S top.s), v] H1 R E0) E0 := by
  have hn := Tr.le_n top w h1
  have hs := hang_sum top w h1
  refine ⟨w, top, rfl, by omega, by omega, fun z => (by rw [h1] at z; cases z), fun _ H' p e np hp => ?_⟩
  refine ⟨top, Tr.hang top w, p, rfl, SqL.of hp, Tr.hang_len top w h1, by omega, by omega, fun H2 e2 => ?_⟩
  rw [grow_back top w h1]
  exact k H2 (e.trans e2)
def sp__law_two_right : Sp := fun vs H Q _ => ∃ t u : Tr, vs = [.str (S t.s), .str (S u.s)] ∧ t.n ≤ 1000 ∧ u.n ≤ 1000 ∧ ∀ H', Ex H H' → Q (.bl true) H'
theorem pu__law_two_right (K : PySem.W.Frag) (vs : List V) (H : Hp) (Q : VK) (E : XK) (h : sp__law_two_right vs H Q E) : rd__law_two_right K (sp_shared K) (sp_joined K) (sp_size K) (sp_hung K) (sp_grown K) { nx := fun _ H' => Q .non H', rt := Q } (L2.start N__law_two_right vs) H := by
  obtain ⟨t, u, rfl, ht, hu, k⟩ := h
  show rd__law_two_right K _ _ _ _ _ _ [some _, some _, none, none, none] H
  unfold rd__law_two_right
  walk_at "go"
  have nj := Tr.join_n_le t u
  have nm := Tr.meet_n_le t u
  refine ⟨t, u, rfl, by omega, by omega, fun H1 e1 => ?_⟩
  refine ⟨t, u, rfl, by omega, by omega, fun H2 e2 => ?_⟩
  walk_at "go"
  refine ⟨u, t, rfl, by omega, by omega, fun H3 e3 => ?_⟩
  rw [Tr.join_comm u t]
  walk_at "go"
  rw [if_neg (by simp)]
  refine ⟨u, t, rfl, by omega, by omega, fun H4 e4 => ?_⟩
  rw [Tr.meet_comm u t]
  walk_at "go"
  rw [if_neg (by simp)]
  walk_at "go"
  refine ⟨t, Tr.meet t u, rfl, by omega, by omega, fun H5 e5 => ?_⟩
  rw [Tr.join_meet]
  walk_at "go"
  rw [if_neg (by simp)]
  refine ⟨t, Tr.join t u, rfl, by omega, by omega, fun H6 e6 => ?_⟩
  rw [Tr.meet_join]
  walk_at "go"
  rw [if_neg (by simp)]
  walk_at "go"
  refine ⟨_, rfl, by omega, fun H7 e7 => ?_⟩
  refine ⟨_, rfl, by omega, fun H8 e8 => ?_⟩
  walk_at "go"
  refine ⟨_, rfl, by omega, fun H9 e9 => ?_⟩
  refine ⟨_, rfl, by omega, fun H10 e10 => ?_⟩
  have hn := Tr.n_join t u
  walk_at "go"
  rw [if_neg (by omega)]
  walk_at "go"
  have hung1 : ∀ (Hx : Hp) (R : VK), (∀ H' v, Ex Hx H' → (!isN v) = Tr.le u t → R v H') → sp_hung K [.str (S t.s), .str (S u.s)] Hx R E0 := by
    intro Hx R hR
    refine ⟨t, u, rfl, by omega, by omega, fun z H' e => hR H' .non e (by rw [z]; rfl), fun z H' p e _ _ => hR H' (.ref p) e (by rw [z]; rfl)⟩
  have lj : Tr.le u t = decide ((Tr.join t u).s = t.s) := by
    rw [Bool.eq_iff_iff, decide_eq_true_iff, Tr.s_inj]
    exact Tr.le_join_iff t u
  have lm : Tr.le u t = decide ((Tr.meet t u).s = u.s) := by
    rw [Bool.eq_iff_iff, decide_eq_true_iff, Tr.s_inj]
    exact Tr.le_meet_iff t u
  refine hung1 H10 _ fun H11 v1 e11 z1 => ?_
  rw [if_neg (by rw [z1, lj]; simp)]
  refine hung1 H11 _ fun H12 v2 e12 z2 => ?_
  rw [if_neg (by rw [z2, lm]; simp)]
  refine ⟨by rw [szl]; omega, fun p hp => ⟨_, .inl ⟨SqL.of upd_same, ?_⟩⟩⟩
  have e13 : Ex H H12 := e1.trans (e2.trans (e3.trans (e4.trans (e5.trans (e6.trans (e7.trans (e8.trans (e9.trans (e10.trans (e11.trans e12))))))))))
  have hTU : ∀ w ∈ [t, u], Tr.le (Tr.meet t u) w = true ∧ Tr.le w (Tr.join t u) = true ∧ w.n ≤ 1000 := by
    intro w hw
    rcases List.mem_cons.mp hw with rfl | hw
    · exact ⟨Tr.meet_le _ _, Tr.le_join _ _, ht⟩
    · rw [List.mem_singleton.mp hw]
      exact ⟨by rw [Tr.meet_comm]; exact Tr.meet_le _ _, by rw [Tr.join_comm]; exact Tr.le_join _ _, hu⟩
  refine (?lp : ∀ (s : List Tr) (v : Option V) (Hx : Hp), Ex H Hx → SqL K Hx p [V.str (S t.s), V.str (S u.s)] → (∀ w ∈ s, Tr.le (Tr.meet t u) w = true ∧ Tr.le w (Tr.join t u) = true ∧ w.n ≤ 1000) → fV _ _ _ _ (trs s) [_, _, _, _, v] Hx) [t, u] none _ (e13.push hp) (SqL.of upd_same) hTU
  intro s
  induction s with
  | nil =>
    intro v Hx ex hx _
    simp only [trs, List.map_nil, fV]
    refine ⟨hx, ?_⟩
    walk_at "go"
    refine ⟨t, t, rfl, by omega, by omega, fun Ha ea => ?_⟩
    rw [Tr.join_self]
    walk_at "go"
    try rw [show (decide (t.s = t.s)) = true by simp]
    walk_at "go"
    refine ⟨t, .lf, rfl, by omega, by decide, fun Hb eb => ?_⟩
    rw [Tr.meet_lf]
    walk_at "go"
    try rw [show (decide (Tr.lf.s = [46])) = true by rfl]
    try rw [if_pos (show Tr.lf.s = [46] from rfl)]
    walk_at "go"
    refine ⟨t, .lf, rfl, by omega, by decide, fun Hc ec => ?_⟩
    rw [Tr.join_lf]
    walk_at "go"
    try rw [show (decide (t.s = t.s)) = true by simp]
    exact k Hc (ex.trans (ea.trans (eb.trans ec)))
  | cons w s ih =>
    intro v Hx ex hx hs
    obtain ⟨w1, w2, w3⟩ := hs w List.mem_cons_self
    simp only [trs, List.map_cons, fV]
    refine ⟨hx, ?_⟩
    walk_at "go"
    refine back_ok (Tr.meet t u) w w1 (by omega) fun Ha ea => ?_
    walk_at "go"
    rw [if_neg (by simp)]
    refine back_ok w (Tr.join t u) w2 (by omega) fun Hb eb => ?_
    walk_at "go"
    rw [if_neg (by simp)]
    exact ih _ Hb (ex.trans (ea.trans eb)) ((ea.trans eb).L hx) (fun y hy => hs y (List.mem_cons_of_mem _ hy))
end Pf

namespace Pf
open PySem PySem.Spec PyProof.Rows L2 M
local macro_rules | `(tactic| walk_at "go") => `(tactic| try simp only [tSeq, tIfS, tIf, tNot, mTest, tCB, tCons, tNil, mVar, M.gt, mC, Bool.not_true, Bool.not_false, Bool.false_eq_true, if_false, if_true, tNext, tAsg, gName, gSub, List.set_cons_zero, List.set_cons_succ, mFor, mIter, S_cps, S_len, S_app, tOp, tSl, mPart, mUn, tNoPart, tRet, tRetN, tTup, tLst, tAnd, tOr, mAndV, mOrV, mNotV, tCall, tCallSD, tDrop, mPar, mPar3, mLstM, mStrM, mBits, mRng1, mRng2, mgTup, mgSeq, mgCons, mgNil, q_add1, q_add2, q_add3, q_add4, q_iadd1, q_iadd2, q_sub, q_mul1, q_mul2, q_mod, q_div, q_pow, q_eq1, q_eq2, q_eq3, q_eq4, q_eq5, q_eq6, q_eq7, q_eq8, q_eq9, q_eq10, q_ne1, q_ne2, q_ne3, q_ne9, q_ne10, q_lt, q_le, q_gt, q_ge, q_inc1, q_ix1, q_ix2, q_sl1, q_sl2, q_set, q_len1, q_len2, q_int1, q_int2, q_max, q_min, q_abs, q_sum, q_list, q_isi1, q_is1, q_not1, q_isN1, q_isN2, q_isN3, q_isN4, q_join, q_count, q_split, q_app, q_pop, q_clear, q_isiE, q_repr, wipe, List.map_cons, List.map_nil, List.length_cons, List.length_nil, List.length_append, List.length_map, List.nil_append, List.cons_append, List.append_nil, cut_m3, cut_t3, cut_m1, cut_t1, cut_t2, S_eq, decide_eq_true_eq, Bool.not_eq_true', decide_eq_false_iff_not, ne_eq])
def sp_law (K : PySem.W.Frag) : Sp := fun vs H Q _ => ∃ (a : Addr) (ns : List Int), vs = [.ref a] ∧ SqL K H a (ns.map V.int) ∧ ∀ H', Q (.bl true) H'
theorem Fm.ex0 {H H1 H2 : Hp} {g : Addr} (e : Ex H H1) (n : H g = none) (f : Fm [g] H1 H2) : Ex H H2 := fun a o h => f a o (fun z => by rw [List.mem_singleton.mp z, n] at h; cases h) (e a o h)
/-- the tail of a turn: three trees in a list -/
theorem lw_tail (K : PySem.W.Frag) (N : Nat) (D : Ends) (H : Hp) (v0 v1 v2 : V) (p : Addr) (t u w : Tr) (ht : t.n ≤ 1000) (hu : u.n ≤ 1000) (hw : w.n ≤ 1000) (v4 v5 v6 v7 v8 v9 : Option V) (H1 : Hp) (e1 : Ex H H1) (hp : H1 p = some (.lst (trs [t, u, w])))
    (k : ∀ (w4 w5 w6 w7 w8 w9 : Option V) H2, Ex H H2 → D.nx [some v0, some v1, some v2, some (.ref p), w4, w5, w6, w7, w8, w9] H2) :
    (tSeq (tAsg (mVar 3) (mgSeq K 3 (mgCons (gName 4) (mgCons (gName 5) (mgCons (gName 6) mgNil)))))
  (tSeq (tIfS (mTest (tOp (mNe K) (mLc (mIter K (mVar 3)) (gName 8) (mTest (tOp (mNe K) (mLc (mIter K (mVar 3)) (gName 9) (tNot (mTest (tCall sp__law_two_right [] E0 (tCons (mVar 8) (tCons (mVar 9) tNil))))) (mVar 9) [9]) (tLst tNil))) (mVar 8) [8]) (tLst tNil))) (tRet (mC (.bl false))) tNext)
  (tSeq (tIfS (mTest (tOp (mNe K) (tCall (sp_joined K) [] E0 (tCons (tCall (sp_joined K) [] E0 (tCons (mVar 4) (tCons (mVar 5) tNil))) (tCons (mVar 6) tNil))) (tCall (sp_joined K) [] E0 (tCons (mVar 4) (tCons (tCall (sp_joined K) [] E0 (tCons (mVar 5) (tCons (mVar 6) tNil))) tNil))))) (tRet (mC (.bl false))) tNext)
  (tSeq (tIfS (mTest (tOp (mNe K) (tCall (sp_shared K) [] E0 (tCons (tCall (sp_shared K) [] E0 (tCons (mVar 4) (tCons (mVar 5) tNil))) (tCons (mVar 6) tNil))) (tCall (sp_shared K) [] E0 (tCons (mVar 4) (tCons (tCall (sp_shared K) [] E0 (tCons (mVar 5) (tCons (mVar 6) tNil))) tNil))))) (tRet (mC (.bl false))) tNext)
  (tIfS (mTest (tOp (mNe K) (tCall (sp_joined K) [] E0 (tCons (mVar 4) (tCons (tCall (sp_shared K) [] E0 (tCons (mVar 5) (tCons (mVar 6) tNil))) tNil))) (tCall (sp_shared K) [] E0 (tCons (tCall (sp_joined K) [] E0 (tCons (mVar 4) (tCons (mVar 5) tNil))) (tCons (tCall (sp_joined K) [] E0 (tCons (mVar 4) (tCons (mVar 6) tNil))) tNil))))) (tRet (mC (.bl false))) tNext))))) D [some v0, some v1, some v2, some (.ref p), v4, v5, v6, v7, v8, v9] H1 := by
  walk_at "go"
  refine ⟨_, .inr (SqL.of hp), rfl, ?_⟩
  simp only [trs, List.map_cons, List.map_nil]
  walk_at "go"
  unfold mLc
  walk_at "go"
  refine ⟨_, .inl ⟨SqL.of hp, fun D1 hD1 => ?_⟩⟩
  have d1 : p ≠ D1 := ne_of_none hp hD1
  have hall : ∀ x ∈ [t, u, w], x.n ≤ 1000 := by
    intro x hx
    simp only [List.mem_cons, List.not_mem_nil, or_false] at hx
    rcases hx with rfl | rfl | rfl <;> assumption
  have nd1 : H D1 = none := e1.free hD1
  refine (?lp : ∀ (s : List Tr) (Hx : Hp), Ex H1 Hx → Hx D1 = some (.lst []) → (∀ x ∈ s, x.n ≤ 1000) → cV _ _ _ _ _ _ D1 _ (trs s) Hx) [t, u, w] _ (Ex.new hD1) upd_same hall
  intro s
  induction s with
  | nil =>
    intro Hx ex hx _
    simp only [trs, List.map_nil, cV]
    refine ⟨SqL.of (ex _ _ hp), ?_⟩
    walk_at "go"
    refine ⟨by rw [szl]; omega, fun q hq => ?_⟩
    refine eq_strs (a := []) (b := []) (SqL.of (by rw [upd_ne (ne_of_none hx hq)]; exact hx)) (SqL.of upd_same) (fun z hz => by cases hz) (fun z hz => by cases hz) ?_
    rw [show (decide (([] : List (List Nat)) = [])) = true by decide]
    walk_at "go"
    have ea := ex.push (o := .lst []) hq
    have j1 := Tr.join_n_le t u
    have j2 := Tr.join_n_le u w
    have j3 := Tr.meet_n_le t u
    have j4 := Tr.meet_n_le u w
    have j5 := Tr.join_n_le t w
    refine ⟨t, u, rfl, by omega, by omega, fun Ha x1 => ?_⟩
    refine ⟨_, w, rfl, by omega, by omega, fun Hb x2 => ?_⟩
    refine ⟨u, w, rfl, by omega, by omega, fun Hc x3 => ?_⟩
    refine ⟨t, _, rfl, by omega, by omega, fun Hd x4 => ?_⟩
    rw [Tr.join_assoc]
    walk_at "go"
    try rw [if_neg (by simp)]
    refine ⟨t, u, rfl, by omega, by omega, fun He x5 => ?_⟩
    refine ⟨_, w, rfl, by omega, by omega, fun Hf x6 => ?_⟩
    refine ⟨u, w, rfl, by omega, by omega, fun Hg x7 => ?_⟩
    refine ⟨t, _, rfl, by omega, by omega, fun Hh x8 => ?_⟩
    rw [Tr.meet_assoc]
    walk_at "go"
    try rw [if_neg (by simp)]
    refine ⟨u, w, rfl, by omega, by omega, fun Hi x9 => ?_⟩
    refine ⟨t, _, rfl, by omega, by omega, fun Hj x10 => ?_⟩
    refine ⟨t, u, rfl, by omega, by omega, fun Hk x11 => ?_⟩
    refine ⟨t, w, rfl, by omega, by omega, fun Hl x12 => ?_⟩
    refine ⟨_, _, rfl, by omega, by omega, fun Hm x13 => ?_⟩
    rw [Tr.join_dist]
    walk_at "go"
    try rw [if_neg (by simp)]
    exact k _ _ _ _ _ _ Hm (e1.trans (ea.trans (x1.trans (x2.trans (x3.trans (x4.trans (x5.trans (x6.trans (x7.trans (x8.trans (x9.trans (x10.trans (x11.trans (x12.trans x13))))))))))))))
  | cons y s ih =>
    intro Hx ex hx hs
    have hy := hs y List.mem_cons_self
    simp only [trs, List.map_cons, cV]
    refine ⟨SqL.of (ex _ _ hp), ?_⟩
    walk_at "go"
    refine ⟨trivial, _, .inl ⟨SqL.of (ex _ _ hp), fun D2 hD2 => ?_⟩⟩
    have d12 : D1 ≠ D2 := ne_of_none hx hD2
    refine (?lq : ∀ (s2 : List Tr) (Hy : Hp), Ex Hx Hy → Hy D2 = some (.lst []) → (∀ x ∈ s2, x.n ≤ 1000) → cV _ _ _ _ _ _ D2 _ (trs s2) Hy) [t, u, w] _ (Ex.new hD2) upd_same hall
    intro s2
    induction s2 with
    | nil =>
      intro Hy ey hy2 _
      simp only [trs, List.map_nil, cV]
      refine ⟨SqL.of (ey _ _ (ex _ _ hp)), ?_⟩
      walk_at "go"
      refine ⟨by rw [szl]; omega, fun q hq => ?_⟩
      refine eq_strs (a := []) (b := []) (SqL.of (by rw [upd_ne (ne_of_none hy2 hq)]; exact hy2)) (SqL.of upd_same) (fun z hz => by cases hz) (fun z hz => by cases hz) ?_
      rw [show (decide (([] : List (List Nat)) = [])) = true by decide]
      walk_at "go"
      have e3 := ey.push (o := .lst []) hq
      exact ih _ (ex.trans e3) (e3 _ _ hx) (fun x hx2 => hs x (List.mem_cons_of_mem _ hx2))
    | cons z s2 ih2 =>
      intro Hy ey hy2 hs2
      simp only [trs, List.map_cons, cV]
      refine ⟨SqL.of (ey _ _ (ex _ _ hp)), ?_⟩
      walk_at "go"
      refine ⟨trivial, y, z, rfl, hy, hs2 z List.mem_cons_self, fun Hz ez => ?_⟩
      walk_at "go"
      exact ih2 Hz (ey.trans ez) (ez _ _ hy2) (fun x hx2 => hs2 x (List.mem_cons_of_mem _ hx2))
end Pf

namespace Pf
open PySem PySem.Spec PyProof.Rows L2 M
local macro_rules | `(tactic| walk_at "go") => `(tactic| try simp only [tSeq, tIfS, tIf, tNot, mTest, tCB, tCons, tNil, mVar, M.gt, mC, Bool.not_true, Bool.not_false, Bool.false_eq_true, if_false, if_true, tNext, tAsg, gName, gSub, List.set_cons_zero, List.set_cons_succ, mFor, mIter, S_cps, S_len, S_app, tOp, tSl, mPart, mUn, tNoPart, tRet, tRetN, tTup, tLst, tAnd, tOr, mAndV, mOrV, mNotV, tCall, tCallSD, tDrop, mPar, mPar3, mLstM, mStrM, mBits, mRng1, mRng2, mgTup, mgSeq, mgCons, mgNil, q_add1, q_add2, q_add3, q_add4, q_iadd1, q_iadd2, q_sub, q_mul1, q_mul2, q_mod, q_div, q_pow, q_eq1, q_eq2, q_eq3, q_eq4, q_eq5, q_eq6, q_eq7, q_eq8, q_eq9, q_eq10, q_ne1, q_ne2, q_ne3, q_ne9, q_ne10, q_lt, q_le, q_gt, q_ge, q_inc1, q_ix1, q_ix2, q_sl1, q_sl2, q_set, q_len1, q_len2, q_int1, q_int2, q_max, q_min, q_abs, q_sum, q_list, q_isi1, q_is1, q_not1, q_isN1, q_isN2, q_isN3, q_isN4, q_join, q_count, q_split, q_app, q_pop, q_clear, q_isiE, q_repr, wipe, List.map_cons, List.map_nil, List.length_cons, List.length_nil, List.length_append, List.length_map, List.nil_append, List.cons_append, List.append_nil, cut_m3, cut_t3, cut_m1, cut_t1, cut_t2, S_eq, decide_eq_true_eq, Bool.not_eq_true', decide_eq_false_iff_not, ne_eq])
theorem mLc_eq (wi : MI) (g : TG) (tt : TT) (te : TE) (vs : List Nat) (σ : Sl) (H : Hp) (Q : VK) : mLc wi g tt te vs σ H Q = (wi σ H fun s H1 => ∀ D, H1 D = none → match s with
  | .v G L => cV G g tt te vs (wipe σ vs) D (Q (.ref D)) L (upd H1 D (.lst []))
  | .p G L => cP G g tt te vs (wipe σ vs) D (Q (.ref D)) L (upd H1 D (.lst []))) := rfl
theorem lw_turn (K : PySem.W.Frag) (N : Nat) (hN : 16 ≤ N) (D : Ends) (H : Hp) (a : Addr) (ns : List Int) (hL : SqL K H a (ns.map V.int)) (i : Nat) (hi : i ≤ 1000) (v2 v3 v4 v5 v6 v7 v8 v9 : Option V) (H1 : Hp) (e1 : Ex H H1)
    (k : ∀ (w2 w3 w4 w5 w6 w7 w8 w9 : Option V) H2, Ex H H2 → D.nx [some (.ref a), some (.int i), w2, w3, w4, w5, w6, w7, w8, w9] H2) :
    rd_law_b1 K (sp__law_generator K) (sp__law_tree N) sp__law_random (sp_grown K) sp__law_trees sp__law_two_right (sp_joined K) (sp_shared K) D [some (.ref a), some (.int i), v2, v3, v4, v5, v6, v7, v8, v9] H1 := by
  have tail := lw_tail K N D H (.ref a) (.int i)
  unfold rd_law_b1
  walk_at "go"
  refine ⟨a, ns, i, rfl, e1.L hL, hi, fun g o hg pu => ?_⟩
  have ng : H g = none := e1.free hg
  have e2 := e1.push (o := o) hg
  walk_at "go"
  rw [mLc_eq]
  walk_at "go"
  refine ⟨⟨by decide, by decide⟩, fun p hp => ?_⟩
  have dg : p ≠ g := fun z => by rw [z, upd_same] at hp; cases hp
  have hp1 : H1 p = none := by rw [upd_ne dg] at hp; exact hp
  have hpH : H p = none := e1.free hp1
  refine (?lp : ∀ (s : List V) (hs : List Tr) (n : Nat) (Hx : Hp), s.length + hs.length = 3 → Fm [g] H1 Hx → Hx p = some (.lst (trs hs)) → Pu Hx g n → n + 500 * s.length ≤ 3000000 → (∀ x ∈ hs, x.n ≤ 15) → cV _ _ _ _ _ _ p _ s Hx) _ [] 2000000 _ (by decide) ?f0 upd_same ?p0 (by decide) (fun x h => by cases h)
  case f0 =>
    intro a o na ha
    have : a ≠ p := ne_of_none ha hp1
    rw [upd_ne this, upd_ne (by simpa using na)]; exact ha
  case p0 => exact pu.fm (Ex.new hp)
  intro s
  induction s with
  | cons x s ih =>
    intro hs n Hx hl f1 hx p1 hn hb
    simp only [List.length_cons] at hl hn
    simp only [cV]
    refine ⟨trivial, ?_⟩
    walk_at "go"
    simp only [tYes]
    walk_at "go"
    refine ⟨trivial, ?_⟩
    refine ⟨g, n, 16, rfl, by decide, by decide, by omega, p1, fun H2 r f2 p2 r0 r1 => ?_⟩
    obtain ⟨r, rfl⟩ := Int.eq_ofNat_of_zero_le r0
    refine ⟨g, n + 10, r, rfl, by omega, by omega, by omega, p2, fun H3 t ht f3 p3 => ?_⟩
    have hx3 : H3 p = some (.lst (trs hs)) := f3 p _ (by simpa using dg) (f2 p _ (by simpa using dg) hx)
    refine ⟨_, hx3, by rw [szl, trs_len]; omega, ?_⟩
    have f4 : Fm [g] H1 (upd H3 p (.lst (trs hs ++ [.str (S t.s)]))) := fun a o na ha => by
      have : a ≠ p := ne_of_none ha hp1
      rw [upd_ne this]
      exact f3 a o na (f2 a o na (f1 a o na ha))
    refine ih (hs ++ [t]) (n + 500) _ (by rw [List.length_append, List.length_singleton]; omega) f4 (by rw [upd_same, trs_app]; rfl) ?_ (by omega) (fun x hx2 => (List.mem_append.mp hx2).elim (hb x) fun z => by rw [List.mem_singleton.mp z]; omega)
    obtain ⟨aa, bb, cc, z1, z2⟩ := p3
    have : Pu (upd H3 p (.lst (trs hs ++ [.str (S t.s)]))) g (n + 10 + 20 * r) := ⟨aa, bb, cc, by rw [upd_ne (Ne.symm dg)]; exact z1, z2⟩
    exact this.mono (by omega)
  | nil =>
    intro hs n Hx hl f1 hx p1 hn hb
    simp only [List.length_nil, Nat.zero_add] at hl hn
    obtain ⟨t, u, w, rfl⟩ : ∃ t u w, hs = [t, u, w] := by
      rcases hs with _ | ⟨t, _ | ⟨u, _ | ⟨w, _ | ⟨z, hs⟩⟩⟩⟩ <;> simp at hl
      exact ⟨t, u, w, rfl⟩
    have bt := hb t (by simp)
    have bu := hb u (by simp)
    have bw := hb w (by simp)
    simp only [cV]
    refine ⟨trivial, ?_⟩
    walk_at "go"
    refine ⟨g, n, 2, rfl, by decide, by decide, by omega, p1, fun H2 r f2 p2 r0 r1 => ?_⟩
    have hx2 : H2 p = some (.lst (trs [t, u, w])) := f2 p _ (by simpa using dg) hx
    have f12 : Fm [g] H1 H2 := fun a o na ha => f2 a o na (f1 a o na ha)
    walk_at "go"
    by_cases c : r = 0
    · subst c
      try simp only [if_pos]
      refine ⟨_, _, .inl (SqL.of hx2), rfl, ?_⟩
      refine ⟨_, _, .inl (SqL.of hx2), rfl, ?_⟩
      dsimp only
      rw [count_S (by decide), Tr.cnt_lf]
      refine ⟨g, n + 10, t.n + 1, rfl, by omega, by omega, p2, fun H3 q hs f3 p3 nq hq hlq hbq => ?_⟩
      have hx3 : H3 p = some (.lst (trs [t, u, w])) := f3 p _ (by simpa using dg) hx2
      have sm : (hs.map Tr.n).sum ≤ 3 * hs.length := by
        clear hq hlq
        induction hs with
        | nil => simp
        | cons y hs ih =>
          have := ih (fun x hx => hbq x (List.mem_cons_of_mem _ hx))
          have := hbq y List.mem_cons_self
          simp only [List.map_cons, List.sum_cons, List.length_cons]
          omega
      refine ⟨t, hs, q, rfl, SqL.of hq, hlq, by omega, by omega, fun H4 e4 => ?_⟩
      have gn := Tr.grow_n t hs
      walk_at "go"
      have hx4 : H4 p = some (.lst (trs [t, u, w])) := e4 _ _ hx3
      refine ⟨_, 1, hx4, rfl, ?_⟩
      have e5 : Ex H (upd H4 p (.lst (trs [t, (Tr.grow t hs).1, w]))) := fun a o ha => by
        have : a ≠ p := ne_of_none ha hpH
        rw [upd_ne this]
        have na : a ∉ [g] := fun z => by rw [List.mem_singleton.mp z, ng] at ha; cases ha
        exact e4 a o (f3 a o na (f12 a o na (e1 a o ha)))
      exact tail _ p t (Tr.grow t hs).1 w (by omega) (by omega) (by omega) v4 v5 v6 v7 v8 v9 _ e5 upd_same fun _ _ _ _ _ _ => k _ _ _ _ _ _ _ _
    · rw [if_neg c]
      exact tail _ p t u w (by omega) (by omega) (by omega) v4 v5 v6 v7 v8 v9 H2 (fun a o ha => f12 a o (fun z => by rw [List.mem_singleton.mp z, ng] at ha; cases ha) (e1 a o ha)) hx2 fun _ _ _ _ _ _ => k _ _ _ _ _ _ _ _
end Pf

namespace Pf
open PySem PySem.Spec PyProof.Rows L2 M
local macro_rules | `(tactic| walk_at "go") => `(tactic| try simp only [tSeq, tIfS, tIf, tNot, mTest, tCB, tCons, tNil, mVar, M.gt, mC, Bool.not_true, Bool.not_false, Bool.false_eq_true, if_false, if_true, tNext, tAsg, gName, gSub, List.set_cons_zero, List.set_cons_succ, mFor, mIter, S_cps, S_len, S_app, tOp, tSl, mPart, mUn, tNoPart, tRet, tRetN, tTup, tLst, tAnd, tOr, mAndV, mOrV, mNotV, tCall, tCallSD, tDrop, mPar, mPar3, mLstM, mStrM, mBits, mRng1, mRng2, mgTup, mgSeq, mgCons, mgNil, q_add1, q_add2, q_add3, q_add4, q_iadd1, q_iadd2, q_sub, q_mul1, q_mul2, q_mod, q_div, q_pow, q_eq1, q_eq2, q_eq3, q_eq4, q_eq5, q_eq6, q_eq7, q_eq8, q_eq9, q_eq10, q_ne1, q_ne2, q_ne3, q_ne9, q_ne10, q_lt, q_le, q_gt, q_ge, q_inc1, q_ix1, q_ix2, q_sl1, q_sl2, q_set, q_len1, q_len2, q_int1, q_int2, q_max, q_min, q_abs, q_sum, q_list, q_isi1, q_is1, q_not1, q_isN1, q_isN2, q_isN3, q_isN4, q_join, q_count, q_split, q_app, q_pop, q_clear, q_isiE, q_repr, wipe, List.map_cons, List.map_nil, List.length_cons, List.length_nil, List.length_append, List.length_map, List.nil_append, List.cons_append, List.append_nil, cut_m3, cut_t3, cut_m1, cut_t1, cut_t2, S_eq, decide_eq_true_eq, Bool.not_eq_true', decide_eq_false_iff_not, ne_eq])
theorem pu_law (K : PySem.W.Frag) (N : Nat) (hN : 16 ≤ N) (vs : List V) (H : Hp) (Q : VK) (E : XK) (h : sp_law K vs H Q E) :
    rd_law K (sp__law_generator K) (sp__law_tree N) sp__law_random (sp_grown K) sp__law_trees sp__law_two_right (sp_joined K) (sp_shared K) { nx := fun _ H' => Q .non H', rt := Q } (L2.start N_law vs) H := by
  obtain ⟨a, ns, rfl, hL, k⟩ := h
  show rd_law K _ _ _ _ _ _ _ _ _ [some _, none, none, none, none, none, none, none, none, none] H
  unfold rd_law
  walk_at "go"
  refine ⟨⟨by decide, by decide⟩, ?_⟩
  refine (?l1 : ∀ (s : List Nat) (v1 v2 v3 v4 v5 v6 v7 v8 v9 : Option V) (H1 : Hp), (∀ i ∈ s, i ≤ 1000) → Ex H H1 → fV _ _ _ _ (s.map fun (i : Nat) => V.int (0 + (i : Int))) [some (.ref a), v1, v2, v3, v4, v5, v6, v7, v8, v9] H1) (List.range 3) none none none none none none none none none H (fun i hi => by have := List.mem_range.mp hi; omega) (Ex.refl H)
  intro s
  induction s with
  | cons i s ih =>
    intro v1 v2 v3 v4 v5 v6 v7 v8 v9 H1 hs e1
    simp only [List.map_cons, fV]
    refine ⟨trivial, ?_⟩
    rw [Int.zero_add]
    exact lw_turn K N hN _ H a ns hL i (hs i List.mem_cons_self) v2 v3 v4 v5 v6 v7 v8 v9 H1 e1 fun w2 w3 w4 w5 w6 w7 w8 w9 H2 e2 => ih _ _ _ _ _ _ _ _ _ H2 (fun j hj => hs j (List.mem_cons_of_mem _ hj)) e2
  | nil =>
    intro v1 v2 v3 v4 v5 v6 v7 v8 v9 H1 hs e1
    simp only [List.map_nil, fV]
    refine ⟨trivial, ?_⟩
    walk_at "go"
    exact k _
end Pf

namespace Pf
open PySem PySem.Spec PyProof.Rows L2 M
abbrev Rw : PySem.W.OpenRow := PySem.W.OpenLaw.row PySem.Challenge.rw_treeturns_k06_whole_trees_as_a_lattice
abbrev Pg : Program := (PySem.Challenge.rw_treeturns_k06_whole_trees_as_a_lattice).prog
def dx_InvalidTree___init__ : DefX := ⟨("InvalidTree", some "__init__"), "__init__", "InvalidTree.__init__", defArgs (inClass (top 2) 0), defBody (inClass (top 2) 0), defScope (inClass (top 2) 0), [.non], [], ["__class__"]⟩
def dx_InvalidList___init__ : DefX := ⟨("InvalidList", some "__init__"), "__init__", "InvalidList.__init__", defArgs (inClass (top 3) 0), defBody (inClass (top 3) 0), defScope (inClass (top 3) 0), [.non], [], ["__class__"]⟩
def dx_is_tree : DefX := ⟨("is_tree", none), "is_tree", "is_tree", defArgs (top 5), defBody (top 5), defScope (top 5), [], [], []⟩
def dx_check_tree : DefX := ⟨("check_tree", none), "check_tree", "check_tree", defArgs (top 6), defBody (top 6), defScope (top 6), [], [], []⟩
def dx_size : DefX := ⟨("size", none), "size", "size", defArgs (top 7), defBody (top 7), defScope (top 7), [], [], []⟩
def dx_end_of : DefX := ⟨("end_of", none), "end_of", "end_of", defArgs (top 8), defBody (top 8), defScope (top 8), [], [], []⟩
def dx_grown_by : DefX := ⟨("grown_by", none), "grown_by", "grown_by", defArgs (top 9), defBody (top 9), defScope (top 9), [], [], []⟩
def dx_grown : DefX := ⟨("grown", none), "grown", "grown", defArgs (top 10), defBody (top 10), defScope (top 10), [], [], []⟩
def dx_hung_on : DefX := ⟨("hung_on", none), "hung_on", "hung_on", defArgs (top 11), defBody (top 11), defScope (top 11), [], [], []⟩
def dx_hung : DefX := ⟨("hung", none), "hung", "hung", defArgs (top 12), defBody (top 12), defScope (top 12), [], [], []⟩
def dx_joined_trees : DefX := ⟨("joined_trees", none), "joined_trees", "joined_trees", defArgs (top 13), defBody (top 13), defScope (top 13), [], [], []⟩
def dx_joined : DefX := ⟨("joined", none), "joined", "joined", defArgs (top 14), defBody (top 14), defScope (top 14), [], [], []⟩
def dx_shared : DefX := ⟨("shared", none), "shared", "shared", defArgs (top 15), defBody (top 15), defScope (top 15), [], [], []⟩
def dx__law_cell : DefX := ⟨("_law_cell", none), "_law_cell", "_law_cell", defArgs (top 17), defBody (top 17), defScope (top 17), [], [], []⟩
def dx__law_hash : DefX := ⟨("_law_hash", none), "_law_hash", "_law_hash", defArgs (top 18), defBody (top 18), defScope (top 18), [], [], []⟩
def dx__law_generator : DefX := ⟨("_law_generator", none), "_law_generator", "_law_generator", defArgs (top 19), defBody (top 19), defScope (top 19), [], [], []⟩
def dx__law_tree : DefX := ⟨("_law_tree", none), "_law_tree", "_law_tree", defArgs (top 20), defBody (top 20), defScope (top 20), [], [], []⟩
def dx__law_trees : DefX := ⟨("_law_trees", none), "_law_trees", "_law_trees", defArgs (top 21), defBody (top 21), defScope (top 21), [], [], []⟩
def dx__law_random : DefX := ⟨("_law_random", none), "_law_random", "_law_random", defArgs (top 22), defBody (top 22), defScope (top 22), [], [], []⟩
def dx__law_two_right : DefX := ⟨("_law_two_right", none), "_law_two_right", "_law_two_right", defArgs (top 23), defBody (top 23), defScope (top 23), [], [], []⟩
def dx_law : DefX := ⟨("law", none), "law", "law", defArgs (top 24), defBody (top 24), defScope (top 24), [], [], []⟩
def fnL : List DefX := ([dx_InvalidTree___init__,
  dx_InvalidList___init__,
  dx_is_tree,
  dx_check_tree,
  dx_size,
  dx_end_of,
  dx_grown_by,
  dx_grown,
  dx_hung_on,
  dx_hung,
  dx_joined_trees,
  dx_joined,
  dx_shared,
  dx__law_cell,
  dx__law_hash,
  dx__law_generator,
  dx__law_tree,
  dx__law_trees,
  dx__law_random,
  dx__law_two_right,
  dx_law] : List DefX)
def faL : List FaX := ([fun K => (He.Fa.glo "TurnError").ok K,
  fun K => (He.Fa.glo "InvalidTree").ok K,
  fun K => (He.Fa.glo "InvalidList").ok K,
  fun K => (He.Fa.glo "is_tree").ok K,
  fun K => (He.Fa.glo "check_tree").ok K,
  fun K => (He.Fa.glo "size").ok K,
  fun K => (He.Fa.glo "end_of").ok K,
  fun K => (He.Fa.glo "grown_by").ok K,
  fun K => (He.Fa.glo "grown").ok K,
  fun K => (He.Fa.glo "hung_on").ok K,
  fun K => (He.Fa.glo "hung").ok K,
  fun K => (He.Fa.glo "joined_trees").ok K,
  fun K => (He.Fa.glo "joined").ok K,
  fun K => (He.Fa.glo "shared").ok K,
  fun K => (He.Fa.glo "_law_cell").ok K] : List FaX) ++ ([fun K => (He.Fa.glo "_law_hash").ok K,
  fun K => (He.Fa.glo "_law_generator").ok K,
  fun K => (He.Fa.glo "_law_tree").ok K,
  fun K => (He.Fa.glo "_law_trees").ok K,
  fun K => (He.Fa.glo "_law_random").ok K,
  fun K => (He.Fa.glo "_law_two_right").ok K,
  fun K => (He.Fa.glo "law").ok K,
  fun K => (He.Fa.free "isinstance").ok K,
  fun K => (He.Fa.free "str").ok K,
  fun K => (He.Fa.free "enumerate").ok K,
  fun K => (He.Fa.free "len").ok K,
  fun K => (He.Fa.free "list").ok K,
  fun K => (He.Fa.free "int").ok K,
  fun K => (He.Fa.free "max").ok K,
  fun K => (He.Fa.free "range").ok K] : List FaX) ++ ([fun K => exB Pg "InvalidTree" "value" K,
  fun K => exB Pg "InvalidList" "value" K] : List FaX)
def loose : List PySem.Str := (["TurnError",
  "InvalidTree",
  "InvalidList",
  "is_tree",
  "check_tree",
  "size",
  "end_of",
  "grown_by",
  "grown",
  "hung_on",
  "hung",
  "joined_trees",
  "joined",
  "shared",
  "_law_cell",
  "_law_hash",
  "_law_generator",
  "_law_tree",
  "_law_trees",
  "_law_random",
  "_law_two_right"] : List PySem.Str)
abbrev hk : PySem.W.Hook := hookX 4 faL fnL
def ob (s : PySem.W.SharedT) : AlX := obsXG 4 faL fnL (HandSHeadRun.getT s)
theorem ob_eq (s : PySem.W.SharedT) : ob s = hk.obs s.abs := obsXG_eq (HandSHeadRun.getT_eq s)
set_option maxHeartbeats 0 in
theorem run (w : World) : HandSHeadRun.RunEq Rw (PySem.W.view Rw.prog [24]) hk ob 6000 loose w := by
  intro os
  kernel_rfl
theorem facts {w : World} {K : PySem.W.Frag} {h : Heap} {mg : Str → Option Value} {fa : Addr} (X : K.In h) (G : h.Ns mainGlobals mg) (hfa : mg ("law" : Str) = some (.ref fa)) (c : SaysX faL fnL K) :
    ∃ fd : FuncData, (∀ (s : Shared) (v : Value), BindsTo s fd ⟨[v], []⟩ [("_law_script", v)]) ∧ ∀ base : Heap, K.In base → base.Ns mainGlobals mg → FnG Pg w K mg base CX0 100 fa fd ["_law_script"] (sp_law K) := by
  have g_TurnError : mg "TurnError" = some (.ref (He.ga K "TurnError")) := He.glo_ok X G (c.fact 0 (f := fun K => (He.Fa.glo "TurnError").ok K))
  have g_InvalidTree : mg "InvalidTree" = some (.ref (He.ga K "InvalidTree")) := He.glo_ok X G (c.fact 1 (f := fun K => (He.Fa.glo "InvalidTree").ok K))
  have g_InvalidList : mg "InvalidList" = some (.ref (He.ga K "InvalidList")) := He.glo_ok X G (c.fact 2 (f := fun K => (He.Fa.glo "InvalidList").ok K))
  have g_is_tree : mg "is_tree" = some (.ref (He.ga K "is_tree")) := He.glo_ok X G (c.fact 3 (f := fun K => (He.Fa.glo "is_tree").ok K))
  have g_check_tree : mg "check_tree" = some (.ref (He.ga K "check_tree")) := He.glo_ok X G (c.fact 4 (f := fun K => (He.Fa.glo "check_tree").ok K))
  have g_size : mg "size" = some (.ref (He.ga K "size")) := He.glo_ok X G (c.fact 5 (f := fun K => (He.Fa.glo "size").ok K))
  have g_end_of : mg "end_of" = some (.ref (He.ga K "end_of")) := He.glo_ok X G (c.fact 6 (f := fun K => (He.Fa.glo "end_of").ok K))
  have g_grown_by : mg "grown_by" = some (.ref (He.ga K "grown_by")) := He.glo_ok X G (c.fact 7 (f := fun K => (He.Fa.glo "grown_by").ok K))
  have g_grown : mg "grown" = some (.ref (He.ga K "grown")) := He.glo_ok X G (c.fact 8 (f := fun K => (He.Fa.glo "grown").ok K))
  have g_hung_on : mg "hung_on" = some (.ref (He.ga K "hung_on")) := He.glo_ok X G (c.fact 9 (f := fun K => (He.Fa.glo "hung_on").ok K))
  have g_hung : mg "hung" = some (.ref (He.ga K "hung")) := He.glo_ok X G (c.fact 10 (f := fun K => (He.Fa.glo "hung").ok K))
  have g_joined_trees : mg "joined_trees" = some (.ref (He.ga K "joined_trees")) := He.glo_ok X G (c.fact 11 (f := fun K => (He.Fa.glo "joined_trees").ok K))
  have g_joined : mg "joined" = some (.ref (He.ga K "joined")) := He.glo_ok X G (c.fact 12 (f := fun K => (He.Fa.glo "joined").ok K))
  have g_shared : mg "shared" = some (.ref (He.ga K "shared")) := He.glo_ok X G (c.fact 13 (f := fun K => (He.Fa.glo "shared").ok K))
  have g__law_cell : mg "_law_cell" = some (.ref (He.ga K "_law_cell")) := He.glo_ok X G (c.fact 14 (f := fun K => (He.Fa.glo "_law_cell").ok K))
  have g__law_hash : mg "_law_hash" = some (.ref (He.ga K "_law_hash")) := He.glo_ok X G (c.fact 15 (f := fun K => (He.Fa.glo "_law_hash").ok K))
  have g__law_generator : mg "_law_generator" = some (.ref (He.ga K "_law_generator")) := He.glo_ok X G (c.fact 16 (f := fun K => (He.Fa.glo "_law_generator").ok K))
  have g__law_tree : mg "_law_tree" = some (.ref (He.ga K "_law_tree")) := He.glo_ok X G (c.fact 17 (f := fun K => (He.Fa.glo "_law_tree").ok K))
  have g__law_trees : mg "_law_trees" = some (.ref (He.ga K "_law_trees")) := He.glo_ok X G (c.fact 18 (f := fun K => (He.Fa.glo "_law_trees").ok K))
  have g__law_random : mg "_law_random" = some (.ref (He.ga K "_law_random")) := He.glo_ok X G (c.fact 19 (f := fun K => (He.Fa.glo "_law_random").ok K))
  have g__law_two_right : mg "_law_two_right" = some (.ref (He.ga K "_law_two_right")) := He.glo_ok X G (c.fact 20 (f := fun K => (He.Fa.glo "_law_two_right").ok K))
  have g_law : mg "law" = some (.ref (He.ga K "law")) := He.glo_ok X G (c.fact 21 (f := fun K => (He.Fa.glo "law").ok K))
  have T : Tx K mg := ⟨He.free_ok X G (c.fact 22 (f := fun K => (He.Fa.free "isinstance").ok K)), He.free_ok X G (c.fact 23 (f := fun K => (He.Fa.free "str").ok K)), He.free_ok X G (c.fact 24 (f := fun K => (He.Fa.free "enumerate").ok K)), He.free_ok X G (c.fact 25 (f := fun K => (He.Fa.free "len").ok K)), He.free_ok X G (c.fact 26 (f := fun K => (He.Fa.free "list").ok K)), He.free_ok X G (c.fact 27 (f := fun K => (He.Fa.free "int").ok K)), He.free_ok X G (c.fact 28 (f := fun K => (He.Fa.free "max").ok K)), He.free_ok X G (c.fact 29 (f := fun K => (He.Fa.free "range").ok K))⟩
  obtain ⟨X_InvalidTree, E_InvalidTree⟩ : ExcAt Pg w K mg "InvalidTree" "value" (He.ga K "InvalidTree") ∧ ExcK K "value" (He.ga K "InvalidTree") := ex_of (q := [⟨7, 8, 7, 13⟩, ⟨7, 8, 7, 15⟩, ⟨7, 8, 7, 24⟩, ⟨7, 25, 7, 30⟩, ⟨7, 8, 7, 31⟩, ⟨7, 8, 7, 31⟩, ⟨8, 8, 8, 12⟩, ⟨8, 8, 8, 18⟩, ⟨8, 21, 8, 26⟩, ⟨8, 8, 8, 26⟩]) X G (c.fact 30 (f := fun K => exB Pg "InvalidTree" "value" K)) (c.def0 0 (d := dx_InvalidTree___init__)) rfl rfl rfl rfl rfl rfl rfl (by decide) (by decide) rfl rfl rfl rfl rfl rfl rfl (by decide) (by decide +kernel) (fun env h => by cases env; cases h; rfl) (fun env h => by cases env; cases h; exact ⟨_, rfl⟩) (fun env h => by cases env; cases h; rfl) (fun _ _ _ _ _ _ _ _ _ _ => ⟨_, rfl, rfl⟩) (fun _ _ _ _ _ _ _ _ _ => ⟨_, rfl, rfl⟩) (fun _ _ _ _ _ _ _ _ _ _ => ⟨_, rfl, rfl⟩)
  obtain ⟨X_InvalidList, E_InvalidList⟩ : ExcAt Pg w K mg "InvalidList" "value" (He.ga K "InvalidList") ∧ ExcK K "value" (He.ga K "InvalidList") := ex_of (q := [⟨12, 8, 12, 13⟩, ⟨12, 8, 12, 15⟩, ⟨12, 8, 12, 24⟩, ⟨12, 25, 12, 30⟩, ⟨12, 8, 12, 31⟩, ⟨12, 8, 12, 31⟩, ⟨13, 8, 13, 12⟩, ⟨13, 8, 13, 18⟩, ⟨13, 21, 13, 26⟩, ⟨13, 8, 13, 26⟩]) X G (c.fact 31 (f := fun K => exB Pg "InvalidList" "value" K)) (c.def0 1 (d := dx_InvalidList___init__)) rfl rfl rfl rfl rfl rfl rfl (by decide) (by decide) rfl rfl rfl rfl rfl rfl rfl (by decide) (by decide +kernel) (fun env h => by cases env; cases h; rfl) (fun env h => by cases env; cases h; exact ⟨_, rfl⟩) (fun env h => by cases env; cases h; rfl) (fun _ _ _ _ _ _ _ _ _ _ => ⟨_, rfl, rfl⟩) (fun _ _ _ _ _ _ _ _ _ => ⟨_, rfl, rfl⟩) (fun _ _ _ _ _ _ _ _ _ _ => ⟨_, rfl, rfl⟩)
  obtain ⟨fd_is_tree, F_is_tree⟩ := c.def_ 2 (d := dx_is_tree)
  obtain ⟨fd_check_tree, F_check_tree⟩ := c.def_ 3 (d := dx_check_tree)
  obtain ⟨fd_size, F_size⟩ := c.def_ 4 (d := dx_size)
  obtain ⟨fd_end_of, F_end_of⟩ := c.def_ 5 (d := dx_end_of)
  obtain ⟨fd_grown_by, F_grown_by⟩ := c.def_ 6 (d := dx_grown_by)
  obtain ⟨fd_grown, F_grown⟩ := c.def_ 7 (d := dx_grown)
  obtain ⟨fd_hung_on, F_hung_on⟩ := c.def_ 8 (d := dx_hung_on)
  obtain ⟨fd_hung, F_hung⟩ := c.def_ 9 (d := dx_hung)
  obtain ⟨fd_joined_trees, F_joined_trees⟩ := c.def_ 10 (d := dx_joined_trees)
  obtain ⟨fd_joined, F_joined⟩ := c.def_ 11 (d := dx_joined)
  obtain ⟨fd_shared, F_shared⟩ := c.def_ 12 (d := dx_shared)
  obtain ⟨fd__law_cell, F__law_cell⟩ := c.def_ 13 (d := dx__law_cell)
  obtain ⟨fd__law_hash, F__law_hash⟩ := c.def_ 14 (d := dx__law_hash)
  obtain ⟨fd__law_generator, F__law_generator⟩ := c.def_ 15 (d := dx__law_generator)
  obtain ⟨fd__law_tree, F__law_tree⟩ := c.def_ 16 (d := dx__law_tree)
  obtain ⟨fd__law_trees, F__law_trees⟩ := c.def_ 17 (d := dx__law_trees)
  obtain ⟨fd__law_random, F__law_random⟩ := c.def_ 18 (d := dx__law_random)
  obtain ⟨fd__law_two_right, F__law_two_right⟩ := c.def_ 19 (d := dx__law_two_right)
  obtain ⟨fd_law, F_law⟩ := c.def_ 20 (d := dx_law)
  cases hfa.symm.trans g_law
  refine ⟨fd_law, fun s v => FunD.bindsA (ps := ["_law_script"]) F_law (fun _ _ _ _ _ _ us hl => match us, hl with | [_], _ => rfl) s [v] rfl, fun base _ _ => ?_⟩
  have C__law_cell : CalG Pg w K mg base CX0 "_law_cell" 1 ["_law_script", "_law_index"] [] (sp__law_cell K) := ⟨_, fd__law_cell, [], ok__law_cell (k := 0) F__law_cell T   (fun vs H Q E h => by first | (obtain ⟨_, rfl, _⟩ := h; rfl) | (obtain ⟨_, _, rfl, _⟩ := h; rfl) | (obtain ⟨_, _, _, rfl, _⟩ := h; rfl) | (obtain ⟨_, _, _, _, rfl, _⟩ := h; rfl) | (obtain ⟨_, _, _, _, _, rfl, _⟩ := h; rfl) | (obtain ⟨_, _, _, _, _, _, rfl, _⟩ := h; rfl) | (obtain ⟨_, _, _, _, _, _, _, rfl, _⟩ := h; rfl) | (obtain ⟨_, _, _, _, _, _, _, _, rfl, _⟩ := h; rfl)) (pu__law_cell K), g__law_cell, F__law_cell.kp, F__law_cell.bindsN (ps := ["_law_script", "_law_index"]) fun _ _ _ _ _ _ us hl => match us, hl with | [_, _], _ => rfl, .nil⟩
  have C__law_generator : CalG Pg w K mg base CX0 "_law_generator" 2 ["_law_script", "_law_index"] [] (sp__law_generator K) := ⟨_, fd__law_generator, [], ok__law_generator (k := 1) F__law_generator T C__law_cell (by omega) (fun vs H Q E h => by first | (obtain ⟨_, rfl, _⟩ := h; rfl) | (obtain ⟨_, _, rfl, _⟩ := h; rfl) | (obtain ⟨_, _, _, rfl, _⟩ := h; rfl) | (obtain ⟨_, _, _, _, rfl, _⟩ := h; rfl) | (obtain ⟨_, _, _, _, _, rfl, _⟩ := h; rfl) | (obtain ⟨_, _, _, _, _, _, rfl, _⟩ := h; rfl) | (obtain ⟨_, _, _, _, _, _, _, rfl, _⟩ := h; rfl) | (obtain ⟨_, _, _, _, _, _, _, _, rfl, _⟩ := h; rfl)) (pu__law_generator K), g__law_generator, F__law_generator.kp, F__law_generator.bindsN (ps := ["_law_script", "_law_index"]) fun _ _ _ _ _ _ us hl => match us, hl with | [_, _], _ => rfl, .nil⟩
  have C__law_hash : CalG Pg w K mg base CX0 "_law_hash" 1 ["_law_seed", "_law_index"] [] (sp__law_hash) := ⟨_, fd__law_hash, [], ok__law_hash (k := 0) F__law_hash T   (fun vs H Q E h => by first | (obtain ⟨_, rfl, _⟩ := h; rfl) | (obtain ⟨_, _, rfl, _⟩ := h; rfl) | (obtain ⟨_, _, _, rfl, _⟩ := h; rfl) | (obtain ⟨_, _, _, _, rfl, _⟩ := h; rfl) | (obtain ⟨_, _, _, _, _, rfl, _⟩ := h; rfl) | (obtain ⟨_, _, _, _, _, _, rfl, _⟩ := h; rfl) | (obtain ⟨_, _, _, _, _, _, _, rfl, _⟩ := h; rfl) | (obtain ⟨_, _, _, _, _, _, _, _, rfl, _⟩ := h; rfl)) (pu__law_hash K), g__law_hash, F__law_hash.kp, F__law_hash.bindsN (ps := ["_law_seed", "_law_index"]) fun _ _ _ _ _ _ us hl => match us, hl with | [_, _], _ => rfl, .nil⟩
  have C__law_random : CalG Pg w K mg base CX0 "_law_random" 2 ["_law_generator_here", "_law_bound"] [] (sp__law_random) := ⟨_, fd__law_random, [], ok__law_random (k := 1) F__law_random T C__law_hash (by omega) (fun vs H Q E h => by first | (obtain ⟨_, rfl, _⟩ := h; rfl) | (obtain ⟨_, _, rfl, _⟩ := h; rfl) | (obtain ⟨_, _, _, rfl, _⟩ := h; rfl) | (obtain ⟨_, _, _, _, rfl, _⟩ := h; rfl) | (obtain ⟨_, _, _, _, _, rfl, _⟩ := h; rfl) | (obtain ⟨_, _, _, _, _, _, rfl, _⟩ := h; rfl) | (obtain ⟨_, _, _, _, _, _, _, rfl, _⟩ := h; rfl) | (obtain ⟨_, _, _, _, _, _, _, _, rfl, _⟩ := h; rfl)) (pu__law_random K), g__law_random, F__law_random.kp, F__law_random.bindsN (ps := ["_law_generator_here", "_law_bound"]) fun _ _ _ _ _ _ us hl => match us, hl with | [_, _], _ => rfl, .nil⟩
  have R__law_tree : ∀ n : Nat, CalG Pg w K mg base CX0 "_law_tree" (2 + n) ["_law_generator_here", "_law_many"] [] (sp__law_tree n) := by
    intro n
    induction n with
    | zero => exact ⟨_, fd__law_tree, [], FnG.zero (fun vs H Q E h => by obtain ⟨_, _, _, _, z, _⟩ := h; exact absurd z (Nat.not_lt_zero _)), g__law_tree, F__law_tree.kp, F__law_tree.bindsN (ps := ["_law_generator_here", "_law_many"]) fun _ _ _ _ _ _ us hl => match us, hl with | [_, _], _ => rfl, .nil⟩
    | succ n ih => exact ⟨_, fd__law_tree, [], ok__law_tree (k := 2 + n) F__law_tree T C__law_random ih (by omega) (by omega) (fun vs H Q E h => by first | (obtain ⟨_, rfl, _⟩ := h; rfl) | (obtain ⟨_, _, rfl, _⟩ := h; rfl) | (obtain ⟨_, _, _, rfl, _⟩ := h; rfl) | (obtain ⟨_, _, _, _, rfl, _⟩ := h; rfl) | (obtain ⟨_, _, _, _, _, rfl, _⟩ := h; rfl) | (obtain ⟨_, _, _, _, _, _, rfl, _⟩ := h; rfl) | (obtain ⟨_, _, _, _, _, _, _, rfl, _⟩ := h; rfl) | (obtain ⟨_, _, _, _, _, _, _, _, rfl, _⟩ := h; rfl)) (pu__law_tree K n), g__law_tree, F__law_tree.kp, F__law_tree.bindsN (ps := ["_law_generator_here", "_law_many"]) fun _ _ _ _ _ _ us hl => match us, hl with | [_, _], _ => rfl, .nil⟩
  have C__law_tree : CalG Pg w K mg base CX0 "_law_tree" 72 ["_law_generator_here", "_law_many"] [] (sp__law_tree 70) := R__law_tree 70
  have C_is_tree : CalG Pg w K mg base CX0 "is_tree" 1 ["value"] [] (sp_is_tree K) := ⟨_, fd_is_tree, [], ok_is_tree (k := 0) F_is_tree T   (fun vs H Q E h => by first | (obtain ⟨_, rfl, _⟩ := h; rfl) | (obtain ⟨_, _, rfl, _⟩ := h; rfl) | (obtain ⟨_, _, _, rfl, _⟩ := h; rfl) | (obtain ⟨_, _, _, _, rfl, _⟩ := h; rfl) | (obtain ⟨_, _, _, _, _, rfl, _⟩ := h; rfl) | (obtain ⟨_, _, _, _, _, _, rfl, _⟩ := h; rfl) | (obtain ⟨_, _, _, _, _, _, _, rfl, _⟩ := h; rfl) | (obtain ⟨_, _, _, _, _, _, _, _, rfl, _⟩ := h; rfl)) (pu_is_tree K), g_is_tree, F_is_tree.kp, F_is_tree.bindsN (ps := ["value"]) fun _ _ _ _ _ _ us hl => match us, hl with | [_], _ => rfl, .nil⟩
  have C_check_tree : CalG Pg w K mg base (L2.CX Pg w) "check_tree" 2 ["value"] [] (sp_check_tree K (He.ga K "InvalidTree")) := ⟨_, fd_check_tree, [], ok_check_tree (k := 1) F_check_tree T C_is_tree X_InvalidTree (by omega) (fun vs H Q E h => by first | (obtain ⟨_, rfl, _⟩ := h; rfl) | (obtain ⟨_, _, rfl, _⟩ := h; rfl) | (obtain ⟨_, _, _, rfl, _⟩ := h; rfl) | (obtain ⟨_, _, _, _, rfl, _⟩ := h; rfl) | (obtain ⟨_, _, _, _, _, rfl, _⟩ := h; rfl) | (obtain ⟨_, _, _, _, _, _, rfl, _⟩ := h; rfl) | (obtain ⟨_, _, _, _, _, _, _, rfl, _⟩ := h; rfl) | (obtain ⟨_, _, _, _, _, _, _, _, rfl, _⟩ := h; rfl)) (pu_check_tree K (He.ga K "InvalidTree")), g_check_tree, F_check_tree.kp, F_check_tree.bindsN (ps := ["value"]) fun _ _ _ _ _ _ us hl => match us, hl with | [_], _ => rfl, .nil⟩
  have C_grown_by : CalG Pg w K mg base CX0 "grown_by" 1 ["tree", "trees"] [] (sp_grown_by K) := ⟨_, fd_grown_by, [], ok_grown_by (k := 0) F_grown_by T   (fun vs H Q E h => by first | (obtain ⟨_, rfl, _⟩ := h; rfl) | (obtain ⟨_, _, rfl, _⟩ := h; rfl) | (obtain ⟨_, _, _, rfl, _⟩ := h; rfl) | (obtain ⟨_, _, _, _, rfl, _⟩ := h; rfl) | (obtain ⟨_, _, _, _, _, rfl, _⟩ := h; rfl) | (obtain ⟨_, _, _, _, _, _, rfl, _⟩ := h; rfl) | (obtain ⟨_, _, _, _, _, _, _, rfl, _⟩ := h; rfl) | (obtain ⟨_, _, _, _, _, _, _, _, rfl, _⟩ := h; rfl)) (pu_grown_by K), g_grown_by, F_grown_by.kp, F_grown_by.bindsN (ps := ["tree", "trees"]) fun _ _ _ _ _ _ us hl => match us, hl with | [_, _], _ => rfl, .nil⟩
  have C_grown : CalG Pg w K mg base CX0 "grown" 3 ["tree", "hung"] [] (sp_grown K) := ⟨_, fd_grown, [], ok_grown (k := 2) F_grown T C_check_tree C_is_tree C_grown_by X_InvalidList (by omega) (by omega) (by omega) (fun vs H Q E h => by first | (obtain ⟨_, rfl, _⟩ := h; rfl) | (obtain ⟨_, _, rfl, _⟩ := h; rfl) | (obtain ⟨_, _, _, rfl, _⟩ := h; rfl) | (obtain ⟨_, _, _, _, rfl, _⟩ := h; rfl) | (obtain ⟨_, _, _, _, _, rfl, _⟩ := h; rfl) | (obtain ⟨_, _, _, _, _, _, rfl, _⟩ := h; rfl) | (obtain ⟨_, _, _, _, _, _, _, rfl, _⟩ := h; rfl) | (obtain ⟨_, _, _, _, _, _, _, _, rfl, _⟩ := h; rfl)) (pu_grown K (He.ga K "InvalidTree") (He.ga K "InvalidList")), g_grown, F_grown.kp, F_grown.bindsN (ps := ["tree", "hung"]) fun _ _ _ _ _ _ us hl => match us, hl with | [_, _], _ => rfl, .nil⟩
  have C__law_trees : CalG Pg w K mg base CX0 "_law_trees" 73 ["_law_generator_here", "_law_many"] [] (sp__law_trees) := ⟨_, fd__law_trees, [], ok__law_trees (k := 72) F__law_trees T C__law_tree C__law_random (by omega) (by omega) (fun vs H Q E h => by first | (obtain ⟨_, rfl, _⟩ := h; rfl) | (obtain ⟨_, _, rfl, _⟩ := h; rfl) | (obtain ⟨_, _, _, rfl, _⟩ := h; rfl) | (obtain ⟨_, _, _, _, rfl, _⟩ := h; rfl) | (obtain ⟨_, _, _, _, _, rfl, _⟩ := h; rfl) | (obtain ⟨_, _, _, _, _, _, rfl, _⟩ := h; rfl) | (obtain ⟨_, _, _, _, _, _, _, rfl, _⟩ := h; rfl) | (obtain ⟨_, _, _, _, _, _, _, _, rfl, _⟩ := h; rfl)) (pu__law_trees K 70 (by decide)), g__law_trees, F__law_trees.kp, F__law_trees.bindsN (ps := ["_law_generator_here", "_law_many"]) fun _ _ _ _ _ _ us hl => match us, hl with | [_, _], _ => rfl, .nil⟩
  have C_end_of : CalG Pg w K mg base CX0 "end_of" 1 ["tree", "start"] [] (sp_end_of) := ⟨_, fd_end_of, [], ok_end_of (k := 0) F_end_of T   (fun vs H Q E h => by first | (obtain ⟨_, rfl, _⟩ := h; rfl) | (obtain ⟨_, _, rfl, _⟩ := h; rfl) | (obtain ⟨_, _, _, rfl, _⟩ := h; rfl) | (obtain ⟨_, _, _, _, rfl, _⟩ := h; rfl) | (obtain ⟨_, _, _, _, _, rfl, _⟩ := h; rfl) | (obtain ⟨_, _, _, _, _, _, rfl, _⟩ := h; rfl) | (obtain ⟨_, _, _, _, _, _, _, rfl, _⟩ := h; rfl) | (obtain ⟨_, _, _, _, _, _, _, _, rfl, _⟩ := h; rfl)) (pu_end_of K), g_end_of, F_end_of.kp, F_end_of.bindsN (ps := ["tree", "start"]) fun _ _ _ _ _ _ us hl => match us, hl with | [_, _], _ => rfl, .nil⟩
  have C_shared : CalG Pg w K mg base CX0 "shared" 3 ["one", "other"] [] (sp_shared K) := ⟨_, fd_shared, [], ok_shared (k := 2) F_shared T C_check_tree C_end_of (by omega) (by omega) (fun vs H Q E h => by first | (obtain ⟨_, rfl, _⟩ := h; rfl) | (obtain ⟨_, _, rfl, _⟩ := h; rfl) | (obtain ⟨_, _, _, rfl, _⟩ := h; rfl) | (obtain ⟨_, _, _, _, rfl, _⟩ := h; rfl) | (obtain ⟨_, _, _, _, _, rfl, _⟩ := h; rfl) | (obtain ⟨_, _, _, _, _, _, rfl, _⟩ := h; rfl) | (obtain ⟨_, _, _, _, _, _, _, rfl, _⟩ := h; rfl) | (obtain ⟨_, _, _, _, _, _, _, _, rfl, _⟩ := h; rfl)) (pu_shared K (He.ga K "InvalidTree")), g_shared, F_shared.kp, F_shared.bindsN (ps := ["one", "other"]) fun _ _ _ _ _ _ us hl => match us, hl with | [_, _], _ => rfl, .nil⟩
  have C_joined_trees : CalG Pg w K mg base CX0 "joined_trees" 2 ["one", "other"] [] (sp_joined_trees) := ⟨_, fd_joined_trees, [], ok_joined_trees (k := 1) F_joined_trees T C_end_of (by omega) (fun vs H Q E h => by first | (obtain ⟨_, rfl, _⟩ := h; rfl) | (obtain ⟨_, _, rfl, _⟩ := h; rfl) | (obtain ⟨_, _, _, rfl, _⟩ := h; rfl) | (obtain ⟨_, _, _, _, rfl, _⟩ := h; rfl) | (obtain ⟨_, _, _, _, _, rfl, _⟩ := h; rfl) | (obtain ⟨_, _, _, _, _, _, rfl, _⟩ := h; rfl) | (obtain ⟨_, _, _, _, _, _, _, rfl, _⟩ := h; rfl) | (obtain ⟨_, _, _, _, _, _, _, _, rfl, _⟩ := h; rfl)) (pu_joined_trees K), g_joined_trees, F_joined_trees.kp, F_joined_trees.bindsN (ps := ["one", "other"]) fun _ _ _ _ _ _ us hl => match us, hl with | [_, _], _ => rfl, .nil⟩
  have C_joined : CalG Pg w K mg base CX0 "joined" 3 ["one", "other"] [] (sp_joined K) := ⟨_, fd_joined, [], ok_joined (k := 2) F_joined T C_check_tree C_joined_trees (by omega) (by omega) (fun vs H Q E h => by first | (obtain ⟨_, rfl, _⟩ := h; rfl) | (obtain ⟨_, _, rfl, _⟩ := h; rfl) | (obtain ⟨_, _, _, rfl, _⟩ := h; rfl) | (obtain ⟨_, _, _, _, rfl, _⟩ := h; rfl) | (obtain ⟨_, _, _, _, _, rfl, _⟩ := h; rfl) | (obtain ⟨_, _, _, _, _, _, rfl, _⟩ := h; rfl) | (obtain ⟨_, _, _, _, _, _, _, rfl, _⟩ := h; rfl) | (obtain ⟨_, _, _, _, _, _, _, _, rfl, _⟩ := h; rfl)) (pu_joined K (He.ga K "InvalidTree")), g_joined, F_joined.kp, F_joined.bindsN (ps := ["one", "other"]) fun _ _ _ _ _ _ us hl => match us, hl with | [_, _], _ => rfl, .nil⟩
  have C_size : CalG Pg w K mg base CX0 "size" 3 ["tree"] [] (sp_size K) := ⟨_, fd_size, [], ok_size (k := 2) F_size T C_check_tree (by omega) (fun vs H Q E h => by first | (obtain ⟨_, rfl, _⟩ := h; rfl) | (obtain ⟨_, _, rfl, _⟩ := h; rfl) | (obtain ⟨_, _, _, rfl, _⟩ := h; rfl) | (obtain ⟨_, _, _, _, rfl, _⟩ := h; rfl) | (obtain ⟨_, _, _, _, _, rfl, _⟩ := h; rfl) | (obtain ⟨_, _, _, _, _, _, rfl, _⟩ := h; rfl) | (obtain ⟨_, _, _, _, _, _, _, rfl, _⟩ := h; rfl) | (obtain ⟨_, _, _, _, _, _, _, _, rfl, _⟩ := h; rfl)) (pu_size K (He.ga K "InvalidTree")), g_size, F_size.kp, F_size.bindsN (ps := ["tree"]) fun _ _ _ _ _ _ us hl => match us, hl with | [_], _ => rfl, .nil⟩
  have C_hung_on : CalG Pg w K mg base CX0 "hung_on" 2 ["tree", "top"] [] (sp_hung_on) := ⟨_, fd_hung_on, [], ok_hung_on (k := 1) F_hung_on T C_end_of (by omega) (fun vs H Q E h => by first | (obtain ⟨_, rfl, _⟩ := h; rfl) | (obtain ⟨_, _, rfl, _⟩ := h; rfl) | (obtain ⟨_, _, _, rfl, _⟩ := h; rfl) | (obtain ⟨_, _, _, _, rfl, _⟩ := h; rfl) | (obtain ⟨_, _, _, _, _, rfl, _⟩ := h; rfl) | (obtain ⟨_, _, _, _, _, _, rfl, _⟩ := h; rfl) | (obtain ⟨_, _, _, _, _, _, _, rfl, _⟩ := h; rfl) | (obtain ⟨_, _, _, _, _, _, _, _, rfl, _⟩ := h; rfl)) (pu_hung_on K), g_hung_on, F_hung_on.kp, F_hung_on.bindsN (ps := ["tree", "top"]) fun _ _ _ _ _ _ us hl => match us, hl with | [_, _], _ => rfl, .nil⟩
  have C_hung : CalG Pg w K mg base CX0 "hung" 3 ["tree", "top"] [] (sp_hung K) := ⟨_, fd_hung, [], ok_hung (k := 2) F_hung T C_check_tree C_hung_on (by omega) (by omega) (fun vs H Q E h => by first | (obtain ⟨_, rfl, _⟩ := h; rfl) | (obtain ⟨_, _, rfl, _⟩ := h; rfl) | (obtain ⟨_, _, _, rfl, _⟩ := h; rfl) | (obtain ⟨_, _, _, _, rfl, _⟩ := h; rfl) | (obtain ⟨_, _, _, _, _, rfl, _⟩ := h; rfl) | (obtain ⟨_, _, _, _, _, _, rfl, _⟩ := h; rfl) | (obtain ⟨_, _, _, _, _, _, _, rfl, _⟩ := h; rfl) | (obtain ⟨_, _, _, _, _, _, _, _, rfl, _⟩ := h; rfl)) (pu_hung K (He.ga K "InvalidTree")), g_hung, F_hung.kp, F_hung.bindsN (ps := ["tree", "top"]) fun _ _ _ _ _ _ us hl => match us, hl with | [_, _], _ => rfl, .nil⟩
  have C__law_two_right : CalG Pg w K mg base CX0 "_law_two_right" 4 ["_law_one", "_law_other"] [] (sp__law_two_right) := ⟨_, fd__law_two_right, [], ok__law_two_right (k := 3) F__law_two_right T C_shared C_joined C_size C_hung C_grown (by omega) (by omega) (by omega) (by omega) (by omega) (fun vs H Q E h => by first | (obtain ⟨_, rfl, _⟩ := h; rfl) | (obtain ⟨_, _, rfl, _⟩ := h; rfl) | (obtain ⟨_, _, _, rfl, _⟩ := h; rfl) | (obtain ⟨_, _, _, _, rfl, _⟩ := h; rfl) | (obtain ⟨_, _, _, _, _, rfl, _⟩ := h; rfl) | (obtain ⟨_, _, _, _, _, _, rfl, _⟩ := h; rfl) | (obtain ⟨_, _, _, _, _, _, _, rfl, _⟩ := h; rfl) | (obtain ⟨_, _, _, _, _, _, _, _, rfl, _⟩ := h; rfl)) (pu__law_two_right K), g__law_two_right, F__law_two_right.kp, F__law_two_right.bindsN (ps := ["_law_one", "_law_other"]) fun _ _ _ _ _ _ us hl => match us, hl with | [_, _], _ => rfl, .nil⟩
  exact (ok_law (k := 73) F_law T C__law_generator C__law_tree C__law_random C_grown C__law_trees C__law_two_right C_joined C_shared (by omega) (by omega) (by omega) (by omega) (by omega) (by omega) (by omega) (by omega) (fun vs H Q E h => by first | (obtain ⟨_, rfl, _⟩ := h; rfl) | (obtain ⟨_, _, rfl, _⟩ := h; rfl) | (obtain ⟨_, _, _, rfl, _⟩ := h; rfl) | (obtain ⟨_, _, _, _, rfl, _⟩ := h; rfl) | (obtain ⟨_, _, _, _, _, rfl, _⟩ := h; rfl) | (obtain ⟨_, _, _, _, _, _, rfl, _⟩ := h; rfl) | (obtain ⟨_, _, _, _, _, _, _, rfl, _⟩ := h; rfl) | (obtain ⟨_, _, _, _, _, _, _, _, rfl, _⟩ := h; rfl)) (pu_law K 70 (by decide))).mono (by omega)
end Pf
open PySem PySem.W PySem.Calls PyProof.Rows
set_option maxHeartbeats 0 in
theorem PySem.Challenge.cw_treeturns_k06_whole_trees_as_a_lattice_holds : PySem.Challenge.rw_treeturns_k06_whole_trees_as_a_lattice.Holds := by
  w_on; o_law
  refine HandSHeadRun.head_any (r := OpenLaw.row PySem.Challenge.rw_treeturns_k06_whole_trees_as_a_lattice) (q := view (OpenLaw.row PySem.Challenge.rw_treeturns_k06_whole_trees_as_a_lattice).prog [24]) (H := Pf.hk) (ob := Pf.ob) (M := 6000) (loose := Pf.loose) (d := HandSHeadRun.topDef (OpenLaw.row PySem.Challenge.rw_treeturns_k06_whole_trees_as_a_lattice).prog 24) (kwd := []) Pf.ob_eq
    (by kernel_rfl) (fun s => by kernel_rfl) Pf.run (by kernel_rfl) (by kernel_rfl) (by kernel_rfl) (by rfl) (by first | assumption | decide +kernel) (by decide +kernel) ⟨rfl, rfl, rfl, rfl, rfl, by decide +kernel⟩ ?hw ?hc
  case hw => w_witness2
  case hc =>
    refine M.walk_ofG (l := PySem.Challenge.rw_treeturns_k06_whole_trees_as_a_lattice) (n := 63) (k := 100) (x := "_law_script") (CX := L2.CX0) rfl (by decide) (by kernel_rfl) ⟨rfl, by decide, by decide, rfl⟩ ?F (fun _ _ _ _ z => z)
    intro w mg fa h Y G hmg0
    obtain ⟨K, KX, c⟩ := Y
    have hmg : mg ("law" : PySem.Str) = some (.ref fa) := by
      have e : (HandSHeadRun.topDef (OpenLaw.row PySem.Challenge.rw_treeturns_k06_whole_trees_as_a_lattice).prog 24).name = ("law" : PySem.Str) := by kernel_rfl
      rw [← e]
      exact hmg0
    obtain ⟨fd, hb, hF⟩ := Pf.facts (w := w) KX G hmg c
    exact ⟨K, fd, Pf.sp_law K, KX, hb, fun H a ns hl _ hS => ⟨a, ns, rfl, hS, fun _ => rfl⟩, hF⟩
