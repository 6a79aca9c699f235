import PyProof.Rows.All
import Wide.All
import OpenK.AllK
import Wide.FinOn
import HandS.ForMost
import HandS.IsInst
import HandS.FStr
import HandS.Small
import HandS.Style
import HandS.NoneIn
import HandS.ReplaceLit
import HandS.ReplaceDef
import HandS.Defaults
import HandS.TupAny
import HandS.WideBits
import HandS.RaiseMore
import KE.DataEq
import HandS.Codes
import PyProof.ListStr
import HandS.Conv
import HandS.SetBool
import HandS.Walk
import PyProof.ReprRoads
import HandS.Ends
import HandS.HeadEnd
import HandS.Zip
import PyProof.ReprLen
import HandS.HeadHook4
import HandS.HeadNt
import HandS.Star
import HandS.ClsMeth
import KE.IntTextLaws
import HandS.Text
import HandS.ExcInit
import HandS.ExcField
import HandS.ExcIs
import HandS.HotCalls
import HandS.Lambda
import KE.KExcIs
import KE.KTryMore
import KE.GoesEnum
import PyProof.EnumMake
import HandS.EndTab
import KE.KRevSl
import HandS.More
import HandS.TupMul
import HandS.Dict
import PyProof.NeKinds
import HandS.OwnEq
import HandS.Property
import PyProof.InstNe
import KE.KCallOwn
import HandS.HeadHook1
import HandS.HeadHook2
import PySem.Challenge.RW_shapekeep_k02_types_read_and_written
import HandS.Words
import HandS.WordsExc
import HandS.Head0
import HandS.Head1
import HandS.Head2
import KE.KStateDown
set_option Elab.async false
set_option linter.all false
set_option maxRecDepth 100000
set_option maxHeartbeats 0
/-! Sk: readings that compute: each rule of the layer weakened to one whose reading is a match over values -/
namespace Sk
open PySem PySem.Spec PyProof.Rows L2
section
variable {X : Cx}
theorem PEw {e : Expr} {t t' : TE} (h : PE X e t) (w : ∀ σ H Q, t' σ H Q → t σ H Q) : PE X e t' := ⟨fun pins s σ H Q I q => h.run pins s σ H Q I (w σ H Q q)⟩
theorem PTw {e : Expr} {t t' : TT} (h : PT X e t) (w : ∀ σ H Q, t' σ H Q → t σ H Q) : PT X e t' := ⟨fun pins s σ H Q I q => h.run pins s σ H Q I (w σ H Q q)⟩
theorem PWw {e : Expr} {t t' : TT} (h : PW X e t) (w : ∀ σ H Q, t' σ H Q → t σ H Q) : PW X e t' := ⟨fun wh pins s σ H Q I q => h.run wh pins s σ H Q I (w σ H Q q)⟩
theorem PSw {e : Stmt} {t t' : TS} (h : PS X e t) (w : ∀ D σ H, t' D σ H → t D σ H) : PS X e t' := ⟨fun pins s σ H D I q => h.run pins s σ H D I (w D σ H q)⟩
theorem PGw {e : Expr} {t t' : TG} (h : PG X e t) (w : ∀ v σ H Q, t' v σ H Q → t v σ H Q) : PG X e t' := ⟨fun pins s σ H v u Q I r q => h.run pins s σ H v u Q I r (w v σ H Q q)⟩
theorem PGsw {e : List Expr} {t t' : TGs} (h : PGs X e t) (w : ∀ v σ H Q, t' v σ H Q → t v σ H Q) : PGs X e t' := ⟨fun pins s σ H v u Q I r q => h.run pins s σ H v u Q I r (w v σ H Q q)⟩
theorem OpRw {f : Value → Value → Sem Value} {r r' : R2} (h : OpR X f r) (w : ∀ x y H Q, r' x y H Q → r x y H Q) : OpR X f r' := fun pins s σ H x y v u Q I rx ry q => h pins s σ H x y v u Q I rx ry (w _ _ _ _ q)
theorem UnRw {f : Value → Sem Value} {r r' : V → Hp → VK → Prop} (h : UnR X f r) (w : ∀ x H Q, r' x H Q → r x H Q) : UnR X f r' := fun pins s σ H x v Q I rx q => h pins s σ H x v Q I rx (w _ _ _ q)
theorem IxRw {r r' : R2} (h : IxR X r) (w : ∀ x y H Q, r' x y H Q → r x y H Q) : IxR X r' := fun va sl pins s σ H x y v u Q I rx ry q => h va sl pins s σ H x y v u Q I rx ry (w _ _ _ _ q)
theorem SlRw {r r' : V → Option Int → Option Int → Hp → VK → Prop} (h : SlR X r) (w : ∀ x y z H Q, r' x y z H Q → r x y z H Q) : SlR X r' := fun pins s σ H x v vl vu lo hi sl Q I rx hs pl pu q => h pins s σ H x v vl vu lo hi sl Q I rx hs pl pu (w _ _ _ _ _ q)
theorem CallRw {f : Value} {r r' : List V → Hp → VK → Prop} (h : CallR X f r) (w : ∀ xs H Q, r' xs H Q → r xs H Q) : CallR X f r' := fun pins s σ H xs us Q I rx q => h pins s σ H xs us Q I rx (w _ _ _ q)
theorem MtRw {id : String} {r r' : V → List V → Hp → VK → Prop} (h : MtR X id r) (w : ∀ x xs H Q, r' x xs H Q → r x xs H Q) : MtR X id r' := fun pins s σ H x xs v us Q I rx rs q => h pins s σ H x xs v us Q I rx rs (w _ _ _ _ q)
theorem POw {e : Option Expr} {t t' : TO} (h : PO X e t) (w : ∀ σ H Q, t' σ H Q → t σ H Q) : PO X e t' := ⟨fun pins s σ H Q I q => h.run pins s σ H Q I (w σ H Q q)⟩
/-! ### names -/
def uVar (i : Nat) : TE := fun σ H Q => match σ[i]? with | some (some v) => Q v H | _ => False
theorem vr (i : Nat) {x : Str} {pos : Pos} (hN : X.N[i]? = some x := by rfl) (hv : Vis X.env.scope x := by first | exact Or.inl rfl | exact Or.inr (Or.inl rfl) | exact Or.inr (Or.inr rfl)) (hd : (x == ("__debug__" : Str)) = false := by decide)
    (hcd : (x == ("__classdict__" : Str)) = false := by decide) : PE X (.Name x pos) (uVar i) := PEw (pe_var hN hv hd hcd) fun σ H Q q => by
  unfold uVar at q
  split at q
  · rename_i v e
    exact ⟨v, e, q⟩
  · exact q.elim
/-! ### what is wanted may be made weaker -/
def upE (t : TE) : TE := fun σ H Q => ∃ Q' : VK, (∀ v H', Q' v H' → Q v H') ∧ t σ H Q'
def upT (t : TT) : TT := fun σ H Q => ∃ Q' : Bool → Hp → Prop, (∀ v H', Q' v H' → Q v H') ∧ t σ H Q'
theorem up {e : Expr} {t : TE} (h : PE X e t) : PE X e (upE t) := ⟨fun pins s σ H Q I q => by
  obtain ⟨Q', w, q⟩ := q
  exact thn (h.run pins s σ H Q' I q) fun v s1 ⟨x, H1, I1, r1, q1⟩ => ⟨x, H1, I1, r1, w _ _ q1⟩⟩
theorem upt {e : Expr} {t : TT} (h : PT X e t) : PT X e (upT t) := ⟨fun pins s σ H Q I q => by
  obtain ⟨Q', w, q⟩ := q
  exact thn (h.run pins s σ H Q' I q) fun v s1 ⟨H1, I1, q1⟩ => ⟨H1, I1, w _ _ q1⟩⟩
theorem upw {e : Expr} {t : TT} (h : PW X e t) : PW X e (upT t) := ⟨fun wh pins s σ H Q I q => by
  obtain ⟨Q', w, q⟩ := q
  exact thn (h.run wh pins s σ H Q' I q) fun v s1 ⟨H1, I1, q1⟩ => ⟨H1, I1, w _ _ q1⟩⟩
/-! ### tests -/
/-- what a truth value hands on -/
def onB (x : V) (Q : Bool → Prop) : Prop := match x with | .bl c => Q c | _ => False
theorem onB_ex {x : V} {Q : Bool → Prop} (h : onB x Q) : ∃ c, x = .bl c ∧ Q c := by
  cases x with
  | bl c => exact ⟨c, rfl, h⟩
  | _ => exact h.elim
/-- b decides -/
def br (c : Bool) (p q : Prop) : Prop := match c with | true => p | false => q
theorem br_if {c : Bool} {p q : Prop} (h : br c p q) : if c = true then p else q := by
  cases c with
  | true => rw [if_pos rfl]; exact h
  | false => rw [if_neg (by decide)]; exact h
theorem br2 {c : Bool} {p q : Prop} (h1 : c = true → p) (h2 : c = false → q) : br c p q := by
  cases c with
  | true => exact h1 rfl
  | false => exact h2 rfl
theorem brT {c : Bool} {p q : Prop} (e : c = true) (h : p) : br c p q := by subst e; exact h
theorem brF {c : Bool} {p q : Prop} (e : c = false) (h : q) : br c p q := by subst e; exact h
def uB (t : TE) : TT := fun σ H Q => t σ H fun x H1 => onB x fun c => Q c H1
theorem tst {e : Expr} {t : TE} (h : PE X e t) (he : ∀ whole, isTrue e X.env whole = (do let v ← whole; standAt e.pos; holding [v] (truthy v)) := by intro _; rfl) : PT X e (uB t) :=
  PTw (pt_val (up h) he) fun σ H Q q => ⟨_, fun v H' z => onB_ex z, q⟩
/-- a comparison as a test -/
theorem tcmp {op : CmpOp} {r : R2} {a b : Expr} {ta tb : TE} {pos : Pos} (ho : OpR X (compareOp op) r) (ha : PE X a ta) (hb : PE X b tb) (hm : behindInMarks op b = false) : PT X (.Compare a [op] [b] pos) (uB (tOp r ta tb)) :=
  PTw (pt_cmpR (r := fun x y H Q => ∃ Q' : VK, (∀ v H', Q' v H' → Q v H') ∧ r x y H Q') (fun pins s σ H x y v u Q I rx ry q => by
    obtain ⟨Q', w, q⟩ := q
    exact thn (ho pins s σ H x y v u Q' I rx ry q) fun v s1 ⟨x, H1, I1, r1, q1⟩ => ⟨x, H1, I1, r1, w _ _ q1⟩) (up ha) (up hb) hm) fun σ H Q q => by
      refine ⟨_, fun v H' z => ?_, q⟩
      refine ⟨_, fun u H2 z2 => ?_, z⟩
      exact ⟨_, fun w H3 z3 => onB_ex z3, z2⟩
def uAnd (t u : TT) : TT := fun σ H Q => t σ H fun c H1 => br c (u σ H1 Q) (Q false H1)
def uOr (t u : TT) : TT := fun σ H Q => t σ H fun c H1 => br c (Q true H1) (u σ H1 Q)
def uNot (t : TT) : TT := fun σ H Q => t σ H fun c H1 => Q (!c) H1
section
variable {a b : Expr} {rest : List Expr} {pos : Pos} {ta tb : TE} {tA tB' : TT}
theorem wand (ha : PT X a tA) (hb : PW X (.BoolOp .And (b :: rest) pos) tB') : PW X (.BoolOp .And (a :: b :: rest) pos) (uAnd tA tB') :=
  PWw (pw_and (upt ha) hb) fun σ H Q q => ⟨_, fun c H' z => br_if z, q⟩
theorem wor (ha : PT X a tA) (hb : PW X (.BoolOp .Or (b :: rest) pos) tB') : PW X (.BoolOp .Or (a :: b :: rest) pos) (uOr tA tB') :=
  PWw (pw_or (upt ha) hb) fun σ H Q q => ⟨_, fun c H' z => br_if z, q⟩
def uAndV (ta tb : TE) : TE := fun σ H Q => ta σ H fun x H1 => onB x fun c => br c (tb σ H1 Q) (Q (.bl false) H1)
def uOrV (ta tb : TE) : TE := fun σ H Q => ta σ H fun x H1 => onB x fun c => br c (Q (.bl true) H1) (tb σ H1 Q)
def uNotV (ta : TE) : TE := fun σ H Q => ta σ H fun x H1 => onB x fun c => Q (.bl (!c)) H1
theorem vand (ha : PE X a ta) (hb : PE X (.BoolOp .And (b :: rest) pos) tb) : PE X (.BoolOp .And (a :: b :: rest) pos) (uAndV ta tb) :=
  PEw (pe_and (up ha) hb) fun σ H Q q => ⟨_, fun x H' z => by obtain ⟨c, e, z⟩ := onB_ex z; exact ⟨c, e, br_if z⟩, q⟩
theorem vor (ha : PE X a ta) (hb : PE X (.BoolOp .Or (b :: rest) pos) tb) : PE X (.BoolOp .Or (a :: b :: rest) pos) (uOrV ta tb) :=
  PEw (pe_or (up ha) hb) fun σ H Q q => ⟨_, fun x H' z => by obtain ⟨c, e, z⟩ := onB_ex z; exact ⟨c, e, br_if z⟩, q⟩
theorem vnot (ha : PE X a ta) : PE X (.UnaryOp .Not a pos) (uNotV ta) :=
  PEw (pe_not (up ha)) fun σ H Q q => ⟨_, fun x H' z => onB_ex z, q⟩
def uIfE (t : TT) (ta tb : TE) : TE := fun σ H Q => t σ H fun c H1 => br c (ta σ H1 Q) (tb σ H1 Q)
theorem vif {c : Expr} (hc : PT X c tA) (ha : PE X a ta) (hb : PE X b tb) : PE X (.IfExp c a b pos) (uIfE tA ta tb) :=
  PEw (pe_ifExp (upt hc) ha hb) fun σ H Q q => ⟨_, fun x H' z => br_if z, q⟩
def uIf (c : TT) (t u : TS) : TS := fun D σ H => c σ H fun b H1 => br b (t D σ H1) (u D σ H1)
theorem sif {c : Expr} {a b : List Stmt} {tc : TT} {t u : TS} (hc : PT X c tc) (ha : PSs X a t) (hb : PSs X b u) : PS X (.If c a b pos) (uIf tc t u) :=
  PSw (ps_if (upt hc) ha hb) fun D σ H q => ⟨_, fun x H' z => br_if z, q⟩
/-- the ways behind an if joined -/
def uCut (t u : TS) : TS := fun D σ H => ∃ Mid : L2.St → Hp → Prop, t { D with nx := Mid } σ H ∧ ∀ σ' H', Mid σ' H' → u D σ' H'
def uChain (r r' : R2) (ta tb tc : TE) : TE := fun σ H Q => ta σ H fun x H1 => tb σ H1 fun y H2 => r x y H2 fun z H3 => onB z fun k => br k (tc σ H3 fun w' H4 => r' y w' H4 Q) (Q (.bl false) H3)
end
/-! ### operators -/
def upR (r : R2) : R2 := fun x y H Q => ∃ Q' : VK, (∀ v H', Q' v H' → Q v H') ∧ r x y H Q'
theorem upO {f : Value → Value → Sem Value} {r : R2} (ho : OpR X f r) : OpR X f (upR r) := fun pins s σ H x y v u Q I rx ry q => by
  obtain ⟨Q', w, q⟩ := q
  exact thn (ho pins s σ H x y v u Q' I rx ry q) fun v s1 ⟨x, H1, I1, r1, q1⟩ => ⟨x, H1, I1, r1, w _ _ q1⟩
theorem vchain {op op' : CmpOp} {r r' : R2} {a b c : Expr} {ta tb tc : TE} {pos : Pos} (ho : OpR X (compareOp op) r) (ho' : OpR X (compareOp op') r') (ha : PE X a ta) (hb : PE X b tb) (hc : PE X c tc)
    (hm : lastMarks [op, op'] [b, c] = false := by with_unfolding_all rfl) : PE X (.Compare a [op, op'] [b, c] pos) (uChain r r' ta tb tc) :=
  PEw (pe_chain (upO ho) ho' (up ha) (up hb) hc hm) fun σ H Q q => by
    refine ⟨_, fun x H' z => ?_, q⟩
    refine ⟨_, fun y H2 z2 => ?_, z⟩
    refine ⟨_, fun y H2 z2 => ?_, z2⟩
    obtain ⟨k, e, z3⟩ := onB_ex z2
    exact ⟨k, e, br_if z3⟩
theorem tchain {op op' : CmpOp} {r r' : R2} {a b c : Expr} {ta tb tc : TE} {pos : Pos} (ho : OpR X (compareOp op) r) (ho' : OpR X (compareOp op') r') (ha : PE X a ta) (hb : PE X b tb) (hc : PE X c tc)
    (hm : lastMarks [op, op'] [b, c] = false := by with_unfolding_all rfl) : PT X (.Compare a [op, op'] [b, c] pos) (uB (uChain r r' ta tb tc)) :=
  PTw (pt_chain (upO ho) (upO ho') (up ha) (up hb) (up hc) hm) fun σ H Q q => by
    refine ⟨_, fun x H' z => ?_, q⟩
    refine ⟨_, fun y H2 z2 => ?_, z⟩
    refine ⟨_, fun y H2 z2 => ?_, z2⟩
    obtain ⟨k, e, z3⟩ := onB_ex z2
    refine ⟨k, e, ?_⟩
    cases k with
    | true =>
      rw [if_pos rfl]
      exact ⟨_, fun y H2 z4 => ⟨_, fun y H3 z5 => onB_ex z5, z4⟩, z3⟩
    | false =>
      rw [if_neg (by decide)]
      exact onB_ex z3
def rPlus (K : PySem.W.Frag) : R2 := fun x y H Q => match x, y with
  | .int i, .int j => Q (.int (i + j)) H
  | .str a, .str b => a.length + b.length ≤ sizeLine ∧ Q (.str (a ++ b)) H
  | .ref a, .ref b => rCat (.ref a) (.ref b) H Q ∨ rCatA K (.ref a) (.ref b) H Q
  | _, _ => False
theorem op_plus : OpR X (binaryOp .Add) (rPlus X.K) := OpRw (OpR.or op_add (OpR.or op_add_str (OpR.or op_cat op_catA))) fun x y H Q q => by
  unfold rPlus at q
  split at q
  · exact .inl ⟨_, _, rfl, rfl, q⟩
  · exact .inr (.inl ⟨_, _, rfl, rfl, q⟩)
  · exact .inr (.inr q)
  · exact q.elim
/-- ints under C -/
def rII (C : Int → Int → Prop) (g : Int → Int → V) : R2 := fun x y H Q => match x, y with
  | .int i, .int j => C i j ∧ Q (g i j) H
  | _, _ => False
def rII0 (g : Int → Int → V) : R2 := fun x y H Q => match x, y with
  | .int i, .int j => Q (g i j) H
  | _, _ => False
theorem ii {f : Value → Value → Sem Value} {C : Int → Int → Prop} {g : Int → Int → V} (h : OpR X f (rI C g)) : OpR X f (rII C g) := OpRw h fun x y H Q q => by
  unfold rII at q
  split at q
  · exact ⟨_, _, rfl, rfl, q⟩
  · exact q.elim
theorem ii0 {f : Value → Value → Sem Value} {g : Int → Int → V} (h : OpR X f (rI0 g)) : OpR X f (rII0 g) := OpRw h fun x y H Q q => by
  unfold rII0 at q
  split at q
  · exact ⟨_, _, rfl, rfl, q⟩
  · exact q.elim
theorem op_minus : OpR X (binaryOp .Sub) (rII0 fun i j => .int (i - j)) := ii0 op_sub
def rMod : R2 := fun x y H Q => match x, y with
  | .int i, .int j => 0 < j ∧ Q (.int (i % j)) H
  | _, _ => False
theorem op_modI : OpR X (binaryOp .Mod) rMod := OpRw op_mod fun x y H Q q => by
  unfold rMod at q
  split at q
  · exact ⟨_, _, rfl, rfl, q⟩
  · exact q.elim
theorem op_divI : OpR X (binaryOp .FloorDiv) (rII CDiv fun i j => .int (i / j)) := ii op_fdiv
theorem op_powI : OpR X (binaryOp .Pow) (rII CPow fun i j => .int (i ^ j.toNat)) := ii op_pow
theorem op_ltI : OpR X (compareOp .Lt) (rII0 fun i j => .bl (decide (i < j))) := ii0 op_lt
theorem op_leI : OpR X (compareOp .LtE) (rII0 fun i j => .bl (decide (i ≤ j))) := ii0 op_le
theorem op_gtI : OpR X (compareOp .Gt) (rII0 fun i j => .bl (decide (j < i))) := ii0 op_gt
theorem op_geI : OpR X (compareOp .GtE) (rII0 fun i j => .bl (decide (j ≤ i))) := ii0 op_ge
/-- is None -/
def rIsNo (neg : Bool) : R2 := fun x y H Q => match y with
  | .non => Q (.bl (if neg then !decide (x = .non) else decide (x = .non))) H
  | _ => False
theorem op_isNo : OpR X (compareOp .Is) (rIsNo false) := OpRw op_isN fun x y H Q q => by
  unfold rIsNo at q
  split at q
  · exact ⟨rfl, q⟩
  · exact q.elim
theorem op_notNo : OpR X (compareOp .IsNot) (rIsNo true) := OpRw op_notN fun x y H Q q => by
  unfold rIsNo at q
  split at q
  · exact ⟨rfl, q⟩
  · exact q.elim
/-- data without dicts, not too deep -/
def shp (d : PyData) : Bool := d.plain && decide (d.depth ≤ 64)
theorem shp_room {A : Around} {d e : PyData} (h : shp d = true) (hu : A.units + 64 < cLine) : A.units + min d.depth e.depth < cLine := by
  have h1 := of_decide_eq_true (Bool.and_eq_true_iff.mp h).2
  have h2 : min d.depth e.depth ≤ d.depth := Nat.min_le_left _ _
  omega
theorem op_eqP (hu : X.A.units + 64 < cLine) : OpR X (compareOp .Eq) (fun x y H Q => ∃ d e, Dp X.K H x d ∧ Dp X.K H y e ∧ shp d = true ∧ shp e = true ∧ Q (.bl (PyData.eqv d e)) H) := by
  intro pins s σ H x y v u Q I rx ry h
  obtain ⟨d, e, hd, he, sd, se, q⟩ := h
  obtain ⟨as, r1⟩ := Dp.reads I d x v hd rx
  obtain ⟨bs, r2⟩ := Dp.reads I e y u he ry
  exact SeqAt.eq_plain r1 r2 (Bool.and_eq_true_iff.mp sd).1 (Bool.and_eq_true_iff.mp se).1 (shp_room sd hu) ⟨.bl _, H, I, rfl, q⟩
theorem op_neP (hu : X.A.units + 64 < cLine) : OpR X (compareOp .NotEq) (fun x y H Q => ∃ d e, Dp X.K H x d ∧ Dp X.K H y e ∧ shp d = true ∧ shp e = true ∧ Q (.bl (!PyData.eqv d e)) H) := by
  intro pins s σ H x y v u Q I rx ry h
  obtain ⟨d, e, hd, he, sd, se, q⟩ := h
  obtain ⟨as, r1⟩ := Dp.reads I d x v hd rx
  obtain ⟨bs, r2⟩ := Dp.reads I e y u he ry
  exact SeqAt.ne_plain r1 r2 (Bool.and_eq_true_iff.mp sd).1 (Bool.and_eq_true_iff.mp se).1 (shp_room sd hu) ⟨.bl _, H, I, rfl, q⟩
/-- ==, !=: scalars, else data at any depth -/
def rSame (K : PySem.W.Frag) (neg : Bool) : R2 := fun x y H Q => match scal x y with
  | true => Q (.bl (if neg then !decide (x = y) else decide (x = y))) H
  | false => ∃ d e, Dp K H x d ∧ Dp K H y e ∧ shp d = true ∧ shp e = true ∧ Q (.bl (if neg then !PyData.eqv d e else PyData.eqv d e)) H
theorem op_same (hu : X.A.units + 64 < cLine) : OpR X (compareOp .Eq) (rSame X.K false) := OpRw (OpR.or op_eq (op_eqP hu)) fun x y H Q q => by
  unfold rSame at q
  split at q
  · rename_i e
    exact .inl ⟨e, q⟩
  · exact .inr q
theorem op_other (hu : X.A.units + 64 < cLine) : OpR X (compareOp .NotEq) (rSame X.K true) := OpRw (OpR.or op_ne (op_neP hu)) fun x y H Q q => by
  unfold rSame at q
  split at q
  · rename_i e
    exact .inl ⟨e, q⟩
  · exact .inr q
/-- in: a text in a text, a flat thing in a list or tuple -/
def subS (i j : Str) : Bool := !(Builtin.Str.occurrences j i 0 j.length 1).isEmpty
theorem subS_one (c : Nat) (z : Str) : subS ⟨#[c]⟩ z = decide (c ∈ z.cps.toList) := PySem.StrLaws.found_one z c
def rInU (K : PySem.W.Frag) (neg : Bool) : R2 := fun x y H Q => match x, y with
  | .str i, .str j => Q (.bl (if neg then !subS i j else subS i j)) H
  | x, .ref p => ∃ xs, (SqL K H p xs ∨ SqT K H p xs) ∧ flatV x = true ∧ xs.all flatV = true ∧ Q (.bl (if neg then !inV x xs else inV x xs)) H
  | _, _ => False
theorem op_inU : OpR X (compareOp .In) (rInU X.K false) := OpRw (OpR.or op_in_str op_in_seq) fun x y H Q q => by
  unfold rInU at q
  split at q
  · exact .inl ⟨_, _, rfl, rfl, q⟩
  · obtain ⟨xs, h⟩ := q
    exact .inr ⟨_, xs, rfl, h⟩
  · exact q.elim
theorem op_notInU : OpR X (compareOp .NotIn) (rInU X.K true) := OpRw (OpR.or op_notin_str op_notIn_seq) fun x y H Q q => by
  unfold rInU at q
  split at q
  · exact .inl ⟨_, _, rfl, rfl, q⟩
  · obtain ⟨xs, h⟩ := q
    exact .inr ⟨_, xs, rfl, h⟩
  · exact q.elim
def rNeg : V → Hp → VK → Prop := fun x H Q => match x with | .int i => Q (.int (-i)) H | _ => False
theorem un_negU : UnR X (unaryOp .USub) rNeg := UnRw un_neg fun x H Q q => by
  unfold rNeg at q
  split at q
  · exact ⟨_, rfl, q⟩
  · exact q.elim
/-! ### subscripts -/
def rGet (K : PySem.W.Frag) : R2 := fun x y H Q => match x, y with
  | .str z, .int i => z.length ≤ sizeLine ∧ ∃ c, atI z.cps.toList i = some c ∧ Q (.str ⟨#[c]⟩) H
  | .ref p, .int i => ∃ xs v, (SqL K H p xs ∨ SqT K H p xs) ∧ atI xs i = some v ∧ Q v H
  | _, _ => False
theorem ix_get : IxR X (rGet X.K) := IxRw ix_seq fun x y H Q q => by
  unfold rGet at q
  split at q
  · obtain ⟨h, c, e, q⟩ := q
    exact .inr (.inr ⟨_, _, c, rfl, rfl, h, e, q⟩)
  · obtain ⟨xs, v, h | h, e, q⟩ := q
    · exact .inl ⟨_, xs, _, v, rfl, rfl, h, e, q⟩
    · exact .inr (.inl ⟨_, xs, _, v, rfl, rfl, h, e, q⟩)
  · exact q.elim
def uPart (t : TE) : TO := fun σ H Q => t σ H fun x H1 => match x with | .int i => Q (some i) H1 | _ => False
theorem po_u {e : Expr} {te : TE} (h : PE X e te) : PO X (some e) (uPart te) := POw (po_some (up h)) fun σ H Q q => ⟨_, fun x H' z => by
  cases x with
  | int i => exact ⟨i, rfl, z⟩
  | _ => exact z.elim, q⟩
def rCut (K : PySem.W.Frag) : V → Option Int → Option Int → Hp → VK → Prop := fun x lo hi H Q => match x with
  | .str z => z.length ≤ sizeLine ∧ Q (.str (cutS z lo hi)) H
  | .ref a => rSlL K (.ref a) lo hi H Q ∨ rSlA K (.ref a) lo hi H Q
  | _ => False
theorem sl_cut : SlR X (rCut X.K) := SlRw (SlR.or sl_str (SlR.or sl_list sl_tupA)) fun x lo hi H Q q => by
  unfold rCut at q
  split at q
  · exact .inl ⟨_, rfl, q⟩
  · exact .inr q
  · exact q.elim
/-! ### built-in calls -/
def rLenU (K : PySem.W.Frag) : List V → Hp → VK → Prop := fun xs H Q => match xs with
  | [.str z] => z.length ≤ sizeLine ∧ Q (.int z.length) H
  | [.ref p] => ∃ ys, (SqL K H p ys ∨ SqT K H p ys) ∧ Q (.int ys.length) H
  | _ => False
theorem call_lenU : CallR X (.builtin "len") (rLenU X.K) := CallRw (CallR.or call_len_str call_len_seq) fun xs H Q q => by
  unfold rLenU at q
  split at q
  · exact .inl ⟨_, rfl, q⟩
  · obtain ⟨ys, h⟩ := q
    exact .inr ⟨_, ys, rfl, h⟩
  · exact q.elim
def r1I (g : Int → V) : List V → Hp → VK → Prop := fun xs H Q => match xs with | [.int i] => Q (g i) H | _ => False
def r2I (g : Int → Int → V) : List V → Hp → VK → Prop := fun xs H Q => match xs with | [.int i, .int j] => Q (g i j) H | _ => False
theorem call_absU : CallR X (.builtin "abs") (r1I fun i => .int (if i < 0 then -i else i)) := CallRw call_abs fun xs H Q q => by
  unfold r1I at q
  split at q
  · exact ⟨_, rfl, q⟩
  · exact q.elim
theorem call_maxU (hc : X.calm = true) : CallR X (.builtin "max") (r2I fun i j => .int (if j > i then j else i)) := CallRw (call_max2 hc) fun xs H Q q => by
  unfold r2I at q
  split at q
  · exact ⟨_, _, rfl, q⟩
  · exact q.elim
theorem call_minU (hc : X.calm = true) : CallR X (.builtin "min") (r2I fun i j => .int (if j < i then j else i)) := CallRw (call_min2 hc) fun xs H Q q => by
  unfold r2I at q
  split at q
  · exact ⟨_, _, rfl, q⟩
  · exact q.elim
def rDm : List V → Hp → VK → Prop := fun xs H Q => match xs with | [.int i, .int j] => CDiv i j ∧ ∀ p, H p = none → Q (.ref p) (upd H p (.tup [.int (i / j), .int (i % j)])) | _ => False
theorem call_dm : CallR X (.builtin "divmod") rDm := CallRw call_divmod fun xs H Q q => by
  unfold rDm at q
  split at q
  · exact ⟨_, _, rfl, q⟩
  · exact q.elim
def rOrd : List V → Hp → VK → Prop := fun xs H Q => match xs with | [.str x] => x.length = 1 ∧ Q (.int (x.cps.getD 0 0 : Nat)) H | _ => False
theorem call_ordU : CallR X (.builtin "ord") rOrd := CallRw call_ord fun xs H Q q => by
  unfold rOrd at q
  split at q
  · exact ⟨_, rfl, q⟩
  · exact q.elim
def rStr : List V → Hp → VK → Prop := fun xs H Q => match xs with | [.str x] => Q (.str x) H | [.int i] => i.natAbs.log2 < 1920 ∧ Q (.str (toString i)) H | _ => False
theorem call_strU : CallR X (.type "str") rStr := CallRw (CallR.or SkE.call_str_str call_str_int) fun xs H Q q => by
  unfold rStr at q
  split at q
  · exact .inl ⟨_, rfl, q⟩
  · exact .inr ⟨_, rfl, q⟩
  · exact q.elim
def rInt1 : List V → Hp → VK → Prop := fun xs H Q => match xs with | [.int i] => Q (.int i) H | [.bl k] => Q (.int (if k then 1 else 0)) H | _ => False
theorem call_intU : CallR X (.type "int") rInt1 := CallRw call_int1 fun xs H Q q => by
  unfold rInt1 at q
  split at q
  · exact .inl ⟨_, rfl, q⟩
  · exact .inr ⟨_, rfl, q⟩
  · exact q.elim
/-- isinstance: one class, or a tuple of classes just laid -/
def rIs (K : PySem.W.Frag) : List V → Hp → VK → Prop := fun xs H Q => match xs with
  | [x, .ty n] => ∃ t b, TyX K H x t ∧ PySem.W.kitOne K t (.type n) = some b ∧ Q (.bl b) H
  | [x, .ref p] => rIsi K [x, .ref p] H Q ∨ rIsiT K [x, .ref p] H Q
  | _ => False
theorem call_isU : CallR X (.builtin "isinstance") (rIs X.K) := CallRw (CallR.or call_isi call_isiT) fun xs H Q q => by
  unfold rIs at q
  split at q
  · obtain ⟨t, b, h, e, q⟩ := q
    exact .inl ⟨_, _, t, _, b, rfl, .ty _, h, e, q⟩
  · exact q
  · exact q.elim
/-! ### targets -/
def uCons (t : TG) (u : TGs) : TGs := fun vs σ H Q => match vs with | v :: r => t v σ H fun σ' H' => u r σ' H' Q | [] => False
def uNil : TGs := fun vs σ H Q => match vs with | [] => Q σ H | _ => False
theorem gs_nil : PGs X [] uNil := PGsw pgs_nil fun v σ H Q q => by
  unfold uNil at q
  split at q
  · exact ⟨rfl, q⟩
  · exact q.elim
theorem gs_cons {e : Expr} {es : List Expr} {t : TG} {u : TGs} (h1 : PG X e t) (h2 : PGs X es u)
    (hs : (assignEach (e :: es) X.env).map (·.2) = assign e X.env :: (assignEach es X.env).map (·.2) := by rfl) : PGs X (e :: es) (uCons t u) := PGsw (pgs_cons h1 h2 hs) fun v σ H Q q => by
  unfold uCons at q
  split at q
  · exact ⟨_, _, rfl, q⟩
  · exact q.elim
/-! ### further: products, joins, displays -/
def uCatN (a : Str) (k : Nat) : List Nat := (List.replicate k a.cps.toList).flatten
def rTimes : R2 := fun x y H Q => match x, y with
  | .int i, .int j => CMul i j ∧ Q (.int (i * j)) H
  | .ref a, .int j => rRep (.ref a) (.int j) H Q
  | _, _ => False
theorem op_times : OpR X (binaryOp .Mult) rTimes := OpRw (OpR.or op_mul op_rep) fun x y H Q q => by
  unfold rTimes at q
  split at q
  · exact .inl ⟨_, _, rfl, rfl, q⟩
  · exact .inr q
  · exact q.elim
def uJoin (K : PySem.W.Frag) (to te : TE) : TE := fun σ H Q => to σ H fun x H1 => match x with
  | .str a => te σ H1 fun y H2 => match y with
    | .ref p => ∃ ys : List Str, (SqL K H2 p (ys.map V.str) ∨ SqT K H2 p (ys.map V.str)) ∧ (ys.map (·.length)).sum + ys.length * a.length ≤ 16777216 ∧ Q (.str (Txt.join a ys)) H2
    | _ => False
  | _ => False
theorem vjoin {o e : Expr} {to te : TE} {apos pos : Pos} (ho : PE X o to) (he : PE X e te) (hs : starEach [e] X.env = [(false, eval e X.env)] := by rfl) (hbase : attributeBase o "join" X.env (eval o X.env) = eval o X.env := by rfl) (hline : (apos.endLine == pos.line) = true := by rfl) :
    PE X (.Call (.Attribute o "join" apos) [e] [] pos) (uJoin X.K to te) := PEw (pe_join (up ho) (up he) hs hbase hline) fun σ H Q q => by
  refine ⟨_, fun x H1 z => ?_, q⟩
  cases x with
  | str a =>
    refine ⟨⟨a, rfl⟩, _, fun y H2 z2 => ?_, z⟩
    cases y with
    | ref p =>
      obtain ⟨ys, h1, h2, h3⟩ := z2
      exact ⟨a, p, ys, rfl, rfl, h1, h2, h3⟩
    | _ => exact z2.elim
  | _ => exact z.elim
/-- a field of an f-string -/
def uFmt (te : TE) : TE := fun σ H Q => te σ H fun x H1 => match x with
  | .str y => y.length ≤ sizeLine ∧ Q (.str y) H1
  | .int i => i.natAbs.log2 < 1920 ∧ Q (.str (toString i)) H1
  | _ => False
theorem vfmt {e : Expr} {te : TE} {pos : Pos} (he : PE X e te) : PE X (.FormattedValue e (-1) none pos) (uFmt te) := PEw (pe_fmt (up he)) fun σ H Q q => by
  refine ⟨_, fun x H1 z => ?_, q⟩
  cases x with
  | str a => exact .inl ⟨a, rfl, z⟩
  | int i => exact .inr ⟨i, rfl, z⟩
  | _ => exact z.elim
end
/-! ### the same rules with the written part as a letter -/
section
variable {X : Cx}
theorem kplus (K : PySem.W.Frag) (h : X.K = K := by rfl) : OpR X (binaryOp .Add) (rPlus K) := by subst h; exact op_plus
theorem ksame (K : PySem.W.Frag) (hu : X.A.units + 64 < cLine) (h : X.K = K := by rfl) : OpR X (compareOp .Eq) (rSame K false) := by subst h; exact op_same hu
theorem kother (K : PySem.W.Frag) (hu : X.A.units + 64 < cLine) (h : X.K = K := by rfl) : OpR X (compareOp .NotEq) (rSame K true) := by subst h; exact op_other hu
theorem kin (K : PySem.W.Frag) (h : X.K = K := by rfl) : OpR X (compareOp .In) (rInU K false) := by subst h; exact op_inU
theorem knotin (K : PySem.W.Frag) (h : X.K = K := by rfl) : OpR X (compareOp .NotIn) (rInU K true) := by subst h; exact op_notInU
theorem kget (K : PySem.W.Frag) (h : X.K = K := by rfl) : IxR X (rGet K) := by subst h; exact ix_get
theorem kcut (K : PySem.W.Frag) (h : X.K = K := by rfl) : SlR X (rCut K) := by subst h; exact sl_cut
theorem klen (K : PySem.W.Frag) (h : X.K = K := by rfl) : CallR X (.builtin "len") (rLenU K) := by subst h; exact call_lenU
theorem kis (K : PySem.W.Frag) (h : X.K = K := by rfl) : CallR X (.builtin "isinstance") (rIs K) := by subst h; exact call_isU
theorem kall (K : PySem.W.Frag) (hc : X.calm = true) (h : X.K = K := by rfl) : CallR X (.builtin "all") (rAll K) := by subst h; exact cr_all hc
theorem kany (K : PySem.W.Frag) (hc : X.calm = true) (h : X.K = K := by rfl) : CallR X (.builtin "any") (rAny K) := by subst h; exact cr_any hc
theorem ksum (K : PySem.W.Frag) (hc : X.calm = true) (h : X.K = K := by rfl) : CallR X (.builtin "sum") (rSum K) := by subst h; exact cr_sum hc
theorem ksorted (K : PySem.W.Frag) (h : X.K = K := by rfl) : CallR X (.builtin "sorted") (rSortedS K) := by subst h; exact cr_sortedS
/-- tuple(xs), list(xs) -/
def rTup (K : PySem.W.Frag) : List V → Hp → VK → Prop := fun xs H Q => match xs with
  | [.ref p] => ∃ ys, (SqL K H p ys ∧ ∀ l, H l = none → Q (.ref l) (upd H l (.tup ys))) ∨ (SqT K H p ys ∧ Q (.ref p) H)
  | _ => False
theorem ktup (K : PySem.W.Frag) (h : X.K = K := by rfl) : CallR X (.type "tuple") (rTup K) := by
  subst h
  refine CallRw call_tuple_of fun xs H Q q => ?_
  unfold rTup at q
  split at q
  · obtain ⟨ys, q⟩ := q
    exact ⟨_, ys, rfl, q⟩
  · exact q.elim
def rLst (K : PySem.W.Frag) : List V → Hp → VK → Prop := fun xs H Q => match xs with
  | [.ref p] => ∃ ys, (SqL K H p ys ∨ SqT K H p ys) ∧ ∀ l, H l = none → Q (.ref l) (upd H l (.lst ys))
  | _ => False
theorem klst (K : PySem.W.Frag) (h : X.K = K := by rfl) : CallR X (.type "list") (rLst K) := by
  subst h
  refine CallRw call_list_of fun xs H Q q => ?_
  unfold rLst at q
  split at q
  · obtain ⟨ys, q⟩ := q
    exact ⟨_, ys, rfl, q⟩
  · exact q.elim
theorem kjoin (K : PySem.W.Frag) {o e : Expr} {to te : TE} {apos pos : Pos} (ho : PE X o to) (he : PE X e te) (h : X.K = K := by rfl) (hs : starEach [e] X.env = [(false, eval e X.env)] := by rfl) (hbase : attributeBase o "join" X.env (eval o X.env) = eval o X.env := by rfl) (hline : (apos.endLine == pos.line) = true := by rfl) :
    PE X (.Call (.Attribute o "join" apos) [e] [] pos) (uJoin K to te) := by subst h; exact vjoin ho he hs hbase hline
/-- xs.append(e) -/
def uApp (to te : TE) : TE := fun σ H Q => to σ H fun x H1 => match x with
  | .ref p => (∃ xs, H1 p = some (.lst xs)) ∧ te σ H1 fun y H2 => ∃ xs, H2 p = some (.lst xs) ∧ xs.length < sizeLine ∧ Q .non (upd H2 p (.lst (xs ++ [y])))
  | _ => False
theorem kapp {K : PySem.W.Frag} {c : Expr} {to te : TE} (h : PE X c (tBM K "list" (fun x xs H Q => ∃ l ys y, x = .ref l ∧ xs = [y] ∧ H l = some (.lst ys) ∧ ys.length < sizeLine ∧ Q .non (upd H l (.lst (ys ++ [y])))) (upE to) (tCons (upE te) tNil))) : PE X c (uApp to te) :=
  PEw h fun σ H Q q => by
    refine ⟨_, fun x H1 z => ?_, q⟩
    cases x with
    | ref p =>
      obtain ⟨⟨xs, hx⟩, z⟩ := z
      refine ⟨.inl ⟨rfl, xs, .inl (.inl hx)⟩, _, fun y H2 z2 => ?_, z⟩
      obtain ⟨ys, h1, h2, h3⟩ := z2
      exact ⟨p, ys, y, rfl, rfl, h1, h2, h3⟩
    | _ => exact z.elim
theorem gtup (K : PySem.W.Frag) {pos : Pos} {es : List Expr} {k : Nat} {t : TGs} (n : Nat) (hc : X.calm = true) (h : PGs X es t) (hK : X.K = K := by rfl)
    (hn : (assignEach es X.env).length = n := by rfl) (hst : (assignEach es X.env).findIdx? (·.1) = none := by rfl) : PG X (.Tuple es k pos) (gTup K n t) := by subst hK; exact pg_tup hc h hn hst
theorem gunl (K : PySem.W.Frag) {pos : Pos} {es : List Expr} {k : Nat} {t : TGs} (n : Nat) (hc : X.calm = true) (h : PGs X es t) (hK : X.K = K := by rfl)
    (hn : (assignEach es X.env).length = n := by rfl) (hst : (assignEach es X.env).findIdx? (·.1) = none := by rfl) : PG X (.Tuple es k pos) (gUnl K n t) := by subst hK; exact pg_unl hc h hn hst
theorem ilist (K : PySem.W.Frag) {tg l : Expr} {tl : TE} (hl : PE X l tl) (h : X.K = K := by rfl) : PI X tg l (iList K tl) := by subst h; exact pi_list hl
theorem itup (K : PySem.W.Frag) {tg l : Expr} {tl : TE} (hl : PE X l tl) (h : X.K = K := by rfl) : PI X tg l (iTup K tl) := by subst h; exact pi_tup hl
theorem krev (K : PySem.W.Frag) {e : Expr} {te : TE} {k : Nat} {p1 p2 p3 pos : Pos} (he : PE X e te) (h : X.K = K := by rfl) : PE X (.Subscript e (.Slice none none (some (.UnaryOp .USub (.Constant (.int 1) k p1) p2)) p3) pos) (tRevL K te) := by subst h; exact pe_revL he
end
/-! ### heaps -/
theorem upd_none {H : Hp} {p q : Addr} {o : HO} (h : upd H p o q = none) : q ≠ p ∧ H q = none := by
  have e : q ≠ p := fun z => by rw [z, upd_same] at h; cases h
  rw [upd_ne e] at h
  exact ⟨e, h⟩
theorem same_new {H : Hp} {p : Addr} {o : HO} (h : H p = none) : Same H (upd H p o) := fun b u e => by
  rw [upd_ne (ne_of_none e h)]
  exact e
/-- all but the object at a is as it was -/
def Keep (a : Addr) (H H' : Hp) : Prop := ∀ b o, b ≠ a → H b = some o → H' b = some o
theorem Keep.refl (a : Addr) (H : Hp) : Keep a H H := fun _ _ _ h => h
theorem Keep.trans {a : Addr} {H H1 H2 : Hp} (x : Keep a H H1) (y : Keep a H1 H2) : Keep a H H2 := fun b o n h => y b o n (x b o n h)
theorem keep_of {a : Addr} {H H1 : Hp} (x : Same H H1) : Keep a H H1 := fun b o _ h => x b o h
theorem Keep.upd {a : Addr} {H H1 : Hp} {o : HO} (x : Keep a H H1) : Keep a H (upd H1 a o) := fun b u n h => by
  rw [upd_ne n]
  exact x b u n h
theorem sqL_of {K : PySem.W.Frag} {H : Hp} {a : Addr} {xs : List V} (h : H a = some (.lst xs)) : SqL K H a xs := .inl (.inl h)
theorem sqT_of {K : PySem.W.Frag} {H : Hp} {a : Addr} {xs : List V} (h : H a = some (.tup xs)) : SqT K H a xs := .inl (.inl h)
end Sk
namespace Sk
open PySem PySem.Spec PyProof.Rows L2
/-! ### texts -/
def okc (c : Nat) : Bool := c == 10 || (Nat.ble 32 c && Nat.ble c 126 && !(c == 37))
def low (c : Nat) : Bool := Nat.ble 97 c && Nat.ble c 122
/-- at most n signs, all of the markup's -/
def TextOk (n : Nat) (z : Str) : Prop := z.length ≤ n ∧ ∀ c ∈ z.cps.toList, okc c = true
/-- a name -/
def NameOk (z : Str) : Prop := 1 ≤ z.length ∧ z.length ≤ 12 ∧ ∀ c ∈ z.cps.toList, low c = true
def okT (n : Nat) : V → Bool
  | .str z => Nat.ble z.length n && z.cps.toList.all okc
  | _ => false
def okN : V → Bool
  | .str z => Nat.ble 1 z.length && Nat.ble z.length 12 && z.cps.toList.all low
  | _ => false
theorem okT_ok {n : Nat} {x : V} (h : okT n x = true) : ∃ z, x = .str z ∧ TextOk n z := by
  cases x with
  | str z =>
    have h : (Nat.ble z.length n && z.cps.toList.all okc) = true := h
    rw [Bool.and_eq_true, List.all_eq_true] at h
    exact ⟨z, rfl, Nat.le_of_ble_eq_true h.1, h.2⟩
  | _ => cases h
theorem okN_ok {x : V} (h : okN x = true) : ∃ z, x = .str z ∧ NameOk z := by
  cases x with
  | str z =>
    have h : (Nat.ble 1 z.length && Nat.ble z.length 12 && z.cps.toList.all low) = true := h
    rw [Bool.and_eq_true, Bool.and_eq_true, List.all_eq_true] at h
    exact ⟨z, rfl, Nat.le_of_ble_eq_true h.1.1, Nat.le_of_ble_eq_true h.1.2, h.2⟩
  | _ => cases h
theorem low_okc {c : Nat} (h : low c = true) : okc c = true := by
  unfold low at h
  unfold okc
  rw [Bool.and_eq_true] at h
  have h1 := Nat.le_of_ble_eq_true h.1
  have h2 := Nat.le_of_ble_eq_true h.2
  have e1 : Nat.ble 32 c = true := Nat.ble_eq_true_of_le (by omega)
  have e2 : Nat.ble c 126 = true := Nat.ble_eq_true_of_le (by omega)
  have e3 : (c == 37) = false := beq_eq_false_iff_ne.mpr (by omega)
  rw [e1, e2, e3]
  simp
theorem NameOk.text {z : Str} (h : NameOk z) : TextOk 12 z := ⟨h.2.1, fun c hc => low_okc (h.2.2 c hc)⟩
theorem TextOk.mono {m n : Nat} {z : Str} (h : TextOk m z) (l : m ≤ n) : TextOk n z := ⟨Nat.le_trans h.1 l, h.2⟩
theorem app_list (x y : Str) : (x ++ y).cps.toList = x.cps.toList ++ y.cps.toList := by
  show (x.cps ++ y.cps).toList = _
  rw [Array.toList_append]
theorem app_len (x y : Str) : (x ++ y).length = x.length + y.length := by
  show (x.cps ++ y.cps).size = _
  rw [Array.size_append]
  rfl
theorem len_list (x : Str) : x.length = x.cps.toList.length := by rw [Array.length_toList]; rfl
theorem str_ext {x y : Str} (h : x.cps.toList = y.cps.toList) : x = y := by
  cases x with | mk a => cases y with | mk b =>
  have e : a = b := Array.toList_inj.mp h
  rw [e]
theorem TextOk.app {m n : Nat} {x y : Str} (hx : TextOk m x) (hy : TextOk n y) : TextOk (m + n) (x ++ y) := by
  refine ⟨by rw [app_len]; have := hx.1; have := hy.1; omega, fun c hc => ?_⟩
  rw [app_list] at hc
  rcases List.mem_append.mp hc with h | h
  · exact hx.2 c h
  · exact hy.2 c h
theorem size_le {n : Nat} (h : n ≤ 100000) : n ≤ sizeLine := Nat.le_trans h (by decide)
theorem size_lt {n : Nat} (h : n < 100000) : n < sizeLine := Nat.lt_of_lt_of_le h (by decide)
/-! ### items -/
theorem atI_in {α : Type} {xs : List α} {i : Int} (h0 : 0 ≤ i) (h1 : i < xs.length) : ∃ v, atI xs i = some v ∧ v ∈ xs := by
  have hl : i.toNat < xs.length := by omega
  refine ⟨xs[i.toNat], ?_, List.getElem_mem hl⟩
  unfold atI ixN
  rw [if_pos h0, if_pos h1]
  exact List.getElem?_eq_getElem hl
theorem atI_all {α : Type} {xs : List α} {i : Int} (P : α → Prop) (h0 : 0 ≤ i) (h1 : i < xs.length) (h : ∀ x ∈ xs, P x) : ∃ v, atI xs i = some v ∧ P v := by
  obtain ⟨v, e, m⟩ := atI_in h0 h1
  exact ⟨v, e, h v m⟩
theorem all_okT {n : Nat} {xs : List V} (h : xs.all (okT n) = true) : ∀ x ∈ xs, ∃ z, x = .str z ∧ TextOk n z := fun x hx => okT_ok (List.all_eq_true.mp h x hx)
theorem all_okN {xs : List V} (h : xs.all okN = true) : ∀ x ∈ xs, ∃ z, x = .str z ∧ NameOk z := fun x hx => okN_ok (List.all_eq_true.mp h x hx)
/-! ### a pool: a state, the digits, the number of draws -/
def Pool (H : Hp) (a : Addr) : Prop := ∃ s d n : Int, H a = some (.lst [.int s, .int d, .int n]) ∧ 0 ≤ s ∧ s < 1000000007 ∧ 0 ≤ d
theorem Pool.keep {H H' : Hp} {a : Addr} (h : Pool H a) (e : H' a = H a) : Pool H' a := by
  obtain ⟨s, d, n, h1, h2⟩ := h
  exact ⟨s, d, n, e.trans h1, h2⟩
theorem Pool.same {H H' : Hp} {a : Addr} (h : Pool H a) (e : Same H H') : Pool H' a := by
  obtain ⟨s, d, n, h1, h2⟩ := h
  exact ⟨s, d, n, e _ _ h1, h2⟩
theorem Pool.ne {H : Hp} {a b : Addr} (h : Pool H a) (e : H b = none) : b ≠ a := fun z => by
  obtain ⟨s, d, n, h1, _⟩ := h
  rw [z, h1] at e
  cases e
theorem Pool.new {H : Hp} {a b : Addr} {o : HO} (h : Pool H a) (e : b ≠ a) : Pool (upd H b o) a := h.keep (upd_ne e.symm)
theorem Keep.free {a b : Addr} {H H' : Hp} (k : Keep a H H') (e : H' b = none) (ne : b ≠ a) : H b = none := by
  cases q : H b with
  | none => rfl
  | some o => rw [k b o ne q] at e; cases e
/-- lists may change, all else stays -/
def isLst : HO → Bool
  | .lst _ => true
  | _ => false
def Stay (H H' : Hp) : Prop := ∀ b o, isLst o = false → H b = some o → H' b = some o
theorem Stay.refl (H : Hp) : Stay H H := fun _ _ _ h => h
theorem Stay.trans {H H1 H2 : Hp} (x : Stay H H1) (y : Stay H1 H2) : Stay H H2 := fun b o n h => y b o n (x b o n h)
theorem stay_of {H H' : Hp} (x : Same H H') : Stay H H' := fun b o _ h => x b o h
theorem Keep.stay {a : Addr} {H H' : Hp} (k : Keep a H H') (p : Pool H a) : Stay H H' := fun b o l h => by
  refine k b o (fun z => ?_) h
  obtain ⟨s, d, n, h1, _⟩ := p
  rw [z, h1] at h
  cases h
  cases l
theorem Stay.lst {H H' : Hp} {D : Addr} {xs ys : List V} (s : Stay H H') (h : H' D = some (.lst xs)) : Stay H (upd H' D (.lst ys)) := fun b o l e => by
  have e2 := s b o l e
  have n : b ≠ D := fun z => by
    rw [z, h] at e2
    cases e2
    cases l
  rw [upd_ne n]
  exact e2
theorem stay_new {H : Hp} {p : Addr} {o : HO} (h : H p = none) : Stay H (upd H p o) := stay_of (same_new h)
/-! ### comprehensions: R what an element's evaluation keeps, J what stands throughout -/
structure Fr (R : Hp → Hp → Prop) (J : Hp → Prop) (D : Addr) : Prop where
  refl : ∀ H, R H H
  trans : ∀ {H H1 H2}, R H H1 → R H1 H2 → R H H2
  new : ∀ {H H' o}, R H H' → H D = none → R H (upd H' D o)
  keep : ∀ {H H' o}, R H H' → H D = some o → H' D = some o
  stay : ∀ {H H'}, J H → R H H' → Stay H H'
  jupd : ∀ {H o}, J H → J (upd H D o)
theorem fr_keep {a D : Addr} (ne : D ≠ a) : Fr (Keep a) (fun H => Pool H a) D where
  refl := fun H => Keep.refl a H
  trans := fun x y => x.trans y
  new := fun x h b o nb hb => by rw [upd_ne (ne_of_none hb h)]; exact x b o nb hb
  keep := fun x h => x D _ ne h
  stay := fun p k => k.stay p
  jupd := fun p => p.new ne
theorem fr_same {D : Addr} : Fr Same (fun _ => True) D where
  refl := fun H => Same.refl H
  trans := fun x y => x.trans y
  new := fun x h b o hb => by rw [upd_ne (ne_of_none hb h)]; exact x b o hb
  keep := fun x h => x D _ h
  stay := fun _ k => stay_of k
  jupd := fun p => p
def accP (R : Hp → Hp → Prop) (J : Hp → Prop) (Pp : Nat → V → Hp → Prop) (D : Addr) (H1 : Hp) (i : Nat) (H : Hp) : Prop :=
  J H ∧ R H1 H ∧ ∃ ys, ys.length = i ∧ H D = some (.lst ys) ∧ ∀ (i : Nat) (y : V), ys[i]? = some y → Pp i y H
section
variable {R : Hp → Hp → Prop} {J : Hp → Prop} {D : Addr} {Pp : Nat → V → Hp → Prop} {H1 : Hp}
theorem acc_start (F : Fr R J D) (j : J H1) (hD : H1 D = none) : accP R J Pp D H1 0 (upd H1 D (.lst [])) :=
  ⟨F.jupd j, F.new (F.refl H1) hD, [], rfl, upd_same, fun i y e => by simp at e⟩
theorem acc_turn (F : Fr R J D) (hD : H1 D = none) (mono : ∀ i v H H', Pp i v H → Stay H H' → Pp i v H') {i : Nat} {H H4 : Hp} {y : V} (hi : i < 100000) (v : accP R J Pp D H1 i H) (z : J H4 ∧ R H H4 ∧ Pp i y H4) :
    ∃ acc, H4 D = some (.lst acc) ∧ acc.length < sizeLine ∧ accP R J Pp D H1 (i + 1) (upd H4 D (.lst (acc ++ [y]))) := by
  obtain ⟨p1, k1, ys, l1, e1, q1⟩ := v
  obtain ⟨p4, k4, q4⟩ := z
  have e4 : H4 D = some (.lst ys) := F.keep k4 e1
  refine ⟨ys, e4, size_lt (by omega), F.jupd p4, F.new (F.trans k1 k4) hD, ys ++ [y], by simp [l1], upd_same, fun i2 y2 e2 => ?_⟩
  have st : Stay H4 (upd H4 D (.lst (ys ++ [y]))) := (Stay.refl H4).lst e4
  rcases Nat.lt_trichotomy i2 ys.length with hl | hl | hl
  · rw [List.getElem?_append_left hl] at e2
    exact mono _ _ _ _ (mono _ _ _ _ (q1 i2 y2 e2) (F.stay p1 k4)) st
  · subst hl
    rw [List.getElem?_append_right (Nat.le_refl _), Nat.sub_self] at e2
    cases e2
    rw [l1]
    exact mono _ _ _ _ q4 st
  · rw [List.getElem?_eq_none (by simp; omega)] at e2
    cases e2
/-- [e for k in range(n)] -/
theorem lcr {n j : Nat} {lo : Int} {te : TE} {vs : List Nat} {σ : L2.St} {Qd : Hp → Prop} (F : Fr R J D) (Pp : Nat → V → Hp → Prop) (hp : J H1) (hD : H1 D = none) (hn : n < 100000)
    (mono : ∀ i v H H', Pp i v H → Stay H H' → Pp i v H') (hw : ∀ x, wipe ((wipe σ vs).set j (some x)) vs = wipe σ vs)
    (turn : ∀ i H, i < n → J H → R H1 H → te ((wipe σ vs).set j (some (.int (lo + i)))) H (fun y H4 => J H4 ∧ R H H4 ∧ Pp i y H4))
    (hd : ∀ H ys, J H → R H1 H → ys.length = n → H D = some (.lst ys) → (∀ (i : Nat) (y : V), ys[i]? = some y → Pp i y H) → Qd H) :
    ∃ W : Nat → Nat → Hp → Prop, (∃ m, W 0 m (upd H1 D (.lst []))) ∧ ∀ i m H, W i m H →
      ((Itr lo n).stop i H ∧ Qd H) ∨ ((Itr lo n).go i H ∧ ∃ Nx : Hp → Prop, (∀ H', Nx H' → ∃ m', m' < m ∧ W (i + 1) m' H') ∧ ∀ x H', (Itr lo n).yld i H x H' → gName j x (wipe σ vs) H' fun σ2 H2 => wipe σ2 vs = wipe σ vs ∧ tYes σ2 H2 fun b H3 =>
        if b = true then upE te σ2 H3 fun y H4 => ∃ acc, H4 D = some (.lst acc) ∧ acc.length < sizeLine ∧ Nx (upd H4 D (.lst (acc ++ [y]))) else Nx H3) := by
  refine lc_range (accP R J Pp D H1) (acc_start F hp hD) (fun i H hi hv => ?_) (fun H hv => ?_)
  · refine ⟨hw _, ?_⟩
    dsimp only [tYes]
    rw [if_pos rfl]
    exact ⟨_, fun y H4 z => acc_turn F hD mono (by omega) hv z, turn i H hi hv.1 hv.2.1⟩
  · obtain ⟨p1, k1, ys, l1, e1, q1⟩ := hv
    exact hd H ys p1 k1 l1 e1 q1
/-- [e for x in xs], a list that stays -/
theorem lcl {K : PySem.W.Frag} {a : Addr} {xs : List V} {j : Nat} {te : TE} {vs : List Nat} {σ : L2.St} {Qd : Hp → Prop} (F : Fr R J D) (Pp : Nat → V → Hp → Prop) (hp : J H1) (hD : H1 D = none) (hn : xs.length < 100000)
    (hS : ∀ H, J H → R H1 H → SqL K H a xs)
    (mono : ∀ i v H H', Pp i v H → Stay H H' → Pp i v H') (hw : ∀ x, wipe ((wipe σ vs).set j (some x)) vs = wipe σ vs)
    (turn : ∀ (i : Nat) x H, xs[i]? = some x → J H → R H1 H → te ((wipe σ vs).set j (some x)) H (fun y H4 => J H4 ∧ R H H4 ∧ Pp i y H4))
    (hd : ∀ H ys, J H → R H1 H → ys.length = xs.length → H D = some (.lst ys) → (∀ (i : Nat) (y : V), ys[i]? = some y → Pp i y H) → Qd H) :
    ∃ W : Nat → Nat → Hp → Prop, (∃ m, W 0 m (upd H1 D (.lst []))) ∧ ∀ i m H, W i m H →
      ((Itl K a).stop i H ∧ Qd H) ∨ ((Itl K a).go i H ∧ ∃ Nx : Hp → Prop, (∀ H', Nx H' → ∃ m', m' < m ∧ W (i + 1) m' H') ∧ ∀ x H', (Itl K a).yld i H x H' → gName j x (wipe σ vs) H' fun σ2 H2 => wipe σ2 vs = wipe σ vs ∧ tYes σ2 H2 fun b H3 =>
        if b = true then upE te σ2 H3 fun y H4 => ∃ acc, H4 D = some (.lst acc) ∧ acc.length < sizeLine ∧ Nx (upd H4 D (.lst (acc ++ [y]))) else Nx H3) := by
  refine lc_list (xs := xs) (accP R J Pp D H1) (acc_start F hp hD) (fun i H _ hv => hS H hv.1 hv.2.1) (fun i x H hx hv => ?_) (fun H hv => ?_)
  · refine ⟨hw _, ?_⟩
    dsimp only [tYes]
    rw [if_pos rfl]
    have hi : i < xs.length := (List.getElem?_eq_some_iff.mp hx).1
    exact ⟨_, fun y H4 z => acc_turn F hD mono (by omega) hv z, turn i x H hx hv.1 hv.2.1⟩
  · obtain ⟨p1, k1, ys, l1, e1, q1⟩ := hv
    exact hd H ys p1 k1 l1 e1 q1
/-- [e for x in t], a tuple -/
theorem lct {K : PySem.W.Frag} {a : Addr} {xs : List V} {j : Nat} {te : TE} {vs : List Nat} {σ : L2.St} {Qd : Hp → Prop} (F : Fr R J D) (Pp : Nat → V → Hp → Prop) (hp : J H1) (hD : H1 D = none) (hn : xs.length < 100000)
    (hS : ∀ H, J H → R H1 H → SqT K H a xs)
    (mono : ∀ i v H H', Pp i v H → Stay H H' → Pp i v H') (hw : ∀ x, wipe ((wipe σ vs).set j (some x)) vs = wipe σ vs)
    (turn : ∀ (i : Nat) x H, xs[i]? = some x → J H → R H1 H → te ((wipe σ vs).set j (some x)) H (fun y H4 => J H4 ∧ R H H4 ∧ Pp i y H4))
    (hd : ∀ H ys, J H → R H1 H → ys.length = xs.length → H D = some (.lst ys) → (∀ (i : Nat) (y : V), ys[i]? = some y → Pp i y H) → Qd H) :
    ∃ W : Nat → Nat → Hp → Prop, (∃ m, W 0 m (upd H1 D (.lst []))) ∧ ∀ i m H, W i m H →
      ((Itt K a).stop i H ∧ Qd H) ∨ ((Itt K a).go i H ∧ ∃ Nx : Hp → Prop, (∀ H', Nx H' → ∃ m', m' < m ∧ W (i + 1) m' H') ∧ ∀ x H', (Itt K a).yld i H x H' → gName j x (wipe σ vs) H' fun σ2 H2 => wipe σ2 vs = wipe σ vs ∧ tYes σ2 H2 fun b H3 =>
        if b = true then upE te σ2 H3 fun y H4 => ∃ acc, H4 D = some (.lst acc) ∧ acc.length < sizeLine ∧ Nx (upd H4 D (.lst (acc ++ [y]))) else Nx H3) := by
  refine lc_tup (xs := xs) (accP R J Pp D H1) (acc_start F hp hD) (fun i H _ hv => hS H hv.1 hv.2.1) (fun i x H hx hv => ?_) (fun H hv => ?_)
  · refine ⟨hw _, ?_⟩
    dsimp only [tYes]
    rw [if_pos rfl]
    have hi : i < xs.length := (List.getElem?_eq_some_iff.mp hx).1
    exact ⟨_, fun y H4 z => acc_turn F hD mono (by omega) hv z, turn i x H hx hv.1 hv.2.1⟩
  · obtain ⟨p1, k1, ys, l1, e1, q1⟩ := hv
    exact hd H ys p1 k1 l1 e1 q1
end
theorem strs_of {n : Nat} {ys : List V} (h : ∀ (i : Nat) (y : V), ys[i]? = some y → ∃ z, y = V.str z ∧ TextOk n z) : ∃ zs : List Str, ys = zs.map V.str ∧ ∀ z ∈ zs, TextOk n z := by
  induction ys with
  | nil => exact ⟨[], rfl, fun z hz => by cases hz⟩
  | cons y r ih =>
    obtain ⟨z, rfl, tz⟩ := h 0 y rfl
    obtain ⟨zs, rfl, tzs⟩ := ih fun i y e => h (i + 1) y e
    refine ⟨z :: zs, rfl, fun x hx => ?_⟩
    rcases List.mem_cons.mp hx with e | e
    · rw [e]; exact tz
    · exact tzs x e
theorem sum_le1 {zs : List Str} : (∀ z ∈ zs, z.length ≤ 1) → (zs.map (·.length)).sum ≤ zs.length := by
  induction zs with
  | nil => intro _; exact Nat.le_refl _
  | cons z r ih =>
    intro h
    have h1 := h z List.mem_cons_self
    have h2 := ih fun x hx => h x (List.mem_cons_of_mem _ hx)
    rw [List.map_cons, List.sum_cons, List.length_cons]
    omega
/-- ''.join -/
theorem joinL_nil : ∀ ps : List (List Nat), TL.joinL [] ps = ps.flatten
  | [] => rfl
  | [p] => by show p = [p].flatten; simp
  | p :: q :: r => by
    show p ++ ([] ++ TL.joinL [] (q :: r)) = _
    rw [joinL_nil (q :: r)]
    simp
theorem join_list (y : Str) (zs : List Str) : (Txt.join y zs).cps.toList = TL.joinL y.cps.toList (zs.map TL.tl) := by
  rw [TL.join_eq]
  exact TL.tl_join y zs
theorem join_empty {y : Str} (hy : y.cps.toList = []) (zs : List Str) : (Txt.join y zs).cps.toList = (zs.map fun z => z.cps.toList).flatten := by
  rw [join_list, hy, joinL_nil]
theorem join_ok {y : Str} (hy : y.cps.toList = []) {zs : List Str} (h : ∀ z ∈ zs, TextOk 1 z) : TextOk zs.length (Txt.join y zs) := by
  have e := join_empty hy zs
  refine ⟨?_, fun c hc => ?_⟩
  · rw [len_list, e, List.length_flatten, List.map_map]
    have := sum_le1 fun z hz => (h z hz).1
    have e2 : (List.length ∘ fun z : Str => z.cps.toList) = fun z => z.length := funext fun z => (len_list z).symm
    rw [e2]
    exact this
  · rw [e] at hc
    obtain ⟨l, hl, hc⟩ := List.mem_flatten.mp hc
    obtain ⟨z, hz, rfl⟩ := List.mem_map.mp hl
    exact (h z hz).2 c hc
/-! ### text * int -/
def rRepS : R2 := fun x y H Q => match x, y with
  | .str a, .int j => 0 ≤ j ∧ j ≤ 1000 ∧ a.length ≤ 1000 ∧ ∀ z : Str, z.cps.toList = (List.replicate j.toNat a.cps.toList).flatten → Q (.str z) H
  | _, _ => False
theorem foldl_rep (c : Array Nat) : ∀ (n : Nat) (acc : Array Nat), ((List.replicate n c).foldl (· ++ ·) acc).toList = acc.toList ++ (List.replicate n c.toList).flatten
  | 0, acc => by simp
  | n + 1, acc => by
    rw [List.replicate_succ, List.foldl_cons, foldl_rep c n, List.replicate_succ, List.flatten_cons, Array.toList_append, List.append_assoc]
section
variable {X : Cx}
theorem op_repS : OpR X (binaryOp .Mult) rRepS := by
  intro pins s σ H x y v u Q I rx ry q
  unfold rRepS at q
  split at q
  · rename_i a j
    obtain ⟨h0, h1, h2, q⟩ := q
    obtain ⟨t, rfl⟩ := rx
    obtain ⟨t', rfl⟩ := ry
    have hd : (decide (j < -(2 ^ 63 : Int)) || decide (j ≥ 2 ^ 63)) = false := by
      rw [decide_eq_false (by omega), decide_eq_false (by omega)]
      rfl
    have hm : a.length * j.toNat ≤ 1000 * 1000 := Nat.mul_le_mul h2 (by omega)
    refine PySem.P.mul_str hd (fun n1 _ => ?_) (fun n1 _ => ?_) ?_
    · intro z
      have : (a.length : Int) ≤ 1000 := by omega
      have h3 : (1000 : Int) ≤ (2 ^ 63 - 1) / j := by
        refine (Int.le_ediv_iff_mul_le (by omega)).mpr ?_
        have : 1000 * j ≤ 1000 * 1000 := Int.mul_le_mul_of_nonneg_left h1 (by decide)
        omega
      omega
    · unfold Builtin.Str.tooLong
      refine decide_eq_false ?_
      intro z
      have : sizeLine ≥ 1000 * 1000 := by decide
      omega
    · by_cases c1 : j < 1
      · rw [if_pos c1]
        have e : j.toNat = 0 := by omega
        exact ⟨by decide, .str Str.empty, H, I.tok _, ⟨_, rfl⟩, q _ (by rw [e]; rfl)⟩
      · rw [if_neg c1]
        by_cases c2 : (j == 1 || a.length == 0) = true
        · rw [if_pos c2]
          refine ⟨.str a, H, I, ⟨_, rfl⟩, q _ ?_⟩
          rw [Bool.or_eq_true] at c2
          rcases c2 with c2 | c2
          · have e : j = 1 := by simpa using c2
            rw [e]
            show a.cps.toList = a.cps.toList ++ []
            rw [List.append_nil]
          · have e : a.cps.toList = [] := by
              have : a.length = 0 := by simpa using c2
              rw [len_list] at this
              exact List.length_eq_zero_iff.mp this
            rw [e]
            simp
        · rw [if_neg c2]
          have el : (List.replicate j.toNat a.cps).foldl (· ++ ·) #[] = (List.replicate j.toNat a.cps).foldl (· ++ ·) #[] := rfl
          have e := foldl_rep a.cps j.toNat #[]
          refine ⟨?_, .str _, H, I.tok _, ⟨_, rfl⟩, q _ ?_⟩
          · show ((List.replicate j.toNat a.cps).foldl (· ++ ·) #[]).size ≤ sizeLine
            rw [← Array.length_toList, e]
            simp
            rw [show a.cps.size = a.length from rfl, Nat.mul_comm]
            exact Nat.le_trans hm (by decide)
          · rw [e]
            rfl
  · exact q.elim
def rMul : R2 := fun x y H Q => match x, y with
  | .int i, .int j => CMul i j ∧ Q (.int (i * j)) H
  | .ref a, .int j => rRep (.ref a) (.int j) H Q
  | .str a, .int j => 0 ≤ j ∧ j ≤ 1000 ∧ a.length ≤ 1000 ∧ ∀ z : Str, z.cps.toList = (List.replicate j.toNat a.cps.toList).flatten → Q (.str z) H
  | _, _ => False
theorem op_mulU : OpR X (binaryOp .Mult) rMul := OpRw (OpR.or op_times op_repS) fun x y H Q q => by
  unfold rMul at q
  split at q
  · exact .inl q
  · exact .inl q
  · exact .inr q
  · exact q.elim
end
end Sk
namespace Sk
open PySem PySem.Spec PyProof.Rows L2
/-! ### values as they stand in a heap -/
def FlatOk : V → Prop
  | .non => True
  | .bl _ => True
  | .int i => i.natAbs ≤ 10 ^ 30
  | .str z => TextOk 24 z
  | _ => False
def DictOk (kvs : List (Key × V)) : Prop := kvs.length ≤ 3 ∧ (kvs.map (·.1)).Nodup ∧ ∀ p ∈ kvs, ∃ w, p.1 = .inr w ∧ NameOk w
def GoodV (H : Hp) : Nat → V → Prop
  | 0, v => FlatOk v
  | n + 1, v => FlatOk v ∨ (∃ a vs, v = .ref a ∧ H a = some (.tup vs) ∧ vs.length ≤ 3 ∧ ∀ x ∈ vs, GoodV H n x) ∨ (∃ a kvs, v = .ref a ∧ H a = some (.dK kvs) ∧ DictOk kvs ∧ ∀ p ∈ kvs, GoodV H n p.2)
theorem FlatOk.good {H : Hp} {v : V} (h : FlatOk v) : ∀ n, GoodV H n v
  | 0 => h
  | _ + 1 => .inl h
theorem GoodV.mono {H H' : Hp} (s : Stay H H') : ∀ (n : Nat) (v : V), GoodV H n v → GoodV H' n v
  | 0, _, h => h
  | n + 1, v, h => by
    rcases h with h | ⟨a, vs, e, h1, h2, h3⟩ | ⟨a, kvs, e, h1, h2, h3⟩
    · exact .inl h
    · exact .inr (.inl ⟨a, vs, e, s _ _ rfl h1, h2, fun x hx => GoodV.mono s n x (h3 x hx)⟩)
    · exact .inr (.inr ⟨a, kvs, e, s _ _ rfl h1, h2, fun p hp => GoodV.mono s n p.2 (h3 p hp)⟩)
theorem GoodV.up {H : Hp} : ∀ (n : Nat) (v : V), GoodV H n v → GoodV H (n + 1) v
  | 0, _, h => .inl h
  | n + 1, v, h => by
    rcases h with h | ⟨a, vs, e, h1, h2, h3⟩ | ⟨a, kvs, e, h1, h2, h3⟩
    · exact .inl h
    · exact .inr (.inl ⟨a, vs, e, h1, h2, fun x hx => GoodV.up n x (h3 x hx)⟩)
    · exact .inr (.inr ⟨a, kvs, e, h1, h2, fun p hp => GoodV.up n p.2 (h3 p hp)⟩)
/-- a key that is there gets another value -/
theorem put_keys {kvs : List (Key × V)} {k : Key} {x : V} (h : (valV kvs k).isSome = true) : (putK kvs k x).map (·.1) = kvs.map (·.1) := by
  unfold putK
  rw [if_pos (by rw [valV_any]; exact h), List.map_map]
  refine List.map_congr_left fun p _ => ?_
  show (if p.1 = k then (p.1, x) else p).1 = p.1
  split <;> rfl
theorem put_mem {kvs : List (Key × V)} {k : Key} {x : V} {p : Key × V} (h : p ∈ putK kvs k x) : p ∈ kvs ∨ (p.1 = k ∧ p.2 = x) := by
  unfold putK at h
  split at h
  · obtain ⟨q, hq, e⟩ := List.mem_map.mp h
    split at e
    · rename_i hk
      rw [← e]
      exact .inr ⟨hk, rfl⟩
    · rw [← e]
      exact .inl hq
  · rcases List.mem_append.mp h with h | h
    · exact .inl h
    · have : p = (k, x) := by simpa using h
      rw [this]
      exact .inr ⟨rfl, rfl⟩
theorem DictOk.put {kvs : List (Key × V)} {k : Key} {x : V} (d : DictOk kvs) (h : (valV kvs k).isSome = true) : DictOk (putK kvs k x) := by
  have e := put_keys (x := x) h
  refine ⟨?_, by rw [e]; exact d.2.1, fun p hp => ?_⟩
  · have l := congrArg List.length e
    rw [List.length_map, List.length_map] at l
    rw [l]
    exact d.1
  · have hm : p.1 ∈ (putK kvs k x).map (·.1) := List.mem_map_of_mem hp
    rw [e] at hm
    obtain ⟨q, hq, eq⟩ := List.mem_map.mp hm
    rw [← eq]
    exact d.2.2 q hq
theorem GoodV.put {G : Hp} {c : Addr} {kvs : List (Key × V)} {k : Key} {x : V} (hc : G c = some (.dK kvs)) (h : (valV kvs k).isSome = true) (hx : FlatOk x) : ∀ (n : Nat) (v : V), GoodV G n v → GoodV (upd G c (.dK (putK kvs k x))) n v
  | 0, _, g => g
  | n + 1, v, g => by
    rcases g with g | ⟨a, vs, e, h1, h2, h3⟩ | ⟨a, ws, e, h1, h2, h3⟩
    · exact .inl g
    · refine .inr (.inl ⟨a, vs, e, ?_, h2, fun x hx' => GoodV.put hc h hx n x (h3 x hx')⟩)
      rw [upd_ne (fun z => by rw [z, hc] at h1; cases h1)]
      exact h1
    · by_cases z : a = c
      · subst z
        rw [hc] at h1
        cases h1
        refine .inr (.inr ⟨a, _, e, upd_same, h2.put h, fun p hp => ?_⟩)
        rcases put_mem hp with hp | ⟨_, hp⟩
        · exact GoodV.put hc h hx n _ (h3 p hp)
        · rw [hp]
          exact hx.good n
      · refine .inr (.inr ⟨a, ws, e, ?_, h2, fun p hp => GoodV.put hc h hx n _ (h3 p hp)⟩)
        rw [upd_ne z]
        exact h1
/-! ### the part of a heap that is new -/
def newP (H H' : Hp) : Hp := fun b => match H b with | some _ => none | none => H' b
theorem newP_at {H H' : Hp} {b : Addr} (h : H b = none) : newP H H' b = H' b := by unfold newP; rw [h]
theorem newP_some {H H' : Hp} {b : Addr} {o : HO} (h : newP H H' b = some o) : H b = none ∧ H' b = some o := by
  unfold newP at h
  cases e : H b with
  | none => rw [e] at h; exact ⟨rfl, h⟩
  | some u => rw [e] at h; cases h
theorem newP_stay {H H' : Hp} : Stay (newP H H') H' := fun b o _ h => (newP_some h).2
/-- more was there before: less is new -/
theorem newP_less {H H1 H2 : Hp} (h : ∀ b, H1 b = none → H b = none) : Stay (newP H1 H2) (newP H H2) := fun b o _ e => by
  obtain ⟨e1, e2⟩ := newP_some e
  rw [newP_at (h b e1)]
  exact e2
theorem newP_on {H H1 H2 : Hp} (s : Stay H1 H2) : Stay (newP H H1) (newP H H2) := fun b o l e => by
  obtain ⟨e1, e2⟩ := newP_some e
  rw [newP_at e1]
  exact s b o l e2
theorem Keep.dom {a : Addr} {H H' : Hp} (k : Keep a H H') (p : Pool H' a) : ∀ b, H' b = none → H b = none := fun b e => k.free e (p.ne e)
/-- all but d -/
def hide (d : Addr) (H : Hp) : Hp := fun b => if b = d then none else H b
theorem hide_ne {d b : Addr} {H : Hp} (h : b ≠ d) : hide d H b = H b := by unfold hide; rw [if_neg h]
theorem hide_some {d b : Addr} {H : Hp} {o : HO} (h : hide d H b = some o) : b ≠ d ∧ H b = some o := by
  unfold hide at h
  split at h
  · cases h
  · exact ⟨by assumption, h⟩
theorem hide_stay {d : Addr} {H : Hp} : Stay (hide d H) H := fun b o _ h => (hide_some h).2
theorem hide_on {d : Addr} {H H' : Hp} (s : Stay H H') : Stay (hide d H) (hide d H') := fun b o l e => by
  obtain ⟨e1, e2⟩ := hide_some e
  rw [hide_ne e1]
  exact s b o l e2
theorem stay_hide {d : Addr} {H H' : Hp} (s : Stay H H') (hd : H d = none) : Stay H (hide d H') := fun b o l e => by
  rw [hide_ne (ne_of_none e hd)]
  exact s b o l e
end Sk
/-! Sk: what holds wherever a token has been given out (replace asks it of its two texts): defs, calls, comprehensions -/
namespace Sk
open PySem PySem.Spec PyProof.Rows L2
/-- a def keeps its promise, called where a token is out -/
structure FnT (P : Program) (w : World) (K : PySem.W.Frag) (mg : Str → Option Value) (base : Heap) (k : Nat) (f : Addr) (fd : FuncData) (ps : List Str) (sp : Sp) : Prop where
  len : ∀ vs H Q E, sp vs H Q E → vs.length = ps.length
  run : ∀ (A : Around) (outer : List Env) (s : Shared) (H : Hp) (args : Args) (us : List Value) (vs : List V) (Q : VK) (E : XK), 1 ≤ s.toks → Room k A → Env0 P w K mg base A outer s H → BindsTo s fd args (ps.zip us) → Vals vs us → sp vs H Q E →
    codeAny (model P w) A (.call (.ref f) args) (CR CX0 outer P w H s Q E) s
section
variable {P : Program} {w : World} {K : PySem.W.Frag} {mg : Str → Option Value} {base : Heap} {x qual : Str} {params : Arguments} {body : List Stmt} {scope : Scope} {dvs : List V} {kws : List (Str × V)} {f : Addr} {fd : FuncData}
theorem FnT.of {k : Nat} {ps : List Str} {sp : Sp} (F : FnOk P w K mg base CX0 k f fd ps sp) : FnT P w K mg base k f fd ps sp := ⟨F.len, fun A outer s H args us vs Q E _ => F.run A outer s H args us vs Q E⟩
theorem fnT_of {N ps : List Str} {k : Nat} {sp : Sp} (F : FunD K x qual params body scope dvs kws f fd) (S : FnScope N ps scope) (len : ∀ vs H Q E, sp vs H Q E → vs.length = ps.length)
    (hb : ∀ (cdv : Value) (A : Around) (outer : List Env) (s : Shared) (H : Hp) (vs : List V) (Q : VK) (E : XK), Room k (A.deeper (envOfC qual scope s.heap.objs.size f cdv)) → sp vs H Q E →
      ∃ t, PSsT (cxOf CX0 P w K mg base N qual scope f cdv A outer s H E).nox body t ∧ t { nx := fun _ H' => Q .non H', rt := Q } (start N vs) H) : FnT P w K mg base (k + 1) f fd ps sp := by
  obtain ⟨oc, od, dV, kV, doc, pm, an, cdv, ct, osl, efd, look, code, _, _⟩ := F.ex
  subst efd
  refine ⟨len, fun A outer s H args us vs Q E tok room env bind rel want => ?_⟩
  have size := len _ _ _ _ want
  have inK : K.In s.heap := env.mod.kin.keeps fun b o e => (env.bs b o e).1
  have calm : s.heap.NoLimit := env.mod.nolimit.keeps fun b o e => (env.bs b o e).1
  have kinds : ∀ y ∈ ps.zip us, scope.names.lookup y.1 = some .local ∨ (scope.names.lookup y.1 = some .cell ∧ ((cellsFrom (s.heap.objs.size + 1) scope.names []).lookup y.1).isSome = true) := by
    rintro ⟨n, v⟩ hy
    cases S.par n (List.of_mem_zip hy).1 with
    | inl q => exact .inl q
    | inr q => exact .inr ⟨q, PySem.W.cellsFrom_some _ _ _ (.inl q)⟩
  refine codeAny_call_function room.depth (inK _ _ look) rfl S.co S.gen rfl (PySem.W.codeRec_of inK code) (bind _ _ _ _ ?_)
  refine wpAny_with_toks (n := 1) tok (wpAny_newFunctionEnv_cells S.kind kinds fun e1 he1 s1 inC tok1 => ?_)
  subst he1
  obtain ⟨t, der, red⟩ := hb cdv A outer s H vs Q E (room.deeper _) want
  have inv : Inv (cxOf CX0 P w K mg base N qual scope f cdv A outer s H E) [] (start N vs) H s1 := inv_start S room.hd env size rel inC
  have inv' : Inv (cxOf CX0 P w K mg base N qual scope f cdv A outer s H E).nox [] (start N vs) H s1 := ⟨⟨inv.ok.mod, inv.ok.kind, inv.ok.glob, inv.ok.blt, inv.ok.above, inv.ok.inj, inv.ok.has, inv.ok.cab, inv.ok.hd, inv.ok.frames, inv.ok.stk, inv.ok.exf, inv.ok.bs, inv.ok.bsz, inv.ok.noex, inv.ok.exfs, inv.ok.funs, inv.ok.frf⟩, inv.os, inv.bare, inv.base, inv.loc, inv.cell, inv.free, inv.freeC, inv.pin, inv.hok, inv.len⟩
  refine ⟨calm.keeps inC.toInCall.keep, codeAny_func (wpAny_mono (der [] s1 _ H _ tok1 inv' red) (fun fl s2 h2 => ?_) fun _ _ z => z.elim)⟩
  have back : ∀ {σ2 : L2.St} {H2 : Hp} {v : V} {u : Value}, Inv (cxOf CX0 P w K mg base N qual scope f cdv A outer s H E).nox [] σ2 H2 s2 → RelV v u → Q v H2 → CE outer P w H s Q u s2 := fun J r q => ⟨_, _, J.os, J.bare, J.base, J.hok, r, q⟩
  cases fl with
  | ret u => obtain ⟨v, σ2, H2, J, r, q⟩ := h2; exact back J r q
  | next => obtain ⟨σ2, H2, J, q⟩ := h2; exact back (u := Value.none) (v := V.non) J rfl q
  | brk => obtain ⟨_, _, _, q⟩ := h2; exact q.elim
  | cont => obtain ⟨_, _, _, q⟩ := h2; exact q.elim
end
section
variable {X : Cx}
/-- f(e, ..) -/
theorem petcall {k : Nat} {f : Addr} {fd : FuncData} {ps : List Str} {sp : Sp} {y : Str} {e : Expr} {es : List Expr} {t : TA} {p pos : Pos} (F : FnT X.prog X.w X.K X.mg X.base k f fd ps sp) (hr : Room k X.A) (hg : Gl X y) (hm : X.mg y = some (.ref f)) (hk : PySem.W.keepIn X.K (.ref f) = true)
    (hb : Binds X.K fd ps []) (ha : PA X (e :: es) t) (hdb : (y == ("__debug__" : Str)) = false := by decide) (he : starEach (e :: es) X.env = (false, eval e X.env) :: starEach es X.env := by rfl) (hpl : (backTo pos (starEach es X.env)).any (·.1) = false := by rfl) :
    PET X (.Call (.Name y p) (e :: es) [] pos) (fun σ H Q => t σ H fun vs H1 => sp vs H1 Q E0) := by
  intro pins s σ H Q tok I h
  refine wpAny_Call_Name_kw (ld_glob I hg hm ?_ hdb)
  have args := PySem.wpAny_toks_of tok (ha.run pos pins s σ H _ I h)
  refine PySem.W.callWith_K (h₀ := X.base) I.ok.mod.kin hk (wpAny_mono args (fun us s1 z => ?_) fun _ _ z => z.2) he hpl
  obtain ⟨tok1, vs, H1, I1, r, q⟩ := z
  refine ⟨I1.kIn, ?_⟩
  have r2 : Vals vs (us ++ []) := by rw [List.append_nil]; exact r
  have size : (us ++ []).length = ps.length := by rw [← r2.length]; exact F.len _ _ _ _ q
  refine wpAny_call (codeAny_mono (F.run X.A X.stack s1 H1 ⟨us, []⟩ (us ++ []) vs Q E0 tok1 hr I1.env0 (hb s1 us I1.kIn size) r2 q) fun r s2 hq => ?_)
  cases r with
  | error e => exact hq.elim
  | ok fl =>
    cases fl with
    | ret u => exact I1.after hq
    | next => exact hq.elim
    | brk => exact hq.elim
    | cont => exact hq.elim
/-- no error, and a token is out behind it too -/
theorem thnT {α : Type} {t : Sem α} {Q Q' : α → Shared → Prop} {M : Model} {A : Around} {E : Value → Shared → Prop} {s : Shared} (tok : 1 ≤ s.toks) (h : wpAny M A t Q (fun _ _ => False) s) (hQ : ∀ a s', 1 ≤ s'.toks → Q a s' → Q' a s') : wpAny M A t Q' E s :=
  wpAny_mono (PySem.wpAny_toks_of tok h) (fun a s' z => hQ a s' z.1 z.2) fun _ _ z => z.2.elim
/-- [elt for target in iter], elt where a token is out -/
theorem lcT_core {pins : List (Addr × Obj)} {s : Shared} {σ : L2.St} {H : Hp} {Q : VK} {elt tg iter : Expr} {scope : Scope} {own : List (Str × Nat)} {pos pos' : Pos} {wi : TI} {g : TG} {te : TE} {use : Option (Value → Sem Unit)} {Qf : Value → Shared → Prop}
    (tok : 1 ≤ s.toks) (hc : X.calm = true) (hN : X.N.Nodup) (I : Inv X pins σ H s) (hi : PI X tg iter wi) (ok : BlkOk X.N X.env.scope scope own)
    (hg : ∀ (s : Shared) (H : Hp) (C : Addr) (cl : List (Str × Addr)) (fp : List Addr), PG (X.blk s H scope (compEnvC scope cl C X.env) fp) tg g)
    (he : ∀ (s : Shared) (H : Hp) (C : Addr) (cl : List (Str × Addr)) (fp : List Addr), PET (X.blk s H scope (compEnvC scope cl C X.env) fp) elt te) (hs : ∀ x, foldedSetIterable iter X.env x = pure x)
    (h : tLc wi g tYes te (own.map (·.2)) σ H Q)
    (fin : ∀ D C s' m H', Inv X pins σ H' s' → Q (.ref D) H' → s'.heap.Ns C m → FpOk X pins H' C → compPost (model X.prog X.w) X.A X.xe use Qf (.ref D) C (.ok .next) s') :
    wpAny (model X.prog X.w) X.A (comprehension (.ListComp elt [⟨tg, iter, [], 0⟩] scope pos) scope X.env pos' (newList []) false (eval iter X.env) use) Qf X.xe s := by
  have caught : ∀ y ∈ scope.names, y.2 = .free → ∃ c, X.env.cells.lookup y.1 = some c := by
    intro y hy e
    cases ok.free y hy e with
    | inl k => exact I.ok.has _ (.inl k)
    | inr k => exact I.ok.has _ (.inr k)
  have walked := PySem.wpAny_toks_of tok (hi.run pins s σ H _ I h)
  refine wpAny_comprehension_free (use := use) rfl hs (closure_ok caught) ok.kind (fun y hy e => by rw [ok.uniq y hy, e]) (wpAny_mono walked (fun xv s1 hx => ?_) fun _ _ z => z.2)
  obtain ⟨tok1, hx⟩ := hx
  refine wpAny_mono (PySem.wpAny_toks_of tok1 hx) (fun itv s2 h2 => ?_) fun _ _ z => z.2
  obtain ⟨tok2, it, fp, tn, J, H2, e, I2, T, st2, f2, q⟩ := h2
  subst e
  refine wpAny_newObj_type (newEnv_comp ?_) (by show 0 ≤ sizeLine; decide)
  obtain ⟨D, hD⟩ : ∃ D, s2.heap.objs.size = D := ⟨_, rfl⟩
  rw [hD]
  have freeD : H2 D = none := I2.hok.fresh (Nat.le_of_eq hD)
  obtain ⟨W, ⟨m0, w0⟩, turn⟩ := q D freeD
  obtain ⟨s3, es3⟩ : ∃ s3 : Shared, ({ s2 with heap := s2.heap.push { cls := .type "list", data := .seq ([] : List Value).toArray } } : Shared) = s3 := ⟨_, rfl⟩
  rw [es3]
  have hp3 : s3.heap = s2.heap.push { cls := .type "list", data := .seq ([] : List Value).toArray } := by rw [← es3]
  have tok3 : 1 ≤ s3.toks := by rw [← es3]; exact tok2
  have grow : ∀ b o, s2.heap.get? b = some o → s3.heap.get? b = some o := fun b o e => by rw [hp3]; exact Heap.get?_push_of_some _ e
  have I3 : Inv X pins σ (upd H2 D (.lst [])) s3 := by
    rw [← es3]
    refine I2.laid (t' := s2.toks) (fun b o e => Heap.get?_push_of_some _ e) (Nat.le_of_eq hD) ⟨Nat.zero_le _, [], 0, .nil, ?_⟩
    rw [← hD]
    exact Heap.get?_push_size _ rfl
  have f3 : ∀ b ∈ fp, FpOk X pins (upd H2 D (.lst [])) b ∧ b < s3.heap.objs.size := by
    intro b hb
    obtain ⟨o, eo, _⟩ := T.obj _ _ st2 b hb
    have lt := Heap.lt_size eo
    have ne : b ≠ D := by rw [← hD]; exact Nat.ne_of_lt lt
    refine ⟨⟨?_, (f2 b hb).2⟩, ?_⟩
    · rw [upd_ne ne]; exact (f2 b hb).1
    · rw [hp3, Heap.size_push]; exact Nat.lt_succ_of_lt lt
  have st3 : tn 0 s3.heap := T.keep _ _ _ st2 fun b _ o e => grow b o e
  have I4 := block_start I3 ok hN f3
  have pg := hg s3 (upd H2 D (.lst [])) s3.heap.objs.size (cellsFrom (s3.heap.objs.size + 1) scope.names (cloFrom X.env.cells scope.names [])) fp
  have pe := he s3 (upd H2 D (.lst [])) s3.heap.objs.size (cellsFrom (s3.heap.objs.size + 1) scope.names (cloFrom X.env.cells scope.names [])) fp
  have none3 : ∀ b ∈ fp, (upd H2 D (.lst [])) b = none := fun b hb => (f3 b hb).1.1
  show codeAny (model X.prog X.w) X.A (.compStart (.ListComp elt [⟨tg, iter, [], 0⟩] scope pos) 0 (.ref it) (.ref D) (compEnvC scope (cellsFrom (s3.heap.objs.size + 1) scope.names (cloFrom X.env.cells scope.names [])) s3.heap.objs.size X.env)) (compPost (model X.prog X.w) X.A X.xe use Qf (.ref D) s3.heap.objs.size) _
  obtain ⟨ce, ece⟩ : ∃ ce, compEnvC scope (cellsFrom (s3.heap.objs.size + 1) scope.names (cloFrom X.env.cells scope.names [])) s3.heap.objs.size X.env = ce := ⟨_, rfl⟩
  have loc : ce.locals = s3.heap.objs.size := by rw [← ece]; rfl
  rw [ece] at I4 pg pe ⊢
  obtain ⟨H3, eH3⟩ : ∃ H3, upd H2 D (.lst []) = H3 := ⟨_, rfl⟩
  rw [eH3] at I3 I4 pg pe w0 none3 f3
  obtain ⟨s4, es4⟩ : ∃ s4 : Shared, ({ s3 with heap := pushCells (s3.heap.push { cls := .type "dict", data := .dict #[] }) scope.names } : Shared) = s4 := ⟨_, rfl⟩
  rw [es4] at I4 ⊢
  have tok4 : 1 ≤ s4.toks := by rw [← es4]; exact tok3
  have st4 : tn 0 s4.heap := T.keep _ _ _ st3 fun b _ o e => by rw [← es4]; exact pushCells_keeps _ _ _ _ (Heap.get?_push_of_some _ e)
  have own4 : ∀ {σ' : L2.St} {H' : Hp} {s' : Shared}, Inv (X.blk s3 H3 scope ce fp) [] σ' H' s' → (∀ b ∈ fp, H' b = none) → ∀ b ∈ fp, FpOk (X.blk s3 H3 scope ce fp) [] H' b := by
    intro σ' H' s' I' hn b hb
    have ex := I'.ok.exf b hb
    exact ⟨hn b hb, ex.1, I'.ok.exfs b hb, .inl hb, fun x c e => ex.2 x c e, fun p hp => by cases hp⟩
  have loop : codeAny (model X.prog X.w) X.A (.compLoop (.ListComp elt [⟨tg, iter, [], 0⟩] scope pos) 0 (.ref it) (.ref D) ce) (compPost (model X.prog X.w) X.A X.xe use Qf (.ref D) s3.heap.objs.size) s4 := by
    refine compLoop_any (fun n s' => 1 ≤ s'.toks ∧ ∃ i H', Inv (X.blk s3 H3 scope ce fp) [] (wipe σ (own.map (·.2))) H' s' ∧ tn i s'.heap ∧ (∀ b ∈ fp, H' b = none) ∧ W i n H') ?_ m0 ⟨tok4, 0, H3, I4, st4, none3, w0⟩
    rintro n s5 ⟨tok5, i, H5, I5, st5, n5, w5⟩
    cases turn i n H5 w5 with
    | inl z =>
      obtain ⟨stop, qq⟩ := z
      have td := T.done (X.blk s3 H3 scope ce fp) rfl rfl rfl hc i [] s5 _ H5 (fun _ _ => False) I5 (own4 I5 n5) st5 stop
      refine thnF td fun r s6 z => ?_
      obtain ⟨hr, I6⟩ := z
      subst hr
      have back : Inv X pins σ H5 s6 := I3.call' (ch := fp) I6.os I6.base I6.hok I6.bare fun b hb => by
        have z := (f3 b hb).1
        exact ⟨z.2.2.2.1, z.2.1, z.2.2.2.2.1, z.2.2.2.2.2⟩
      have nC : H5 ce.locals = none := I6.free
      obtain ⟨m, hn, _⟩ := I6.loc
      have hn : s6.heap.Ns ce.locals m := hn
      rw [loc] at hn nC
      exact fin D s3.heap.objs.size s6 m H5 back qq hn (I3.fpOk (Nat.le_refl _) nC)
    | inr z =>
      obtain ⟨go, Nx, hNx, step⟩ := z
      have ti := T.item (X.blk s3 H3 scope ce fp) rfl rfl rfl hc i [] s5 _ H5 (fun _ _ => False) I5 (own4 I5 n5) st5 go
      refine thnT tok5 ti fun r s6 tok6 z => ?_
      obtain ⟨u, hr, h6⟩ := z
      subst hr
      refine thnT tok6 h6 fun _ s7 tok7 z => ?_
      obtain ⟨x, H7, I7, r7, y7, st7, n7⟩ := z
      have I7p := I7.pinned (own4 I7 n7) (T.obj _ _ st7)
      refine thnT tok7 (pg.run _ s7 _ H7 x u _ I7p r7 (step x H7 y7)) fun _ s8 tok8 z => ?_
      obtain ⟨σ8, H8, I8, same8, q8⟩ := z
      have pt : PTs (X.blk s3 H3 scope ce fp) [] tYes := pts_nil
      refine thnT tok8 (pt.run _ s8 σ8 H8 _ I8 q8) fun b s9 tok9 z => ?_
      obtain ⟨H9, I9, q9⟩ := z
      have next : ∀ {s' : Shared} {H' : Hp}, 1 ≤ s'.toks → Inv (X.blk s3 H3 scope ce fp) ([] ++ pinsAt fp s7.heap) σ8 H' s' → Nx H' →
          ∃ m, m < n ∧ 1 ≤ s'.toks ∧ ∃ i H', Inv (X.blk s3 H3 scope ce fp) [] (wipe σ (own.map (·.2))) H' s' ∧ tn i s'.heap ∧ (∀ b ∈ fp, H' b = none) ∧ W i m H' := by
        intro s' H' tok' I' nx
        obtain ⟨m', hm, w'⟩ := hNx H' nx
        have held : ∀ b ∈ fp, ∀ o, s7.heap.get? b = some o → s'.heap.get? b = some o ∧ H' b = none := by
          intro b hb o e
          have z := I'.pin (b, o) (List.mem_append_right _ (List.mem_append_right _ (mem_pinsAt hb e)))
          exact ⟨z.1, z.2.1⟩
        refine ⟨m', hm, tok', i + 1, H', ?_, ?_, ?_, w'⟩
        · refine (I'.unpinned (pins := [])).weak (by rw [← same8, wipe_length]) fun j v e => ?_
          rw [← same8] at e
          exact (wipe_some e).1
        · exact T.keep _ _ _ st7 fun b hb o e => (held b hb o e).1
        · intro b hb
          obtain ⟨o, e, _⟩ := T.obj _ _ st7 b hb
          exact (held b hb o e).2
      cases b with
      | false =>
        simp only [Bool.false_eq_true, if_false] at q9 ⊢
        exact next tok9 I9 q9
      | true =>
        simp only [if_true] at q9 ⊢
        refine thnT tok9 (pe _ s9 σ8 H9 _ tok9 I9 q9) fun z s10 tok10 w => ?_
        obtain ⟨yv, H10, I10, r10, acc, hD10, hz10, nx⟩ := w
        have app := app_ok (X := X.blk s3 H3 scope ce fp) (E := fun _ _ => False) (Q := fun _ s11 => Inv (X.blk s3 H3 scope ce fp) ([] ++ pinsAt fp s7.heap) σ8 (upd H10 D (.lst (acc ++ [yv]))) s11) I10 hD10 hz10 r10 fun s11 I11 => I11
        exact thnT tok10 app fun _ s11 tok11 I11 => next tok11 I11 nx
  exact codeAny_compStart_list loop (T.self X.A 0 _ _ _ st4 loop)
/-- as a value -/
theorem petlc {elt tg iter : Expr} {scope : Scope} {own : List (Str × Nat)} {pos : Pos} {wi : TI} {g : TG} {te : TE} (hc : X.calm = true) (hN : X.N.Nodup) (hi : PI X tg iter wi) (ok : BlkOk X.N X.env.scope scope own)
    (hg : ∀ (s : Shared) (H : Hp) (C : Addr) (cl : List (Str × Addr)) (fp : List Addr), PG (X.blk s H scope (compEnvC scope cl C X.env) fp) tg g)
    (he : ∀ (s : Shared) (H : Hp) (C : Addr) (cl : List (Str × Addr)) (fp : List Addr), PET (X.blk s H scope (compEnvC scope cl C X.env) fp) elt te) (hs : ∀ x, foldedSetIterable iter X.env x = pure x := by intro _; rfl) :
    PET X (.ListComp elt [⟨tg, iter, [], 0⟩] scope pos) (tLc wi g tYes te (own.map (·.2))) := by
  intro pins s σ H Q tok I h
  rw [eval_ListComp]
  refine lcT_core tok hc hN I hi ok hg he hs h fun D C s' m H' I' q hn f => ⟨m, hn, fun h2 sb => ?_⟩
  have z := I'.turned (t' := s'.toks) (fun b o hb e => (sb.2 b hb).trans e) f.1 f.2.1 f.2.2.2.1 f.2.2.2.2.1 f.2.2.2.2.2
  exact ⟨.ref D, H', z, rfl, q⟩
/-- y = [..] -/
theorem pstsetLc {i : Nat} {y : Str} {py : Pos} {elt tg iter : Expr} {scope : Scope} {own : List (Str × Nat)} {pos spos : Pos} {wi : TI} {g : TG} {te : TE} (hc : X.calm = true) (hN : X.N.Nodup) (hy : X.N[i]? = some y) (hyl : X.env.scope.names.lookup y = some .local)
    (hsw : swapsWith (.ListComp elt [⟨tg, iter, [], 0⟩] scope pos) (some (.Name y py)) spos.line X.env = pure true) (hi : PI X tg iter wi) (ok : BlkOk X.N X.env.scope scope own)
    (hg : ∀ (s : Shared) (H : Hp) (C : Addr) (cl : List (Str × Addr)) (fp : List Addr), PG (X.blk s H scope (compEnvC scope cl C X.env) fp) tg g)
    (he : ∀ (s : Shared) (H : Hp) (C : Addr) (cl : List (Str × Addr)) (fp : List Addr), PET (X.blk s H scope (compEnvC scope cl C X.env) fp) elt te) (hs : ∀ x, foldedSetIterable iter X.env x = pure x := by intro _; rfl) :
    PST X (.Assign [.Name y py] (.ListComp elt [⟨tg, iter, [], 0⟩] scope pos) spos) (tAsg (tLc wi g tYes te (own.map (·.2))) (gName i)) := by
  intro pins s σ H D tok I h
  rw [exec_Assign_Name_used _ _ _ _ hsw]
  refine wpAny_bind (wpAny_standAt (wpAny_bind ?_))
  have want : tLc wi g tYes te (own.map (·.2)) σ H (fun x H1 => gName i x σ H1 D.nx) := h
  refine wpAny_bind (thn (lcT_core (use := some (assign (.Name y py) X.env)) (Qf := fun _ s' => SP X pins D .next s') tok hc hN I hi ok hg he hs want fun L C s' m H' I' q hn f => ?_) fun _ s' hq => wpAny_pure (wpAny_pure hq))
  show wpAny _ _ (assign (.Name y py) X.env (.ref L)) _ _ _
  refine wpAny_assign_Name (store_ok2 (v := V.ref L) I' hN hy (.inl hyl) rfl (fun s2 I2 z => ?_) (.inr hyl))
  obtain ⟨a, sb, ha⟩ := z
  have apart : C ≠ a := by
    cases ha with
    | inl z => rw [z]; exact f.2.1
    | inr z => exact fun e => f.2.2.2.2.1 y a z e.symm
  refine ⟨m, hn.sameBut sb apart, fun h3 sb3 => ?_⟩
  have z := I2.turned (t' := s2.toks) (fun b o hb e => (sb3.2 b hb).trans e) f.1 f.2.1 f.2.2.2.1 f.2.2.2.2.1 f.2.2.2.2.2
  exact ⟨_, H', z, q⟩
theorem PETw {e : Expr} {t t' : TE} (h : PET X e t) (w : ∀ σ H Q, t' σ H Q → t σ H Q) : PET X e t' := fun pins s σ H Q tok I q => h pins s σ H Q tok I (w σ H Q q)
theorem upT' {e : Expr} {t : TE} (h : PET X e t) : PET X e (upE t) := fun pins s σ H Q tok I q => by
  obtain ⟨Q', w, q⟩ := q
  exact thn (h pins s σ H Q' tok I q) fun v s1 ⟨x, H1, I1, r1, q1⟩ => ⟨x, H1, I1, r1, w _ _ q1⟩
/-- x = e -/
theorem pstset {i : Nat} {x : Str} {e : Expr} {te : TE} {pos pos' : Pos} (hN : X.N.Nodup) (hi : X.N[i]? = some x) (hx : Loc X.env.scope x) (he : PET X e te) (hs : swapsWith e (some (.Name x pos')) pos.line X.env = pure false := by rfl) (hf : X.fn x = true ∨ X.env.scope.names.lookup x = some .local := by first | exact .inl rfl | exact .inr rfl | assumption) :
    PST X (.Assign [.Name x pos'] e pos) (tAsg te (gName i)) := by
  intro pins s σ H D tok I h
  refine wpAny_Assign_Name (thn (he pins s σ H _ tok I h) fun v s1 z => ?_) hs
  obtain ⟨y, H1, I1, r1, q1⟩ := z
  exact store_ok I1 hN hi hx r1 (fun s2 I2 => ⟨_, H1, I2, q1⟩) hf
/-- sep.join(e) -/
theorem petjoin (K : PySem.W.Frag) {o e : Expr} {to te : TE} {apos pos : Pos} (ho : PE X o to) (he : PET X e te) (hK : X.K = K := by rfl) (hs : starEach [e] X.env = [(false, eval e X.env)] := by rfl) (hbase : attributeBase o "join" X.env (eval o X.env) = eval o X.env := by rfl) (hline : (apos.endLine == pos.line) = true := by rfl) :
    PET X (.Call (.Attribute o "join" apos) [e] [] pos) (uJoin K to te) := by
  subst hK
  intro pins s σ H Q tok I h
  refine PySem.Call_method1 hbase hs hline (wpAny_mono (PySem.wpAny_toks_of tok (ho.run pins s σ H _ I h)) (fun v s1 z => ?_) fun _ _ z => z.2)
  obtain ⟨tok1, x, H1, I1, r1, q1⟩ := z
  cases x with
  | str a =>
    obtain ⟨t, rfl⟩ := id r1
    refine ⟨"str", _, F.plainAttrs_str, F.slot_str_join, F.type_str_join, typeIs_str _ _ _, (fun _ e => nomatch e), Calls.callWith_builtin rfl (Calls.evalArgs_plain (Calls.spliced_cons ?_))⟩
    refine thn (he pins s1 σ H1 _ tok1 I1 q1) fun u s2 z => Calls.spliced_nil ?_
    obtain ⟨y, H2, I2, r2, q2⟩ := z
    cases y with
    | ref p =>
      obtain ⟨ys, h1, h2, h3⟩ := q2
      exact mt_join pins s2 σ H2 _ [.ref p] _ [u] Q I2 r1 (.cons r2 .nil) ⟨a, p, ys, rfl, rfl, h1, h2, h3⟩
    | _ => exact q2.elim
  | _ => exact q1.elim
/-- a field of an f-string -/
theorem petfmt {e : Expr} {te : TE} {pos : Pos} (he : PET X e te) : PET X (.FormattedValue e (-1) none pos) (uFmt te) := by
  intro pins s σ H Q tok I h
  refine wpAny_FormattedValue_plain (thn (he pins s σ H _ tok I h) fun v s1 z => ?_)
  obtain ⟨x, H1, I1, r1, q⟩ := z
  cases x with
  | str y =>
    obtain ⟨t, rfl⟩ := r1
    exact wpAny_formatField_str ⟨.str y, H1, I1, ⟨t, rfl⟩, q.2⟩ ⟨.str y, H1, I1.tok _, ⟨_, rfl⟩, q.2⟩ q.1
  | int i =>
    obtain ⟨t, rfl⟩ := r1
    exact wpAny_formatField_int q.1 ⟨.str (toString i), H1, I1.tok _, ⟨_, rfl⟩, q.2⟩
  | _ => exact q.elim
inductive PJT (X : Cx) : List Expr → List TE → Prop where
  | nil : PJT X [] []
  | cons {e : Expr} {t : TE} {es : List Expr} {ts : List TE} (h : PET X e t) (r : PJT X es ts) : PJT X (e :: es) (t :: ts)
theorem pjt_run {pins : List (Addr × Obj)} {σ : L2.St} {es : List Expr} {ts : List TE} (h : PJT X es ts) : ∀ (acc : Str) (s : Shared) (H : Hp) (Q : Str → Hp → Prop) (R : Str → Shared → Prop), 1 ≤ s.toks → acc.length ≤ sizeLine → Inv X pins σ H s → tJs ts acc σ H Q →
    (∀ out s1 H1, out.length ≤ sizeLine → Inv X pins σ H1 s1 → Q out H1 → R out s1) → Joins (model X.prog X.w) X.A X.xe (evalEach es X.env) acc R s := by
  induction h with
  | nil =>
    intro acc s H Q R _ hz I q k
    have e0 : evalEach [] X.env = [] := by simp [evalEach]
    rw [e0]
    exact k acc s H hz I q
  | @cons e t es ts he _ ih =>
    intro acc s H Q R tok hz I q k
    have e0 : evalEach (e :: es) X.env = eval e X.env :: evalEach es X.env := by simp [evalEach]
    rw [e0]
    refine wpAny_mono (PySem.wpAny_toks_of tok (he pins s σ H _ tok I q)) (fun v s1 z => ?_) fun _ _ z => z.2
    obtain ⟨tok1, x, H1, I1, r1, y, rfl, hy, q1⟩ := z
    obtain ⟨tk, rfl⟩ := r1
    exact ⟨y, tk, rfl, hy, ih (acc ++ y) s1 H1 Q R tok1 hy I1 q1 k⟩
/-- f'..' of two parts or more -/
theorem petjoined {v1 v2 : Expr} {rest : List Expr} {ts : List TE} {pos : Pos} (h : PJT X (v1 :: v2 :: rest) ts) : PET X (.JoinedStr (v1 :: v2 :: rest) pos) (fun σ H Q => tJs ts Str.empty σ H fun out H1 => Q (.str out) H1) := by
  intro pins s σ H Q tok I q
  exact wpAny_JoinedStr (pjt_run h Str.empty s H (fun out H1 => Q (.str out) H1) _ tok (Nat.zero_le _) I q fun out s1 H1 hz I1 q1 => ⟨hz, .str out, H1, I1.tok _, ⟨_, rfl⟩, q1⟩)
/-- a test's way -/
theorem pstif {c : Expr} {a b : List Stmt} {tc : TT} {t u : TS} {pos : Pos} (hc : PT X c tc) (ha : PSsT X a t) (hb : PSsT X b u) : PST X (.If c a b pos) (uIf tc t u) := fun pins s σ H D tok I h =>
  CwR.pst_if (upt hc) ha hb pins s σ H D tok I ⟨_, fun x H' z => br_if z, h⟩
end
end Sk
/-! Sk: list(text), tuple, lists of anything; calls by keywords alone -/
namespace Sk
open PySem PySem.Spec PyProof.Rows L2
section
variable {X : Cx}
def sgs (z : Str) : List V := z.cps.toList.map fun c => V.str ⟨#[c]⟩
theorem call_list_txt (hc : X.A.handled = none) : CallR X (.type "list") (fun xs H Q => ∃ z, xs = [.str z] ∧ z.length ≤ sizeLine ∧ ∀ l, H l = none → Q (.ref l) (upd H l (.lst (sgs z)))) := by
  intro pins s σ H xs us Q I r h
  obtain ⟨z, rfl, hz, q⟩ := h
  cases r with
  | @cons _ u _ us ru rs =>
  cases rs
  obtain ⟨t, rfl⟩ := ru
  refine PySem.call_list_str (hn := hz) hc z t fun h' tk acc c keep at_ items => ?_
  have hl : (sgs z).length = acc.toList.length := by
    unfold sgs
    rw [List.length_map, Array.length_toList, Array.length_toList, items.1]
  have vals : Vals (sgs z) acc.toList := vals_of_at hl fun j x u hx hu => by
    have hu' : acc[j]? = some u := by rw [← hu, Array.getElem?_toList]
    obtain ⟨c, tk, hc, rfl⟩ := items.2 j u hu'
    unfold sgs at hx
    rw [List.getElem?_map, Array.getElem?_toList, hc] at hx
    cases hx
    exact ⟨tk, rfl⟩
  have I' := I.laid (a := s.heap.objs.size) (o := .lst (sgs z)) (t' := tk) keep (Nat.le_refl _) ⟨by rw [hl, Array.length_toList, items.1]; exact hz, acc.toList, c, vals, at_⟩
  exact ⟨.ref s.heap.objs.size, _, I', rfl, q _ (I.hok.fresh (Nat.le_refl _))⟩
/-- list(x): a list, a tuple, a text -/
def rLstU (K : PySem.W.Frag) : List V → Hp → VK → Prop := fun xs H Q => match xs with
  | [.ref p] => ∃ ys, (SqL K H p ys ∨ SqT K H p ys) ∧ ∀ l, H l = none → Q (.ref l) (upd H l (.lst ys))
  | [.str z] => z.length ≤ sizeLine ∧ ∀ l, H l = none → Q (.ref l) (upd H l (.lst (sgs z)))
  | _ => False
theorem klstU (K : PySem.W.Frag) (hc : X.A.handled = none) (h : X.K = K := by rfl) : CallR X (.type "list") (rLstU K) := by
  subst h
  refine CallRw (CallR.or call_list_of (call_list_txt hc)) fun xs H Q q => ?_
  unfold rLstU at q
  split at q
  · obtain ⟨ys, q⟩ := q
    exact .inl ⟨_, ys, rfl, q⟩
  · exact .inr ⟨_, rfl, q⟩
  · exact q.elim
/-- f(k = v, ..) -/
def uCallK (sp : Sp) (m : Nat) (gV : List V → List V) (tk : TA) : TE := fun σ H Q => tk σ H fun zs H2 => zs.length = m ∧ sp (gV zs) H2 Q E0
theorem pe_callK0 {k : Nat} {f : Addr} {fd : FuncData} {ps ks : List Str} {sp : Sp} {x : Str} {p pos : Pos} {kws : List Keyword} {tk : TA} {g : List Value → List Value} {gV : List V → List V} (F : FnOk X.prog X.w X.K X.mg X.base CX0 k f fd ps sp) (hr : Room k X.A) (hg : Gl X x) (hm : X.mg x = some (.ref f))
    (hk : PySem.W.keepIn X.K (.ref f) = true) (hb : KBn X.K fd ps 0 ks (fun _ => g) (fun _ => gV)) (hkw : PK X kws tk) (hall : (backToKw pos (keywordEach kws X.env)).all (·.1.isSome) = true := by rfl) (hks : (backToKw pos (keywordEach kws X.env)).filterMap (·.1) = ks := by rfl)
    (hdb : (x == ("__debug__" : Str)) = false := by decide) (hpl : ((backTo pos (starEach [] X.env)).any (·.1) || (backToKw pos (keywordEach kws X.env)).any (·.1.isNone)) = false := by rfl) :
    PE X (.Call (.Name x p) [] kws pos) (uCallK sp ks.length gV tk) := by
  refine ⟨fun pins s σ H Q I h => ?_⟩
  refine wpAny_Call_Name_kw (ld_glob I hg hm ?_ hdb)
  refine PySem.W.callWith_KW0 (h₀ := X.base) I.ok.mod.kin hk hall (thn (hkw.run pos pins s σ H _ I h) fun ws s2 z => ?_) hpl
  obtain ⟨zs, H2, I2, rz, l2, q2⟩ := z
  refine ⟨I2.kIn, ?_⟩
  rw [hks]
  exact run_fnN (us := []) (vs := []) F hr hb pass0 I2 .nil rz rfl l2 q2
end
section
variable {K : PySem.W.Frag} {x qual : Str} {params : Arguments} {body : List Stmt} {scope : Scope} {f : Addr} {fd : FuncData}
/-- two parameters, given by name in the other order -/
theorem kb_swap {p0 p1 : Str} (F : FunD K x qual params body scope [] [] f fd)
    (h : ∀ (kV doc pm : Value) (an : Option Addr) (cdv ct : Value) (w0 w1 : Value), bindArgs (PySem.W.fnOf x qual params body scope .none kV doc pm an cdv ct) ⟨[], [(p1, w0), (p0, w1)]⟩ = pure [(p0, w1), (p1, w0)]) :
    KBn K fd [p0, p1] 0 [p1, p0] (fun _ ws => ws.reverse) (fun _ zs => zs.reverse) := by
  obtain ⟨oc, od, dV, kV, doc, pm, an, cdv, ct, osl, rfl, lk, hcd, hD, hK⟩ := F.ex
  rcases hD with ⟨_, rfl⟩ | ⟨e, _⟩
  · refine ⟨fun s us ws _ l1 l2 => ?_, fun r rz => ?_⟩
    · match us, ws, l1, l2 with
      | [], [w0, w1], _, _ => exact .of_eq (h kV doc pm an cdv ct w0 w1)
    · cases rz with
      | nil => exact .nil
      | cons r0 rz =>
        have : ∀ {zs : List V} {ws : List Value}, Vals zs ws → Vals zs.reverse ws.reverse := by
          intro zs ws h
          induction h with
          | nil => exact .nil
          | cons r t ih => rw [List.reverse_cons, List.reverse_cons]; exact ih.append (.cons r .nil)
        exact this (.cons r0 rz)
  · exact absurd rfl e
end
end Sk
/-! Sk: texts in order; data as trees; their literals -/
namespace Sk
open PySem PySem.Spec PyProof.Rows L2
/-! ### the order of texts -/
def leT (a b : Str) : Prop := ltCps b.cps.toList a.cps.toList = false
theorem lt_irr : ∀ a : List Nat, ltCps a a = false
  | [] => rfl
  | x :: r => by
    show (decide (x < x) || (x == x && ltCps r r)) = false
    rw [lt_irr r]
    simp
theorem lt_asym : ∀ a b : List Nat, ltCps a b = true → ltCps b a = false
  | [], [], h => rfl
  | [], _ :: _, h => rfl
  | _ :: _, [], h => by cases h
  | x :: r, y :: t, h => by
    have h : (decide (x < y) || (x == y && ltCps r t)) = true := h
    show (decide (y < x) || (y == x && ltCps t r)) = false
    rw [Bool.or_eq_true, Bool.and_eq_true] at h
    rcases h with h | ⟨h1, h2⟩
    · have h := of_decide_eq_true h
      rw [decide_eq_false (by omega), beq_eq_false_iff_ne.mpr (by omega)]
      rfl
    · have e : x = y := by simpa using h1
      subst e
      rw [lt_asym r t h2]
      simp
theorem le_anti : ∀ a b : List Nat, ltCps a b = false → ltCps b a = false → a = b
  | [], [], _, _ => rfl
  | [], _ :: _, h, _ => by cases h
  | _ :: _, [], _, h => by cases h
  | x :: r, y :: t, h1, h2 => by
    have h1 : (decide (x < y) || (x == y && ltCps r t)) = false := h1
    have h2 : (decide (y < x) || (y == x && ltCps t r)) = false := h2
    rw [Bool.or_eq_false_iff] at h1 h2
    have e : x = y := by
      have := of_decide_eq_false h1.1
      have := of_decide_eq_false h2.1
      omega
    subst e
    have a1 : ltCps r t = false := by simpa using h1.2
    have a2 : ltCps t r = false := by simpa using h2.2
    rw [le_anti r t a1 a2]
theorem le_trans' : ∀ a b c : List Nat, ltCps b a = false → ltCps c b = false → ltCps c a = false
  | [], _, [], _, _ => rfl
  | [], [], _ :: _, _, _ => rfl
  | [], _ :: _, _ :: _, _, _ => rfl
  | _ :: _, [], _, h, _ => by cases h
  | _ :: _, _ :: _, [], _, h => by cases h
  | x :: r, y :: t, z :: u, h1, h2 => by
    have h1 : (decide (y < x) || (y == x && ltCps t r)) = false := h1
    have h2 : (decide (z < y) || (z == y && ltCps u t)) = false := h2
    show (decide (z < x) || (z == x && ltCps u r)) = false
    rw [Bool.or_eq_false_iff] at h1 h2
    have l1 := of_decide_eq_false h1.1
    have l2 := of_decide_eq_false h2.1
    rw [decide_eq_false (by omega)]
    by_cases e : z = x
    · have e1 : y = x := by omega
      subst e e1
      have a1 : ltCps t r = false := by simpa using h1.2
      have a2 : ltCps u t = false := by simpa using h2.2
      rw [le_trans' r t u a1 a2]
      simp
    · rw [beq_eq_false_iff_ne.mpr e]
      rfl
theorem rising_pw : ∀ (p : Str) (l : List Str), risingS p l = true → (p :: l).Pairwise leT
  | p, [], _ => by simp
  | p, x :: r, h => by
    have h : (!ltCps x.cps.toList p.cps.toList && risingS x r) = true := h
    rw [Bool.and_eq_true] at h
    have ih := rising_pw x r h.2
    have h0 : leT p x := by simpa [leT] using h.1
    refine List.pairwise_cons.mpr ⟨fun y hy => ?_, ih⟩
    rcases List.mem_cons.mp hy with e | e
    · rw [e]; exact h0
    · exact le_trans' _ _ _ h0 ((List.pairwise_cons.mp ih).1 y e)
theorem sorted_pw {l : List Str} (h : sortedS l = true) : l.Pairwise leT := by
  cases l with
  | nil => exact List.Pairwise.nil
  | cons x r => exact rising_pw x r h
def insS (x : Str) : List Str → List Str
  | [] => [x]
  | y :: r => if ltCps y.cps.toList x.cps.toList = true then y :: insS x r else x :: y :: r
def sortN : List Str → List Str
  | [] => []
  | x :: r => insS x (sortN r)
theorem ins_perm (x : Str) : ∀ l, (insS x l).Perm (x :: l)
  | [] => List.Perm.refl _
  | y :: r => by
    unfold insS
    split
    · exact ((ins_perm x r).cons y).trans (List.Perm.swap ..)
    · exact List.Perm.refl _
theorem sort_perm : ∀ l, (sortN l).Perm l
  | [] => List.Perm.refl _
  | x :: r => (ins_perm x _).trans ((sort_perm r).cons x)
theorem ins_pw (x : Str) : ∀ l, l.Pairwise leT → (insS x l).Pairwise leT
  | [], _ => by simp [insS]
  | y :: r, h => by
    have h1 := List.pairwise_cons.mp h
    unfold insS
    split
    · rename_i c
      refine List.pairwise_cons.mpr ⟨fun z hz => ?_, ins_pw x r h1.2⟩
      rcases List.mem_cons.mp ((ins_perm x r).mem_iff.mp hz) with e | e
      · rw [e]
        exact lt_asym _ _ c
      · exact h1.1 z e
    · rename_i c
      have c : leT x y := by
        unfold leT
        cases q : ltCps y.cps.toList x.cps.toList with
        | true => exact absurd q c
        | false => rfl
      refine List.pairwise_cons.mpr ⟨fun z hz => ?_, h⟩
      rcases List.mem_cons.mp hz with e | e
      · rw [e]; exact c
      · exact le_trans' _ _ _ c (h1.1 z e)
theorem sort_pw : ∀ l, (sortN l).Pairwise leT
  | [] => List.Pairwise.nil
  | x :: r => ins_pw x _ (sort_pw r)
theorem pw_eq : ∀ {l m : List Str}, l.Perm m → l.Pairwise leT → m.Pairwise leT → l = m
  | [], m, p, _, _ => (List.nil_perm.mp p).symm
  | x :: l, [], p, _, _ => by have := p.length_eq; cases this
  | x :: l, y :: m, p, h1, h2 => by
    have a1 := List.pairwise_cons.mp h1
    have a2 := List.pairwise_cons.mp h2
    have e : x = y := by
      have hx : x ∈ y :: m := p.subset (List.mem_cons_self ..)
      have hy : y ∈ x :: l := p.symm.subset (List.mem_cons_self ..)
      rcases List.mem_cons.mp hx with e | hx
      · exact e
      rcases List.mem_cons.mp hy with e | hy
      · exact e.symm
      exact str_ext (le_anti _ _ (a2.1 x hx) (a1.1 y hy))
    subst e
    rw [pw_eq (List.Perm.cons_inv p) a1.2 a2.2]
theorem sorted_is {ys zs : List Str} (p : ys.Perm zs) (h : sortedS ys = true) : ys = sortN zs := pw_eq (p.trans (sort_perm zs).symm) (sorted_pw h) (sort_pw zs)
theorem sort_of_perm {ys zs : List Str} (p : ys.Perm zs) : sortN ys = sortN zs := pw_eq (((sort_perm ys).trans p).trans (sort_perm zs).symm) (sort_pw ys) (sort_pw zs)
end Sk
/-! Sk: {None: a, True: b, False: c}[v]; list(text); calls by keywords alone -/
namespace Sk
open PySem PySem.Spec PyProof.Rows L2
def nbIs : Option Bool → Value → Bool
  | none, .none => true
  | none, _ => false
  | some b, v => PpSet.isB b v
theorem nb_none {v : Value} (h : nbIs none v = true) : v = .none := by
  cases v with
  | none => rfl
  | _ => cases h
theorem isB_none (b : Bool) : ¬ PpSet.isB b .none = true := fun h => by cases h
def nbKind (prog : Program) (w : World) : PySem.KeyKind prog w (Option Bool) where
  is := nbIs
  hash := fun k => match k with
    | none => (noneKind prog w).hash none
    | some b => (PpSet.boolK prog w).hash b
  inj := fun v a b ha hb => by
    cases a with
    | none =>
      have e := nb_none ha
      subst e
      cases b with
      | none => rfl
      | some k => exact absurd hb (isB_none k)
    | some k =>
      cases b with
      | none =>
        have e := nb_none hb
        subst e
        exact absurd ha (isB_none k)
      | some j => exact congrArg some ((PpSet.boolK prog w).inj v k j ha hb)
  byValue := fun k v h => by
    cases k with
    | none =>
      have e := nb_none h
      subst e
      rfl
    | some k => exact (PpSet.boolK prog w).byValue k v h
  pyHash := @fun A E s k v Q hv h => by
    cases k with
    | none => exact (noneKind prog w).pyHash (k := none) (show nkIs none v = true by rw [nb_none hv]; rfl) h
    | some k => exact (PpSet.boolK prog w).pyHash (k := k) hv h
  eqBool := @fun A E s a b u v Q hu hv h => by
    cases a with
    | none =>
      have e := nb_none hu
      subst e
      cases b with
      | none =>
        have e := nb_none hv
        subst e
        rw [decide_eq_true rfl] at h
        exact SeqAt.EqAt.same _ _ _ _ _ h
      | some k =>
        rw [decide_eq_false (fun z => nomatch z)] at h
        have e := PpSet.isB_shape hv
        subst e
        exact SeqAt.EqAt.none_bool k _ _ _ _ h
    | some k =>
      have e := PpSet.isB_shape hu
      subst e
      cases b with
      | none =>
        have e := nb_none hv
        subst e
        rw [decide_eq_false (fun z => nomatch z)] at h
        exact SeqAt.EqAt.bool_none k _ _ _ _ h
      | some j =>
        have e := PpSet.isB_shape hv
        subst e
        have d : decide ((some k : Option Bool) = some j) = (k == j) := by cases k <;> cases j <;> rfl
        rw [d] at h
        exact SeqAt.EqAt.bool_bool k j _ _ _ _ h
  «strs» := fun k x t v h => by
    cases k with
    | none => cases h
    | some k => exact (PpSet.boolK prog w).«strs» k x t v h
/-- what such a table answers -/
def nbAt (a b c : Str) (y : V) (Q : V → Prop) : Prop := match y with
  | .non => Q (.str a)
  | .bl k => Q (.str (if k then b else c))
  | _ => False
def uNb (a b c : Str) (tv : TE) : TE := fun σ H Q => ∀ p o, H p = none → tv σ (upd H p o) fun y H2 => H2 p = some o ∧ nbAt a b c y fun z => Q z H2
section
variable {X : Cx}
theorem pe_nb {a b c : Str} {v : Expr} {tv : TE} {j1 j2 j3 i1 i2 i3 : Nat} {p1 p2 p3 q1 q2 q3 dpos pos : Pos} (hv : PE X v tv) (hs : NoSl v) :
    PE X (.Subscript (.Dict [some (.Constant .none j1 p1), some (.Constant (.bool true) j2 p2), some (.Constant (.bool false) j3 p3)] [.Constant (.str a) i1 q1, .Constant (.str b) i2 q2, .Constant (.str c) i3 q3] dpos) v pos) (uNb a b c tv) := by
  refine ⟨fun pins s σ H Q I h => ?_⟩
  have hn := I.hok.fresh (Nat.le_refl s.heap.objs.size)
  have I1 := I.laid (a := s.heap.objs.size) (o := .dK []) (h' := s.heap.push { cls := .type "dict", data := .dict #[] }) (t' := s.toks) (fun _ _ q => Heap.get?_push_of_some _ q) (Nat.le_refl _) (dk_empty s.heap I.big)
  have three : PPs X dpos [some (.Constant .none j1 p1), some (.Constant (.bool true) j2 p2), some (.Constant (.bool false) j3 p3)] [.Constant (.str a) i1 q1, .Constant (.str b) i2 q2, .Constant (.str c) i3 q3]
      [(tC .non, tC (.str a)), (tC (.bl true), tC (.str b)), (tC (.bl false), tC (.str c))] := pps_cons pe_non pe_str (pps_cons pe_bl pe_str (pps_cons pe_bl pe_str pps_nil))
  refine subD_of PySem.F.slot_dict_getitem.lookup hs ?_
  refine wpAny_Dict_walk (knd := nbKind X.prog X.w) rfl rfl (by simp) (Nat.le_of_ble_eq_true rfl) (thn (three.run pins _ σ _ (fun ps H1 => ps = [(.non, .str a), (.bl true, .str b), (.bl false, .str c)] ∧ H1 = upd H s.heap.objs.size (.dK [])) I1 ⟨rfl, rfl⟩) fun ws s2 z => ?_)
  obtain ⟨ps, H2, I2, rel, rfl, rfl⟩ := z
  obtain ⟨_, hd, vs0, r0, dd⟩ := dk_of I2.hok upd_same
  cases r0
  cases rel with
  | @cons _ w1 _ r1 h1 t1 =>
  cases t1 with
  | @cons _ w2 _ r2 h2 t2 =>
  cases t2 with
  | @cons _ w3 _ r3 h3 t3 =>
  cases t3
  obtain ⟨w1, x1⟩ := w1
  obtain ⟨w2, x2⟩ := w2
  obtain ⟨w3, x3⟩ := w3
  obtain ⟨e1, ta, e1'⟩ := h1
  obtain ⟨e2, tb, e2'⟩ := h2
  obtain ⟨e3, tc, e3'⟩ := h3
  have e1 : w1 = Value.none := e1
  have e2 : w2 = Value.bool true := e2
  have e3 : w3 = Value.bool false := e3
  have e1' : x1 = Value.str a ta := e1'
  have e2' : x2 = Value.str b tb := e2'
  have e3' : x3 = Value.str c tc := e3'
  subst e1 e2 e3 e1' e2' e3'
  have dn : s2.heap.DictOf (nbKind X.prog X.w) s.heap.objs.size [] := by
    obtain ⟨o, es, ep, g1, g2, g3, _, g5, _⟩ := dd
    have e0 : es.toList = [] := by
      generalize es.toList = l at g5
      cases g5
      rfl
    refine ⟨o, es, ep, g1, g2, g3, fun e he => ?_, by rw [e0]; exact .nil, List.nodup_nil⟩
    have : e ∈ es.toList := Array.mem_toList_iff.mpr he
    rw [e0] at this
    cases this
  refine ⟨[(none, .str a ta), (some true, .str b tb), (some false, .str c tc)], ⟨rfl, rfl, rfl, rfl, rfl, rfl, trivial⟩, dn, fun h' dd' same => ?_⟩
  have he : ∃ q, h'.get? s.heap.objs.size = some q := let ⟨q, _, _, hq, _⟩ := dd'; ⟨q, hq⟩
  have I3 := d_write (ob := .ext fun h => h.DictOf (nbKind X.prog X.w) s.heap.objs.size (merged [] [(none, .str a ta), (some true, .str b tb), (some false, .str c tc)])) (t' := s2.toks + 3) I2 (by rw [upd_same]; exact trivial) same he ⟨dd', he, fun x1 x2 g k => by
    obtain ⟨o, es, ep, g1, g2⟩ := g
    exact ⟨o, es, ep, k o g1, g2⟩⟩
  rw [upd_upd] at I3
  refine thn (hv.run pins _ σ _ _ I3 (h _ _ hn)) fun iv s4 z => ?_
  obtain ⟨y, H4, I4, ry, hp4, q4⟩ := z
  obtain ⟨d4, _⟩ := I4.hok _ _ hp4
  have ty : s4.TypeIs (.ref s.heap.objs.size) "dict" := by
    obtain ⟨o, es, ep, g1, g2, _⟩ := d4
    exact ⟨o, g1, g2.1⟩
  refine ⟨ty, ?_⟩
  cases y with
  | non =>
    have e : iv = Value.none := ry
    subst e
    exact wpAny_getItem_of (knd := nbKind X.prog X.w) (k := none) rfl d4.mapOf rfl ⟨.str a, H4, I4.tok _, ⟨ta, rfl⟩, q4⟩
  | bl k =>
    have e : iv = Value.bool k := ry
    subst e
    cases k with
    | true => exact wpAny_getItem_of (knd := nbKind X.prog X.w) (k := some true) rfl d4.mapOf rfl ⟨.str b, H4, I4.tok _, ⟨tb, rfl⟩, q4⟩
    | false => exact wpAny_getItem_of (knd := nbKind X.prog X.w) (k := some false) rfl d4.mapOf rfl ⟨.str c, H4, I4.tok _, ⟨tc, rfl⟩, q4⟩
  | _ => exact q4.elim
end
end Sk
namespace Sk
open PySem PySem.Spec PyProof.Rows L2
section
variable {X : Cx}
theorem inv_nox {pins : List (Addr × Obj)} {σ : L2.St} {H : Hp} {s : Shared} (v : Inv X pins σ H s) : Inv X.nox pins σ H s :=
  ⟨⟨v.ok.mod, v.ok.kind, v.ok.glob, v.ok.blt, v.ok.above, v.ok.inj, v.ok.has, v.ok.cab, v.ok.hd, v.ok.frames, v.ok.stk, v.ok.exf, v.ok.bs, v.ok.bsz, v.ok.noex, v.ok.exfs, v.ok.funs, v.ok.frf⟩, v.os, v.bare, v.base, v.loc, v.cell, v.free, v.freeC, v.pin, v.hok, v.len⟩
theorem inv_back {pins : List (Addr × Obj)} {σ : L2.St} {H : Hp} {s : Shared} (v : Inv X.nox pins σ H s) : Inv X pins σ H s :=
  ⟨⟨v.ok.mod, v.ok.kind, v.ok.glob, v.ok.blt, v.ok.above, v.ok.inj, v.ok.has, v.ok.cab, v.ok.hd, v.ok.frames, v.ok.stk, v.ok.exf, v.ok.bs, v.ok.bsz, v.ok.noex, v.ok.exfs, v.ok.funs, v.ok.frf⟩, v.os, v.bare, v.base, v.loc, v.cell, v.free, v.freeC, v.pin, v.hok, v.len⟩
theorem psst_nox {b : List Stmt} {t : TS} (h : PSsT X.nox b t) : PSsT X b t := fun pins s σ H D tok I q =>
  wpAny_mono (h pins s σ H D tok (inv_nox I) q) (fun f s' z => by
    cases f with
    | next => obtain ⟨σ', H', J, q⟩ := z; exact ⟨σ', H', inv_back J, q⟩
    | brk => obtain ⟨σ', H', J, q⟩ := z; exact ⟨σ', H', inv_back J, q⟩
    | cont => obtain ⟨σ', H', J, q⟩ := z; exact ⟨σ', H', inv_back J, q⟩
    | ret u => obtain ⟨v, σ', H', J, r, q⟩ := z; exact ⟨v, σ', H', inv_back J, r, q⟩) fun _ _ z => z.elim
/-- a if c else b -/
theorem petif {c a b : Expr} {tc : TT} {ta tb : TE} {pos : Pos} (hc : PT X c tc) (ha : PET X a ta) (hb : PET X b tb) : PET X (.IfExp c a b pos) (uIfE tc ta tb) := by
  intro pins s σ H Q tok I h
  refine wpAny_IfExp (wpAny_mono (PySem.wpAny_toks_of tok (hc.run pins s σ H _ I h)) (fun d s1 z => ?_) fun _ _ z => z.2)
  obtain ⟨tok1, H1, I1, q1⟩ := z
  cases d with
  | true =>
    rw [if_pos rfl]
    exact ha pins s1 σ H1 Q tok1 I1 q1
  | false =>
    rw [if_neg Bool.false_ne_true]
    exact hb pins s1 σ H1 Q tok1 I1 q1
end
section
variable {P : Program} {w : World} {K : PySem.W.Frag} {mg : Str → Option Value} {base : Heap} {x qual : Str} {params : Arguments} {body : List Stmt} {scope : Scope} {dvs : List V} {kws : List (Str × V)} {f : Addr} {fd : FuncData}
/-- a def with parameters and without cells: a token is out when its body begins -/
theorem fnok_T {N ps : List Str} {k : Nat} {sp : Sp} (F : FunD K x qual params body scope dvs kws f fd) (S : FnScope N ps scope) (hnc : ∀ y ∈ scope.names, y.2 ≠ .cell) (hps : 1 ≤ ps.length) (len : ∀ vs H Q E, sp vs H Q E → vs.length = ps.length)
    (hb : ∀ (cdv : Value) (A : Around) (outer : List Env) (s : Shared) (H : Hp) (vs : List V) (Q : VK) (E : XK), Room k (A.deeper (envOfC qual scope s.heap.objs.size f cdv)) → sp vs H Q E →
      ∃ t, PSsT (cxOf CX0 P w K mg base N qual scope f cdv A outer s H E).nox body t ∧ t { nx := fun _ H' => Q .non H', rt := Q } (start N vs) H) : FnOk P w K mg base CX0 (k + 1) f fd ps sp := by
  obtain ⟨oc, od, dV, kV, doc, pm, an, cdv, ct, osl, efd, look, code, _, _⟩ := F.ex
  subst efd
  refine fn_ofT look code S hnc hps len fun A outer s H vs Q E room want => ?_
  obtain ⟨t, d, q⟩ := hb cdv A outer s H vs Q E room want
  exact ⟨t, psst_nox d, q⟩
end
end Sk
/-! Sk: walks of any kind in comprehensions; the literals of data; escapes -/
namespace Sk
open PySem PySem.Spec PyProof.Rows L2
section
variable {R : Hp → Hp → Prop} {J : Hp → Prop} {D : Addr} {H1 : Hp}
/-- [e for x in it], any walk -/
theorem lcw {Jt : It} {n : Nat} {G : Hp → Prop} {Y : Nat → Hp → V → Hp → Prop} (w : Walk Jt n G Y) {g : TG} {te : TE} {vs : List Nat} {σ : L2.St} {Qd : Hp → Prop} (F : Fr R J D) (Pp : Nat → V → Hp → Prop) (hp : J H1) (hD : H1 D = none) (hn : n < 100000)
    (gm : ∀ x σ H (k k' : L2.St → Hp → Prop), (∀ σ2 H2, k σ2 H2 → k' σ2 H2) → g x σ H k → g x σ H k')
    (hS : ∀ H, J H → R H1 H → G H)
    (mono : ∀ i v H H', Pp i v H → Stay H H' → Pp i v H')
    (turn : ∀ (i : Nat) x H H', i < n → J H → R H1 H → Y i H x H' → g x (wipe σ vs) H' (fun σ2 H2 => wipe σ2 vs = wipe σ vs ∧ te σ2 H2 (fun y H4 => J H4 ∧ R H H4 ∧ Pp i y H4)))
    (hd : ∀ H ys, J H → R H1 H → ys.length = n → H D = some (.lst ys) → (∀ (i : Nat) (y : V), ys[i]? = some y → Pp i y H) → Qd H) :
    ∃ W : Nat → Nat → Hp → Prop, (∃ m, W 0 m (upd H1 D (.lst []))) ∧ ∀ i m H, W i m H →
      (Jt.stop i H ∧ Qd H) ∨ (Jt.go i H ∧ ∃ Nx : Hp → Prop, (∀ H', Nx H' → ∃ m', m' < m ∧ W (i + 1) m' H') ∧ ∀ x H', Jt.yld i H x H' → g x (wipe σ vs) H' fun σ2 H2 => wipe σ2 vs = wipe σ vs ∧ tYes σ2 H2 fun b H3 =>
        if b = true then upE te σ2 H3 fun y H4 => ∃ acc, H4 D = some (.lst acc) ∧ acc.length < sizeLine ∧ Nx (upd H4 D (.lst (acc ++ [y]))) else Nx H3) := by
  refine lc_it w (accP R J Pp D H1) (acc_start F hp hD) (fun i H _ hv => hS H hv.1 hv.2.1) (fun i x H H' hi hv y => ?_) (fun H hv => ?_)
  · refine gm x _ _ _ _ (fun σ2 H2 z => ⟨z.1, ?_⟩) (turn i x H H' hi hv.1 hv.2.1 y)
    dsimp only [tYes]
    rw [if_pos rfl]
    exact ⟨_, fun y H4 z => acc_turn F hD mono (by omega) hv z, z.2⟩
  · obtain ⟨p1, k1, ys, l1, e1, q1⟩ := hv
    exact hd H ys p1 k1 l1 e1 q1
theorem gm_name {j : Nat} : ∀ x σ H (k k' : L2.St → Hp → Prop), (∀ σ2 H2, k σ2 H2 → k' σ2 H2) → gName j x σ H k → gName j x σ H k' := fun _ _ _ _ _ h q => h _ _ q
end
theorem strs_ofP {P : Str → Prop} {ys : List V} (h : ∀ (i : Nat) (y : V), ys[i]? = some y → ∃ z, y = V.str z ∧ P z) : ∃ zs : List Str, ys = zs.map V.str ∧ ∀ z ∈ zs, P z := by
  induction ys with
  | nil => exact ⟨[], rfl, fun z hz => by cases hz⟩
  | cons y r ih =>
    obtain ⟨z, e, hz⟩ := h 0 y rfl
    obtain ⟨zs, e2, h2⟩ := ih fun i y hy => h (i + 1) y (by simpa using hy)
    refine ⟨z :: zs, by rw [e, e2]; rfl, fun x hx => ?_⟩
    rcases List.mem_cons.mp hx with q | q
    · rw [q]; exact hz
    · exact h2 x q
/-! ### the literal of a value -/
def rep4 (z : Str) : Str := Txt.replace (Txt.replace (Txt.replace (Txt.replace z "\\" "\\\\") "\"" "\\\"") "\n" "\\n") "<" "\\l"
def litF : V → Str
  | .non => "null"
  | .bl b => if b then "true" else "false"
  | .int i => Str.ofString (toString i)
  | .str z => "\"" ++ rep4 z ++ "\""
  | _ => ""
def rowL (w z : Str) : Str := "\"" ++ w ++ "\":" ++ z
def nms (kvs : List (Key × V)) : List Str := kvs.filterMap fun p => match p.1 with | .inr w => some w | _ => none
def litH (H : Hp) : Nat → V → Str
  | 0, v => litF v
  | n + 1, v => match v with
    | .ref a => match H a with
      | some (.tup vs) => "[" ++ Txt.join "," (vs.map (litH H n)) ++ "]"
      | some (.dK kvs) => "{" ++ Txt.join "," ((sortN (nms kvs)).map fun w => rowL w (litH H n ((valV kvs (.inr w)).getD .non))) ++ "}"
      | _ => ""
    | v => litF v
theorem lit_flat {H : Hp} {v : V} (h : FlatOk v) : ∀ n, litH H n v = litF v
  | 0 => rfl
  | _ + 1 => by cases v <;> first | rfl | exact h.elim
theorem lit_tup {H : Hp} {n : Nat} {a : Addr} {vs : List V} (h : H a = some (.tup vs)) : litH H (n + 1) (.ref a) = "[" ++ Txt.join "," (vs.map (litH H n)) ++ "]" := by
  show (match H a with | some (.tup vs) => _ | some (.dK kvs) => _ | _ => _) = _
  rw [h]
theorem lit_dict {H : Hp} {n : Nat} {a : Addr} {kvs : List (Key × V)} (h : H a = some (.dK kvs)) :
    litH H (n + 1) (.ref a) = "{" ++ Txt.join "," ((sortN (nms kvs)).map fun w => rowL w (litH H n ((valV kvs (.inr w)).getD .non))) ++ "}" := by
  show (match H a with | some (.tup vs) => _ | some (.dK kvs) => _ | _ => _) = _
  rw [h]
theorem nms_keys {kvs : List (Key × V)} (h : ∀ p ∈ kvs, ∃ w, p.1 = .inr w ∧ NameOk w) : kvs.map (·.1) = (nms kvs).map Sum.inr := by
  induction kvs with
  | nil => rfl
  | cons p r ih =>
    obtain ⟨w, e, _⟩ := h p (List.mem_cons_self ..)
    obtain ⟨k, v⟩ := p
    have e : k = .inr w := e
    subst e
    show Sum.inr w :: r.map (·.1) = Sum.inr w :: (nms r).map Sum.inr
    rw [ih fun p hp => h p (List.mem_cons_of_mem _ hp)]
theorem nms_len {kvs : List (Key × V)} (h : ∀ p ∈ kvs, ∃ w, p.1 = .inr w ∧ NameOk w) : (nms kvs).length = kvs.length := by
  have := congrArg List.length (nms_keys h)
  rw [List.length_map, List.length_map] at this
  exact this.symm
theorem val_in {kvs : List (Key × V)} {w : Str} (h : w ∈ nms kvs) : ∃ p ∈ kvs, p.1 = .inr w := by
  unfold nms at h
  obtain ⟨p, hp, e⟩ := List.mem_filterMap.mp h
  refine ⟨p, hp, ?_⟩
  split at e
  · rename_i e2
    cases e
    exact e2
  · cases e
theorem val_mem {kvs : List (Key × V)} {k : Key} {v : V} (h : valV kvs k = some v) : ∃ p ∈ kvs, p.2 = v := by
  unfold valV at h
  obtain ⟨p, hp, e⟩ := Option.map_eq_some_iff.mp h
  exact ⟨p, List.mem_of_find?_eq_some hp, e⟩
theorem val_some {kvs : List (Key × V)} {w : Str} (h : w ∈ nms kvs) : ∃ v, valV kvs (.inr w) = some v ∧ ∃ p ∈ kvs, p.2 = v := by
  obtain ⟨p, hp, e⟩ := val_in h
  cases q : valV kvs (.inr w) with
  | none =>
    have : kvs.any (fun p => decide (p.1 = .inr w)) = false := by rw [valV_any, q]; rfl
    have h2 := List.any_eq_false.mp this p hp
    rw [e] at h2
    simp at h2
  | some v => exact ⟨v, rfl, val_mem q⟩
theorem mem_sort {w : Str} {l : List Str} : w ∈ sortN l ↔ w ∈ l := (sort_perm l).mem_iff
theorem val_get {kvs : List (Key × V)} {w : Str} {P : V → Prop} (h : w ∈ sortN (nms kvs)) (hp : ∀ p ∈ kvs, P p.2) : P ((valV kvs (.inr w)).getD .non) := by
  obtain ⟨v, e, p, hp', e2⟩ := val_some (mem_sort.mp h)
  rw [e]
  show P v
  rw [← e2]
  exact hp p hp'
theorem lit_stay {H H' : Hp} (s : Stay H H') : ∀ (n : Nat) (v : V), GoodV H n v → litH H' n v = litH H n v
  | 0, _, _ => rfl
  | n + 1, v, h => by
    rcases h with h | ⟨a, vs, e, h1, h2, h3⟩ | ⟨a, kvs, e, h1, h2, h3⟩
    · rw [lit_flat h, lit_flat h]
    · subst e
      rw [lit_tup h1, lit_tup (s _ _ rfl h1), List.map_congr_left fun x hx => lit_stay s n x (h3 x hx)]
    · subst e
      rw [lit_dict h1, lit_dict (s _ _ rfl h1)]
      congr 3
      refine List.map_congr_left fun w hw => ?_
      rw [val_get (P := fun v => litH H' n v = litH H n v) hw fun p hp => lit_stay s n p.2 (h3 p hp)]
theorem lit_up {H : Hp} : ∀ (n : Nat) (v : V), GoodV H n v → litH H (n + 1) v = litH H n v
  | 0, v, h => by rw [lit_flat (show FlatOk v from h), lit_flat (show FlatOk v from h)]
  | n + 1, v, h => by
    rcases h with h | ⟨a, vs, e, h1, h2, h3⟩ | ⟨a, kvs, e, h1, h2, h3⟩
    · rw [lit_flat h, lit_flat h]
    · subst e
      rw [lit_tup h1, lit_tup h1, List.map_congr_left fun x hx => lit_up n x (h3 x hx)]
    · subst e
      rw [lit_dict h1, lit_dict h1]
      congr 3
      refine List.map_congr_left fun w hw => ?_
      rw [val_get (P := fun v => litH H (n + 1) v = litH H n v) hw fun p hp => lit_up n p.2 (h3 p hp)]
/-! ### nothing contains itself -/
theorem GoodV.le {H : Hp} {v : V} {m n : Nat} (h : m ≤ n) (g : GoodV H m v) : GoodV H n v := by
  induction h with
  | refl => exact g
  | step _ ih => exact GoodV.up _ _ ih
theorem good_hide {H : Hp} {d : Addr} {m : Nat} (hm : ∀ k, k < m → ¬ GoodV H k (.ref d)) : ∀ (k : Nat) (v : V), k < m → GoodV H k v → GoodV (hide d H) k v
  | 0, _, _, h => h
  | k + 1, v, hk, h => by
    have ne : v ≠ .ref d := fun e => hm (k + 1) hk (e ▸ h)
    rcases h with h | ⟨a, vs, e, h1, h2, h3⟩ | ⟨a, kvs, e, h1, h2, h3⟩
    · exact .inl h
    · have na : a ≠ d := fun z => ne (by rw [e, z])
      exact .inr (.inl ⟨a, vs, e, by rw [hide_ne na]; exact h1, h2, fun x hx => good_hide hm k x (by omega) (h3 x hx)⟩)
    · have na : a ≠ d := fun z => ne (by rw [e, z])
      exact .inr (.inr ⟨a, kvs, e, by rw [hide_ne na]; exact h1, h2, fun p hp => good_hide hm k p.2 (by omega) (h3 p hp)⟩)
theorem good_part {H : Hp} {d : Addr} {kvs : List (Key × V)} (hd : H d = some (.dK kvs)) : ∀ n, GoodV H (n + 1) (.ref d) → ∀ p ∈ kvs, GoodV (hide d H) n p.2 := by
  intro n
  induction n with
  | zero =>
    intro h p hp
    rcases h with h | ⟨a, vs, e, h1, h2, h3⟩ | ⟨a, ws, e, h1, h2, h3⟩
    · exact h.elim
    · cases e; rw [hd] at h1; cases h1
    · cases e; rw [hd] at h1; cases h1; exact h3 p hp
  | succ n ih =>
    intro h p hp
    by_cases q : GoodV H (n + 1) (.ref d)
    · exact GoodV.up _ _ (ih q p hp)
    · have hm : ∀ k, k < n + 2 → ¬ GoodV H k (.ref d) := fun k hk g => q (GoodV.le (by omega) g)
      rcases h with h | ⟨a, vs, e, h1, h2, h3⟩ | ⟨a, ws, e, h1, h2, h3⟩
      · exact h.elim
      · cases e; rw [hd] at h1; cases h1
      · cases e; rw [hd] at h1; cases h1; exact good_hide hm _ _ (by omega) (h3 p hp)
/-! ### how long a literal is -/
def litS : Nat → Nat
  | 0 => 2100
  | n + 1 => 3 * litS n + 60
theorem litS_le : ∀ n, litS n ≤ litS (n + 1) := fun n => by show litS n ≤ 3 * litS n + 60; omega
theorem litS_mono {m n : Nat} (h : m ≤ n) : litS m ≤ litS n := by
  induction h with
  | refl => exact Nat.le_refl _
  | step _ ih => exact Nat.le_trans ih (litS_le _)
theorem rep_le {z a b : Str} {m k : Nat} (hz : z.length ≤ m) (hb : b.length ≤ k) : (Txt.replace z a b).length ≤ m + (m + 1) * k :=
  Nat.le_trans (TK.replace_len z a b) (Nat.add_le_add hz (Nat.mul_le_mul (Nat.succ_le_succ hz) hb))
theorem rep4_len {z : Str} (h : z.length ≤ 24) : (rep4 z).length ≤ 2024 := rep_le (m := 674) (k := 2) (rep_le (m := 224) (k := 2) (rep_le (m := 74) (k := 2) (rep_le (m := 24) (k := 2) h (by decide)) (by decide)) (by decide)) (by decide)
theorem int_log {i : Int} (h : i.natAbs ≤ 10 ^ 30) : i.natAbs.log2 < 1920 := by
  by_cases z : i.natAbs = 0
  · rw [z]; decide
  · exact (Nat.log2_lt z).mpr (Nat.lt_of_le_of_lt h (by decide +kernel))
theorem litF_len {v : V} (h : FlatOk v) : (litF v).length ≤ 2100 := by
  cases v with
  | non => show (Str.ofString "null").length ≤ 2100; decide
  | bl b => cases b <;> decide
  | int i => exact Nat.le_trans (int_text_len_1921 (int_log h)) (by decide)
  | str z =>
    show (("\"" : Str) ++ rep4 z ++ "\"").length ≤ 2100
    have := rep4_len h.1
    rw [app_len, app_len]
    show 1 + (rep4 z).length + 1 ≤ 2100
    omega
  | _ => exact h.elim
theorem join_le (y : Str) (zs : List Str) : (Txt.join y zs).length ≤ (zs.map (·.length)).sum + zs.length * y.length := by rw [TL.join_eq]; exact StrLaws.join_length_le y zs
theorem sum_le {α : Type} {l : List α} {f : α → Nat} {m : Nat} (h : ∀ x ∈ l, f x ≤ m) : (l.map f).sum ≤ l.length * m := by
  induction l with
  | nil => exact Nat.zero_le _
  | cons a r ih =>
    rw [List.map_cons, List.sum_cons, List.length_cons, Nat.succ_mul]
    have := ih fun x hx => h x (List.mem_cons_of_mem _ hx)
    have := h a (List.mem_cons_self ..)
    omega
theorem row_len {w z : Str} {m : Nat} (hw : w.length ≤ 12) (hz : z.length ≤ m) : (rowL w z).length ≤ m + 15 := by
  unfold rowL
  rw [app_len, app_len, app_len]
  show 1 + w.length + 2 + z.length ≤ m + 15
  omega
theorem lit_len {H : Hp} : ∀ (n : Nat) (v : V), GoodV H n v → (litH H n v).length ≤ litS n
  | 0, _, h => litF_len h
  | n + 1, v, h => by
    have low := litS_mono (Nat.zero_le n)
    rcases h with h | ⟨a, vs, e, h1, h2, h3⟩ | ⟨a, kvs, e, h1, h2, h3⟩
    · rw [lit_flat h]
      exact Nat.le_trans (litF_len h) (litS_mono (Nat.zero_le (n + 1)))
    · subst e
      rw [lit_tup h1, app_len, app_len]
      have a1 := join_le "," (vs.map (litH H n))
      rw [List.map_map, List.length_map] at a1
      have a2 : (vs.map ((fun z : Str => z.length) ∘ litH H n)).sum ≤ vs.length * litS n := sum_le fun x hx => lit_len n x (h3 x hx)
      have a3 : vs.length * litS n ≤ 3 * litS n := Nat.mul_le_mul_right _ h2
      have e1 : ("," : Str).length = 1 := rfl
      rw [e1] at a1
      show 1 + (Txt.join "," (vs.map (litH H n))).length + 1 ≤ 3 * litS n + 60
      omega
    · subst e
      rw [lit_dict h1, app_len, app_len]
      have nl := nms_len h2.2.2
      have sl : (sortN (nms kvs)).length = kvs.length := (sort_perm _).length_eq.trans nl
      have a1 := join_le "," ((sortN (nms kvs)).map fun w => rowL w (litH H n ((valV kvs (.inr w)).getD .non)))
      rw [List.map_map, List.length_map, sl] at a1
      have a2 : ((sortN (nms kvs)).map ((fun z : Str => z.length) ∘ fun w => rowL w (litH H n ((valV kvs (.inr w)).getD .non)))).sum ≤ (sortN (nms kvs)).length * (litS n + 15) := sum_le fun w hw => by
        refine row_len ?_ (val_get (P := fun v => (litH H n v).length ≤ litS n) hw fun p hp => lit_len n p.2 (h3 p hp))
        obtain ⟨p, hp, e⟩ := val_in (mem_sort.mp hw)
        obtain ⟨w', e', ok⟩ := h2.2.2 p hp
        rw [e] at e'
        cases e'
        exact ok.2.1
      rw [sl] at a2
      have a3 : kvs.length * (litS n + 15) ≤ 3 * (litS n + 15) := Nat.mul_le_mul_right _ h2.1
      have e1 : ("," : Str).length = 1 := rfl
      rw [e1] at a1
      have l3 := h2.1
      show 1 + (Txt.join "," ((sortN (nms kvs)).map fun w => rowL w (litH H n ((valV kvs (.inr w)).getD .non)))).length + 1 ≤ 3 * litS n + 60
      omega
theorem litS6 {n : Nat} (h : n ≤ 6) : litS n ≤ 2000000 := Nat.le_trans (litS_mono h) (by decide)
end Sk
namespace Sk
open PySem PySem.Spec PyProof.Rows L2
def uIfT (t ta tb : TT) : TT := fun σ H Q => t σ H fun c H1 => br c (ta σ H1 Q) (tb σ H1 Q)
section
variable {X : Cx}
/-- a if c else b, as a test -/
theorem tif {c a b : Expr} {tc ta tb : TT} {pos : Pos} (hc : PT X c tc) (ha : PT X a ta) (hb : PT X b tb) : PT X (.IfExp c a b pos) (uIfT tc ta tb) := by
  refine ⟨fun pins s σ H Q I h => isTrue_IfExp (thn (hc.run pins s σ H _ I h) fun d s1 z => ?_)⟩
  obtain ⟨H1, I1, q1⟩ := z
  cases d with
  | true => exact ha.run pins s1 σ H1 Q I1 q1
  | false => exact hb.run pins s1 σ H1 Q I1 q1
end
theorem map_of {α : Type} {ys : List V} {xs : List α} {f : α → V} (hl : ys.length = xs.length) (h : ∀ (i : Nat) (y : V), ys[i]? = some y → ∃ x, xs[i]? = some x ∧ y = f x) : ys = xs.map f := by
  refine List.ext_getElem? fun i => ?_
  rw [List.getElem?_map]
  cases e : ys[i]? with
  | none =>
    have : xs[i]? = none := by
      rw [List.getElem?_eq_none_iff] at e ⊢
      omega
    rw [this]
    rfl
  | some y =>
    obtain ⟨x, hx, rfl⟩ := h i y e
    rw [hx]
    rfl
theorem emp_app (x : Str) : Str.empty ++ x = x := str_ext (by rw [app_list]; rfl)
theorem keys_str {kvs : List (Key × V)} (h : ∀ p ∈ kvs, ∃ w, p.1 = .inr w ∧ NameOk w) : kvs.map (fun p => kV p.1) = (nms kvs).map V.str := by
  have e := congrArg (List.map kV) (nms_keys h)
  rw [List.map_map, List.map_map] at e
  exact e
/-- sorted([k for k in d]) -/
theorem sort_keys {K : PySem.W.Frag} {σ : L2.St} {H : Hp} {a : Addr} {kvs : List (Key × V)} {i j : Nat} {Q : VK} (h0 : H a = some (.dK kvs)) (dk : DictOk kvs)
    (hv : ∀ Hx (k : VK), k (.ref a) Hx → uVar i σ Hx k) (hx : ∀ x Hx (k : VK), k x Hx → uVar j ((wipe σ [j]).set j (some x)) Hx k) (hw : ∀ x, wipe ((wipe σ [j]).set j (some x)) [j] = wipe σ [j])
    (q : ∀ p H', Same H H' → H' p = some (.lst ((sortN (nms kvs)).map V.str)) → Q (.ref p) H') :
    tCB (rSortedS K) (tCons (tLockE (tLc (iKeys (uVar i)) (gName j) tYes (upE (uVar j)) [j])) tNil) σ H Q := by
  refine ⟨a, _, h0, trivial, fun od => ?_⟩
  dsimp only [tLc, iKeys]
  refine hv _ _ ?_
  refine ⟨a, od, rfl, .inl ⟨kvs, upd_same, fun D nD => ?_⟩⟩
  have nDa := (upd_none nD).1
  have lk := dk.1
  have hf : upd H a (.frz od (.dK kvs)) a = some (.frz od (.dK kvs)) := upd_same
  refine lcw walk_keys fr_same (fun i v _ => ∃ p, kvs[i]? = some p ∧ v = kV p.1) trivial nD (by omega) gm_name (fun H1 _ s1 => s1 _ _ hf) (fun _ _ _ _ h _ => h) (fun i x H1 H1' hi _ s1 hy => ?_) (fun H1 ys _ s1 l1 e1 q1 => ?_)
  · obtain ⟨rfl, k0, v0, hk, rfl⟩ := hy
    refine ⟨hw _, hx _ _ _ ?_⟩
    exact ⟨trivial, Same.refl _, (k0, v0), hk, rfl⟩
  · have e := map_of (f := fun p : Key × V => kV p.1) l1 q1
    rw [keys_str dk.2.2] at e
    subst e
    have f1 := s1 _ _ hf
    have nl := nms_len dk.2.2
    refine ⟨f1, D, nms kvs, rfl, sqL_of ((upd_ne nDa).trans e1), by omega, fun ys p perm srt np => ?_⟩
    rw [sorted_is perm srt]
    refine q _ _ (Same.trans ?_ (same_new np)) upd_same
    intro b o hb
    by_cases z : b = a
    · subst z
      rw [upd_same, ← h0]
      exact hb
    · rw [upd_ne z]
      refine s1 b o ?_
      rw [upd_ne z]
      exact hb
end Sk
/-! Sk: repr of data; defs that are called where no repr is under way -/
namespace Sk
open PySem PySem.Spec PyProof.Rows L2
/-- a def keeps its promise, called where no repr is under way -/
structure FnG (P : Program) (w : World) (K : PySem.W.Frag) (mg : Str → Option Value) (base : Heap) (k : Nat) (f : Addr) (fd : FuncData) (ps : List Str) (sp : Sp) : Prop where
  len : ∀ vs H Q E, sp vs H Q E → vs.length = ps.length
  run : ∀ (A : Around) (outer : List Env) (s : Shared) (H : Hp) (args : Args) (us : List Value) (vs : List V) (Q : VK) (E : XK), A.guards = some [] → Room k A → Env0 P w K mg base A outer s H → BindsTo s fd args (ps.zip us) → Vals vs us → sp vs H Q E →
    codeAny (model P w) A (.call (.ref f) args) (CR CX0 outer P w H s Q E) s
section
variable {P : Program} {w : World} {K : PySem.W.Frag} {mg : Str → Option Value} {base : Heap} {x qual : Str} {params : Arguments} {body : List Stmt} {scope : Scope} {dvs : List V} {kws : List (Str × V)} {f : Addr} {fd : FuncData}
theorem FnG.of {k : Nat} {ps : List Str} {sp : Sp} (F : FnOk P w K mg base CX0 k f fd ps sp) : FnG P w K mg base k f fd ps sp := ⟨F.len, fun A outer s H args us vs Q E _ => F.run A outer s H args us vs Q E⟩
theorem fnG_of {N ps : List Str} {k : Nat} {sp : Sp} (F : FunD K x qual params body scope dvs kws f fd) (S : FnScope N ps scope) (len : ∀ vs H Q E, sp vs H Q E → vs.length = ps.length)
    (hb : ∀ (cdv : Value) (A : Around) (outer : List Env) (s : Shared) (H : Hp) (vs : List V) (Q : VK) (E : XK), (A.deeper (envOfC qual scope s.heap.objs.size f cdv)).guards = some [] → Room k (A.deeper (envOfC qual scope s.heap.objs.size f cdv)) → sp vs H Q E →
      ∃ t, PSs (cxOf CX0 P w K mg base N qual scope f cdv A outer s H E).nox body t ∧ t { nx := fun _ H' => Q .non H', rt := Q } (start N vs) H) : FnG P w K mg base (k + 1) f fd ps sp := by
  obtain ⟨oc, od, dV, kV, doc, pm, an, cdv, ct, osl, efd, look, code, _, _⟩ := F.ex
  subst efd
  refine ⟨len, fun A outer s H args us vs Q E gd room env bind rel want => ?_⟩
  have size := len _ _ _ _ want
  have inK : K.In s.heap := env.mod.kin.keeps fun b o e => (env.bs b o e).1
  have calm : s.heap.NoLimit := env.mod.nolimit.keeps fun b o e => (env.bs b o e).1
  have kinds : ∀ y ∈ ps.zip us, scope.names.lookup y.1 = some .local ∨ (scope.names.lookup y.1 = some .cell ∧ ((cellsFrom (s.heap.objs.size + 1) scope.names []).lookup y.1).isSome = true) := by
    rintro ⟨n, v⟩ hy
    cases S.par n (List.of_mem_zip hy).1 with
    | inl q => exact .inl q
    | inr q => exact .inr ⟨q, PySem.W.cellsFrom_some _ _ _ (.inl q)⟩
  refine codeAny_call_function room.depth (inK _ _ look) rfl S.co S.gen rfl (PySem.W.codeRec_of inK code) (bind _ _ _ _ ?_)
  refine wpAny_newFunctionEnv_cells S.kind kinds fun e1 he1 s1 inC => ?_
  subst he1
  obtain ⟨t, der, red⟩ := hb cdv A outer s H vs Q E gd (room.deeper _) want
  have inv : Inv (cxOf CX0 P w K mg base N qual scope f cdv A outer s H E) [] (start N vs) H s1 := inv_start S room.hd env size rel inC
  refine ⟨calm.keeps inC.toInCall.keep, codeAny_func (wpAny_mono (der.run [] s1 _ H _ (inv_nox inv) red) (fun fl s2 h2 => ?_) fun _ _ z => z.elim)⟩
  have back : ∀ {σ2 : L2.St} {H2 : Hp} {v : V} {u : Value}, Inv (cxOf CX0 P w K mg base N qual scope f cdv A outer s H E).nox [] σ2 H2 s2 → RelV v u → Q v H2 → CE outer P w H s Q u s2 := fun J r q => ⟨_, _, J.os, J.bare, J.base, J.hok, r, q⟩
  cases fl with
  | ret u => obtain ⟨v, σ2, H2, J, r, q⟩ := h2; exact back J r q
  | next => obtain ⟨σ2, H2, J, q⟩ := h2; exact back (u := Value.none) (v := V.non) J rfl q
  | brk => obtain ⟨_, _, _, q⟩ := h2; exact q.elim
  | cont => obtain ⟨_, _, _, q⟩ := h2; exact q.elim
end
section
variable {X : Cx}
/-- f(e, ..) -/
theorem pecallG {k : Nat} {f : Addr} {fd : FuncData} {ps : List Str} {sp : Sp} {y : Str} {e : Expr} {es : List Expr} {t : TA} {p pos : Pos} (F : FnG X.prog X.w X.K X.mg X.base k f fd ps sp) (gd : X.A.guards = some []) (hr : Room k X.A) (hg : Gl X y) (hm : X.mg y = some (.ref f)) (hk : PySem.W.keepIn X.K (.ref f) = true)
    (hb : Binds X.K fd ps []) (ha : PA X (e :: es) t) (hdb : (y == ("__debug__" : Str)) = false := by decide) (he : starEach (e :: es) X.env = (false, eval e X.env) :: starEach es X.env := by rfl) (hpl : (backTo pos (starEach es X.env)).any (·.1) = false := by rfl) :
    PE X (.Call (.Name y p) (e :: es) [] pos) (fun σ H Q => t σ H fun vs H1 => sp vs H1 Q E0) := by
  refine ⟨fun pins s σ H Q I h => ?_⟩
  refine wpAny_Call_Name_kw (ld_glob I hg hm ?_ hdb)
  refine PySem.W.callWith_K (h₀ := X.base) I.ok.mod.kin hk (thn (ha.run pos pins s σ H _ I h) fun us s1 z => ?_) he hpl
  obtain ⟨vs, H1, I1, r, q⟩ := z
  refine ⟨I1.kIn, ?_⟩
  have r2 : Vals vs (us ++ []) := by rw [List.append_nil]; exact r
  have size : (us ++ []).length = ps.length := by rw [← r2.length]; exact F.len _ _ _ _ q
  refine wpAny_call (codeAny_mono (F.run X.A X.stack s1 H1 ⟨us, []⟩ (us ++ []) vs Q E0 gd hr I1.env0 (hb s1 us I1.kIn size) r2 q) fun r s2 hq => ?_)
  cases r with
  | error e => exact hq.elim
  | ok fl =>
    cases fl with
    | ret u => exact I1.after hq
    | next => exact hq.elim
    | brk => exact hq.elim
    | cont => exact hq.elim
end
/-! ### data with dicts -/
mutual
inductive Dr (H : Hp) : V → PyData → Prop
  | non : Dr H .non .none
  | bl (b : Bool) : Dr H (.bl b) (.bool b)
  | int (i : Int) : Dr H (.int i) (.int i)
  | str (x : Str) : Dr H (.str x) (.str x)
  | tup {a : Addr} {xs : List V} {ds : List PyData} : H a = some (.tup xs) → DrAll H xs ds → Dr H (.ref a) (.tuple ds)
  | dic {a : Addr} {kvs : List (Key × V)} {ds : List (PyData × PyData)} : H a = some (.dK kvs) → DrAll H (kvs.map fun p => kV p.1) (ds.map (·.1)) → DrAll H (kvs.map (·.2)) (ds.map (·.2)) → Dr H (.ref a) (.dict ds)
inductive DrAll (H : Hp) : List V → List PyData → Prop
  | nil : DrAll H [] []
  | cons {v : V} {vs : List V} {d : PyData} {ds : List PyData} : Dr H v d → DrAll H vs ds → DrAll H (v :: vs) (d :: ds)
end
section
variable {X : Cx} {pins : List (Addr × Obj)} {σ : L2.St} {H : Hp} {s : Shared}
theorem key_rel {k : Key} {u : Value} (h : keyIs k u = true) : RelV (kV k) u := by
  rcases keyIs_shape h with ⟨i, t, rfl, rfl⟩ | ⟨x, t, rfl, rfl⟩
  · exact ⟨t, rfl⟩
  · exact ⟨t, rfl⟩
theorem pairs_vals {P : Program} {w : World} : ∀ {es : List DictEntry} {vs : List (Key × Value)} {kvs : List (Key × V)}, Pairs (mixKind P w) es vs → KV kvs vs → Vals (kvs.map fun p => kV p.1) (es.map (·.key)) ∧ Vals (kvs.map (·.2)) (es.map (·.val)) := by
  intro es vs kvs hp hk
  induction hp generalizing kvs with
  | nil =>
    cases hk
    exact ⟨.nil, .nil⟩
  | @cons e q es vs h1 h2 h3 ih =>
    cases hk with
    | cons r rs =>
      obtain ⟨i1, i2⟩ := ih rs
      refine ⟨.cons ?_ i1, .cons ?_ i2⟩
      · show RelV (kV _) _
        rw [r.1]
        exact key_rel h1
      · have e2 := r.2
        rw [← h2] at e2
        exact e2
mutual
theorem Dr.reads (I : Inv X pins σ H s) : ∀ {v : V} {d : PyData}, Dr H v d → ∀ u, RelV v u → ∃ as, Reads s.heap u d as ∧ sysModules ∉ as
  | _, _, .non, u, r => by
    cases r
    exact ⟨[], .none, by simp⟩
  | _, _, .bl b, u, r => by
    cases r
    exact ⟨[], .bool b, by simp⟩
  | _, _, .int i, u, r => by
    obtain ⟨t, rfl⟩ := r
    exact ⟨[], .int i t, by simp⟩
  | _, _, .str x, u, r => by
    obtain ⟨t, rfl⟩ := r
    exact ⟨[], .str x t, by simp⟩
  | _, _, .tup hs ha, u, r => by
    cases r
    obtain ⟨its, rv, ⟨o, ho, hc, n, hd⟩, _⟩ := I.tuple (sqT_of hs)
    obtain ⟨as, hr, hn⟩ := Dr.readsAll I ha its rv
    exact ⟨as, .tuple ho hc hd hr, hn⟩
  | _, _, .dic (a := a) hs hk hv, u, r => by
    cases r
    obtain ⟨_, ne, vs, kv, o, es, ep, ho, hx, hd, _, hp, _⟩ := dk_of I.hok hs
    obtain ⟨r1, r2⟩ := pairs_vals hp kv
    obtain ⟨as, q1, n1⟩ := Dr.readsAll I hk _ r1
    obtain ⟨bs, q2, n2⟩ := Dr.readsAll I hv _ r2
    refine ⟨a :: as ++ bs, .dict ho hx.1 hd q1 q2, fun z => ?_⟩
    have ne := beq_eq_false_iff_ne.mp ne
    rcases List.mem_append.mp z with z | z
    · rcases List.mem_cons.mp z with z | z
      · exact ne z.symm
      · exact n1 z
    · exact n2 z
theorem Dr.readsAll (I : Inv X pins σ H s) : ∀ {vs : List V} {ds : List PyData}, DrAll H vs ds → ∀ us, Vals vs us → ∃ as, ReadsAll s.heap us ds as ∧ sysModules ∉ as
  | _, _, .nil, us, r => by
    cases r
    exact ⟨[], .nil, by simp⟩
  | _, _, .cons h1 h2, us, r => by
    cases r with
    | cons r1 r2 =>
      obtain ⟨as, q1, n1⟩ := Dr.reads I h1 _ r1
      obtain ⟨bs, q2, n2⟩ := Dr.readsAll I h2 _ r2
      refine ⟨as ++ bs, .cons q1 q2, fun z => ?_⟩
      rcases List.mem_append.mp z with z | z
      · exact n1 z
      · exact n2 z
end
end
section
variable {X : Cx}
/-- repr(x): data of tuples and dicts; data of lists and tuples; numbers, texts -/
def rRepr (K : PySem.W.Frag) : List V → Hp → VK → Prop := fun xs H Q => match xs with
  | [.ref a] => ∃ d, (Dr H (.ref a) d ∨ (Dp K H (.ref a) d ∧ d.hasDict = false)) ∧ d.showable = true ∧ d.shown.length ≤ sizeLine ∧ d.depth ≤ 60 ∧ Q (.str d.shown) H
  | [.int i] => i.natAbs.log2 < 1920 ∧ Q (.str (toString i)) H
  | _ => False
theorem krepr (K : PySem.W.Frag) (gd : X.A.guards = some []) (hu : X.A.units + 64 < cLine) (h : X.K = K := by rfl) : CallR X (.builtin "repr") (rRepr K) := by
  subst h
  intro pins s σ H xs us Q I r q
  unfold rRepr at q
  split at q
  · rename_i a
    obtain ⟨d, hd, h1, h2, h3, q⟩ := q
    cases r with
    | @cons _ u _ us ru rs =>
    cases rs
    have e : u = Value.ref a := ru
    subst e
    have key : ∃ as, Reads s.heap (.ref a) d as ∧ (d.hasDict = true → sysModules ∉ as) := by
      rcases hd with hd | ⟨hd, hn⟩
      · obtain ⟨as, r1, n1⟩ := Dr.reads I hd _ (show RelV (.ref a) (.ref a) from rfl)
        exact ⟨as, r1, fun _ => n1⟩
      · obtain ⟨as, r1⟩ := Dp.reads I d _ _ hd (show RelV (.ref a) (.ref a) from rfl)
        exact ⟨as, r1, fun z => by rw [hn] at z; cases z⟩
    obtain ⟨as, r1, n1⟩ := key
    refine repr_of_reads' r1 h1 n1 gd (by omega) (fun _ _ e => e) (fun h' u tk k => ?_) h2
    exact ⟨.str d.shown, H, I.kept (t' := tk) k, ⟨u, rfl⟩, q⟩
  · exact SkE.call_repr_int pins s σ H _ us Q I r ⟨_, rfl, q⟩
  · exact q.elim
end
end Sk
/-! Sk: a law's end where no repr is under way -/
namespace Sk
open PySem PySem.Spec PyProof.Rows L2
/-- the heap in which the script alone is tracked, unless it is the module's own -/
theorem script_heap {K : PySem.W.Frag} {h : Heap} {a : Addr} {vs : List Value} {ns : List Int} (KX : K.In h) (ha : h.get? a = some { cls := .type "list", data := .seq vs.toArray }) (hi : IntsAre vs ns) (hl : ns.length ≤ sizeLine) :
    ∃ H : Hp, (∀ b, H b = none ∨ (b = a ∧ K.lookup a = none ∧ H b = some (.frz { cls := .type "list", data := .seq vs.toArray } (.lst (ns.map V.int))))) ∧ SqL K H a (ns.map V.int) := by
  have rv := vals_ints hi
  cases hk : K.lookup a with
  | none =>
    refine ⟨upd (fun _ => none) a (.frz { cls := .type "list", data := .seq vs.toArray } (.lst (ns.map V.int))), fun b => ?_, .inl (.inr ⟨_, upd_same⟩)⟩
    by_cases z : b = a
    · subst z
      exact .inr ⟨rfl, rfl, upd_same⟩
    · exact .inl (upd_ne z)
  | some o =>
    have e := KX a o hk
    rw [ha] at e
    cases e
    refine ⟨fun _ => none, fun b => .inl rfl, .inr ⟨_, vs.toArray, _, hk, rfl, rfl, rfl, ?_, by simpa using rv⟩⟩
    rw [List.size_toArray, hi.length]
    exact hl
theorem endG {P : Program} {w : World} {K : PySem.W.Frag} {mg mb : Str → Option Value} {k : Nat} {fa a : Addr} {fd : FuncData} {x : Str} {sp : Sp} {s : Shared} {vs : List Value} {ns : List Int}
    (KX : K.In s.heap) (gs : s.heap.Ns mainGlobals mg) (bs : s.heap.Ns builtinsNs mb) (boot : ∀ x : Str, x ≠ "__name__" → mb x = bootBuiltins x) (lim : s.heap.NoLimit) (gens : s.gens = #[])
    (ha : s.heap.get? a = some { cls := .type "list", data := .seq vs.toArray }) (hi : IntsAre vs ns) (hl : ns.length ≤ sizeLine) (room : Room k callerA)
    (F : ∀ base : Heap, K.In base → base.Ns mainGlobals mg → FnG P w K mg base k fa fd [x] sp) (bind : ∀ (s : Shared) (u : Value), BindsTo s fd ⟨[u], []⟩ [(x, u)])
    (want : ∀ H : Hp, SqL K H a (ns.map V.int) → sp [.ref a] H (fun v _ => v = .bl true) fun _ _ _ => False) :
    codeAny (model P w) callerA (.call (.ref fa) ⟨[.ref a], []⟩) (fun r s' => r = .ok (.ret (.bool true)) ∧ OldK s.heap s'.heap ∧ s'.os = s.os ∧ AllBare s'.gens) s := by
  obtain ⟨H, pH, pS⟩ := script_heap KX ha hi hl
  have free : ∀ {b : Addr} {o : Obj} {es : Array DictEntry} {ep : Nat}, s.heap.get? b = some o → o.data = .dict es ep → H b = none := by
    intro b o es ep e d
    rcases pH b with z | ⟨z, _, _⟩
    · exact z
    · rw [z, ha] at e
      cases e
      have d' : Data.seq vs.toArray _ = Data.dict es ep := d
      cases d'
  have ns_on : ∀ {b : Addr} {m : Str → Option Value}, s.heap.Ns b m → (hidT s.heap H).Ns b m := by
    rintro b m ⟨o, es, ep, e, d, r⟩
    exact ⟨o, es, ep, hidT_get e (free e d), d, r⟩
  have kin : K.In (hidT s.heap H) := by
    intro b o e
    refine hidT_get (KX b o e) ?_
    rcases pH b with z | ⟨z, z2, _⟩
    · exact z
    · rw [z, z2] at e
      cases e
  have hok : HOk P w H s.heap := by
    intro b u e
    rcases pH b with z | ⟨z, _, z3⟩
    · rw [z] at e
      cases e
    · rw [z3] at e
      cases e
      subst z
      exact ⟨ha, by rw [List.length_map]; exact hl, vs, _, vals_ints hi, ha⟩
  have limK : (hidT s.heap H).NoLimit := by
    obtain ⟨mc, l1, l2⟩ := lim
    exact ⟨mc, ns_on l1, l2⟩
  have env : Env0 P w K mg (hidT s.heap H) callerA [] s H :=
    { frames := rfl, mod := ⟨kin, ns_on gs, ⟨mb, ns_on bs, boot⟩, limK⟩, bs := fun b o e => of_hidT e, bsz := Nat.le_of_eq (hidT_size _ _), funs := trivial, frf := (fun b hb => nomatch (show b ∈ ([] : List Addr) from hb)), hok := hok, bare := .of_eq gens }
  have go := (F _ kin (ns_on gs)).run callerA [] s H ⟨[.ref a], []⟩ [.ref a] [.ref a] _ _ rfl room env (bind s (.ref a)) (.cons rfl .nil) (want H pS)
  refine codeAny_mono go fun r s' z => ?_
  match r, z with
  | .error e, z => exact z.elim
  | .ok .next, z => exact z.elim
  | .ok .brk, z => exact z.elim
  | .ok .cont, z => exact z.elim
  | .ok (.ret u), z =>
    obtain ⟨v, H', os, bare, un, hok', rel, q⟩ := z
    have q : v = .bl true := q
    subst q
    have eu : u = Value.bool true := rel
    subst eu
    refine ⟨rfl, OldK.of_keep fun b o e => ?_, os, bare⟩
    rcases pH b with z | ⟨z, _, z3⟩
    · exact un.keep b o e z (fun hm => nomatch (show b ∈ ([] : List Addr) from hm)) (by simp)
    · have e2 := (hok' b _ (un.frzs b _ _ z3)).1
      rw [z, ha] at e
      cases e
      exact e2
/-- a law whose def is promised where no repr is under way -/
theorem walk_G {l : PySem.W.OpenLaw} {n k : Nat} {q : Program} {loose : List Str} {XP : (Str → Option Value) → Heap → Prop} {YP : World → Heap → Prop} {d : DefRec} {x : Str}
    (hn : l.most = some n) (hn2 : n ≤ sizeLine) (hdf : d.params.defaults = []) (room : Room k callerA)
    (F : ∀ (w : World) (mg : Str → Option Value) (fa : Addr) (h : Heap), YP w h → h.Ns mainGlobals mg → mg d.name = some (.ref fa) →
      ∃ (K : PySem.W.Frag) (fd : FuncData) (sp : Sp), K.In h ∧ (∀ (s : Shared) (u : Value), BindsTo s fd ⟨[u], []⟩ [(x, u)]) ∧
        (∀ (H : Hp) (a : Addr) (ns : List Int), ns.length ≤ n → SqL K H a (ns.map V.int) → sp [.ref a] H (fun v _ => v = .bl true) fun _ _ _ => False) ∧
        ∀ base : Heap, K.In base → base.Ns mainGlobals mg → FnG l.prog w K mg base k fa fd [x] sp) :
    PySem.W.WalkO q loose XP YP l.row.toRowW d [] (fun f vs => PySem.call f vs) := by
  refine Att.attach_call hn hdf ?_
  intro w s₀ s₁ mg mb fa o pm cd doc a vs ns G Y _ _ _ named ha hi hlen gens
  obtain ⟨K, fd, sp, KX, hb, hsp, hF⟩ := F w mg fa _ Y G.T.g named
  exact endG KX G.T.g G.T.b G.T.builtins G.T.nolimit gens ha hi (Nat.le_trans hlen hn2) room hF hb fun H hS => hsp H a ns hlen hS
end Sk
/-! Sk: a walk over a list or a tuple; trees of markup as they stand in a heap -/
namespace Sk
open PySem PySem.Spec PyProof.Rows L2
/-- x in a list or in a tuple -/
def iAny (K : PySem.W.Frag) (te : TE) : TI := fun σ H R => te σ H fun v H1 => match v with
  | .ref a => ∃ xs, (SqL K H1 a xs ∨ SqT K H1 a xs) ∧ ∀ (J : It) (G : Hp → Prop), Walk J xs.length G (YAt xs) → (∀ H', (∀ o, H1 a = some o → H' a = some o) → G H') → R J H1
  | _ => False
theorem at_seq {K : PySem.W.Frag} {H H' : Hp} {a : Addr} {xs : List V} (e : ∀ o, H a = some o → H' a = some o) (h : SqL K H a xs) : SqL K H' a xs := by
  rcases h with (h | ⟨o, h⟩) | h
  · exact .inl (.inl (e _ h))
  · exact .inl (.inr ⟨o, e _ h⟩)
  · exact .inr h
theorem at_tup {K : PySem.W.Frag} {H H' : Hp} {a : Addr} {xs : List V} (e : ∀ o, H a = some o → H' a = some o) (h : SqT K H a xs) : SqT K H' a xs := by
  rcases h with (h | ⟨o, h⟩) | h
  · exact .inl (.inl (e _ h))
  · exact .inl (.inr ⟨o, e _ h⟩)
  · exact .inr h
section
variable {X : Cx}
theorem iany (K : PySem.W.Frag) {tg e : Expr} {te : TE} (he : PE X e te) (hK : X.K = K := by rfl) : PI X tg e (iAny K te) := by
  subst hK
  refine ⟨fun pins s σ H R I h => thn (he.run pins s σ H _ I h) fun v s1 z => ?_⟩
  obtain ⟨y, G, J, rel, q⟩ := z
  cases y with
  | ref a =>
    have ev : v = Value.ref a := rel
    subst ev
    have fp : ∀ b ∈ [s1.heap.objs.size], FpOk X pins G b := by
      intro b hb
      have eb : b = s1.heap.objs.size := by simpa using hb
      rw [eb]
      exact J.fpOk (Nat.le_refl _) (J.hok.fresh (Nat.le_refl _))
    obtain ⟨xs, hs | hs, q⟩ := q
    · have q := q _ _ walk_list fun H' e => at_seq e hs
      obtain ⟨its, _, pl, _⟩ := J.list hs
      refine wpAny_pyIter_list pl.isList ⟨s1.heap.objs.size, [s1.heap.objs.size], _, _, G, rfl, ?_, turn_list a _, ?_, fp, q⟩
      · exact J.kept (t' := s1.toks) fun b o eo => Heap.get?_push_of_some _ eo
      · exact ⟨_, Heap.get?_push_size _ rfl, rfl, rfl⟩
    · have q := q _ _ walk_tup fun H' e => at_tup e hs
      obtain ⟨its, _, pt, _⟩ := J.tuple hs
      refine wpAny_pyIter_tuple (show s1.heap.IsTuple a its.toArray from pt) ⟨s1.heap.objs.size, [s1.heap.objs.size], _, _, G, rfl, ?_, turn_tuple a _, ?_, fp, q⟩
      · exact J.kept (t' := s1.toks) fun b o eo => Heap.get?_push_of_some _ eo
      · exact ⟨_, Heap.get?_push_size _ rfl, rfl, rfl⟩
  | _ => exact q.elim
end
/-! ### trees -/
def TxtN (H : Hp) (v : V) : Prop := ∃ a z, v = .ref a ∧ H a = some (.tup [.str "text", .str z]) ∧ TextOk 24 z ∧ 1 ≤ z.length
def DataN (H : Hp) (v : V) : Prop := ∃ a x, v = .ref a ∧ H a = some (.tup [.str "data", x]) ∧ GoodV H 6 x
def TextsV (H : Hp) (v : V) (zs : List Str) : Prop := ∃ a, v = .ref a ∧ H a = some (.tup (zs.map V.str)) ∧ ∀ z ∈ zs, TextOk 24 z
def PairsV (H : Hp) (v : V) (ps : List (Str × Str)) : Prop := ∃ a vs, v = .ref a ∧ H a = some (.tup vs) ∧ vs.length = ps.length ∧
  ∀ (i : Nat) x p, vs[i]? = some x → ps[i]? = some p → ∃ b, x = .ref b ∧ H b = some (.tup [.str p.1, .str p.2]) ∧ NameOk p.1 ∧ TextOk 24 p.2
inductive Att where
  | plain (n z : Str)
  | addr (ws : List Str) (ps : List (Str × Str))
def AttV (H : Hp) (v : V) : Att → Prop
  | .plain n z => ∃ a, v = .ref a ∧ H a = some (.tup [.str n, .str z]) ∧ NameOk n ∧ n ≠ "href" ∧ TextOk 24 z
  | .addr ws ps => ∃ a p x y, v = .ref a ∧ H a = some (.tup [.str "href", .ref p]) ∧ H p = some (.tup [x, y]) ∧ TextsV H x ws ∧ 1 ≤ ws.length ∧ ws.length ≤ 3 ∧ PairsV H y ps ∧ ps.length ≤ 3
end Sk
/-! Sk: trees of markup, their sheets -/
namespace Sk
open PySem PySem.Spec PyProof.Rows L2
inductive Nd where
  | text (z : Str)
  | data (l : Str)
  | elem (nm : Str) (as : List Att) (ns : List Nd)
def Nd.isT : Nd → Bool
  | .text _ => true
  | _ => false
/-- no two texts one behind the other -/
def noTwo : List Nd → Bool
  | [] => true
  | [_] => true
  | x :: y :: r => !(x.isT && y.isT) && noTwo (y :: r)
mutual
def Nd.lev : Nd → Nat
  | .elem _ _ ns => 1 + levs ns
  | _ => 0
def levs : List Nd → Nat
  | [] => 0
  | x :: r => max x.lev (levs r)
end
inductive AttsV (H : Hp) : List V → List Att → Prop
  | nil : AttsV H [] []
  | cons {v : V} {vs : List V} {a : Att} {as : List Att} : AttV H v a → AttsV H vs as → AttsV H (v :: vs) (a :: as)
mutual
inductive NdV (H : Hp) : V → Nd → Prop
  | text {a : Addr} {z : Str} : H a = some (.tup [.str "text", .str z]) → TextOk 24 z → 1 ≤ z.length → NdV H (.ref a) (.text z)
  | data {a : Addr} {x : V} : H a = some (.tup [.str "data", x]) → GoodV H 6 x → NdV H (.ref a) (.data (litH H 6 x))
  | elem {a p q : Addr} {nm : Str} {vs ws : List V} {as : List Att} {ns : List Nd} : H a = some (.tup [.str "element", .str nm, .ref p, .ref q]) → NameOk nm → nm ≠ "data" → H p = some (.tup vs) → AttsV H vs as → as.length ≤ 3 →
      H q = some (.tup ws) → NdsV H ws ns → ns.length ≤ 4 → noTwo ns = true → NdV H (.ref a) (.elem nm as ns)
inductive NdsV (H : Hp) : List V → List Nd → Prop
  | nil : NdsV H [] []
  | cons {v : V} {vs : List V} {n : Nd} {ns : List Nd} : NdV H v n → NdsV H vs ns → NdsV H (v :: vs) (n :: ns)
end
theorem AttV.stay {H H' : Hp} (s : Stay H H') {v : V} : ∀ {a : Att}, AttV H v a → AttV H' v a
  | .plain _ _, h => by
    obtain ⟨a, e, h1, h2⟩ := h
    exact ⟨a, e, s _ _ rfl h1, h2⟩
  | .addr _ _, h => by
    obtain ⟨a, p, x, y, e, h1, h2, ⟨b, e3, h3, h4⟩, h5, h6, ⟨c, vs, e7, h7, h8, h9⟩, h10⟩ := h
    refine ⟨a, p, x, y, e, s _ _ rfl h1, s _ _ rfl h2, ⟨b, e3, s _ _ rfl h3, h4⟩, h5, h6, ⟨c, vs, e7, s _ _ rfl h7, h8, fun i x p hx hp => ?_⟩, h10⟩
    obtain ⟨d, e, k1, k2⟩ := h9 i x p hx hp
    exact ⟨d, e, s _ _ rfl k1, k2⟩
theorem AttsV.stay {H H' : Hp} (s : Stay H H') {vs : List V} {as : List Att} (h : AttsV H vs as) : AttsV H' vs as := by
  induction h with
  | nil => exact .nil
  | cons h _ ih => exact .cons (h.stay s) ih
mutual
theorem NdV.stay {H H' : Hp} (s : Stay H H') : ∀ {v : V} {n : Nd}, NdV H v n → NdV H' v n
  | _, _, .text h1 h2 h3 => .text (s _ _ rfl h1) h2 h3
  | _, _, .data h1 h2 => by
    rw [← lit_stay s _ _ h2]
    exact .data (s _ _ rfl h1) (GoodV.mono s _ _ h2)
  | _, _, .elem h1 h2 h3 h4 h5 h6 h7 h8 h9 h10 => .elem (s _ _ rfl h1) h2 h3 (s _ _ rfl h4) (h5.stay s) h6 (s _ _ rfl h7) (NdsV.stay s h8) h9 h10
theorem NdsV.stay {H H' : Hp} (s : Stay H H') : ∀ {vs : List V} {ns : List Nd}, NdsV H vs ns → NdsV H' vs ns
  | _, _, .nil => .nil
  | _, _, .cons h1 h2 => .cons (NdV.stay s h1) (NdsV.stay s h2)
end
end Sk
/-! Sk: f(x[1]): the written number gives out a token, so f may want one; a value's truth as a test -/
namespace Sk
open PySem PySem.Spec PyProof.Rows L2
section
variable {X : Cx}
/-- f(o[c]), f called where a token is out -/
theorem pecall_tok {k : Nat} {f : Addr} {fd : FuncData} {ps : List Str} {sp : Sp} {y : Str} {o : Expr} {to : TE} {r : R2} {c : Int} {j : Nat} {p pos cp sp' : Pos} (F : FnT X.prog X.w X.K X.mg X.base k f fd ps sp) (hr : Room k X.A) (hg : Gl X y) (hm : X.mg y = some (.ref f)) (hk : PySem.W.keepIn X.K (.ref f) = true)
    (hb : Binds X.K fd ps []) (hi : IxR X r) (ho : PE X o to) (hs : PlainIx (.Constant (.int c) j cp) := by exact fun _ _ => rfl) (hdb : (y == ("__debug__" : Str)) = false := by decide)
    (he : starEach [.Subscript o (.Constant (.int c) j cp) sp'] X.env = (false, eval (.Subscript o (.Constant (.int c) j cp) sp') X.env) :: starEach [] X.env := by rfl) (hpl : (backTo pos (starEach [] X.env)).any (·.1) = false := by rfl) :
    PE X (.Call (.Name y p) [.Subscript o (.Constant (.int c) j cp) sp'] [] pos) (fun σ H Q => tOp r to (tC (.int c)) σ H fun v H1 => sp [v] H1 Q E0) := by
  refine ⟨fun pins s σ H Q I h => ?_⟩
  refine wpAny_Call_Name_kw (ld_glob I hg hm ?_ hdb)
  refine PySem.W.callWith_K (h₀ := X.base) I.ok.mod.kin hk ?_ he hpl
  rw [he]
  show wpAny _ _ (spliced ((false, eval (.Subscript o (.Constant (.int c) j cp) sp') X.env) :: backTo pos (starEach [] X.env))) _ _ s
  refine Calls.spliced_cons (Subscript_ (thn (ho.run pins s σ H _ I h) fun v s1 z => ?_))
  obtain ⟨x, H1, I1, r1, q1⟩ := z
  refine wpAny_Constant_int ?_
  have out : 1 ≤ ({ s1 with toks := s1.toks + 1 } : Shared).toks := Nat.succ_le_succ (Nat.zero_le _)
  refine wpAny_mono (PySem.wpAny_toks_of out (hi o _ pins { s1 with toks := s1.toks + 1 } σ H1 x (.int c) v _ _ (I1.tok _) r1 ⟨_, rfl⟩ q1 (hs _ _))) (fun u s2 z => ?_) fun _ _ z => z.2
  obtain ⟨tok, x2, H2, I2, r2, q2⟩ := z
  refine Calls.spliced_nil ⟨I2.kIn, ?_⟩
  have size : ([u] ++ ([] : List Value)).length = ps.length := F.len _ _ _ _ q2
  refine wpAny_call (codeAny_mono (F.run X.A X.stack s2 H2 ⟨[u], []⟩ [u] [x2] Q E0 tok hr I2.env0 (hb s2 [u] I2.kIn size) (.cons r2 .nil) q2) fun r s3 hq => ?_)
  cases r with
  | error e => exact hq.elim
  | ok fl =>
    cases fl with
    | ret u => exact I2.after hq
    | next => exact hq.elim
    | brk => exact hq.elim
    | cont => exact hq.elim
/-- one parameter, given by name -/
theorem kb_one {K : PySem.W.Frag} {x qual : Str} {params : Arguments} {body : List Stmt} {scope : Scope} {f : Addr} {fd : FuncData} {p0 : Str} (F : FunD K x qual params body scope [] [] f fd)
    (h : ∀ (kV doc pm : Value) (an : Option Addr) (cdv ct : Value) (w0 : Value), bindArgs (PySem.W.fnOf x qual params body scope .none kV doc pm an cdv ct) ⟨[], [(p0, w0)]⟩ = pure [(p0, w0)]) :
    KBn K fd [p0] 0 [p0] (fun _ ws => ws) (fun _ zs => zs) := by
  obtain ⟨oc, od, dV, kV, doc, pm, an, cdv, ct, osl, rfl, lk, hcd, hD, hK⟩ := F.ex
  rcases hD with ⟨_, rfl⟩ | ⟨e, _⟩
  · refine ⟨fun s us ws _ l1 l2 => ?_, fun r rz => rz⟩
    match us, ws, l1, l2 with
    | [], [w0], _, _ => exact .of_eq (h kV doc pm an cdv ct w0)
  · exact absurd rfl e
/-- a list's, a tuple's truth -/
def uTru (K : PySem.W.Frag) (te : TE) : TT := fun σ H Q => te σ H fun v H1 => match v with
  | .ref a => ∃ xs, (SqL K H1 a xs ∨ SqT K H1 a xs) ∧ Q (!xs.isEmpty) H1
  | .bl b => Q b H1
  | _ => False
theorem ttru (K : PySem.W.Frag) {e : Expr} {te : TE} (h : PE X e te) (hK : X.K = K := by rfl) (he : ∀ whole, isTrue e X.env whole = (do let v ← whole; standAt e.pos; holding [v] (truthy v)) := by intro _; rfl) : PT X e (uTru K te) := by
  subst hK
  refine PTw (pt_truth (up h) he) fun σ H Q q => ⟨_, fun v H1 z => ?_, q⟩
  cases v with
  | ref a =>
    obtain ⟨xs, hs, z⟩ := z
    rcases hs with hs | hs
    · exact ⟨_, .inl ⟨xs, hs, rfl⟩, z⟩
    · exact ⟨_, .inr (.inl ⟨xs, hs, rfl⟩), z⟩
  | bl b => exact ⟨b, rfl, z⟩
  | _ => exact z.elim
/-- zip of two lists, of two tuples -/
theorem izip (K : PySem.W.Frag) {e e2 : Expr} {ta : TA} {p pos tpos : Pos} {elts : List Expr} {kk : Nat} (hg : Gl X "zip") (hm : X.mg "zip" = none) (ha : PA X [e, e2] ta) (hK : X.K = K := by rfl)
    (hs : starEach [e, e2] X.env = (false, eval e X.env) :: starEach [e2] X.env := by rfl) (hpl : (backTo pos (starEach [e2] X.env)).any (·.1) = false := by rfl) :
    PI X (.Tuple elts kk tpos) (.Call (.Name "zip" p) [e, e2] [] pos) (RZ.iZipA K ta) := by subst hK; exact RZ.pi_zipA hg hm ha hs hpl
end
end Sk
/-! Sk: a hook for heads with classes, tables of texts, tables of code objects and one more Bool -/
namespace Sk
open PySem PySem.Spec PyProof.Rows L2
abbrev Fg := PySem.W.Frag
/-- the part of the heap that is looked at -/
def fragU (n : Nat) (g : Addr → Option Obj) : Fg := He.frT g (He5.asA g n ++ [sysModules])
/-- the table of modules is no list -/
def SysD (K : Fg) : Prop := He.dictB K sysModules = true
/-- what the head tells of the part K of the heap h -/
structure SaysU (fa : List He.Fa) (fn : List He5.DefA) (ts : List He.Tab) (tf : List He.Defn) (ex : Fg → Bool) (w : World) (h : Heap) (K : Fg) : Prop where
  defs : He5.SaysA fa fn K
  tabs : (ts.map fun t => He.dicW K (t.1 K)) = ts.map fun t => some (He.keysIn w.params t.2)
  also : ex K = true
  made : ∀ p ∈ tf, PySem.W.codeHdIn K (He.cT K p).1 (He.cT K p).2 = true ∧ K.lookup (He.cT K p).2 = none ∧ h.get? (He.cT K p).2 = some { cls := .none, data := .fields #[] }
abbrev AlU : Type := (He.AlD × List (Option (List (Option (Str × Int))))) × Bool
def seenU (n : Nat) (fa : List He.Fa) (fn : List He5.DefA) (ts : List He.Tab) (tf : List He.Defn) (ex : Fg → Bool) (g : Addr → Option Obj) : AlU :=
  ((He5.obsA fa fn (fragU n g), ts.map fun t => He.dicW (fragU n g) (t.1 (fragU n g))), ex (fragU n g) && He.tabsB g tf (fragU n g))
def wantU (fn : List He5.DefA) (ts : List He.Tab) (w : World) : AlU := ((He5.valA fn, ts.map fun t => some (He.keysIn w.params t.2)), true)
theorem saysU_of {n : Nat} {fa : List He.Fa} {fn : List He5.DefA} {ts : List He.Tab} {tf : List He.Defn} {ex : Fg → Bool} {w : World} {h : Heap} (e : seenU n fa fn ts tf ex h.get? = wantU fn ts w) : SaysU fa fn ts tf ex w h (fragU n h.get?) := by
  have a1 : He5.SaysA fa fn (fragU n h.get?) := congrArg (fun z : AlU => z.1.1) e
  have a2 : (ts.map fun t => He.dicW (fragU n h.get?) (t.1 (fragU n h.get?))) = ts.map fun t => some (He.keysIn w.params t.2) := congrArg (fun z : AlU => z.1.2) e
  have a3 : (ex (fragU n h.get?) && He.tabsB h.get? tf (fragU n h.get?)) = true := congrArg (fun z : AlU => z.2) e
  obtain ⟨b1, b2⟩ := Bool.and_eq_true_iff.mp a3
  refine ⟨a1, a2, b1, fun p hp => ?_⟩
  obtain ⟨c1, c2⟩ := Bool.and_eq_true_iff.mp (List.all_eq_true.mp b2 p hp)
  refine ⟨c1, ?_⟩
  cases q : h.get? (He.cT (fragU n h.get?) p).2 with
  | none =>
    rw [q] at c2
    cases c2
  | some o =>
    rw [q] at c2
    exact ⟨He.frT_none q c2, by rw [He.emptyTab_eq c2]⟩
def hookU (n : Nat) (fa : List He.Fa) (fn : List He5.DefA) (ts : List He.Tab) (tf : List He.Defn) (ex : Fg → Bool) : PySem.W.Hook where
  α := AlU
  obs := fun s => seenU n fa fn ts tf ex s.heap.get?
  val := fun w => wantU fn ts w
  says := fun w h => ∃ K : Fg, K.In h ∧ SaysU fa fn ts tf ex w h K
  of := fun _ _ e => ⟨_, He.frT_in, saysU_of e⟩
  keeps := fun _ _ _ z k => by
    obtain ⟨K, i, c⟩ := z
    exact ⟨K, i.keeps k, c.defs, c.tabs, c.also, fun p hp => ⟨(c.made p hp).1, (c.made p hp).2.1, k _ _ (c.made p hp).2.2⟩⟩
theorem seenU_eq {n : Nat} {fa : List He.Fa} {fn : List He5.DefA} {ts : List He.Tab} {tf : List He.Defn} {ex : Fg → Bool} {g : Addr → Option Obj} {s : Shared} (h : ∀ a, g a = s.heap.get? a) : seenU n fa fn ts tf ex g = (hookU n fa fn ts tf ex).obs s := by
  have : g = s.heap.get? := funext h
  subst this
  rfl
/-! ### a dict of the module: its keys in order, its values -/
structure KDic (K : Fg) (w : World) (a : Addr) (kvs : List (Str × V)) : Prop where
  keys : He.dicW K a = some (He.keysIn w.params (kvs.map (·.1)))
  vals : ∀ q ∈ kvs, ∃ u, PySem.W.nsIn K a q.1 = some (some u) ∧ RelV q.2 u
theorem KDic.obj {K : Fg} {w : World} {a : Addr} {kvs : List (Str × V)} (d : KDic K w a kvs) : ∃ es n, K.lookup a = some ⟨.type "dict", none, .dict es n, #[]⟩ ∧ (a == sysModules) = false ∧ es.toList.map He.keyOf = He.keysIn w.params (kvs.map (·.1)) := by
  have h := d.keys
  unfold He.dicW at h
  split at h
  · rename_i c es n sl q
    split at h
    · rename_i z
      obtain ⟨z1, z2⟩ := Bool.and_eq_true_iff.mp z
      obtain ⟨z3, z4⟩ := Bool.and_eq_true_iff.mp z2
      have e1 : c = "dict" := of_decide_eq_true z1
      have e2 : sl = #[] := Array.isEmpty_iff.mp z3
      subst e1 e2
      refine ⟨es, n, q, ?_, Option.some.inj h⟩
      cases y : a == sysModules with
      | false => rfl
      | true =>
        rw [y] at z4
        cases z4
    · cases h
  · cases h
theorem kdic_of {K : Fg} {w : World} {ts : List He.Tab} (h : (ts.map fun t => He.dicW K (t.1 K)) = ts.map fun t => some (He.keysIn w.params t.2)) (i : Nat) {at_ : Fg → Addr} {kvs : List (Str × He.Dv)} (e : ts[i]? = some (at_, kvs.map (·.1))) (hv : He.valsB K (at_ K) kvs = true) :
    KDic K w (at_ K) (kvs.map fun q => (q.1, q.2.v K)) := by
  refine ⟨?_, fun q hq => ?_⟩
  · have e2 := congrArg (fun l => l[i]?) h
    simp only [List.getElem?_map, e, Option.map_some] at e2
    have e3 := Option.some.inj e2
    rw [List.map_map]
    exact e3
  · obtain ⟨p, hp, rfl⟩ := List.mem_map.mp hq
    exact He.valsB_ok hv hp
theorem key_at {P : Params} : ∀ {l : List DictEntry} {ks : List Str}, l.map He.keyOf = He.keysIn P ks → ∀ (i : Nat) k, ks[i]? = some k → ∃ en, l[i]? = some en ∧ RelV (.str k) en.key
  | [], [], _, i, k, h => by simp at h
  | [], _ :: _, h, _, _, _ => by cases h
  | _ :: _, [], h, _, _, _ => by cases h
  | en :: r, x :: ks, h, i, k, hk => by
    have h : He.keyOf en :: r.map He.keyOf = some (x, PyData.keyHash P x) :: He.keysIn P ks := h
    injection h with h1 h2
    cases i with
    | zero =>
      cases hk
      refine ⟨en, rfl, ?_⟩
      unfold He.keyOf at h1
      split at h1
      · rename_i y t q
        have := (Prod.mk.inj (Option.some.inj h1)).1
        exact ⟨t, by rw [q, this]⟩
      · cases h1
    | succ i =>
      obtain ⟨e, e1, e2⟩ := key_at h2 i k (by simpa using hk)
      exact ⟨e, by simpa using e1, e2⟩
theorem keys_len {P : Params} {l : List DictEntry} {ks : List Str} (h : l.map He.keyOf = He.keysIn P ks) : l.length = ks.length := by
  have e := congrArg List.length h
  rw [List.length_map] at e
  rw [e]
  unfold He.keysIn
  rw [List.length_map]
theorem KDic.get {K : Fg} {w : World} {a : Addr} {kvs : List (Str × V)} (d : KDic K w a kvs) {x : Str} {v : V} (h : (x, v) ∈ kvs) : KDct K w a x v := by
  obtain ⟨es, n, h1, _, h3⟩ := d.obj
  obtain ⟨u, h4, h5⟩ := d.vals _ h
  exact ⟨es, n, u, h1, He.keysLit_of h3, h4, h5⟩
/-- d[k], d a dict of the module -/
def rKd (K : Fg) (w : World) : R2 := fun x y H Q => match x, y with
  | .ref p, .str z => ∃ kvs v, KDic K w p kvs ∧ (z, v) ∈ kvs ∧ Q v H
  | _, _ => False
/-- the keys of a dict of the module -/
def iKeysK (K : Fg) (w : World) (te : TE) : TI := fun σ H R => te σ H fun v H1 => match v with
  | .ref a => ∃ kvs, KDic K w a kvs ∧ ∀ (J : It), Walk J kvs.length (fun _ => True) (YAt (kvs.map fun q => V.str q.1)) → R J H1
  | _ => False
section
variable {X : Cx}
theorem kdget (K : Fg) (w : World) (h : X.K = K := by rfl) (h2 : X.w = w := by rfl) : IxR X (rKd K w) := by
  subst h h2
  intro va sl pins s σ H x y v u Q I rx ry q
  unfold rKd at q
  split at q
  · obtain ⟨kvs, r, d, m, q⟩ := q
    exact ix_kdict va sl pins s σ H _ _ v u Q I rx ry ⟨_, _, r, rfl, rfl, d.get m, q⟩
  · exact q.elim
/-- the walk over the keys of a dict of the module -/
def Itkk (kvs : List (Str × V)) : It where
  go := fun i _ => i < kvs.length
  stop := fun i _ => kvs.length ≤ i
  yld := fun i H x H' => H' = H ∧ ∃ k v, kvs[i]? = some (k, v) ∧ x = V.str k
theorem walk_kk {kvs : List (Str × V)} : Walk (Itkk kvs) kvs.length (fun _ => True) (YAt (kvs.map fun q => V.str q.1)) :=
  ⟨fun _ _ hi _ => hi, fun _ _ => Nat.le_refl _, fun i H x H' hi _ y => by
    obtain ⟨e, k, v, h1, rfl⟩ := y
    exact ⟨e, by rw [List.getElem?_map, h1]; rfl⟩⟩
theorem turn_kk {P : Program} {w : World} {K : Fg} {tg : Expr} {d it : Addr} {kvs : List (Str × V)} {es : Array DictEntry} {ep : Nat} (hl : K.lookup d = some ⟨.type "dict", none, .dict es ep, #[]⟩) (hk : es.toList.map He.keyOf = He.keysIn w.params (kvs.map (·.1))) :
    Turn P w K tg (Itkk kvs) [it] it (fun i h => h.IsKeyIter it d i kvs.length ep) := by
  have sz : es.size = kvs.length := by
    have := keys_len hk
    rw [List.length_map, Array.length_toList] at this
    exact this
  constructor
  · simp
  · intro i h st b hb
    obtain rfl : b = it := by simpa using hb
    obtain ⟨oi, e, c, dd⟩ := st
    exact ⟨oi, e, fun v z => by rw [dd] at z; cases z⟩
  · intro i h h' st k
    exact st.at fun oi e => k it (by simp) oi e
  · intro X hP hw hK hc i pins s σ H E I hf st hg
    subst hP hw hK
    obtain ⟨f0, f1, f2, f3, f4, f5⟩ := hf it (by simp)
    have hi : i < kvs.length := hg
    obtain ⟨⟨k, v⟩, hkv⟩ : ∃ p, kvs[i]? = some p := ⟨kvs[i], List.getElem?_eq_getElem hi⟩
    obtain ⟨en, h1, h2⟩ := key_at hk i k (by rw [List.getElem?_map, hkv]; rfl)
    refine next_key_item st (I.kIn _ _ hl) rfl sz (by rw [← Array.getElem?_toList]; exact h1) fun h' st' sb => ?_
    have I1 : Inv X pins σ H { s with heap := h' } := I.turned (t' := s.toks) (fun b ob hb e => (sb.2 b hb).trans e) f0 f1 f3 f4 f5
    obtain ⟨oi, e, c, dd⟩ := id st'
    exact ⟨en.key, rfl, go_of (s := { s with heap := h' }) e c dd (by decide) ⟨.str k, H, I1, h2, ⟨rfl, k, v, hkv, rfl⟩, st', fun b hb => (hf b hb).1⟩⟩
  · intro X hP hw hK hc i pins s σ H E I hf st hg
    subst hP hw hK
    obtain ⟨f0, f1, f2, f3, f4, f5⟩ := hf it (by simp)
    exact next_key_end (I.ok.hd hc) st (I.kIn _ _ hl) rfl sz hg fun h' eb => ⟨rfl, I.turned (t' := s.toks) (fun b ob hb e => eb b ob hb e) f0 f1 f3 f4 f5⟩
  · intro A i s Q E st h
    exact wpAny_pyIter_keyiter st h
theorem ikeysK (K : Fg) (w : World) {tg e : Expr} {te : TE} (he : PE X e te) (h : X.K = K := by rfl) (h2 : X.w = w := by rfl) : PI X tg e (iKeysK K w te) := by
  subst h h2
  refine ⟨fun pins s σ H R I q => thn (he.run pins s σ H _ I q) fun u s1 z => ?_⟩
  obtain ⟨v, H1, I1, rv, z⟩ := z
  cases v with
  | ref a =>
    obtain ⟨kvs, d, q⟩ := z
    obtain rfl : u = Value.ref a := rv
    obtain ⟨es, ep, h1, h2, h3⟩ := d.obj
    have sz : es.size = kvs.length := by
      have := keys_len h3
      rw [List.length_map, Array.length_toList] at this
      exact this
    refine iter_keys h2 (I1.kIn _ _ h1) ⟨rfl, rfl, rfl⟩ rfl (pi_one (tk := s1.toks) I1 _ (turn_kk h1 h3) ⟨_, Heap.get?_push_size _ rfl, rfl, ?_⟩ (q _ walk_kk))
    rw [sz]
    rfl
  | _ => exact z.elim
end
end Sk
/-! Sk: int(text); objects of own classes; repr of data with lists and dicts -/
namespace Sk
open PySem PySem.Spec PyProof.Rows L2
section
variable {X : Cx}
/-- int(x) -/
def rIntT : List V → Hp → VK → Prop := fun xs H Q => match xs with
  | [.int i] => Q (.int i) H
  | [.bl k] => Q (.int (if k then 1 else 0)) H
  | [.str a] => ∃ n, PySem.intText? a = some n ∧ a.length ≤ 640 ∧ Q (.int n) H
  | _ => False
theorem call_intT : CallR X (.type "int") rIntT := CallRw (CallR.or call_intU call_int_str) fun xs H Q q => by
  unfold rIntT at q
  split at q
  · exact .inl q
  · exact .inl q
  · obtain ⟨n, h⟩ := q
    exact .inr ⟨_, n, rfl, h⟩
  · exact q.elim
/-- x(e, ..), x a name of the def that holds a class -/
theorem pe_makeL {CX : CXT} {k i : Nat} {f C : Addr} {sp : Sp} {E : XK} {x : Str} {e : Expr} {es : List Expr} {t : TA} {p pos : Pos} (hN : X.N[i]? = some x) (hv : Vis X.env.scope x) (M : Mk X.K C f) (F : FnR X.prog X.w X.K X.mg X.base CX k f sp) (hr : Room (k + 1) X.A) (hx : Passes CX X E) (ha : PA X (e :: es) t)
    (hd : (x == ("__debug__" : Str)) = false := by decide) (hcd : (x == ("__classdict__" : Str)) = false := by decide) (he : starEach (e :: es) X.env = (false, eval e X.env) :: starEach es X.env := by rfl) (hpl : (backTo pos (starEach es X.env)).any (·.1) = false := by rfl) :
    PE X (.Call (.Name x p) (e :: es) [] pos) (fun σ H Q => uVar i σ H fun v H1 => v = .ref C ∧ StX.tMakeR C sp E t σ H1 Q) := by
  refine ⟨fun pins s σ H Q I h => ?_⟩
  refine wpAny_Call_Name_kw (thn ((vr i (pos := p) hN hv hd hcd).run pins s σ H _ I h) fun u s1 z => ?_)
  obtain ⟨v, H1, I1, rv, ev, q⟩ := z
  subst ev
  obtain rfl : u = Value.ref C := rv
  refine PySem.W.callWith_K (h₀ := X.base) I1.ok.mod.kin M.kp (thn (ha.run pos pins s1 σ H1 _ I1 q) fun us s2 z => ?_) he hpl
  obtain ⟨vs, H2, I2, r, q2⟩ := z
  exact ⟨I2.kIn, StX.run_makeR M F hr hx I2 r q2⟩
end
theorem fnR_of {P : Program} {w : World} {K : Fg} {mg : Str → Option Value} {base : Heap} {CX : CXT} {k : Nat} {f : Addr} {fd : FuncData} {ps : List Str} {sp : Sp} (F : FnOk P w K mg base CX k f fd ps sp) (hb : Binds K fd ps []) : FnR P w K mg base CX k f sp :=
  (F.raw hb .nil).imp fun vs H Q E h => by rw [List.append_nil]; exact h
/-! ### what the head tells of a class -/
def creadB (K : Fg) (C : Str) : Bool := PySem.W.readsIn K (He.ga K C) (.type "type") && decide (PySem.W.specialIn K (.ref (He.ga K C)) "__getattribute__" = some (some (.builtin "type.__getattribute__")))
theorem creadB_ok {K : Fg} {C : Str} (h : creadB K C = true) : ClX.CRead K (He.ga K C) (.type "type") := by
  obtain ⟨a, b⟩ := Bool.and_eq_true_iff.mp h
  exact ⟨a, of_decide_eq_true b⟩
abbrev cmA (K : Fg) (C m : Str) : Addr := He5.wf K (He.ga K C) "classmethod" m
def cmetB (K : Fg) (C m : Str) : Bool := He5.wrapB K (He.ga K C) "classmethod" "classmethod.__get__" m && PySem.W.fnIn K (cmA K C m)
theorem cmetB_ok {K : Fg} {C m : Str} (h : cmetB K C m = true) : ClX.CMet K (He.ga K C) (.type "type") m (He.ma K (He.ga K C) m) (cmA K C m) := by
  obtain ⟨a, b⟩ := Bool.and_eq_true_iff.mp h
  exact He5.cmet_of a b
def callB (K : Fg) (C : Str) : Bool := decide (PySem.W.findIn K (.ref (He.ga K C)) "__call__" = some (some (.ref (He.ma K (He.ga K C) "__call__")))) && (PySem.W.isFn K (.ref (He.ma K (He.ga K C) "__call__")) && PySem.W.fnIn K (He.ma K (He.ga K C) "__call__"))
theorem callB_ok {K : Fg} {C : Str} (h : callB K C = true) : StX.CallO K (He.ga K C) (He.ma K (He.ga K C) "__call__") := by
  obtain ⟨a, b⟩ := Bool.and_eq_true_iff.mp h
  obtain ⟨b, c⟩ := Bool.and_eq_true_iff.mp b
  exact ⟨of_decide_eq_true a, b, c⟩
/-! ### data with lists, tuples and dicts -/
mutual
inductive DL (H : Hp) : V → PyData → Prop
  | non : DL H .non .none
  | bl (b : Bool) : DL H (.bl b) (.bool b)
  | int (i : Int) : DL H (.int i) (.int i)
  | str (x : Str) : DL H (.str x) (.str x)
  | lst {a : Addr} {xs : List V} {ds : List PyData} : H a = some (.lst xs) → DLs H xs ds → DL H (.ref a) (.list ds)
  | tup {a : Addr} {xs : List V} {ds : List PyData} : H a = some (.tup xs) → DLs H xs ds → DL H (.ref a) (.tuple ds)
  | dic {a : Addr} {kvs : List (Key × V)} {ds : List (PyData × PyData)} : H a = some (.dK kvs) → DLs H (kvs.map fun p => kV p.1) (ds.map (·.1)) → DLs H (kvs.map (·.2)) (ds.map (·.2)) → DL H (.ref a) (.dict ds)
inductive DLs (H : Hp) : List V → List PyData → Prop
  | nil : DLs H [] []
  | cons {v : V} {vs : List V} {d : PyData} {ds : List PyData} : DL H v d → DLs H vs ds → DLs H (v :: vs) (d :: ds)
end
mutual
theorem DL.same {H H' : Hp} (s : Same H H') : ∀ {v : V} {d : PyData}, DL H v d → DL H' v d
  | _, _, .non => .non
  | _, _, .bl b => .bl b
  | _, _, .int i => .int i
  | _, _, .str x => .str x
  | _, _, .lst h a => .lst (s _ _ h) (DLs.same s a)
  | _, _, .tup h a => .tup (s _ _ h) (DLs.same s a)
  | _, _, .dic h a b => .dic (s _ _ h) (DLs.same s a) (DLs.same s b)
theorem DLs.same {H H' : Hp} (s : Same H H') : ∀ {vs : List V} {ds : List PyData}, DLs H vs ds → DLs H' vs ds
  | _, _, .nil => .nil
  | _, _, .cons a b => .cons (DL.same s a) (DLs.same s b)
end
theorem DLs.len {H : Hp} : ∀ {vs : List V} {ds : List PyData}, DLs H vs ds → vs.length = ds.length
  | _, _, .nil => rfl
  | _, _, .cons _ b => congrArg (· + 1) b.len
theorem DLs.app {H : Hp} : ∀ {vs : List V} {ds : List PyData} {us : List V} {es : List PyData}, DLs H vs ds → DLs H us es → DLs H (vs ++ us) (ds ++ es)
  | _, _, _, _, .nil, r => r
  | _, _, _, _, .cons a b, r => .cons a (b.app r)
theorem DLs.at {H : Hp} : ∀ {vs : List V} {ds : List PyData}, DLs H vs ds → ∀ (i : Nat) v, vs[i]? = some v → ∃ d, ds[i]? = some d ∧ DL H v d
  | _, _, .nil, i, v, h => by simp at h
  | _, _, .cons h _, 0, v, e => by
    cases e
    exact ⟨_, rfl, h⟩
  | _, _, .cons _ h, i + 1, v, e => by
    obtain ⟨n, e1, e2⟩ := h.at i v (by simpa using e)
    exact ⟨n, by simpa using e1, e2⟩
section
variable {X : Cx} {pins : List (Addr × Obj)} {σ : L2.St} {H : Hp} {s : Shared}
theorem sys_no {a : Addr} {o : Obj} (I : Inv X pins σ H s) (y : SysD X.K) (h : s.heap.get? a = some o) (c : o.cls = .type "list") : a ≠ sysModules := fun z => by
  obtain ⟨es, n, sl, e⟩ := He.dictB_ok y
  have e2 := I.kIn _ _ e
  rw [z, e2] at h
  cases h
  have c2 : (Value.type "dict") = .type "list" := c
  injection c2 with c3
  exact absurd c3 (by decide)
mutual
theorem DL.reads (I : Inv X pins σ H s) (y : SysD X.K) : ∀ {v : V} {d : PyData}, DL H v d → ∀ u, RelV v u → ∃ as, Reads s.heap u d as ∧ sysModules ∉ as
  | _, _, .non, u, r => by
    cases r
    exact ⟨[], .none, by simp⟩
  | _, _, .bl b, u, r => by
    cases r
    exact ⟨[], .bool b, by simp⟩
  | _, _, .int i, u, r => by
    obtain ⟨t, rfl⟩ := r
    exact ⟨[], .int i t, by simp⟩
  | _, _, .str x, u, r => by
    obtain ⟨t, rfl⟩ := r
    exact ⟨[], .str x t, by simp⟩
  | _, _, .lst hs ha, u, r => by
    cases r
    obtain ⟨its, rv, ⟨o, n, ho, hc, _, hd⟩, _⟩ := I.list (sqL_of hs)
    obtain ⟨as, hr, hn⟩ := DL.readsAll I y ha its rv
    refine ⟨_ :: as, .list ho hc hd hr, fun z => ?_⟩
    rcases List.mem_cons.mp z with z | z
    · exact sys_no I y ho hc z.symm
    · exact hn z
  | _, _, .tup hs ha, u, r => by
    cases r
    obtain ⟨its, rv, ⟨o, ho, hc, n, hd⟩, _⟩ := I.tuple (sqT_of hs)
    obtain ⟨as, hr, hn⟩ := DL.readsAll I y ha its rv
    exact ⟨as, .tuple ho hc hd hr, hn⟩
  | _, _, .dic (a := a) hs hk hv, u, r => by
    cases r
    obtain ⟨_, ne, vs, kv, o, es, ep, ho, hx, hd, _, hp, _⟩ := dk_of I.hok hs
    obtain ⟨r1, r2⟩ := pairs_vals hp kv
    obtain ⟨as, q1, n1⟩ := DL.readsAll I y hk _ r1
    obtain ⟨bs, q2, n2⟩ := DL.readsAll I y hv _ r2
    refine ⟨a :: as ++ bs, .dict ho hx.1 hd q1 q2, fun z => ?_⟩
    have ne := beq_eq_false_iff_ne.mp ne
    rcases List.mem_append.mp z with z | z
    · rcases List.mem_cons.mp z with z | z
      · exact ne z.symm
      · exact n1 z
    · exact n2 z
theorem DL.readsAll (I : Inv X pins σ H s) (y : SysD X.K) : ∀ {vs : List V} {ds : List PyData}, DLs H vs ds → ∀ us, Vals vs us → ∃ as, ReadsAll s.heap us ds as ∧ sysModules ∉ as
  | _, _, .nil, us, r => by
    cases r
    exact ⟨[], .nil, by simp⟩
  | _, _, .cons h1 h2, us, r => by
    cases r with
    | cons r1 r2 =>
      obtain ⟨as, q1, n1⟩ := DL.reads I y h1 _ r1
      obtain ⟨bs, q2, n2⟩ := DL.readsAll I y h2 _ r2
      refine ⟨as ++ bs, .cons q1 q2, fun z => ?_⟩
      rcases List.mem_append.mp z with z | z
      · exact n1 z
      · exact n2 z
end
end
section
variable {X : Cx}
/-- repr(x) of data -/
def rReprL : List V → Hp → VK → Prop := fun xs H Q => match xs with
  | [.ref a] => ∃ d, DL H (.ref a) d ∧ d.showable = true ∧ d.shown.length ≤ sizeLine ∧ d.depth ≤ 60 ∧ Q (.str d.shown) H
  | [.int i] => i.natAbs.log2 < 1920 ∧ Q (.str (toString i)) H
  | _ => False
theorem kreprL (y : SysD X.K) (gd : X.A.guards = some []) (hu : X.A.units + 64 < cLine) : CallR X (.builtin "repr") rReprL := by
  intro pins s σ H xs us Q I r q
  unfold rReprL at q
  split at q
  · rename_i a
    obtain ⟨d, hd, h1, h2, h3, q⟩ := q
    cases r with
    | @cons _ u _ us ru rs =>
    cases rs
    have e : u = Value.ref a := ru
    subst e
    obtain ⟨as, r1, n1⟩ := DL.reads I y hd _ (show RelV (.ref a) (.ref a) from rfl)
    refine repr_of_reads' r1 h1 (fun _ => n1) gd (by omega) (fun _ _ e => e) (fun h' u tk k => ?_) h2
    exact ⟨.str d.shown, H, I.kept (t' := tk) k, ⟨u, rfl⟩, q⟩
  · exact SkE.call_repr_int pins s σ H _ us Q I r ⟨_, rfl, q⟩
  · exact q.elim
end
end Sk
/-! Sk: expressions: how they are read, what they are in a heap, their values -/
namespace Sk
open PySem PySem.Spec PyProof.Rows L2
def mkS (l : List Nat) : Str := ⟨l.toArray⟩
theorem mk_list (l : List Nat) : (mkS l).cps.toList = l := rfl
theorem mk_sl (z : Str) : mkS z.cps.toList = z := str_ext rfl
theorem mk_len (l : List Nat) : (mkS l).length = l.length := by rw [len_list]; rfl
theorem mk_eq {z : Str} {l : List Nat} (h : z.cps.toList = l) : z = mkS l := str_ext h
theorem cut_nat (z : Str) (i j : Nat) : cutS z (some (i : Int)) (some (j : Int)) = mkS ((z.cps.toList.drop i).take (j - i)) := by
  refine str_ext ?_
  have l := len_list z
  unfold cutS
  rw [HT.sIx_nat, HT.sIx_nat, mk_list]
  show (z.cps.toList.drop (min i z.length)).take (min j z.length - min i z.length) = _
  rcases Nat.le_total i z.length with h | h
  · rw [Nat.min_eq_left h]
    rcases Nat.le_total j z.length with h2 | h2
    · rw [Nat.min_eq_left h2]
    · rw [Nat.min_eq_right h2, List.take_of_length_le (by rw [List.length_drop]; omega), List.take_of_length_le (by rw [List.length_drop]; omega)]
  · rw [Nat.min_eq_right h, List.drop_eq_nil_of_le (by omega), List.drop_eq_nil_of_le (by omega)]
    simp
theorem cut_from (z : Str) (i : Nat) : cutS z (some (i : Int)) none = mkS (z.cps.toList.drop i) := by
  refine str_ext ?_
  have l := len_list z
  unfold cutS
  rw [HT.sIx_nat, HT.sIx_none, mk_list]
  show (z.cps.toList.drop (min i z.length)).take (z.length - min i z.length) = _
  rcases Nat.le_total i z.length with h | h
  · rw [Nat.min_eq_left h, List.take_of_length_le (by rw [List.length_drop]; omega)]
  · rw [Nat.min_eq_right h, List.drop_eq_nil_of_le (by omega), List.drop_eq_nil_of_le (by omega)]
    simp
/-! ### reading -/
def dgt (c : Nat) : Bool := Nat.ble 48 c && Nat.ble c 57
inductive Ex where
  | text (z : List Nat)
  | num (i : Int)
  | flag (b : Bool)
  | get (ns : List (List Nat))
  | call (w : Str) (xs : List Ex)
def nameAt (cs : List Nat) : List Nat := cs.takeWhile low
def nmOk (l : List Nat) : Bool := Nat.ble 1 l.length && Nat.ble l.length 12
def quo (c : Nat) : Bool := !(c == 34 || c == 123 || c == 125 || c == 10)
/-- behind the opening quote -/
def rQuoted (cs : List Nat) : Option (Ex × List Nat) := match cs.drop (cs.takeWhile quo).length with
  | [] => none
  | c :: r => if c == 34 && Nat.ble (cs.takeWhile quo).length 60 then some (.text (cs.takeWhile quo), r) else none
def numOf (neg : Bool) (d : List Nat) : Int := if neg then -((NumText.digitsVal d : Nat) : Int) else ((NumText.digitsVal d : Nat) : Int)
/-- neg: a minus ahead -/
def rDig (neg : Bool) (cs : List Nat) : Option (Ex × List Nat) :=
  if (cs.takeWhile dgt).length == 0 || (Nat.blt 15 (cs.takeWhile dgt).length || (cs.head? == some 48 && (Nat.blt 1 (cs.takeWhile dgt).length || neg))) then none
  else some (.num (numOf neg (cs.takeWhile dgt)), cs.drop (cs.takeWhile dgt).length)
def rFields : Nat → List Nat → Option (List (List Nat) × List Nat)
  | 0, cs => some ([], cs)
  | _ + 1, [] => some ([], [])
  | n + 1, c :: t => if c == 46 then (if nmOk (nameAt t) then (rFields n (t.drop (nameAt t).length)).map fun p => (nameAt t :: p.1, p.2) else none) else some ([], c :: t)
def notVar : List (List Nat) := [(Str.ofString "true").cps.toList, (Str.ofString "false").cps.toList, (Str.ofString "self").cps.toList]
def rVar (cs : List Nat) : Option (Ex × List Nat) :=
  if nmOk (nameAt cs) && !notVar.contains (nameAt cs) then (rFields (cs.drop (nameAt cs).length).length (cs.drop (nameAt cs).length)).map fun p => (.get (nameAt cs :: p.1), p.2) else none
def leastE : List (Str × Nat) := [("equal", 2), ("less", 2), ("not", 1), ("both", 2), ("either", 2), ("sum", 1), ("joined", 1), ("size", 1), ("has", 1), ("or_else", 2)]
def wordAt (cs : List Nat) : List (Str × Nat) → Option ((Str × Nat) × List Nat)
  | [] => none
  | w :: r => if (w.1.cps.toList ++ [40]).isPrefixOf cs then some (w, cs.drop (w.1.length + 1)) else wordAt cs r
def rArgs (f : List Nat → Option (Ex × List Nat)) : Nat → List Nat → Option (List Ex × List Nat)
  | 0, _ => none
  | n + 1, cs => match f cs with
    | none => none
    | some (e, r) => if r.take 1 == [41] then some ([e], r.drop 1) else if r.take 2 == [44, 32] then (rArgs f n (r.drop 2)).map fun p => (e :: p.1, p.2) else none
def isOpen (w : Str) : Bool := w.cps.toList == (Str.ofString "sum").cps.toList || w.cps.toList == (Str.ofString "joined").cps.toList
def arOk (w : Str × Nat) (n : Nat) : Bool := !(Nat.blt n w.2 || (Nat.blt w.2 n && !isOpen w.1))
def rCall (f : List Nat → Option (Ex × List Nat)) (w : Str × Nat) (cs : List Nat) : Option (Ex × List Nat) := match rArgs f (cs.length + 1) cs with
  | none => none
  | some (xs, u) => if arOk w xs.length then some (.call w.1 xs, u) else none
/-- n levels are left -/
def rTree : Nat → List Nat → Option (Ex × List Nat)
  | 0, _ => none
  | _ + 1, [] => none
  | n + 1, c :: r => if c == 34 then rQuoted r else if c == 45 then rDig true r else if dgt c then rDig false (c :: r) else match wordAt (c :: r) leastE with
    | some (w, t) => rCall (rTree n) w t
    | none => if nameAt (c :: r) == (Str.ofString "true").cps.toList then some (.flag true, (c :: r).drop 4) else if nameAt (c :: r) == (Str.ofString "false").cps.toList then some (.flag false, (c :: r).drop 5) else rVar (c :: r)
def parseE (cs : List Nat) : Option Ex := match rTree 8 cs with
  | some (e, []) => some e
  | _ => none
/-! ### what is left is an end of the text -/
def Tail (r cs : List Nat) : Prop := ∃ p, cs = p ++ r
theorem Tail.refl (cs : List Nat) : Tail cs cs := ⟨[], rfl⟩
theorem Tail.trans {a b c : List Nat} (h : Tail a b) (k : Tail b c) : Tail a c := by
  obtain ⟨p, rfl⟩ := h
  obtain ⟨q, rfl⟩ := k
  exact ⟨q ++ p, by simp⟩
theorem tail_drop (n : Nat) (cs : List Nat) : Tail (cs.drop n) cs := ⟨cs.take n, (List.take_append_drop n cs).symm⟩
theorem Tail.len {a b : List Nat} (h : Tail a b) : a.length ≤ b.length := by
  obtain ⟨p, rfl⟩ := h
  rw [List.length_append]
  omega
theorem tail_cons {a : List Nat} {c : Nat} {b : List Nat} (h : Tail a b) : Tail a (c :: b) := h.trans ⟨[c], rfl⟩
theorem quoted_tail {cs r : List Nat} {e : Ex} (h : rQuoted cs = some (e, r)) : Tail r cs := by
  unfold rQuoted at h
  split at h
  · cases h
  · rename_i c t q
    split at h
    · cases h
      exact (tail_cons (Tail.refl _)).trans (q ▸ tail_drop _ cs)
    · cases h
theorem dig_tail {cs r : List Nat} {e : Ex} {neg : Bool} (h : rDig neg cs = some (e, r)) : Tail r cs := by
  unfold rDig at h
  split at h
  · cases h
  · cases h
    exact tail_drop _ cs
theorem fields_tail : ∀ (n : Nat) {cs r : List Nat} {l : List (List Nat)}, rFields n cs = some (l, r) → Tail r cs
  | 0, cs, r, l, h => by
    cases h
    exact Tail.refl _
  | n + 1, [], r, l, h => by
    cases h
    exact Tail.refl _
  | n + 1, c :: t, r, l, h => by
    unfold rFields at h
    split at h
    · split at h
      · obtain ⟨p, h1, h2⟩ := Option.map_eq_some_iff.mp h
        obtain ⟨p1, p2⟩ := p
        cases h2
        exact tail_cons ((fields_tail n h1).trans (tail_drop _ _))
      · cases h
    · cases h
      exact Tail.refl _
theorem var_tail {cs r : List Nat} {e : Ex} (h : rVar cs = some (e, r)) : Tail r cs := by
  unfold rVar at h
  split at h
  · obtain ⟨⟨p1, p2⟩, h1, h2⟩ := Option.map_eq_some_iff.mp h
    cases h2
    exact (fields_tail _ h1).trans (tail_drop _ _)
  · cases h
theorem word_tail {cs : List Nat} {w : Str × Nat} {t : List Nat} : ∀ {ws : List (Str × Nat)}, wordAt cs ws = some (w, t) → Tail t cs
  | [], h => by cases h
  | x :: r, h => by
    unfold wordAt at h
    split at h
    · cases h
      exact tail_drop _ _
    · exact word_tail h
theorem args_tail {f : List Nat → Option (Ex × List Nat)} (hf : ∀ cs e r, f cs = some (e, r) → Tail r cs) : ∀ (n : Nat) {cs r : List Nat} {l : List Ex}, rArgs f n cs = some (l, r) → Tail r cs
  | 0, cs, r, l, h => by cases h
  | n + 1, cs, r, l, h => by
    unfold rArgs at h
    split at h
    · cases h
    · rename_i e t q
      have ht := hf _ _ _ q
      split at h
      · cases h
        exact (tail_drop _ _).trans ht
      · split at h
        · obtain ⟨⟨p1, p2⟩, h1, h2⟩ := Option.map_eq_some_iff.mp h
          cases h2
          exact ((args_tail hf n h1).trans (tail_drop _ _)).trans ht
        · cases h
theorem call_tail {f : List Nat → Option (Ex × List Nat)} (hf : ∀ cs e r, f cs = some (e, r) → Tail r cs) {w : Str × Nat} {cs r : List Nat} {e : Ex} (h : rCall f w cs = some (e, r)) : Tail r cs := by
  unfold rCall at h
  split at h
  · cases h
  · rename_i xs u q
    split at h
    · cases h
      exact args_tail hf _ q
    · cases h
theorem tree_tail : ∀ (n : Nat) (cs : List Nat) (e : Ex) (r : List Nat), rTree n cs = some (e, r) → Tail r cs
  | 0, _, _, _, h => by cases h
  | n + 1, [], _, _, h => by cases h
  | n + 1, c :: t, e, r, h => by
    unfold rTree at h
    split at h
    · exact tail_cons (quoted_tail h)
    split at h
    · exact tail_cons (dig_tail h)
    split at h
    · exact dig_tail h
    split at h
    · rename_i w t' q
      exact (call_tail (tree_tail n) h).trans (word_tail q)
    split at h
    · cases h
      exact tail_drop _ _
    split at h
    · cases h
      exact tail_drop _ _
    exact var_tail h
/-! ### as they stand in a heap -/
mutual
inductive ExV (H : Hp) : V → Ex → Prop
  | text {a : Addr} {z : List Nat} : H a = some (.tup [.str "text", .str (mkS z)]) → ExV H (.ref a) (.text z)
  | num {a : Addr} {i : Int} : H a = some (.tup [.str "number", .int i]) → ExV H (.ref a) (.num i)
  | flag {a : Addr} {b : Bool} : H a = some (.tup [.str "flag", .bl b]) → ExV H (.ref a) (.flag b)
  | get {a q : Addr} {ns : List (List Nat)} : H a = some (.tup [.str "get", .ref q]) → H q = some (.tup (ns.map fun n => .str (mkS n))) → ns ≠ [] → ExV H (.ref a) (.get ns)
  | call {a q : Addr} {w : Str} {vs : List V} {xs : List Ex} : H a = some (.tup [.str "call", .str w, .ref q]) → H q = some (.tup vs) → ExVs H vs xs → ExV H (.ref a) (.call w xs)
inductive ExVs (H : Hp) : List V → List Ex → Prop
  | nil : ExVs H [] []
  | cons {v : V} {vs : List V} {x : Ex} {xs : List Ex} : ExV H v x → ExVs H vs xs → ExVs H (v :: vs) (x :: xs)
end
def TupS (H H' : Hp) : Prop := ∀ b xs, H b = some (.tup xs) → H' b = some (.tup xs)
theorem tupS_of {H H' : Hp} (s : Same H H') : TupS H H' := fun b xs h => s b _ h
mutual
theorem ExV.on {H H' : Hp} (s : TupS H H') : ∀ {v : V} {e : Ex}, ExV H v e → ExV H' v e
  | _, _, .text h => .text (s _ _ h)
  | _, _, .num h => .num (s _ _ h)
  | _, _, .flag h => .flag (s _ _ h)
  | _, _, .get h1 h2 h3 => .get (s _ _ h1) (s _ _ h2) h3
  | _, _, .call h1 h2 h3 => .call (s _ _ h1) (s _ _ h2) (ExVs.on s h3)
theorem ExVs.on {H H' : Hp} (s : TupS H H') : ∀ {vs : List V} {es : List Ex}, ExVs H vs es → ExVs H' vs es
  | _, _, .nil => .nil
  | _, _, .cons h1 h2 => .cons (ExV.on s h1) (ExVs.on s h2)
end
theorem ExVs.length {H : Hp} : ∀ {vs : List V} {es : List Ex}, ExVs H vs es → vs.length = es.length
  | _, _, .nil => rfl
  | _, _, .cons _ h => congrArg (· + 1) h.length
theorem ExVs.app {H : Hp} : ∀ {vs : List V} {es : List Ex} {v : V} {e : Ex}, ExVs H vs es → ExV H v e → ExVs H (vs ++ [v]) (es ++ [e])
  | _, _, _, _, .nil, h => .cons h .nil
  | _, _, _, _, .cons a b, h => .cons a (b.app h)
theorem ExVs.at {H : Hp} : ∀ {vs : List V} {es : List Ex}, ExVs H vs es → ∀ (i : Nat) v, vs[i]? = some v → ∃ e, es[i]? = some e ∧ ExV H v e
  | _, _, .nil, i, v, h => by simp at h
  | _, _, .cons h _, 0, v, e => by
    cases e
    exact ⟨_, rfl, h⟩
  | _, _, .cons _ h, i + 1, v, e => by
    obtain ⟨n, e1, e2⟩ := h.at i v (by simpa using e)
    exact ⟨n, by simpa using e1, e2⟩
end Sk
/-! Sk: while by an invariant; places in a text -/
namespace Sk
open PySem PySem.Spec PyProof.Rows L2
theorem while_up {t : TT} {tb : TS} {D : Ends} {σ : L2.St} {H : Hp} (Pv : L2.St → Hp → Prop) (μ : L2.St → Hp → Nat) (h0 : Pv σ H)
    (hs : ∀ σ H, Pv σ H → t σ H fun b H1 => br b (tb { D with nx := fun σ' H' => Pv σ' H' ∧ μ σ' H' < μ σ H, ct := fun σ' H' => Pv σ' H' ∧ μ σ' H' < μ σ H, bk := D.nx } σ H1) (D.nx σ H1)) : tWhile (upT t) tb D σ H := by
  refine while_by Pv μ h0 (fun σ H p => ⟨_, fun b H1 z => br_if z, hs σ H p⟩) fun σ H Q Q' m z => ?_
  obtain ⟨Q2, a, b⟩ := z
  exact ⟨Q2, fun b H1 q => m _ _ (a _ _ q), b⟩
theorem fn_no {P : Program} {w : World} {K : Fg} {mg : Str → Option Value} {base : Heap} {CX : CXT} {k : Nat} {f : Addr} {fd : FuncData} {ps : List Str} : FnOk P w K mg base CX k f fd ps (fun _ _ _ _ => False) := ⟨fun _ _ _ _ h => h.elim, fun _ _ _ _ _ _ _ _ _ _ _ _ _ h => h.elim⟩
/-! ### the first signs that p takes -/
theorem tw_go {p : Nat → Bool} : ∀ {cs : List Nat} {j c : Nat}, j ≤ (cs.takeWhile p).length → cs[j]? = some c → p c = true → j + 1 ≤ (cs.takeWhile p).length
  | [], _, _, _, h, _ => by simp at h
  | x :: r, 0, c, _, h, hp => by
    have : x = c := by simpa using h
    rw [List.takeWhile_cons, this, hp]
    simp
  | x :: r, j + 1, c, l, h, hp => by
    rw [List.takeWhile_cons] at l ⊢
    split at l
    · rename_i q
      rw [if_pos q]
      have := tw_go (cs := r) (j := j) (by simpa using l) (by simpa using h) hp
      simpa using this
    · simp at l
theorem tw_stop {p : Nat → Bool} : ∀ {cs : List Nat} {j : Nat}, j ≤ (cs.takeWhile p).length → (∀ c, cs[j]? = some c → p c = false) → j = (cs.takeWhile p).length
  | [], j, h, _ => by simpa using h
  | x :: r, 0, _, h => by
    have := h x rfl
    rw [List.takeWhile_cons, this]
    rfl
  | x :: r, j + 1, l, h => by
    rw [List.takeWhile_cons] at l ⊢
    split at l
    · rename_i q
      rw [if_pos q]
      have := tw_stop (cs := r) (j := j) (by simpa using l) fun c hc => h c (by simpa using hc)
      simp [← this]
    · simp at l
theorem tw_take {p : Nat → Bool} (cs : List Nat) : cs.take (cs.takeWhile p).length = cs.takeWhile p := by
  induction cs with
  | nil => rfl
  | cons x r ih =>
    rw [List.takeWhile_cons]
    split
    · simp [ih]
    · rfl
theorem tw_len {p : Nat → Bool} (cs : List Nat) : (cs.takeWhile p).length ≤ cs.length := (List.takeWhile_sublist p).length_le
theorem tw_all {p : Nat → Bool} (cs : List Nat) : ∀ c ∈ cs.takeWhile p, p c = true := fun c hc => by
  induction cs with
  | nil => cases hc
  | cons x r ih =>
    rw [List.takeWhile_cons] at hc
    split at hc
    · rcases List.mem_cons.mp hc with e | e
      · rw [e]; assumption
      · exact ih e
    · cases hc
/-! ### z from its n-th sign on -/
structure TxtAt (z : Str) (n : Nat) (cs : List Nat) : Prop where
  len : z.length ≤ 100000
  at_ : z.cps.toList.drop n = cs
  le : n ≤ z.length
theorem TxtAt.size {z : Str} {n : Nat} {cs : List Nat} (t : TxtAt z n cs) : z.length ≤ sizeLine := size_le t.len
theorem TxtAt.cs {z : Str} {n : Nat} {cs : List Nat} (t : TxtAt z n cs) : cs.length = z.length - n := by rw [← t.at_, List.length_drop, len_list]
theorem TxtAt.on {z : Str} {n : Nat} {cs : List Nat} (t : TxtAt z n cs) {j : Nat} (h : j ≤ cs.length) : TxtAt z (n + j) (cs.drop j) := ⟨t.len, by rw [← t.at_, List.drop_drop], by have := t.cs; have := t.le; omega⟩
theorem TxtAt.tail {z : Str} {n : Nat} {cs r : List Nat} (t : TxtAt z n cs) (h : Tail r cs) : TxtAt z (z.length - r.length) r := by
  obtain ⟨p, rfl⟩ := h
  have a := t.cs
  have b := t.le
  rw [List.length_append] at a
  have e := t.on (j := p.length) (by rw [List.length_append]; omega)
  rw [List.drop_left] at e
  have e2 : n + p.length = z.length - r.length := by omega
  rw [e2] at e
  exact e
theorem TxtAt.back {z : Str} {n j : Nat} {cs : List Nat} (t : TxtAt z n cs) (h : j ≤ cs.length) : z.length - (cs.drop j).length = n + j := by
  have a := t.cs
  have b := t.le
  rw [List.length_drop]
  omega
theorem TxtAt.get {z : Str} {n : Nat} {cs : List Nat} (t : TxtAt z n cs) {j c : Nat} (h : cs[j]? = some c) : atI z.cps.toList ((n + j : Nat) : Int) = some c := by
  have hj := (List.getElem?_eq_some_iff.mp h).1
  have a := t.cs
  have l := len_list z
  unfold atI ixN
  rw [if_pos (by omega), if_pos (by rw [← l]; omega)]
  show z.cps.toList[n + j]? = some c
  rw [← t.at_, List.getElem?_drop] at h
  exact h
theorem TxtAt.cut {z : Str} {n : Nat} {cs : List Nat} (t : TxtAt z n cs) (j k : Nat) : cutS z (some ((n + j : Nat) : Int)) (some ((n + k : Nat) : Int)) = mkS ((cs.drop j).take (k - j)) := by
  rw [cut_nat, ← List.drop_drop, t.at_, show n + k - (n + j) = k - j by omega]
theorem mk_inj {a b : List Nat} (h : mkS a = mkS b) : a = b := by
  have := congrArg (fun z : Str => z.cps.toList) h
  exact this
theorem str_dec {z : Str} {l : List Nat} (hz : z = mkS l) (y : Str) : decide (V.str z = V.str y) = (l == y.cps.toList) := by
  subst hz
  by_cases e : l = y.cps.toList
  · subst e
    rw [mk_sl]
    simp
  · rw [decide_eq_false (fun h => e (by cases h; rfl))]
    symm
    simpa using e
theorem pre_take {w cs : List Nat} : w.isPrefixOf cs = (cs.take w.length == w) := by
  induction w generalizing cs with
  | nil => simp
  | cons x r ih =>
    cases cs with
    | nil => rfl
    | cons c t =>
      show (x == c && r.isPrefixOf t) = (List.take (r.length + 1) (c :: t) == x :: r)
      rw [List.take_succ_cons, ih]
      show _ = (c == x && (t.take r.length == r))
      rw [show (x == c) = (c == x) from Bool.eq_iff_iff.mpr ⟨fun h => by simpa using (by simpa using h : x = c).symm, fun h => by simpa using (by simpa using h : c = x).symm⟩]
theorem bls_true {ys : List V} (h : ∀ (i : Nat) (y : V), ys[i]? = some y → y = .bl true) : ∃ bs : List Bool, ys = bs.map V.bl ∧ bs.all id = true := by
  refine ⟨ys.map fun _ => true, ?_, by simp⟩
  refine List.ext_getElem? fun i => ?_
  rw [List.getElem?_map, List.getElem?_map]
  cases e : ys[i]? with
  | none => rfl
  | some y => rw [h i y e]; rfl
theorem low_mem {c : Nat} : decide (c ∈ (Str.ofString "abcdefghijklmnopqrstuvwxyz").cps.toList) = low c := by
  have a : ∀ c, c < 123 → decide (c ∈ (Str.ofString "abcdefghijklmnopqrstuvwxyz").cps.toList) = low c := by decide +kernel
  have b : ∀ x ∈ (Str.ofString "abcdefghijklmnopqrstuvwxyz").cps.toList, x < 123 := by decide +kernel
  by_cases h : c < 123
  · exact a c h
  · rw [decide_eq_false (fun m => h (b c m))]
    unfold low
    rw [show Nat.ble c 122 = false from by
      cases q : Nat.ble c 122 with
      | false => rfl
      | true => exact absurd (Nat.le_of_ble_eq_true q) (by omega)]
    simp
theorem dgt_mem {c : Nat} : decide (c ∈ (Str.ofString "0123456789").cps.toList) = dgt c := by
  have a : ∀ c, c < 58 → decide (c ∈ (Str.ofString "0123456789").cps.toList) = dgt c := by decide +kernel
  have b : ∀ x ∈ (Str.ofString "0123456789").cps.toList, x < 58 := by decide +kernel
  by_cases h : c < 58
  · exact a c h
  · rw [decide_eq_false (fun m => h (b c m))]
    unfold dgt
    rw [show Nat.ble c 57 = false from by
      cases q : Nat.ble c 57 with
      | false => rfl
      | true => exact absurd (Nat.le_of_ble_eq_true q) (by omega)]
    simp
theorem quo_mem {c : Nat} : (!decide (c ∈ (Str.ofString "\"{}\n").cps.toList)) = quo c := by
  have e : (Str.ofString "\"{}\n").cps.toList = [34, 123, 125, 10] := by decide +kernel
  rw [e]
  unfold quo
  simp [Bool.or_assoc]
  have h : ∀ n : Nat, decide (c = n) = (c == n) := fun n => by
    by_cases e : c = n
    · rw [decide_eq_true e]
      simp [e]
    · rw [decide_eq_false e]
      simp [e]
  rw [h, h, h, h]
/-! ### what a reader gives -/
def ResV (z : Str) (H : Hp) (v : V) : Option (Ex × List Nat) → Prop
  | none => v = .non
  | some (e, r) => ∃ p x, v = .ref p ∧ H p = some (.tup [x, .int ((z.length - r.length : Nat) : Int)]) ∧ ExV H x e
end Sk
/-! Sk: types as plain forms, their reader; text >= text -/
namespace Sk
open PySem PySem.Spec PyProof.Rows L2
section
variable {X : Cx}
/-- >= of ints, of texts -/
def rGe2 : R2 := fun x y H Q => match x, y with
  | .int i, .int j => Q (.bl (decide (j ≤ i))) H
  | .str i, .str j => Q (.bl (!decide (i.cps.toList < j.cps.toList))) H
  | _, _ => False
theorem op_ge2 : OpR X (compareOp .GtE) rGe2 := OpRw (OpR.or op_ge op_ge_str) fun x y H Q q => by
  unfold rGe2 at q
  split at q
  · exact .inl ⟨_, _, rfl, rfl, q⟩
  · exact .inr ⟨_, _, rfl, rfl, q⟩
  · exact q.elim
end
inductive Fm where
  | text
  | number
  | flag
  | opt (f : Fm)
  | list (f : Fm)
  | keyed (f : Fm) (k : List Nat)
  | rcd (fs : List (List Nat × Fm))
abbrev wText : List Nat := [116, 101, 120, 116]
abbrev wNumber : List Nat := [110, 117, 109, 98, 101, 114]
abbrev wFlag : List Nat := [102, 108, 97, 103]
theorem wText_eq : (Str.ofString "text").cps.toList = wText := by decide +kernel
theorem wNumber_eq : (Str.ofString "number").cps.toList = wNumber := by decide +kernel
theorem wFlag_eq : (Str.ofString "flag").cps.toList = wFlag := by decide +kernel
/-- one of the simple kinds -/
def simpleAt (cs : List Nat) : Option (Fm × List Nat) :=
  if cs.take 4 == wText then some (.text, cs.drop 4) else if cs.take 6 == wNumber then some (.number, cs.drop 6) else if cs.take 4 == wFlag then some (.flag, cs.drop 4) else none
def keyK : Fm → Bool
  | .text => true
  | .number => true
  | _ => false
def keyFits : Fm → List Nat → Bool
  | .rcd fs, k => fs.any fun p => (p.1 == k) && keyK p.2
  | _, _ => false
def notUp : Option (List Nat) → List Nat → Bool
  | none, _ => false
  | some l, n => !decide (l < n)
def rFlds (g : List Nat → Option (Fm × List Nat)) : Nat → Option (List Nat) → List Nat → Option (List (List Nat × Fm) × List Nat)
  | 0, _, _ => none
  | n + 1, last, cs =>
    if !nmOk (nameAt cs) || (!((cs.drop (nameAt cs).length).take 2 == [58, 32]) || notUp last (nameAt cs)) then none
    else match g (cs.drop ((nameAt cs).length + 2)) with
      | none => none
      | some (f, r) => if r.take 1 == [125] then some ([(nameAt cs, f)], r.drop 1) else if r.take 2 == [44, 32] then (rFlds g n (some (nameAt cs)) (r.drop 2)).map fun p => ((nameAt cs, f) :: p.1, p.2) else none
def rList (g : List Nat → Option (Fm × List Nat)) (cs : List Nat) : Option (Fm × List Nat) := match g cs with
  | none => none
  | some (f, r) => if r.take 1 == [93] then some (.list f, r.drop 1) else if r.take 4 == [32, 98, 121, 32] then
      (if !keyFits f (nameAt (r.drop 4)) || !((r.drop (4 + (nameAt (r.drop 4)).length)).take 1 == [93]) then none else some (.keyed f (nameAt (r.drop 4)), r.drop (4 + (nameAt (r.drop 4)).length + 1))) else none
def optAt : Option (Fm × List Nat) → Option (Fm × List Nat)
  | none => none
  | some (f, r) => if r.take 1 == [63] then some (.opt f, r.drop 1) else some (f, r)
def rBareW (g : List Nat → Option (Fm × List Nat)) (cs : List Nat) : Option (Fm × List Nat) :=
  if cs.take 1 == [91] then rList g (cs.drop 1) else if cs.take 1 == [123] then (rFlds g cs.length none (cs.drop 1)).map fun p => (.rcd p.1, p.2) else none
def rForm : Nat → List Nat → Option (Fm × List Nat)
  | 0, cs => optAt (simpleAt cs)
  | n + 1, cs => optAt (match simpleAt cs with
    | some x => some x
    | none => rBareW (rForm n) cs)
def rBare : Nat → List Nat → Option (Fm × List Nat)
  | 0, cs => simpleAt cs
  | n + 1, cs => match simpleAt cs with
    | some x => some x
    | none => rBareW (rForm n) cs
theorem rForm_eq : ∀ (n : Nat) (cs : List Nat), rForm n cs = optAt (rBare n cs)
  | 0, _ => rfl
  | _ + 1, _ => rfl
/-! ### what is left is an end -/
theorem simple_tail {cs r : List Nat} {f : Fm} (h : simpleAt cs = some (f, r)) : Tail r cs := by
  unfold simpleAt at h
  split at h
  · cases h; exact tail_drop _ _
  split at h
  · cases h; exact tail_drop _ _
  split at h
  · cases h; exact tail_drop _ _
  · cases h
theorem opt_tail {o : Option (Fm × List Nat)} {cs : List Nat} (ho : ∀ f r, o = some (f, r) → Tail r cs) {f : Fm} {r : List Nat} (h : optAt o = some (f, r)) : Tail r cs := by
  cases o with
  | none => cases h
  | some p =>
    obtain ⟨f0, r0⟩ := p
    have t := ho f0 r0 rfl
    unfold optAt at h
    simp only at h
    split at h
    · cases h
      exact (tail_drop 1 r0).trans t
    · cases h
      exact t
theorem flds_tail {g : List Nat → Option (Fm × List Nat)} (hg : ∀ cs f r, g cs = some (f, r) → Tail r cs) : ∀ (n : Nat) (last : Option (List Nat)) (cs : List Nat) (l : List (List Nat × Fm)) (r : List Nat), rFlds g n last cs = some (l, r) → Tail r cs
  | 0, _, _, _, _, h => by cases h
  | n + 1, last, cs, l, r, h => by
    unfold rFlds at h
    split at h
    · cases h
    split at h
    · cases h
    · rename_i f r0 e
      have t := (hg _ _ _ e).trans (tail_drop _ _)
      split at h
      · cases h
        exact (tail_drop 1 r0).trans t
      split at h
      · obtain ⟨p, hp, e2⟩ := Option.map_eq_some_iff.mp h
        obtain ⟨l', r'⟩ := p
        cases e2
        exact ((flds_tail hg n _ _ _ _ hp).trans (tail_drop 2 r0)).trans t
      · cases h
theorem list_tail {g : List Nat → Option (Fm × List Nat)} (hg : ∀ cs f r, g cs = some (f, r) → Tail r cs) {cs r : List Nat} {f : Fm} (h : rList g cs = some (f, r)) : Tail r cs := by
  unfold rList at h
  split at h
  · cases h
  · rename_i f0 r0 e
    have t := hg _ _ _ e
    split at h
    · cases h
      exact (tail_drop 1 r0).trans t
    split at h
    · split at h
      · cases h
      · cases h
        exact (tail_drop _ r0).trans t
    · cases h
theorem form_tail : ∀ (n : Nat) (cs : List Nat) (f : Fm) (r : List Nat), rForm n cs = some (f, r) → Tail r cs
  | 0, cs, f, r, h => opt_tail (fun _ _ e => simple_tail e) h
  | n + 1, cs, f, r, h => by
    refine opt_tail (fun f r e => ?_) h
    cases e1 : simpleAt cs with
    | some x =>
      rw [e1] at e
      cases e
      exact simple_tail e1
    | none =>
      rw [e1] at e
      have e : rBareW (rForm n) cs = some (f, r) := e
      unfold rBareW at e
      split at e
      · exact (list_tail (form_tail n) e).trans (tail_drop 1 cs)
      split at e
      · obtain ⟨p, hp, e2⟩ := Option.map_eq_some_iff.mp e
        obtain ⟨l', r'⟩ := p
        cases e2
        exact (flds_tail (form_tail n) _ _ _ _ _ hp).trans (tail_drop 1 cs)
      · cases e
/-! ### as they stand in a heap -/
mutual
inductive FmV (H : Hp) : V → Fm → Prop
  | text {a : Addr} : H a = some (.tup [.str "text"]) → FmV H (.ref a) .text
  | number {a : Addr} : H a = some (.tup [.str "number"]) → FmV H (.ref a) .number
  | flag {a : Addr} : H a = some (.tup [.str "flag"]) → FmV H (.ref a) .flag
  | opt {a : Addr} {x : V} {f : Fm} : H a = some (.tup [.str "optional", x]) → FmV H x f → FmV H (.ref a) (.opt f)
  | list {a : Addr} {x : V} {f : Fm} : H a = some (.tup [.str "list", x]) → FmV H x f → FmV H (.ref a) (.list f)
  | keyed {a : Addr} {x : V} {f : Fm} {k : List Nat} : H a = some (.tup [.str "keyed", x, .str (mkS k)]) → FmV H x f → FmV H (.ref a) (.keyed f k)
  | rcd {a r : Addr} {ps : List V} {fs : List (List Nat × Fm)} : H a = some (.tup [.str "record", .ref r]) → H r = some (.tup ps) → FldV H ps fs → FmV H (.ref a) (.rcd fs)
inductive FldV (H : Hp) : List V → List (List Nat × Fm) → Prop
  | nil : FldV H [] []
  | cons {b : Addr} {g : V} {ps : List V} {n : List Nat} {f : Fm} {fs : List (List Nat × Fm)} : H b = some (.tup [.str (mkS n), g]) → FmV H g f → FldV H ps fs → FldV H (.ref b :: ps) ((n, f) :: fs)
end
mutual
theorem FmV.on {H H' : Hp} (s : TupS H H') : ∀ {v : V} {f : Fm}, FmV H v f → FmV H' v f
  | _, _, .text h => .text (s _ _ h)
  | _, _, .number h => .number (s _ _ h)
  | _, _, .flag h => .flag (s _ _ h)
  | _, _, .opt h k => .opt (s _ _ h) (FmV.on s k)
  | _, _, .list h k => .list (s _ _ h) (FmV.on s k)
  | _, _, .keyed h k => .keyed (s _ _ h) (FmV.on s k)
  | _, _, .rcd h h2 k => .rcd (s _ _ h) (s _ _ h2) (FldV.on s k)
theorem FldV.on {H H' : Hp} (s : TupS H H') : ∀ {vs : List V} {fs : List (List Nat × Fm)}, FldV H vs fs → FldV H' vs fs
  | _, _, .nil => .nil
  | _, _, .cons h k r => .cons (s _ _ h) (FmV.on s k) (FldV.on s r)
end
theorem FldV.length {H : Hp} : ∀ {vs : List V} {fs : List (List Nat × Fm)}, FldV H vs fs → vs.length = fs.length
  | _, _, .nil => rfl
  | _, _, .cons _ _ h => congrArg (· + 1) h.length
theorem FldV.app {H : Hp} : ∀ {vs : List V} {fs : List (List Nat × Fm)} {b : Addr} {g : V} {n : List Nat} {f : Fm}, FldV H vs fs → H b = some (.tup [.str (mkS n), g]) → FmV H g f → FldV H (vs ++ [.ref b]) (fs ++ [(n, f)])
  | _, _, _, _, _, _, .nil, h, k => .cons h k .nil
  | _, _, _, _, _, _, .cons a b c, h, k => .cons a b (c.app h k)
theorem FldV.at {H : Hp} : ∀ {vs : List V} {fs : List (List Nat × Fm)}, FldV H vs fs → ∀ (i : Nat) v, vs[i]? = some v → ∃ b g n f, v = .ref b ∧ fs[i]? = some (n, f) ∧ H b = some (.tup [.str (mkS n), g]) ∧ FmV H g f
  | _, _, .nil, i, v, h => by simp at h
  | _, _, .cons h k _, 0, v, e => by
    cases e
    exact ⟨_, _, _, _, rfl, rfl, h, k⟩
  | _, _, .cons _ _ h, i + 1, v, e => by
    obtain ⟨b, g, n, f, e0, e1, e2⟩ := h.at i v (by simpa using e)
    exact ⟨b, g, n, f, e0, by simpa using e1, e2⟩
def ResF (z : Str) (H : Hp) (v : V) : Option (Fm × List Nat) → Prop
  | none => v = .non
  | some (f, r) => ∃ p x, v = .ref p ∧ H p = some (.tup [x, .int ((z.length - r.length : Nat) : Int)]) ∧ FmV H x f
end Sk
/-! Sk: how many fields a text tells -/
namespace Sk
open PySem PySem.Spec PyProof.Rows L2
theorem take2_len {r : List Nat} {a b : Nat} (h : (r.take 2 == [a, b]) = true) : 2 ≤ r.length := by
  match r, h with
  | [], h => cases h
  | [_], h => simp at h
  | _ :: _ :: _, _ => simp
theorem take1_len {r : List Nat} {a : Nat} (h : (r.take 1 == [a]) = true) : 1 ≤ r.length := by
  cases r with
  | nil => cases h
  | cons _ _ => simp
theorem take4_len {r w : List Nat} (hw : w.length = 4) (h : (r.take 4 == w) = true) : 4 ≤ r.length := by
  have e : r.take 4 = w := by simpa using h
  have := congrArg List.length e
  rw [List.length_take, hw] at this
  omega
theorem nmOk_pos {l : List Nat} (h : nmOk l = true) : 1 ≤ l.length ∧ l.length ≤ 12 := by
  unfold nmOk at h
  rw [Bool.and_eq_true] at h
  exact ⟨Nat.le_of_ble_eq_true h.1, Nat.le_of_ble_eq_true h.2⟩
theorem flds_count {g : List Nat → Option (Fm × List Nat)} (hg : ∀ cs f r, g cs = some (f, r) → Tail r cs) : ∀ (n : Nat) (last : Option (List Nat)) (cs : List Nat) (l : List (List Nat × Fm)) (r : List Nat), rFlds g n last cs = some (l, r) → 3 * l.length + r.length ≤ cs.length
  | 0, _, _, _, _, h => by cases h
  | n + 1, last, cs, l, r, h => by
    unfold rFlds at h
    split at h
    · cases h
    rename_i e0
    have e0 : (!nmOk (nameAt cs) || (!((cs.drop (nameAt cs).length).take 2 == [58, 32]) || notUp last (nameAt cs))) = false := by simpa using e0
    rw [Bool.or_eq_false_iff, Bool.or_eq_false_iff] at e0
    obtain ⟨e1, e2, _⟩ := e0
    have k1 := nmOk_pos (show nmOk (nameAt cs) = true by simpa using e1)
    have k2 := take2_len (show ((cs.drop (nameAt cs).length).take 2 == [58, 32]) = true by simpa using e2)
    rw [List.length_drop] at k2
    split at h
    · cases h
    · rename_i f r0 e
      have t := (hg _ _ _ e).len
      rw [List.length_drop] at t
      split at h
      · rename_i e3
        have := take1_len e3
        cases h
        rw [List.length_drop]
        simp
        omega
      split at h
      · rename_i e3
        have := take2_len e3
        obtain ⟨p, hp, e2⟩ := Option.map_eq_some_iff.mp h
        obtain ⟨l', r'⟩ := p
        cases e2
        have ih := flds_count hg n _ _ _ _ hp
        rw [List.length_drop] at ih
        simp
        omega
      · cases h
theorem form_count {n : Nat} {cs r : List Nat} {fs : List (List Nat × Fm)} (h : rForm n cs = some (.rcd fs, r)) : 3 * fs.length ≤ cs.length := by
  rw [rForm_eq] at h
  cases e : rBare n cs with
  | none => rw [e] at h; cases h
  | some p =>
    obtain ⟨f, r0⟩ := p
    rw [e] at h
    unfold optAt at h
    simp only at h
    split at h
    · cases h
    · cases h
      have sno : ∀ {x : List (List Nat × Fm)} {r' : List Nat}, simpleAt cs ≠ some (.rcd x, r') := fun {x r'} h => by
        unfold simpleAt at h
        split at h
        · cases h
        split at h
        · cases h
        split at h
        · cases h
        · cases h
      cases n with
      | zero => exact absurd e sno
      | succ n =>
        have e : (match simpleAt cs with | some x => some x | none => rBareW (rForm n) cs) = some (.rcd fs, r) := e
        cases e1 : simpleAt cs with
        | some x =>
          rw [e1] at e
          cases e
          exact absurd e1 sno
        | none =>
          rw [e1] at e
          have e : rBareW (rForm n) cs = some (.rcd fs, r) := e
          unfold rBareW at e
          split at e
          · unfold rList at e
            split at e
            · cases e
            split at e
            · cases e
            split at e
            · split at e
              · cases e
              · cases e
            · cases e
          split at e
          · obtain ⟨p, hp, e2⟩ := Option.map_eq_some_iff.mp e
            obtain ⟨l', r'⟩ := p
            cases e2
            have := flds_count (form_tail n) _ _ _ _ _ hp
            rw [List.length_drop] at this
            show 3 * l'.length ≤ _
            omega
          · cases e
end Sk
/-! Sk: values of expressions -/
namespace Sk
open PySem PySem.Spec PyProof.Rows L2
/-- along the fields -/
def getV (H : Hp) : List (List Nat) → V → Option V
  | [], v => some v
  | n :: r, .ref a => match H a with
    | some (.dK kvs) => match valV kvs (.inr (mkS n)) with
      | some v => getV H r v
      | none => none
    | _ => none
  | _ :: _, _ => none
def isW (w x : Str) : Bool := decide (V.str w = V.str x)
def intsOf : List V → Option (List Int)
  | [] => some []
  | .int i :: r => (intsOf r).map (i :: ·)
  | _ => none
def textOf : V → Option Str
  | .str z => some z
  | .int i => if Nat.ble i.natAbs.log2 1919 then some (toString i) else none
  | _ => none
def textsOf : List V → Option (List Str)
  | [] => some []
  | v :: r => match textOf v, textsOf r with
    | some z, some zs => some (z :: zs)
    | _, _ => none
def eq0 : V → V → Option V
  | .bl a, .bl b => some (.bl (decide (a = b)))
  | .int a, .int b => some (.bl (decide (a = b)))
  | .str a, .str b => some (.bl (decide (a = b)))
  | _, _ => none
def apply2 (H : Hp) (w : Str) : List V → Option V
  | [.bl a, .bl b] => if isW w "equal" then some (.bl (decide (a = b))) else if isW w "less" then none else if isW w "both" then some (.bl (a && b)) else some (.bl (a || b))
  | [a, b] => if isW w "equal" then eq0 a b else if isW w "less" then (match a, b with | .int i, .int j => some (.bl (decide (i < j))) | _, _ => none) else none
  | _ => none
def applyV (H : Hp) (w : Str) (vs : List V) : Option V :=
  if isW w "sum" then (intsOf vs).map fun l => .int l.sum
  else if isW w "joined" then (match textsOf vs with | some zs => if Nat.ble ((zs.map (·.length)).sum + zs.length) 99999 then some (.str (Txt.join "" zs)) else none | none => none)
  else if isW w "size" then (match vs with | .ref a :: _ => (match H a with | some (.tup xs) => some (.int xs.length) | _ => none) | _ => none)
  else if isW w "has" then (match vs with | v :: _ => some (.bl (!decide (v = .non))) | _ => none)
  else if isW w "or_else" then (match vs with | [a, b] => some (if a = .non then b else a) | _ => none)
  else if isW w "not" then (match vs with | .bl b :: _ => some (.bl (!b)) | _ => none)
  else apply2 H w vs
mutual
def evV (H : Hp) (env : V) : Ex → Option V
  | .text z => some (.str (mkS z))
  | .num i => some (.int i)
  | .flag b => some (.bl b)
  | .get ns => getV H ns env
  | .call w xs => match evVs H env xs with
    | some vs => applyV H w vs
    | none => none
def evVs (H : Hp) (env : V) : List Ex → Option (List V)
  | [] => some []
  | e :: r => match evV H env e with
    | some v => match evVs H env r with
      | some vs => some (v :: vs)
      | none => none
    | none => none
end
mutual
def Ex.lev : Ex → Nat
  | .call _ xs => 1 + levE xs
  | _ => 0
def levE : List Ex → Nat
  | [] => 0
  | e :: r => max e.lev (levE r)
end
mutual
/-- the greatest number of parts -/
def Ex.wid : Ex → Nat
  | .call _ xs => max xs.length (widE xs)
  | _ => 0
def widE : List Ex → Nat
  | [] => 0
  | e :: r => max e.wid (widE r)
end
theorem widE_at : ∀ {es : List Ex} {i : Nat} {e : Ex}, es[i]? = some e → e.wid ≤ widE es
  | [], i, e, h => by simp at h
  | x :: r, 0, e, h => by
    cases h
    unfold widE
    omega
  | x :: r, i + 1, e, h => by
    have := widE_at (es := r) (i := i) (by simpa using h)
    unfold widE
    omega
theorem getV_same {H H' : Hp} (s : Same H H') : ∀ (ns : List (List Nat)) (x v : V), getV H ns x = some v → getV H' ns x = some v
  | [], _, _, h => h
  | n :: r, x, v, h => by
    cases x with
    | ref a =>
      unfold getV at h ⊢
      cases e : H a with
      | none => rw [e] at h; cases h
      | some o =>
        rw [e] at h
        rw [s _ _ e]
        cases o with
        | dK kvs =>
          cases e2 : valV kvs (.inr (mkS n)) with
          | none => simp only [e2] at h; cases h
          | some u =>
            simp only [e2] at h ⊢
            exact getV_same s r u v h
        | _ => cases h
    | _ => cases h
theorem applyV_same {H H' : Hp} (s : Same H H') {w : Str} {vs : List V} {v : V} (h : applyV H w vs = some v) : applyV H' w vs = some v := by
  unfold applyV at h ⊢
  split at h
  · rename_i e
    rw [if_pos e]
    exact h
  rename_i e
  rw [if_neg e]
  split at h
  · rename_i e
    rw [if_pos e]
    exact h
  rename_i e
  rw [if_neg e]
  split at h
  · rename_i e
    rw [if_pos e]
    cases vs with
    | nil => cases h
    | cons x r =>
      cases x with
      | ref a =>
        cases q : H a with
        | none => simp only [q] at h; cases h
        | some o =>
          simp only [q] at h
          simp only [s _ _ q]
          exact h
      | _ => cases h
  · rename_i e
    rw [if_neg e]
    exact h
mutual
theorem evV_same {H H' : Hp} (s : Same H H') {env : V} : ∀ (e : Ex) (v : V), evV H env e = some v → evV H' env e = some v
  | .text _, _, h => h
  | .num _, _, h => h
  | .flag _, _, h => h
  | .get ns, v, h => getV_same s ns env v h
  | .call w xs, v, h => by
    unfold evV at h ⊢
    cases q : evVs H env xs with
    | none => rw [q] at h; cases h
    | some vs =>
      rw [q] at h
      rw [evVs_same s xs vs q]
      exact applyV_same s h
theorem evVs_same {H H' : Hp} (s : Same H H') {env : V} : ∀ (es : List Ex) (vs : List V), evVs H env es = some vs → evVs H' env es = some vs
  | [], _, h => h
  | e :: r, vs, h => by
    unfold evVs at h ⊢
    cases q : evV H env e with
    | none => rw [q] at h; cases h
    | some u =>
      rw [q] at h
      simp only at h
      cases q2 : evVs H env r with
      | none => rw [q2] at h; cases h
      | some us =>
        rw [q2] at h
        rw [evV_same s e u q, evVs_same s r us q2]
        exact h
end
theorem evVs_len {H : Hp} {env : V} : ∀ {es : List Ex} {vs : List V}, evVs H env es = some vs → vs.length = es.length
  | [], _, h => by cases h; rfl
  | e :: r, vs, h => by
    unfold evVs at h
    split at h
    · split at h
      · rename_i us q
        cases h
        rw [List.length_cons, List.length_cons, evVs_len q]
      · cases h
    · cases h
theorem evVs_at {H : Hp} {env : V} : ∀ {es : List Ex} {vs : List V}, evVs H env es = some vs → ∀ (i : Nat) e, es[i]? = some e → ∃ v, vs[i]? = some v ∧ evV H env e = some v
  | [], _, h, i, e, k => by simp at k
  | x :: r, vs, h, i, e, k => by
    unfold evVs at h
    split at h
    · rename_i v qv
      split at h
      · rename_i us q
        cases h
        cases i with
        | zero =>
          cases k
          exact ⟨v, rfl, qv⟩
        | succ i =>
          obtain ⟨u, h1, h2⟩ := evVs_at q i e (by simpa using k)
          exact ⟨u, by simpa using h1, h2⟩
      · cases h
    · cases h
theorem levE_at : ∀ {es : List Ex} {i : Nat} {e : Ex}, es[i]? = some e → e.lev ≤ levE es
  | [], i, e, h => by simp at h
  | x :: r, 0, e, h => by
    cases h
    unfold levE
    omega
  | x :: r, i + 1, e, h => by
    have := levE_at (es := r) (i := i) (by simpa using h)
    unfold levE
    omega
theorem texts_map : ∀ {vs : List V} {zs : List Str}, textsOf vs = some zs → vs.length = zs.length ∧ ∀ (i : Nat) v, vs[i]? = some v → ∃ z, zs[i]? = some z ∧ textOf v = some z
  | [], _, h => by
    cases h
    exact ⟨rfl, fun i v k => by simp at k⟩
  | x :: r, zs, h => by
    unfold textsOf at h
    split at h
    · rename_i z us q1 q2
      cases h
      obtain ⟨l, f⟩ := texts_map q2
      refine ⟨by rw [List.length_cons, List.length_cons, l], fun i v k => ?_⟩
      cases i with
      | zero =>
        cases k
        exact ⟨z, rfl, q1⟩
      | succ i =>
        obtain ⟨y, h1, h2⟩ := f i v (by simpa using k)
        exact ⟨y, by simpa using h1, h2⟩
    · cases h
theorem ints_map : ∀ {vs : List V} {l : List Int}, intsOf vs = some l → vs = l.map V.int
  | [], _, h => by cases h; rfl
  | x :: r, l, h => by
    cases x with
    | int i =>
      unfold intsOf at h
      obtain ⟨m, h1, h2⟩ := Option.map_eq_some_iff.mp h
      subst h2
      rw [ints_map h1]
      rfl
    | _ => cases h
end Sk
/-! Sk: texts as lists of signs; bounds of texts put together -/
namespace Sk
open PySem PySem.Spec PyProof.Rows L2
abbrev sl (z : Str) : List Nat := z.cps.toList
theorem emp_l : Str.empty.cps.toList = [] := rfl
theorem sl_len (z : Str) : (sl z).length = z.length := (len_list z).symm
/-- at most n signs -/
def Ln (n : Nat) (z : Str) : Prop := z.length ≤ n
theorem Ln.app {m n : Nat} {x y : Str} (hx : Ln m x) (hy : Ln n y) : Ln (m + n) (x ++ y) := by
  unfold Ln at *
  rw [app_len]
  omega
theorem Ln.emp {y : Str} {n : Nat} (h : Ln n y) : Ln n (Str.empty ++ y) := by rw [emp_app]; exact h
theorem Ln.ok {m : Nat} {z : Str} (h : Ln m z) (hm : m ≤ 16777216 := by decide) : z.length ≤ sizeLine := Nat.le_trans h hm
instance lnDec (n : Nat) (z : Str) : Decidable (Ln n z) := Nat.decLe z.length n
theorem Ln.plus {m n : Nat} {x y : Str} (hx : Ln m x) (hy : Ln n y) (hm : m + n ≤ 16777216 := by decide) : x.length + y.length ≤ sizeLine := Nat.le_trans (Nat.add_le_add hx hy) hm
theorem Ln.of {n : Nat} {z : Str} {l : List Nat} (e : sl z = l) (h : l.length ≤ n) : Ln n z := by
  unfold Ln
  rw [len_list]
  show (sl z).length ≤ n
  rw [e]
  exact h
theorem Ln.mono {m n : Nat} {z : Str} (h : Ln m z) (hm : m ≤ n) : Ln n z := Nat.le_trans h hm
theorem strs_map {α : Type} {f : α → List Nat} : ∀ {xs : List α} {ys : List V}, ys.length = xs.length → (∀ (i : Nat) (y : V), ys[i]? = some y → ∃ x z, xs[i]? = some x ∧ y = .str z ∧ sl z = f x) → ∃ zs : List Str, ys = zs.map V.str ∧ zs.map sl = xs.map f
  | [], [], _, _ => ⟨[], rfl, rfl⟩
  | [], _ :: _, h, _ => by cases h
  | _ :: _, [], h, _ => by cases h
  | x :: xs, y :: ys, h, k => by
    obtain ⟨x', z, e1, e2, e3⟩ := k 0 y rfl
    have e1 : x = x' := by simpa using e1
    subst e1
    obtain ⟨zs, e4, e5⟩ := strs_map (f := f) (xs := xs) (ys := ys) (by simpa using h) fun i y hy => by
      obtain ⟨x, z, a, b⟩ := k (i + 1) y (by simpa using hy)
      exact ⟨x, z, by simpa using a, b⟩
    exact ⟨z :: zs, by rw [e2, e4]; rfl, by rw [List.map_cons, List.map_cons, e3, e5]⟩
theorem sum_flat (zs : List Str) : (zs.map (·.length)).sum = (zs.map sl).flatten.length := by
  rw [List.length_flatten, List.map_map]
  rw [List.map_congr_left (g := List.length ∘ sl) fun z _ => len_list z]
theorem join_flat {α : Type} {f : α → List Nat} {xs : List α} {zs : List Str} {y : Str} (hy : y.cps.toList = []) (h : zs.map sl = xs.map f) : sl (Txt.join y zs) = (xs.map f).flatten := by
  rw [← h]
  exact join_empty hy zs
theorem join_with {α : Type} {f : α → List Nat} {xs : List α} {zs : List Str} {y : Str} (h : zs.map sl = xs.map f) : sl (Txt.join y zs) = TL.joinL y.cps.toList (xs.map f) := by
  rw [← h]
  exact join_list y zs
theorem len_mem_sum {l : List (List Nat)} {m : Nat} (h : ∀ x ∈ l, x.length ≤ m) : l.flatten.length ≤ l.length * m := by
  rw [List.length_flatten]
  have := sum_le (l := l) (f := List.length) (m := m) h
  simpa using this
theorem joinL_len (s : List Nat) : ∀ l : List (List Nat), (TL.joinL s l).length ≤ l.flatten.length + l.length * s.length
  | [] => by simp [TL.joinL]
  | [p] => by
    show p.length ≤ _
    simp
  | p :: q :: r => by
    have ih := joinL_len s (q :: r)
    show (p ++ (s ++ TL.joinL s (q :: r))).length ≤ _
    rw [List.length_append, List.length_append, List.flatten_cons, List.length_append, List.length_cons, Nat.succ_mul]
    omega
end Sk
/-! Sk: xs == []; how much a repr of data takes -/
namespace Sk
open PySem PySem.Spec PyProof.Rows L2
/-- a list against the empty one, whatever its items are -/
def rEqE (K : PySem.W.Frag) : R2 := fun x y H Q => match x, y with
  | .ref a, .ref b => ∃ xs, SqL K H a xs ∧ SqL K H b [] ∧ Q (.bl xs.isEmpty) H
  | _, _ => False
section
variable {X : Cx}
theorem keqE (K : PySem.W.Frag) (hu : X.A.units + 64 < cLine) (h : X.K = K := by rfl) : OpR X (compareOp .Eq) (rEqE K) := by
  subst h
  intro pins s σ H x y v u Q I rx ry q
  unfold rEqE at q
  split at q
  · rename_i a b
    obtain ⟨xs, h1, h2, q⟩ := q
    have e1 : v = Value.ref a := rx
    have e2 : u = Value.ref b := ry
    subst e1 e2
    obtain ⟨i1, r1, p1, _⟩ := I.list h1
    obtain ⟨i2, r2, p2, _⟩ := I.list h2
    cases r2
    cases xs with
    | nil =>
      cases r1
      exact SeqAt.eq_listAt (e := fun _ => true) p1.isList p2.isList rfl (by omega) (fun j h1 => absurd h1 (Nat.not_lt_zero _)) ⟨.bl true, H, I, rfl, q⟩
    | cons x r =>
      cases r1
      exact SeqAt.eq_list_lengthsAt p1.isList p2.isList (by simp) (by omega) ⟨.bl false, H, I, rfl, q⟩
  · exact q.elim
end
mutual
theorem Dr.stay {H H' : Hp} (s : Stay H H') : ∀ {v : V} {d : PyData}, Dr H v d → Dr H' v d
  | _, _, .non => .non
  | _, _, .bl b => .bl b
  | _, _, .int i => .int i
  | _, _, .str x => .str x
  | _, _, .tup h a => .tup (s _ _ rfl h) (DrAll.stay s a)
  | _, _, .dic h a b => .dic (s _ _ rfl h) (DrAll.stay s a) (DrAll.stay s b)
theorem DrAll.stay {H H' : Hp} (s : Stay H H') : ∀ {vs : List V} {ds : List PyData}, DrAll H vs ds → DrAll H' vs ds
  | _, _, .nil => .nil
  | _, _, .cons a b => .cons (Dr.stay s a) (DrAll.stay s b)
end
/-- data whose repr is not too long -/
def Sm (H : Hp) (v : V) (w k : Nat) : Prop := ∃ d : PyData, Dr H v d ∧ d.showable = true ∧ d.shown.length ≤ w ∧ d.depth ≤ k
def SmL (H : Hp) (vs : List V) (w k : Nat) : Prop := ∃ ds : List PyData, DrAll H vs ds ∧ PyData.showableAll ds = true ∧ ((PyData.shownAll ds).map (·.length)).sum + 2 * (PyData.shownAll ds).length ≤ w ∧ PyData.depthAll ds ≤ k
theorem Sm.stay {H H' : Hp} {v : V} {w k : Nat} (s : Stay H H') (h : Sm H v w k) : Sm H' v w k := by
  obtain ⟨d, h1, h2⟩ := h
  exact ⟨d, Dr.stay s h1, h2⟩
theorem Sm.mono {H : Hp} {v : V} {w k w' k' : Nat} (h : Sm H v w k) (hw : w ≤ w') (hk : k ≤ k') : Sm H v w' k' := by
  obtain ⟨d, h1, h2, h4, h5⟩ := h
  exact ⟨d, h1, h2, Nat.le_trans h4 hw, Nat.le_trans h5 hk⟩
theorem SmL.nil {H : Hp} {k : Nat} : SmL H [] 0 k := ⟨[], .nil, rfl, Nat.le_refl _, Nat.zero_le _⟩
theorem SmL.cons {H : Hp} {v : V} {vs : List V} {w w' k : Nat} (h : Sm H v w k) (t : SmL H vs w' k) : SmL H (v :: vs) (w + 2 + w') k := by
  obtain ⟨d, h1, h2, h4, h5⟩ := h
  obtain ⟨ds, t1, t2, t4, t5⟩ := t
  refine ⟨d :: ds, .cons h1 t1, ?_, ?_, ?_⟩
  · show (d.showable && PyData.showableAll ds) = true
    rw [h2, t2]
    rfl
  · show ((d.shown :: PyData.shownAll ds).map (·.length)).sum + 2 * (d.shown :: PyData.shownAll ds).length ≤ _
    rw [List.map_cons, List.sum_cons, List.length_cons]
    omega
  · show max d.depth (PyData.depthAll ds) ≤ _
    omega
theorem SmL.of {H : Hp} {w k : Nat} : ∀ {vs : List V}, (∀ x ∈ vs, Sm H x w k) → SmL H vs (vs.length * (w + 2)) k
  | [], _ => by
    rw [List.length_nil, Nat.zero_mul]
    exact .nil
  | v :: vs, h => by
    have := SmL.cons (h v (List.mem_cons_self ..)) (SmL.of fun x hx => h x (List.mem_cons_of_mem _ hx))
    rw [List.length_cons, Nat.succ_mul, Nat.add_comm]
    exact this
theorem SmL.mono {H : Hp} {vs : List V} {w k w' k' : Nat} (h : SmL H vs w k) (hw : w ≤ w') (hk : k ≤ k') : SmL H vs w' k' := by
  obtain ⟨d, h1, h2, h4, h5⟩ := h
  exact ⟨d, h1, h2, Nat.le_trans h4 hw, Nat.le_trans h5 hk⟩
theorem Sm.tup {H : Hp} {a : Addr} {vs : List V} {w k : Nat} (h : H a = some (.tup vs)) (t : SmL H vs w k) : Sm H (.ref a) (w + 3) (k + 1) := by
  obtain ⟨ds, t1, t2, t4, t5⟩ := t
  refine ⟨.tuple ds, .tup h t1, t2, ?_, Nat.succ_le_succ t5⟩
  have := tupleText_len_le (PyData.shownAll ds)
  show (tupleText (PyData.shownAll ds)).length ≤ _
  omega
theorem okc_small {c : Nat} (h : okc c = true) : c < 16 ^ 8 := by
  unfold okc at h
  rw [Bool.or_eq_true] at h
  rcases h with h | h
  · have : c = 10 := by simpa using h
    omega
  · rw [Bool.and_eq_true, Bool.and_eq_true] at h
    have := Nat.le_of_ble_eq_true h.1.2
    omega
theorem Sm.str {H : Hp} {n k : Nat} {z : Str} (h : TextOk n z) : Sm H (.str z) (10 * n + 2) k := by
  refine ⟨.str z, .str z, rfl, ?_, Nat.zero_le _⟩
  have := StrLaws.reprText_len z fun c hc => okc_small (h.2 c hc)
  have := h.1
  show (reprText z).length ≤ _
  omega
theorem flat_sm {H : Hp} {v : V} (k : Nat) (h : FlatOk v) : Sm H v 242 k := by
  cases v with
  | non => exact ⟨.none, .non, rfl, by decide, Nat.zero_le _⟩
  | bl b => exact ⟨.bool b, .bl b, rfl, by cases b <;> decide, Nat.zero_le _⟩
  | int i =>
    have h : i.natAbs ≤ 10 ^ 30 := h
    refine ⟨.int i, .int i, ?_, ?_, Nat.zero_le _⟩
    · exact decide_eq_true (int_log h)
    · show (Str.ofString (toString i)).length ≤ 242
      have e := int_text_length_le10 (a := i) (k := 31) (by decide) (Nat.lt_of_le_of_lt h (by decide +kernel))
      have e2 : (Str.ofString (toString i)).length = (toString i).length := PySem.ofString_length _
      rw [e2]
      omega
  | str z => exact Sm.str h
  | _ => exact h.elim
def wG : Nat → Nat
  | 0 => 242
  | n + 1 => 3 * (wG n + 126) + 3
theorem wG_up : ∀ n, 242 ≤ wG n
  | 0 => Nat.le_refl _
  | n + 1 => by
    have := wG_up n
    show 242 ≤ 3 * (wG n + 126) + 3
    omega
theorem Sm.dict {H : Hp} {a : Addr} {kvs : List (Key × V)} {w k : Nat} (h : H a = some (.dK kvs)) (hn : ∀ p ∈ kvs, ∃ z, p.1 = .inr z ∧ NameOk z) (hv : ∀ p ∈ kvs, Sm H p.2 w k) : Sm H (.ref a) (kvs.length * (w + 126) + 3) (k + 1) := by
  have key : ∀ l : List (Key × V), (∀ p ∈ l, ∃ z, p.1 = .inr z ∧ NameOk z) → (∀ p ∈ l, Sm H p.2 w k) → ∃ ds : List (PyData × PyData), DrAll H (l.map fun p => kV p.1) (ds.map (·.1)) ∧ DrAll H (l.map (·.2)) (ds.map (·.2)) ∧ PyData.showableKv ds = true ∧ ((PyData.shownKv ds).map (·.length)).sum + 2 * (PyData.shownKv ds).length ≤ l.length * (w + 126) ∧ PyData.depthKv ds ≤ k := by
    intro l
    induction l with
    | nil => intro _ _; exact ⟨[], .nil, .nil, rfl, Nat.zero_le _, Nat.zero_le _⟩
    | cons p r ih =>
      intro hn hv
      obtain ⟨ds, a1, a2, a3, a5, a6⟩ := ih (fun q hq => hn q (List.mem_cons_of_mem _ hq)) fun q hq => hv q (List.mem_cons_of_mem _ hq)
      obtain ⟨z, e, nk⟩ := hn p (List.mem_cons_self ..)
      obtain ⟨d, b1, b2, b4, b5⟩ := hv p (List.mem_cons_self ..)
      obtain ⟨kd, c1, c2, c4, c5⟩ := Sm.str (H := H) (k := 0) nk.text
      have ek : kV p.1 = V.str z := by rw [e]; rfl
      refine ⟨(kd, d) :: ds, .cons (show Dr H (kV p.1) kd by rw [ek]; exact c1) a1, .cons b1 a2, ?_, ?_, ?_⟩
      · show (kd.showable && d.showable && PyData.showableKv ds) = true
        rw [c2, b2, a3]
        rfl
      · show (((kd.shown ++ ": " ++ d.shown) :: PyData.shownKv ds).map (·.length)).sum + 2 * ((kd.shown ++ ": " ++ d.shown) :: PyData.shownKv ds).length ≤ _
        rw [List.map_cons, List.sum_cons, List.length_cons, app_len, app_len]
        have e3 : (p :: r).length * (w + 126) = r.length * (w + 126) + (w + 126) := by rw [List.length_cons, Nat.succ_mul]
        rw [e3]
        have e2 : (": " : Str).length = 2 := rfl
        rw [e2]
        omega
      · show max (max kd.depth d.depth) (PyData.depthKv ds) ≤ _
        omega
  obtain ⟨ds, a1, a2, a3, a5, a6⟩ := key kvs hn hv
  refine ⟨.dict ds, .dic h a1 a2, a3, ?_, Nat.succ_le_succ a6⟩
  have := dictText_len_le (PyData.shownKv ds)
  show (dictText (PyData.shownKv ds)).length ≤ _
  omega
theorem good_sm {H : Hp} : ∀ (n : Nat) (v : V), GoodV H n v → Sm H v (wG n) n
  | 0, v, h => flat_sm 0 h
  | n + 1, v, h => by
    rcases h with h | ⟨a, vs, rfl, h1, h2, h3⟩ | ⟨a, kvs, rfl, h1, h2, h3⟩
    · exact (flat_sm _ h).mono (wG_up _) (Nat.le_refl _)
    · refine (Sm.tup h1 (SmL.of fun x hx => good_sm n x (h3 x hx))).mono ?_ (Nat.le_refl _)
      show _ ≤ 3 * (wG n + 126) + 3
      exact Nat.add_le_add_right (Nat.mul_le_mul h2 (by omega)) 3
    · refine (Sm.dict h1 h2.2.2 fun p hp => good_sm n p.2 (h3 p hp)).mono ?_ (Nat.le_refl _)
      exact Nat.add_le_add_right (Nat.mul_le_mul_right _ h2.1) 3
theorem att_sm {H : Hp} {v : V} {t : Att} (h : AttV H v t) : Sm H v 2000 4 := by
  cases t with
  | plain n z =>
    obtain ⟨a, rfl, ha, hn, _, hz⟩ := h
    exact (Sm.tup (k := 3) ha (.cons (.str hn.text) (.cons (.str hz) .nil))).mono (by decide) (by decide)
  | addr ws ps =>
    obtain ⟨a, p, x, y, rfl, ha, hp, ⟨b, rfl, hb, hz⟩, _, h5, ⟨c, vs, rfl, hc, lv, hv⟩, h7⟩ := h
    have s1 : Sm H (.ref b) 740 1 := (Sm.tup (k := 0) hb (SmL.of (w := 242) fun x hx => by
      obtain ⟨z, hz', rfl⟩ := List.mem_map.mp hx
      exact .str (hz z hz'))).mono (by rw [List.length_map]; omega) (by decide)
    have s2 : Sm H (.ref c) 1130 2 := (Sm.tup (k := 1) hc (SmL.of (w := 371) fun x hx => by
      obtain ⟨i, hi, e⟩ := List.mem_iff_getElem.mp hx
      have hi2 : i < ps.length := by omega
      obtain ⟨b2, rfl, h2, n2, t2⟩ := hv i x ps[i] (by rw [List.getElem?_eq_getElem hi, e]) (List.getElem?_eq_getElem hi2)
      exact (Sm.tup (k := 0) h2 (.cons (.str n2.text) (.cons (.str t2) .nil))).mono (by decide) (by decide))).mono (by omega) (by decide)
    have s3 : Sm H (.ref p) 1880 3 := (Sm.tup (k := 2) hp (.cons (s1.mono (Nat.le_refl _) (by decide)) (.cons s2 .nil))).mono (by decide) (by decide)
    have th : TextOk 4 "href" := ⟨by decide, List.all_eq_true.mp (by decide +kernel)⟩
    exact (Sm.tup (k := 3) ha (.cons (.str th) (.cons s3 .nil))).mono (by decide) (by decide)
end Sk
/-! Sk: displays of pairs; how much a repr takes -/
namespace Sk
open PySem PySem.Spec PyProof.Rows L2
/-- the values are pairs of these -/
inductive PairsIn (H : Hp) : List V → List (V × V) → Prop
  | nil : PairsIn H [] []
  | cons {a : Addr} {vs : List V} {p : V × V} {ps : List (V × V)} : H a = some (.tup [p.1, p.2]) → PairsIn H vs ps → PairsIn H (.ref a :: vs) (p :: ps)
theorem PairsIn.same {H H' : Hp} (s : Same H H') : ∀ {vs : List V} {ps : List (V × V)}, PairsIn H vs ps → PairsIn H' vs ps
  | _, _, .nil => .nil
  | _, _, .cons h r => .cons (s _ _ h) (r.same s)
theorem PairsIn.app {H : Hp} : ∀ {vs us : List V} {ps qs : List (V × V)}, PairsIn H vs ps → PairsIn H us qs → PairsIn H (vs ++ us) (ps ++ qs)
  | _, _, _, _, .nil, r => r
  | _, _, _, _, .cons h t, r => .cons h (t.app r)
theorem PairsIn.len {H : Hp} : ∀ {vs : List V} {ps : List (V × V)}, PairsIn H vs ps → vs.length = ps.length
  | _, _, .nil => rfl
  | _, _, .cons _ r => congrArg (· + 1) r.len
theorem PairsIn.at {H : Hp} : ∀ {vs : List V} {ps : List (V × V)}, PairsIn H vs ps → ∀ (i : Nat) x, vs[i]? = some x → ∃ a p, x = .ref a ∧ ps[i]? = some p ∧ H a = some (.tup [p.1, p.2])
  | _, _, .nil, i, x, h => by simp at h
  | _, _, .cons h _, 0, x, e => by
    cases e
    exact ⟨_, _, rfl, rfl, h⟩
  | _, _, .cons _ r, i + 1, x, e => by
    obtain ⟨a, p, e1, e2, e3⟩ := r.at i x (by simpa using e)
    exact ⟨a, p, e1, by simpa using e2, e3⟩
/-- [(a, b), ..]: what is made stands in some heap -/
def tPrs : List (TE × TE) → List (V × V) → TA
  | [], acc => fun _ H Q => ∀ vs, PairsIn H vs acc → Q vs H
  | (a, b) :: r, acc => fun σ H Q => a σ H fun x H1 => b σ H1 fun y H2 => Same H H2 ∧ ∀ H3, Same H2 H3 → tPrs r (acc ++ [(x, y)]) σ H3 Q
inductive PPr (X : Cx) : List Expr → List (TE × TE) → Prop
  | nil : PPr X [] []
  | cons {a b : Expr} {ta tb : TE} {k : Nat} {pos : Pos} {es : List Expr} {ts : List (TE × TE)} : PE X a ta → PE X b tb → PPr X es ts → starEach [a, b] X.env = (false, eval a X.env) :: starEach [b] X.env → starEach [b] X.env = (false, eval b X.env) :: starEach [] X.env →
      starEach (.Tuple [a, b] k pos :: es) X.env = (false, eval (.Tuple [a, b] k pos) X.env) :: starEach es X.env → PPr X (.Tuple [a, b] k pos :: es) ((ta, tb) :: ts)
section
variable {X : Cx}
theorem ppr_cons {a b : Expr} {ta tb : TE} {k : Nat} {pos : Pos} {es : List Expr} {ts : List (TE × TE)} (ha : PE X a ta) (hb : PE X b tb) (r : PPr X es ts) (h1 : starEach [a, b] X.env = (false, eval a X.env) :: starEach [b] X.env := by rfl) (h3 : starEach [b] X.env = (false, eval b X.env) :: starEach [] X.env := by rfl)
    (h2 : starEach (.Tuple [a, b] k pos :: es) X.env = (false, eval (.Tuple [a, b] k pos) X.env) :: starEach es X.env := by rfl) : PPr X (.Tuple [a, b] k pos :: es) ((ta, tb) :: ts) := .cons ha hb r h1 h3 h2
theorem prs_run {es : List Expr} {ts : List (TE × TE)} (h : PPr X es ts) : ∀ (acc : List (V × V)) (vs0 : List V) (pos : Pos) (pins : List (Addr × Obj)) (s : Shared) (σ : L2.St) (H : Hp) (Q : List V → Hp → Prop), Inv X pins σ H s → PairsIn H vs0 acc → tPrs ts acc σ H Q →
    wpAny (model X.prog X.w) X.A (spliced (backTo pos (starEach es X.env))) (AP X pins σ fun vs H' => Q (vs0 ++ vs) H') X.xe s := by
  induction h with
  | nil =>
    intro acc vs0 pos pins s σ H Q I p q
    have e : backTo pos (starEach [] X.env) = [] := by simp [starEach, backTo]
    rw [e]
    exact Calls.spliced_nil ⟨[], H, I, .nil, by show Q (vs0 ++ []) H; rw [List.append_nil]; exact q vs0 p⟩
  | @cons a b ta tb k tpos es ts ha hb r h1 h3 h2 ih =>
    intro acc vs0 pos pins s σ H Q I p q
    rw [h2]
    show wpAny _ _ (spliced ((false, eval (.Tuple [a, b] k tpos) X.env) :: backTo pos (starEach es X.env))) _ _ s
    have one : PA X [a, b] (tCons (upE ta) (tCons (upE tb) tNil)) := pa_cons (up ha) (pa_cons (up hb) pa_nil h3) h1
    refine Calls.spliced_cons (thn ((pe_tup (pos := tpos) (x1 := k) one).run pins s σ H (fun v H' => ∃ t x y, v = .ref t ∧ H' t = some (.tup [x, y]) ∧ Same H H' ∧ tPrs ts (acc ++ [(x, y)]) σ H' Q) I ?_) fun u s1 z => ?_)
    · refine ⟨_, fun x H1 z => ?_, q⟩
      refine ⟨_, fun y H2 z2 => ?_, z⟩
      obtain ⟨s2, z2⟩ := z2
      exact ⟨Nat.le_of_ble_eq_true rfl, fun t nt => ⟨t, x, y, rfl, upd_same, s2.trans (same_new nt), z2 _ (same_new nt)⟩⟩
    · obtain ⟨v, H', I', rv, t, x, y, rfl, ht, s', q'⟩ := z
      have nx := ih (acc ++ [(x, y)]) (vs0 ++ [.ref t]) pos pins s1 σ H' Q I' ((p.same s').app (.cons (p := (x, y)) ht .nil)) q'
      refine thn nx fun us s2 z => ?_
      obtain ⟨vs, H2, I2, r2, q2⟩ := z
      refine ⟨.ref t :: vs, H2, I2, .cons rv r2, ?_⟩
      rw [List.append_assoc] at q2
      exact q2
theorem pa_prs {es : List Expr} {ts : List (TE × TE)} (h : PPr X es ts) : PA X es (tPrs ts []) := ⟨fun pos pins s σ H Q I q => prs_run h [] [] pos pins s σ H Q I .nil q⟩
end
/-- f(e, ..), f an object of the class at C -/
def uCallO (C : Addr) (sp : Sp) (tf : TE) (t : TA) : TE := fun σ H Q => tf σ H fun y H1 => match y with
  | .ref a => t σ H1 fun vs H2 => (∃ dx fs, H2 a = some (.ins C dx fs)) ∧ sp (.ref a :: vs) H2 Q E0
  | _ => False
def upA (t : TA) : TA := fun σ H Q => ∃ Q' : List V → Hp → Prop, (∀ vs H', Q' vs H' → Q vs H') ∧ t σ H Q'
theorem upa {X : Cx} {es : List Expr} {t : TA} (h : PA X es t) : PA X es (upA t) := ⟨fun pos pins s σ H Q I q => by
  obtain ⟨Q', w, q⟩ := q
  exact thn (h.run pos pins s σ H Q' I q) fun v s1 ⟨x, H1, I1, r1, q1⟩ => ⟨x, H1, I1, r1, w _ _ q1⟩⟩
theorem pe_callOU {X : Cx} {k : Nat} {C g : Addr} {sp : Sp} {fe e : Expr} {es : List Expr} {tf : TE} {t : TA} {pos : Pos} (hf : PE X fe tf) (c : StX.CallO X.K C g) (F : FnR X.prog X.w X.K X.mg X.base CX0 k g sp) (hr : Room k X.A) (ha : PA X (e :: es) t)
    (ht : eval (.Call fe (e :: es) [] pos) X.env = (do callWith pos (← eval fe X.env) [] (backTo pos (starEach (e :: es) X.env)) (backToKw pos (keywordEach [] X.env))) := by rfl)
    (he : starEach (e :: es) X.env = (false, eval e X.env) :: starEach es X.env := by rfl) (hpl : (backTo pos (starEach es X.env)).any (·.1) = false := by rfl) : PE X (.Call fe (e :: es) [] pos) (uCallO C sp tf t) :=
  PEw (StX.pe_callO (E := E0) (up hf) c F hr pass0 (upa ha) ht he hpl) fun σ H Q q => by
    refine ⟨_, fun y H1 z => ?_, q⟩
    cases y with
    | ref a => exact ⟨a, rfl, _, fun vs H2 z2 => ⟨.inr z2.1, z2.2⟩, z⟩
    | _ => exact z.elim
/-! ### how much a repr takes -/
def ShD (d : PyData) (w k : Nat) : Prop := d.showable = true ∧ d.shown.length ≤ w ∧ d.depth ≤ k
theorem ShD.mono {d : PyData} {w k w' k' : Nat} (h : ShD d w k) (hw : w ≤ w') (hk : k ≤ k') : ShD d w' k' := ⟨h.1, Nat.le_trans h.2.1 hw, Nat.le_trans h.2.2 hk⟩
def ShL (ds : List PyData) (w k : Nat) : Prop := PyData.showableAll ds = true ∧ ((PyData.shownAll ds).map (·.length)).sum + 2 * (PyData.shownAll ds).length ≤ w ∧ PyData.depthAll ds ≤ k
theorem ShL.of {w k : Nat} : ∀ {ds : List PyData}, (∀ d ∈ ds, ShD d w k) → ShL ds (ds.length * (w + 2)) k
  | [], _ => ⟨rfl, Nat.zero_le _, Nat.zero_le _⟩
  | d :: ds, h => by
    obtain ⟨a1, a2, a3⟩ := h d (List.mem_cons_self ..)
    obtain ⟨b1, b2, b3⟩ := ShL.of fun x hx => h x (List.mem_cons_of_mem _ hx)
    refine ⟨?_, ?_, ?_⟩
    · show (d.showable && PyData.showableAll ds) = true
      rw [a1, b1]
      rfl
    · show ((d.shown :: PyData.shownAll ds).map (·.length)).sum + 2 * (d.shown :: PyData.shownAll ds).length ≤ _
      have e : (d :: ds).length * (w + 2) = ds.length * (w + 2) + (w + 2) := by rw [List.length_cons, Nat.succ_mul]
      rw [List.map_cons, List.sum_cons, List.length_cons, e]
      omega
    · show max d.depth (PyData.depthAll ds) ≤ _
      omega
theorem ShD.list {ds : List PyData} {w k : Nat} (h : ShL ds w k) : ShD (.list ds) (w + 3) (k + 1) := by
  refine ⟨h.1, ?_, Nat.succ_le_succ h.2.2⟩
  have := listText_len_le (PyData.shownAll ds)
  have := h.2.1
  show (listText (PyData.shownAll ds)).length ≤ _
  omega
theorem ShD.tuple {ds : List PyData} {w k : Nat} (h : ShL ds w k) : ShD (.tuple ds) (w + 3) (k + 1) := by
  refine ⟨h.1, ?_, Nat.succ_le_succ h.2.2⟩
  have := tupleText_len_le (PyData.shownAll ds)
  have := h.2.1
  show (tupleText (PyData.shownAll ds)).length ≤ _
  omega
theorem okc_lo {c : Nat} (h : okc c = true) : c < 16 ^ 8 := by
  unfold okc at h
  rw [Bool.or_eq_true] at h
  rcases h with h | h
  · have : c = 10 := by simpa using h
    omega
  · rw [Bool.and_eq_true, Bool.and_eq_true] at h
    have := Nat.le_of_ble_eq_true h.1.2
    omega
theorem ShD.str {n k : Nat} {z : Str} (h : TextOk n z) : ShD (.str z) (10 * n + 2) k := by
  refine ⟨rfl, ?_, Nat.zero_le _⟩
  have := StrLaws.reprText_len z fun c hc => okc_lo (h.2 c hc)
  have := h.1
  show (reprText z).length ≤ _
  omega
theorem ShD.bool (b : Bool) {k : Nat} : ShD (.bool b) 5 k := ⟨rfl, by cases b <;> decide, Nat.zero_le _⟩
theorem ShD.non {k : Nat} : ShD .none 4 k := ⟨rfl, by decide, Nat.zero_le _⟩
mutual
theorem Dr.dl {H : Hp} : ∀ {v : V} {d : PyData}, Dr H v d → DL H v d
  | _, _, .non => .non
  | _, _, .bl b => .bl b
  | _, _, .int i => .int i
  | _, _, .str x => .str x
  | _, _, .tup h a => .tup h (DrAll.dl a)
  | _, _, .dic h a b => .dic h (DrAll.dl a) (DrAll.dl b)
theorem DrAll.dl {H : Hp} : ∀ {vs : List V} {ds : List PyData}, DrAll H vs ds → DLs H vs ds
  | _, _, .nil => .nil
  | _, _, .cons a b => .cons (Dr.dl a) (DrAll.dl b)
end
theorem dls_of {H : Hp} : ∀ {vs : List V} {ds : List PyData}, vs.length = ds.length → (∀ (i : Nat) v, vs[i]? = some v → ∃ d, ds[i]? = some d ∧ Dr H v d) → DLs H vs ds
  | [], [], _, _ => .nil
  | [], _ :: _, h, _ => by cases h
  | _ :: _, [], h, _ => by cases h
  | v :: vs, d :: ds, h, f => by
    obtain ⟨d', e, r⟩ := f 0 v rfl
    cases e
    exact .cons r.dl (dls_of (by simpa using h) fun i u hu => f (i + 1) u (by simpa using hu))
def RowsIn (H : Hp) (L : Addr) (rs : List (V × V)) : Prop := ∃ vs, H L = some (.lst vs) ∧ PairsIn H vs rs
theorem rows_first {H H' : Hp} {L : Addr} {vs : List V} {rs : List (V × V)} (s : Same H H') (p : PairsIn H' vs rs) (n : H' L = none) : Same H (upd H' L (.lst vs)) ∧ RowsIn (upd H' L (.lst vs)) L rs := ⟨s.trans (same_new n), vs, upd_same, p.same (same_new n)⟩
theorem rows_cat {H H' : Hp} {L q : Addr} {vs : List V} {rs ps : List (V × V)} (R : RowsIn H L rs) (s : Same H H') (p : PairsIn H' vs ps) (nq : H' q = none) (hl : rs.length + ps.length ≤ 1000) :
    ∃ xs, upd H' q (.lst vs) L = some (.lst xs) ∧ upd H' q (.lst vs) q = some (.lst vs) ∧ xs.length + vs.length ≤ sizeLine ∧ ∀ N, upd H' q (.lst vs) N = none → Same H (upd (upd H' q (.lst vs)) N (.lst (xs ++ vs))) ∧ RowsIn (upd (upd H' q (.lst vs)) N (.lst (xs ++ vs))) N (rs ++ ps) := by
  obtain ⟨xs, hL, px⟩ := R
  have s2 : Same H (upd H' q (.lst vs)) := s.trans (same_new nq)
  have l1 := px.len
  have l2 := p.len
  refine ⟨xs, s2 _ _ hL, upd_same, size_le (by omega), fun N nN => ⟨s2.trans (same_new nN), _, upd_same, ((px.same s2).app (p.same (same_new nq))).same (same_new nN)⟩⟩
/-- a row: an expression's text and what is due -/
def RowOk (H : Hp) (env : V) (p : V × V) (d : PyData) : Prop := ∃ z e v, p.1 = .str z ∧ z.length ≤ 100000 ∧ parseE z.cps.toList = some e ∧ e.lev ≤ 8 ∧ e.wid ≤ 1000 ∧ evV H env e = some v ∧ Dr H v d ∧ Dr H p.2 d ∧ ShD d 2000 20
theorem RowOk.same {H H' : Hp} {env : V} {p : V × V} {d : PyData} (h : RowOk H env p d) (s : Same H H') : RowOk H' env p d := by
  obtain ⟨z, e, v, h1, h2, h3, h4, h5, h6, h7, h8, h9⟩ := h
  exact ⟨z, e, v, h1, h2, h3, h4, h5, evV_same s e v h6, Dr.stay (stay_of s) h7, Dr.stay (stay_of s) h8, h9⟩
inductive RowsOk (H : Hp) (env : V) : List (V × V) → List PyData → Prop
  | nil : RowsOk H env [] []
  | cons {p : V × V} {ps : List (V × V)} {d : PyData} {ds : List PyData} : RowOk H env p d → RowsOk H env ps ds → RowsOk H env (p :: ps) (d :: ds)
theorem RowsOk.len {H : Hp} {env : V} : ∀ {ps : List (V × V)} {ds : List PyData}, RowsOk H env ps ds → ps.length = ds.length
  | _, _, .nil => rfl
  | _, _, .cons _ r => congrArg (· + 1) r.len
theorem RowsOk.at {H : Hp} {env : V} : ∀ {ps : List (V × V)} {ds : List PyData}, RowsOk H env ps ds → ∀ (i : Nat) p, ps[i]? = some p → ∃ d, ds[i]? = some d ∧ RowOk H env p d
  | _, _, .nil, i, p, h => by simp at h
  | _, _, .cons h _, 0, p, e => by
    cases e
    exact ⟨_, rfl, h⟩
  | _, _, .cons _ r, i + 1, p, e => by
    obtain ⟨d, e1, e2⟩ := r.at i p (by simpa using e)
    exact ⟨d, by simpa using e1, e2⟩
theorem RowsOk.sh {H : Hp} {env : V} : ∀ {ps : List (V × V)} {ds : List PyData}, RowsOk H env ps ds → ∀ d ∈ ds, ShD d 2000 20
  | _, _, .nil, d, h => by cases h
  | _, _, .cons h r, d, m => by
    rcases List.mem_cons.mp m with e | e
    · rw [e]
      obtain ⟨_, _, _, _, _, _, _, _, _, _, _, h9⟩ := h
      exact h9
    · exact r.sh d e
theorem gm_tup2 {K : PySem.W.Frag} {i j : Nat} : ∀ x σ H (q q' : L2.St → Hp → Prop), (∀ σ2 H2, q σ2 H2 → q' σ2 H2) → gTup K 2 (uCons (gName i) (uCons (gName j) uNil)) x σ H q → gTup K 2 (uCons (gName i) (uCons (gName j) uNil)) x σ H q' := by
  intro x σ H q q' h z
  obtain ⟨a, xs, e1, e2, e3, t⟩ := z
  refine ⟨a, xs, e1, e2, e3, ?_⟩
  match xs, e3 with
  | [x1, x2], _ => exact h _ _ t
theorem ShD.int {i : Int} {k : Nat} (h : i.natAbs ≤ 10 ^ 30) : ShD (.int i) 242 k := by
  refine ⟨decide_eq_true (int_log h), ?_, Nat.zero_le _⟩
  show (Str.ofString (toString i)).length ≤ 242
  have e := int_text_length_le10 (a := i) (k := 31) (by decide) (Nat.lt_of_le_of_lt h (by decide +kernel))
  have e2 : (Str.ofString (toString i)).length = (toString i).length := PySem.ofString_length _
  rw [e2]
  omega
end Sk
/-! Sk: an exception in the hand of an except suite; defs that are called with it -/
namespace Sk
open PySem PySem.Spec PyProof.Rows L2
/-- the exception at a, of the class C, its dict d: the context holds it -/
def Held (X : Cx) (a C : Addr) (d : Option Addr) : Prop := ∃ (oe : Obj) (vs : Array Value), (a, oe) ∈ X.pn ∧ Zc (.ref C) d oe ∧ oe.data = .fields vs
/-- its dict stands in the heap -/
def XdAt (d : Option Addr) (H : Hp) : Prop := ∃ p fs, d = some p ∧ H p = some (.xd fs)
theorem XdAt.up {d : Option Addr} {H : Hp} {p : Addr} {o : HO} (h : XdAt d H) (hp : H p = none) : XdAt d (upd H p o) := by
  obtain ⟨q, fs, e, h⟩ := h
  exact ⟨q, fs, e, by rw [upd_ne (ne_of_none h hp)]; exact h⟩
section
variable {X : Cx} {a C : Addr} {d : Option Addr}
theorem Held.inst (Z : Held X a C d) {pins : List (Addr × Obj)} {σ : L2.St} {H : Hp} {s : Shared} (I : Inv X pins σ H s) (h : XdAt d H) : ∃ oe od, PySem.W.InstAt s.heap a oe C (some od) := by
  obtain ⟨oe, vs, hp, hz, hd⟩ := Z
  obtain ⟨q, fs, e, h⟩ := h
  obtain ⟨ha, _⟩ := I.pin (a, oe) (List.mem_append_left _ hp)
  have hx : ObjOk X.prog X.w H s.heap q (.xd fs) := I.hok q _ h
  obtain ⟨mA, hns, hr⟩ := hx
  obtain ⟨od, ho, hl⟩ := lookIn_ns hns
  refine ⟨oe, od, ha, hz.1, by unfold PySem.W.notCls; rw [hd] <;> rfl, ?_⟩
  rw [hz.2, e]
  exact ho
theorem excKit {K : Fg} (E : L2.ExcC K C) {ox : Obj} {od : Option Obj} : PySem.W.KitX K (.ref a) (.ref C) (fun h => PySem.W.InstAt h a ox C od) :=
  PySem.W.kitx_exc (by obtain ⟨cd, hc, _⟩ := PySem.W.any_some E.hd; rw [hc]; rfl) E.hg E.hk E.hs E.ha E.hn E.ht E.hm
/-- is the exception of the class v -/
def kitV (K : Fg) (C : Addr) (v : V) : Option Bool := match v with
  | .ref p => PySem.W.kitOne K (.ref C) (.ref p)
  | .ty n => PySem.W.kitOne K (.ref C) (.type n)
  | _ => none
/-- of one of the classes vs -/
def kitVs (K : Fg) (C : Addr) : List V → Option Bool
  | [] => some false
  | v :: r => match kitV K C v with
    | some true => some true
    | some false => kitVs K C r
    | none => none
/-- isinstance(e, c) -/
def uIs1 (a : Addr) (d : Option Addr) (c : V) (ok : Bool) (te tc : TE) : TE := fun σ H Q => te σ H fun x H1 => tc σ H1 fun y H2 => x = .ref a ∧ y = c ∧ XdAt d H2 ∧ Q (.bl ok) H2
theorem is1 {c : V} {ok : Bool} (Z : Held X a C d) (E : L2.ExcC X.K C) (hk : kitV X.K C c = some ok) {e f : Expr} {te tc : TE} {p pos : Pos} (hg : Gl X "isinstance") (hm : X.mg "isinstance" = none) (he : PE X e te) (hf : PE X f tc)
    (h1 : starEach (e :: [f]) X.env = (false, eval e X.env) :: starEach [f] X.env := by rfl) (h2 : (backTo pos (starEach [f] X.env)).any (·.1) = false := by rfl) (h3 : starEach (f :: []) X.env = (false, eval f X.env) :: starEach [] X.env := by rfl) : PE X (.Call (.Name "isinstance" p) [e, f] [] pos) (uIs1 a d c ok te tc) := by
  have cr : CallR X (.builtin "isinstance") (fun xs H Q => xs = [.ref a, c] ∧ XdAt d H ∧ Q (.bl ok) H) := by
    intro pins s σ H xs us Q I r h
    obtain ⟨rfl, hx, q⟩ := h
    obtain ⟨oe, od, J⟩ := Z.inst I hx
    cases r with
    | cons rx rr =>
      cases rr with
      | cons rt rr =>
        cases rr
        cases rx
        have fin : ∀ {cv : Value}, PySem.W.kitOne X.K (.ref C) cv = some ok → wpAny (model X.prog X.w) X.A (call (.builtin "isinstance") [.ref a, cv]) (EP X pins σ Q) X.xe s := fun {cv} e =>
          PySem.W.kia_one (excKit E) I.kIn J e (fun z => nomatch z) fun tk => ⟨.bl ok, H, I.kept (t' := tk) fun _ _ z => z, rfl, q⟩
        cases c with
        | ref p =>
          cases rt
          exact fin hk
        | ty n =>
          cases rt
          exact fin hk
        | _ => cases hk
  exact PEw (pe_callB cr hg hm (by decide +kernel) (pa_cons (up he) (pa_cons (up hf) pa_nil (hs := h3)) (hs := h1)) (by decide) (by decide) h1 h2) fun σ H Q q =>
    ⟨_, fun x H1 z => ⟨_, fun y H2 z2 => ⟨by rw [z2.1, z2.2.1], z2.2.2⟩, z⟩, q⟩
theorem kitVs_any {K : Fg} : ∀ {vs : List V} {us : List Value} {ok : Bool}, Vals vs us → kitVs K C vs = some ok → PySem.W.kitAny K (.ref C) us = some ok
  | [], _, ok, r, h => by
    cases r
    exact h
  | v :: vs, _, ok, r, h => by
    cases r with
    | @cons _ u _ us r rs =>
      have e : ∀ b, kitV K C v = some b → PySem.W.kitOne K (.ref C) u = some b := fun b hb => by
        cases v with
        | ref p =>
          cases r
          exact hb
        | ty n =>
          cases r
          exact hb
        | _ => cases hb
      unfold kitVs at h
      unfold PySem.W.kitAny
      split at h
      · rename_i q
        rw [e _ q]
        exact h
      · rename_i q
        rw [e _ q]
        exact kitVs_any rs h
      · cases h
/-- isinstance(e, (A, B, ..)) -/
def uIsT (a : Addr) (d : Option Addr) (cs : List V) (ok : Bool) (te tc : TE) : TE := fun σ H Q => te σ H fun x H1 => tc σ H1 fun y H2 => x = .ref a ∧ (∃ q, y = .ref q ∧ H2 q = some (.tup cs)) ∧ XdAt d H2 ∧ Q (.bl ok) H2
theorem isT {cs : List V} {ok : Bool} (Z : Held X a C d) (E : L2.ExcC X.K C) (hk : kitVs X.K C cs = some ok) {e f : Expr} {te tc : TE} {p pos : Pos} (hg : Gl X "isinstance") (hm : X.mg "isinstance" = none) (he : PE X e te) (hf : PE X f tc)
    (h1 : starEach (e :: [f]) X.env = (false, eval e X.env) :: starEach [f] X.env := by rfl) (h2 : (backTo pos (starEach [f] X.env)).any (·.1) = false := by rfl) (h3 : starEach (f :: []) X.env = (false, eval f X.env) :: starEach [] X.env := by rfl) : PE X (.Call (.Name "isinstance" p) [e, f] [] pos) (uIsT a d cs ok te tc) := by
  have cr : CallR X (.builtin "isinstance") (fun xs H Q => ∃ q, xs = [.ref a, .ref q] ∧ H q = some (.tup cs) ∧ XdAt d H ∧ Q (.bl ok) H) := by
    intro pins s σ H xs us Q I r h
    obtain ⟨q, rfl, hq, hx, z⟩ := h
    obtain ⟨oe, od, J⟩ := Z.inst I hx
    cases r with
    | cons rx rr =>
      cases rr with
      | cons rt rr =>
        cases rr
        cases rx
        cases rt
        obtain ⟨its, rv, ⟨⟨oc, odd, odt, osl⟩, ho, hc, m, hd⟩, _⟩ := I.tuple (sqT_of hq)
        dsimp only at hc hd
        subst hc hd
        exact PySem.W.kia_tup (excKit E) I.kIn J ho (kitVs_any rv hk) (fun z => nomatch z) fun tk => ⟨.bl ok, H, I.kept (t' := tk) fun _ _ z => z, rfl, z⟩
  exact PEw (pe_callB cr hg hm (by decide +kernel) (pa_cons (up he) (pa_cons (up hf) pa_nil (hs := h3)) (hs := h1)) (by decide) (by decide) h1 h2) fun σ H Q q =>
    ⟨_, fun x H1 z => ⟨_, fun y H2 z2 => by obtain ⟨e1, ⟨q, e2, h⟩, h3⟩ := z2; exact ⟨q, by rw [e1, e2], h, h3⟩, z⟩, q⟩
/-- e.f -/
def uXf (a : Addr) (d : Option Addr) (f : Str) (te : TE) : TE := fun σ H Q => te σ H fun x H1 => x = .ref a ∧ ∃ (p : Addr) (fs : List (Str × V)) (v : V), d = some p ∧ H1 p = some (.xd fs) ∧ fs.lookup f = some v ∧ Q v H1
theorem xfld (Z : Held X a C d) (T : XfC X.K C) {f : Str} (hno : PySem.W.findIn X.K (.ref C) f = some none) {e : Expr} {te : TE} {pos : Pos} (he : PE X e te) (hb : attributeBase e f X.env (eval e X.env) = eval e X.env := by rfl) : PE X (.Attribute e f pos) (uXf a d f te) := by
  refine ⟨fun pins s σ H Q I h => attr_of hb (thn (he.run pins s σ H _ I h) fun u s1 hh => ?_)⟩
  obtain ⟨x, H1, I1, rx, rfl, p, fs, v, ed, ea, l, q⟩ := hh
  obtain rfl : u = Value.ref a := rx
  obtain ⟨oe, vs, hp, hz, hd⟩ := Z
  obtain ⟨ha, _⟩ := I1.pin (a, oe) (List.mem_append_left _ hp)
  have hx : ObjOk X.prog X.w H1 s1.heap p (.xd fs) := I1.hok p _ ea
  obtain ⟨mA, hns, hr⟩ := hx
  obtain ⟨od, ho, hl⟩ := lookIn_ns hns
  obtain ⟨u, hu, ru⟩ := RelO.some_of (v := v) (o := mA f) (by rw [← l]; exact hr f)
  have J : PySem.W.InstAt s1.heap a oe C (some od) := ⟨ha, hz.1, by unfold PySem.W.notCls; rw [hd] <;> rfl, by rw [hz.2, ed]; exact ho⟩
  exact HandSPX.exc_get I1.kIn J T.ga T.gg T.exC (PySem.W.findObj_own T.hdC hno rfl (by rw [hl, hu])) (handed_of ru) ⟨v, H1, I1.tok _, ru, q⟩
end
/-! ### defs called with the exception that is handled -/
abbrev SpE := Addr → Addr → Option Addr → Sp
structure FnE (P : Program) (w : World) (K : Fg) (mg : Str → Option Value) (base : Heap) (k : Nat) (f : Addr) (fd : FuncData) (ps : List Str) (sp : SpE) : Prop where
  len : ∀ a C d vs H Q E, sp a C d vs H Q E → vs.length = ps.length
  run : ∀ (A : Around) (outer : List Env) (s : Shared) (H : Hp) (args : Args) (us : List Value) (vs : List V) (Q : VK) (E : XK) (p : Addr × Obj) (C : Addr) (d : Option Addr), L2H.RoomH k A → L2H.PinOk outer H s p → Zc (.ref C) d p.2 → (∃ vs, p.2.data = .fields vs) →
    Env0 P w K mg base A outer s H → BindsTo s fd args (ps.zip us) → Vals vs us → sp p.1 C d vs H Q E → codeAny (model P w) A (.call (.ref f) args) (CR CX0 outer P w H s Q E) s
section
variable {P : Program} {w : World} {K : Fg} {mg : Str → Option Value} {base : Heap} {x qual : Str} {params : Arguments} {body : List Stmt} {scope : Scope} {dvs : List V} {kws : List (Str × V)} {f : Addr} {fd : FuncData}
theorem fnE_of {N ps : List Str} {k : Nat} {sp : SpE} (F : FunD K x qual params body scope dvs kws f fd) (S : FnScope N ps scope) (len : ∀ a C d vs H Q E, sp a C d vs H Q E → vs.length = ps.length)
    (hb : ∀ (cdv : Value) (A : Around) (outer : List Env) (s : Shared) (H : Hp) (vs : List V) (Q : VK) (E : XK) (p : Addr × Obj) (C : Addr) (d : Option Addr), L2H.RoomH k (A.deeper (envOfC qual scope s.heap.objs.size f cdv)) →
      Held (L2H.cxH CX0 P w K mg base N qual scope f cdv A outer s H E p).nox p.1 C d → sp p.1 C d vs H Q E →
      ∃ t, PSs (L2H.cxH CX0 P w K mg base N qual scope f cdv A outer s H E p).nox body t ∧ t { nx := fun _ H' => Q .non H', rt := Q } (start N vs) H) : FnE P w K mg base (k + 1) f fd ps sp := by
  obtain ⟨oc, od, dV, kV, doc, pm, an, cdv, ct, osl, efd, look, code, _, _⟩ := F.ex
  subst efd
  refine ⟨len, fun A outer s H args us vs Q E p C d room pin hz hf env bind rel want => ?_⟩
  have size := len _ _ _ _ _ _ _ want
  have inK : K.In s.heap := env.mod.kin.keeps fun b o e => (env.bs b o e).1
  have calm : s.heap.NoLimit := env.mod.nolimit.keeps fun b o e => (env.bs b o e).1
  have kinds : ∀ y ∈ ps.zip us, scope.names.lookup y.1 = some .local ∨ (scope.names.lookup y.1 = some .cell ∧ ((cellsFrom (s.heap.objs.size + 1) scope.names []).lookup y.1).isSome = true) := by
    rintro ⟨n, v⟩ hy
    cases S.par n (List.of_mem_zip hy).1 with
    | inl q => exact .inl q
    | inr q => exact .inr ⟨q, PySem.W.cellsFrom_some _ _ _ (.inl q)⟩
  refine codeAny_call_function room.depth (inK _ _ look) rfl S.co S.gen rfl (PySem.W.codeRec_of inK code) (bind _ _ _ _ ?_)
  refine wpAny_newFunctionEnv_cells S.kind kinds fun e1 he1 s1 inC => ?_
  subst he1
  obtain ⟨pv, hpv⟩ := hf
  obtain ⟨t, der, red⟩ := hb cdv A outer s H vs Q E p C d (room.deeper _) ⟨p.2, pv, List.mem_cons_self, hz, hpv⟩ want
  have inv : Inv (L2H.cxH CX0 P w K mg base N qual scope f cdv A outer s H E p) [] (start N vs) H s1 := L2H.inv_startH S pin env size rel inC
  refine ⟨calm.keeps inC.toInCall.keep, codeAny_func (wpAny_mono (der.run [] s1 _ H _ (inv_nox inv) red) (fun fl s2 h2 => ?_) fun _ _ z => z.elim)⟩
  have back : ∀ {σ2 : L2.St} {H2 : Hp} {v : V} {u : Value}, Inv (L2H.cxH CX0 P w K mg base N qual scope f cdv A outer s H E p).nox [] σ2 H2 s2 → RelV v u → Q v H2 → CE outer P w H s Q u s2 := fun J r q => ⟨_, _, J.os, J.bare, J.base, J.hok, r, q⟩
  cases fl with
  | ret u => obtain ⟨v, σ2, H2, J, r, q⟩ := h2; exact back J r q
  | next => obtain ⟨σ2, H2, J, q⟩ := h2; exact back (u := Value.none) (v := V.non) J rfl q
  | brk => obtain ⟨_, _, _, q⟩ := h2; exact q.elim
  | cont => obtain ⟨_, _, _, q⟩ := h2; exact q.elim
end
section
variable {X : Cx} {a C : Addr} {d : Option Addr}
/-- f(e, ..) with the exception that is handled -/
theorem pecallE {k : Nat} {f : Addr} {fd : FuncData} {ps : List Str} {sp : SpE} {y : Str} {e : Expr} {es : List Expr} {t : TA} {p pos : Pos} (F : FnE X.prog X.w X.K X.mg X.base k f fd ps sp) (Z : Held X a C d) (hr : L2H.RoomH k X.A) (hg : Gl X y) (hm : X.mg y = some (.ref f)) (hk : PySem.W.keepIn X.K (.ref f) = true)
    (hb : Binds X.K fd ps []) (ha : PA X (e :: es) t) (hdb : (y == ("__debug__" : Str)) = false := by decide) (he : starEach (e :: es) X.env = (false, eval e X.env) :: starEach es X.env := by rfl) (hpl : (backTo pos (starEach es X.env)).any (·.1) = false := by rfl) :
    PE X (.Call (.Name y p) (e :: es) [] pos) (fun σ H Q => t σ H fun vs H1 => sp a C d vs H1 Q E0) := by
  refine ⟨fun pins s σ H Q I h => ?_⟩
  refine wpAny_Call_Name_kw (ld_glob I hg hm ?_ hdb)
  refine PySem.W.callWith_K (h₀ := X.base) I.ok.mod.kin hk (thn (ha.run pos pins s σ H _ I h) fun us s1 z => ?_) he hpl
  obtain ⟨vs, H1, I1, r, q⟩ := z
  refine ⟨I1.kIn, ?_⟩
  have r2 : Vals vs (us ++ []) := by rw [List.append_nil]; exact r
  have size : (us ++ []).length = ps.length := by rw [← r2.length]; exact F.len _ _ _ _ _ _ _ q
  obtain ⟨oe, pv, hp, hz, hd⟩ := Z
  have P1 := I1.pin (a, oe) (List.mem_append_left _ hp)
  have pin : L2H.PinOk X.stack H1 s1 (a, oe) := ⟨P1.1, P1.2.1, fun hm => (List.mem_cons.mp (I1.stkSub a hm)).elim P1.2.2.1 P1.2.2.2.1, P1.2.2.2.2⟩
  refine wpAny_call (codeAny_mono (F.run X.A X.stack s1 H1 ⟨us, []⟩ (us ++ []) vs Q E0 (a, oe) C d hr pin hz ⟨pv, hd⟩ I1.env0 (hb s1 us I1.kIn size) r2 q) fun r s2 hq => ?_)
  cases r with
  | error e => exact hq.elim
  | ok fl =>
    cases fl with
    | ret u => exact I1.after hq
    | next => exact hq.elim
    | brk => exact hq.elim
    | cont => exact hq.elim
end
end Sk
/-! Sk: try: body, except (A, B, C) as e: suite -/
namespace Sk
open PySem PySem.Spec PyProof.Rows L2
theorem flying_on {base h h' : Heap} {l : List Env} {e : Addr} {Z : Obj → Prop} (x : HandSPX.FlyingZ base l e Z h) (k : ∀ b o, h.get? b = some o → h'.get? b = some o) : HandSPX.FlyingZ base l e Z h' := by
  obtain ⟨f1, f2, f3, oe, vs, T, oT, ts, he, hz, hd, h1, hn, hne, hT, hdT, h3⟩ := x
  exact ⟨fun b o q => k b o (f1 b o q), f2, f3.of_keeps fun b o q _ => ⟨o, k b o q, rfl⟩, oe, vs, T, oT, ts, k _ _ he, hz, hd, h1, hn, hne, k _ _ hT, hdT, h3⟩
/-- what the clause wishes of an exception of the body -/
def wAs3 (K : Fg) (n : Nat) (cs : List Value) (i : Nat) (ts : Addr → Value → Option Addr → TS) (Wout : WX) (D : Ends) : WX := fun cls d σ H =>
  ∃ b, PySem.W.exmAny K cls cs = some b ∧ (b = true → σ.length = n → ∀ a, H a = none → ts a cls d { nx := fun σ' H' => D.nx (σ'.set i none) H', rt := D.rt, bk := fun σ' H' => D.bk (σ'.set i none) H', ct := fun σ' H' => D.ct (σ'.set i none) H' } (σ.set i (some (.ref a))) H) ∧
    (b = false → Wout cls d σ H)
section
variable {X : Cx} {x1 x2 x3 n : Str} {c1 c2 c3 : Value} {i tn : Nat} {body suite : List Stmt} {b₀ : Stmt} {p1 p2 p3 np pos pos' : Pos} {tb : WX → TS} {ts : Addr → Value → Option Addr → TS} {Wout : WX}
theorem try3 (hs : X.stack = X.env :: X.outer) (hf : X.env.frame = some X.env.locals) (hN : X.N.Nodup) (hi : X.N[i]? = some n) (hln : X.env.kindOf n = some .local) (n1 : Names X x1 c1) (n2 : Names X x2 c2) (n3 : Names X x3 c3) (tk : Takes X Wout)
    (hb : ∀ (W : WX) (pn : List (Addr × Obj)) (xe : Value → Shared → Prop), Takes (X.tr pn xe) W → PassesOwn (model X.prog X.w) X.A X.env xe → PSs (X.tr pn xe) body (tb W))
    (hsu : ∀ (a : Addr) (oe : Obj) (cls : Value) (d : Option Addr) (pn : List (Addr × Obj)), Zc cls d oe → (∃ vs, oe.data = .fields vs) → PSs (X.suite a ((a, oe) :: pn)) (b₀ :: suite) (ts a cls d)) :
    PS X (.Try body [.ExceptHandler (some (.Tuple [.Name x1 p1, .Name x2 p2, .Name x3 p3] tn np)) (some n) (b₀ :: suite) pos'] [] [] pos) (fun D σ H => tb (wAs3 X.K X.N.length [c1, c2, c3] i ts Wout D) D σ H) := by
  refine ⟨fun pins s σ H D I h => ?_⟩
  have ok := I.ok
  have hfr : X.A.frames = some (X.env :: X.outer) := by rw [ok.frames, hs]
  have hloc : Loc X.env.scope n := .inl hln
  refine wpAny_Try_except ?_
  refine wpAny_mono ((hb (wAs3 X.K X.N.length [c1, c2, c3] i ts Wout D) (X.pn ++ pins) (fun e s₁ => wpAny (model X.prog X.w) X.A (noteFrame e X.env) (fun _ s₂ => wpAny (model X.prog X.w) X.A (setFlight e none) (fun _ s₃ =>
    wpAny (model X.prog X.w) X.A (handleBy e X.env [.ExceptHandler (some (.Tuple [.Name x1 p1, .Name x2 p2, .Name x3 p3] tn np)) (some n) (b₀ :: suite) pos']) (SP X pins D) X.xe s₃) X.xe s₂) X.xe s₁) (fun u s' xx => ?_) PassesOwn.looking).run [] s σ H D (I.toTry _) h) (fun f s1 hsp => ?_) (fun e s1 he => he)
  · -- caught
    obtain ⟨a, B, sI, pins', σ', H', cls, d, rfl, J', nb, up, sky, na, os, ag, b, hb1, hyes, hno⟩ := xx
    have J : Inv X pins σ' H' sI := J'.ofTry ok
    have sky' : Sky B (X.env :: X.outer) a (Zc cls d) X.env.locals s'.heap := by rw [← hs]; exact sky
    show wpAny (model X.prog X.w) X.A (noteFrame (.ref a) X.env) _ _ _
    refine Sky.land Zc.steady hfr hf sky' fun h2 fl2 up2 => ?_
    have J2 : Inv X pins σ' H' { s' with heap := h2 } := J.landed nb fl2.1 (up.trans up2) os ag
    obtain ⟨oe2, vs2, he2, hz2, hd2⟩ := fl2.there
    have notFr : ∀ {h : Heap} {o : Obj} {vs : Array Value}, h.FunFrames B (X.env :: X.outer) → h.get? a = some o → o.data = .fields vs → a ∉ frs (X.env :: X.outer) := fun {h o vs} ff e dd hm => by
      obtain ⟨_, o', e', hnf⟩ := ff.mem hm
      rw [e] at e'; cases e'
      exact hnf _ dd
    have nfr := notFr fl2.2.2.1 he2 hd2
    have nL : a ≠ X.env.locals := fun z => nfr (List.mem_filterMap.mpr ⟨X.env, List.mem_cons_self, by rw [hf, z]⟩)
    have nF : a ∉ X.fs := fun hm => by
      obtain ⟨e, he, q⟩ := List.mem_filterMap.mp hm
      exact nfr (List.mem_filterMap.mpr ⟨e, List.mem_cons_of_mem _ he, q⟩)
    have S2 := J2.suite he2 hd2 na nL nF
    refine wpAny_handleBy_cons (codeAny_handlers_test ?_) (by intro q; cases q)
    have test : ∀ {x : Str} {c : Value} {p : Pos} {Q : Value → Shared → Prop} {E : Value → Shared → Prop}, Names X x c → Q c { s' with heap := h2 } → wpAny (model X.prog X.w) (X.A.mark (some (.ref a))) (eval (.Name x p) X.env) Q E { s' with heap := h2 } := fun {x c p Q E} hc q => by
      obtain ⟨hg, hdbg, hm | ⟨hm, hv, hnn⟩⟩ := hc
      · exact ld_glob (X := X.suite a ((a, oe2) :: (X.pn ++ pins))) S2 hg hm q hdbg
      · exact ld_blt (X := X.suite a ((a, oe2) :: (X.pn ++ pins))) S2 hg hm hv q hnn hdbg
    refine wpAny_Tuple ?_
    refine wpAny_items_cons (test n1 ?_)
    refine wpAny_items_cons (test n2 ?_)
    refine wpAny_items_cons (test n3 ?_)
    refine wpAny_items_nil ⟨by size_fits, ?_⟩
    have kp : ∀ q o, h2.get? q = some o → (h2.push { cls := .type "tuple", data := .seq [c1, c2, c3].toArray }).get? q = some o := fun _ _ z => Heap.get?_push_of_some _ z
    have fl3 := flying_on fl2 kp
    have up3 : h2.UpToSlots (h2.push { cls := .type "tuple", data := .seq [c1, c2, c3].toArray }) := Heap.UpToSlots.of_keeps kp
    have hp3 := Heap.get?_push_size h2 (o := ({ cls := .type "tuple", data := .seq [c1, c2, c3].toArray } : Obj)) rfl
    have J3 : Inv X pins σ' H' { s' with heap := h2.push { cls := .type "tuple", data := .seq [c1, c2, c3].toArray } } := J.landed nb fl3.1 ((up.trans up2).trans up3) os ag
    have LT : PySem.W.Looks (model X.prog X.w) (h2.push { cls := .type "tuple", data := .seq [c1, c2, c3].toArray }) (typeOf (.ref a)) cls := fun A Q E s k q => wpAny_typeOf_ref (k _ _ (kp _ _ he2)) (by rw [hz2.1]; exact q)
    refine (PySem.W.exm_tup3 (M := model X.prog X.w) J3.kIn LT hp3 hb1).here ?_
    cases b with
    | true =>
      refine codeAny_handlers_suite_as ?_
      refine HandSPX.lands_againZ fl3 fun h4 fl4 up4 => ?_
      have J4 : Inv X pins σ' H' { s' with heap := h4 } := J.landed nb fl4.1 (((up.trans up2).trans up3).trans up4) os ag
      obtain ⟨oe4, vs4, he4, hz4, hd4⟩ := fl4.there
      have S4 := J4.suite he4 hd4 na nL nF
      refine store_ok (X := X.suite a ((a, oe4) :: (X.pn ++ pins))) (v := .ref a) S4 hN hi hloc rfl (fun s5 S5 => ?_) (.inr hln)
      refine wpAny_mono ((hsu a oe4 cls d (X.pn ++ pins) hz4 ⟨_, hd4⟩).run [] s5 _ H' _ S5 (hyes rfl J'.len a na)) (fun f s6 hsp => ?_) (fun _ _ z => False.elim z)
      have end_ : ∀ {σ6 : L2.St} {H6 : Hp} {Q : Shared → Prop}, Inv (X.suite a ((a, oe4) :: (X.pn ++ pins))) [] σ6 H6 s6 → (∀ s7, Inv X pins (σ6.set i none) H6 s7 → Q s7) →
          wpAny (model X.prog X.w) X.A (do bindName X.env n .none; unbindBehindTheSuite X.env n pos') (fun _ s7 => Q s7) X.xe s6 := fun {σ6 H6 Q} S6 hq => gone_ok (S6.unsuite ok) hN hi hln hq
      cases f with
      | next =>
        obtain ⟨σ6, H6, S6, q6⟩ := hsp
        exact end_ S6 fun s7 J7 => ⟨_, _, J7, q6⟩
      | brk =>
        obtain ⟨σ6, H6, S6, q6⟩ := hsp
        exact end_ S6 fun s7 J7 => ⟨_, _, J7, q6⟩
      | cont =>
        obtain ⟨σ6, H6, S6, q6⟩ := hsp
        exact end_ S6 fun s7 J7 => ⟨_, _, J7, q6⟩
      | ret u =>
        obtain ⟨v6, σ6, H6, S6, r6, q6⟩ := hsp
        exact end_ S6 fun s7 J7 => ⟨_, _, _, J7, r6, q6⟩
    | false =>
      show wpAny _ X.A (handleBy (.ref a) X.env []) _ _ _
      refine wpAny_handleBy_nil ?_
      obtain ⟨k1, k2, k3, oe, vs, T, oT, ts', he, hz, hd, h1, hr⟩ := id fl3
      unfold PySem.passOn
      refine wpAny_bind (wpAny_field he hd h1 ?_)
      rw [if_neg (show ¬ ((Value.ref T == Value.none) = true) from by simp)]
      have fin : wpAny (model X.prog X.w) X.A (setFlight (.ref a) X.env.frame) (fun _ s4 => wpAny (model X.prog X.w) X.A (throw (.ref a) : Sem Flow) (SP X pins D) X.xe s4) X.xe { s' with heap := h2.push { cls := .type "tuple", data := .seq [c1, c2, c3].toArray } } := by
        rw [hf]
        refine HandSPX.setFlight_upZ fl3 fun h4 hh4 up4 => wpAny_throw (tk _ _ ?_)
        exact ⟨a, B, sI, pins, σ', H', cls, d, rfl, J, nb, ((up.trans up2).trans up3).trans up4, .inr (.inr (by rw [hs]; exact hh4)), na, os, ag, hno rfl⟩
      first
        | exact wpAny_bind (wpAny_pure (wpAny_bind fin))
        | exact wpAny_bind fin
  · cases f with
    | next =>
      obtain ⟨σ', H', J', q⟩ := hsp
      exact wpAny_execs_nil ⟨σ', H', J'.ofTry ok, q⟩
    | brk =>
      obtain ⟨σ', H', J', q⟩ := hsp
      exact ⟨σ', H', J'.ofTry ok, q⟩
    | cont =>
      obtain ⟨σ', H', J', q⟩ := hsp
      exact ⟨σ', H', J'.ofTry ok, q⟩
    | ret u =>
      obtain ⟨v, σ', H', J', r, q⟩ := hsp
      exact ⟨v, σ', H', J'.ofTry ok, r, q⟩
end
end Sk
/-! Sk: list.count, list.index; the kinds of errors; defs that raise -/
namespace Sk
open PySem PySem.Spec PyProof.Rows L2
section
variable {X : Cx}
theorem count_rel {y : V} : ∀ {ys : List V} {us : List Value}, Vals ys us → ys.all flatV = true → us.countP (eqU y) = ys.countP fun z => eqV z y
  | _, _, .nil, _ => rfl
  | z :: ys, u :: us, .cons r t, f => by
    rw [List.all_cons, Bool.and_eq_true] at f
    rw [List.countP_cons, List.countP_cons, count_rel t f.2, eqU_of r f.1]
theorem mt_countV : MtR X "list.count" (fun x xs H Q => ∃ (a : Addr) (ys : List V) (y : V), x = V.ref a ∧ xs = [y] ∧ SqL X.K H a ys ∧ flatV y = true ∧ ys.all flatV = true ∧ Q (.int ((ys.countP fun z => eqV z y : Nat) : Int)) H) := by
  intro pins s σ H x xs v us Q I rx rxs h
  obtain ⟨p, ys, y, rfl, rfl, hs, fy, fys, q⟩ := h
  cases rx
  obtain ⟨u, rfl, ru⟩ := rxs.one
  obtain ⟨its, rv, ⟨⟨cls, dd, data, sl⟩, n, ho, hc, hdn, hd⟩, hlen⟩ := I.list hs
  simp only at hc hd
  subst hc hd
  refine call_meets PySem.F.slot_list_count ⟨_, ho, rfl⟩ PySem.F.entry_list_count (PySem.F.args_list_count_2 _ _)
    (SeqAt.list_countAt p its.toArray n dd sl u (eqU y)) ⟨ho, fun u' hu' => mem_eqAt ru fy rv fys u' (by simpa using hu'), ?_⟩
  have ec : its.toArray.toList.countP (eqU y) = ys.countP fun z => eqV z y := count_rel rv fys
  refine ⟨.int ((ys.countP fun z => eqV z y : Nat) : Int), H, I.tok _, ⟨s.toks, ?_⟩, q⟩
  show Value.int ((its.toArray.toList.countP (eqU y) : Nat) : Int) s.toks = _
  rw [ec]
/-- xs.count(y), xs.index(y) of flat things -/
def uCnt (K : Fg) (to te : TE) : TE := fun σ H Q => to σ H fun x H1 => match x with
  | .ref p => (∃ xs, SqL K H1 p xs) ∧ te σ H1 fun y H2 => ∃ ys, SqL K H2 p ys ∧ flatV y = true ∧ ys.all flatV = true ∧ Q (.int ((ys.countP fun z => eqV z y : Nat) : Int)) H2
  | _ => False
def uIdx (K : Fg) (to te : TE) : TE := fun σ H Q => to σ H fun x H1 => match x with
  | .ref p => (∃ xs, SqL K H1 p xs) ∧ te σ H1 fun y H2 => ∃ ys j z, SqL K H2 p ys ∧ flatV y = true ∧ ys.all flatV = true ∧ ys[j]? = some z ∧ eqV z y = true ∧ (∀ (m : Nat) (z' : V), m < j → ys[m]? = some z' → eqV z' y = false) ∧ Q (.int ((j : Nat) : Int)) H2
  | _ => False
theorem kcnt (K : Fg) {o e : Expr} {to te : TE} {apos cpos : Pos} (ho : PE X o to) (he : PE X e te) (hK : X.K = K := by rfl) (hbase : attributeBase o "count" X.env (eval o X.env) = eval o X.env := by rfl)
    (hfew : ((backTo cpos (starEach [e] X.env)).all (fun x => !x.1) && (backToKw cpos (keywordEach [] X.env)).all (fun x => x.1.isSome) && decide ([e].length + ([] : List Keyword).length + (if ([] : List Keyword).isEmpty then 0 else 1) < 30)) = true := by rfl)
    (hline : (apos.endLine == cpos.line) = true := by rfl) (hs : starEach [e] X.env = (false, eval e X.env) :: starEach [] X.env := by rfl) : PE X (.Call (.Attribute o "count" apos) [e] [] cpos) (uCnt K to te) := by
  subst hK
  refine PEw (pe_bm PySem.F.plainAttrs_list PySem.F.slot_list_count PySem.F.type_list_count mt_countV (up ho) (pa_cons (up he) pa_nil (hs := hs)) hbase hfew hline hs (by rfl)) fun σ H Q q => ⟨_, fun x H1 z => ?_, q⟩
  cases x with
  | ref p =>
    obtain ⟨⟨xs, hx⟩, z⟩ := z
    refine ⟨.inl ⟨rfl, xs, hx⟩, _, fun y H2 z2 => ?_, z⟩
    obtain ⟨ys, h1, h2, h3, h4⟩ := z2
    exact ⟨p, ys, y, rfl, rfl, h1, h2, h3, h4⟩
  | _ => exact z.elim
theorem kidx (K : Fg) {o e : Expr} {to te : TE} {apos cpos : Pos} (ho : PE X o to) (he : PE X e te) (hK : X.K = K := by rfl) (hbase : attributeBase o "index" X.env (eval o X.env) = eval o X.env := by rfl)
    (hfew : ((backTo cpos (starEach [e] X.env)).all (fun x => !x.1) && (backToKw cpos (keywordEach [] X.env)).all (fun x => x.1.isSome) && decide ([e].length + ([] : List Keyword).length + (if ([] : List Keyword).isEmpty then 0 else 1) < 30)) = true := by rfl)
    (hline : (apos.endLine == cpos.line) = true := by rfl) (hs : starEach [e] X.env = (false, eval e X.env) :: starEach [] X.env := by rfl) : PE X (.Call (.Attribute o "index" apos) [e] [] cpos) (uIdx K to te) := by
  subst hK
  refine PEw (pe_bm PySem.F.plainAttrs_list PySem.F.slot_list_index PySem.F.type_list_index mt_index (up ho) (pa_cons (up he) pa_nil (hs := hs)) hbase hfew hline hs (by rfl)) fun σ H Q q => ⟨_, fun x H1 z => ?_, q⟩
  cases x with
  | ref p =>
    obtain ⟨⟨xs, hx⟩, z⟩ := z
    refine ⟨.inl ⟨rfl, xs, hx⟩, _, fun y H2 z2 => ?_, z⟩
    obtain ⟨ys, j, w, h1, h2, h3, h4⟩ := z2
    exact ⟨p, ys, y, j, w, rfl, rfl, h1, h2, h3, h4⟩
  | _ => exact z.elim
/-- x.split(y) of texts -/
def uSplit (to te : TE) : TE := fun σ H Q => to σ H fun x H1 => (∃ a, x = .str a) ∧ te σ H1 fun y H2 => ∃ a b, x = .str a ∧ y = .str b ∧ (b.length == 0) = false ∧ a.length + 2 ≤ sizeLine ∧ ∀ p, H2 p = none → Q (.ref p) (upd H2 p (.lst ((Txt.split a b).map V.str)))
theorem ksplit {o e : Expr} {to te : TE} {apos pos : Pos} (h : PE X (.Call (.Attribute o "split" apos) [e] [] pos) (tM1 (fun x xs H Q => ∃ a b, x = .str a ∧ xs = [.str b] ∧ (b.length == 0) = false ∧ a.length + 2 ≤ sizeLine ∧ rNewStrs (Txt.split a b) H Q) (upE to) (upE te))) : PE X (.Call (.Attribute o "split" apos) [e] [] pos) (uSplit to te) :=
  PEw h fun σ H Q q => ⟨_, fun x H1 z => ⟨z.1, _, fun y H2 z2 => by obtain ⟨a, b, h1, h2, h3⟩ := z2; exact ⟨a, b, h1, by rw [h2], h3⟩, z.2⟩, q⟩
end
/-! ### the kinds of errors -/
def errA : List Str := ["InvalidName", "InvalidText", "InvalidValue", "InvalidTree", "InvalidContext", "InvalidPage", "InvalidBody", "InvalidTag", "Misplaced", "InvalidPlan", "InvalidPass", "InvalidPatches", "InvalidSize", "InvalidAction", "InvalidCommand", "NotALibrary", "TypeTrouble"]
def errB : List Str := ["NameTaken", "MissingTemplate", "InUse", "Ring", "Unfit", "NoSuchPath", "NotLate", "NotDone", "Busy", "NothingToUndo"]
def errC : List Str := ["TooManyTemplates", "TooManyLevels", "TooManyNodes", "TooManyElements", "TooManyEntries", "TooDeep"]
def errN : List Str := errA ++ errB ++ errC
def errF : List Str := ["called", "value", "position", "index", "path", "found", "reason", "written", "context", "size", "part", "command"]
/-- the class C is the error j -/
def kindB (K : Fg) (C : Addr) (j : Nat) : Bool :=
  decide (j < 33) && (xfB K C && ((decide (PySem.W.findIn K (.ref C) "__class__" = some (some (.builtin "object.__class__"))) && (decide (PySem.W.specialIn K (.builtin "object.__class__") "__get__" = some (some (.builtin "getset_descriptor.__get__"))) && (decide (PySem.W.takesIn K (.builtin "object.__class__") = some true) && decide (PySem.W.mroIn K C (.type "object") = some true))))
    && (errF.all (fun f => decide (PySem.W.findIn K (.ref C) f = some none)) && ((List.range 33).all (fun i => decide (PySem.W.kitOne K (.ref C) (.ref (He.ga K (errN.getD i ""))) = some (decide (i = j))))
    && ((decide (PySem.W.kitOne K (.ref C) (.ref (He.ga K "ShapeError")) = some (decide (j < 17))) && (decide (PySem.W.kitOne K (.ref C) (.ref (He.ga K "StateError")) = some (decide (16 < j ∧ j < 27))) && decide (PySem.W.kitOne K (.ref C) (.ref (He.ga K "SizeError")) = some (decide (26 < j)))))
    && ((decide (PySem.W.kitOne K (.ref C) (.type "ValueError") = some (decide (j < 17))) && (decide (PySem.W.kitOne K (.ref C) (.type "LookupError") = some (decide (16 < j ∧ j < 27))) && decide (PySem.W.kitOne K (.ref C) (.type "ArithmeticError") = some (decide (26 < j)))))
    && decide (PySem.W.exmAny K (.ref C) [.ref (He.ga K "ShapeError"), .ref (He.ga K "StateError"), .ref (He.ga K "SizeError")] = some true)))))))
structure KindAt (K : Fg) (C : Addr) (j : Nat) : Prop where
  lt : j < 33
  xf : XfC K C
  exc : L2.ExcC K C
  no : ∀ f ∈ errF, PySem.W.findIn K (.ref C) f = some none
  kit : ∀ i < 33, PySem.W.kitOne K (.ref C) (.ref (He.ga K (errN.getD i ""))) = some (decide (i = j))
  b0 : PySem.W.kitOne K (.ref C) (.ref (He.ga K "ShapeError")) = some (decide (j < 17))
  b1 : PySem.W.kitOne K (.ref C) (.ref (He.ga K "StateError")) = some (decide (16 < j ∧ j < 27))
  b2 : PySem.W.kitOne K (.ref C) (.ref (He.ga K "SizeError")) = some (decide (26 < j))
  o0 : PySem.W.kitOne K (.ref C) (.type "ValueError") = some (decide (j < 17))
  o1 : PySem.W.kitOne K (.ref C) (.type "LookupError") = some (decide (16 < j ∧ j < 27))
  o2 : PySem.W.kitOne K (.ref C) (.type "ArithmeticError") = some (decide (26 < j))
  exm : PySem.W.exmAny K (.ref C) [.ref (He.ga K "ShapeError"), .ref (He.ga K "StateError"), .ref (He.ga K "SizeError")] = some true
theorem kindB_ok {K : Fg} {C : Addr} {j : Nat} (h : kindB K C j = true) : KindAt K C j := by
  unfold kindB at h
  obtain ⟨h1, h⟩ := He.ba h
  obtain ⟨h2, h⟩ := He.ba h
  obtain ⟨h3, h⟩ := He.ba h
  obtain ⟨a1, h3⟩ := He.ba h3
  obtain ⟨a2, h3⟩ := He.ba h3
  obtain ⟨a3, a4⟩ := He.ba h3
  obtain ⟨h4, h⟩ := He.ba h
  obtain ⟨h5, h⟩ := He.ba h
  obtain ⟨h6, h⟩ := He.ba h
  obtain ⟨c1, h6⟩ := He.ba h6
  obtain ⟨c2, c3⟩ := He.ba h6
  obtain ⟨h7, h8⟩ := He.ba h
  obtain ⟨e1, h7⟩ := He.ba h7
  obtain ⟨e2, e3⟩ := He.ba h7
  have X := xfB_ok h2
  exact ⟨of_decide_eq_true h1, X, ⟨X.ga, X.gg, X.exC, X.hdC, of_decide_eq_true a1, of_decide_eq_true a2, of_decide_eq_true a3, of_decide_eq_true a4⟩, fun f hf => of_decide_eq_true (List.all_eq_true.mp h4 f hf),
    fun i hi => of_decide_eq_true (List.all_eq_true.mp h5 i (List.mem_range.mpr hi)), of_decide_eq_true c1, of_decide_eq_true c2, of_decide_eq_true c3, of_decide_eq_true e1, of_decide_eq_true e2, of_decide_eq_true e3, of_decide_eq_true h8⟩
theorem KindAt.one {K : Fg} {C : Addr} {j : Nat} (k : KindAt K C j) (i : Nat) (h : i < 33 := by decide) : kitV K C (.ref (He.ga K (errN.getD i ""))) = some (decide (i = j)) := k.kit i h
theorem KindAt.any {K : Fg} {C : Addr} {j : Nat} (k : KindAt K C j) : ∀ (is : List Nat), (∀ i ∈ is, i < 33) → kitVs K C (is.map fun i => .ref (He.ga K (errN.getD i ""))) = some (is.any fun i => decide (i = j))
  | [], _ => rfl
  | i :: is, h => by
    rw [List.map_cons]
    unfold kitVs
    rw [k.one i (h i (List.mem_cons_self ..)), List.any_cons]
    cases e : decide (i = j) with
    | true => rfl
    | false =>
      rw [Bool.false_or]
      exact k.any is fun q hq => h q (List.mem_cons_of_mem _ hq)
/-! ### a def that may raise, called where it does not -/
theorem fnok_calm {P : Program} {w : World} {K : Fg} {mg : Str → Option Value} {base : Heap} {k : Nat} {f : Addr} {fd : FuncData} {ps : List Str} {sp : Sp} (F : FnOk P w K mg base (L2.CX P w) k f fd ps sp) : FnOk P w K mg base CX0 k f fd ps (fun vs H Q _ => sp vs H Q fun _ _ _ => False) :=
  ⟨fun vs H Q E h => F.len vs H Q _ h, fun A outer s H args us vs Q E hr e0 hb rv h => codeAny_mono (F.run A outer s H args us vs Q _ hr e0 hb rv h) fun r s' z => by
    cases r with
    | error e =>
      obtain ⟨_, _, _, _, _, _, _, _, _, _, _, _, z⟩ := (show L2.CX P w outer H s (fun _ _ _ => False) e s' from z)
      exact z.elim
    | ok fl => cases fl <;> exact z⟩
end Sk
/-! Sk: enumerate over a tuple -/
namespace Sk
open PySem PySem.Spec PyProof.Rows L2
theorem meets_enum1 {v : Value} {o : Obj} {H : Heap → Prop} (B : Begins v o H) :
    Meets (Builtin.«enumerate.__new__» ⟨[.type "enumerate", v], []⟩) (fun _ R s => H s.heap ∧
      R (.ok (.ret (.ref (s.heap.push o).objs.size))) { s with heap := (s.heap.push o).push { cls := .type "enumerate", data := .fields #[.none, .bool false, .ref s.heap.objs.size, rawInt 0, .none, .none] } }) :=
  .of_wp fun prog w A R s h => by
    obtain ⟨hp, g, d, tk, os⟩ := s; obtain ⟨h1, h⟩ := h
    have hsub := sub_enumerate
    have q1 : ∀ {A' : Around} {E : Value → Shared → Prop} {Q : Value → Shared → Prop}, Q (.ref hp.objs.size) ⟨hp.push o, g, d, tk, os⟩ → wpAny (model prog w) A' (pyIter v) Q E ⟨hp, g, d, tk, os⟩ :=
      fun q => B.iter prog w _ _ ⟨hp, g, d, tk, os⟩ _ h1 q
    wp_walk using q1
    refine wpAny_stack_any fun st => wpAny_pure ?_
    split
    · rename_i c _ _ _ _ _
      cases (c == Value.type "enumerate")
      · wp_walk using q1
        exact ⟨_, rfl, h⟩
      · wp_walk using q1
        exact ⟨_, rfl, h⟩
    · wp_walk using q1
      exact ⟨_, rfl, h⟩
theorem call_enum1 {prog : Program} {w : World} {A : Around} {E : Value → Shared → Prop} {s : Shared} {v : Value} {o : Obj} {H : Heap → Prop} {Q : Value → Shared → Prop} (B : Begins v o H) (h1 : H s.heap)
    (h : ∀ h', IsEnum h' (s.heap.objs.size + 1) s.heap.objs.size 0 .none → h'.get? s.heap.objs.size = some o → h'.objs.size = s.heap.objs.size + 2 →
      (∀ b o, s.heap.get? b = some o → h'.get? b = some o) → Q (.ref (s.heap.objs.size + 1)) { s with heap := h' }) :
    wpAny (model prog w) A (call (.type "enumerate") [v]) Q E s := by
  refine callType_new PySem.F.called_enumerate (by decide) (PySem.F.typeCall_enumerate_1 _) (PySem.F.newCall_enumerate_1 _) (fun obj => PySem.F.args_object_init_2 obj _) PySem.F.entry_enumerate_new (meets_enum1 B) ⟨h1, ?_⟩
  have hz : (s.heap.push o).objs.size = s.heap.objs.size + 1 := Heap.size_push ..
  show _ ∧ _
  rw [hz]
  have he : IsEnum ((s.heap.push o).push { cls := .type "enumerate", data := .fields #[.none, .bool false, .ref s.heap.objs.size, rawInt 0, .none, .none] }) (s.heap.objs.size + 1) s.heap.objs.size 0 .none := by
    have := Heap.get?_push_size (s.heap.push o) (o := { cls := .type "enumerate", data := .fields #[.none, .bool false, .ref s.heap.objs.size, rawInt 0, .none, .none] }) rfl
    rw [hz] at this; exact this
  refine ⟨⟨_, he, rfl⟩, h _ he (Heap.get?_push_of_some _ (Heap.get?_push_size _ B.free)) (by rw [Heap.size_push, hz]) fun b o x => Heap.get?_push_of_some _ (Heap.get?_push_of_some _ x)⟩
theorem enum_end_tuple {prog : Program} {w : World} {A : Around} {E : Value → Shared → Prop} {s : Shared} {e it l : Addr} {i : Nat} {items : Array Value} {old : Value} {Q : Option Value → Shared → Prop} (hh : A.handled = none)
    (he : IsEnum s.heap e it i old) (hit : s.heap.IsTupleIter it l i) (hl : s.heap.IsTuple l items) (hx : items[i]? = none)
    (hQ : ∀ h', Heap.ExtBut it s.heap h' → Q none { s with heap := h' }) : wpAny (model prog w) A (pyNext (.ref e)) Q E s := by
  have hT : s.TypeIs (.ref e) "enumerate" := ⟨_, he, rfl⟩
  unfold pyNext
  refine wpAny_bind (wpAny_attempt (wpAny_callSpecial?_slot (name := Str.ofString "__next__") hT PySem.F.slot_enumerate_next
    (wpAny_call_entry PySem.F.slot_enumerate_next hT PySem.F.entry_enumerate_next ?_ (PySem.F.args_enumerate_next_1 _))))
  show wpAny _ _ (field (.ref e) 2 >>= _) _ _ _
  refine wpAny_bind (wpAny_field he rfl (x := .ref it) rfl ?_)
  refine wpAny_bind (wpAny_nextOf_tuple_end hh hit hl hx fun h' x he' hx' => ?_)
  obtain ⟨o, ho, hc⟩ := hx'
  refine wpAny_bind (wpAny_isInstance (T := "StopIteration") (b := true) ⟨o, ho, hc⟩ isSubtype_stop ?_)
  exact wpAny_pure (hQ _ he')
/-- a tuple's items, each in a new pair -/
def Iten (K : Fg) (a : Addr) : It :=
  ⟨fun i H => ∃ (xs : List V) (x : V), SqT K H a xs ∧ xs[i]? = some x, fun i H v H' => ∃ T x, v = .ref T ∧ H T = none ∧ H' = upd H T (.tup [.int (i : Nat), x]) ∧ ∀ xs, SqT K H a xs → xs[i]? = some x, fun i H => ∃ xs : List V, SqT K H a xs ∧ xs.length ≤ i⟩
theorem walk_iten {K : Fg} {a : Addr} {xs : List V} : Walk (Iten K a) xs.length (fun H => SqT K H a xs) (YPair (fun i => some (.int (i : Nat))) (fun i => xs[i]?)) := by
  refine ⟨fun i H hi g => ⟨xs, xs[i], g, List.getElem?_eq_getElem hi⟩, fun H g => ⟨xs, g, Nat.le_refl _⟩, fun i H x H' hi g y => ?_⟩
  obtain ⟨T, z, e1, e2, e3, e4⟩ := y
  exact ⟨T, .int (i : Nat), z, e1, e2, e3, rfl, e4 xs g⟩
theorem turn_iten {P : Program} {w : World} {K : Fg} {elts : List Expr} {kk : Nat} {tpos : Pos} (a e it : Addr) (hae : a ≠ e) (hai : a ≠ it) :
    Turn P w K (.Tuple elts kk tpos) (Iten K a) [e, it] e (fun i h => (∃ old, IsEnum h e it ((i : Nat) : Int) old) ∧ h.IsTupleIter it a i ∧ e ≠ it) where
  mem := by simp
  obj := fun i h st b hb => by
    obtain ⟨⟨old, he⟩, ⟨o, ho, hc, hd⟩, _⟩ := st
    have e' : b = e ∨ b = it := by simpa using hb
    rcases e' with z | z
    · rw [z]; exact ⟨_, he, fun v q => nomatch q⟩
    · rw [z]; exact ⟨o, ho, fun v q => by rw [hd] at q; cases q⟩
  keep := fun i h h' st k => let ⟨⟨old, he⟩, hi, hne⟩ := st; ⟨⟨old, k e (by simp) _ he⟩, hi.at fun o q => k it (by simp) o q, hne⟩
  item := by
    intro X hP hw hK hc i pins s σ H E I hf st hg
    subst hP hw hK
    obtain ⟨⟨old, he⟩, hit, hne⟩ := st
    obtain ⟨xs, x, hq, hx⟩ := hg
    obtain ⟨its, rv, p, hz⟩ := I.tuple hq
    obtain ⟨u, hu, ru⟩ := rv.get hx
    have hel : e < s.heap.objs.size := Heap.lt_size he
    have hil : it < s.heap.objs.size := by obtain ⟨_, q, _⟩ := hit; exact Heap.lt_size q
    have hin : i < its.length := (List.getElem?_eq_some_iff.mp hu).1
    have D := Draws.tuple (prog := X.prog) (w := X.w) (A := X.A.in1) (I.ok.hd hc) it a hai its.toArray
    refine wpAny_pyNext_enum_itemD D he ⟨hit, show s.heap.IsTuple a its.toArray from p⟩ (by simpa using hin) hne (by simp [Ne.symm hae, hne]) fun v h' tk hv ho hit' hT hsz hk => ?_
    have ev : v = u := by
      have z : its[i]? = some v := by simpa using hv
      rw [hu] at z
      exact (Option.some.inj z).symm
    subst ev
    refine ⟨_, rfl, wpAny_letOwnedTupleGo_enum (s := { s with heap := h', toks := tk + 1 }) ho fun h'' he' sb => ?_⟩
    have hT2 : h''.get? s.heap.objs.size = some { cls := .type "tuple", data := .seq #[.int i tk, v] } := (sb.2 _ (Nat.ne_of_gt hel)).trans hT
    have new : ObjOk X.prog X.w (upd H s.heap.objs.size (.tup [.int (i : Nat), x])) h'' s.heap.objs.size (.tup [.int (i : Nat), x]) :=
      ⟨by show 2 ≤ sizeLine; decide, [.int i tk, v], .cons ⟨_, rfl⟩ (.cons ru .nil), ⟨_, hT2, rfl, _, rfl⟩⟩
    have I1 : Inv X pins σ (upd H s.heap.objs.size (.tup [.int (i : Nat), x])) { s with heap := h'', toks := tk + 1 } :=
      I.turnedNew (ch := [e, it]) (fun b ob hb q => (sb.2 b (fun z => hb (by simp [z]))).trans (hk b ob (fun z => hb (by simp [z])) (fun z => hb (by simp [z])) q)) hf (Nat.le_refl _) new
    refine ⟨.ref s.heap.objs.size, _, I1, rfl, ⟨_, x, rfl, I.hok.fresh (Nat.le_refl _), rfl, fun ys hy => by rw [I.tuple_inj hy hq]; exact hx⟩, ⟨⟨v, ?_⟩, hit'.1.at fun o q => (sb.2 it (Ne.symm hne)).trans q, hne⟩, fun b hb => ?_⟩
    · have e1 : ((i + 1 : Nat) : Int) = (i : Int) + 1 := by omega
      rw [e1]; exact he'
    · have hb' : b < s.heap.objs.size := by
        have e' : b = e ∨ b = it := by simpa using hb
        rcases e' with z | z
        · rw [z]; exact hel
        · rw [z]; exact hil
      rw [upd_ne (Nat.ne_of_lt hb')]
      exact (hf b hb).1
  done := by
    intro X hP hw hK hc i pins s σ H E I hf st hg
    subst hP hw hK
    obtain ⟨⟨old, he⟩, hit, hne⟩ := st
    obtain ⟨xs, hq, hx⟩ := hg
    obtain ⟨its, rv, p, hz⟩ := I.tuple hq
    obtain ⟨f0, f1, f2, f3, f4, f5⟩ := hf it (by simp)
    have hl := rv.length
    have fin : ∀ h', Heap.ExtBut it s.heap h' → (none : Option Value) = none ∧ Inv X pins σ H { s with heap := h' } := fun h' eb => ⟨rfl, I.turned (t' := s.toks) (fun b o hb q => eb b o hb q) f0 f1 f3 f4 f5⟩
    exact enum_end_tuple (I.ok.hd hc) he hit (show s.heap.IsTuple a its.toArray from p) (by simp; omega) fin
  self := fun A i s Q E st h => let ⟨⟨_, he⟩, _⟩ := st; wpAny_pyIter_enum he h
/-- for i, x in enumerate(t), t a tuple -/
def iEnumT (K : Fg) (te : TE) : TI := fun σ H R => te σ H fun v H1 => match v with
  | .ref a => ∃ xs, SqT K H1 a xs ∧ ∀ (J : It), Walk J xs.length (fun H => SqT K H a xs) (YPair (fun i => some (.int (i : Nat))) (fun i => xs[i]?)) → R J H1
  | _ => False
theorem ienumT {X : Cx} (K : Fg) {e : Expr} {te : TE} {p pos tpos : Pos} {elts : List Expr} {kk : Nat} (hg : Gl X "enumerate") (hm : X.mg "enumerate" = none) (he : PE X e te) (hK : X.K = K := by rfl) (hs : starEach [e] X.env = [(false, eval e X.env)] := by rfl) :
    PI X (.Tuple elts kk tpos) (.Call (.Name "enumerate" p) [e] [] pos) (iEnumT K te) := by
  subst hK
  refine ⟨fun pins s σ H R I h => ?_⟩
  refine Call_ (ld_blt I hg hm boot_enumerate (PyProof.Rows.callWith_type1 (thn ((pa_cons (up he) pa_nil (hs := hs)).run pos pins s σ H (fun vs H1 => ∃ a xs, vs = [.ref a] ∧ SqT X.K H1 a xs ∧ ∀ (J : It), Walk J xs.length (fun H => SqT X.K H a xs) (YPair (fun i => some (.int (i : Nat))) (fun i => xs[i]?)) → R J H1) I ⟨_, fun v H1 z => ?_, h⟩) fun us s1 ⟨vs, H1, I1, r1, q1⟩ => ?_) hs rfl))
  · cases v with
    | ref a =>
      obtain ⟨xs, h1, h2⟩ := z
      exact ⟨a, xs, rfl, h1, h2⟩
    | _ => exact z.elim
  obtain ⟨a, xs, ex, hq, q⟩ := q1
  subst ex
  cases r1 with
  | cons r rr =>
    cases rr
    cases r
    obtain ⟨its, rv, p', hz⟩ := I1.tuple hq
    have ht : s1.heap.IsTuple a its.toArray := p'
    have hal : a < s1.heap.objs.size := by obtain ⟨o, ho, _⟩ := ht; exact Heap.lt_size ho
    refine call_enum1 (begins_tuple a its.toArray) ht fun h' he hit hsz hk => wpAny_pyIter_enum he ?_
    have I2 : Inv X pins σ H1 { s1 with heap := h' } := I1.kept (t' := s1.toks) hk
    refine ⟨s1.heap.objs.size + 1, [s1.heap.objs.size + 1, s1.heap.objs.size], _, _, H1, rfl, I2, turn_iten a (s1.heap.objs.size + 1) s1.heap.objs.size (Nat.ne_of_lt (Nat.lt_succ_of_lt hal)) (Nat.ne_of_lt hal), ⟨⟨.none, he⟩, ⟨_, hit, rfl, rfl⟩, Nat.succ_ne_self _⟩, fun b hb => ?_, q _ walk_iten⟩
    have e' : b = s1.heap.objs.size + 1 ∨ b = s1.heap.objs.size := by simpa using hb
    have hle : s1.heap.objs.size ≤ b := by
      rcases e' with z | z
      · rw [z]; exact Nat.le_add_right _ _
      · rw [z]; exact Nat.le_refl _
    exact I1.fpOk hle (I1.hok.fresh hle)
end Sk
/-! Sk: a law's end with tables of code objects, where no repr is under way; a comprehension with any invariant -/
namespace Sk
open PySem PySem.Spec PyProof.Rows L2
abbrev tab0 : Obj := { cls := .none, data := .fields #[] }
/-- the tables are tracked too -/
theorem tabs_heap {K : Fg} {h : Heap} {a : Addr} {vs : List Value} {ns : List Int} {ts : List Addr} (KX : K.In h) (ha : h.get? a = some { cls := .type "list", data := .seq vs.toArray }) (hi : IntsAre vs ns) (hl : ns.length ≤ sizeLine) (hT : ∀ p ∈ ts, h.get? p = some tab0) :
    ∃ H : Hp, (∀ p ∈ ts, H p = some (.tbl #[])) ∧ (∀ b, b ∉ ts → H b = none ∨ (b = a ∧ K.lookup a = none ∧ H b = some (.frz { cls := .type "list", data := .seq vs.toArray } (.lst (ns.map V.int))))) ∧ SqL K H a (ns.map V.int) := by
  obtain ⟨G, g1, g2⟩ := script_heap KX ha hi hl
  have na : a ∉ ts := fun z => by
    have e := hT a z
    rw [ha] at e
    have e2 : Data.seq vs.toArray _ = Data.fields #[] := congrArg Obj.data (Option.some.inj e)
    cases e2
  refine ⟨fun b => if b ∈ ts then some (.tbl #[]) else G b, fun p hp => if_pos hp, fun b hb => ?_, ?_⟩
  · have e : (if b ∈ ts then some (HO.tbl #[]) else G b) = G b := if_neg hb
    simp only [e]
    exact g1 b
  · have e : (if a ∈ ts then some (HO.tbl #[]) else G a) = G a := if_neg na
    rcases g2 with (z | ⟨o, z⟩) | z
    · exact .inl (.inl (e.trans z))
    · exact .inl (.inr ⟨o, e.trans z⟩)
    · exact .inr z
theorem endGT {P : Program} {w : World} {K : Fg} {mg mb : Str → Option Value} {k : Nat} {fa a : Addr} {fd : FuncData} {x : Str} {sp : Sp} {s : Shared} {vs : List Value} {ns : List Int} {cs : List (Addr × Addr)}
    (KX : K.In s.heap) (gs : s.heap.Ns mainGlobals mg) (bs : s.heap.Ns builtinsNs mb) (boot : ∀ x : Str, x ≠ "__name__" → mb x = bootBuiltins x) (lim : s.heap.NoLimit) (gens : s.gens = #[])
    (hT : ∀ p ∈ cs, s.heap.get? p.2 = some tab0) (nT : ∀ p ∈ cs, K.lookup p.2 = none) (hC : ∀ p ∈ cs, PySem.W.CodeHd s.heap p.1 p.2)
    (bmod : ∃ (bm : Addr) (ob : Obj), mg "__builtins__" = some (.ref bm) ∧ bm ≠ builtinsNs ∧ s.heap.get? bm = some ob ∧ ob.cls = .type "module" ∧ ob.dict = some builtinsNs ∧ ob.data = .plain)
    (ha : s.heap.get? a = some { cls := .type "list", data := .seq vs.toArray }) (hi : IntsAre vs ns) (hl : ns.length ≤ sizeLine) (room : Room k callerA)
    (F : ∀ base : Heap, K.In base → base.Ns mainGlobals mg → (∀ p ∈ cs, LamX.TabB base mg p.1 p.2) → FnG P w K mg base k fa fd [x] sp) (bind : ∀ (s : Shared) (u : Value), BindsTo s fd ⟨[u], []⟩ [(x, u)])
    (want : ∀ H : Hp, (∀ p ∈ cs, H p.2 = some (.tbl #[])) → SqL K H a (ns.map V.int) → sp [.ref a] H (fun v _ => v = .bl true) fun _ _ _ => False) :
    codeAny (model P w) callerA (.call (.ref fa) ⟨[.ref a], []⟩) (fun r s' => r = .ok (.ret (.bool true)) ∧ OldK s.heap s'.heap ∧ s'.os = s.os ∧ AllBare s'.gens) s := by
  have inT : ∀ {b : Addr}, b ∈ cs.map (·.2) → ∃ p ∈ cs, p.2 = b := fun hb => by
    obtain ⟨p, hp, e⟩ := List.mem_map.mp hb
    exact ⟨p, hp, e⟩
  have isT : ∀ b ∈ cs.map (·.2), s.heap.get? b = some tab0 := fun b hb => by
    obtain ⟨p, hp, rfl⟩ := inT hb
    exact hT p hp
  obtain ⟨H, hH, pH, pS⟩ := tabs_heap KX ha hi hl isT
  have hH2 : ∀ p ∈ cs, H p.2 = some (.tbl #[]) := fun p hp => hH _ (List.mem_map.mpr ⟨p, hp, rfl⟩)
  -- what is neither a list nor a table is not tracked
  have free : ∀ {b : Addr} {o : Obj}, s.heap.get? b = some o → (∀ us n, o.data ≠ .seq us n) → o.data ≠ .fields #[] → H b = none := by
    intro b o e d1 d2
    by_cases hb : b ∈ cs.map (·.2)
    · rw [isT b hb] at e
      cases e
      exact (d2 rfl).elim
    · rcases pH b hb with z | ⟨z, _, _⟩
      · exact z
      · rw [z, ha] at e
        cases e
        exact (d1 _ _ rfl).elim
  have hold : ∀ {b : Addr} {o : Obj}, s.heap.get? b = some o → (∀ us n, o.data ≠ .seq us n) → o.data ≠ .fields #[] → (hidT s.heap H).get? b = some o := fun e d1 d2 => hidT_get e (free e d1 d2)
  have ns_on : ∀ {b : Addr} {m : Str → Option Value}, s.heap.Ns b m → (hidT s.heap H).Ns b m := by
    rintro b m ⟨o, es, ep, e, d, r⟩
    exact ⟨o, es, ep, hold e (fun us n z => by rw [d] at z; cases z) (fun z => by rw [d] at z; cases z), d, r⟩
  have kin : K.In (hidT s.heap H) := by
    intro b o e
    refine hidT_get (KX b o e) ?_
    by_cases hb : b ∈ cs.map (·.2)
    · obtain ⟨p, hp, rfl⟩ := inT hb
      rw [nT p hp] at e
      cases e
    · rcases pH b hb with z | ⟨z, z2, _⟩
      · exact z
      · rw [z, z2] at e
        cases e
  have hok : HOk P w H s.heap := by
    intro b u e
    by_cases hb : b ∈ cs.map (·.2)
    · rw [hH b hb] at e
      cases e
      exact isT b hb
    · rcases pH b hb with z | ⟨z, _, z3⟩
      · rw [z] at e
        cases e
      · rw [z3] at e
        cases e
        subst z
        exact ⟨ha, by rw [List.length_map]; exact hl, vs, _, vals_ints hi, ha⟩
  have limK : (hidT s.heap H).NoLimit := by
    obtain ⟨mc, l1, l2⟩ := lim
    exact ⟨mc, ns_on l1, l2⟩
  have TB : ∀ p ∈ cs, LamX.TabB (hidT s.heap H) mg p.1 p.2 := fun p hp => by
    have neG : mainGlobals ≠ p.2 := fun z => by
      obtain ⟨o, es, ep, e, d, _⟩ := gs
      rw [z, hT p hp] at e
      cases e
      cases d
    refine ⟨?_, ?_, neG⟩
    · obtain ⟨o, us, file, tf, flags, tg, inF, text, tt, e1, r1, r2, r3, rest⟩ := hC p hp
      refine ⟨o, us, file, tf, flags, tg, inF, text, tt, hold e1 (fun vs n z => by rw [r2] at z; cases z) (fun z => ?_), r1, r2, r3, rest⟩
      rw [r2] at z
      cases z
      simp at r3
    · obtain ⟨bm, ob, b1, b2, b3, b4, b5, b6⟩ := bmod
      refine ⟨bm, ob, b1, b2, fun q => ?_, fun q => ?_, hold b3 (fun us n z => by rw [b6] at z; cases z) (fun z => by rw [b6] at z; cases z), b4, b5, b6⟩
      · obtain ⟨o, es, ep, e, hd, _⟩ := gs
        rw [q, e] at b3
        cases b3
        rw [hd] at b6
        cases b6
      · rw [q, hT p hp] at b3
        cases b3
        cases b6
  have env : Env0 P w K mg (hidT s.heap H) callerA [] s H :=
    { frames := rfl, mod := ⟨kin, ns_on gs, ⟨mb, ns_on bs, boot⟩, limK⟩, bs := fun b o e => of_hidT e, bsz := Nat.le_of_eq (hidT_size _ _), funs := trivial, frf := (fun b hb => nomatch (show b ∈ ([] : List Addr) from hb)), hok := hok, bare := .of_eq gens }
  have go := (F _ kin (ns_on gs) TB).run callerA [] s H ⟨[.ref a], []⟩ [.ref a] [.ref a] _ _ rfl room env (bind s (.ref a)) (.cons rfl .nil) (want H hH2 pS)
  refine codeAny_mono go fun r s' z => ?_
  match r, z with
  | .error e, z => exact z.elim
  | .ok .next, z => exact z.elim
  | .ok .brk, z => exact z.elim
  | .ok .cont, z => exact z.elim
  | .ok (.ret u), z =>
    obtain ⟨v, H', os, bare, un, hok', rel, q⟩ := z
    have q : v = .bl true := q
    subst q
    have eu : u = Value.bool true := rel
    subst eu
    have others : ∀ b o, b ∉ cs.map (·.2) → s.heap.get? b = some o → s'.heap.get? b = some o := fun b o nb e => by
      rcases pH b nb with z | ⟨z, _, z3⟩
      · exact un.keep b o e z (fun hm => nomatch (show b ∈ ([] : List Addr) from hm)) (by simp)
      · have e2 := (hok' b _ (un.frzs b _ _ z3)).1
        rw [z, ha] at e
        cases e
        exact e2
    have grown : ∀ p ∈ cs, ∃ more : Array Value, s'.heap.get? p.2 = some { cls := .none, data := .fields more } := fun p hp => by
      obtain ⟨more, z⟩ := un.tbls p.2 #[] (hH2 p hp)
      exact ⟨_, hok' p.2 _ z⟩
    refine ⟨rfl, ⟨fun b o e => ?_, fun b o e => ?_⟩, os, bare⟩
    · by_cases hb : b ∈ cs.map (·.2)
      · obtain ⟨p, hp, rfl⟩ := inT hb
        obtain ⟨more, hm⟩ := grown p hp
        rw [hT p hp] at e
        cases e
        exact .inr (.inl ⟨((hC p hp).tab (hT p hp)).isCodeTable, rfl, #[], more, rfl, by rw [Array.empty_append]; exact hm⟩)
      · exact .inl (others b o hb e)
    · by_cases hb : b ∈ cs.map (·.2)
      · obtain ⟨p, hp, rfl⟩ := inT hb
        obtain ⟨more, hm⟩ := grown p hp
        exact ⟨_, hm⟩
      · exact ⟨o, others b o hb e⟩
/-- a law with tables of code objects -/
theorem walk_GT {l : PySem.W.OpenLaw} {n k : Nat} {q : Program} {loose : List Str} {XP : (Str → Option Value) → Heap → Prop} {YP : World → Heap → Prop} {d : DefRec} {x : Str}
    (hn : l.most = some n) (hn2 : n ≤ sizeLine) (hdf : d.params.defaults = []) (room : Room k callerA)
    (F : ∀ (w : World) (mg : Str → Option Value) (fa : Addr) (h : Heap), YP w h → h.Ns mainGlobals mg → mg d.name = some (.ref fa) →
      ∃ (K : Fg) (fd : FuncData) (cs : List (Addr × Addr)) (sp : Sp), K.In h ∧ (∀ p ∈ cs, h.get? p.2 = some tab0) ∧ (∀ p ∈ cs, K.lookup p.2 = none) ∧ (∀ p ∈ cs, PySem.W.CodeHd h p.1 p.2) ∧ (∀ (s : Shared) (u : Value), BindsTo s fd ⟨[u], []⟩ [(x, u)]) ∧
        (∀ (H : Hp) (a : Addr) (ns : List Int), ns.length ≤ n → (∀ p ∈ cs, H p.2 = some (.tbl #[])) → SqL K H a (ns.map V.int) → sp [.ref a] H (fun v _ => v = .bl true) fun _ _ _ => False) ∧
        ∀ base : Heap, K.In base → base.Ns mainGlobals mg → (∀ p ∈ cs, LamX.TabB base mg p.1 p.2) → FnG l.prog w K mg base k fa fd [x] sp) :
    PySem.W.WalkO q loose XP YP l.row.toRowW d [] (fun f vs => PySem.call f vs) := by
  refine Att.attach_call hn hdf ?_
  intro w s₀ s₁ mg mb fa o pm cd doc a vs ns G Y _ _ _ named ha hi hlen gens
  obtain ⟨K, fd, cs, sp, KX, hT, nT, hC, hb, hsp, hF⟩ := F w mg fa _ Y G.T.g named
  exact endGT KX G.T.g G.T.b G.T.builtins G.T.nolimit gens hT nT hC G.T.bmain ha hi (Nat.le_trans hlen hn2) room hF hb fun H hH hS => hsp H a ns hlen hH hS
/-! ### [e for k in range(..)], any invariant -/
section
variable {D : Addr} {H1 : Hp}
theorem lcrV {n j : Nat} {lo : Int} {te : TE} {vs : List Nat} {σ : L2.St} {Qd : Hp → Prop} (J : Hp → Prop) (Pp : Nat → V → Prop) (hp : J (upd H1 D (.lst []))) (hn : n < 100000) (jup : ∀ H l, J H → J (upd H D (.lst l)))
    (hw : ∀ x, wipe ((wipe σ vs).set j (some x)) vs = wipe σ vs)
    (turn : ∀ i H ys, i < n → J H → H D = some (.lst ys) → te ((wipe σ vs).set j (some (.int (lo + i)))) H (fun y H4 => J H4 ∧ H4 D = some (.lst ys) ∧ Pp i y))
    (hd : ∀ H ys, J H → ys.length = n → H D = some (.lst ys) → (∀ (i : Nat) (y : V), ys[i]? = some y → Pp i y) → Qd H) :
    ∃ W : Nat → Nat → Hp → Prop, (∃ m, W 0 m (upd H1 D (.lst []))) ∧ ∀ i m H, W i m H →
      ((Itr lo n).stop i H ∧ Qd H) ∨ ((Itr lo n).go i H ∧ ∃ Nx : Hp → Prop, (∀ H', Nx H' → ∃ m', m' < m ∧ W (i + 1) m' H') ∧ ∀ x H', (Itr lo n).yld i H x H' → gName j x (wipe σ vs) H' fun σ2 H2 => wipe σ2 vs = wipe σ vs ∧ tYes σ2 H2 fun b H3 =>
        if b = true then upE te σ2 H3 fun y H4 => ∃ acc, H4 D = some (.lst acc) ∧ acc.length < sizeLine ∧ Nx (upd H4 D (.lst (acc ++ [y]))) else Nx H3) := by
  refine lc_range (fun i H => J H ∧ ∃ ys : List V, ys.length = i ∧ H D = some (.lst ys) ∧ ∀ (i : Nat) (y : V), ys[i]? = some y → Pp i y) ⟨hp, [], rfl, upd_same, fun i y e => by simp at e⟩ (fun i H hi hv => ?_) (fun H hv => ?_)
  · obtain ⟨j1, ys, l1, e1, q1⟩ := hv
    refine ⟨hw _, ?_⟩
    dsimp only [tYes]
    rw [if_pos rfl]
    refine ⟨_, fun y H4 z => ?_, turn i H ys hi j1 e1⟩
    obtain ⟨j4, e4, p4⟩ := z
    refine ⟨ys, e4, by rw [sizeLine_eq]; omega, jup _ _ j4, ys ++ [y], by rw [List.length_append, l1]; rfl, upd_same, fun m z hz => ?_⟩
    by_cases hm : m < ys.length
    · rw [List.getElem?_append_left hm] at hz
      exact q1 m z hz
    · rw [List.getElem?_append_right (by omega)] at hz
      have h0 : m - ys.length = 0 := by
        cases h : m - ys.length with
        | zero => rfl
        | succ q =>
          rw [h] at hz
          simp at hz
      rw [h0] at hz
      have ez : y = z := by simpa using hz
      have em : m = i := by omega
      rw [← ez, em]
      exact p4
  · obtain ⟨j1, ys, l1, e1, q1⟩ := hv
    exact hd H ys j1 l1 e1 q1
end
end Sk
/-! Sk: errors with an own __init__; what a caught call gives; a def's code object -/
namespace Sk
open PySem PySem.Spec PyProof.Rows L2
/-- the class C is an own error class over ValueError with an own __init__ -/
def oexB (K : Fg) (C fI : Addr) : Bool :=
  (match K.lookup C with
    | some ⟨.type "type", _, .cls cd, sl⟩ => (match cd.mro, sl.toList with
      | .ref C' :: bm, [_, _, _, _, some (.builtin n), _] => decide (C' = C) && (decide (n = "ValueError.__new__") && (!cd.hasDel && (cd.hasDict && PySem.HandSPX.refsVE bm)))
      | _, _ => false)
    | _ => false)
  && (decide (PySem.W.findIn K (.ref C) "__setattr__" = some (some (.builtin "object.__setattr__"))) && (decide (PySem.W.subIn K (.ref C) (.type "BaseException") = some true) && (decide (PySem.W.typeIn K (.ref C) = some (.type "type")) && (PySem.W.keepIn K (.ref C)
  && (decide (PySem.W.findIn K (.ref C) "__init__" = some (some (.ref fI))) && decide (PySem.W.typeIn K (.ref fI) = some (.type "function")))))))
structure Oex (K : Fg) (C fI : Addr) : Prop where
  oex : OexC K C
  ini : PySem.W.findIn K (.ref C) "__init__" = some (some (.ref fI))
  typ : PySem.W.typeIn K (.ref fI) = some (.type "function")
theorem oexB_ok {K : Fg} {C fI : Addr} (h : oexB K C fI = true) : Oex K C fI := by
  obtain ⟨h0, h⟩ := He.ba h
  obtain ⟨h1, h⟩ := He.ba h
  obtain ⟨h2, h⟩ := He.ba h
  obtain ⟨h3, h⟩ := He.ba h
  obtain ⟨h4, h⟩ := He.ba h
  obtain ⟨h5, h6⟩ := He.ba h
  refine ⟨⟨?_, of_decide_eq_true h1, of_decide_eq_true h2, of_decide_eq_true h3, h4⟩, of_decide_eq_true h5, of_decide_eq_true h6⟩
  split at h0
  · rename_i dd cd sl ho
    split at h0
    · rename_i C' bm k0 k1 k2 k3 n k5 hm hs
      obtain ⟨a1, h0⟩ := He.ba h0
      obtain ⟨a2, h0⟩ := He.ba h0
      obtain ⟨a3, h0⟩ := He.ba h0
      obtain ⟨a4, a5⟩ := He.ba h0
      have e1 : C' = C := of_decide_eq_true a1
      have e2 : n = "ValueError.__new__" := of_decide_eq_true a2
      subst e1 e2
      obtain ⟨nm, bs, mro, ns, qn, hd, sn, sub, ab, col, del⟩ := cd
      have e3 : del = false := by
        cases del with
        | false => rfl
        | true => cases a3
      have e4 : hd = true := a4
      have hm : mro = .ref C' :: bm := hm
      subst e3 e4 hm
      have hsl : sl = #[k0, k1, k2, k3, some (.builtin "ValueError.__new__"), k5] := by
        obtain ⟨l⟩ := sl
        have hs : l = _ := hs
        rw [hs]
      subst hsl
      exact ⟨nm, qn, ns, bs, bm, sn, sub, ab, col, dd, k0, k1, k2, k3, k5, ho, a5⟩
    · cases h0
  · cases h0
/-! ### an own __init__: self.f = x -/
def spIni (K : Fg) (C : Addr) (f : Str) : Sp := fun vs H Q _ => match vs with
  | [.ref a, x] => H a = some (exo a C none) ∧ ∀ dx, H dx = none → dx ≠ a → Q .non (upd (upd H dx (exd dx [(f, x)])) a (exo a C (some dx)))
  | _ => False
/-- what is raised: an error of the class C with the field f -/
def xUpd (H : Hp) (d : Addr) (f : Str) (v : V) : Hp := upd H d (.xd [(f, v)])
theorem del_upd {H : Hp} {a dx : Addr} {o o' o'' q : HO} (ha : H a = none) (hd : dx ≠ a) : upd (del (upd (upd (upd H a q) dx o) a o') a) dx o'' = upd H dx o'' := by
  funext b
  by_cases hb : b = dx
  · rw [hb, upd_same, upd_same]
  · rw [upd_ne hb, upd_ne hb]
    by_cases hb2 : b = a
    · rw [hb2, del_same, ha]
    · rw [del_ne hb2, upd_ne hb2, upd_ne hb, upd_ne hb2]
/-- C(e), told plainly -/
theorem mkO1 {X : Cx} {C : Addr} {K : Fg} {f : Str} {te : TE} {e : Expr} (h : PMk X e (tMkO C (spIni K C f) [] (tCons (upE te) tNil))) : PMk X e (fun σ H Q => te σ H fun v H1 => ∀ d, H1 d = none → Q (.ref C) (some d) (xUpd H1 d f v)) := by
  intro pins s σ H Q I q
  refine h pins s σ H Q I ⟨_, fun v H1 z => ?_, q⟩
  refine ⟨by show 1 ≤ 1000; decide, fun a ha => ⟨upd_same, fun dx hdx ne => ?_⟩⟩
  rw [upd_ne ne] at hdx
  refine ⟨rfl, dx, [(f, v)], upd_same, by rw [upd_ne ne, upd_same], hdx, ?_⟩
  rw [del_upd ha ne]
  exact z dx hdx
/-! ### words and fields of an error -/
def errWa : List Str := ["name", "text", "value", "tree", "context", "page", "body", "tag", "misplaced", "plan", "pass", "patches", "size", "action", "command", "notlibrary", "trouble"]
def errWb : List Str := ["taken", "missing", "inuse", "ring", "unfit", "nopath", "notlate", "notdone", "busy", "undo", "templates", "levels", "nodes", "elements", "entries", "deep"]
def errW (j : Nat) : Str := (errWa ++ errWb).getD j ""
def errFo (j : Nat) : List Str := if decide (8 = j) = true then ["position", "reason"] else if decide (1 = j) = true then ["written"] else if decide (4 = j) = true then ["context"] else if decide (12 = j) = true then ["size"] else if decide (16 = j) = true then ["part"] else if decide (14 = j) = true then ["command"] else []
def errFs (j : Nat) : List Str :=
  if ([0, 17, 18, 19, 20, 23].any fun i => decide (i = j)) = true then ["called"] else if ([2, 3, 9, 15].any fun i => decide (i = j)) = true then ["value"] else if ([5, 6, 7].any fun i => decide (i = j)) = true then ["position"]
  else if ([10, 11, 13].any fun i => decide (i = j)) = true then ["index"] else if ([21, 22].any fun i => decide (i = j)) = true then ["path"] else if ([27, 28, 29, 30, 31, 32].any fun i => decide (i = j)) = true then ["found"] else errFo j
def valsOf (fs : List (Str × V)) : List Str → Option (List V)
  | [] => some []
  | f :: r => match fs.lookup f, valsOf fs r with
    | some v, some vs => some (v :: vs)
    | _, _ => none
theorem vals1 {fs : List (Str × V)} {f : Str} {ys : List V} (h : valsOf fs [f] = some ys) : ∃ v, fs.lookup f = some v ∧ ys = [v] := by
  unfold valsOf at h
  split at h
  · rename_i v vs h1 h2
    have e : [] = vs := Option.some.inj h2
    subst e
    exact ⟨v, h1, (Option.some.inj h).symm⟩
  · cases h
theorem vals2 {fs : List (Str × V)} {f g : Str} {ys : List V} (h : valsOf fs [f, g] = some ys) : ∃ u v, fs.lookup f = some u ∧ fs.lookup g = some v ∧ ys = [u, v] := by
  unfold valsOf at h
  split at h
  · rename_i v vs h1 h2
    obtain ⟨u, h3, rfl⟩ := vals1 h2
    exact ⟨v, u, h1, h3, (Option.some.inj h).symm⟩
  · cases h
def spOther (K : Fg) : SpE := fun a C d vs H Q _ => vs = [.ref a] ∧ ∃ j dd fs ys, KindAt K C j ∧ d = some dd ∧ H dd = some (.xd fs) ∧ valsOf fs (errFo j) = some ys ∧ ∀ p H', Same H H' → H p = none → H' p = some (.lst ys) → Q (.ref p) H'
def spKind (K : Fg) : SpE := fun a C d vs H Q _ => vs = [.ref a] ∧ XdAt d H ∧ ∃ j, KindAt K C j ∧ ∀ H', Same H H' → Q (.str (errW j)) H'
def spFields (K : Fg) : SpE := fun a C d vs H Q _ => vs = [.ref a] ∧ ∃ j dd fs ys, KindAt K C j ∧ d = some dd ∧ H dd = some (.xd fs) ∧ valsOf fs (errFs j) = some ys ∧ ∀ p H', Same H H' → H p = none → H' p = some (.lst ys) → Q (.ref p) H'
theorem vals_len {fs : List (Str × V)} : ∀ {l : List Str} {ys : List V}, valsOf fs l = some ys → ys.length = l.length
  | [], ys, h => by
    have e : [] = ys := Option.some.inj h
    rw [← e]
    rfl
  | f :: r, ys, h => by
    unfold valsOf at h
    split at h
    · rename_i v vs h1 h2
      have e : v :: vs = ys := Option.some.inj h
      rw [← e, List.length_cons, List.length_cons, vals_len h2]
    · cases h
theorem errFo_len (j : Nat) : (errFo j).length ≤ 2 := by
  unfold errFo
  repeat' split
  all_goals decide
theorem errFs_len (j : Nat) : (errFs j).length ≤ 2 := by
  unfold errFs
  repeat' split
  all_goals first | decide | exact errFo_len j
/-- what _law_caught makes of a call -/
def eCaught (K : Fg) (Q : VK) : XK := fun cls d H => ∃ C j dd fs ys, cls = .ref C ∧ KindAt K C j ∧ d = some dd ∧ H dd = some (.xd fs) ∧ valsOf fs (errFs j) = some ys ∧ ∀ p H', Same H H' → H p = none → H' p = some (.lst (.str (errW j) :: ys)) → Q (.ref p) H'
def TCaught (K : Fg) : (XK → Hp → VK → Prop) → Hp → VK → Prop := fun tl H Q => tl (eCaught K Q) H fun v H' => [V.str "returned", v].length ≤ sizeLine ∧ ∀ p, H' p = none → Q (.ref p) (upd H' p (.lst [.str "returned", v]))
/-! ### a def with its code object -/
section
variable {P : Program} {w : World} {K : Fg} {mg : Str → Option Value} {base : Heap} {x qual : Str} {params : Arguments} {body : List Stmt} {scope : Scope} {dvs : List V} {kws : List (Str × V)} {f : Addr} {fd : FuncData}
theorem code_at {g : Str} (F : FunD K x qual params body scope dvs kws (He.ga K g) fd) : fd.code = .ref (He.cT K (g, none)).1 := by
  obtain ⟨oc, od, dV, kV, doc, pm, an, cdv, ct, osl, efd, look, code, _, _⟩ := F.ex
  obtain ⟨c, rfl⟩ := He.codeIn_ref code
  have e : fd.code = .ref c := by rw [efd]
  rw [e, show (He.cT K (g, none)).1 = c from He.codeOf_eq (p := (g, none)) look e]
theorem fnGc_of {N ps : List Str} {k : Nat} {sp : Sp} (F : FunD K x qual params body scope dvs kws f fd) (S : FnScope N ps scope) (len : ∀ vs H Q E, sp vs H Q E → vs.length = ps.length)
    (hb : ∀ (A : Around) (outer : List Env) (s : Shared) (H : Hp) (vs : List V) (Q : VK) (E : XK), (A.deeper (envOfC qual scope s.heap.objs.size f fd.code)).guards = some [] → Room k (A.deeper (envOfC qual scope s.heap.objs.size f fd.code)) → sp vs H Q E →
      ∃ t, PSs (cxOf CX0 P w K mg base N qual scope f fd.code A outer s H E).nox body t ∧ t { nx := fun _ H' => Q .non H', rt := Q } (start N vs) H) : FnG P w K mg base (k + 1) f fd ps sp := by
  obtain ⟨oc, od, dV, kV, doc, pm, an, cdv, ct, osl, efd, look, code, _, _⟩ := F.ex
  subst efd
  refine ⟨len, fun A outer s H args us vs Q E gd room env bind rel want => ?_⟩
  have size := len _ _ _ _ want
  have inK : K.In s.heap := env.mod.kin.keeps fun b o e => (env.bs b o e).1
  have calm : s.heap.NoLimit := env.mod.nolimit.keeps fun b o e => (env.bs b o e).1
  have kinds : ∀ y ∈ ps.zip us, scope.names.lookup y.1 = some .local ∨ (scope.names.lookup y.1 = some .cell ∧ ((cellsFrom (s.heap.objs.size + 1) scope.names []).lookup y.1).isSome = true) := by
    rintro ⟨n, v⟩ hy
    cases S.par n (List.of_mem_zip hy).1 with
    | inl q => exact .inl q
    | inr q => exact .inr ⟨q, PySem.W.cellsFrom_some _ _ _ (.inl q)⟩
  refine codeAny_call_function room.depth (inK _ _ look) rfl S.co S.gen rfl (PySem.W.codeRec_of inK code) (bind _ _ _ _ ?_)
  refine wpAny_newFunctionEnv_cells S.kind kinds fun e1 he1 s1 inC => ?_
  subst he1
  obtain ⟨t, der, red⟩ := hb A outer s H vs Q E gd (room.deeper _) want
  have inv : Inv (cxOf CX0 P w K mg base N qual scope f cdv A outer s H E) [] (start N vs) H s1 := inv_start S room.hd env size rel inC
  refine ⟨calm.keeps inC.toInCall.keep, codeAny_func (wpAny_mono (der.run [] s1 _ H _ (inv_nox inv) red) (fun fl s2 h2 => ?_) fun _ _ z => z.elim)⟩
  have back : ∀ {σ2 : L2.St} {H2 : Hp} {v : V} {u : Value}, Inv (cxOf CX0 P w K mg base N qual scope f cdv A outer s H E).nox [] σ2 H2 s2 → RelV v u → Q v H2 → CE outer P w H s Q u s2 := fun J r q => ⟨_, _, J.os, J.bare, J.base, J.hok, r, q⟩
  cases fl with
  | ret u => obtain ⟨v, σ2, H2, J, r, q⟩ := h2; exact back J r q
  | next => obtain ⟨σ2, H2, J, q⟩ := h2; exact back (u := Value.none) (v := V.non) J rfl q
  | brk => obtain ⟨_, _, _, q⟩ := h2; exact q.elim
  | cont => obtain ⟨_, _, _, q⟩ := h2; exact q.elim
end
end Sk
namespace Sk
open PySem PySem.Spec PyProof.Rows L2
theorem _root_.L2H.RoomH.units {k : Nat} {A : Around} (r : L2H.RoomH k A) : A.units + 64 < cLine := by have := r.un; omega
abbrev fbK (j : Nat) : Nat → V := fun i => V.bl (decide (i = j))
theorem cnt33 : ∀ j : Nat, j < 33 → (((List.range 33).map (fbK j)).countP fun z => eqV z (.bl true)) = 1 := by decide +kernel
theorem idx33 {j : Nat} (hj : j < 33) : ((List.range 33).map (fbK j))[j]? = some (V.bl true) := by
  rw [List.getElem?_map, List.getElem?_range hj]
  simp
theorem idx33n {j m : Nat} {z : V} (hm : m < j) (h : ((List.range 33).map (fbK j))[m]? = some z) : eqV z (.bl true) = false := by
  rw [List.getElem?_map] at h
  cases e : (List.range 33)[m]? with
  | none => rw [e] at h; cases h
  | some q =>
    rw [e] at h
    have hq : q = m := by
      obtain ⟨h1, h2⟩ := List.getElem?_eq_some_iff.mp e
      rw [← h2]
      simp
    have e2 : V.bl (decide (q = j)) = z := Option.some.inj h
    rw [← e2, hq]
    have : decide (m = j) = false := decide_eq_false (by omega)
    rw [this]
    rfl
theorem flat33 (j : Nat) : ((List.range 33).map (fbK j)).all flatV = true := by
  rw [List.all_eq_true]
  intro v hv
  obtain ⟨i, _, rfl⟩ := List.mem_map.mp hv
  rfl
end Sk
/-! Sk: a chain of three comparisons; the kinds of plain values -/
namespace Sk
open PySem PySem.Spec PyProof.Rows L2
section
variable {X : Cx}
def uChain3 (r r' r'' : R2) (ta tb tc td : TE) : TT := fun σ H Q => ta σ H fun x H1 => tb σ H1 fun y H2 => r x y H2 fun z H3 => onB z fun k => br k (tc σ H3 fun y' H4 => r' y y' H4 fun z' H5 => onB z' fun k' => br k' (td σ H5 fun y'' H6 => r'' y' y'' H6 fun z'' H7 => onB z'' fun k'' => Q k'' H7) (Q false H5)) (Q false H3)
theorem tchain3 {op op' op'' : CmpOp} {r r' r'' : R2} {a b c d : Expr} {ta tb tc td : TE} {pos : Pos} (ho : OpR X (compareOp op) r) (ho' : OpR X (compareOp op') r') (ho'' : OpR X (compareOp op'') r'') (ha : PE X a ta) (hb : PE X b tb) (hc : PE X c tc) (hd : PE X d td)
    (hm : lastMarks [op, op', op''] [b, c, d] = false := by with_unfolding_all rfl) : PT X (.Compare a [op, op', op''] [b, c, d] pos) (uChain3 r r' r'' ta tb tc td) := by
  refine ⟨fun pins s σ H Q I h => ?_⟩
  refine isTrue_chain (thn (ha.run pins s σ H _ I h) fun v s1 ⟨x, H1, I1, r1, q1⟩ => test_link (thn (hb.run pins s1 σ H1 _ I1 q1) fun u s2 ⟨y, H2, I2, r2, q2⟩ =>
    thn (ho pins s2 σ H2 x y v u _ I2 r1 r2 q2) fun d1 s3 ⟨z, H3, I3, r3, q3⟩ => ?_)) hm
  obtain ⟨k, rfl, q3⟩ := onB_ex q3
  cases r3
  refine wpAny_truthy_bool ?_
  cases k with
  | false => exact ite_ff ⟨H3, I3, q3⟩
  | true =>
    refine ite_tt (test_link (thn (hc.run pins s3 σ H3 _ I3 q3) fun u' s4 ⟨y', H4, I4, r4, q4⟩ => thn (ho' pins s4 σ H4 y y' u u' _ I4 r2 r4 q4) fun d2 s5 ⟨z', H5, I5, r5, q5⟩ => ?_))
    obtain ⟨k', rfl, q5⟩ := onB_ex q5
    cases r5
    refine wpAny_truthy_bool ?_
    cases k' with
    | false => exact ite_ff ⟨H5, I5, q5⟩
    | true =>
      refine ite_tt (test_last (thn (hd.run pins s5 σ H5 _ I5 q5) fun u'' s6 ⟨y'', H6, I6, r6, q6⟩ => thn (ho'' pins s6 σ H6 y' y'' u' u'' _ I6 r4 r6 q6) fun d3 s7 ⟨z'', H7, I7, r7, q7⟩ => ?_))
      obtain ⟨k'', rfl, q7⟩ := onB_ex q7
      cases r7
      exact wpAny_truthy_bool ⟨H7, I7, q7⟩
end
/-- the seven kinds of plain values -/
inductive Ty7 | non | bl | int | str | lst | tup | dic
  deriving DecidableEq
def Ty7.nm : Ty7 → String
  | .non => "NoneType" | .bl => "bool" | .int => "int" | .str => "str" | .lst => "list" | .tup => "tuple" | .dic => "dict"
/-- v is of the kind t -/
def Kn (H : Hp) (v : V) (t : Ty7) : Prop := match t with
  | .non => v = .non
  | .bl => ∃ b, v = .bl b
  | .int => ∃ i, v = .int i
  | .str => ∃ x, v = .str x
  | .lst => ∃ p xs, v = .ref p ∧ H p = some (.lst xs)
  | .tup => ∃ p xs, v = .ref p ∧ H p = some (.tup xs)
  | .dic => ∃ p kvs, v = .ref p ∧ H p = some (.dK kvs)
theorem Kn.ty {K : Fg} {H : Hp} {v : V} {t : Ty7} (h : Kn H v t) : TyX K H v (.type t.nm) := by
  cases t with
  | non => cases h; exact .base .non
  | bl => obtain ⟨b, rfl⟩ := h; exact .base (.bl b)
  | int => obtain ⟨b, rfl⟩ := h; exact .base (.int b)
  | str => obtain ⟨b, rfl⟩ := h; exact .base (.str b)
  | lst => obtain ⟨p, xs, rfl, h⟩ := h; exact .base (.lst h)
  | tup => obtain ⟨p, xs, rfl, h⟩ := h; exact .base (.tup h)
  | dic => obtain ⟨p, xs, rfl, h⟩ := h; exact .base (.dK h)
theorem Kn.on {H H' : Hp} {v : V} {t : Ty7} (h : Kn H v t) (s : Same H H') : Kn H' v t := by
  cases t with
  | lst => obtain ⟨p, xs, rfl, h⟩ := h; exact ⟨p, xs, rfl, s _ _ h⟩
  | tup => obtain ⟨p, xs, rfl, h⟩ := h; exact ⟨p, xs, rfl, s _ _ h⟩
  | dic => obtain ⟨p, xs, rfl, h⟩ := h; exact ⟨p, xs, rfl, s _ _ h⟩
  | _ => exact h
theorem kit7 (K : Fg) (n : String) (f : Ty7 → Bool) (h : ∀ t : Ty7, PySem.W.kitOne K (.type t.nm) (.type n) = some (f t)) : True := trivial
end Sk
/-! Sk: t[::-1] of a tuple -/
namespace Sk
open PySem PySem.Spec PyProof.Rows L2
theorem adjust_rev (n : Nat) : Builtin.Slice.sliceAdjust none none (-1) (n : Int) = ((n : Int) - 1, -1) := rfl
theorem places_rev (n : Nat) : Builtin.Slice.slicePlaces ((n : Int) - 1) (-1) (-1) = n := by
  unfold Builtin.Slice.slicePlaces
  rw [if_neg (by decide)]
  by_cases h : (n : Int) - 1 > -1
  · rw [if_pos h]
    have : (- (-1 : Int)) = 1 := rfl
    rw [this, Int.ediv_one]
    omega
  · rw [if_neg h]
    omega
theorem pick_rev (xs : Array Value) : ((List.range xs.size).filterMap fun (k : Nat) => xs[(((xs.size : Int) - 1) + (k : Int) * (-1)).toNat]?) = xs.toList.reverse := by
  have e : ((List.range xs.size).filterMap fun (k : Nat) => xs[(((xs.size : Int) - 1) + (k : Int) * (-1)).toNat]?) = ((List.range xs.size).map fun k => xs.size - 1 - k).filterMap (xs[·]?) := by
    rw [List.filterMap_map]
    congr 1
    funext k
    have : ((((xs.size : Int) - 1) + (k : Int) * (-1)).toNat) = xs.size - 1 - k := by omega
    rw [this]
    rfl
  rw [e, PySem.W.krv_range, List.filterMap_reverse, PySem.W.krv_all]
section
variable {prog : Program} {w : World} {A : Around} {E : Value → Shared → Prop} {s : Shared}
theorem getItem_tuple_rev {t sl : Addr} {items : Array Value} {vl vu vs : Value} {Q : Value → Shared → Prop} (ht : IsTup s.heap t items) (hs : s.heap.IsSliceOf sl vl vu vs) (pl : IsPart vl none) (pu : IsPart vu none) (ps : IsPart vs (some (-1)))
    (h : Q (.ref s.heap.objs.size) { s with heap := s.heap.push { cls := .type "tuple", data := .seq items.toList.reverse.toArray } })
    (hsz : items.size ≤ sizeLine) : wpAny (model prog w) A (getItem (.ref t) (.ref sl)) Q E s := by
  have htake : sizeOk (.seq items.toList.reverse.toArray) := by
    show items.toList.reverse.toArray.size ≤ sizeLine
    rw [List.size_toArray, List.length_reverse, Array.length_toList]
    exact hsz
  obtain ⟨os, hos, hcs, hds⟩ := id hs
  have hTs : s.TypeIs (.ref sl) "slice" := ⟨os, hos, hcs⟩
  unfold getItem
  try with_reducible refine wpAny_holding ?_
  first | refine wpAny_bind (wpAny_pure ?_) | skip
  refine wpAny_bind (wpAny_sequenceKey ht.typeIs (by decide) ?_)
  refine wpAny_bind (wpAny_callSpecial?_slot (name := Str.ofString "__getitem__") ht.typeIs PyProof.Rows.slot_tuple_getitem
    (wpAny_call_entry PyProof.Rows.slot_tuple_getitem ht.typeIs entry_tuple_getitem ?_ (args_tuple_getitem _ _)))
  show wpAny _ _ (Builtin.Tuple.tupleItemsOf (.ref t) >>= _) _ _ s
  refine wpAny_bind (tupleItemsOf_ ht ?_)
  refine wpAny_bind (wpAny_typeOf hTs ?_)
  rw [if_pos (by decide)]
  refine wpAny_bind ?_
  unfold Builtin.Slice.sliceApplied Builtin.Slice.sliceFields
  refine wpAny_bind (wpAny_bind (wpAny_field hos hds (x := vl) rfl (wpAny_bind (wpAny_field hos hds (x := vu) rfl (wpAny_bind (wpAny_field hos hds (x := vs) rfl (wpAny_pure ?_)))))))
  refine wpAny_bind (HT.slicePart_ ps ?_)
  show wpAny _ _ (if ((-1 : Int) == 0) = true then _ else _) _ _ s
  rw [if_neg (by decide)]
  refine wpAny_bind (HT.slicePart_ pl (wpAny_bind (HT.slicePart_ pu (wpAny_bind (wpAny_pure ?_)))))
  show wpAny _ _ (match Builtin.Slice.sliceAdjust none none (-1) ((items.size : Nat) : Int) with | (lo, hi) => pure (lo, (-1 : Int), Builtin.Slice.slicePlaces lo hi (-1))) _ _ s
  rw [adjust_rev]
  show wpAny _ _ (pure (((items.size : Nat) : Int) - 1, (-1 : Int), Builtin.Slice.slicePlaces (((items.size : Nat) : Int) - 1) (-1) (-1))) _ _ s
  rw [places_rev]
  refine wpAny_pure ?_
  have hno : ¬ (((((items.size : Nat) : Int) - 1) == 0 && (-1 : Int) == 1 && items.size == items.size) = true) := by
    intro q
    rw [Bool.and_eq_true, Bool.and_eq_true] at q
    exact absurd q.1.2 (by decide)
  show wpAny _ _ (if ((((items.size : Nat) : Int) - 1) == 0 && (-1 : Int) == 1 && items.size == items.size) = true then _ else _) _ _ s
  rw [if_neg hno, pick_rev]
  first
    | exact wpAny_bind (m := Builtin.Tuple.tupleExact _) (wpAny_newObj_type (wpAny_pure ⟨_, rfl, wpAny_pure h⟩) htake)
    | exact wpAny_bind (m := Builtin.Tuple.tupleExact _) (wpAny_newObj_type (wpAny_bind (wpAny_pure (wpAny_pure ⟨_, rfl, wpAny_pure h⟩))) htake)
    | exact wpAny_bind (wpAny_bind (m := Builtin.Tuple.tupleExact _) (wpAny_newObj_type (wpAny_pure (wpAny_pure ⟨_, rfl, wpAny_pure h⟩)) htake))
    | exact wpAny_bind (wpAny_bind (m := Builtin.Tuple.tupleExact _) (wpAny_newObj_type (wpAny_pure ⟨_, rfl, wpAny_pure h⟩) htake))
end
def uRevT (K : Fg) (te : TE) : TE := fun σ H Q => te σ H fun x H1 => match x with
  | .ref a => ∃ xs, SqT K H1 a xs ∧ ∀ p, H1 p = none → Q (.ref p) (upd H1 p (.tup xs.reverse))
  | _ => False
theorem krevT {X : Cx} (K : Fg) {e : Expr} {te : TE} {k : Nat} {p1 p2 p3 pos : Pos} (he : PE X e te) (hK : X.K = K := by rfl) : PE X (.Subscript e (.Slice none none (some (.UnaryOp .USub (.Constant (.int 1) k p1) p2)) p3) pos) (uRevT K te) := by
  subst hK
  refine ⟨fun pins s σ H Q I h => ?_⟩
  refine Subscript_ (thn (he.run pins s σ H _ I h) fun v s1 ⟨x, H1, I1, r1, q1⟩ => ?_)
  cases x with
  | ref a =>
    obtain ⟨xs, hx, q⟩ := q1
    cases r1
    have hst : PO X (some (.UnaryOp .USub (.Constant (.int 1) k p1) p2)) (tPart (tUn (rU fun i => .int (-i)) (tC (.int 1)))) := po_some (pe_un un_neg pe_int)
    refine wpAny_Slice (thn (po_none.run pins s1 σ H1 (fun o H2 => o = none ∧ H2 = H1) I1 ⟨rfl, rfl⟩) fun vl s2 ⟨l, H2, I2, pl, el, e2⟩ => ?_)
    subst el e2
    refine thn (po_none.run pins s2 σ H2 (fun o H3 => o = none ∧ H3 = H2) I2 ⟨rfl, rfl⟩) fun vu s3 ⟨u, H3, I3, pu, eu, e3⟩ => ?_
    subst eu e3
    refine thn (hst.run pins s3 σ H3 (fun o H4 => o = some (-1) ∧ H4 = H3) I3 ⟨1, rfl, -1, rfl, rfl, rfl⟩) fun vs s4 ⟨o, H4, I4, ps, eo, e4⟩ => ?_
    subst eo e4
    have I5 : Inv X pins σ H4 { s4 with heap := s4.heap.push { cls := .type "slice", data := .fields #[vl, vu, vs] } } := I4.kept (t' := s4.toks) fun b ob q => Heap.get?_push_of_some _ q
    obtain ⟨its, r, ht, hz⟩ := I5.tuple hx
    have hlen := r.length
    show wpAny (model X.prog X.w) X.A (subscriptTail e (.Slice none none (some (.UnaryOp .USub (.Constant (.int 1) k p1) p2)) p3) (.ref a) (.ref s4.heap.objs.size)) (EP X pins σ Q) X.xe { s4 with heap := s4.heap.push { cls := .type "slice", data := .fields #[vl, vu, vs] } }
    refine tail_any (ops := [.ref a, .ref s4.heap.objs.size]) ht.typeIs (PyProof.Rows.slot_tuple_getitem.lookup) ?_ (by with_unfolding_all rfl)
    refine getItem_tuple_rev ht (Heap.IsSliceOf.new _ vl vu vs) pl pu ps ?_ (by rw [List.size_toArray]; omega)
    refine ⟨.ref _, _, I5.laid (t' := s4.toks) (o := .tup xs.reverse) (fun b ob q => Heap.get?_push_of_some _ q) (Nat.le_refl _) ?_, rfl, q _ (I5.hok.fresh (Nat.le_refl _))⟩
    exact ⟨by rw [List.length_reverse]; exact hz, _, r.reverse, ⟨_, Heap.get?_push_size _ rfl, rfl, _, rfl⟩⟩
  | _ => exact q1.elim
end Sk
/-! Sk: patches of a text, in plain lists -/
namespace Sk
open PySem PySem.Spec PyProof.Rows L2
abbrev Pt := Nat × Nat × Str
def okP (len : Nat) : Nat → List Pt → Prop
  | d, [] => d ≤ len
  | d, (s, e, n) :: r => d ≤ s ∧ s ≤ e ∧ e ≤ len ∧ (s < e ∨ n ≠ "") ∧ n.length ≤ 1000 ∧ okP len e r
def endP : Nat → List Pt → Nat
  | d, [] => d
  | _, (_, e, _) :: r => endP e r
def pcs (cs : List Nat) : Nat → List Pt → List Str
  | _, [] => []
  | d, (s, e, n) :: r => (mkS ((cs.drop d).take (s - d)) ++ n) :: pcs cs e r
def fwdP (cs : List Nat) (d : Nat) (ps : List Pt) : List Nat := ((pcs cs d ps).map fun z => z.cps.toList).flatten ++ cs.drop (endP d ps)
def bwP (cs : List Nat) : List Pt → List Nat
  | [] => cs
  | (s, e, n) :: r => (bwP cs r).take s ++ n.cps.toList ++ (bwP cs r).drop e
theorem okP_le {len : Nat} : ∀ {ps : List Pt} {d : Nat}, okP len d ps → d ≤ len ∧ d ≤ endP d ps ∧ endP d ps ≤ len
  | [], d, h => ⟨h, Nat.le_refl _, h⟩
  | (s, e, n) :: r, d, h => by
    obtain ⟨h1, h2, h3, _, _, h5⟩ := h
    obtain ⟨a, b, c⟩ := okP_le h5
    refine ⟨by omega, ?_, c⟩
    show d ≤ endP e r
    omega
theorem app_cps (a b : Str) : (a ++ b).cps.toList = a.cps.toList ++ b.cps.toList := app_list a b
theorem fwd_bw {cs : List Nat} : ∀ {ps : List Pt} {d : Nat}, okP cs.length d ps → bwP cs ps = cs.take d ++ fwdP cs d ps
  | [], d, h => (List.take_append_drop d cs).symm
  | (s, e, n) :: r, d, h => by
    obtain ⟨h1, h2, h3, _, _, h5⟩ := h
    have ih := fwd_bw h5
    have l1 : (cs.take e).length = e := by rw [List.length_take]; omega
    show (bwP cs r).take s ++ n.cps.toList ++ (bwP cs r).drop e = _
    rw [ih]
    have t1 : (cs.take e ++ fwdP cs e r).take s = cs.take s := by
      rw [List.take_append_of_le_length (by omega), List.take_take, Nat.min_eq_left h2]
    have t2 : (cs.take e ++ fwdP cs e r).drop e = fwdP cs e r := by
      rw [List.drop_append_of_le_length (by omega), List.drop_of_length_le (by omega), List.nil_append]
    have t3 : cs.take s = cs.take d ++ (cs.drop d).take (s - d) := by
      have : s = d + (s - d) := by omega
      rw [this, List.take_add]
      congr 2
      omega
    rw [t1, t2, t3]
    show _ = cs.take d ++ (((mkS ((cs.drop d).take (s - d)) ++ n).cps.toList :: (pcs cs e r).map fun z => z.cps.toList).flatten ++ cs.drop (endP e r))
    rw [List.flatten_cons, app_cps, mk_list]
    unfold fwdP
    simp only [List.append_assoc]
theorem okP_app {len : Nat} : ∀ {l r : List Pt} {d : Nat}, okP len d (l ++ r) → okP len (endP d l) r
  | [], r, d, h => h
  | (s, e, n) :: l, r, d, h => okP_app (l := l) h.2.2.2.2.2
theorem endP_app : ∀ (l r : List Pt) (d : Nat), endP d (l ++ r) = endP (endP d l) r
  | [], _, _ => rfl
  | (_, e, _) :: l, r, _ => endP_app l r e
theorem pcs_app (cs : List Nat) : ∀ (l r : List Pt) (d : Nat), pcs cs d (l ++ r) = pcs cs d l ++ pcs cs (endP d l) r
  | [], _, _ => rfl
  | (s, e, n) :: l, r, d => by
    show _ :: pcs cs e (l ++ r) = _
    rw [pcs_app cs l r e]
    rfl
theorem pcs_sum {cs : List Nat} {len : Nat} : ∀ {ps : List Pt} {d : Nat}, okP len d ps → ((pcs cs d ps).map (·.length)).sum ≤ (cs.length + 1000) * ps.length
  | [], d, _ => Nat.le_refl _
  | (s, e, n) :: r, d, h => by
    have ih := pcs_sum (cs := cs) h.2.2.2.2.2
    have hn := h.2.2.2.2.1
    show (mkS ((cs.drop d).take (s - d)) ++ n).length + ((pcs cs e r).map (·.length)).sum ≤ (cs.length + 1000) * (r.length + 1)
    rw [app_len, mk_len, List.length_take, List.length_drop, Nat.mul_succ]
    omega
theorem join_pcs (cs : List Nat) (d : Nat) (ps : List Pt) (x : Str) (h : x.cps.toList = cs.drop (endP d ps)) : Txt.join "" (pcs cs d ps) ++ x = mkS (fwdP cs d ps) := by
  refine mk_eq ?_
  rw [app_list, join_empty rfl, h]
  rfl
theorem okP_snoc {len : Nat} {s e : Nat} {n : Str} : ∀ {ps : List Pt} {d : Nat}, okP len d ps → endP d ps ≤ s → s ≤ e → e ≤ len → (s < e ∨ n ≠ "") → n.length ≤ 1000 → okP len d (ps ++ [(s, e, n)])
  | [], d, h, h1, h2, h3, h4, h5 => ⟨h1, h2, h3, h4, h5, h3⟩
  | (s', e', n') :: r, d, h, h1, h2, h3, h4, h5 => ⟨h.1, h.2.1, h.2.2.1, h.2.2.2.1, h.2.2.2.2.1, okP_snoc h.2.2.2.2.2 h1 h2 h3 h4 h5⟩
theorem okP_mem {len : Nat} : ∀ {ps : List Pt} {d : Nat} {p : Pt}, okP len d ps → p ∈ ps → p.1 ≤ len ∧ p.2.1 ≤ len ∧ p.2.2.length ≤ 1000
  | (s, e, n) :: r, d, p, h, hm => by
    obtain ⟨h1, h2, h3, h4, h5, h6⟩ := h
    rcases List.mem_cons.mp hm with rfl | hm
    · exact ⟨by omega, h3, h5⟩
    · exact okP_mem h6 hm
theorem okP_at {len : Nat} : ∀ {ps : List Pt} {d i : Nat} {p : Pt}, okP len d ps → ps[i]? = some p → p.1 ≤ p.2.1 ∧ p.2.2.length ≤ 1000
  | (s, e, n) :: r, d, 0, p, h, hm => by
    have e1 : (s, e, n) = p := by simpa using hm
    rw [← e1]
    exact ⟨h.2.1, h.2.2.2.2.1⟩
  | (s, e, n) :: r, d, i + 1, p, h, hm => okP_at h.2.2.2.2.2 (by simpa using hm)
/-- a new object, the heap named anew -/
theorem lay_of {H G : Hp} {q : Addr} {o : HO} (hG : upd H q o = G) (n : H q = none) : Same H G ∧ G q = some o ∧ H q = none := by
  subst hG
  exact ⟨same_new n, upd_same, n⟩
/-- the patches in the heap -/
inductive PtsV (H : Hp) : List V → List Pt → Prop
  | nil : PtsV H [] []
  | cons {a : Addr} {s e : Nat} {n : Str} {vs : List V} {ps : List Pt} : H a = some (.tup [.int s, .int e, .str n]) → PtsV H vs ps → PtsV H (.ref a :: vs) ((s, e, n) :: ps)
theorem PtsV.on {H H' : Hp} (s : Same H H') : ∀ {vs : List V} {ps : List Pt}, PtsV H vs ps → PtsV H' vs ps
  | _, _, .nil => .nil
  | _, _, .cons h r => .cons (s _ _ h) (r.on s)
theorem PtsV.len {H : Hp} : ∀ {vs : List V} {ps : List Pt}, PtsV H vs ps → vs.length = ps.length
  | _, _, .nil => rfl
  | _, _, .cons _ r => by rw [List.length_cons, List.length_cons, r.len]
theorem PtsV.at {H : Hp} : ∀ {vs : List V} {ps : List Pt} {i : Nat} {x : V}, PtsV H vs ps → vs[i]? = some x → ∃ a s e n, x = .ref a ∧ H a = some (.tup [.int (s : Nat), .int (e : Nat), .str n]) ∧ ps[i]? = some (s, e, n)
  | _, _, i, x, .nil, h => by simp at h
  | _, _, 0, x, .cons (a := a) (s := s) (e := e) (n := n) h r, h2 => by
    have e1 : V.ref a = x := by simpa using h2
    exact ⟨a, s, e, n, e1.symm, h, rfl⟩
  | _, _, i + 1, x, .cons h r, h2 => r.at (by simpa using h2)
theorem PtsV.snoc {H : Hp} {a : Addr} {s e : Nat} {n : Str} (h : H a = some (.tup [.int s, .int e, .str n])) : ∀ {vs : List V} {ps : List Pt}, PtsV H vs ps → PtsV H (vs ++ [.ref a]) (ps ++ [(s, e, n)])
  | _, _, .nil => .cons h .nil
  | _, _, .cons h2 r => .cons h2 (r.snoc h)
theorem PtsV.dp {K : Fg} {H : Hp} : ∀ {vs : List V} {ps : List Pt}, PtsV H vs ps → DpAll K H vs (ps.map fun p => .tuple [.int (p.1 : Nat), .int (p.2.1 : Nat), .str p.2.2])
  | _, _, .nil => .nil
  | _, _, .cons h r => .cons (.tup (sqT_of h) (.cons (.int _) (.cons (.int _) (.cons (.str _) .nil)))) r.dp
/-! ### the promise of patched -/
def patchB (s e : Int) (n : Str) (lo hi : Int) : Bool := decide (lo ≤ s) && (decide (s ≤ e) && (decide (e ≤ hi) && (decide (s < e) || !decide (V.str n = V.str ""))))
/-- what is_patch tells of v -/
def PatB (H : Hp) (v : V) (lo hi : Int) (b : Bool) : Prop :=
  (∃ t, Kn H v t ∧ t ≠ .tup ∧ b = false) ∨ ∃ p xs, v = .ref p ∧ H p = some (.tup xs) ∧
    ((xs.length ≠ 3 ∧ b = false) ∨ ∃ x y z tx ty tz, xs = [x, y, z] ∧ Kn H x tx ∧ Kn H y ty ∧ Kn H z tz ∧
      ((tz ≠ .str ∧ b = false) ∨ (tz = .str ∧ tx ≠ .int ∧ b = false) ∨ (tz = .str ∧ tx = .int ∧ ty ≠ .int ∧ b = false) ∨ ∃ s e n, x = .int s ∧ y = .int e ∧ z = .str n ∧ b = patchB s e n lo hi))
theorem PatB.on {H H' : Hp} {v : V} {lo hi : Int} {b : Bool} (s : Same H H') (h : PatB H v lo hi b) : PatB H' v lo hi b := by
  rcases h with ⟨t, kn, r⟩ | ⟨p, xs, e, hp, h⟩
  · exact .inl ⟨t, kn.on s, r⟩
  · refine .inr ⟨p, xs, e, s _ _ hp, ?_⟩
    rcases h with h | ⟨x, y, z, tx, ty, tz, e2, k1, k2, k3, h⟩
    · exact .inl h
    · exact .inr ⟨x, y, z, tx, ty, tz, e2, k1.on s, k2.on s, k3.on s, h⟩
def spPd (CT CP : Addr) : Sp := fun vs H Q E =>
  (∃ t x ty, vs = [t, x] ∧ Kn H t ty ∧ ty ≠ .str ∧ ∀ d, H d = none → E (.ref CT) (some d) (xUpd H d "written" t)) ∨
  (∃ z x ty, vs = [.str z, x] ∧ Kn H x ty ∧ ty ≠ .tup ∧ ∀ d, H d = none → E (.ref CP) (some d) (xUpd H d "index" .non)) ∨
  ∃ z p us rest ps, vs = [.str z, .ref p] ∧ H p = some (.tup (us ++ rest)) ∧ PtsV H us ps ∧ okP z.length 0 ps ∧ z.length ≤ 1000 ∧ ps.length + rest.length ≤ 40 ∧
    ((rest = [] ∧ ∀ H', Same H H' → Q (.str (mkS (fwdP z.cps.toList 0 ps))) H') ∨
     ∃ b r, rest = b :: r ∧ PatB H b ((endP 0 ps : Nat) : Int) ((z.length : Nat) : Int) false ∧ ∀ H' d, Same H H' → H' d = none → E (.ref CP) (some d) (xUpd H' d "index" (.int ((ps.length : Nat) : Int))))
end Sk
/-! Sk: heaps without their tables -/
namespace Sk
open PySem PySem.Spec PyProof.Rows L2
/-- the heap without the tables of code objects -/
def noT (H : Hp) : Hp := fun b => match H b with
  | some (.tbl _) => none
  | o => o
theorem noT_sub {H : Hp} : Same (noT H) H := fun b o h => by
  unfold noT at h
  split at h
  · cases h
  · exact h
theorem noT_get {H : Hp} {b : Addr} {o : HO} (h : H b = some o) (n : ∀ ps, o ≠ .tbl ps) : noT H b = some o := by
  unfold noT
  split
  · rename_i ps e
    rw [h] at e
    exact (n ps (Option.some.inj e)).elim
  · exact h
/-- a heap without tables -/
def NoT (B : Hp) : Prop := ∀ b ps, B b ≠ some (.tbl ps)
theorem noT_no (H : Hp) : NoT (noT H) := fun b ps h => by
  unfold noT at h
  split at h
  · cases h
  · rename_i hh
    exact hh ps h
theorem NoT.ext {B H H1 : Hp} (n : NoT B) (s : Same B H) (e : LamX.ExtN H H1) : Same B H1 := fun b o h => e b o (s b o h) fun ps z => n b ps (by rw [h, z])
theorem NoT.up {B : Hp} (n : NoT B) {p : Addr} {o : HO} (h : ∀ ps, o ≠ .tbl ps) : NoT (upd B p o) := fun b ps e => by
  by_cases hb : b = p
  · rw [hb, upd_same] at e
    exact h ps (Option.some.inj e)
  · rw [upd_ne hb] at e
    exact n b ps e
/-- what is no table and not at a stays -/
def KeepN (a : Addr) (H H' : Hp) : Prop := ∀ b o, b ≠ a → (∀ ps, o ≠ .tbl ps) → H b = some o → H' b = some o
theorem KeepN.of {a : Addr} {H H3 H' : Hp} (k : Keep a H H3) (s : Same (noT H3) H') : KeepN a H H' := fun b o nb nt h => s b o (noT_get (k b o nb h) nt)
theorem tabs_keep {T : List (Addr × Str)} {a : Addr} {H H' : Hp} (pl : Pool H a) (k : Keep a H H') (t : LamX.Tabs T H) : LamX.Tabs T H' := by
  intro p hp
  obtain ⟨ps, h1, h2, h3⟩ := t p hp
  obtain ⟨s, d, n, hq, _⟩ := pl
  refine ⟨ps, k _ _ (fun z => by rw [z, hq] at h1; cases h1) h1, h2, fun pos cv hc => ?_⟩
  obtain ⟨c, e1, e2⟩ := h3 pos cv hc
  refine ⟨c, e1, k _ _ (fun z => ?_) e2⟩
  rw [z, hq] at e2
  have e3 : HO.lst _ = LamX.CodeO a p.2 := Option.some.inj e2
  unfold LamX.CodeO at e3
  cases e3
theorem strs_one : ∀ {ys : List V}, (∀ (i : Nat) (y : V), ys[i]? = some y → ∃ z : Str, y = .str z ∧ z.length = 1) → ∃ zs : List Str, ys = zs.map V.str ∧ (zs.map (·.length)).sum = ys.length
  | [], _ => ⟨[], rfl, rfl⟩
  | y :: ys, h => by
    obtain ⟨z, e, l⟩ := h 0 y rfl
    obtain ⟨zs, e2, l2⟩ := strs_one (ys := ys) fun i y hy => h (i + 1) y (by simpa using hy)
    refine ⟨z :: zs, by rw [e, e2]; rfl, ?_⟩
    rw [List.map_cons, List.sum_cons, l, l2, List.length_cons]
    omega
theorem atI_last {α : Type} (xs : List α) (x : α) : atI (xs ++ [x]) (-1) = some x := by
  unfold atI ixN
  rw [if_neg (by decide), List.length_append]
  rw [if_pos (by simp; omega)]
  show (xs ++ [x])[_]? = some x
  rw [show (-1 + ((xs.length + [x].length : Nat) : Int)).toNat = xs.length by simp; omega]
  simp
theorem PtsV.last {H : Hp} : ∀ {us : List V} {ps : List Pt}, PtsV H us ps → ps ≠ [] → ∃ us' a ps' s e n, us = us' ++ [.ref a] ∧ ps = ps' ++ [(s, e, n)] ∧ H a = some (.tup [.int (s : Nat), .int (e : Nat), .str n])
  | _, _, .nil, h => (h rfl).elim
  | _, _, .cons (a := a) (s := s) (e := e) (n := n) h .nil, _ => ⟨[], a, [], s, e, n, rfl, rfl, h⟩
  | _, _, .cons (a := a) (s := s) (e := e) (n := n) h (.cons h2 r), _ => by
    obtain ⟨us', b, ps', s', e', n', e1, e2, h3⟩ := PtsV.last (.cons h2 r) (by simp)
    exact ⟨.ref a :: us', b, (s, e, n) :: ps', s', e', n', by rw [e1]; rfl, by rw [e2]; rfl, h3⟩
theorem eqvP (ps : List Pt) : PyData.eqv (.tuple (ps.map fun p => .tuple [.int (p.1 : Nat), .int (p.2.1 : Nat), .str p.2.2])) (.tuple []) = ps.isEmpty := by
  cases ps with
  | nil => rfl
  | cons x r => rfl
theorem shpP (ps : List Pt) : shp (.tuple (ps.map fun p => .tuple [.int (p.1 : Nat), .int (p.2.1 : Nat), .str p.2.2])) = true := by
  have h1 : ∀ ps : List Pt, PyData.plainAll (ps.map fun p => .tuple [.int (p.1 : Nat), .int (p.2.1 : Nat), .str p.2.2]) = true := fun ps => by
    induction ps with
    | nil => rfl
    | cons x r ih => exact ih
  have h2 : ∀ ps : List Pt, PyData.depthAll (ps.map fun p => .tuple [.int (p.1 : Nat), .int (p.2.1 : Nat), .str p.2.2]) ≤ 2 := fun ps => by
    induction ps with
    | nil => exact Nat.zero_le _
    | cons x r ih => exact Nat.max_le.mpr ⟨Nat.le_of_ble_eq_true rfl, ih⟩
  unfold shp
  rw [Bool.and_eq_true]
  refine ⟨h1 ps, decide_eq_true ?_⟩
  have := h2 ps
  show _ + 1 ≤ 64
  omega
theorem pts_noT {H : Hp} : ∀ {vs : List V} {ps : List Pt}, PtsV H vs ps → PtsV (noT H) vs ps
  | _, _, .nil => .nil
  | _, _, .cons h r => .cons (noT_get h fun _ z => by cases z) (pts_noT r)
theorem kn_noT {H : Hp} {v : V} {t : Ty7} (h : Kn H v t) : Kn (noT H) v t := by
  cases t with
  | lst => obtain ⟨p, xs, rfl, h⟩ := h; exact ⟨p, xs, rfl, noT_get h fun _ z => by cases z⟩
  | tup => obtain ⟨p, xs, rfl, h⟩ := h; exact ⟨p, xs, rfl, noT_get h fun _ z => by cases z⟩
  | dic => obtain ⟨p, xs, rfl, h⟩ := h; exact ⟨p, xs, rfl, noT_get h fun _ z => by cases z⟩
  | _ => exact h
theorem patB_noT {H : Hp} {v : V} {lo hi : Int} {b : Bool} (h : PatB H v lo hi b) : PatB (noT H) v lo hi b := by
  rcases h with ⟨t, kn, r⟩ | ⟨p, xs, e, hp, h⟩
  · exact .inl ⟨t, kn_noT kn, r⟩
  · refine .inr ⟨p, xs, e, noT_get hp (fun _ z => by cases z), ?_⟩
    rcases h with h | ⟨x, y, z, tx, ty, tz, e2, k1, k2, k3, h⟩
    · exact .inl h
    · exact .inr ⟨x, y, z, tx, ty, tz, e2, kn_noT k1, kn_noT k2, kn_noT k3, h⟩
end Sk
/-! Sk: what _law_caught makes of wrong patches -/
namespace Sk
open PySem PySem.Spec PyProof.Rows L2
theorem uV {σ : L2.St} {i : Nat} {v : V} (h : σ[i]? = some (some v)) {H : Hp} {Q : VK} (q : Q v H) : uVar i σ H Q := by
  unfold uVar
  rw [h]
  exact q
section
variable {K : Fg} {CT CP : Addr} {σ : L2.St} {H1 : Hp} {Q0 : VK}
theorem xupd_same {H : Hp} {d : Addr} {f : Str} {v : V} (n : H d = none) : Same H (xUpd H d f v) := same_new n
/-- an error of patched, caught -/
theorem caughtE {C : Addr} {j : Nat} {f : Str} {v : V} {G : Hp} {d : Addr} (kd : KindAt K C j) (ef : errFs j = [f]) (n : G d = none) (hq : ∀ pz H', Same G H' → H' pz = some (.lst [.str (errW j), v]) → Q0 (.ref pz) H') : eCaught K Q0 (.ref C) (some d) (xUpd G d f v) := by
  refine ⟨C, j, d, [(f, v)], [v], rfl, kd, rfl, upd_same, ?_, fun p H' s _ h => hq p H' ((xupd_same n).trans s) h⟩
  rw [ef]
  unfold valsOf valsOf
  rw [show List.lookup f [(f, v)] = some v by simp [List.lookup]]
/-- row + (odd,) + more -/
theorem caughtA (kd : KindAt K CP 11) {z : Str} {p tm : Addr} {us r : List V} {ps : List Pt} {x : V} (h7 : σ[7]? = some (some (.str z))) (h6 : σ[6]? = some (some (.ref p))) (h5 : σ[5]? = some (some x)) (h4 : σ[4]? = some (some (.ref tm)))
    (hp : H1 p = some (.tup us)) (hm : H1 tm = some (.tup r)) (hv : PtsV H1 us ps) (ok : okP z.length 0 ps) (lz : z.length ≤ 1000) (ll : ps.length + r.length ≤ 30) (pb : PatB H1 x ((endP 0 ps : Nat) : Int) ((z.length : Nat) : Int) false)
    (hq : ∀ pz H', Same H1 H' → H' pz = some (.lst [.str (errW 11), .int ((ps.length : Nat) : Int)]) → Q0 (.ref pz) H') :
    TCaught K (fun E H' Q' => tCall (spPd CT CP) [] E (tCons (uVar 7) (tCons (tOp (rPlus K) (tOp (rPlus K) (uVar 6) (tTup (tCons (uVar 5) tNil))) (uVar 4)) tNil)) σ H' Q') H1 Q0 := by
  have leaf : ∀ {px : Addr} {G : Hp} {QR : VK}, Same H1 G → G px = some (.tup (us ++ (x :: r))) → spPd CT CP [.str z, .ref px] G QR (eCaught K Q0) := fun {px G QR} s h =>
    .inr (.inr ⟨z, px, us, x :: r, ps, rfl, h, hv.on s, ok, lz, by rw [List.length_cons]; omega, .inr ⟨x, r, rfl, pb.on s, fun H' d s2 nd => caughtE kd rfl nd fun pz H3 s3 h3 => hq pz H3 ((s.trans s2).trans s3) h3⟩⟩)
  have second : ∀ {v : Addr} {G : Hp} {QR : VK}, Same H1 G → G v = some (.tup (us ++ [x])) → rPlus K (.ref v) (.ref tm) G (fun w H' => spPd CT CP [.str z, w] H' QR (eCaught K Q0)) := fun {v G QR} s h => by
    refine .inr ⟨v, tm, us ++ [x], r, rfl, rfl, sqT_of h, sqT_of (s _ _ hm), ?_, fun e => ?_, fun _ e => ?_, fun _ _ q n => ?_⟩
    · rw [List.length_append, List.length_singleton, hv.len, sizeLine_eq]
      omega
    · exact absurd e (by simp)
    · subst e
      exact leaf s (by rw [h])
    · refine leaf (s.trans (same_new n)) ?_
      rw [upd_same, List.append_assoc]
      rfl
  dsimp only [TCaught, tCall, tCons, tOp, tTup, tNil]
  refine uV h7 ?_
  refine uV h6 ?_
  refine uV h5 ?_
  refine ⟨Nat.le_of_ble_eq_true rfl, fun t3 n3 => ?_⟩
  refine .inr ⟨p, t3, us, [x], rfl, rfl, sqT_of (same_new n3 _ _ hp), sqT_of upd_same, ?_, fun e => ?_, fun _ e => ?_, fun _ _ q n => ?_⟩
  · rw [List.length_singleton, hv.len, sizeLine_eq]
    omega
  · subst e
    exact uV h4 (second (same_new n3) upd_same)
  · cases e
  · exact uV h4 (second ((same_new n3).trans (same_new n)) upd_same)
/-- patched(word, odd), odd no tuple or a tuple of no patch -/
theorem caughtB (kd : KindAt K CP 11) {z : Str} {x : V} (h7 : σ[7]? = some (some (.str z))) (h5 : σ[5]? = some (some x)) (lz : z.length ≤ 1000) {i : V}
    (hx : (i = .non ∧ ∃ t, Kn H1 x t ∧ t ≠ .tup) ∨ (i = .int 0 ∧ ∃ p b r, x = .ref p ∧ H1 p = some (.tup (b :: r)) ∧ r.length ≤ 10 ∧ PatB H1 b 0 ((z.length : Nat) : Int) false))
    (hq : ∀ pz H', Same H1 H' → H' pz = some (.lst [.str (errW 11), i]) → Q0 (.ref pz) H') :
    TCaught K (fun E H' Q' => tCall (spPd CT CP) [] E (tCons (uVar 7) (tCons (uVar 5) tNil)) σ H' Q') H1 Q0 := by
  dsimp only [TCaught, tCall, tCons, tOp, tTup, tNil]
  refine uV h7 ?_
  refine uV h5 ?_
  rcases hx with ⟨rfl, t, kn, ne⟩ | ⟨rfl, p, b, r, rfl, hp, lr, pb⟩
  · exact .inr (.inl ⟨z, x, t, rfl, kn, ne, fun d nd => caughtE kd rfl nd hq⟩)
  · exact .inr (.inr ⟨z, p, [], b :: r, [], rfl, hp, .nil, Nat.zero_le _, lz, by rw [List.length_nil, List.length_cons]; omega, .inr ⟨b, r, rfl, pb, fun H' d s2 nd => caughtE kd rfl nd fun pz H3 s3 h3 => hq pz H3 (s2.trans s3) h3⟩⟩)
/-- patched(odd, y), odd no text -/
theorem caughtC (kd : KindAt K CT 1) {x y : V} {t : Ty7} {ty : TE} (h5 : σ[5]? = some (some x)) (hy : ∀ (H : Hp) (Q : VK), Q y H → ty σ H Q) (kn : Kn H1 x t) (ne : t ≠ .str)
    (hq : ∀ pz H', Same H1 H' → H' pz = some (.lst [.str (errW 1), x]) → Q0 (.ref pz) H') :
    TCaught K (fun E H' Q' => tCall (spPd CT CP) [] E (tCons (uVar 5) (tCons ty tNil)) σ H' Q') H1 Q0 := by
  dsimp only [TCaught, tCall, tCons, tNil]
  refine uV h5 ?_
  refine hy _ _ ?_
  exact .inl ⟨x, y, t, rfl, kn, ne, fun d nd => caughtE kd rfl nd hq⟩
end
end Sk
namespace Sk
open PySem PySem.Spec PyProof.Rows L2
theorem reprTwo {H' : Hp} {pz : Addr} {w0 : Str} {v : V} {d : PyData} {Q : VK} (h : H' pz = some (.lst [.str w0, v])) (dl : DL H' v d) (sh : ShD d 300 3) (hw : ShD (.str w0) 300 3) (q : Q (.str (PyData.shown (.list [.str w0, d]))) H') : rReprL [.ref pz] H' Q := by
  have s := ShD.list (ShL.of (ds := [.str w0, d]) (w := 300) (k := 3) fun x hx => by
    rcases List.mem_cons.mp hx with rfl | hx
    · exact hw
    · rcases List.mem_cons.mp hx with rfl | hx
      · exact sh
      · cases hx)
  refine ⟨.list [.str w0, d], .lst h (.cons (.str _) (.cons dl .nil)), s.1, Nat.le_trans s.2.1 ?_, Nat.le_trans s.2.2 (by decide), q⟩
  rw [sizeLine_eq]
  show 2 * (300 + 2) + 3 ≤ _
  decide
theorem errW11 : errW 11 = "patches" := rfl
theorem errW1 : errW 1 = "text" := rfl
theorem shW11 : ShD (.str "patches") 300 3 := ⟨rfl, by decide +kernel, by decide +kernel⟩
theorem shW1 : ShD (.str "text") 300 3 := ⟨rfl, by decide +kernel, by decide +kernel⟩
/-- things that are no patches of a text of that length, and the index that is told -/
def OddB (H : Hp) (len : Int) (v i : V) : Prop := (i = .non ∧ ∃ t, Kn H v t ∧ t ≠ .tup) ∨ (i = .int 0 ∧ ∃ p b r, v = .ref p ∧ H p = some (.tup (b :: r)) ∧ r.length ≤ 10 ∧ PatB H b 0 len false)
theorem OddB.on {H H' : Hp} {len : Int} {v i : V} (s : Same H H') (h : OddB H len v i) : OddB H' len v i := by
  rcases h with ⟨e, t, kn, ne⟩ | ⟨e, p, b, r, e2, hp, lr, pb⟩
  · exact .inl ⟨e, t, kn.on s, ne⟩
  · exact .inr ⟨e, p, b, r, e2, s _ _ hp, lr, pb.on s⟩
/-- things that are no texts, with their data -/
def OddT (H : Hp) (v : V) : Prop := ∃ t d, Kn H v t ∧ t ≠ .str ∧ DL H v d ∧ ShD d 300 3
theorem OddT.on {H H' : Hp} {v : V} (s : Same H H') (h : OddT H v) : OddT H' v := by
  obtain ⟨t, d, kn, ne, dl, sh⟩ := h
  exact ⟨t, d, kn.on s, ne, dl.same s, sh⟩
/-- the heap and the tables at a place of a loop -/
def At (T : List (Addr × Str)) (B H : Hp) : Prop := Same B H ∧ LamX.Tabs T H
theorem At.up {T : List (Addr × Str)} {B H H' : Hp} (h : At T B H) (s : Same H H') : At T B H' := ⟨h.1.trans s, h.2.ext s⟩
theorem At.lam {T : List (Addr × Str)} {B H H1 : Hp} (n : NoT B) (h : At T B H) (e : LamX.ExtN H H1) (t : LamX.Tabs T H1) : At T B H1 := ⟨n.ext h.1 e, t⟩
theorem At.base {T : List (Addr × Str)} {B H : Hp} (h : At T B H) : At T (noT H) H := ⟨noT_sub, h.2⟩
theorem At.sub {T : List (Addr × Str)} {B H H' : Hp} (n : NoT B) (h : At T B H) (k : At T (noT H) H') : At T B H' := ⟨fun b o hb => k.1 b o (noT_get (h.1 b o hb) fun ps z => n b ps (by rw [hb, z])), k.2⟩
end Sk
namespace Sk
open PySem PySem.Spec PyProof.Rows L2
theorem oddB_noT {H : Hp} {len : Int} {v i : V} (h : OddB H len v i) : OddB (noT H) len v i := by
  rcases h with ⟨e, t, kn, ne⟩ | ⟨e, p, b, r, e2, hp, lr, pb⟩
  · exact .inl ⟨e, t, kn_noT kn, ne⟩
  · exact .inr ⟨e, p, b, r, e2, noT_get hp (fun _ z => by cases z), lr, patB_noT pb⟩
mutual
theorem dl_noT {H : Hp} : ∀ {v : V} {d : PyData}, DL H v d → DL (noT H) v d
  | _, _, .non => .non
  | _, _, .bl b => .bl b
  | _, _, .int i => .int i
  | _, _, .str x => .str x
  | _, _, .lst h a => .lst (noT_get h fun _ z => by cases z) (dls_noT a)
  | _, _, .tup h a => .tup (noT_get h fun _ z => by cases z) (dls_noT a)
  | _, _, .dic h a b => .dic (noT_get h fun _ z => by cases z) (dls_noT a) (dls_noT b)
theorem dls_noT {H : Hp} : ∀ {v : List V} {d : List PyData}, DLs H v d → DLs (noT H) v d
  | _, _, .nil => .nil
  | _, _, .cons a b => .cons (dl_noT a) (dls_noT b)
end
theorem oddT_noT {H : Hp} {v : V} (h : OddT H v) : OddT (noT H) v := by
  obtain ⟨t, d, kn, ne, dl, sh⟩ := h
  exact ⟨t, d, kn_noT kn, ne, dl_noT dl, sh⟩
theorem kitT {K : Fg} {t : Ty7} (ne : t ≠ .tup) : PySem.W.kitOne K (.type t.nm) (.type "tuple") = some false := by
  cases t with
  | tup => exact (ne rfl).elim
  | _ => rfl
theorem shNon : ShD .none 300 3 := (ShD.non (k := 3)).mono (by decide) (Nat.le_refl _)
theorem shInt {i : Int} (h : i.natAbs ≤ 10) : ShD (.int i) 300 3 := (ShD.int (Nat.le_trans h (by decide))).mono (by decide) (Nat.le_refl _)
end Sk
/-! Sk: what the program's questions answer of any data (values, trees), in plain Lean -/
namespace Sk
open PySem PySem.Spec PyProof.Rows L2
/-- the kind of data -/
def tyD : PyData → Ty7
  | .none => .non
  | .bool _ => .bl
  | .int _ => .int
  | .str _ => .str
  | .list _ => .lst
  | .tuple _ => .tup
  | .dict _ => .dic
theorem DL.kn {H : Hp} {v : V} {d : PyData} (h : DL H v d) : Kn H v (tyD d) := by
  cases h with
  | non => exact rfl
  | bl b => exact ⟨b, rfl⟩
  | int i => exact ⟨i, rfl⟩
  | str x => exact ⟨x, rfl⟩
  | lst h _ => exact ⟨_, _, rfl, h⟩
  | tup h _ => exact ⟨_, _, rfl, h⟩
  | dic h _ _ => exact ⟨_, _, rfl, h⟩
def isStrD : PyData → Bool
  | .str _ => true
  | _ => false
def nameD : PyData → Bool
  | .str z => Nat.blt 0 z.length && (Nat.blt z.length 13 && z.cps.toList.all low)
  | _ => false
def textsD : PyData → Bool
  | .tuple ds => ds.all isStrD
  | _ => false
def pairD : PyData → Bool
  | .tuple [k, v] => nameD k && isStrD v
  | _ => false
def pairsD : PyData → Bool
  | .tuple ds => ds.all pairD
  | _ => false
def emptyT : PyData → Bool
  | .tuple [] => true
  | _ => false
def addrD : PyData → Bool
  | .tuple [a, b] => textsD a && (!emptyT a && pairsD b)
  | _ => false
def eqL (z w : Str) : Bool := z.cps.toList == w.cps.toList
theorem eqL_dec (z w : Str) : decide (V.str z = V.str w) = eqL z w := by
  unfold eqL
  cases h : z.cps.toList == w.cps.toList with
  | true =>
    have e : z = w := str_ext (by simpa using h)
    rw [e]
    simp
  | false =>
    refine decide_eq_false fun e => ?_
    cases e
    simp at h
def isS (w : Str) : PyData → Bool
  | .str z => eqL z w
  | _ => false
def attD : PyData → Bool
  | .tuple [k, v] => nameD k && (if isS "href" k then addrD v else isStrD v)
  | _ => false
def attsD : PyData → Bool
  | .tuple ds => ds.all attD
  | _ => false
def fullD : PyData → Bool
  | .str z => !eqL z ""
  | _ => false
def tnodeD : PyData → Bool
  | .tuple [k, v] => isS "text" k && fullD v
  | _ => false
def noTwoD : List PyData → Bool
  | [] => true
  | [_] => true
  | x :: y :: r => !(tnodeD x && tnodeD y) && noTwoD (y :: r)
/-- is it a value of at most n levels -/
def levD : Nat → PyData → Bool
  | 0, .none => true
  | 0, .bool _ => true
  | 0, .int _ => true
  | 0, .str _ => true
  | 0, _ => false
  | _ + 1, .none => true
  | _ + 1, .bool _ => true
  | _ + 1, .int _ => true
  | _ + 1, .str _ => true
  | _ + 1, .list _ => false
  | n + 1, .tuple ds => Nat.ble ds.length 60 && ds.all (levD n)
  | n + 1, .dict kvs => kvs.all fun p => nameD p.1 && levD n p.2
def dataD : List PyData → Bool
  | [v] => levD 6 v
  | _ => false
def restD (k : PyData) (r : List PyData) : Bool := if isS "data" k then dataD r else tnodeD (.tuple (k :: r))
def elemD (f : PyData → Bool) : List PyData → Bool
  | [a, b, c] => nameD a && (!isS "data" a && (attsD b && f c))
  | _ => false
def allD (f : PyData → Bool) : PyData → Bool
  | .tuple ds => ds.all f && noTwoD ds
  | _ => false
/-- is it a node with at most n elements in each other -/
def nodeD : Nat → PyData → Bool
  | 0, .tuple (k :: r) => if isS "element" k then false else restD k r
  | n + 1, .tuple (k :: r) => if isS "element" k then elemD (allD (nodeD n)) r else restD k r
  | _, _ => false
abbrev nodesD (n : Nat) : PyData → Bool := allD (nodeD n)
theorem nodeD_nil (n : Nat) : nodeD n (.tuple []) = false := by cases n <;> rfl
theorem nodeD_no (n : Nat) {d : PyData} (h : ∀ ds, d ≠ .tuple ds) : nodeD n d = false := by
  cases d with
  | tuple ds => exact absurd rfl (h ds)
  | _ => cases n <;> rfl
theorem tnode_head {k : PyData} {r : List PyData} (h : ∀ z, k ≠ .str z) : tnodeD (.tuple (k :: r)) = false := by
  have e : isS "text" k = false := by
    cases k with
    | str z => exact absurd rfl (h z)
    | _ => rfl
  cases r with
  | nil => rfl
  | cons v r =>
    cases r with
    | nil =>
      show (isS "text" k && fullD v) = false
      rw [e]
      rfl
    | cons _ _ => rfl
theorem nodeD_head (n : Nat) {k : PyData} {r : List PyData} (h : ∀ z, k ≠ .str z) : nodeD n (.tuple (k :: r)) = false := by
  have e : ∀ w, isS w k = false := fun w => by
    cases k with
    | str z => exact absurd rfl (h z)
    | _ => rfl
  have e2 : restD k r = false := by
    unfold restD
    rw [e, tnode_head h]
    rfl
  cases n with
  | zero =>
    show (if isS "element" k then false else restD k r) = false
    rw [e, e2]
    rfl
  | succ n =>
    show (if isS "element" k then elemD (allD (nodeD n)) r else restD k r) = false
    rw [e, e2]
    rfl
theorem nodeD_rest (n : Nat) {k : PyData} {r : List PyData} (h : isS "element" k = false) : nodeD n (.tuple (k :: r)) = restD k r := by
  cases n with
  | zero =>
    show (if isS "element" k then false else restD k r) = _
    rw [h]
    rfl
  | succ n =>
    show (if isS "element" k then elemD (allD (nodeD n)) r else restD k r) = _
    rw [h]
    rfl
theorem nodeD_elem (n : Nat) {k : PyData} {r : List PyData} (h : isS "element" k = true) : nodeD (n + 1) (.tuple (k :: r)) = elemD (nodesD n) r := by
  show (if isS "element" k then elemD (allD (nodeD n)) r else restD k r) = _
  rw [h]
  rfl
theorem nodeD_elem0 {k : PyData} {r : List PyData} (h : isS "element" k = true) : nodeD 0 (.tuple (k :: r)) = false := by
  show (if isS "element" k then false else restD k r) = _
  rw [h]
  rfl
/-- no two texts in a row, as a walk by pairs tells -/
theorem noTwo_any : ∀ ds : List PyData, ((ds.zip (ds.drop 1)).any fun p => tnodeD p.1 && tnodeD p.2) = !noTwoD ds
  | [] => rfl
  | [_] => rfl
  | x :: y :: r => by
    have ih := noTwo_any (y :: r)
    show ((tnodeD x && tnodeD y) || (((y :: r).zip ((y :: r).drop 1)).any fun p => tnodeD p.1 && tnodeD p.2)) = !(!(tnodeD x && tnodeD y) && noTwoD (y :: r))
    rw [ih]
    cases tnodeD x && tnodeD y <;> cases noTwoD (y :: r) <;> rfl
end Sk
/-! Sk: written data (nested displays of constants): what they are, as they stand in a heap; rows of them -/
namespace Sk
open PySem PySem.Spec PyProof.Rows L2
inductive Lit where
  | non
  | bl (b : Bool)
  | int (i : Int)
  | str (z : Str)
  | tup (ls : List Lit)
  | lst (ls : List Lit)
  | dic (ks : List Str) (ls : List Lit)
mutual
inductive Rep (H : Hp) : V → Lit → Prop
  | non : Rep H .non .non
  | bl (b : Bool) : Rep H (.bl b) (.bl b)
  | int (i : Int) : Rep H (.int i) (.int i)
  | str (z : Str) : Rep H (.str z) (.str z)
  | tup {a : Addr} {vs : List V} {ls : List Lit} : H a = some (.tup vs) → Reps H vs ls → Rep H (.ref a) (.tup ls)
  | lst {a : Addr} {vs : List V} {ls : List Lit} : H a = some (.lst vs) → Reps H vs ls → Rep H (.ref a) (.lst ls)
  | dic {a : Addr} {kvs : List (Key × V)} {ks : List Str} {ls : List Lit} : H a = some (.dK kvs) → kvs.map (·.1) = ks.map Sum.inr → Reps H (kvs.map (·.2)) ls → Rep H (.ref a) (.dic ks ls)
inductive Reps (H : Hp) : List V → List Lit → Prop
  | nil : Reps H [] []
  | cons {v : V} {vs : List V} {l : Lit} {ls : List Lit} : Rep H v l → Reps H vs ls → Reps H (v :: vs) (l :: ls)
end
mutual
theorem Rep.same {H H' : Hp} (s : Same H H') : ∀ {v : V} {l : Lit}, Rep H v l → Rep H' v l
  | _, _, .non => .non
  | _, _, .bl b => .bl b
  | _, _, .int i => .int i
  | _, _, .str z => .str z
  | _, _, .tup h r => .tup (s _ _ h) (Reps.same s r)
  | _, _, .lst h r => .lst (s _ _ h) (Reps.same s r)
  | _, _, .dic h k r => .dic (s _ _ h) k (Reps.same s r)
theorem Reps.same {H H' : Hp} (s : Same H H') : ∀ {vs : List V} {ls : List Lit}, Reps H vs ls → Reps H' vs ls
  | _, _, .nil => .nil
  | _, _, .cons h r => .cons (Rep.same s h) (Reps.same s r)
end
theorem Reps.length {H : Hp} : ∀ {vs : List V} {ls : List Lit}, Reps H vs ls → vs.length = ls.length
  | _, _, .nil => rfl
  | _, _, .cons _ h => congrArg (· + 1) h.length
theorem Reps.at {H : Hp} : ∀ {vs : List V} {ls : List Lit}, Reps H vs ls → ∀ (i : Nat) x, vs[i]? = some x → ∃ l, ls[i]? = some l ∧ Rep H x l
  | _, _, .nil, i, x, h => by simp at h
  | _, _, .cons h _, 0, x, e => by
    cases e
    exact ⟨_, rfl, h⟩
  | _, _, .cons _ h, i + 1, x, e => by
    obtain ⟨n, e1, e2⟩ := h.at i x (by simpa using e)
    exact ⟨n, by simpa using e1, e2⟩
theorem Reps.app {H : Hp} : ∀ {vs : List V} {ls : List Lit} {ws : List V} {ms : List Lit}, Reps H vs ls → Reps H ws ms → Reps H (vs ++ ws) (ls ++ ms)
  | _, _, _, _, .nil, r => r
  | _, _, _, _, .cons h t, r => .cons h (t.app r)
/-! ### what is written -/
def litEs (f : Expr → Option Lit) : List Expr → Option (List Lit)
  | [] => some []
  | e :: es => match f e with
    | some l => match litEs f es with
      | some ls => some (l :: ls)
      | none => none
    | none => none
def keyS : List (Option Expr) → Option (List Str)
  | [] => some []
  | some (.Constant (.str k) _ _) :: r => match keyS r with
    | some ks => some (k :: ks)
    | none => none
  | _ => none
def nodupS : List Str → Bool
  | [] => true
  | k :: r => !r.any (fun x => x.cps.toList == k.cps.toList) && nodupS r
def litE : Nat → Expr → Option Lit
  | 0, _ => none
  | n + 1, e => match e with
    | .Constant c _ _ => match c with
      | .none => some .non
      | .bool b => some (.bl b)
      | .int i => some (.int i)
      | .str z => some (.str z)
      | _ => none
    | .UnaryOp .USub (.Constant (.int i) _ _) _ => some (.int (-i))
    | .Tuple es _ _ => if Nat.ble es.length 1000 then (litEs (litE n) es).map .tup else none
    | .List es _ => if Nat.ble es.length 1000 then (litEs (litE n) es).map .lst else none
    | .Dict ks es _ => match keyS ks with
      | some zs => if Nat.ble zs.length 15 && (zs.length == es.length && nodupS zs) then (litEs (litE n) es).map (.dic zs) else none
      | none => none
    | _ => none
theorem newP_same {H H1 H2 : Hp} (s : Same H1 H2) : Same (newP H H1) (newP H H2) := fun b o e => by
  obtain ⟨e1, e2⟩ := newP_some e
  rw [newP_at e1]
  exact s b o e2
theorem newP_less' {H H1 H2 : Hp} (s : Same H H1) : Same (newP H1 H2) (newP H H2) := fun b o e => by
  obtain ⟨e1, e2⟩ := newP_some e
  rw [newP_at (s.free e1)]
  exact e2
theorem newP_sub {H H' : Hp} : Same (newP H H') H' := fun b o e => (newP_some e).2
theorem newP_hide {H H' : Hp} {L : Addr} {o : HO} (h : H L = some o) : Same (newP H H') (hide L H') := fun b u e => by
  obtain ⟨e1, e2⟩ := newP_some e
  rw [hide_ne (fun z => by rw [z, h] at e1; cases e1)]
  exact e2
def tLit (l : Lit) : TE := fun _ H Q => ∀ v H', Same H H' → Rep (newP H H') v l → Q v H'
def tLits (ls : List Lit) : TA := fun _ H Q => ∀ vs H', Same H H' → Reps (newP H H') vs ls → Q vs H'
theorem PAw {X : Cx} {es : List Expr} {t t' : TA} (h : PA X es t) (w : ∀ σ H Q, t' σ H Q → t σ H Q) : PA X es t' := ⟨fun pos pins s σ H Q I q => h.run pos pins s σ H Q I (w σ H Q q)⟩
theorem mergeK_new : ∀ (kvs more : List (Key × V)), ((kvs ++ more).map (·.1)).Nodup → mergeK kvs more = kvs ++ more
  | kvs, [], _ => by simp [mergeK]
  | kvs, p :: r, h => by
    have hn : kvs.any (fun q => decide (q.1 = p.1)) = false := by
      refine List.any_eq_false.mpr fun q hq => ?_
      intro e
      have e := of_decide_eq_true e
      rw [List.map_append] at h
      have := (List.nodup_append.mp h).2.2 q.1 (List.mem_map_of_mem hq) p.1 (by simp)
      exact this e
    have e : putK kvs p.1 p.2 = kvs ++ [p] := by
      unfold putK
      rw [if_neg (by rw [hn]; decide)]
    show mergeK (putK kvs p.1 p.2) r = _
    rw [e, mergeK_new (kvs ++ [p]) r (by rw [List.append_assoc]; exact h), List.append_assoc]
    rfl
theorem nodupS_ok : ∀ ks : List Str, nodupS ks = true → ks.Nodup
  | [], _ => List.nodup_nil
  | k :: r, h => by
    have h : (!r.any (fun x => x.cps.toList == k.cps.toList) && nodupS r) = true := h
    have h := Bool.and_eq_true_iff.mp h
    refine List.nodup_cons.mpr ⟨fun hm => ?_, nodupS_ok r h.2⟩
    have h1 : r.any (fun x => x.cps.toList == k.cps.toList) = false := by simpa using h.1
    have := List.any_eq_false.mp h1 k hm
    simp at this
section
variable {X : Cx}
theorem lit_star {n : Nat} {e : Expr} {l : Lit} (h : litE n e = some l) (es : List Expr) (env : Env) : starEach (e :: es) env = (false, eval e env) :: starEach es env := by
  cases n with
  | zero => cases h
  | succ n =>
    cases e with
    | Starred e pos => cases h
    | _ => rfl
theorem lits_of (n : Nat) (ih : ∀ e l, litE n e = some l → PE X e (tLit l)) : ∀ es ls, litEs (litE n) es = some ls → PA X es (tLits ls)
  | [], ls, h => by
    cases h
    exact PAw pa_nil fun σ H Q q => q [] H (Same.refl H) .nil
  | e :: es, ls, h => by
    unfold litEs at h
    split at h
    · rename_i l he
      split at h
      · rename_i ls' hes
        cases h
        refine PAw (pa_cons (ih e l he) (lits_of n ih es ls' hes) (lit_star he es X.env)) fun σ H Q q => ?_
        intro v H1 s1 r1 vs H2 s2 r2
        exact q (v :: vs) H2 (s1.trans s2) (.cons (r1.same (newP_same s2)) (r2.same (newP_less' s1)))
      · cases h
    · cases h
theorem pps_of (n : Nat) (pos : Pos) (ih : ∀ e l, litE n e = some l → PE X e (tLit l)) : ∀ ks zs es ls, keyS ks = some zs → litEs (litE n) es = some ls → zs.length = es.length →
    ∃ trs, PPs X pos ks es trs ∧ ∀ σ H (Q : List (V × V) → Hp → Prop), (∀ vs H', Same H H' → Reps (newP H H') vs ls → Q ((zs.map V.str).zip vs) H') → tPairs trs σ H Q
  | [], zs, es, ls, hk, he, hl => by
    cases hk
    cases es with
    | nil =>
      cases he
      exact ⟨_, pps_nil, fun σ H Q q => q [] H (Same.refl H) .nil⟩
    | cons _ _ => cases hl
  | k :: ks, zs, es, ls, hk, he, hl => by
    unfold keyS at hk
    split at hk
    · cases hk
      rename_i h
      cases h
    · rename_i kz i p r h1
      cases h1
      split at hk
      · rename_i zs' hk'
        cases hk
        cases es with
        | nil => cases hl
        | cons e es =>
          unfold litEs at he
          split at he
          · rename_i l hle
            split at he
            · rename_i ls' hes
              cases he
              obtain ⟨trs, d, t⟩ := pps_of n pos ih ks zs' es ls' hk' hes (by simpa using hl)
              refine ⟨_, pps_cons pe_str (ih e l hle) d, fun σ H Q q => ?_⟩
              intro v H1 s1 r1
              refine t σ H1 _ fun vs H2 s2 r2 => ?_
              exact q (v :: vs) H2 (s1.trans s2) (.cons (r1.same (newP_same s2)) (r2.same (newP_less' s1)))
            · cases he
          · cases he
      · cases hk
    · cases hk
theorem keyS_all : ∀ ks zs, keyS ks = some zs → ks.all (·.isSome) = true ∧ ks.length = zs.length
  | [], zs, h => by
    cases h
    exact ⟨rfl, rfl⟩
  | k :: ks, zs, h => by
    unfold keyS at h
    split at h
    · rename_i h1
      cases h1
    · rename_i kz i p r h1
      cases h1
      split at h
      · rename_i zs' hk'
        cases h
        obtain ⟨a, b⟩ := keyS_all ks zs' hk'
        exact ⟨by rw [List.all_cons, a]; rfl, by rw [List.length_cons, List.length_cons, b]⟩
      · cases h
    · cases h
theorem lits_len {f : Expr → Option Lit} : ∀ es ls, litEs f es = some ls → ls.length = es.length
  | [], ls, h => by
    cases h
    rfl
  | e :: es, ls, h => by
    unfold litEs at h
    split at h
    · split at h
      · rename_i hes
        cases h
        rw [List.length_cons, List.length_cons, lits_len es _ hes]
      · cases h
    · cases h
theorem lit_of : ∀ (n : Nat) (e : Expr) (l : Lit), litE n e = some l → PE X e (tLit l)
  | 0, e, l, h => by cases h
  | n + 1, e, l, h => by
    have ih := lit_of n
    unfold litE at h
    split at h
    · split at h
      · cases h
        exact PEw pe_non fun σ H Q q => q _ H (Same.refl H) .non
      · cases h
        exact PEw pe_bl fun σ H Q q => q _ H (Same.refl H) (.bl _)
      · cases h
        exact PEw pe_int fun σ H Q q => q _ H (Same.refl H) (.int _)
      · cases h
        exact PEw pe_str fun σ H Q q => q _ H (Same.refl H) (.str _)
      · cases h
    · cases h
      exact PEw (pe_un un_negU pe_int) fun σ H Q q => q _ H (Same.refl H) (.int _)
    · split at h
      · rename_i hl
        obtain ⟨ls, hs, rfl⟩ := Option.map_eq_some_iff.mp h
        refine PEw (pe_tup (lits_of n ih _ ls hs)) fun σ H Q q => ?_
        intro vs H1 s1 r1
        refine ⟨size_le ?_, fun p np => q _ _ (s1.trans (same_new np)) (.tup ?_ (r1.same (newP_same (same_new np))))⟩
        · have := r1.length
          have := lits_len _ _ hs
          have := Nat.le_of_ble_eq_true hl
          omega
        · rw [newP_at (s1.free np)]
          exact upd_same
      · cases h
    · split at h
      · rename_i hl
        obtain ⟨ls, hs, rfl⟩ := Option.map_eq_some_iff.mp h
        refine PEw (pe_lst (lits_of n ih _ ls hs)) fun σ H Q q => ?_
        intro vs H1 s1 r1
        refine ⟨size_le ?_, fun p np => q _ _ (s1.trans (same_new np)) (.lst ?_ (r1.same (newP_same (same_new np))))⟩
        · have := r1.length
          have := lits_len _ _ hs
          have := Nat.le_of_ble_eq_true hl
          omega
        · rw [newP_at (s1.free np)]
          exact upd_same
      · cases h
    · rename_i ks es pos
      split at h
      · rename_i zs hk
        split at h
        · rename_i hc
          have hc := Bool.and_eq_true_iff.mp hc
          have hc2 := Bool.and_eq_true_iff.mp hc.2
          have l15 := Nat.le_of_ble_eq_true hc.1
          have leq : zs.length = es.length := by simpa using hc2.1
          obtain ⟨ls, hs, rfl⟩ := Option.map_eq_some_iff.mp h
          obtain ⟨k1, k2⟩ := keyS_all ks zs hk
          have ll := lits_len _ _ hs
          cases hks : ks with
          | nil =>
            subst hks
            cases zs with
            | nil =>
              cases es with
              | nil =>
                cases hs
                refine PEw pe_dnewK fun σ H Q q => ?_
                intro d nd
                exact q _ _ (same_new nd) (.dic (kvs := []) (by rw [newP_at nd]; exact upd_same) rfl .nil)
              | cons _ _ => cases leq
            | cons _ _ => cases k2
          | cons k0 kr =>
            rw [← hks]
            obtain ⟨trs, d, t⟩ := pps_of n pos ih ks zs es ls hk hs leq
            refine PEw (pe_disp d k1 (by omega) (by rw [hks]; exact fun z => by cases z) (by omega)) fun σ H Q q => ?_
            intro p np
            refine t σ _ _ fun vs H2 s2 r2 => ?_
            have lv : vs.length = zs.length := by have := r2.length; omega
            have hp2 := s2 _ _ (upd_same (H := H) (a := p) (o := .dK []))
            have nd := nodupS_ok zs hc2.2
            refine ⟨hp2, (zs.map Sum.inr).zip vs, ?_, by rw [List.length_zip, List.length_map]; omega, ?_⟩
            · rw [List.map_zip_eq_zipWith, List.zip_eq_zipWith, List.zipWith_map_left, List.zipWith_map_left]
              rfl
            · have e1 : ((zs.map Sum.inr).zip vs).map (·.1) = zs.map (Sum.inr : Str → Key) := by
                rw [List.map_fst_zip]
                rw [List.length_map]
                omega
              have e2 : ((zs.map (Sum.inr : Str → Key)).zip vs).map (·.2) = vs := by
                rw [List.map_snd_zip]
                rw [List.length_map]
                omega
              have nd2 : (zs.map (Sum.inr : Str → Key)).Nodup := List.Pairwise.map Sum.inr (fun a b h e => h (Sum.inr.inj e)) nd
              rw [mergeK_new [] _ (by rw [List.nil_append, e1]; exact nd2), List.nil_append]
              have sH : Same H (upd H2 p (.dK ((zs.map Sum.inr).zip vs))) := fun b o hb => by
                rw [upd_ne (ne_of_none hb np)]
                exact s2 _ _ (same_new np _ _ hb)
              refine q _ _ sH (.dic (by rw [newP_at np]; exact upd_same) e1 ?_)
              rw [e2]
              refine r2.same fun b o hb => ?_
              obtain ⟨b1, b2⟩ := newP_some hb
              obtain ⟨b3, b4⟩ := upd_none b1
              rw [newP_at b4, upd_ne b3]
              exact b2
        · cases h
      · cases h
    · cases h
theorem pe_lit {e : Expr} {l : Lit} (h : litE 12 e = some l) : PE X e (tLit l) := lit_of 12 e l h
theorem pa_lits {es : List Expr} {ls : List Lit} (h : litEs (litE 12) es = some ls) : PA X es (tLits ls) := lits_of 12 (lit_of 12) es ls h
end
theorem hide_sub {L : Addr} {H : Hp} : Same (hide L H) H := fun b o h => (hide_some h).2
theorem hide_same {L : Addr} {H H' : Hp} (s : Same H H') : Same (hide L H) (hide L H') := fun b o e => by
  obtain ⟨e1, e2⟩ := hide_some e
  rw [hide_ne e1]
  exact s b o e2
theorem hide_new {L : Addr} {H : Hp} {o : HO} (n : H L = none) : Same H (hide L (upd H L o)) := fun b u e => by
  have ne := ne_of_none e n
  rw [hide_ne ne, upd_ne ne]
  exact e
theorem hide_upd {L : Addr} {H : Hp} {o : HO} : Same (hide L H) (hide L (upd H L o)) := fun b u e => by
  obtain ⟨e1, e2⟩ := hide_some e
  rw [hide_ne e1, upd_ne e1]
  exact e2
end Sk
/-! Sk: data of bounded size; what stands in a dict, told without it -/
namespace Sk
open PySem PySem.Spec PyProof.Rows L2
/-- data of bounded size, the keys of dicts told apart -/
inductive Sz : PyData → Prop
  | non : Sz .none
  | bl (b : Bool) : Sz (.bool b)
  | int (i : Int) : Sz (.int i)
  | str {z : Str} : z.length ≤ 1000 → Sz (.str z)
  | lst {ds : List PyData} : ds.length ≤ 1000 → (∀ d ∈ ds, Sz d) → Sz (.list ds)
  | tup {ds : List PyData} : ds.length ≤ 1000 → (∀ d ∈ ds, Sz d) → Sz (.tuple ds)
  | dic {ds : List (PyData × PyData)} : ds.length ≤ 1000 → (ds.map (·.1)).Nodup → (∀ p ∈ ds, Sz p.1) → (∀ p ∈ ds, Sz p.2) → Sz (.dict ds)
theorem Sz.text {z : Str} (h : Sz (.str z)) : z.length ≤ 1000 := by cases h; assumption
theorem Sz.tupL {ds : List PyData} (h : Sz (.tuple ds)) : ds.length ≤ 1000 := by cases h; assumption
theorem Sz.tupE {ds : List PyData} (h : Sz (.tuple ds)) : ∀ d ∈ ds, Sz d := by cases h; assumption
theorem pairs_ext {α β : Type} : ∀ {xs ys : List (α × β)}, xs.map (·.1) = ys.map (·.1) → xs.map (·.2) = ys.map (·.2) → xs = ys
  | [], [], _, _ => rfl
  | [], _ :: _, h, _ => by cases h
  | _ :: _, [], h, _ => by cases h
  | (a, b) :: xs, (c, d) :: ys, h1, h2 => by
    injection h1 with a1 a2
    injection h2 with b1 b2
    have a1 : a = c := a1
    have b1 : b = d := b1
    rw [a1, b1, pairs_ext a2 b2]
mutual
theorem DL.uniq {H : Hp} : ∀ {v : V} {d e : PyData}, DL H v d → DL H v e → d = e
  | _, _, _, .non, k => by cases k; rfl
  | _, _, _, .bl b, k => by cases k; rfl
  | _, _, _, .int i, k => by cases k; rfl
  | _, _, _, .str z, k => by cases k; rfl
  | _, _, _, .lst h a, k => by
    cases k with
    | lst h2 b => rw [h] at h2; cases h2; rw [DLs.uniq a b]
    | tup h2 b => rw [h] at h2; cases h2
    | dic h2 b c => rw [h] at h2; cases h2
  | _, _, _, .tup h a, k => by
    cases k with
    | lst h2 b => rw [h] at h2; cases h2
    | tup h2 b => rw [h] at h2; cases h2; rw [DLs.uniq a b]
    | dic h2 b c => rw [h] at h2; cases h2
  | _, _, _, .dic h a a2, k => by
    cases k with
    | lst h2 b => rw [h] at h2; cases h2
    | tup h2 b => rw [h] at h2; cases h2
    | dic h2 b b2 => rw [h] at h2; cases h2; rw [pairs_ext (DLs.uniq a b) (DLs.uniq a2 b2)]
theorem DLs.uniq {H : Hp} : ∀ {v : List V} {d e : List PyData}, DLs H v d → DLs H v e → d = e
  | _, _, _, .nil, k => by cases k; rfl
  | _, _, _, .cons a b, k => by
    cases k with
    | cons c e => rw [DL.uniq a c, DLs.uniq b e]
end
theorem size_fst : ∀ ds : List (PyData × PyData), sizeOf (ds.map (·.1)) ≤ sizeOf ds
  | [] => Nat.le_refl _
  | (a, b) :: r => by
    have := size_fst r
    simp only [List.map_cons, List.cons.sizeOf_spec, Prod.mk.sizeOf_spec]
    omega
theorem size_snd : ∀ ds : List (PyData × PyData), sizeOf (ds.map (·.2)) ≤ sizeOf ds
  | [] => Nat.le_refl _
  | (a, b) :: r => by
    have := size_snd r
    simp only [List.map_cons, List.cons.sizeOf_spec, Prod.mk.sizeOf_spec]
    omega
mutual
theorem DL.hid {H : Hp} {a : Addr} {d0 : PyData} (h0 : DL H (.ref a) d0) : ∀ {v : V} {d : PyData}, DL H v d → sizeOf d < sizeOf d0 → DL (hide a H) v d
  | _, _, .non, _ => .non
  | _, _, .bl b, _ => .bl b
  | _, _, .int i, _ => .int i
  | _, _, .str z, _ => .str z
  | _, _, .lst (a := b) (ds := ds) h k, l => by
    have ne : b ≠ a := fun z => by
      subst z
      rw [DL.uniq (.lst h k) h0] at l
      omega
    have e : sizeOf (PyData.list ds) = 1 + sizeOf ds := by simp
    exact .lst ((hide_ne ne).trans h) (DLs.hid h0 k (by omega))
  | _, _, .tup (a := b) (ds := ds) h k, l => by
    have ne : b ≠ a := fun z => by
      subst z
      rw [DL.uniq (.tup h k) h0] at l
      omega
    have e : sizeOf (PyData.tuple ds) = 1 + sizeOf ds := by simp
    exact .tup ((hide_ne ne).trans h) (DLs.hid h0 k (by omega))
  | _, _, .dic (a := b) (ds := ds) h k k2, l => by
    have ne : b ≠ a := fun z => by
      subst z
      rw [DL.uniq (.dic h k k2) h0] at l
      omega
    have e : sizeOf (PyData.dict ds) = 1 + sizeOf ds := by simp
    have e1 := size_fst ds
    have e2 := size_snd ds
    exact .dic ((hide_ne ne).trans h) (DLs.hid h0 k (by omega)) (DLs.hid h0 k2 (by omega))
theorem DLs.hid {H : Hp} {a : Addr} {d0 : PyData} (h0 : DL H (.ref a) d0) : ∀ {v : List V} {d : List PyData}, DLs H v d → sizeOf d < sizeOf d0 → DLs (hide a H) v d
  | _, _, .nil, _ => .nil
  | _, _, .cons (d := d) (ds := ds) k r, l => by
    have e : sizeOf (d :: ds) = 1 + sizeOf d + sizeOf ds := by simp
    exact .cons (DL.hid h0 k (by omega)) (DLs.hid h0 r (by omega))
end
/-- the parts of a dict stand in the heap without it -/
theorem DL.parts {H : Hp} {a : Addr} {kvs : List (Key × V)} {ds : List (PyData × PyData)} (h : H a = some (.dK kvs)) (k : DLs H (kvs.map fun p => kV p.1) (ds.map (·.1))) (k2 : DLs H (kvs.map (·.2)) (ds.map (·.2))) : DLs (hide a H) (kvs.map (·.2)) (ds.map (·.2)) := by
  have e : sizeOf (PyData.dict ds) = 1 + sizeOf ds := by simp
  have e2 := size_snd ds
  exact DLs.hid (.dic h k k2) k2 (by omega)
/-- the keys of a dict are told apart -/
theorem keys_nd {H : Hp} : ∀ {kvs : List (Key × V)} {ds : List PyData}, DLs H (kvs.map fun p => kV p.1) ds → ds.Nodup → (kvs.map (·.1)).Nodup
  | [], _, _, _ => List.nodup_nil
  | (k, v) :: r, _, .cons (d := d) (ds := ds) h t, n => by
    obtain ⟨n1, n2⟩ := List.nodup_cons.mp n
    refine List.nodup_cons.mpr ⟨fun m => n1 ?_, keys_nd t n2⟩
    obtain ⟨p, hp, e⟩ := List.mem_map.mp m
    have e : p.1 = k := e
    obtain ⟨i, hi, e2⟩ := List.mem_iff_getElem.mp hp
    have e3 : (r.map fun p => kV p.1)[i]? = some (kV k) := by
      rw [List.getElem?_map, List.getElem?_eq_getElem hi, e2, Option.map_some, e]
    obtain ⟨d', e4, h4⟩ := t.at i _ e3
    rw [DL.uniq h h4]
    exact List.mem_of_getElem? e4
theorem dls_flat {H H' : Hp} : ∀ {kvs : List (Key × V)} {ds : List PyData}, DLs H (kvs.map fun p => kV p.1) ds → DLs H' (kvs.map fun p => kV p.1) ds
  | [], _, .nil => .nil
  | (.inl i, v) :: r, _, .cons h t => by
    have h : DL H (.int i) _ := h
    cases h
    exact .cons (.int i) (dls_flat t)
  | (.inr z, v) :: r, _, .cons h t => by
    have h : DL H (.str z) _ := h
    cases h
    exact .cons (.str z) (dls_flat t)
theorem bls_map {α : Type} {f : α → Bool} : ∀ {ds : List α} {ys : List V}, ys.length = ds.length → (∀ (i : Nat) (y : V), ys[i]? = some y → ∃ d, ds[i]? = some d ∧ y = .bl (f d)) → ys = (ds.map f).map V.bl
  | [], [], _, _ => rfl
  | [], _ :: _, h, _ => by cases h
  | _ :: _, [], h, _ => by cases h
  | d :: ds, y :: ys, l, h => by
    obtain ⟨d', e, rfl⟩ := h 0 y rfl
    have e : d = d' := by simpa using e
    subst e
    rw [bls_map (ds := ds) (ys := ys) (f := f) (by simpa using l) fun i z hz => h (i + 1) z (by simpa using hz)]
    rfl
theorem all_id {α : Type} {f : α → Bool} (ds : List α) : (ds.map f).all id = ds.all f := by rw [List.all_map]; rfl
theorem any_id {α : Type} {f : α → Bool} (ds : List α) : (ds.map f).any id = ds.any f := by rw [List.any_map]; rfl
/-! ### written data -/
mutual
def litD : Lit → PyData
  | .non => .none
  | .bl b => .bool b
  | .int i => .int i
  | .str z => .str z
  | .tup ls => .tuple (litDs ls)
  | .lst ls => .list (litDs ls)
  | .dic ks ls => .dict ((ks.map PyData.str).zip (litDs ls))
def litDs : List Lit → List PyData
  | [] => []
  | l :: ls => litD l :: litDs ls
end
theorem zip_fst {α β : Type} : ∀ {xs : List α} {ys : List β}, xs.length = ys.length → (xs.zip ys).map (·.1) = xs
  | [], [], _ => rfl
  | [], _ :: _, h => by cases h
  | _ :: _, [], h => by cases h
  | x :: xs, y :: ys, h => by
    show x :: (xs.zip ys).map (·.1) = _
    rw [zip_fst (by simpa using h)]
theorem zip_snd {α β : Type} : ∀ {xs : List α} {ys : List β}, xs.length = ys.length → (xs.zip ys).map (·.2) = ys
  | [], [], _ => rfl
  | [], _ :: _, h => by cases h
  | _ :: _, [], h => by cases h
  | x :: xs, y :: ys, h => by
    show y :: (xs.zip ys).map (·.2) = _
    rw [zip_snd (by simpa using h)]
theorem dls_keys {H : Hp} : ∀ ks : List Str, DLs H (ks.map fun k => kV (.inr k)) (ks.map PyData.str)
  | [] => .nil
  | k :: r => .cons (.str k) (dls_keys r)
mutual
theorem Rep.dl {H : Hp} : ∀ {v : V} {l : Lit}, Rep H v l → DL H v (litD l)
  | _, _, .non => .non
  | _, _, .bl b => .bl b
  | _, _, .int i => .int i
  | _, _, .str z => .str z
  | _, _, .tup h r => .tup h (Reps.dl r)
  | _, _, .lst h r => .lst h (Reps.dl r)
  | _, _, .dic (kvs := kvs) (ks := ks) (ls := ls) h k r => by
    have d := Reps.dl r
    have l1 : kvs.length = ks.length := by
      have := congrArg List.length k
      rw [List.length_map, List.length_map] at this
      exact this
    have l2 : (ks.map PyData.str).length = (litDs ls).length := by
      rw [← d.len, List.length_map, List.length_map, l1]
    refine .dic h ?_ ?_
    · rw [zip_fst l2]
      have e : (kvs.map fun p => kV p.1) = ks.map fun k => kV (.inr k) := by
        have := congrArg (List.map kV) k
        rw [List.map_map, List.map_map] at this
        exact this
      rw [e]
      exact dls_keys ks
    · rw [zip_snd l2]
      exact d
theorem Reps.dl {H : Hp} : ∀ {v : List V} {l : List Lit}, Reps H v l → DLs H v (litDs l)
  | _, _, .nil => .nil
  | _, _, .cons a b => .cons (Rep.dl a) (Reps.dl b)
end
/-- a check of sizes -/
def szB : Nat → PyData → Bool
  | 0, _ => false
  | n + 1, d => match d with
    | .none => true
    | .bool _ => true
    | .int _ => true
    | .str z => Nat.ble z.length 1000
    | .list ds => Nat.ble ds.length 1000 && ds.all (szB n)
    | .tuple ds => Nat.ble ds.length 1000 && ds.all (szB n)
    | .dict [] => true
    | .dict [(a, b)] => szB n a && szB n b
    | _ => false
theorem szB_ok : ∀ (n : Nat) (d : PyData), szB n d = true → Sz d
  | 0, _, h => by cases h
  | n + 1, d, h => by
    unfold szB at h
    split at h
    · exact .non
    · exact .bl _
    · exact .int _
    · exact .str (Nat.le_of_ble_eq_true h)
    · rw [Bool.and_eq_true, List.all_eq_true] at h
      exact .lst (Nat.le_of_ble_eq_true h.1) fun d hd => szB_ok n d (h.2 d hd)
    · rw [Bool.and_eq_true, List.all_eq_true] at h
      exact .tup (Nat.le_of_ble_eq_true h.1) fun d hd => szB_ok n d (h.2 d hd)
    · exact .dic (Nat.zero_le _) List.nodup_nil (fun p hp => by cases hp) (fun p hp => by cases hp)
    · rw [Bool.and_eq_true] at h
      refine .dic (by simp) (by simp) (fun p hp => ?_) (fun p hp => ?_)
      · rw [List.mem_singleton.mp hp]
        exact szB_ok n _ h.1
      · rw [List.mem_singleton.mp hp]
        exact szB_ok n _ h.2
    · cases h
end Sk
/-! Sk: trees as data; how much a repr takes, part by part -/
namespace Sk
open PySem PySem.Spec PyProof.Rows L2
/-! ### repr -/
theorem tupleText_ge (ts : List Str) : (ts.map (·.length)).sum + 2 * ts.length ≤ (tupleText ts).length := by
  cases ts with
  | nil => exact Nat.zero_le _
  | cons x r =>
    have h := join_length_add (x :: r) (by simp)
    have e : piled (x :: r) = ((x :: r).map (·.length)).sum + 2 * (x :: r).length := by
      have : ∀ ts : List Str, piled ts = (ts.map (·.length)).sum + 2 * ts.length := by
        intro ts
        induction ts with
        | nil => rfl
        | cons y t ih =>
          simp only [piled, List.map_cons, List.sum_cons, List.length_cons] at *
          omega
      exact this _
    unfold tupleText
    rw [app_len, app_len]
    have e1 : ("(" : Str).length = 1 := rfl
    have e2 : 1 ≤ (Str.ofString (if (x :: r).length == 1 then ",)" else ")" : String)).length := by split <;> decide
    rw [e1]
    omega
theorem ShL.inv {ds : List PyData} {w k : Nat} (h : ShD (.tuple ds) w (k + 1)) : ShL ds w k := by
  refine ⟨h.1, ?_, Nat.le_of_succ_le_succ h.2.2⟩
  have := tupleText_ge (PyData.shownAll ds)
  exact Nat.le_trans this h.2.1
theorem ShL.nil {k : Nat} : ShL [] 0 k := ⟨rfl, Nat.le_refl _, Nat.zero_le _⟩
theorem ShL.cons {d : PyData} {ds : List PyData} {w w' k : Nat} (h : ShD d w k) (t : ShL ds w' k) : ShL (d :: ds) (w + 2 + w') k := by
  obtain ⟨h1, h2, h3⟩ := h
  obtain ⟨t1, t2, t3⟩ := t
  refine ⟨?_, ?_, ?_⟩
  · show (d.showable && PyData.showableAll ds) = true
    rw [h1, t1]
    rfl
  · show ((d.shown :: PyData.shownAll ds).map (·.length)).sum + 2 * (d.shown :: PyData.shownAll ds).length ≤ _
    rw [List.map_cons, List.sum_cons, List.length_cons]
    omega
  · show max d.depth (PyData.depthAll ds) ≤ _
    omega
theorem ShL.uncons {d : PyData} {ds : List PyData} {w k : Nat} (h : ShL (d :: ds) w k) : ShD d w k ∧ ShL ds w k ∧ ∃ a b, ShD d a k ∧ ShL ds b k ∧ a + 2 + b = w := by
  obtain ⟨h1, h2, h3⟩ := h
  have h1 : (d.showable && PyData.showableAll ds) = true := h1
  obtain ⟨a1, b1⟩ := Bool.and_eq_true_iff.mp h1
  have h2 : ((d.shown :: PyData.shownAll ds).map (·.length)).sum + 2 * (d.shown :: PyData.shownAll ds).length ≤ w := h2
  rw [List.map_cons, List.sum_cons, List.length_cons] at h2
  have h3 : max d.depth (PyData.depthAll ds) ≤ k := h3
  refine ⟨⟨a1, by omega, by omega⟩, ⟨b1, by omega, by omega⟩, d.shown.length, w - 2 - d.shown.length, ⟨a1, Nat.le_refl _, by omega⟩, ⟨b1, by omega, by omega⟩, by omega⟩
theorem ShL.mono {ds : List PyData} {w k w' k' : Nat} (h : ShL ds w k) (hw : w ≤ w') (hk : k ≤ k') : ShL ds w' k' := ⟨h.1, Nat.le_trans h.2.1 hw, Nat.le_trans h.2.2 hk⟩
theorem ShL.app {k : Nat} : ∀ {ds es : List PyData} {w w' : Nat}, ShL ds w k → ShL es w' k → ShL (ds ++ es) (w + w') k
  | [], es, w, w', _, t => t.mono (by omega) (Nat.le_refl _)
  | d :: ds, es, w, w', h, t => by
    obtain ⟨_, _, a, b, ha, hb, e⟩ := h.uncons
    exact (ShL.cons ha (ShL.app hb t)).mono (by omega) (Nat.le_refl _)
theorem ShL.take {k : Nat} : ∀ {ds : List PyData} {w : Nat} (i : Nat), ShL ds w k → ShL (ds.take i) w k
  | [], w, i, h => by rw [List.take_nil]; exact h
  | d :: ds, w, 0, h => ShL.nil.mono (Nat.zero_le _) (Nat.le_refl _)
  | d :: ds, w, i + 1, h => by
    obtain ⟨_, _, a, b, ha, hb, e⟩ := h.uncons
    rw [List.take_succ_cons]
    exact (ShL.cons ha (ShL.take i hb)).mono (by omega) (Nat.le_refl _)
theorem ShL.drop {k : Nat} : ∀ {ds : List PyData} {w : Nat} (i : Nat), ShL ds w k → ShL (ds.drop i) w k
  | [], w, i, h => by rw [List.drop_nil]; exact h
  | d :: ds, w, 0, h => h
  | d :: ds, w, i + 1, h => by
    rw [List.drop_succ_cons]
    exact ShL.drop i h.uncons.2.1
theorem ShL.mem {k : Nat} : ∀ {ds : List PyData} {w : Nat} {d : PyData}, ShL ds w k → d ∈ ds → ShD d w k
  | [], _, _, _, m => by cases m
  | e :: ds, w, d, h, m => by
    obtain ⟨h1, h2, _⟩ := h.uncons
    rcases List.mem_cons.mp m with rfl | m
    · exact h1
    · exact ShL.mem h2 m
/-! ### data read back -/
theorem DL.tupI {H : Hp} {a : Addr} {vs : List V} {d : PyData} (h : H a = some (.tup vs)) (dl : DL H (.ref a) d) : ∃ ds, d = .tuple ds ∧ DLs H vs ds := by
  cases dl with
  | lst h2 _ => rw [h] at h2; cases h2
  | tup h2 k => rw [h] at h2; cases h2; exact ⟨_, rfl, k⟩
  | dic h2 _ _ => rw [h] at h2; cases h2
theorem DL.dicI {H : Hp} {a : Addr} {kvs : List (Key × V)} {d : PyData} (h : H a = some (.dK kvs)) (dl : DL H (.ref a) d) : ∃ ds, d = .dict ds ∧ DLs H (kvs.map fun p => kV p.1) (ds.map (·.1)) ∧ DLs H (kvs.map (·.2)) (ds.map (·.2)) := by
  cases dl with
  | lst h2 _ => rw [h] at h2; cases h2
  | tup h2 k => rw [h] at h2; cases h2
  | dic h2 k k2 => rw [h] at h2; cases h2; exact ⟨_, rfl, k, k2⟩
theorem DL.strI {H : Hp} {z : Str} {d : PyData} (dl : DL H (.str z) d) : d = .str z := by cases dl; rfl
theorem DLs.two {H : Hp} {x y : V} {ds : List PyData} (h : DLs H [x, y] ds) : ∃ a b, ds = [a, b] ∧ DL H x a ∧ DL H y b := by
  cases h with
  | cons h1 h => cases h with
    | cons h2 h => cases h; exact ⟨_, _, rfl, h1, h2⟩
theorem DLs.four {H : Hp} {x y z u : V} {ds : List PyData} (h : DLs H [x, y, z, u] ds) : ∃ a b c d, ds = [a, b, c, d] ∧ DL H x a ∧ DL H y b ∧ DL H z c ∧ DL H u d := by
  cases h with
  | cons h1 h => cases h with
    | cons h2 h => cases h with
      | cons h3 h => cases h with
        | cons h4 h => cases h; exact ⟨_, _, _, _, rfl, h1, h2, h3, h4⟩
theorem DLs.all {H : Hp} {P : PyData → Prop} : ∀ {vs : List V} {ds : List PyData}, DLs H vs ds → (∀ v ∈ vs, ∀ d, DL H v d → P d) → ∀ d ∈ ds, P d
  | _, _, .nil, _, d, m => by cases m
  | _, _, .cons h t, f, d, m => by
    rcases List.mem_cons.mp m with rfl | m
    · exact f _ (List.mem_cons_self ..) _ h
    · exact t.all (fun v hv => f v (List.mem_cons_of_mem _ hv)) d m
theorem keys_nd' {H : Hp} : ∀ {kvs : List (Key × V)} {ds : List PyData}, DLs H (kvs.map fun p => kV p.1) ds → (kvs.map (·.1)).Nodup → ds.Nodup
  | [], _, .nil, _ => List.nodup_nil
  | (k, v) :: r, _, .cons (d := d) (ds := ds) h t, n => by
    obtain ⟨n1, n2⟩ := List.nodup_cons.mp (show (k :: r.map (·.1)).Nodup from n)
    refine List.nodup_cons.mpr ⟨fun m => n1 ?_, keys_nd' t n2⟩
    have inj : ∀ {k k' : Key} {d : PyData}, DL H (kV k) d → DL H (kV k') d → k = k' := by
      intro k k' d h1 h2
      cases k with
      | inl i =>
        have h1 : DL H (.int i) d := h1
        cases h1
        cases k' with
        | inl j => have h2 : DL H (.int j) (.int i) := h2; cases h2; rfl
        | inr z => have h2 : DL H (.str z) (.int i) := h2; cases h2
      | inr z =>
        have h1 : DL H (.str z) d := h1
        cases h1
        cases k' with
        | inl j => have h2 : DL H (.int j) (.str z) := h2; cases h2
        | inr y => have h2 : DL H (.str y) (.str z) := h2; cases h2; rfl
    have back : ∀ {kvs : List (Key × V)} {ds : List PyData}, DLs H (kvs.map fun p => kV p.1) ds → d ∈ ds → k ∈ kvs.map (·.1) := by
      intro kvs
      induction kvs with
      | nil => intro ds h m; cases h; cases m
      | cons p r ih =>
        intro ds h2 m
        cases h2 with
        | cons a b =>
          rcases List.mem_cons.mp m with rfl | m
          · exact List.mem_cons.mpr (.inl (inj h a))
          · exact List.mem_cons.mpr (.inr (ih b m))
    exact back t m
theorem nameD_ok {w : Str} (h : NameOk w) : nameD (.str w) = true := by
  show (Nat.blt 0 w.length && (Nat.blt w.length 13 && w.cps.toList.all low)) = true
  rw [show Nat.blt 0 w.length = true from Nat.blt_eq.mpr (by have := h.1; omega), show Nat.blt w.length 13 = true from Nat.blt_eq.mpr (by have := h.2.1; omega), List.all_eq_true.mpr h.2.2]
  rfl
theorem flat_D {H : Hp} {v : V} {d : PyData} (h : FlatOk v) (dl : DL H v d) (n : Nat) : levD n d = true ∧ Sz d := by
  cases dl with
  | non => exact ⟨by cases n <;> rfl, .non⟩
  | bl b => exact ⟨by cases n <;> rfl, .bl b⟩
  | int i => exact ⟨by cases n <;> rfl, .int i⟩
  | str z => exact ⟨by cases n <;> rfl, .str (Nat.le_trans h.1 (by decide))⟩
  | _ => exact h.elim
theorem good_D {H : Hp} : ∀ (n : Nat) (v : V) (d : PyData), GoodV H n v → DL H v d → levD n d = true ∧ Sz d
  | 0, v, d, h, dl => flat_D h dl 0
  | n + 1, v, d, h, dl => by
    rcases h with h | ⟨a, vs, rfl, h1, h2, h3⟩ | ⟨a, kvs, rfl, h1, h2, h3⟩
    · exact flat_D h dl _
    · obtain ⟨ds, rfl, k⟩ := dl.tupI h1
      have al := k.all (P := fun d => levD n d = true ∧ Sz d) fun v hv d hd => good_D n v d (h3 v hv) hd
      have len := k.len
      refine ⟨?_, .tup (by omega) fun d hd => (al d hd).2⟩
      show (Nat.ble ds.length 60 && ds.all (levD n)) = true
      rw [Nat.ble_eq_true_of_le (by omega), List.all_eq_true.mpr fun d hd => (al d hd).1]
      rfl
    · obtain ⟨ds, rfl, k, k2⟩ := dl.dicI h1
      have al := k2.all (P := fun d => levD n d = true ∧ Sz d) fun v hv d hd => by
        obtain ⟨p, hp, rfl⟩ := List.mem_map.mp hv
        exact good_D n p.2 d (h3 p hp) hd
      have ak := k.all (P := fun d => nameD d = true ∧ Sz d) fun v hv d hd => by
        obtain ⟨p, hp, rfl⟩ := List.mem_map.mp hv
        obtain ⟨w, e, ok⟩ := h2.2.2 p hp
        rw [e] at hd
        have hd : DL H (.str w) d := hd
        cases hd
        exact ⟨nameD_ok ok, .str (Nat.le_trans ok.2.1 (by decide))⟩
      have len : kvs.length = ds.length := by
        have := k.len
        rw [List.length_map, List.length_map] at this
        exact this
      have l3 := h2.1
      refine ⟨?_, .dic (by omega) (keys_nd' k h2.2.1) (fun p hp => (ak p.1 (List.mem_map.mpr ⟨p, hp, rfl⟩)).2) fun p hp => (al p.2 (List.mem_map.mpr ⟨p, hp, rfl⟩)).2⟩
      show (ds.all fun p => nameD p.1 && levD n p.2) = true
      refine List.all_eq_true.mpr fun p hp => ?_
      rw [(ak p.1 (List.mem_map.mpr ⟨p, hp, rfl⟩)).1, (al p.2 (List.mem_map.mpr ⟨p, hp, rfl⟩)).1]
      rfl
theorem texts_D {H : Hp} : ∀ {zs : List Str} {ds : List PyData}, DLs H (zs.map V.str) ds → ds = zs.map PyData.str
  | [], _, .nil => rfl
  | z :: r, _, .cons h t => by
    rw [h.strI, texts_D t]
    rfl
theorem eqL_no {z w : Str} (h : z ≠ w) : eqL z w = false := by
  cases e : eqL z w with
  | false => rfl
  | true => exact absurd (str_ext (by simpa [eqL] using e)) h
theorem eqL_self (z : Str) : eqL z z = true := by unfold eqL; simp
theorem att_D {H : Hp} {v : V} {t : Att} {d : PyData} (h : AttV H v t) (dl : DL H v d) : attD d = true ∧ Sz d := by
  cases t with
  | plain n z =>
    obtain ⟨a, rfl, ha, hn, ne, hz⟩ := h
    obtain ⟨ds, rfl, k⟩ := dl.tupI ha
    obtain ⟨x, y, rfl, hx, hy⟩ := k.two
    cases hx.strI
    cases hy.strI
    refine ⟨?_, .tup (by simp) fun d hd => ?_⟩
    · show (nameD (.str n) && (if eqL n "href" then addrD (.str z) else isStrD (.str z))) = true
      rw [nameD_ok hn, eqL_no ne]
      rfl
    · rcases List.mem_cons.mp hd with rfl | hd
      · exact .str (Nat.le_trans hn.2.1 (by decide))
      · rw [List.mem_singleton.mp hd]
        exact .str (Nat.le_trans hz.1 (by decide))
  | addr ws ps =>
    obtain ⟨a, p, x, y, rfl, ha, hp, ⟨b, rfl, hb, hz⟩, h4, h5, ⟨c, vs, rfl, hc, lv, hv⟩, h7⟩ := h
    obtain ⟨ds0, rfl, k0⟩ := dl.tupI ha
    obtain ⟨x0, y0, rfl, hx0, hy0⟩ := k0.two
    cases hx0.strI
    obtain ⟨ds1, rfl, kk⟩ := hy0.tupI hp
    obtain ⟨x1, y1, rfl, hx1, hy1⟩ := kk.two
    obtain ⟨ds2, rfl, k1⟩ := hx1.tupI hb
    cases texts_D k1
    obtain ⟨es, rfl, k2⟩ := hy1.tupI hc
    have le := k2.len
    have al := k2.all (P := fun d => pairD d = true ∧ Sz d) fun v hm d hd => by
      obtain ⟨i, hi, e⟩ := List.mem_iff_getElem.mp hm
      have hi2 : i < ps.length := by omega
      obtain ⟨b2, rfl, h2, n2, t2⟩ := hv i v ps[i] (by rw [List.getElem?_eq_getElem hi, e]) (List.getElem?_eq_getElem hi2)
      obtain ⟨ds, rfl, k⟩ := hd.tupI h2
      obtain ⟨x, y, rfl, hx, hy⟩ := k.two
      cases hx.strI
      cases hy.strI
      refine ⟨?_, .tup (by simp) fun d hd => ?_⟩
      · show (nameD (.str ps[i].1) && true) = true
        rw [nameD_ok n2]
        rfl
      · rcases List.mem_cons.mp hd with rfl | hd
        · exact .str (Nat.le_trans n2.2.1 (by decide))
        · rw [List.mem_singleton.mp hd]
          exact .str (Nat.le_trans t2.1 (by decide))
    refine ⟨?_, ?_⟩
    · show (nameD (.str "href") && (if eqL "href" "href" then addrD (.tuple [.tuple (ws.map PyData.str), .tuple es]) else false)) = true
      have e1 : nameD (.str "href") = true := by decide +kernel
      rw [e1, eqL_self]
      show (textsD (.tuple (ws.map PyData.str)) && (!emptyT (.tuple (ws.map PyData.str)) && es.all pairD)) = true
      rw [List.all_eq_true.mpr fun d hd => (al d hd).1]
      have e2 : textsD (.tuple (ws.map PyData.str)) = true := by
        show (ws.map PyData.str).all isStrD = true
        rw [List.all_map]
        exact List.all_eq_true.mpr fun _ _ => rfl
      rw [e2]
      cases ws with
      | nil => cases h4
      | cons _ _ => rfl
    · have z1 : Sz (.tuple (ws.map PyData.str)) := .tup (by rw [List.length_map]; omega) fun d hd => by
        obtain ⟨z, hz', rfl⟩ := List.mem_map.mp hd
        exact .str (Nat.le_trans (hz z hz').1 (by decide))
      have z2 : Sz (.tuple es) := .tup (by omega) fun d hd => (al d hd).2
      refine .tup (by simp) fun d hd => ?_
      rcases List.mem_cons.mp hd with rfl | hd
      · exact .str (by decide)
      · rw [List.mem_singleton.mp hd]
        refine .tup (by simp) fun d hd => ?_
        rcases List.mem_cons.mp hd with rfl | hd
        · exact z1
        · rw [List.mem_singleton.mp hd]
          exact z2
theorem atts_D {H : Hp} : ∀ {vs : List V} {as : List Att} {ds : List PyData}, AttsV H vs as → DLs H vs ds → (∀ d ∈ ds, attD d = true ∧ Sz d) ∧ ds.length = as.length
  | _, _, _, .nil, .nil => ⟨fun d m => (by cases m), rfl⟩
  | _, _, _, .cons h t, .cons k r => by
    obtain ⟨i1, i2⟩ := atts_D t r
    refine ⟨fun d m => ?_, congrArg (· + 1) i2⟩
    rcases List.mem_cons.mp m with rfl | m
    · exact att_D h k
    · exact i1 d m
theorem noTwo_D : ∀ {ds : List PyData} {ns : List Nd}, ds.map tnodeD = ns.map Nd.isT → noTwoD ds = noTwo ns
  | [], [], _ => rfl
  | [], _ :: _, h => by cases h
  | _ :: _, [], h => by cases h
  | [_], [_], _ => rfl
  | [_], _ :: _ :: _, h => by simp at h
  | _ :: _ :: _, [_], h => by simp at h
  | x :: y :: r, a :: b :: s, h => by
    have h' := h
    rw [List.map_cons, List.map_cons, List.map_cons, List.map_cons] at h'
    injection h' with h1 h2
    injection h2 with h2 h3
    show (!(tnodeD x && tnodeD y) && noTwoD (y :: r)) = (!(a.isT && b.isT) && noTwo (b :: s))
    rw [h1, h2, noTwo_D (ds := y :: r) (ns := b :: s) (by rw [List.map_cons, List.map_cons, h2, h3])]
mutual
theorem nd_D {H : Hp} : ∀ {v : V} {nd : Nd} {d : PyData}, NdV H v nd → DL H v d → (∀ n, nd.lev ≤ n → nodeD n d = true) ∧ Sz d ∧ tnodeD d = nd.isT
  | _, _, d, .text (z := z) ha hz l1, dl => by
    obtain ⟨ds, rfl, k⟩ := dl.tupI ha
    obtain ⟨x, y, rfl, hx, hy⟩ := k.two
    cases hx.strI
    cases hy.strI
    have ez : eqL z "" = false := eqL_no fun e => by rw [e] at l1; exact absurd l1 (by decide)
    have et : tnodeD (.tuple [.str "text", .str z]) = true := by
      show (eqL "text" "text" && !eqL z "") = true
      rw [eqL_self, ez]
      rfl
    refine ⟨fun n _ => ?_, .tup (by simp) fun d hd => ?_, et⟩
    · rw [nodeD_rest n (by decide +kernel)]
      unfold restD
      rw [show isS "data" (.str "text") = false by decide +kernel]
      exact et
    · rcases List.mem_cons.mp hd with rfl | hd
      · exact .str (by decide)
      · rw [List.mem_singleton.mp hd]
        exact .str (Nat.le_trans hz.1 (by decide))
  | _, _, d, .data (x := x) ha g, dl => by
    obtain ⟨ds, rfl, k⟩ := dl.tupI ha
    obtain ⟨x, y, rfl, hx, hy⟩ := k.two
    cases hx.strI
    obtain ⟨g1, g2⟩ := good_D 6 _ _ g hy
    refine ⟨fun n _ => ?_, .tup (by simp) fun d hd => ?_, ?_⟩
    · rw [nodeD_rest n (by decide +kernel)]
      unfold restD
      rw [show isS "data" (.str "data") = true by decide +kernel]
      exact g1
    · rcases List.mem_cons.mp hd with rfl | hd
      · exact .str (by decide)
      · rw [List.mem_singleton.mp hd]
        exact g2
    · show (isS "text" (.str "data") && fullD y) = false
      rw [show isS "text" (.str "data") = false by decide +kernel]
      rfl
  | _, _, d, .elem (nm := nm) (ns := ns) ha nok nd hp hat la hq hns ln nt, dl => by
    obtain ⟨ds, rfl, k⟩ := dl.tupI ha
    obtain ⟨x, y, z, u, rfl, hx, hy, hz, hu⟩ := k.four
    cases hx.strI
    cases hy.strI
    obtain ⟨es, rfl, k1⟩ := hz.tupI hp
    obtain ⟨fs, rfl, k2⟩ := hu.tupI hq
    obtain ⟨at1, at2⟩ := atts_D hat k1
    obtain ⟨n1, n2, n3, n4⟩ := nds_D hns k2
    have zf : Sz (.tuple fs) := .tup (by omega) n2
    have ze : Sz (.tuple es) := .tup (by omega) fun d hd => (at1 d hd).2
    refine ⟨fun n hl => ?_, .tup (by simp) fun d hd => ?_, rfl⟩
    · have hl : 1 + levs ns ≤ n := hl
      cases n with
      | zero => omega
      | succ n =>
      rw [nodeD_elem n (by decide +kernel)]
      show (nameD (.str nm) && (!eqL nm "data" && (es.all attD && (fs.all (nodeD n) && noTwoD fs)))) = true
      rw [nameD_ok nok, eqL_no nd, List.all_eq_true.mpr fun d hd => (at1 d hd).1, List.all_eq_true.mpr (n1 n (by omega)), noTwo_D n3, nt]
      rfl
    · rcases List.mem_cons.mp hd with rfl | hd
      · exact .str (by decide)
      · rcases List.mem_cons.mp hd with rfl | hd
        · exact .str (Nat.le_trans nok.2.1 (by decide))
        · rcases List.mem_cons.mp hd with rfl | hd
          · exact ze
          · rw [List.mem_singleton.mp hd]
            exact zf
theorem nds_D {H : Hp} : ∀ {vs : List V} {ns : List Nd} {ds : List PyData}, NdsV H vs ns → DLs H vs ds → (∀ n, levs ns ≤ n → ∀ d ∈ ds, nodeD n d = true) ∧ (∀ d ∈ ds, Sz d) ∧ ds.map tnodeD = ns.map Nd.isT ∧ ds.length = ns.length
  | _, _, _, .nil, .nil => ⟨fun _ _ d m => (by cases m), fun d m => (by cases m), rfl, rfl⟩
  | _, _, _, .cons (n := nd) (ns := ns) h t, .cons k r => by
    obtain ⟨a1, a2, a3⟩ := nd_D h k
    obtain ⟨b1, b2, b3, b4⟩ := nds_D t r
    refine ⟨fun n hl d m => ?_, fun d m => ?_, ?_, congrArg (· + 1) b4⟩
    · have hl : max nd.lev (levs ns) ≤ n := hl
      rcases List.mem_cons.mp m with rfl | m
      · exact a1 n (by omega)
      · exact b1 n (by omega) d m
    · rcases List.mem_cons.mp m with rfl | m
      · exact a2
      · exact b2 d m
    · rw [List.map_cons, List.map_cons, a3, b3]
end
/-! ### what is no node, whatever the depth -/
def isTupD : PyData → Bool
  | .tuple _ => true
  | _ => false
def nodeW : PyData → Bool
  | .tuple (k :: r) => if isS "element" k then elemD isTupD r else restD k r
  | _ => false
theorem allD_tup {f : PyData → Bool} {d : PyData} (h : allD f d = true) : isTupD d = true := by
  cases d with
  | tuple _ => rfl
  | _ => cases h
theorem elemD_up {f g : PyData → Bool} (h : ∀ d, f d = true → g d = true) {r : List PyData} (e : elemD f r = true) : elemD g r = true := by
  unfold elemD at e ⊢
  split at e
  · rename_i a b c
    simp only [Bool.and_eq_true] at e ⊢
    exact ⟨e.1, e.2.1, e.2.2.1, h _ e.2.2.2⟩
  · cases e
theorem nodeW_ok {d : PyData} (h : nodeW d = false) (n : Nat) : nodeD n d = false := by
  cases e : nodeD n d with
  | false => rfl
  | true =>
    exfalso
    cases d with
    | tuple ds =>
      cases ds with
      | nil => rw [nodeD_nil] at e; cases e
      | cons k r =>
        have h : (if isS "element" k then elemD isTupD r else restD k r) = false := h
        cases q : isS "element" k with
        | true =>
          rw [q] at h
          cases n with
          | zero => rw [nodeD_elem0 q] at e; cases e
          | succ n =>
            rw [nodeD_elem n q] at e
            have h : elemD isTupD r = false := h
            rw [elemD_up (fun d => allD_tup) e] at h
            cases h
        | false =>
          rw [q] at h
          rw [nodeD_rest n q] at e
          have h : restD k r = false := h
          rw [h] at e
          cases e
    | _ => rw [nodeD_no n fun _ z => by cases z] at e; cases e
theorem nodes_bad {n : Nat} {xs ys : List PyData} {o : PyData} (h : nodeD n o = false) : nodesD n (.tuple (xs ++ [o] ++ ys)) = false := by
  show ((xs ++ [o] ++ ys).all (nodeD n) && noTwoD (xs ++ [o] ++ ys)) = false
  have : (xs ++ [o] ++ ys).all (nodeD n) = false := by
    rw [List.all_append, List.all_append]
    show (xs.all (nodeD n) && (nodeD n o && true) && ys.all (nodeD n)) = false
    rw [h]
    simp
  rw [this]
  rfl
end Sk
/-! Sk: x in a dict; the first trouble of data with a form, plain -/
namespace Sk
open PySem PySem.Spec PyProof.Rows L2
section
variable {X : Cx}
def rDIn : R2 := fun x y H Q => match y with
  | .ref a => ∃ o, DGet H a x o ∧ Q (.bl o.isSome) H
  | _ => False
theorem op_din (hu : X.A.units + 1 < cLine) : OpR X (compareOp .In) rDIn := fun pins s σ H x y v u Q I rx ry q => by
  cases y with
  | ref a =>
    obtain ⟨o, g, q⟩ := q
    obtain rfl : u = Value.ref a := ry
    exact d_in hu I g rx fun s3 I3 => ⟨.bl o.isSome, H, I3, rfl, q⟩
  | _ => exact q.elim
end
def wholeD : PyData → Bool
  | .int _ => true
  | _ => false
def boolD : PyData → Bool
  | .bool _ => true
  | _ => false
def noneD : PyData → Bool
  | .none => true
  | _ => false
def strIs : PyData → List Nat → Bool
  | .str z, n => z.cps.toList == n
  | _, _ => false
def lookD (kvs : List (PyData × PyData)) (n : List Nat) : Option PyData := (kvs.find? fun p => strIs p.1 n).map (·.2)
/-- the value of a key -/
def keyV (d : PyData) (k : List Nat) : Option Key := match d with
  | .dict kvs => match lookD kvs k with
    | some (.int i) => some (.inl i)
    | some (.str z) => some (.inr z)
    | _ => none
  | _ => none
def listT (g : PyData → Option (List Key)) (k : Option (List Nat)) : Nat → List Key → List PyData → Option (List Key)
  | _, _, [] => none
  | i, seen, d :: r => match g d with
    | some p => some (.inl (i : Int) :: p)
    | none => match k with
      | none => listT g k (i + 1) seen r
      | some k' => match keyV d k' with
        | some c => if (seen.any fun s => decide (s = c)) then some [.inl (i : Int)] else listT g k (i + 1) (seen ++ [c]) r
        | none => none
mutual
def trb : Fm → PyData → Option (List Key)
  | .text, d => if isStrD d then none else some []
  | .number, d => if wholeD d then none else some []
  | .flag, d => if boolD d then none else some []
  | .opt f, d => if noneD d then none else trb f d
  | .list f, d => match d with
    | .tuple ds => if Nat.blt 60 ds.length then some [] else listT (trb f) none 0 [] ds
    | _ => some []
  | .keyed f k, d => match d with
    | .tuple ds => if Nat.blt 60 ds.length then some [] else listT (trb f) (some k) 0 [] ds
    | _ => some []
  | .rcd fs, d => match d with
    | .dict kvs => if kvs.any (fun p => !(fs.any fun q => strIs p.1 q.1)) then some [] else trbFs fs kvs
    | _ => some []
def trbFs : List (List Nat × Fm) → List (PyData × PyData) → Option (List Key)
  | [], _ => none
  | (n, f) :: r, kvs => match lookD kvs n with
    | none => some [.inr (mkS n)]
    | some d => match trb f d with
      | some p => some (.inr (mkS n) :: p)
      | none => trbFs r kvs
end
mutual
def Fm.dep : Fm → Nat
  | .opt f => f.dep + 1
  | .list f => f.dep + 1
  | .keyed f _ => f.dep + 1
  | .rcd fs => depFs fs + 1
  | _ => 0
def depFs : List (List Nat × Fm) → Nat
  | [] => 0
  | (_, f) :: r => max f.dep (depFs r)
end
mutual
/-- keys fit, not too many fields -/
def Fm.wf : Fm → Bool
  | .opt f => f.wf
  | .list f => f.wf
  | .keyed f k => f.wf && keyFits f k
  | .rcd fs => Nat.ble fs.length 1000 && wfFs fs
  | _ => true
def wfFs : List (List Nat × Fm) → Bool
  | [] => true
  | (_, f) :: r => f.wf && wfFs r
end
/-- a dict of the heap and its data: the values of a name -/
theorem val_look {H : Hp} {n : List Nat} : ∀ {kvs : List (Key × V)} {ds : List (PyData × PyData)}, DLs H (kvs.map fun p => kV p.1) (ds.map (·.1)) → DLs H (kvs.map (·.2)) (ds.map (·.2)) → (valV kvs (.inr (mkS n)) = none ∧ lookD ds n = none) ∨ ∃ v d, valV kvs (.inr (mkS n)) = some v ∧ lookD ds n = some d ∧ DL H v d
  | [], [], _, _ => .inl ⟨rfl, rfl⟩
  | [], _ :: _, h, _ => by cases h
  | _ :: _, [], h, _ => by cases h
  | (k, v) :: kvs, (a, b) :: ds, h1, h2 => by
    cases h1 with
    | cons ha hr =>
    cases h2 with
    | cons hb hs =>
    have ha : DL H (kV k) a := ha
    have ih := val_look (n := n) hr hs
    by_cases e : k = .inr (mkS n)
    · subst e
      have ha : DL H (.str (mkS n)) a := ha
      cases ha
      refine .inr ⟨v, b, valV_pos rfl, ?_, hb⟩
      unfold lookD
      rw [List.find?_cons_of_pos (by show (n == n) = true; simp)]
      rfl
    · have e2 : strIs a n = false := by
        cases k with
        | inl i =>
          have ha : DL H (.int i) a := ha
          cases ha
          rfl
        | inr z =>
          have ha : DL H (.str z) a := ha
          cases ha
          show (z.cps.toList == n) = false
          refine beq_eq_false_iff_ne.mpr fun q => e ?_
          rw [← q, mk_sl]
      have l : lookD ((a, b) :: ds) n = lookD ds n := by
        unfold lookD
        rw [List.find?_cons_of_neg (by rw [e2]; decide)]
      rw [l, valV_neg e]
      exact ih
end Sk
/-! Sk: the writing of a form is read as the form -/
namespace Sk
open PySem PySem.Spec PyProof.Rows L2
mutual
def fT : Fm → List Nat
  | .text => wText
  | .number => wNumber
  | .flag => wFlag
  | .opt f => fT f ++ [63]
  | .list f => 91 :: (fT f ++ [93])
  | .keyed f k => 91 :: (fT f ++ ([32, 98, 121, 32] ++ (k ++ [93])))
  | .rcd fs => 123 :: (flT fs ++ [125])
def flT : List (List Nat × Fm) → List Nat
  | [] => []
  | (n, f) :: r => n ++ ([58, 32] ++ (fT f ++ match r with
    | [] => []
    | _ :: _ => 44 :: 32 :: flT r))
end
def isOpt : Fm → Bool
  | .opt _ => true
  | _ => false
def nmOkL (l : List Nat) : Bool := nmOk l && l.all low
mutual
/-- forms that the reader can tell, of n levels -/
def Fm.good : Nat → Fm → Bool
  | n, .opt f => !isOpt f && f.good n
  | n, .list f => match n with
    | 0 => false
    | m + 1 => f.good m
  | n, .keyed f k => match n with
    | 0 => false
    | m + 1 => f.good m && (keyFits f k && nmOkL k)
  | n, .rcd fs => match n with
    | 0 => false
    | m + 1 => !fs.isEmpty && goodFs m none fs
  | _, _ => true
def goodFs : Nat → Option (List Nat) → List (List Nat × Fm) → Bool
  | _, _, [] => true
  | m, last, (n, f) :: r => (nmOkL n && !notUp last n) && (f.good m && goodFs m (some n) r)
end
theorem nameAt_app : ∀ {k : List Nat} {c : Nat} {r : List Nat}, k.all low = true → low c = false → nameAt (k ++ c :: r) = k
  | [], c, r, _, h => by
    unfold nameAt
    rw [List.nil_append, List.takeWhile_cons_of_neg (by rw [h]; decide)]
  | x :: k, c, r, hk, h => by
    rw [List.all_cons, Bool.and_eq_true] at hk
    unfold nameAt
    rw [List.cons_append, List.takeWhile_cons_of_pos hk.1]
    exact congrArg (x :: ·) (nameAt_app hk.2 h)
theorem simple_no {c : Nat} {r : List Nat} (h : c = 91 ∨ c = 123) : simpleAt (c :: r) = none := by
  unfold simpleAt
  rcases h with rfl | rfl
  · rw [if_neg (by cases r <;> simp), if_neg (by cases r <;> simp), if_neg (by cases r <;> simp)]
  · rw [if_neg (by cases r <;> simp), if_neg (by cases r <;> simp), if_neg (by cases r <;> simp)]
theorem flT_cons (n : List Nat) (f : Fm) (p : List Nat × Fm) (r : List (List Nat × Fm)) : flT ((n, f) :: p :: r) = n ++ ([58, 32] ++ (fT f ++ 44 :: 32 :: flT (p :: r))) := by
  rw [flT]
theorem flT_one (n : List Nat) (f : Fm) : flT [(n, f)] = n ++ ([58, 32] ++ fT f) := by
  rw [flT, List.append_nil]
theorem flT_len : ∀ fs : List (List Nat × Fm), fs.length ≤ (flT fs).length
  | [] => Nat.le_refl 0
  | [(n, f)] => by rw [flT_one]; simp; omega
  | (n, f) :: p :: r => by
    have := flT_len (p :: r)
    rw [flT_cons]
    simp at this ⊢
    omega
/-- what is not optional, bare -/
def RB (n : Nat) : Prop := ∀ (f : Fm) (rest : List Nat), isOpt f = false → f.good n = true → rBare n (fT f ++ rest) = some (f, rest)
def RF (g : List Nat → Option (Fm × List Nat)) (n : Nat) : Prop := ∀ (f : Fm) (rest : List Nat), f.good n = true → (rest.take 1 == [63]) = false → g (fT f ++ rest) = some (f, rest)
theorem rf_of {n : Nat} (h : RB n) : RF (rForm n) n := fun f rest gf hr => by
  rw [rForm_eq]
  cases e : isOpt f with
  | false =>
    rw [h f rest e gf]
    unfold optAt
    simp only
    rw [if_neg (by rw [hr]; decide)]
  | true =>
    cases f with
    | opt f =>
      have gf : (!isOpt f && f.good n) = true := by
        rw [Fm.good] at gf
        exact gf
      rw [Bool.and_eq_true] at gf
      rw [fT, List.append_assoc, h f ([63] ++ rest) (by simpa using gf.1) gf.2]
      rfl
    | _ => cases e
theorem rflds_of {g : List Nat → Option (Fm × List Nat)} {m : Nat} (hg : RF g m) : ∀ (fs : List (List Nat × Fm)) (n : Nat) (last : Option (List Nat)) (rest : List Nat), fs ≠ [] → fs.length ≤ n → goodFs m last fs = true → rFlds g n last (flT fs ++ 125 :: rest) = some (fs, rest)
  | [], _, _, _, h, _, _ => absurd rfl h
  | _ :: _, 0, _, _, _, h, _ => by simp at h
  | (k, f) :: r, n + 1, last, rest, _, hn, gd => by
    rw [goodFs, Bool.and_eq_true, Bool.and_eq_true, Bool.and_eq_true] at gd
    obtain ⟨⟨g1, g2⟩, g3, g4⟩ := gd
    unfold nmOkL at g1
    rw [Bool.and_eq_true] at g1
    have g2 : notUp last k = false := by simpa using g2
    cases r with
    | nil =>
      rw [flT_one]
      have e1 : k ++ ([58, 32] ++ fT f) ++ 125 :: rest = k ++ 58 :: 32 :: (fT f ++ 125 :: rest) := by simp
      have nm : nameAt (k ++ 58 :: 32 :: (fT f ++ 125 :: rest)) = k := nameAt_app g1.2 rfl
      rw [e1]
      unfold rFlds
      rw [nm, List.drop_left, g1.1, g2]
      have e2 : (k ++ 58 :: 32 :: (fT f ++ 125 :: rest)).drop (k.length + 2) = fT f ++ 125 :: rest := by
        rw [← List.drop_drop, List.drop_left]
        rfl
      rw [e2, hg f (125 :: rest) g3 rfl]
      rfl
    | cons p r =>
      rw [flT_cons]
      have e1 : k ++ ([58, 32] ++ (fT f ++ 44 :: 32 :: flT (p :: r))) ++ 125 :: rest = k ++ 58 :: 32 :: (fT f ++ 44 :: 32 :: (flT (p :: r) ++ 125 :: rest)) := by simp
      have nm : nameAt (k ++ 58 :: 32 :: (fT f ++ 44 :: 32 :: (flT (p :: r) ++ 125 :: rest))) = k := nameAt_app g1.2 rfl
      rw [e1]
      unfold rFlds
      rw [nm, List.drop_left, g1.1, g2]
      have e2 : (k ++ 58 :: 32 :: (fT f ++ 44 :: 32 :: (flT (p :: r) ++ 125 :: rest))).drop (k.length + 2) = fT f ++ 44 :: 32 :: (flT (p :: r) ++ 125 :: rest) := by
        rw [← List.drop_drop, List.drop_left]
        rfl
      rw [e2, hg f _ g3 rfl]
      have ih := rflds_of hg (p :: r) n (some k) rest (by simp) (by simpa using hn) g4
      have e3 : (44 :: 32 :: (flT (p :: r) ++ 125 :: rest)).drop 2 = flT (p :: r) ++ 125 :: rest := rfl
      show (if ((44 :: 32 :: (flT (p :: r) ++ 125 :: rest)).take 1 == [125]) = true then _ else if ((44 :: 32 :: (flT (p :: r) ++ 125 :: rest)).take 2 == [44, 32]) = true then (rFlds g n (some k) ((44 :: 32 :: (flT (p :: r) ++ 125 :: rest)).drop 2)).map _ else none) = _
      rw [if_neg (by simp), if_pos (by simp), e3, ih]
      rfl
theorem rBare_some {n : Nat} {cs : List Nat} {x : Fm × List Nat} (e : simpleAt cs = some x) : rBare (n + 1) cs = some x := by
  show (match simpleAt cs with
    | some x => some x
    | none => rBareW (rForm n) cs) = _
  rw [e]
theorem rBare_none {n : Nat} {cs : List Nat} (e : simpleAt cs = none) : rBare (n + 1) cs = rBareW (rForm n) cs := by
  show (match simpleAt cs with
    | some x => some x
    | none => rBareW (rForm n) cs) = _
  rw [e]
theorem simple_RB {n : Nat} {f : Fm} {rest : List Nat} (h : f = .text ∨ f = .number ∨ f = .flag) : rBare n (fT f ++ rest) = some (f, rest) := by
  have e : simpleAt (fT f ++ rest) = some (f, rest) := by
    rcases h with rfl | rfl | rfl
    · rw [fT]; unfold simpleAt; rw [if_pos (by simp)]; rfl
    · rw [fT]; unfold simpleAt; rw [if_neg (by simp), if_pos (by simp)]; rfl
    · rw [fT]; unfold simpleAt; rw [if_neg (by simp), if_neg (by simp), if_pos (by simp)]; rfl
  cases n with
  | zero => exact e
  | succ n => exact rBare_some e
theorem rb_all : ∀ n, RB n
  | 0 => fun f rest ho gd => by
    cases f with
    | text => exact simple_RB (.inl rfl)
    | number => exact simple_RB (.inr (.inl rfl))
    | flag => exact simple_RB (.inr (.inr rfl))
    | opt f => cases ho
    | list f => rw [Fm.good] at gd; cases gd
    | keyed f k => rw [Fm.good] at gd; cases gd
    | rcd fs => rw [Fm.good] at gd; cases gd
  | n + 1 => fun f rest ho gd => by
    have hg := rf_of (rb_all n)
    cases f with
    | text => exact simple_RB (.inl rfl)
    | number => exact simple_RB (.inr (.inl rfl))
    | flag => exact simple_RB (.inr (.inr rfl))
    | opt f => cases ho
    | list f =>
      rw [Fm.good] at gd
      rw [fT]
      have e1 : 91 :: (fT f ++ [93]) ++ rest = 91 :: (fT f ++ 93 :: rest) := by simp
      rw [e1]
      rw [rBare_none (simple_no (.inl rfl))]
      show rBareW (rForm n) (91 :: (fT f ++ 93 :: rest)) = _
      unfold rBareW
      rw [if_pos (by simp)]
      show rList (rForm n) (fT f ++ 93 :: rest) = _
      unfold rList
      rw [hg f (93 :: rest) gd rfl]
      rfl
    | keyed f k =>
      rw [Fm.good] at gd
      rw [Bool.and_eq_true, Bool.and_eq_true] at gd
      obtain ⟨g1, g2, g3⟩ := gd
      unfold nmOkL at g3
      rw [Bool.and_eq_true] at g3
      rw [fT]
      have e1 : 91 :: (fT f ++ ([32, 98, 121, 32] ++ (k ++ [93]))) ++ rest = 91 :: (fT f ++ 32 :: 98 :: 121 :: 32 :: (k ++ 93 :: rest)) := by simp
      rw [e1]
      rw [rBare_none (simple_no (.inl rfl))]
      show rBareW (rForm n) _ = _
      unfold rBareW
      rw [if_pos (by simp)]
      show rList (rForm n) (fT f ++ 32 :: 98 :: 121 :: 32 :: (k ++ 93 :: rest)) = _
      unfold rList
      rw [hg f _ g1 rfl]
      have nm : nameAt (k ++ 93 :: rest) = k := nameAt_app g3.2 rfl
      have e2 : (32 :: 98 :: 121 :: 32 :: (k ++ 93 :: rest)).drop 4 = k ++ 93 :: rest := rfl
      have e3 : (32 :: 98 :: 121 :: 32 :: (k ++ 93 :: rest)).drop (4 + k.length) = 93 :: rest := by
        rw [← List.drop_drop, e2, List.drop_left]
      have e4 : (32 :: 98 :: 121 :: 32 :: (k ++ 93 :: rest)).drop (4 + k.length + 1) = rest := by
        rw [← List.drop_drop, e3]
        rfl
      simp only [e2, nm, e3, e4]
      rw [if_neg (by simp), if_pos (by simp), if_neg (by rw [g2]; simp)]
    | rcd fs =>
      rw [Fm.good] at gd
      rw [Bool.and_eq_true] at gd
      obtain ⟨g1, g2⟩ := gd
      rw [fT]
      have e1 : 123 :: (flT fs ++ [125]) ++ rest = 123 :: (flT fs ++ 125 :: rest) := by simp
      rw [e1]
      rw [rBare_none (simple_no (.inr rfl))]
      show rBareW (rForm n) _ = _
      unfold rBareW
      rw [if_neg (by simp), if_pos (by simp)]
      show (rFlds (rForm n) (123 :: (flT fs ++ 125 :: rest)).length none (flT fs ++ 125 :: rest)).map _ = _
      rw [rflds_of hg fs _ none rest (by intro e; rw [e] at g1; cases g1) (by have := flT_len fs; simp; omega) g2]
      rfl
/-- the round trip -/
theorem form_back {n : Nat} {f : Fm} (h : f.good n = true) : rForm n (fT f) = some (f, []) := by
  have := rf_of (rb_all n) f [] h rfl
  rwa [List.append_nil] at this
end Sk
/-! Sk: the forms that are drawn -/
namespace Sk
open PySem PySem.Spec PyProof.Rows L2
inductive Drn : Nat → Fm → Prop
  | text (n : Nat) : Drn n .text
  | number (n : Nat) : Drn n .number
  | flag (n : Nat) : Drn n .flag
  | list {n : Nat} {f : Fm} : Drn n f → Drn (n + 1) (.list f)
  | rcd {n : Nat} {fs : List (List Nat × Fm)} : fs ≠ [] → fs.length ≤ 3 → (∀ p ∈ fs, nmOkL p.1 = true) → (fs.map (·.1)).Pairwise (· < ·) → (∀ p ∈ fs, Drn n p.2) → Drn (n + 1) (.rcd fs)
  | keyed {n : Nat} {w0 w1 : List Nat} {key f : Fm} : keyK key = true → nmOkL w0 = true → nmOkL w1 = true → w0 < w1 → Drn n f → Drn (n + 1) (.keyed (.rcd [(w0, key), (w1, f)]) w0)
  | opt {n : Nat} {f : Fm} : isOpt f = false → Drn n f → Drn (n + 1) (.opt f)
  | up {n : Nat} {f : Fm} : Drn n f → Drn (n + 1) f
theorem goodFs_of {m : Nat} : ∀ {fs : List (List Nat × Fm)} {last : Option (List Nat)}, (∀ p ∈ fs, notUp last p.1 = false) → (∀ p ∈ fs, nmOkL p.1 = true) → (fs.map (·.1)).Pairwise (· < ·) → (∀ p ∈ fs, p.2.good m = true) → goodFs m last fs = true
  | [], _, _, _, _, _ => by rw [goodFs]
  | (n, f) :: r, last, h1, h2, h3, h4 => by
    have h3 : (n :: r.map (·.1)).Pairwise (· < ·) := h3
    have h3 := List.pairwise_cons.mp h3
    rw [goodFs, Bool.and_eq_true, Bool.and_eq_true, Bool.and_eq_true]
    refine ⟨⟨h2 (n, f) (List.mem_cons_self ..), ?_⟩, h4 (n, f) (List.mem_cons_self ..), goodFs_of (fun p hp => ?_) (fun p hp => h2 p (List.mem_cons_of_mem _ hp)) h3.2 (fun p hp => h4 p (List.mem_cons_of_mem _ hp))⟩
    · have := h1 (n, f) (List.mem_cons_self ..)
      have this : notUp last n = false := this
      rw [this]
      rfl
    · have := h3.1 p.1 (List.mem_map.mpr ⟨p, hp, rfl⟩)
      show (!decide (n < p.1)) = false
      rw [decide_eq_true this]
      rfl
theorem keyK_good {key : Fm} (h : keyK key = true) (m : Nat) : key.good m = true := by
  cases key with
  | text => rw [Fm.good] <;> simp
  | number => rw [Fm.good] <;> simp
  | _ => cases h
theorem keyed_fits {w0 w1 : List Nat} {key f : Fm} (h : keyK key = true) : keyFits (.rcd [(w0, key), (w1, f)]) w0 = true := by
  show (((w0 == w0) && keyK key) || _) = true
  rw [h]
  simp
theorem Drn.good {n : Nat} {f : Fm} (d : Drn n f) : ∀ m, 2 * n ≤ m → f.good m = true := by
  induction d with
  | text n => intro m _; rw [Fm.good] <;> simp
  | number n => intro m _; rw [Fm.good] <;> simp
  | flag n => intro m _; rw [Fm.good] <;> simp
  | list d ih =>
    intro m hm
    obtain ⟨m, rfl⟩ : ∃ g, m = g + 1 := ⟨m - 1, by omega⟩
    rw [Fm.good]
    exact ih m (by omega)
  | @rcd n fs ne l3 nm pw ds ih =>
    intro m hm
    obtain ⟨m, rfl⟩ : ∃ g, m = g + 1 := ⟨m - 1, by omega⟩
    rw [Fm.good, Bool.and_eq_true]
    refine ⟨?_, goodFs_of (fun _ _ => rfl) nm pw fun p hp => ih p hp m (by omega)⟩
    cases fs with
    | nil => exact absurd rfl ne
    | cons _ _ => rfl
  | @keyed n w0 w1 key f k n0 n1 lt d ih =>
    intro m hm
    obtain ⟨m, rfl⟩ : ∃ g, m = g + 2 := ⟨m - 2, by omega⟩
    have e : (Fm.keyed (.rcd [(w0, key), (w1, f)]) w0).good (m + 2) = ((Fm.rcd [(w0, key), (w1, f)]).good (m + 1) && (keyFits (.rcd [(w0, key), (w1, f)]) w0 && nmOkL w0)) := by rw [Fm.good]
    have e2 : (Fm.rcd [(w0, key), (w1, f)]).good (m + 1) = (!([(w0, key), (w1, f)] : List (List Nat × Fm)).isEmpty && goodFs m none [(w0, key), (w1, f)]) := by rw [Fm.good]
    have g : goodFs m none [(w0, key), (w1, f)] = true := by
      refine goodFs_of (fun _ _ => rfl) (fun p hp => ?_) (by simpa using lt) (fun p hp => ?_)
      · rcases List.mem_cons.mp hp with rfl | hp
        · exact n0
        · have : p = (w1, f) := by simpa using hp
          rw [this]
          exact n1
      · rcases List.mem_cons.mp hp with rfl | hp
        · exact keyK_good k m
        · have : p = (w1, f) := by simpa using hp
          rw [this]
          exact ih m (by omega)
    rw [e, e2, keyed_fits k, n0, g]
    rfl
  | opt no d ih =>
    intro m hm
    rw [Fm.good, no, ih m (by omega)]
    rfl
  | up d ih => exact fun m hm => ih m (by omega)
theorem wfFs_of : ∀ {fs : List (List Nat × Fm)}, (∀ p ∈ fs, p.2.wf = true) → wfFs fs = true
  | [], _ => by rw [wfFs]
  | (n, f) :: r, h => by
    rw [wfFs, h (n, f) (List.mem_cons_self ..), wfFs_of fun p hp => h p (List.mem_cons_of_mem _ hp)]
    rfl
theorem depFs_of {k : Nat} : ∀ {fs : List (List Nat × Fm)}, (∀ p ∈ fs, p.2.dep ≤ k) → depFs fs ≤ k
  | [], _ => Nat.zero_le _
  | (n, f) :: r, h => by
    rw [depFs]
    exact Nat.max_le.mpr ⟨h (n, f) (List.mem_cons_self ..), depFs_of fun p hp => h p (List.mem_cons_of_mem _ hp)⟩
theorem Drn.wf {n : Nat} {f : Fm} (d : Drn n f) : f.wf = true := by
  induction d with
  | text n => rfl
  | number n => rfl
  | flag n => rfl
  | list d ih => exact ih
  | @rcd n fs ne l3 nm pw ds ih =>
    show (Nat.ble fs.length 1000 && wfFs fs) = true
    rw [wfFs_of ih, show Nat.ble fs.length 1000 = true from Nat.ble_eq.mpr (by omega)]
    rfl
  | @keyed n w0 w1 key f k n0 n1 lt d ih =>
    show ((Nat.ble _ 1000 && (key.wf && (f.wf && true))) && keyFits _ w0) = true
    rw [keyed_fits k, ih, show key.wf = true by cases key <;> first | rfl | cases k]
    rfl
  | opt no d ih => exact ih
  | up d ih => exact ih
theorem Drn.dep {n : Nat} {f : Fm} (d : Drn n f) : f.dep ≤ 2 * n := by
  induction d with
  | text n => exact Nat.zero_le _
  | number n => exact Nat.zero_le _
  | flag n => exact Nat.zero_le _
  | @list n f d ih =>
    show f.dep + 1 ≤ _
    omega
  | @rcd n fs ne l3 nm pw ds ih =>
    show depFs fs + 1 ≤ _
    have := depFs_of ih
    omega
  | @keyed n w0 w1 key f k n0 n1 lt d ih =>
    show (max key.dep (max f.dep 0) + 1) + 1 ≤ _
    have : key.dep = 0 := by cases key <;> first | rfl | cases k
    omega
  | @opt n f no d ih =>
    show f.dep + 1 ≤ _
    omega
  | up d ih => omega
def lenB : Nat → Nat
  | 0 => 6
  | n + 1 => 3 * lenB n + 70
theorem nm12 {l : List Nat} (h : nmOkL l = true) : 1 ≤ l.length ∧ l.length ≤ 12 := by
  unfold nmOkL at h
  rw [Bool.and_eq_true] at h
  exact nmOk_pos h.1
theorem flT_le {B : Nat} : ∀ {fs : List (List Nat × Fm)}, (∀ p ∈ fs, nmOkL p.1 = true) → (∀ p ∈ fs, (fT p.2).length ≤ B) → (flT fs).length ≤ fs.length * (B + 16)
  | [], _, _ => by rw [flT]; exact Nat.zero_le _
  | [(n, f)], h1, h2 => by
    have a := nm12 (h1 (n, f) (List.mem_cons_self ..))
    have b : (fT f).length ≤ B := h2 (n, f) (List.mem_cons_self ..)
    have a : 1 ≤ n.length ∧ n.length ≤ 12 := a
    rw [flT_one]
    simp
    omega
  | (n, f) :: p :: r, h1, h2 => by
    have a := nm12 (h1 (n, f) (List.mem_cons_self ..))
    have b : (fT f).length ≤ B := h2 (n, f) (List.mem_cons_self ..)
    have a : 1 ≤ n.length ∧ n.length ≤ 12 := a
    have ih := flT_le (fs := p :: r) (fun q hq => h1 q (List.mem_cons_of_mem _ hq)) (fun q hq => h2 q (List.mem_cons_of_mem _ hq))
    rw [flT_cons]
    rw [List.length_cons, Nat.succ_mul]
    simp only [List.length_append, List.length_cons, List.length_nil] at ih ⊢
    omega
theorem Drn.len {n : Nat} {f : Fm} (d : Drn n f) : (fT f).length ≤ lenB n := by
  have base : ∀ n, 6 ≤ lenB n := fun n => by
    cases n with
    | zero => exact Nat.le_refl 6
    | succ n => unfold lenB; omega
  induction d with
  | text n => exact Nat.le_trans (by rw [fT]; decide) (base n)
  | number n => exact Nat.le_trans (by rw [fT]; decide) (base n)
  | flag n => exact Nat.le_trans (by rw [fT]; decide) (base n)
  | @list n f d ih =>
    rw [fT]
    unfold lenB
    simp
    omega
  | @rcd n fs ne l3 nm pw ds ih =>
    have h := flT_le nm ih
    have h2 : fs.length * (lenB n + 16) ≤ 3 * (lenB n + 16) := Nat.mul_le_mul_right _ l3
    rw [fT]
    unfold lenB
    simp
    omega
  | @keyed n w0 w1 key f k n0 n1 lt d ih =>
    have a := nm12 n0
    have b := nm12 n1
    have c : (fT key).length ≤ 6 := by cases key <;> first | (rw [fT]; decide) | cases k
    rw [fT, fT, flT_cons, flT_one]
    unfold lenB
    simp
    omega
  | @opt n f no d ih =>
    rw [fT]
    unfold lenB
    simp
    omega
  | @up n f d ih =>
    unfold lenB
    omega
end Sk
/-! Sk: data that fits a form, its structure; no trouble -/
namespace Sk
open PySem PySem.Spec PyProof.Rows L2
def nmD (p : List Nat × Fm) : PyData := .str (mkS p.1)
inductive FitD : Fm → PyData → Prop
  | text {z : Str} : z.length ≤ 1000 → FitD .text (.str z)
  | number (i : Int) : FitD .number (.int i)
  | flag (b : Bool) : FitD .flag (.bool b)
  | optN (f : Fm) : FitD (.opt f) .none
  | opt {f : Fm} {d : PyData} : FitD f d → FitD (.opt f) d
  | list {f : Fm} {ds : List PyData} : ds.length ≤ 3 → (∀ d ∈ ds, FitD f d) → FitD (.list f) (.tuple ds)
  | keyed {f : Fm} {k : List Nat} {ds : List PyData} {cs : List Key} : ds.length ≤ 3 → (∀ d ∈ ds, FitD f d) → ds.map (keyV · k) = cs.map some → cs.Nodup → FitD (.keyed f k) (.tuple ds)
  | rcd {fs : List (List Nat × Fm)} {kvs : List (PyData × PyData)} : fs.length ≤ 3 → (∀ p ∈ fs, nmOkL p.1 = true) → (fs.map (·.1)).Nodup → kvs.map (·.1) = fs.map nmD → (∀ (i : Nat) p q, fs[i]? = some p → kvs[i]? = some q → FitD p.2 q.2) → FitD (.rcd fs) (.dict kvs)
theorem strIs_nm (p : List Nat × Fm) (n : List Nat) : strIs (nmD p) n = (p.1 == n) := rfl
theorem look_at : ∀ {fs : List (List Nat × Fm)} {kvs : List (PyData × PyData)} {i : Nat} {p : List Nat × Fm} {q : PyData × PyData}, (fs.map (·.1)).Nodup → kvs.map (·.1) = fs.map nmD → fs[i]? = some p → kvs[i]? = some q → lookD kvs p.1 = some q.2
  | [], kvs, i, p, q, _, _, h, _ => by simp at h
  | a :: fs, [], i, p, q, _, e, _, _ => by cases e
  | a :: fs, b :: kvs, 0, p, q, nd, e, h1, h2 => by
    cases h1
    cases h2
    have e0 : b.1 = nmD a := (List.cons.inj e).1
    unfold lookD
    rw [List.find?_cons_of_pos (by rw [e0, strIs_nm]; simp)]
    rfl
  | a :: fs, b :: kvs, i + 1, p, q, nd, e, h1, h2 => by
    have e0 : b.1 = nmD a := (List.cons.inj e).1
    have nd := List.nodup_cons.mp nd
    have h1 : fs[i]? = some p := by simpa using h1
    have h2 : kvs[i]? = some q := by simpa using h2
    have ne : (a.1 == p.1) = false := beq_eq_false_iff_ne.mpr fun z => nd.1 (by show a.1 ∈ _; rw [z]; exact List.mem_map.mpr ⟨p, List.mem_of_getElem? h1, rfl⟩)
    have ih := look_at nd.2 (List.cons.inj e).2 h1 h2
    unfold lookD at ih ⊢
    rw [List.find?_cons_of_neg (by rw [e0, strIs_nm, ne]; decide)]
    exact ih
theorem trbFs_none {kvs : List (PyData × PyData)} : ∀ {fs : List (List Nat × Fm)}, (∀ p ∈ fs, ∃ d, lookD kvs p.1 = some d ∧ trb p.2 d = none) → trbFs fs kvs = none
  | [], _ => by rw [trbFs]
  | (n, f) :: r, h => by
    obtain ⟨d, h1, h2⟩ := h (n, f) (List.mem_cons_self ..)
    have h1 : lookD kvs n = some d := h1
    have h2 : trb f d = none := h2
    unfold trbFs
    simp only [h1, h2]
    exact trbFs_none fun p hp => h p (List.mem_cons_of_mem _ hp)
theorem listT_none {g : PyData → Option (List Key)} : ∀ {ds : List PyData} {i : Nat} {seen : List Key}, (∀ d ∈ ds, g d = none) → listT g none i seen ds = none
  | [], _, _, _ => by rw [listT]
  | d :: r, i, seen, h => by
    unfold listT
    rw [h d (List.mem_cons_self ..)]
    exact listT_none fun x hx => h x (List.mem_cons_of_mem _ hx)
theorem listT_keys {g : PyData → Option (List Key)} {k : List Nat} : ∀ {ds : List PyData} {i : Nat} {seen cs : List Key}, (∀ d ∈ ds, g d = none) → ds.map (keyV · k) = cs.map some → (seen ++ cs).Nodup → listT g (some k) i seen ds = none
  | [], _, _, _, _, _, _ => by rw [listT]
  | d :: r, i, seen, [], _, e, _ => by cases e
  | d :: r, i, seen, c :: cs, h, e, nd => by
    have e0 : keyV d k = some c := (List.cons.inj e).1
    have ns : (seen.any fun s => decide (s = c)) = false := by
      rw [List.any_eq_false]
      intro s hs
      have := (List.nodup_append.mp nd).2.2 s hs c (List.mem_cons_self ..)
      simpa using this
    unfold listT
    rw [h d (List.mem_cons_self ..)]
    simp only [e0, ns]
    exact listT_keys (cs := cs) (fun x hx => h x (List.mem_cons_of_mem _ hx)) (List.cons.inj e).2 (by rw [List.append_assoc]; exact nd)
theorem fit_len {fs : List (List Nat × Fm)} {kvs : List (PyData × PyData)} (e : kvs.map (·.1) = fs.map nmD) : kvs.length = fs.length := by
  have := congrArg List.length e
  rwa [List.length_map, List.length_map] at this
theorem fit_at {fs : List (List Nat × Fm)} {kvs : List (PyData × PyData)} (e : kvs.map (·.1) = fs.map nmD) {p : List Nat × Fm} (h : p ∈ fs) : ∃ (i : Nat) (q : PyData × PyData), fs[i]? = some p ∧ kvs[i]? = some q := by
  obtain ⟨i, hi⟩ := List.getElem?_of_mem h
  have il := (List.getElem?_eq_some_iff.mp hi).1
  exact ⟨i, _, hi, List.getElem?_eq_getElem (by rw [fit_len e]; exact il)⟩
theorem fit_known {fs : List (List Nat × Fm)} {kvs : List (PyData × PyData)} (e : kvs.map (·.1) = fs.map nmD) : kvs.any (fun p => !(fs.any fun q => strIs p.1 q.1)) = false := by
  rw [List.any_eq_false]
  intro p hp
  have hm : p.1 ∈ fs.map nmD := by
    rw [← e]
    exact List.mem_map.mpr ⟨p, hp, rfl⟩
  obtain ⟨q, hq, eq⟩ := List.mem_map.mp hm
  have : (fs.any fun q => strIs p.1 q.1) = true := List.any_eq_true.mpr ⟨q, hq, by rw [← eq, strIs_nm]; simp⟩
  rw [this]
  decide
theorem FitD.none {f : Fm} {d : PyData} (h : FitD f d) : trb f d = none := by
  induction h with
  | text h => rfl
  | number i => rfl
  | flag b => rfl
  | optN f => rfl
  | @opt f d h ih =>
    show (if noneD d then _ else trb f d) = _
    split
    · rfl
    · exact ih
  | @list f ds l h ih =>
    show (if Nat.blt 60 ds.length then some [] else listT (trb f) _ 0 [] ds) = _
    rw [if_neg (fun h => by have := Nat.blt_eq.mp h; omega)]
    exact listT_none ih
  | @keyed f k ds cs l h e nd ih =>
    show (if Nat.blt 60 ds.length then some [] else listT (trb f) (some k) 0 [] ds) = _
    rw [if_neg (fun h => by have := Nat.blt_eq.mp h; omega)]
    exact listT_keys (cs := cs) ih e nd
  | @rcd fs kvs l nm nd e h ih =>
    show (if kvs.any (fun p => !(fs.any fun q => strIs p.1 q.1)) then some [] else trbFs fs kvs) = _
    rw [fit_known e, if_neg (by decide)]
    refine trbFs_none fun p hp => ?_
    obtain ⟨i, q, h1, h2⟩ := fit_at e hp
    exact ⟨q.2, look_at nd e h1 h2, ih i p q h1 h2⟩
theorem FitD.sz {f : Fm} {d : PyData} (h : FitD f d) : Sz d := by
  induction h with
  | text h => exact .str h
  | number i => exact .int i
  | flag b => exact .bl b
  | optN f => exact .non
  | opt h ih => exact ih
  | list l h ih => exact .tup (by omega) ih
  | keyed l h e nd ih => exact .tup (by omega) ih
  | @rcd fs kvs l nm nd e h ih =>
    have len := fit_len e
    refine .dic (by omega) ?_ (fun p hp => ?_) (fun p hp => ?_)
    · rw [e]
      have em : fs.map nmD = (fs.map (·.1)).map fun n => PyData.str (mkS n) := by rw [List.map_map]; rfl
      rw [em]
      refine List.pairwise_map.mpr (List.Pairwise.imp (fun {x y} hne exy => hne ?_) nd)
      have : mkS x = mkS y := by injection exy
      have := congrArg (fun s : Str => s.cps.toList) this
      exact this
    · have hm : p.1 ∈ fs.map nmD := by
        rw [← e]
        exact List.mem_map.mpr ⟨p, hp, rfl⟩
      obtain ⟨q, hq, eq⟩ := List.mem_map.mp hm
      rw [← eq]
      refine .str ?_
      have := nm12 (nm q hq)
      rw [mk_len]
      omega
    · obtain ⟨i, hi⟩ := List.getElem?_of_mem hp
      have il := (List.getElem?_eq_some_iff.mp hi).1
      exact ih i _ p (List.getElem?_eq_getElem (by omega)) hi
end Sk
/-! Sk: one of two readings; what lies at a path -/
namespace Sk
open PySem PySem.Spec PyProof.Rows L2
section
variable {X : Cx}
theorem pe_or2 {e : Expr} {t t' : TE} (h : PE X e t) (h' : PE X e t') : PE X e (fun σ H Q => t σ H Q ∨ t' σ H Q) := ⟨fun pins s σ H Q I q => by
  rcases q with q | q
  · exact h.run pins s σ H Q I q
  · exact h'.run pins s σ H Q I q⟩
end
/-- one step of a path -/
def stepD : PyData → Key → Option PyData
  | .tuple ds, .inl i => if i < 0 then none else ds[i.toNat]?
  | .dict kvs, .inr z => lookD kvs z.cps.toList
  | _, _ => none
def getD : PyData → List Key → Option PyData
  | d, [] => some d
  | d, k :: r => match stepD d k with
    | some e => getD e r
    | none => none
theorem getD_app : ∀ {d e : PyData} {p r : List Key}, getD d p = some e → getD d (p ++ r) = getD e r
  | d, e, [], r, h => by cases h; rfl
  | d, e, k :: p, r, h => by
    unfold getD at h
    rw [List.cons_append]
    conv => lhs; unfold getD
    cases hs : stepD d k with
    | none => rw [hs] at h; cases h
    | some d1 =>
      rw [hs] at h
      exact getD_app h
theorem step_heap {H : Hp} {u : V} {d d1 : PyData} {k : Key} (dl : DL H u d) (h : stepD d k = some d1) : (∃ t xs i x1, u = .ref t ∧ H t = some (.tup xs) ∧ k = .inl ((i : Nat) : Int) ∧ xs[i]? = some x1 ∧ DL H x1 d1) ∨ ∃ t kvs z x1, u = .ref t ∧ H t = some (.dK kvs) ∧ k = .inr z ∧ valV kvs (.inr z) = some x1 ∧ DL H x1 d1 := by
  cases dl with
  | @tup t xs ds ht hs =>
    cases k with
    | inl i =>
      unfold stepD at h
      simp only at h
      split at h
      · cases h
      · rename_i h0
        have l := hs.len
        have il := (List.getElem?_eq_some_iff.mp h).1
        have hx : xs[i.toNat]? = some (xs[i.toNat]'(by omega)) := List.getElem?_eq_getElem _
        obtain ⟨d2, e2, dl2⟩ := hs.at _ _ hx
        rw [h] at e2
        cases e2
        exact .inl ⟨t, xs, i.toNat, _, rfl, ht, by rw [Int.toNat_of_nonneg (by omega)], hx, dl2⟩
    | inr z => cases h
  | @dic t kvs ds ht hk hv =>
    cases k with
    | inl i => cases h
    | inr z =>
      have h : lookD ds z.cps.toList = some d1 := h
      rcases val_look (n := z.cps.toList) hk hv with ⟨_, e⟩ | ⟨x1, d2, e1, e2, e3⟩
      · rw [e] at h
        cases h
      · rw [h] at e2
        cases e2
        rw [mk_sl] at e1
        exact .inr ⟨t, kvs, z, x1, rfl, ht, rfl, e1, e3⟩
  | _ => cases k <;> cases h
def keyD : Key → PyData
  | .inl i => .int i
  | .inr z => .str z
def setD (kvs : List (PyData × PyData)) (n : List Nat) (x : PyData) : List (PyData × PyData) := kvs.map fun p => if strIs p.1 n then (p.1, x) else p
/-- the data with something new at a path -/
def putD : PyData → List Key → PyData → PyData
  | _, [], x => x
  | .tuple ds, .inl i :: r, x => match ds[i.toNat]? with
    | some d => .tuple (ds.take i.toNat ++ [putD d r x] ++ ds.drop (i.toNat + 1))
    | none => .tuple ds
  | .dict kvs, .inr z :: r, x => match lookD kvs z.cps.toList with
    | some d => .dict (setD kvs z.cps.toList (putD d r x))
    | none => .dict kvs
  | d, _, _ => d
end Sk
/-! Sk: paths as data -/
namespace Sk
open PySem PySem.Spec PyProof.Rows L2
theorem keys_plain : ∀ p : List Key, PyData.plainAll (p.map keyD) = true
  | [] => rfl
  | .inl i :: r => keys_plain r
  | .inr z :: r => keys_plain r
theorem keys_depth : ∀ p : List Key, PyData.depthAll (p.map keyD) ≤ 1
  | [] => by decide
  | .inl i :: r => Nat.max_le.mpr ⟨Nat.zero_le 1, keys_depth r⟩
  | .inr z :: r => Nat.max_le.mpr ⟨Nat.zero_le 1, keys_depth r⟩
theorem shp_keys (p : List Key) : shp (.tuple (p.map keyD)) = true := by
  unfold shp
  rw [Bool.and_eq_true]
  refine ⟨keys_plain p, decide_eq_true ?_⟩
  have := keys_depth p
  show PyData.depthAll (p.map keyD) + 1 ≤ 64
  omega
end Sk
/-! Sk: the places of data with a form; one thing wrong at a place -/
namespace Sk
open PySem PySem.Spec PyProof.Rows L2
inductive Pl : Fm → PyData → List Key → Fm → Prop
  | here (f : Fm) (d : PyData) : Pl f d [] f
  | opt {f : Fm} {d : PyData} {p : List Key} {g : Fm} : p ≠ [] → Pl f d p g → Pl (.opt f) d p g
  | list {f : Fm} {ds : List PyData} {i : Nat} {d1 : PyData} {p : List Key} {g : Fm} : ds[i]? = some d1 → Pl f d1 p g → Pl (.list f) (.tuple ds) (.inl (i : Int) :: p) g
  | keyed {f : Fm} {k : List Nat} {ds : List PyData} {i : Nat} {d1 : PyData} {p : List Key} {g : Fm} : ds[i]? = some d1 → Pl f d1 p g → Pl (.keyed f k) (.tuple ds) (.inl (i : Int) :: p) g
  | rcd {fs : List (List Nat × Fm)} {kvs : List (PyData × PyData)} {i : Nat} {q : List Nat × Fm} {d1 : PyData} {p : List Key} {g : Fm} : fs[i]? = some q → lookD kvs q.1 = some d1 → Pl q.2 d1 p g → Pl (.rcd fs) (.dict kvs) (.inr (mkS q.1) :: p) g
theorem putD_tup {ds : List PyData} {i : Nat} {d1 x : PyData} {p : List Key} (h : ds[i]? = some d1) : putD (.tuple ds) (.inl (i : Int) :: p) x = .tuple (ds.take i ++ [putD d1 p x] ++ ds.drop (i + 1)) := by
  have e0 : ds[((i : Nat) : Int).toNat]? = some d1 := h
  rw [putD, e0]
  rfl
theorem putD_dic {kvs : List (PyData × PyData)} {n : List Nat} {d1 x : PyData} {p : List Key} (h : lookD kvs n = some d1) : putD (.dict kvs) (.inr (mkS n) :: p) x = .dict (setD kvs n (putD d1 p x)) := by
  have e0 : lookD kvs (mkS n).cps.toList = some d1 := h
  rw [putD, e0]
  rfl
theorem listT_at {g : PyData → Option (List Key)} {x : PyData} {rest : List PyData} {rel : List Key} (hx : g x = some rel) : ∀ {ds : List PyData} {i : Nat} {seen : List Key}, (∀ d ∈ ds, g d = none) → listT g none i seen (ds ++ [x] ++ rest) = some (.inl ((i + ds.length : Nat) : Int) :: rel)
  | [], i, seen, _ => by
    rw [List.nil_append, List.singleton_append]
    unfold listT
    rw [hx]
    rfl
  | d :: r, i, seen, h => by
    rw [List.cons_append, List.cons_append]
    unfold listT
    rw [h d (List.mem_cons_self ..)]
    have := listT_at (rest := rest) hx (ds := r) (i := i + 1) (seen := seen) fun d hd => h d (List.mem_cons_of_mem _ hd)
    rw [show i + (d :: r).length = i + 1 + r.length by simp; omega]
    exact this
theorem listK_at {g : PyData → Option (List Key)} {k : List Nat} {x : PyData} {rest : List PyData} {rel : List Key} (hx : g x = some rel) : ∀ {ds : List PyData} {i : Nat} {seen cs : List Key}, (∀ d ∈ ds, g d = none) → ds.map (keyV · k) = cs.map some → (seen ++ cs).Nodup → listT g (some k) i seen (ds ++ [x] ++ rest) = some (.inl ((i + ds.length : Nat) : Int) :: rel)
  | [], i, seen, _, _, _, _ => by
    rw [List.nil_append, List.singleton_append]
    unfold listT
    rw [hx]
    rfl
  | d :: r, i, seen, [], _, e, _ => by cases e
  | d :: r, i, seen, c :: cs, h, e, nd => by
    have e0 : keyV d k = some c := (List.cons.inj e).1
    have ns : (seen.any fun s => decide (s = c)) = false := by
      rw [List.any_eq_false]
      intro s hs
      have := (List.nodup_append.mp nd).2.2 s hs c (List.mem_cons_self ..)
      simpa using this
    rw [List.cons_append, List.cons_append]
    unfold listT
    rw [h d (List.mem_cons_self ..)]
    simp only [e0, ns]
    have := listK_at (rest := rest) hx (ds := r) (i := i + 1) (seen := seen ++ [c]) (cs := cs) (fun d hd => h d (List.mem_cons_of_mem _ hd)) (List.cons.inj e).2 (by rw [List.append_assoc]; exact nd)
    rw [show i + (d :: r).length = i + 1 + r.length by simp; omega]
    exact this
theorem setD_keys (kvs : List (PyData × PyData)) (n : List Nat) (x : PyData) : (setD kvs n x).map (·.1) = kvs.map (·.1) := by
  unfold setD
  rw [List.map_map]
  refine List.map_congr_left fun p _ => ?_
  show (if strIs p.1 n then (p.1, x) else p).1 = p.1
  split <;> rfl
theorem lookD_set {n m : List Nat} {x : PyData} : ∀ {kvs : List (PyData × PyData)}, lookD (setD kvs n x) m = if m = n then (lookD kvs n).map fun _ => x else lookD kvs m
  | [] => by
    show none = _
    split <;> rfl
  | (a, b) :: r => by
    have ih := lookD_set (n := n) (m := m) (x := x) (kvs := r)
    have st : ∀ {a : PyData}, strIs a n = true → strIs a m = true → m = n := fun {a} h1 h2 => by
      cases a with
      | str z =>
        have h1 : z.cps.toList = n := by simpa [strIs] using h1
        have h2 : z.cps.toList = m := by simpa [strIs] using h2
        rw [← h1, ← h2]
      | _ => cases h1
    unfold lookD setD at ih ⊢
    rw [List.map_cons]
    cases h1 : strIs a n with
    | true =>
      rw [if_pos rfl, List.find?_cons_of_pos (p := fun p : PyData × PyData => strIs p.1 n) (a := (a, b)) h1]
      cases h2 : strIs a m with
      | true =>
        rw [List.find?_cons_of_pos (p := fun p : PyData × PyData => strIs p.1 m) (a := (a, x)) h2, if_pos (st h1 h2)]
        rfl
      | false =>
        have ne : m ≠ n := fun e => by rw [e, h1] at h2; cases h2
        rw [if_neg ne] at ih ⊢
        rw [List.find?_cons_of_neg (by show ¬ strIs a m = true; rw [h2]; decide), List.find?_cons_of_neg (by show ¬ strIs a m = true; rw [h2]; decide)]
        exact ih
    | false =>
      rw [if_neg (by decide), List.find?_cons_of_neg (p := fun p : PyData × PyData => strIs p.1 n) (a := (a, b)) (by show ¬ strIs a n = true; rw [h1]; decide)]
      cases h2 : strIs a m with
      | true =>
        have ne : m ≠ n := fun e => by rw [e, h1] at h2; cases h2
        rw [if_neg ne, List.find?_cons_of_pos (p := fun p : PyData × PyData => strIs p.1 m) (a := (a, b)) h2, List.find?_cons_of_pos (p := fun p : PyData × PyData => strIs p.1 m) (a := (a, b)) h2]
      | false =>
        have c : ∀ l, List.find? (fun p : PyData × PyData => strIs p.1 m) ((a, b) :: l) = List.find? (fun p : PyData × PyData => strIs p.1 m) l := fun l => List.find?_cons_of_neg (by show ¬ strIs a m = true; rw [h2]; decide)
        rw [c, c]
        exact ih
end Sk
/-! Sk: one thing wrong at a place: the first trouble is there -/
namespace Sk
open PySem PySem.Spec PyProof.Rows L2
theorem pl_shape {f g : Fm} {d : PyData} {p : List Key} (h : Pl f d p g) (ne : p ≠ []) : (∃ ds i r d1, d = .tuple ds ∧ p = .inl ((i : Nat) : Int) :: r ∧ ds[i]? = some d1) ∨ ∃ kvs n r d1, d = .dict kvs ∧ p = .inr (mkS n) :: r ∧ lookD kvs n = some d1 := by
  induction h with
  | here f d => exact absurd rfl ne
  | opt n h ih => exact ih ne
  | list h1 h2 ih => exact .inl ⟨_, _, _, _, rfl, rfl, h1⟩
  | keyed h1 h2 ih => exact .inl ⟨_, _, _, _, rfl, rfl, h1⟩
  | rcd h1 h2 h3 ih => exact .inr ⟨_, _, _, _, rfl, rfl, h2⟩
theorem pl_none {f g : Fm} {d x : PyData} {p : List Key} (h : Pl f d p g) (ne : p ≠ []) : noneD (putD d p x) = false ∧ d ≠ .none := by
  rcases pl_shape h ne with ⟨ds, i, r, d1, rfl, rfl, e⟩ | ⟨kvs, n, r, d1, rfl, rfl, e⟩
  · rw [putD_tup e]
    exact ⟨rfl, fun z => by cases z⟩
  · rw [putD_dic e]
    exact ⟨rfl, fun z => by cases z⟩
theorem trbFs_at {kvs : List (PyData × PyData)} {y : PyData} {rel : List Key} {q : List Nat × Fm} (hy : lookD kvs q.1 = some y) (hr : trb q.2 y = some rel) : ∀ {fs : List (List Nat × Fm)} {i : Nat}, fs[i]? = some q → (∀ (j : Nat) p, j < i → fs[j]? = some p → ∃ d, lookD kvs p.1 = some d ∧ trb p.2 d = none) → trbFs fs kvs = some (.inr (mkS q.1) :: rel)
  | [], i, h, _ => by simp at h
  | (n, f) :: r, 0, h, _ => by
    cases h
    have hy : lookD kvs n = some y := hy
    have hr : trb f y = some rel := hr
    unfold trbFs
    simp only [hy, hr]
  | (n, f) :: r, i + 1, h, hb => by
    obtain ⟨d, h1, h2⟩ := hb 0 (n, f) (by omega) rfl
    have h1 : lookD kvs n = some d := h1
    have h2 : trb f d = none := h2
    unfold trbFs
    simp only [h1, h2]
    exact trbFs_at hy hr (i := i) (by simpa using h) fun j p hj hp => hb (j + 1) p (by omega) (by simpa using hp)
theorem put_len {ds : List PyData} {i : Nat} {d1 x : PyData} (h : ds[i]? = some d1) : (ds.take i ++ [x] ++ ds.drop (i + 1)).length = ds.length := by
  have := (List.getElem?_eq_some_iff.mp h).1
  simp
  omega
theorem wrong_at {f g : Fm} {d x : PyData} {p rel : List Key} (pl : Pl f d p g) (hx : trb g x = some rel) (fd : FitD f d) : trb f (putD d p x) = some (p ++ rel) := by
  induction pl with
  | here f d => rw [putD]; exact hx
  | @opt f d p g ne h ih =>
    have hn := pl_none (x := x) h ne
    have fd : FitD f d := by
      cases fd with
      | optN => exact absurd rfl hn.2
      | opt h => exact h
    show (if noneD (putD d p x) then _ else trb f (putD d p x)) = _
    rw [hn.1, if_neg (by decide)]
    exact ih hx fd
  | @list f ds i d1 p g h1 h2 ih =>
    obtain ⟨l, hf⟩ : ds.length ≤ 3 ∧ ∀ d ∈ ds, FitD f d := by cases fd; exact ⟨by assumption, by assumption⟩
    have il := (List.getElem?_eq_some_iff.mp h1).1
    rw [putD_tup h1]
    show (if Nat.blt 60 (ds.take i ++ [putD d1 p x] ++ ds.drop (i + 1)).length then some [] else listT (trb f) none 0 [] (ds.take i ++ [putD d1 p x] ++ ds.drop (i + 1))) = _
    rw [put_len h1, if_neg (fun h => by have := Nat.blt_eq.mp h; omega), listT_at (ih hx (hf d1 (List.mem_of_getElem? h1))) fun d hd => (hf d (List.mem_of_mem_take hd)).none]
    rw [List.length_take, Nat.min_eq_left (by omega), Nat.zero_add]
    rfl
  | @keyed f k ds i d1 p g h1 h2 ih =>
    obtain ⟨cs, l, hf, ek, nd⟩ : ∃ cs : List Key, ds.length ≤ 3 ∧ (∀ d ∈ ds, FitD f d) ∧ ds.map (keyV · k) = cs.map some ∧ cs.Nodup := by cases fd; exact ⟨_, by assumption, by assumption, by assumption, by assumption⟩
    have il := (List.getElem?_eq_some_iff.mp h1).1
    rw [putD_tup h1]
    show (if Nat.blt 60 (ds.take i ++ [putD d1 p x] ++ ds.drop (i + 1)).length then some [] else listT (trb f) (some k) 0 [] (ds.take i ++ [putD d1 p x] ++ ds.drop (i + 1))) = _
    rw [put_len h1, if_neg (fun h => by have := Nat.blt_eq.mp h; omega), listK_at (cs := cs.take i) (ih hx (hf d1 (List.mem_of_getElem? h1))) (fun d hd => (hf d (List.mem_of_mem_take hd)).none) (by rw [List.map_take, ek, List.map_take]) (List.Sublist.nodup (List.take_sublist i cs) nd)]
    rw [List.length_take, Nat.min_eq_left (by omega), Nat.zero_add]
    rfl
  | @rcd fs kvs i q d1 p g h1 h2 h3 ih =>
    cases fd with
    | rcd l nm nd e h =>
    rw [putD_dic h2]
    have e2 : (setD kvs q.1 (putD d1 p x)).map (·.1) = fs.map nmD := (setD_keys ..).trans e
    show (if (setD kvs q.1 (putD d1 p x)).any (fun p => !(fs.any fun q => strIs p.1 q.1)) then some [] else trbFs fs (setD kvs q.1 (putD d1 p x))) = _
    rw [fit_known e2, if_neg (by decide)]
    have il := (List.getElem?_eq_some_iff.mp h1).1
    have len := fit_len e
    have hk : kvs[i]? = some (kvs[i]'(by omega)) := List.getElem?_eq_getElem _
    have lk := look_at nd e h1 hk
    have ed : kvs[i].2 = d1 := Option.some.inj (lk.symm.trans h2)
    have fd1 : FitD q.2 d1 := by
      have := h i q _ h1 hk
      rw [ed] at this
      exact this
    refine trbFs_at (y := putD d1 p x) ?_ (ih hx fd1) h1 fun j r hj hr => ?_
    · rw [lookD_set, if_pos rfl, h2]
      rfl
    · have jl : j < fs.length := by omega
      have hkj : kvs[j]? = some (kvs[j]'(by omega)) := List.getElem?_eq_getElem _
      have ne : r.1 ≠ q.1 := fun z => by
        have nd := List.pairwise_iff_getElem.mp nd j i (by rw [List.length_map]; omega) (by rw [List.length_map]; omega) hj
        rw [List.getElem_map, List.getElem_map] at nd
        rw [List.getElem?_eq_getElem jl] at hr
        rw [List.getElem?_eq_getElem il] at h1
        rw [Option.some.inj hr, Option.some.inj h1] at nd
        exact nd z
      refine ⟨_, ?_, (h j r _ hr hkj).none⟩
      rw [lookD_set, if_neg ne]
      exact look_at nd e hr hkj
end Sk
/-! Sk: what lies at a place fits; the six ways of being wrong -/
namespace Sk
open PySem PySem.Spec PyProof.Rows L2
theorem pl_get {f g : Fm} {d : PyData} {p : List Key} (pl : Pl f d p g) (fd : FitD f d) : ∃ e, getD d p = some e ∧ FitD g e := by
  induction pl with
  | here f d => exact ⟨d, by rw [getD], fd⟩
  | @opt f d p g ne h ih =>
    have hn := pl_none (x := .none) h ne
    cases fd with
    | optN => exact absurd rfl hn.2
    | opt h => exact ih h
  | @list f ds i d1 p g h1 h2 ih =>
    have hf : ∀ d ∈ ds, FitD f d := by cases fd; assumption
    obtain ⟨e, h3, h4⟩ := ih (hf d1 (List.mem_of_getElem? h1))
    refine ⟨e, ?_, h4⟩
    have : stepD (.tuple ds) (.inl ((i : Nat) : Int)) = some d1 := by
      show (if ((i : Nat) : Int) < 0 then none else ds[((i : Nat) : Int).toNat]?) = _
      rw [if_neg (by omega)]
      exact h1
    rw [getD, this]
    exact h3
  | @keyed f k ds i d1 p g h1 h2 ih =>
    have hf : ∀ d ∈ ds, FitD f d := by cases fd; assumption
    obtain ⟨e, h3, h4⟩ := ih (hf d1 (List.mem_of_getElem? h1))
    refine ⟨e, ?_, h4⟩
    have : stepD (.tuple ds) (.inl ((i : Nat) : Int)) = some d1 := by
      show (if ((i : Nat) : Int) < 0 then none else ds[((i : Nat) : Int).toNat]?) = _
      rw [if_neg (by omega)]
      exact h1
    rw [getD, this]
    exact h3
  | @rcd fs kvs i q d1 p g h1 h2 h3 ih =>
    cases fd with
    | rcd l nm nd e h =>
    have il := (List.getElem?_eq_some_iff.mp h1).1
    have len := fit_len e
    have hk : kvs[i]? = some (kvs[i]'(by omega)) := List.getElem?_eq_getElem _
    have lk := look_at nd e h1 hk
    have ed : kvs[i].2 = d1 := Option.some.inj (lk.symm.trans h2)
    have fd1 : FitD q.2 d1 := by
      have := h i q _ h1 hk
      rw [ed] at this
      exact this
    obtain ⟨e', h4, h5⟩ := ih fd1
    refine ⟨e', ?_, h5⟩
    have : stepD (.dict kvs) (.inr (mkS q.1)) = some d1 := h2
    rw [getD, this]
    exact h4
theorem pl_len {f g : Fm} {d : PyData} {p : List Key} (pl : Pl f d p g) : p.length ≤ f.dep := by
  induction pl with
  | here f d => exact Nat.zero_le _
  | @opt f d p g ne h ih => show p.length ≤ f.dep + 1; omega
  | @list f ds i d1 p g h1 h2 ih => show p.length + 1 ≤ f.dep + 1; omega
  | @keyed f k ds i d1 p g h1 h2 ih => show p.length + 1 ≤ f.dep + 1; omega
  | @rcd fs kvs i q d1 p g h1 h2 h3 ih =>
    show p.length + 1 ≤ depFs fs + 1
    have : ∀ {fs : List (List Nat × Fm)} {i : Nat}, fs[i]? = some q → q.2.dep ≤ depFs fs := by
      intro fs
      induction fs with
      | nil => intro i h; simp at h
      | cons a r ih2 =>
        intro i h
        cases i with
        | zero => cases h; exact Nat.le_max_left _ _
        | succ i => exact Nat.le_trans (ih2 (i := i) (by simpa using h)) (Nat.le_max_right _ _)
    have := this h1
    omega
/-- an optional form: what is not None -/
theorem opt_wrong {f : Fm} {x : PyData} {rel : List Key} (h : trb f x = some rel) (n : noneD x = false) : trb (.opt f) x = some rel := by
  show (if noneD x then _ else trb f x) = _
  rw [n, if_neg (by decide)]
  exact h
/-- a list that is too long -/
theorem long_wrong {f : Fm} {ds : List PyData} (h : 60 < ds.length) : trb (.list f) (.tuple ds) = some [] := by
  show (if Nat.blt 60 ds.length then some [] else _) = _
  rw [if_pos (Nat.blt_eq.mpr h)]
end Sk
/-! Sk: a key doubled, a field too many -/
namespace Sk
open PySem PySem.Spec PyProof.Rows L2
theorem listK_dup {g : PyData → Option (List Key)} {k : List Nat} {x : PyData} {c0 : Key} (hx : g x = none) (hc : keyV x k = some c0) : ∀ {ds : List PyData} {i : Nat} {seen cs : List Key}, (∀ d ∈ ds, g d = none) → ds.map (keyV · k) = cs.map some → (seen ++ cs).Nodup → c0 ∈ seen ++ cs → listT g (some k) i seen (ds ++ [x]) = some [.inl ((i + ds.length : Nat) : Int)]
  | [], i, seen, [], _, _, _, m => by
    have ns : (seen.any fun s => decide (s = c0)) = true := List.any_eq_true.mpr ⟨c0, by simpa using m, by simp⟩
    rw [List.nil_append]
    unfold listT
    rw [hx]
    simp only [hc, ns]
    rfl
  | [], i, seen, _ :: _, _, e, _, _ => by cases e
  | d :: r, i, seen, [], _, e, _, _ => by cases e
  | d :: r, i, seen, c :: cs, h, e, nd, m => by
    have e0 : keyV d k = some c := (List.cons.inj e).1
    have ns : (seen.any fun s => decide (s = c)) = false := by
      rw [List.any_eq_false]
      intro s hs
      have := (List.nodup_append.mp nd).2.2 s hs c (List.mem_cons_self ..)
      simpa using this
    rw [List.cons_append]
    unfold listT
    rw [h d (List.mem_cons_self ..)]
    simp only [e0, ns]
    have := listK_dup hx hc (ds := r) (i := i + 1) (seen := seen ++ [c]) (cs := cs) (fun d hd => h d (List.mem_cons_of_mem _ hd)) (List.cons.inj e).2 (by rw [List.append_assoc]; exact nd) (by rw [List.append_assoc]; exact m)
    rw [show i + (d :: r).length = i + 1 + r.length by simp; omega]
    exact this
/-- an element doubled in a keyed list -/
theorem dup_wrong {f : Fm} {k : List Nat} {ds : List PyData} {d : PyData} (fd : FitD (.keyed f k) (.tuple ds)) (h : d ∈ ds) : trb (.keyed f k) (.tuple (ds ++ [d])) = some [.inl (ds.length : Int)] := by
  cases fd with
  | @keyed _ _ _ cs l hf ek nd =>
  have hm : keyV d k ∈ ds.map (keyV · k) := List.mem_map.mpr ⟨d, h, rfl⟩
  rw [ek] at hm
  obtain ⟨c, hc, e⟩ := List.mem_map.mp hm
  show (if Nat.blt 60 (ds ++ [d]).length then some [] else listT (trb f) (some k) 0 [] (ds ++ [d])) = _
  rw [if_neg (fun h => by have := Nat.blt_eq.mp h; rw [List.length_append, List.length_singleton] at this; omega), listK_dup (seen := []) (cs := cs) (hf d h).none e.symm (fun d hd => (hf d hd).none) ek nd hc, Nat.zero_add]
/-- a field too many -/
theorem more_wrong {fs : List (List Nat × Fm)} {kvs : List (PyData × PyData)} {n : List Nat} {x : PyData} (h : ∀ q ∈ fs, q.1 ≠ n) : trb (.rcd fs) (.dict (kvs ++ [(.str (mkS n), x)])) = some [] := by
  show (if (kvs ++ [(PyData.str (mkS n), x)]).any (fun p => !(fs.any fun q => strIs p.1 q.1)) then some [] else _) = _
  rw [if_pos]
  refine List.any_eq_true.mpr ⟨(.str (mkS n), x), by simp, ?_⟩
  have : (fs.any fun q => strIs (.str (mkS n)) q.1) = false := by
    rw [List.any_eq_false]
    intro q hq z
    have z : n = q.1 := by
      have : ((mkS n).cps.toList == q.1) = true := z
      have : (mkS n).cps.toList = q.1 := by simpa using this
      exact this
    exact h q hq z.symm
  rw [this]
  rfl
end Sk
/-! Sk: a field left out -/
namespace Sk
open PySem PySem.Spec PyProof.Rows L2
def lessD (kvs : List (PyData × PyData)) (n : List Nat) : List (PyData × PyData) := kvs.filter fun p => !strIs p.1 n
theorem strIs_two {a : PyData} {n m : List Nat} (h1 : strIs a n = true) (h2 : strIs a m = true) : m = n := by
  cases a with
  | str z =>
    have h1 : z.cps.toList = n := by simpa [strIs] using h1
    have h2 : z.cps.toList = m := by simpa [strIs] using h2
    rw [← h1, ← h2]
  | _ => cases h1
theorem look_less {kvs : List (PyData × PyData)} {n : List Nat} : lookD (lessD kvs n) n = none := by
  unfold lookD lessD
  rw [List.find?_eq_none.mpr]
  · rfl
  · intro p hp z
    have := (List.mem_filter.mp hp).2
    rw [z] at this
    cases this
theorem look_other {n m : List Nat} (ne : m ≠ n) : ∀ {kvs : List (PyData × PyData)}, lookD (lessD kvs n) m = lookD kvs m
  | [] => rfl
  | (a, b) :: r => by
    have ih := look_other ne (kvs := r)
    unfold lookD lessD at ih ⊢
    cases h1 : strIs a n with
    | true =>
      rw [List.filter_cons_of_neg (by show ¬ (!strIs a n) = true; rw [h1]; decide), List.find?_cons_of_neg (a := (a, b)) (by intro h2; exact ne (strIs_two h1 h2))]
      exact ih
    | false =>
      rw [List.filter_cons_of_pos (by show (!strIs a n) = true; rw [h1]; rfl)]
      cases h2 : strIs a m with
      | true => rw [List.find?_cons_of_pos (a := (a, b)) h2, List.find?_cons_of_pos (a := (a, b)) h2]
      | false =>
        have c : ∀ l, List.find? (fun p : PyData × PyData => strIs p.1 m) ((a, b) :: l) = List.find? (fun p : PyData × PyData => strIs p.1 m) l := fun l => List.find?_cons_of_neg (by show ¬ strIs a m = true; rw [h2]; decide)
        rw [c, c]
        exact ih
theorem trbFs_less {kvs : List (PyData × PyData)} {q : List Nat × Fm} (hy : lookD kvs q.1 = none) : ∀ {fs : List (List Nat × Fm)} {i : Nat}, fs[i]? = some q → (∀ (j : Nat) p, j < i → fs[j]? = some p → ∃ d, lookD kvs p.1 = some d ∧ trb p.2 d = none) → trbFs fs kvs = some [.inr (mkS q.1)]
  | [], i, h, _ => by simp at h
  | (n, f) :: r, 0, h, _ => by
    cases h
    have hy : lookD kvs n = none := hy
    unfold trbFs
    simp only [hy]
  | (n, f) :: r, i + 1, h, hb => by
    obtain ⟨d, h1, h2⟩ := hb 0 (n, f) (by omega) rfl
    have h1 : lookD kvs n = some d := h1
    have h2 : trb f d = none := h2
    unfold trbFs
    simp only [h1, h2]
    exact trbFs_less hy (i := i) (by simpa using h) fun j p hj hp => hb (j + 1) p (by omega) (by simpa using hp)
/-- a field left out -/
theorem less_wrong {fs : List (List Nat × Fm)} {kvs : List (PyData × PyData)} {q : List Nat × Fm} (fd : FitD (.rcd fs) (.dict kvs)) (h : q ∈ fs) : trb (.rcd fs) (.dict (lessD kvs q.1)) = some [.inr (mkS q.1)] := by
  cases fd with
  | rcd l nm nd e hh =>
  obtain ⟨i, h1⟩ := List.getElem?_of_mem h
  have il := (List.getElem?_eq_some_iff.mp h1).1
  have len := fit_len e
  have un : (lessD kvs q.1).any (fun p => !(fs.any fun q => strIs p.1 q.1)) = false := by
    rw [List.any_eq_false]
    intro p hp
    exact List.any_eq_false.mp (fit_known e) p (List.mem_filter.mp hp).1
  show (if (lessD kvs q.1).any (fun p => !(fs.any fun q => strIs p.1 q.1)) then some [] else trbFs fs (lessD kvs q.1)) = _
  rw [un, if_neg (by decide)]
  refine trbFs_less look_less h1 fun j r hj hr => ?_
  have jl : j < fs.length := by omega
  have hkj : kvs[j]? = some (kvs[j]'(by omega)) := List.getElem?_eq_getElem _
  have ne : r.1 ≠ q.1 := fun z => by
    have nd := List.pairwise_iff_getElem.mp nd j i (by rw [List.length_map]; omega) (by rw [List.length_map]; omega) hj
    rw [List.getElem_map, List.getElem_map] at nd
    rw [List.getElem?_eq_getElem jl] at hr
    rw [List.getElem?_eq_getElem il] at h1
    rw [Option.some.inj hr, Option.some.inj h1] at nd
    exact nd z
  refine ⟨_, ?_, (hh j r _ hr hkj).none⟩
  rw [look_other ne]
  exact look_at nd e hr hkj
end Sk
/-! Sk: a tuple against the empty one; len of dicts; d.pop(k); tuple * int; calls of methods; repr of any data -/
namespace Sk
open PySem PySem.Spec PyProof.Rows L2
section
variable {X : Cx}
/-- a tuple against the empty one, whatever its items are -/
def rNeT (K : PySem.W.Frag) : R2 := fun x y H Q => match x, y with
  | .ref a, .ref b => ∃ xs, SqT K H a xs ∧ SqT K H b [] ∧ Q (.bl (!xs.isEmpty)) H
  | _, _ => False
theorem kneT (K : PySem.W.Frag) (hu : X.A.units + 64 < cLine) (h : X.K = K := by rfl) : OpR X (compareOp .NotEq) (rNeT K) := by
  subst h
  intro pins s σ H x y v u Q I rx ry q
  unfold rNeT at q
  split at q
  · rename_i a b
    obtain ⟨xs, h1, h2, q⟩ := q
    have e1 : v = Value.ref a := rx
    have e2 : u = Value.ref b := ry
    subst e1 e2
    obtain ⟨i1, r1, p1, _⟩ := I.tuple h1
    obtain ⟨i2, r2, p2, _⟩ := I.tuple h2
    cases r2
    have p1 : s.heap.IsTuple a i1.toArray := p1
    have p2 : s.heap.IsTuple b ([] : List Value).toArray := p2
    refine SeqAt.RcNeAt.tuples (e := fun _ => true) p1 p2 (by omega) (fun j h1 h2 => absurd h2 (Nat.not_lt_zero _)) _ _ _ _ ?_
    have e : (!((List.range (min i1.toArray.size ([] : List Value).toArray.size)).all (fun _ => true) && i1.toArray.size == ([] : List Value).toArray.size)) = !xs.isEmpty := by
      cases r1 with
      | nil => rfl
      | cons _ _ => simp
    rw [e]
    exact ⟨.bl (!xs.isEmpty), H, I, rfl, q⟩
  · exact q.elim
/-- len of a text, a list, a tuple, a dict -/
def rLenD (K : PySem.W.Frag) : List V → Hp → VK → Prop := fun xs H Q => match xs with
  | [.str z] => z.length ≤ sizeLine ∧ Q (.int z.length) H
  | [.ref p] => (∃ ys, (SqL K H p ys ∨ SqT K H p ys) ∧ Q (.int ys.length) H) ∨ ∃ kvs, H p = some (.dK kvs) ∧ Q (.int kvs.length) H
  | _ => False
theorem call_len_d : CallR X (.builtin "len") (fun xs H Q => ∃ p kvs, xs = [.ref p] ∧ H p = some (.dK kvs) ∧ Q (.int kvs.length) H) := by
  intro pins s σ H xs us Q I r q
  obtain ⟨p, kvs, rfl, h, q⟩ := q
  cases r with
  | @cons _ u _ us ru rs =>
  cases rs
  obtain rfl : u = Value.ref p := ru
  exact d_len I (.inl h) fun t s' I' => ⟨.int kvs.length, H, I', ⟨t, rfl⟩, q⟩
theorem klenD (K : PySem.W.Frag) (h : X.K = K := by rfl) : CallR X (.builtin "len") (rLenD K) := by
  subst h
  refine CallRw (CallR.or call_lenU call_len_d) fun xs H Q q => ?_
  unfold rLenD at q
  split at q
  · exact .inl q
  · rcases q with q | ⟨kvs, q⟩
    · exact .inl q
    · exact .inr ⟨_, kvs, rfl, q⟩
  · exact q.elim
/-- d.pop(k) -/
def uPop (td ty : TE) : TE := fun σ H Q => td σ H fun x H1 => match x with
  | .ref a => (∃ kvs, H1 a = some (.dK kvs)) ∧ ty σ H1 fun y H2 => ∃ kvs k v, H2 a = some (.dK kvs) ∧ y = kV k ∧ valV kvs k = some v ∧ Q v (upd H2 a (.dK (dropK kvs k)))
  | _ => False
theorem kpop {o e : Expr} {apos cpos : Pos} {td ty : TE} (ho : PE X o td) (he : PE X e ty) (h1 : attributeBase o "pop" X.env (eval o X.env) = eval o X.env := by rfl)
    (h2 : ((backTo cpos (starEach [e] X.env)).all (fun x => !x.1) && (backToKw cpos (keywordEach [] X.env)).all (fun x => x.1.isSome)
    && decide (([e] : List Expr).length + ([] : List Keyword).length + (if ([] : List Keyword).isEmpty then 0 else 1) < 30)) = true := by rfl)
    (h3 : (apos.endLine == cpos.line) = true := by rfl) (h4 : backTo cpos (starEach [e] X.env) = [(false, eval e X.env)] := by rfl) :
    PE X (.Call (.Attribute o "pop" apos) [e] [] cpos) (uPop td ty) := PEw (pe_dpop1 (up ho) (up he) ⟨h1, h2, h3, h4⟩) fun σ H Q q => by
  refine ⟨_, fun x H1 z => ?_, q⟩
  cases x with
  | ref a =>
    obtain ⟨⟨kvs, hk⟩, z⟩ := z
    exact ⟨a, rfl, .inl ⟨kvs, .inl hk⟩, _, fun y H2 z2 => z2, z⟩
  | _ => exact z.elim
/-- ints, texts, lists, tuples times a number -/
def rMulT (K : PySem.W.Frag) : R2 := fun x y H Q => match x, y with
  | .ref a, .int k => ∃ xs, SqT K H a xs ∧ xs ≠ [] ∧ 2 ≤ k ∧ k ≤ 1000 ∧ xs.length ≤ 1000 ∧ ∀ p, H p = none → Q (.ref p) (upd H p (.tup (List.replicate k.toNat xs).flatten))
  | _, _ => rMul x y H Q
theorem kmulT (K : PySem.W.Frag) (h : X.K = K := by rfl) : OpR X (binaryOp .Mult) (rMulT K) := by
  subst h
  refine OpRw (OpR.or op_mulU op_repT) fun x y H Q q => ?_
  unfold rMulT at q
  split at q
  · obtain ⟨xs, h⟩ := q
    exact .inr ⟨_, _, xs, rfl, rfl, h⟩
  · exact .inl q
end
/-! ### calls of methods -/
def uMeth (C : Addr) (m : Str) (sp : Sp) (ta : TE) (t : TA) : TE := fun σ H Q => ta σ H fun x H1 => match x with
  | .ref a => (∃ dx fs, H1 a = some (.ins C dx fs) ∧ fs.lookup m = none) ∧ t σ H1 fun vs H2 => sp (.ref a :: vs) H2 Q E0
  | _ => False
section
variable {X : Cx} {k : Nat} {f C : Addr} {fd : FuncData} {ps ks : List Str} {sp : Sp} {m : Str} {pos apos : Pos} {e o : Expr} {es : List Expr} {kws : List Keyword} {ta : TE} {t tk : TA}
theorem pe_methU {pl : Sem Bool} (he : PE X o ta) (c : Cls X.K C) (hm : Meth X.K C m f) (F : FnOk X.prog X.w X.K X.mg X.base CX0 k f fd ps sp) (hr : Room k X.A) (hb : Binds X.K fd ps []) (ha : PA X (e :: es) t)
    (hst : starEach (e :: es) X.env = (false, eval e X.env) :: starEach es X.env := by rfl) (hpl : (backTo pos (starEach es X.env)).any (·.1) = false := by rfl)
    (ht : eval (.Call (.Attribute o m apos) (e :: es) [] pos) X.env = (do
      let ov ← eval o X.env
      standAt apos.atName
      let (f, first) ← holding [ov] (getMethod ov m pl)
      callWith pos f first (backTo pos (starEach (e :: es) X.env)) (backToKw pos (keywordEach [] X.env))) := by rfl) :
    PE X (.Call (.Attribute o m apos) (e :: es) [] pos) (uMeth C m sp ta t) :=
  PEw (pe_meth (E := E0) (up he) c hm F hr hb .nil pass0 (upa ha) hst hpl ht) fun σ H Q q => by
    refine ⟨_, fun x H1 z => ?_, q⟩
    cases x with
    | ref a =>
      obtain ⟨⟨dx, fs, h1, h2⟩, z⟩ := z
      exact ⟨a, dx, fs, rfl, h1, h2, _, fun vs H2 z2 => by show sp (.ref a :: (vs ++ [])) H2 Q E0; rw [List.append_nil]; exact z2, z⟩
    | _ => exact z.elim
/-- o.m(k = v) -/
def uMethK (C : Addr) (m : Str) (sp : Sp) (n : Nat) (ta : TE) (tk : TA) : TE := fun σ H Q => ta σ H fun x H1 => match x with
  | .ref a => (∃ dx fs, H1 a = some (.ins C dx fs) ∧ fs.lookup m = none) ∧ tk σ H1 fun zs H2 => zs.length = n ∧ sp (.ref a :: zs) H2 Q E0
  | _ => False
theorem pe_methK {pl : Sem Bool} (he : PE X o ta) (c : Cls X.K C) (hm : Meth X.K C m f) (F : FnOk X.prog X.w X.K X.mg X.base CX0 k f fd ps sp) (hr : Room k X.A) (hb : KBn X.K fd ps 1 ks (fun us ws => us ++ ws) (fun vs zs => vs ++ zs)) (hkw : PK X kws tk)
    (hall : (backToKw pos (keywordEach kws X.env)).all (·.1.isSome) = true := by rfl) (hks : (backToKw pos (keywordEach kws X.env)).filterMap (·.1) = ks := by rfl)
    (hpl : ((backTo pos (starEach [] X.env)).any (·.1) || (backToKw pos (keywordEach kws X.env)).any (·.1.isNone)) = false := by rfl)
    (ht : eval (.Call (.Attribute o m apos) [] kws pos) X.env = (do
      let ov ← eval o X.env
      standAt apos.atName
      let (f, first) ← holding [ov] (getMethod ov m pl)
      callWith pos f first (backTo pos (starEach [] X.env)) (backToKw pos (keywordEach kws X.env))) := by rfl) :
    PE X (.Call (.Attribute o m apos) [] kws pos) (uMethK C m sp ks.length ta tk) := by
  refine ⟨fun pins s σ H Q I h => ?_⟩
  refine PySem.W.methodCall_KW (pl := pl) (thn (he.run pins s σ H _ I h) fun u s1 z => ?_) ht
  obtain ⟨x, H1, I1, rx, z⟩ := z
  cases x with
  | ref a =>
    obtain ⟨⟨dx, fs, ea, l⟩, q⟩ := z
    obtain rfl : u = Value.ref a := rx
    refine getmeth_ok I1 ea c hm l ?_
    refine PySem.W.callWith_KW0 (first := [.ref a]) (h₀ := X.base) I1.ok.mod.kin hm.kp hall (thn (hkw.run pos pins s1 σ H1 _ I1 q) fun ws s2 z => ?_) hpl
    obtain ⟨zs, H2, I2, rz, l2, q2⟩ := z
    refine ⟨I2.kIn, ?_⟩
    rw [hks, List.append_nil]
    exact run_fnN (us := [.ref a]) (vs := [.ref a]) F hr hb pass0 I2 (.cons rfl .nil) rz rfl l2 q2
  | _ => exact z.elim
/-- self by position, one more by name -/
theorem kb_self {K : PySem.W.Frag} {x qual : Str} {params : Arguments} {body : List Stmt} {scope : Scope} {f : Addr} {fd : FuncData} {p0 p1 : Str} (F : FunD K x qual params body scope [] [] f fd)
    (h : ∀ (kV doc pm : Value) (an : Option Addr) (cdv ct : Value) (w0 w1 : Value), bindArgs (PySem.W.fnOf x qual params body scope .none kV doc pm an cdv ct) ⟨[w0], [(p1, w1)]⟩ = pure [(p0, w0), (p1, w1)]) :
    KBn K fd [p0, p1] 1 [p1] (fun us ws => us ++ ws) (fun vs zs => vs ++ zs) := by
  obtain ⟨oc, od, dV, kV, doc, pm, an, cdv, ct, osl, rfl, lk, hcd, hD, hK⟩ := F.ex
  rcases hD with ⟨_, rfl⟩ | ⟨e, _⟩
  · refine ⟨fun s us ws _ l1 l2 => ?_, fun r rz => r.append rz⟩
    match us, ws, l1, l2 with
    | [w0], [w1], _, _ => exact .of_eq (h kV doc pm an cdv ct w0 w1)
  · exact absurd rfl e
end
/-! ### repr of data, of None -/
def rReprA : List V → Hp → VK → Prop := fun xs H Q => match xs with
  | [.ref a] => ∃ d, DL H (.ref a) d ∧ d.showable = true ∧ d.shown.length ≤ sizeLine ∧ d.depth ≤ 60 ∧ Q (.str d.shown) H
  | [.non] => Q (.str "None") H
  | _ => False
theorem kreprA {X : Cx} (y : SysD X.K) (gd : X.A.guards = some []) (hu : X.A.units + 64 < cLine) : CallR X (.builtin "repr") rReprA := by
  intro pins s σ H xs us Q I r q
  unfold rReprA at q
  split at q
  · rename_i a
    exact kreprL y gd hu pins s σ H _ us Q I r q
  · cases r with
    | @cons _ u _ us ru rs =>
    cases rs
    cases ru
    exact PySem.P.repr_of_none ⟨.str "None", H, I.tok _, ⟨_, rfl⟩, q⟩
  · exact q.elim
end Sk
/-! Sk: odd values; sizes; what a place's form is; how long a path is written -/
namespace Sk
open PySem PySem.Spec PyProof.Rows L2
def bareF : Fm → Fm
  | .opt f => f
  | f => f
theorem bare_wrong {g : Fm} {x : PyData} {rel : List Key} (h : trb (bareF g) x = some rel) (n : noneD x = false) : trb g x = some rel := by
  cases g with
  | opt f => exact opt_wrong h n
  | _ => exact h
theorem fit_bare {g : Fm} {e : PyData} (h : FitD g e) (n : noneD e = false) : FitD (bareF g) e := by
  cases h with
  | optN => cases n
  | opt h => exact h
  | text h => exact .text h
  | number i => exact .number i
  | flag b => exact .flag b
  | list a b => exact .list a b
  | keyed a b c d => exact .keyed a b c d
  | rcd a b c d e => exact .rcd a b c d e
def oddL : Fm → PyData → List PyData
  | .text, _ => [.int 7, .bool true, .tuple [], .list [.str "x"]]
  | .number, _ => [.bool true, .str "1", .tuple [.int 7], .list [.int 7]]
  | .flag, _ => [.int 1, .int 0, .str "", .list []]
  | _, e => [.int 1, .str "x", .list [e], .bool true, .bool false]
theorem odd_wrong {b : Fm} {e x : PyData} (nb : isOpt b = false) (h : x ∈ oddL b e) : trb b x = some [] ∧ noneD x = false := by
  cases b with
  | opt f => cases nb
  | _ =>
    simp only [oddL, List.mem_cons, List.mem_nil_iff, or_false] at h
    rcases h with rfl | h
    · exact ⟨rfl, rfl⟩
    rcases h with rfl | h
    · exact ⟨rfl, rfl⟩
    rcases h with rfl | h
    · exact ⟨rfl, rfl⟩
    first
    | (rcases h with rfl | rfl <;> exact ⟨rfl, rfl⟩)
    | (subst h; exact ⟨rfl, rfl⟩)
theorem sz_odd {b : Fm} {e x : PyData} (se : Sz e) (h : x ∈ oddL b e) : Sz x := by
  have one : ∀ {y : PyData}, Sz y → Sz (.list [y]) := fun s => .lst (by simp) fun d hd => by rw [List.mem_singleton.mp hd]; exact s
  have s1 : ∀ s : Str, s.length ≤ 1000 → Sz (.str s) := fun s h => .str h
  cases b with
  | text =>
    simp only [oddL, List.mem_cons, List.mem_nil_iff, or_false] at h
    rcases h with rfl | rfl | rfl | rfl
    · exact .int _
    · exact .bl _
    · exact .tup (by simp) fun d hd => by cases hd
    · exact one (s1 _ (by decide))
  | number =>
    simp only [oddL, List.mem_cons, List.mem_nil_iff, or_false] at h
    rcases h with rfl | rfl | rfl | rfl
    · exact .bl _
    · exact s1 _ (by decide)
    · exact .tup (by simp) fun d hd => by rw [List.mem_singleton.mp hd]; exact .int _
    · exact one (.int _)
  | flag =>
    simp only [oddL, List.mem_cons, List.mem_nil_iff, or_false] at h
    rcases h with rfl | rfl | rfl | rfl
    · exact .int _
    · exact .int _
    · exact s1 _ (by decide)
    · exact .lst (by simp) fun d hd => by cases hd
  | _ =>
    simp only [oddL, List.mem_cons, List.mem_nil_iff, or_false] at h
    rcases h with rfl | rfl | rfl | rfl | rfl
    · exact .int _
    · exact s1 _ (by decide)
    · exact one se
    · exact .bl _
    · exact .bl _
/-! ### sizes -/
theorem sz_look {ds : List (PyData × PyData)} {n : List Nat} {d : PyData} (h : Sz (.dict ds)) (e : lookD ds n = some d) : Sz d := by
  unfold lookD at e
  obtain ⟨p, hp, rfl⟩ := Option.map_eq_some_iff.mp e
  cases h with
  | dic _ _ _ h => exact h p (List.mem_of_find?_eq_some hp)
theorem sz_dic {kvs kvs' : List (PyData × PyData)} (h : Sz (.dict kvs)) (e : kvs'.map (·.1) = kvs.map (·.1)) (hv : ∀ p ∈ kvs', Sz p.2) : Sz (.dict kvs') := by
  cases h with
  | dic l nd hk _ =>
    refine .dic ?_ (by rw [e]; exact nd) (fun p hp => ?_) hv
    · have := congrArg List.length e
      rw [List.length_map, List.length_map] at this
      omega
    · have hm : p.1 ∈ kvs'.map (·.1) := List.mem_map.mpr ⟨p, hp, rfl⟩
      rw [e] at hm
      obtain ⟨q, hq, eq⟩ := List.mem_map.mp hm
      rw [← eq]
      exact hk q hq
theorem sz_put {x : PyData} (hx : Sz x) : ∀ {p : List Key} {d : PyData}, Sz d → Sz (putD d p x)
  | [], d, h => by rw [putD]; exact hx
  | k :: r, d, h => by
    cases d with
    | tuple ds =>
      cases k with
      | inl i =>
        unfold putD
        cases e : ds[i.toNat]? with
        | none => exact h
        | some d1 =>
          have il := (List.getElem?_eq_some_iff.mp e).1
          have l := h.tupL
          refine .tup (by simp; omega) fun y hy => ?_
          rcases List.mem_append.mp hy with hy | hy
          · rcases List.mem_append.mp hy with hy | hy
            · exact h.tupE y (List.mem_of_mem_take hy)
            · rw [List.mem_singleton.mp hy]
              exact sz_put hx (h.tupE d1 (List.mem_of_getElem? e))
          · exact h.tupE y (List.mem_of_mem_drop hy)
      | inr z => exact h
    | dict kvs =>
      cases k with
      | inl i => exact h
      | inr z =>
        unfold putD
        cases e : lookD kvs z.cps.toList with
        | none => exact h
        | some d1 =>
          have hd : Sz (putD d1 r x) := sz_put hx (sz_look h e)
          refine sz_dic h (setD_keys ..) fun p hp => ?_
          obtain ⟨q, hq, eq⟩ := List.mem_map.mp hp
          have hv : ∀ q ∈ kvs, Sz q.2 := by cases h; assumption
          rw [← eq]
          split
          · exact hd
          · exact hv q hq
    | _ => cases k <;> exact h
theorem sz_less {kvs : List (PyData × PyData)} {n : List Nat} (h : Sz (.dict kvs)) : Sz (.dict (lessD kvs n)) := by
  cases h with
  | dic l nd hk hv =>
    refine .dic (Nat.le_trans (List.length_filter_le _ _) l) ?_ (fun p hp => hk p (List.mem_filter.mp hp).1) (fun p hp => hv p (List.mem_filter.mp hp).1)
    exact List.Sublist.nodup (List.filter_sublist.map _) nd
theorem sz_more {kvs : List (PyData × PyData)} {z : Str} (h : Sz (.dict kvs)) (l3 : kvs.length ≤ 999) (hz : z.length ≤ 1000) (nk : PyData.str z ∉ kvs.map (·.1)) : Sz (.dict (kvs ++ [(.str z, .int 1)])) := by
  cases h with
  | dic l nd hk hv =>
    refine .dic (by simp; omega) ?_ (fun p hp => ?_) (fun p hp => ?_)
    · rw [List.map_append]
      refine List.nodup_append.mpr ⟨nd, by simp, fun a ha b hb e => ?_⟩
      have hb : b = PyData.str z := by simpa using hb
      rw [e, hb] at ha
      exact nk ha
    · rcases List.mem_append.mp hp with hp | hp
      · exact hk p hp
      · rw [List.mem_singleton.mp hp]
        exact .str hz
    · rcases List.mem_append.mp hp with hp | hp
      · exact hv p hp
      · rw [List.mem_singleton.mp hp]
        exact .int _
theorem sz_dup {ds : List PyData} {d : PyData} (h : Sz (.tuple ds)) (l3 : ds.length ≤ 3) (hd : Sz d) : Sz (.tuple (ds ++ [d])) := .tup (by simp; omega) fun x hx => by
  rcases List.mem_append.mp hx with hx | hx
  · exact h.tupE x hx
  · rw [List.mem_singleton.mp hx]
    exact hd
theorem sz_rep {d : PyData} {n : Nat} (hn : n ≤ 1000) (hd : Sz d) : Sz (.tuple (List.replicate n d)) := .tup (by rw [List.length_replicate]; exact hn) fun x hx => by
  rw [List.eq_of_mem_replicate hx]
  exact hd
/-! ### the form at a place is drawn -/
theorem drn_list {n : Nat} {f : Fm} (h : Drn n (.list f)) : ∃ m, Drn m f := by
  generalize e : Fm.list f = g at h
  induction h with
  | list d => cases e; exact ⟨_, d⟩
  | up d ih => exact ih e
  | _ => cases e
theorem drn_opt {n : Nat} {f : Fm} (h : Drn n (.opt f)) : isOpt f = false ∧ ∃ m, Drn m f := by
  generalize e : Fm.opt f = g at h
  induction h with
  | opt no d => cases e; exact ⟨no, _, d⟩
  | up d ih => exact ih e
  | _ => cases e
theorem drn_rcd {n : Nat} {fs : List (List Nat × Fm)} (h : Drn n (.rcd fs)) : ∀ p ∈ fs, ∃ m, Drn m p.2 := by
  generalize e : Fm.rcd fs = g at h
  induction h with
  | rcd ne l nm pw d => cases e; exact fun p hp => ⟨_, d p hp⟩
  | up d ih => exact ih e
  | _ => cases e
theorem drn_keyed {n : Nat} {f : Fm} {k : List Nat} (h : Drn n (.keyed f k)) : ∃ m, Drn m f := by
  generalize e : Fm.keyed f k = g at h
  induction h with
  | @keyed n w0 w1 key f' kk n0 n1 lt d =>
    cases e
    refine ⟨n + 1, .rcd (by simp) (by simp) (fun p hp => ?_) (by simpa using lt) (fun p hp => ?_)⟩
    · rcases List.mem_cons.mp hp with rfl | hp
      · exact n0
      · have : p = (w1, f') := by simpa using hp
        rw [this]
        exact n1
    · rcases List.mem_cons.mp hp with rfl | hp
      · cases key with
        | text => exact .text _
        | number => exact .number _
        | _ => cases kk
      · have : p = (w1, f') := by simpa using hp
        rw [this]
        exact d
  | up d ih => exact ih e
  | _ => cases e
theorem pl_drn {f g : Fm} {d : PyData} {p : List Key} (pl : Pl f d p g) : (∃ n, Drn n f) → ∃ n, Drn n g := by
  induction pl with
  | here f d => exact fun h => h
  | opt ne h ih => exact fun ⟨n, h⟩ => ih (drn_opt h).2
  | list h1 h2 ih => exact fun ⟨n, h⟩ => ih (drn_list h)
  | keyed h1 h2 ih => exact fun ⟨n, h⟩ => ih (drn_keyed h)
  | rcd h1 h2 h3 ih => exact fun ⟨n, h⟩ => ih (drn_rcd h _ (List.mem_of_getElem? h1))
theorem drn_bare {n : Nat} {g : Fm} (h : Drn n g) : isOpt (bareF g) = false := by
  cases g with
  | opt f => exact (drn_opt h).1
  | _ => rfl
/-! ### how long a path is written -/
def KeyS : Key → Prop
  | .inl i => 0 ≤ i ∧ i ≤ 1000
  | .inr z => TextOk 12 z
theorem nm_text {n : List Nat} (h : nmOkL n = true) : TextOk 12 (mkS n) := by
  have l := nm12 h
  refine ⟨by rw [mk_len]; exact l.2, fun c hc => ?_⟩
  unfold nmOkL at h
  exact low_okc (List.all_eq_true.mp (Bool.and_eq_true_iff.mp h).2 c hc)
theorem pl_keys {f g : Fm} {d : PyData} {p : List Key} (pl : Pl f d p g) : FitD f d → ∀ k ∈ p, KeyS k := by
  induction pl with
  | here f d => exact fun _ k hk => by cases hk
  | opt ne h ih =>
    intro fd
    cases fd with
    | optN => exact fun k hk => absurd rfl (pl_none (x := .none) h ne).2
    | opt fd => exact ih fd
  | @list f ds i d1 p g h1 h2 ih =>
    intro fd
    have il := (List.getElem?_eq_some_iff.mp h1).1
    cases fd with
    | list l h =>
    intro k hk
    rcases List.mem_cons.mp hk with rfl | hk
    · exact ⟨by omega, by omega⟩
    · exact ih (h d1 (List.mem_of_getElem? h1)) k hk
  | @keyed f kk ds i d1 p g h1 h2 ih =>
    intro fd
    have il := (List.getElem?_eq_some_iff.mp h1).1
    cases fd with
    | keyed l h e nd =>
    intro k hk
    rcases List.mem_cons.mp hk with rfl | hk
    · exact ⟨by omega, by omega⟩
    · exact ih (h d1 (List.mem_of_getElem? h1)) k hk
  | @rcd fs kvs i q d1 p g h1 h2 h3 ih =>
    intro fd
    cases fd with
    | rcd l nm nd e h =>
    have il := (List.getElem?_eq_some_iff.mp h1).1
    have len := fit_len e
    have hk : kvs[i]? = some (kvs[i]'(by omega)) := List.getElem?_eq_getElem _
    have lk := look_at nd e h1 hk
    have ed : kvs[i].2 = d1 := Option.some.inj (lk.symm.trans h2)
    have fd1 : FitD q.2 d1 := by
      have := h i q _ h1 hk
      rw [ed] at this
      exact this
    intro k hk
    rcases List.mem_cons.mp hk with rfl | hk
    · exact nm_text (nm q (List.mem_of_getElem? h1))
    · exact ih fd1 k hk
theorem ten30 : (1000 : Nat) ≤ 10 ^ 30 := by decide +kernel
theorem keyD_sh {k : Key} (h : KeyS k) : ShD (keyD k) 242 1 := by
  cases k with
  | inl i =>
    have h : 0 ≤ i ∧ i ≤ 1000 := h
    exact ShD.int (Nat.le_trans (by omega) ten30)
  | inr z => exact (ShD.str (n := 12) h).mono (by omega) (Nat.le_refl _)
theorem path_sh {p : List Key} (h : ∀ k ∈ p, KeyS k) (l : p.length ≤ 20) : ShD (.tuple (p.map keyD)) 5000 2 := by
  have := ShL.of (ds := p.map keyD) (w := 242) (k := 1) fun d hd => by
    obtain ⟨k, hk, rfl⟩ := List.mem_map.mp hd
    exact keyD_sh (h k hk)
  refine (ShD.tuple this).mono ?_ (Nat.le_refl _)
  rw [List.length_map]
  have : p.length * (242 + 2) ≤ 20 * (242 + 2) := Nat.mul_le_mul_right _ l
  omega
/-! ### how many places -/
def cntB : Nat → Nat
  | 0 => 1
  | n + 1 => 1 + 3 * cntB n
theorem cntB_pos (n : Nat) : 1 ≤ cntB n := by
  cases n with
  | zero => exact Nat.le_refl 1
  | succ n => unfold cntB; omega
theorem cntB_up (n : Nat) : cntB n ≤ cntB (n + 1) := by
  show cntB n ≤ 1 + 3 * cntB n
  omega
theorem cntB_mono {m n : Nat} (h : m ≤ n) : cntB m ≤ cntB n := by
  induction h with
  | refl => exact Nat.le_refl _
  | step h ih => exact Nat.le_trans ih (cntB_up _)
/-! ### data of the heap -/
theorem key_is {H : Hp} {k : Key} {a : PyData} {z : Str} (h : DL H (kV k) a) : strIs a z.cps.toList = decide (k = .inr z) := by
  cases k with
  | inl i =>
    have h : DL H (.int i) a := h
    cases h
    rfl
  | inr y =>
    have h : DL H (.str y) a := h
    cases h
    show (y.cps.toList == z.cps.toList) = _
    by_cases q : y = z
    · subst q; simp
    · rw [decide_eq_false fun w => q (by injection w)]
      exact beq_eq_false_iff_ne.mpr fun w => q (str_ext w)
theorem drop_less {H : Hp} {z : Str} : ∀ {kvs : List (Key × V)} {ds : List (PyData × PyData)}, DLs H (kvs.map fun p => kV p.1) (ds.map (·.1)) → DLs H (kvs.map (·.2)) (ds.map (·.2)) → DLs H ((dropK kvs (.inr z)).map fun p => kV p.1) ((lessD ds z.cps.toList).map (·.1)) ∧ DLs H ((dropK kvs (.inr z)).map (·.2)) ((lessD ds z.cps.toList).map (·.2))
  | [], [], _, _ => ⟨.nil, .nil⟩
  | [], _ :: _, h, _ => by cases h
  | _ :: _, [], h, _ => by cases h
  | (k, v) :: kvs, (a, b) :: ds, h1, h2 => by
    cases h1 with
    | cons ha hr =>
    cases h2 with
    | cons hb hs =>
    have ha : DL H (kV k) a := ha
    obtain ⟨i1, i2⟩ := drop_less (z := z) hr hs
    have e := key_is (z := z) ha
    by_cases q : k = .inr z
    · have e1 : dropK ((k, v) :: kvs) (.inr z) = dropK kvs (.inr z) := by
        unfold dropK
        rw [List.filter_cons_of_neg (by simpa using q)]
      have e2 : lessD ((a, b) :: ds) z.cps.toList = lessD ds z.cps.toList := by
        unfold lessD
        rw [List.filter_cons_of_neg (by show ¬ (!strIs a z.cps.toList) = true; rw [e, decide_eq_true q]; decide)]
      rw [e1, e2]
      exact ⟨i1, i2⟩
    · have e1 : dropK ((k, v) :: kvs) (.inr z) = (k, v) :: dropK kvs (.inr z) := by
        unfold dropK
        rw [List.filter_cons_of_pos (by simpa using q)]
      have e2 : lessD ((a, b) :: ds) z.cps.toList = (a, b) :: lessD ds z.cps.toList := by
        unfold lessD
        rw [List.filter_cons_of_pos (by show (!strIs a z.cps.toList) = true; rw [e, decide_eq_false q]; rfl)]
      rw [e1, e2]
      exact ⟨.cons ha i1, .cons hb i2⟩
/-- data that fits holds no list: what is done to one does not touch it -/
theorem fit_keep {H H' : Hp} {f : Fm} {d : PyData} (fd : FitD f d) (s : ∀ b o, isLst o = false → H b = some o → H' b = some o) : ∀ {v : V}, DL H v d → DL H' v d := by
  have all : ∀ {ds : List PyData}, (∀ d ∈ ds, ∀ {v : V}, DL H v d → DL H' v d) → ∀ {vs : List V}, DLs H vs ds → DLs H' vs ds := by
    intro ds
    induction ds with
    | nil => intro _ vs h; cases h; exact .nil
    | cons d r ih =>
      intro hh vs h
      cases h with
      | cons h1 h2 => exact .cons (hh d (List.mem_cons_self ..) h1) (ih (fun d hd => hh d (List.mem_cons_of_mem _ hd)) h2)
  induction fd with
  | text h => intro v dl; cases dl; exact .str _
  | number i => intro v dl; cases dl; exact .int _
  | flag b => intro v dl; cases dl; exact .bl _
  | optN f => intro v dl; cases dl; exact .non
  | opt h ih => exact ih
  | list l h ih =>
    intro v dl
    cases dl with
    | tup h1 h2 => exact .tup (s _ _ rfl h1) (all ih h2)
  | keyed l h e nd ih =>
    intro v dl
    cases dl with
    | tup h1 h2 => exact .tup (s _ _ rfl h1) (all ih h2)
  | @rcd fs kvs l nm nd e h ih =>
    intro v dl
    cases dl with
    | @dic c ks _ h1 hk hv =>
      refine .dic (s _ _ rfl h1) (dls_flat hk) (all (fun d hd => ?_) hv)
      obtain ⟨q, hq, rfl⟩ := List.mem_map.mp hd
      obtain ⟨i, hi⟩ := List.getElem?_of_mem hq
      have il := (List.getElem?_eq_some_iff.mp hi).1
      have len := fit_len e
      exact fun {v} hv => ih i _ q (List.getElem?_eq_getElem (by omega)) hi hv
end Sk
/-! Sk: in, ==, != by own methods; properties -/
namespace PySem.W
open PySem PySem.Spec PySem.Calls PyProof.Rows
section
variable {prog : Program} {w : World} {A : Around} {E : Value → Shared → Prop} {s : Shared} {K : Frag} {x C L f : Addr} {h₀ : Heap} {m : Str → Option Value} {ox : Obj} {od : Option Obj} {b : Value}
theorem skNeSlot : Slot "object" "__ne__" "object.__ne__" := Slot.of (T := "object") (name := "__ne__") (owner := "object") (n := "__ne__") (by rw [typeLookup_type, builtinLookup_eq_fast]; kernel_rfl) (by decide +kernel) (by decide +kernel) (by decide +kernel)
    (.inl (by decide +kernel)) (by rw [isSubtype_type]; kernel_rfl)
theorem skNeBody {Q : Fin → Shared → Prop} (hu : A.units < cLine) (X : K.In s.heap) (I : InstAt s.heap x ox C od) (hs : findIn K (.ref C) "__eq__" = some (some (.ref f))) (hf : isFn K (.ref f) = true)
    (h : wpAny (model prog w) A (call (.ref f) [.ref x, b]) (fun v s' => ∃ c, v = .bool c ∧ Q (.done (.ret (.bool (!c)))) s') E s) : wpAny (model prog w) A (Builtin.«object.__ne__» ⟨[.ref x, b], []⟩) Q E s := by
  unfold Builtin.«object.__ne__»
  repeat (first
    | with_reducible refine wpAny_cRoomFor hu ?_
    | (refine wpAny_bind (m := callSpecialIfBound? (.ref x) (Str.ofString "__eq__") [b])
        (ifBound_K X I hs hf (wpAny_mono h (fun r s' hr => by
          obtain ⟨c, rfl, hq⟩ := hr
          repeat (first | exact hq | exact wpAny_pure hq | exact wpAny_truthy_bool hq | (refine wpAny_bind (m := truthy (.bool _)) (wpAny_truthy_bool ?_)) | wp_step)) fun _ _ e => e)))
    | wp_step)
theorem skTryNe {Q : Option Value → Shared → Prop} (hu : A.units + 1 < cLine) (X : K.In s.heap) (I : InstAt s.heap x ox C od) (hn : findIn K (.ref C) "__ne__" = some (some (.builtin "object.__ne__"))) (ho : mroIn K C (.type "object") = some true)
    (hs : findIn K (.ref C) "__eq__" = some (some (.ref f))) (hf : isFn K (.ref f) = true)
    (h : wpAny (model prog w) A.in1 (call (.ref f) [.ref x, b]) (fun v s' => ∃ c, v = .bool c ∧ Q (some (.bool (!c))) s') E s) : wpAny (model prog w) A (tryCompare (.ref x) "__ne__" b) Q E s := by
  simp only [tryCompare]
  have one : wpAny (model prog w) A (call (.builtin "object.__ne__") (.ref x :: [b])) (fun v s' => ∃ c, v = .bool c ∧ Q (some (.bool c)) s') E s :=
    wpAny_call (codeAny_call_builtin skNeSlot.plain F.cmpEntry_ne
      (check_slot F.cmpKind_ne F.cmpSplit_ne (I.type.andThen (looks_mroIn X ho)) (F.cmpArgs_ne _ _)
        (skNeBody (A := A.in1) hu X I hs hf (wpAny_mono h (fun v s' hv => by
          obtain ⟨c, rfl, hq⟩ := hv
          exact ⟨c, rfl, _, rfl, hq⟩) fun _ _ e => e))))
  refine wpAny_bind (m := callSpecialIfBound? (.ref x) "__ne__" [b]) ?_
  simp only [callSpecialIfBound?, bindSpecialIfBound?]
  refine wpAny_holding (wpAny_bind (wpAny_bind (wpAny_bind (I.type.here ((looks_findIn X hn).here ?_)))))
  simp only [skNeSlot.bind]
  refine wpAny_bind (wpAny_askSetting (wpAny_ite ?_))
  have fin : wpAny (model prog w) A (call (.builtin "object.__ne__") ([.ref x] ++ [b]) >>= fun v => pure (some v)) (fun r s' => ∃ c, r = some (.bool c) ∧ Q (some (.bool c)) s') E s :=
    wpAny_bind (wpAny_mono one (fun v s' hv => by
      obtain ⟨c, rfl, hq⟩ := hv
      exact wpAny_pure ⟨c, rfl, hq⟩) fun _ _ e => e)
  have fin2 : wpAny (model prog w) A (call (.builtin "object.__ne__") ([.ref x] ++ [b]) >>= fun v => pure (some v)) (fun r s' => wpAny (model prog w) A (match r with
    | some Value.notImplemented => pure none
    | none => pure none
    | some v => pure (some v)) Q E s') E s := wpAny_mono fin (fun r s' hr => by
      obtain ⟨c, rfl, hq⟩ := hr
      exact wpAny_pure hq) fun _ _ e => e
  split
  · exact wpAny_bind (wpAny_pure (wpAny_pure fin2))
  · exact wpAny_tryCatch (wpAny_bind (wpAny_pure (wpAny_pure fin2)))
theorem skNe {tb : Value} {Q : Value → Shared → Prop} (hu : A.units + 1 < cLine) (F : Fr h₀ L s.heap m) (X₀ : K.In h₀) (I : InstAt s.heap x ox C od) (hb : Looks (model prog w) s.heap (typeOf b) tb) (ht : notFirst K C tb = true) (hn : findIn K (.ref C) "__ne__" = some (some (.builtin "object.__ne__"))) (ho : mroIn K C (.type "object") = some true)
    (hs : findIn K (.ref C) "__eq__" = some (some (.ref f))) (hf : isFn K (.ref f) = true)
    (h : wpAny (model prog w) A.in1 (call (.ref f) [.ref x, b]) (fun v s' => ∃ c, v = .bool c ∧ Q (.bool (!c)) s') E s) : wpAny (model prog w) A (richCompare .NotEq (.ref x) b) Q E s := by
  have X := X₀.keeps F.keep
  have one : wpAny (model prog w) A (tryCompare (.ref x) "__ne__" b) (fun r s' => ∃ v, r = some v ∧ Q v s') E s := skTryNe hu X I hn ho hs hf (wpAny_mono h (fun v s' hv => by
    obtain ⟨c, rfl, hq⟩ := hv
    exact ⟨c, rfl, _, rfl, hq⟩) fun _ _ e => e)
  unfold richCompare
  simp only [oneThing_ref]
  refine wpAny_holding (wpAny_bind (wpAny_cRoomFor (Nat.lt_of_succ_lt hu) ?_))
  refine wpAny_bind (I.type.here (wpAny_bind (hb.here ?_)))
  split
  · rename_i q
    have e : subIn K tb (.ref C) = some false := by
      rcases Bool.or_eq_true_iff.mp ht with e | e
      · rw [beq_iff_eq.mp e] at q; simp at q
      · exact beq_iff_eq.mp e
    refine wpAny_bind ((looks_subIn X e).here ?_)
    simp only [Bool.false_eq_true, if_false]
    refine wpAny_bind (wpAny_mono one (fun r s' z => ?_) fun _ _ e => e)
    obtain ⟨v, rfl, hq⟩ := z
    exact wpAny_pure hq
  · refine wpAny_bind (wpAny_pure ?_)
    simp only [Bool.false_eq_true, if_false]
    refine wpAny_bind (wpAny_mono one (fun r s' z => ?_) fun _ _ e => e)
    obtain ⟨v, rfl, hq⟩ := z
    exact wpAny_pure hq
end
end PySem.W
namespace Sk
open PySem PySem.Spec PyProof.Rows L2
/-- the class has the method as an own def -/
structure OwnF (K : PySem.W.Frag) (C : Addr) (m : Str) (f : Addr) : Prop where
  at_ : PySem.W.findIn K (.ref C) m = some (some (.ref f))
  fn : PySem.W.isFn K (.ref f) = true
def ownB (K : Fg) (C m : Str) : Bool := decide (PySem.W.findIn K (.ref (He.ga K C)) m = some (some (.ref (He.ma K (He.ga K C) m)))) && PySem.W.isFn K (.ref (He.ma K (He.ga K C) m))
theorem ownB_ok {K : Fg} {C m : Str} (h : ownB K C m = true) : OwnF K (He.ga K C) m (He.ma K (He.ga K C) m) := by
  obtain ⟨a, b⟩ := Bool.and_eq_true_iff.mp h
  exact ⟨of_decide_eq_true a, b⟩
/-- != is what object gives -/
structure NeO (K : PySem.W.Frag) (C : Addr) : Prop where
  ne : PySem.W.findIn K (.ref C) "__ne__" = some (some (.builtin "object.__ne__"))
  ob : PySem.W.mroIn K C (.type "object") = some true
  cc : PySem.W.findIn K (.ref C) "__class__" = some (some (.builtin "object.__class__"))
  cg : PySem.W.specialIn K (.builtin "object.__class__") "__get__" = some (some (.builtin "getset_descriptor.__get__"))
  ct : PySem.W.takesIn K (.builtin "object.__class__") = some true
def neB (K : Fg) (C : Str) : Bool := decide (PySem.W.findIn K (.ref (He.ga K C)) "__ne__" = some (some (.builtin "object.__ne__"))) && (decide (PySem.W.mroIn K (He.ga K C) (.type "object") = some true) && (decide (PySem.W.findIn K (.ref (He.ga K C)) "__class__" = some (some (.builtin "object.__class__"))) && (decide (PySem.W.specialIn K (.builtin "object.__class__") "__get__" = some (some (.builtin "getset_descriptor.__get__"))) && decide (PySem.W.takesIn K (.builtin "object.__class__") = some true))))
theorem neB_ok {K : Fg} {C : Str} (h : neB K C = true) : NeO K (He.ga K C) := by
  obtain ⟨a, h⟩ := Bool.and_eq_true_iff.mp h
  obtain ⟨b, h⟩ := Bool.and_eq_true_iff.mp h
  obtain ⟨c, h⟩ := Bool.and_eq_true_iff.mp h
  obtain ⟨d, e⟩ := Bool.and_eq_true_iff.mp h
  exact ⟨of_decide_eq_true a, of_decide_eq_true b, of_decide_eq_true c, of_decide_eq_true d, of_decide_eq_true e⟩
def propB (K : Fg) (C m : Str) : Bool := decide (PySem.W.findIn K (.ref (He.ga K C)) m = some (some (.ref (He.ma K (He.ga K C) m)))) && (decide (PySem.W.specialIn K (.ref (He.ma K (He.ga K C) m)) "__get__" = some (some (.builtin "property.__get__"))) && (decide (PySem.W.takesIn K (.ref (He.ma K (He.ga K C) m)) = some true) && (match PySem.W.recIn K (He.ma K (He.ga K C) m) "property" with
    | some (.ref _ :: _) => true
    | _ => false)))
theorem propB_ok {K : Fg} {C m : Str} (h : propB K C m = true) : PropOf K (He.ga K C) m (He.ma K (He.ga K C) m) (He5.wf K (He.ga K C) "property" m) := by
  obtain ⟨a, h⟩ := Bool.and_eq_true_iff.mp h
  obtain ⟨b, h⟩ := Bool.and_eq_true_iff.mp h
  obtain ⟨c, d⟩ := Bool.and_eq_true_iff.mp h
  refine ⟨of_decide_eq_true a, of_decide_eq_true b, of_decide_eq_true c, ?_⟩
  unfold He5.wf
  split at d
  · rename_i g r e
    exact ⟨r, by rw [e]⟩
  · cases d
section
variable {X : Cx} {k : Nat} {f C : Addr} {fd : FuncData} {ps : List Str} {sp : Sp}
/-- y in x, x an object with its own __contains__ -/
def rInO (C : Addr) (sp : Sp) (neg : Bool) : R2 := fun x y H Q => match y with
  | .ref a => (∃ dx fs, H a = some (.ins C dx fs)) ∧ sp [.ref a, x] H (fun v H' => onB v fun c => Q (.bl (if neg then !c else c)) H') E0
  | _ => False
theorem bool_of {v : V} {u : Value} {Q : Bool → Prop} (r : RelV v u) (h : onB v Q) : ∃ c, u = .bool c ∧ v = .bl c ∧ Q c := by
  obtain ⟨c, rfl, q⟩ := onB_ex h
  cases r
  exact ⟨c, rfl, rfl, q⟩
theorem op_inO (F : FnOk X.prog X.w X.K X.mg X.base CX0 k f fd ps sp) (o : OwnF X.K C "__contains__" f) (hb : Binds X.K fd ps []) (hr : Room k X.A) : OpR X (compareOp .In) (rInO C sp false) := by
  intro pins s σ H x y v u Q I rx ry q
  unfold rInO at q
  split at q
  · rename_i a
    obtain ⟨⟨dx, fs, ha⟩, q⟩ := q
    obtain rfl : u = Value.ref a := ry
    obtain ⟨mA, J, _⟩ := ins_get I.hok ha
    obtain ⟨od, J, _⟩ := J.look
    obtain ⟨m, hF⟩ := I.fr
    refine PySem.W.in_K hF I.ok.mod.kin J o.at_ o.fn ?_
    refine thn (run_fn (us := [.ref a, v]) (vs := [.ref a, x]) (Q := fun v H' => onB v fun c => Q (.bl (if false then !c else c)) H') F hr hb .nil pass0 I (.cons rfl (.cons rx .nil)) q) fun r s1 z => ?_
    obtain ⟨v1, H1, I1, r1, q1⟩ := z
    obtain ⟨c, rfl, rfl, q2⟩ := bool_of r1 q1
    exact wpAny_truthy_bool ⟨.bl c, H1, I1, rfl, q2⟩
  · exact q.elim
theorem op_ninO (F : FnOk X.prog X.w X.K X.mg X.base CX0 k f fd ps sp) (o : OwnF X.K C "__contains__" f) (hb : Binds X.K fd ps []) (hr : Room k X.A) : OpR X (compareOp .NotIn) (rInO C sp true) := by
  intro pins s σ H x y v u Q I rx ry q
  unfold rInO at q
  split at q
  · rename_i a
    obtain ⟨⟨dx, fs, ha⟩, q⟩ := q
    obtain rfl : u = Value.ref a := ry
    obtain ⟨mA, J, _⟩ := ins_get I.hok ha
    obtain ⟨od, J, _⟩ := J.look
    obtain ⟨m, hF⟩ := I.fr
    refine PySem.W.notIn_K hF I.ok.mod.kin J o.at_ o.fn ?_
    refine thn (run_fn (us := [.ref a, v]) (vs := [.ref a, x]) (Q := fun v H' => onB v fun c => Q (.bl (if true then !c else c)) H') F hr hb .nil pass0 I (.cons rfl (.cons rx .nil)) q) fun r s1 z => ?_
    obtain ⟨v1, H1, I1, r1, q1⟩ := z
    obtain ⟨c, rfl, rfl, q2⟩ := bool_of r1 q1
    exact wpAny_truthy_bool ⟨.bl (!c), H1, I1, rfl, q2⟩
  · exact q.elim
/-- x == y, both of the class with its own __eq__ -/
def rEqO (C : Addr) (sp : Sp) (neg : Bool) : R2 := fun x y H Q => match x, y with
  | .ref a, .ref b => (∃ dx fs, H a = some (.ins C dx fs)) ∧ (∃ dx fs, H b = some (.ins C dx fs)) ∧ sp [.ref a, .ref b] H (fun v H' => onB v fun c => Q (.bl (if neg then !c else c)) H') E0
  | _, _ => False
theorem op_eqO (F : FnOk X.prog X.w X.K X.mg X.base CX0 k f fd ps sp) (o : OwnF X.K C "__eq__" f) (hb : Binds X.K fd ps []) (hr : Room k X.A) : OpR X (compareOp .Eq) (rEqO C sp false) := by
  intro pins s σ H x y v u Q I rx ry q
  unfold rEqO at q
  split at q
  · rename_i a b
    obtain ⟨⟨dx, fs, ha⟩, ⟨dy, gs, hb'⟩, q⟩ := q
    obtain rfl : v = Value.ref a := rx
    obtain rfl : u = Value.ref b := ry
    obtain ⟨mA, J, _⟩ := ins_get I.hok ha
    obtain ⟨mB, J', _⟩ := ins_get I.hok hb'
    obtain ⟨od, J, _⟩ := J.look
    obtain ⟨od', J', _⟩ := J'.look
    obtain ⟨m, hF⟩ := I.fr
    show wpAny (model X.prog X.w) X.A (richCompare .Eq (.ref a) (.ref b)) _ _ s
    refine PySem.W.cmp_K (op := .Eq) (tb := .ref C) (by have := hr.un; omega) hF I.ok.mod.kin J J'.type (by simp [PySem.W.notFirst]) o.at_ o.fn ?_
    refine thn (run_fn (us := [.ref a, .ref b]) (vs := [.ref a, .ref b]) (Q := fun v H' => onB v fun c => Q (.bl (if false then !c else c)) H') F hr hb .nil pass0 I (.cons rfl (.cons rfl .nil)) q) fun r s1 z => ?_
    obtain ⟨v1, H1, I1, r1, q1⟩ := z
    obtain ⟨c, rfl, rfl, q2⟩ := bool_of r1 q1
    exact ⟨.bl c, H1, I1, rfl, q2⟩
  · exact q.elim
theorem op_neO (F : FnOk X.prog X.w X.K X.mg X.base CX0 k f fd ps sp) (o : OwnF X.K C "__eq__" f) (n : NeO X.K C) (hb : Binds X.K fd ps []) (hr : Room (k + 1) X.A) : OpR X (compareOp .NotEq) (rEqO C sp true) := by
  intro pins s σ H x y v u Q I rx ry q
  unfold rEqO at q
  split at q
  · rename_i a b
    obtain ⟨⟨dx, fs, ha⟩, ⟨dy, gs, hb'⟩, q⟩ := q
    obtain rfl : v = Value.ref a := rx
    obtain rfl : u = Value.ref b := ry
    obtain ⟨mA, J, _⟩ := ins_get I.hok ha
    obtain ⟨mB, J', _⟩ := ins_get I.hok hb'
    obtain ⟨od, J, _⟩ := J.look
    obtain ⟨od', J', _⟩ := J'.look
    obtain ⟨m, hF⟩ := I.fr
    show wpAny (model X.prog X.w) X.A (richCompare .NotEq (.ref a) (.ref b)) _ _ s
    refine PySem.W.skNe (tb := .ref C) (by have := hr.un; omega) hF I.ok.mod.kin J J'.type (by simp [PySem.W.notFirst]) n.ne n.ob o.at_ o.fn ?_
    have hl := F.len _ _ _ _ q
    refine wpAny_call (codeAny_mono (F.run X.A.in1 X.stack s H ⟨[.ref a, .ref b], []⟩ [.ref a, .ref b] [.ref a, .ref b] _ E0 hr.in1 I.env0.in1 (by
      have := hb s [.ref a, .ref b] I.kIn (by simpa using hl)
      simpa using this) (.cons rfl (.cons rfl .nil)) q) fun r s' hq => ?_)
    cases r with
    | error e => exact hq.elim
    | ok fl =>
      cases fl with
      | ret w =>
        obtain ⟨z, H', I', rz, q1⟩ := I.after hq
        obtain ⟨c, rfl, rfl, q2⟩ := bool_of rz q1
        exact ⟨c, rfl, .bl (!c), H', I', rfl, q2⟩
      | next => exact hq.elim
      | brk => exact hq.elim
      | cont => exact hq.elim
  · exact q.elim
/-- e.f, a property -/
def uProp (C : Addr) (sp : Sp) (ta : TE) : TE := fun σ H Q => ta σ H fun x H1 => match x with
  | .ref a => (∃ dx fs, H1 a = some (.ins C dx fs)) ∧ sp [.ref a] H1 Q E0
  | _ => False
theorem pe_propU {p g : Addr} {e : Expr} {nm : Str} {pos : Pos} {ta : TE} (he : PE X e ta) (c : Cls X.K C) (hp : PropOf X.K C nm p g) (F : FnOk X.prog X.w X.K X.mg X.base CX0 k g fd ps sp) (hr : Room (k + 1) X.A) (hb : Binds X.K fd ps [])
    (hab : attributeBase e nm X.env (eval e X.env) = eval e X.env := by rfl) : PE X (.Attribute e nm pos) (uProp C sp ta) := PEw (pe_prop (E := E0) (up he) c hp F hr hb .nil pass0 hab) fun σ H Q q => by
  refine ⟨_, fun x H1 z => ?_, q⟩
  cases x with
  | ref a =>
    obtain ⟨⟨dx, fs, h1⟩, z⟩ := z
    exact ⟨a, dx, fs, rfl, h1, z⟩
  | _ => exact z.elim
end
end Sk
/-! Sk: equal data, keys in another order: the same troubles -/
namespace Sk
open PySem PySem.Spec PyProof.Rows L2
def strN (n : List Nat) : PyData := .str (mkS n)
inductive Tw : PyData → PyData → Prop
  | non : Tw .none .none
  | bl (b : Bool) : Tw (.bool b) (.bool b)
  | int (i : Int) : Tw (.int i) (.int i)
  | str {z : Str} : z.length ≤ 1000 → Tw (.str z) (.str z)
  | tup {ds es : List PyData} : ds.length ≤ 3 → ds.length = es.length → (∀ (i : Nat) d e, ds[i]? = some d → es[i]? = some e → Tw d e) → Tw (.tuple ds) (.tuple es)
  | dic {kvs kvs' : List (PyData × PyData)} {ns ms : List (List Nat)} : ns.length ≤ 3 → (∀ n ∈ ns, nmOkL n = true) → ns.Nodup → ns.Perm ms → kvs.map (·.1) = ns.map strN → kvs'.map (·.1) = ms.map strN → (∀ n d e, n ∈ ns → lookD kvs n = some d → lookD kvs' n = some e → Tw d e) → Tw (.dict kvs) (.dict kvs')
theorem strIs_strN (m n : List Nat) : strIs (strN m) n = (m == n) := rfl
theorem look_mem {n : List Nat} : ∀ {kvs : List (PyData × PyData)} {ns : List (List Nat)}, kvs.map (·.1) = ns.map strN → n ∈ ns → ∃ d, lookD kvs n = some d
  | [], ns, e, h => by
    cases ns with
    | nil => cases h
    | cons _ _ => cases e
  | (a, b) :: r, [], e, h => by cases h
  | (a, b) :: r, m :: ns, e, h => by
    have e0 : a = strN m := (List.cons.inj e).1
    subst e0
    unfold lookD
    cases q : (m == n) with
    | true =>
      rw [List.find?_cons_of_pos (by show strIs (strN m) n = true; rw [strIs_strN, q])]
      exact ⟨b, rfl⟩
    | false =>
      rw [List.find?_cons_of_neg (by show ¬ strIs (strN m) n = true; rw [strIs_strN, q]; decide)]
      refine look_mem (List.cons.inj e).2 ?_
      rcases List.mem_cons.mp h with h | h
      · rw [h] at q
        simp at q
      · exact h
theorem look_not {n : List Nat} {kvs : List (PyData × PyData)} {ns : List (List Nat)} (e : kvs.map (·.1) = ns.map strN) (h : n ∉ ns) : lookD kvs n = none := by
  unfold lookD
  rw [List.find?_eq_none.mpr]
  · rfl
  · intro p hp q
    have hm : p.1 ∈ kvs.map (·.1) := List.mem_map.mpr ⟨p, hp, rfl⟩
    rw [e] at hm
    obtain ⟨m, hm, em⟩ := List.mem_map.mp hm
    rw [← em, strIs_strN] at q
    have q : m = n := by simpa using q
    rw [q] at hm
    exact h hm
theorem look_in {n : List Nat} {d : PyData} {kvs : List (PyData × PyData)} {ns : List (List Nat)} (e : kvs.map (·.1) = ns.map strN) (h : lookD kvs n = some d) : n ∈ ns := by
  cases Classical.em (n ∈ ns) with
  | inl m => exact m
  | inr m => rw [look_not e m] at h; cases h
theorem Tw.noneEq {d e : PyData} (t : Tw d e) : noneD d = noneD e := by cases t <;> rfl
theorem Tw.str' {d e : PyData} (t : Tw d e) : isStrD d = isStrD e := by cases t <;> rfl
theorem Tw.whole {d e : PyData} (t : Tw d e) : wholeD d = wholeD e := by cases t <;> rfl
theorem Tw.bool {d e : PyData} (t : Tw d e) : boolD d = boolD e := by cases t <;> rfl
theorem Tw.look {kvs kvs' : List (PyData × PyData)} (t : Tw (.dict kvs) (.dict kvs')) (n : List Nat) : (lookD kvs n = none ∧ lookD kvs' n = none) ∨ ∃ d e, lookD kvs n = some d ∧ lookD kvs' n = some e ∧ Tw d e := by
  cases t with
  | @dic _ _ ns ms l nm nd pm e1 e2 h =>
  cases Classical.em (n ∈ ns) with
  | inl m =>
    obtain ⟨d, hd⟩ := look_mem e1 m
    obtain ⟨e, he⟩ := look_mem e2 (pm.mem_iff.mp m)
    exact .inr ⟨d, e, hd, he, h n d e m hd he⟩
  | inr m => exact .inl ⟨look_not e1 m, look_not e2 fun z => m (pm.mem_iff.mpr z)⟩
theorem Tw.key {d e : PyData} (t : Tw d e) (k : List Nat) : keyV d k = keyV e k := by
  cases t with
  | dic l nm nd pm e1 e2 h =>
    have t := Tw.dic l nm nd pm e1 e2 h
    rcases t.look k with ⟨h1, h2⟩ | ⟨d, e, h1, h2, t1⟩
    · unfold keyV
      simp only [h1, h2]
    · unfold keyV
      simp only [h1, h2]
      cases t1 <;> rfl
  | _ => rfl
theorem any_keys {kvs : List (PyData × PyData)} {ns : List (List Nat)} (e : kvs.map (·.1) = ns.map strN) (f : PyData → Bool) : kvs.any (fun p => f p.1) = ns.any fun n => f (strN n) := by
  have h1 : kvs.any (fun p => f p.1) = (kvs.map (·.1)).any f := by rw [List.any_map]; rfl
  rw [h1, e, List.any_map]
  rfl
theorem tw_any {kvs kvs' : List (PyData × PyData)} (t : Tw (.dict kvs) (.dict kvs')) (f : PyData → Bool) : kvs.any (fun p => f p.1) = kvs'.any (fun p => f p.1) := by
  cases t with
  | dic l nm nd pm e1 e2 h =>
    rw [any_keys e1, any_keys e2]
    exact pm.any_eq
theorem listT_tw {g : PyData → Option (List Key)} {k : Option (List Nat)} (hg : ∀ d e, Tw d e → g d = g e) : ∀ {ds es : List PyData} {i : Nat} {seen : List Key}, ds.length = es.length → (∀ (i : Nat) d e, ds[i]? = some d → es[i]? = some e → Tw d e) → listT g k i seen ds = listT g k i seen es
  | [], [], _, _, _, _ => rfl
  | [], _ :: _, _, _, l, _ => by cases l
  | _ :: _, [], _, _, l, _ => by cases l
  | d :: ds, e :: es, i, seen, l, h => by
    have t := h 0 d e rfl rfl
    have ih : ∀ i seen, listT g k i seen ds = listT g k i seen es := fun i seen => listT_tw hg (by simpa using l) fun i d e h1 h2 => h (i + 1) d e (by simpa using h1) (by simpa using h2)
    conv => lhs; unfold listT
    conv => rhs; unfold listT
    rw [hg d e t]
    cases g e with
    | some p => rfl
    | none =>
      cases k with
      | none => exact ih _ _
      | some k' =>
        simp only [t.key k']
        cases keyV e k' with
        | none => rfl
        | some c => simp only [ih]
mutual
theorem trb_tw : ∀ (f : Fm) {d e : PyData}, Tw d e → trb f d = trb f e
  | .text, d, e, t => by show (if isStrD d then _ else _) = (if isStrD e then _ else _); rw [t.str']
  | .number, d, e, t => by show (if wholeD d then _ else _) = (if wholeD e then _ else _); rw [t.whole]
  | .flag, d, e, t => by show (if boolD d then _ else _) = (if boolD e then _ else _); rw [t.bool]
  | .opt f, d, e, t => by
    show (if noneD d then _ else trb f d) = (if noneD e then _ else trb f e)
    rw [t.noneEq, trb_tw f t]
  | .list f, d, e, t => by
    cases t with
    | @tup ds es l3 l h =>
      show (if Nat.blt 60 ds.length then some [] else listT (trb f) none 0 [] ds) = (if Nat.blt 60 es.length then some [] else listT (trb f) none 0 [] es)
      rw [l, listT_tw (fun d e t => trb_tw f t) l h]
    | _ => rfl
  | .keyed f k, d, e, t => by
    cases t with
    | @tup ds es l3 l h =>
      show (if Nat.blt 60 ds.length then some [] else listT (trb f) (some k) 0 [] ds) = (if Nat.blt 60 es.length then some [] else listT (trb f) (some k) 0 [] es)
      rw [l, listT_tw (fun d e t => trb_tw f t) l h]
    | _ => rfl
  | .rcd fs, d, e, t => by
    cases t with
    | @dic kvs kvs' ns ms l nm nd pm e1 e2 h =>
      have t := Tw.dic l nm nd pm e1 e2 h
      show (if kvs.any (fun p => !(fs.any fun q => strIs p.1 q.1)) then some [] else trbFs fs kvs) = (if kvs'.any (fun p => !(fs.any fun q => strIs p.1 q.1)) then some [] else trbFs fs kvs')
      rw [tw_any t fun a => !(fs.any fun q => strIs a q.1), trbFs_tw fs t]
    | _ => rfl
theorem trbFs_tw : ∀ (fs : List (List Nat × Fm)) {kvs kvs' : List (PyData × PyData)}, Tw (.dict kvs) (.dict kvs') → trbFs fs kvs = trbFs fs kvs'
  | [], _, _, _ => rfl
  | (n, f) :: r, kvs, kvs', t => by
    rcases t.look n with ⟨h1, h2⟩ | ⟨d, e, h1, h2, t1⟩
    · conv => lhs; unfold trbFs
      conv => rhs; unfold trbFs
      simp only [h1, h2]
    · conv => lhs; unfold trbFs
      conv => rhs; unfold trbFs
      simp only [h1, h2]
      rw [trb_tw f t1, trbFs_tw r t]
end
/-! ### sizes, levels -/
theorem Tw.sz {d e : PyData} (t : Tw d e) : Sz d ∧ Sz e := by
  induction t with
  | non => exact ⟨.non, .non⟩
  | bl b => exact ⟨.bl _, .bl _⟩
  | int i => exact ⟨.int _, .int _⟩
  | str h => exact ⟨.str h, .str h⟩
  | @tup ds es l3 l h ih =>
    refine ⟨.tup (by omega) fun d hd => ?_, .tup (by omega) fun e he => ?_⟩
    · obtain ⟨i, hi⟩ := List.getElem?_of_mem hd
      have il := (List.getElem?_eq_some_iff.mp hi).1
      exact (ih i d _ hi (List.getElem?_eq_getElem (by omega))).1
    · obtain ⟨i, hi⟩ := List.getElem?_of_mem he
      have il := (List.getElem?_eq_some_iff.mp hi).1
      exact (ih i _ e (List.getElem?_eq_getElem (by omega)) hi).2
  | @dic kvs kvs' ns ms l nm nd pm e1 e2 h ih =>
    have nds : ∀ {xs : List (List Nat)}, xs.Nodup → (xs.map strN).Nodup := fun nd => List.pairwise_map.mpr (List.Pairwise.imp (fun {x y} hne exy => hne (by
      have exy : PyData.str (mkS x) = PyData.str (mkS y) := exy
      injection exy with exy
      exact congrArg (fun s : Str => s.cps.toList) exy)) nd)
    have keys : ∀ {xs : List (PyData × PyData)} {zs : List (List Nat)}, xs.map (·.1) = zs.map strN → (∀ n ∈ zs, nmOkL n = true) → ∀ p ∈ xs, ∃ n ∈ zs, p.1 = strN n ∧ Sz p.1 := fun e hn p hp => by
      have hm : p.1 ∈ _ := List.mem_map.mpr ⟨p, hp, rfl⟩
      rw [e] at hm
      obtain ⟨n, hn', en⟩ := List.mem_map.mp hm
      refine ⟨n, hn', en.symm, ?_⟩
      rw [← en]
      refine .str ?_
      have := nm12 (hn n hn')
      rw [mk_len]
      omega
    have look : ∀ {xs : List (PyData × PyData)} {zs : List (List Nat)}, zs.Nodup → xs.map (·.1) = zs.map strN → ∀ p ∈ xs, ∀ n, p.1 = strN n → lookD xs n = some p.2 := by
      intro xs
      induction xs with
      | nil => intro zs _ _ p hp; cases hp
      | cons q r ihq =>
        intro zs nd e p hp n en
        cases zs with
        | nil => cases e
        | cons m zs =>
          have e0 : q.1 = strN m := (List.cons.inj e).1
          have nd := List.nodup_cons.mp nd
          unfold lookD
          rcases List.mem_cons.mp hp with rfl | hp
          · rw [List.find?_cons_of_pos (by show strIs p.1 n = true; rw [en, strIs_strN]; simp)]
            rfl
          · have ne : (m == n) = false := beq_eq_false_iff_ne.mpr fun z => nd.1 (by
              have hm : p.1 ∈ r.map (·.1) := List.mem_map.mpr ⟨p, hp, rfl⟩
              rw [(List.cons.inj e).2] at hm
              obtain ⟨n', hn', e'⟩ := List.mem_map.mp hm
              have e' : PyData.str (mkS n') = PyData.str (mkS n) := e'.trans en
              injection e' with e'
              have e' : n' = n := congrArg (fun s : Str => s.cps.toList) e'
              rw [z, ← e']
              exact hn')
            rw [List.find?_cons_of_neg (by show ¬ strIs q.1 n = true; rw [e0, strIs_strN, ne]; decide)]
            exact ihq nd.2 (List.cons.inj e).2 p hp n en
    have len1 : kvs.length = ns.length := by
      have := congrArg List.length e1
      rw [List.length_map, List.length_map] at this
      exact this
    have len2 : kvs'.length = ms.length := by
      have := congrArg List.length e2
      rw [List.length_map, List.length_map] at this
      exact this
    have lp := pm.length_eq
    have nm2 : ∀ n ∈ ms, nmOkL n = true := fun n hn => nm n (pm.mem_iff.mpr hn)
    have nd2 : ms.Nodup := pm.nodup_iff.mp nd
    refine ⟨.dic (by omega) (by rw [e1]; exact nds nd) (fun p hp => ?_) (fun p hp => ?_), .dic (by omega) (by rw [e2]; exact nds nd2) (fun p hp => ?_) (fun p hp => ?_)⟩
    · obtain ⟨_, _, _, s⟩ := keys e1 nm p hp
      exact s
    · obtain ⟨n, hn, en, _⟩ := keys e1 nm p hp
      obtain ⟨e, he⟩ := look_mem e2 (pm.mem_iff.mp hn)
      exact (ih n p.2 e hn (look nd e1 p hp n en) he).1
    · obtain ⟨_, _, _, s⟩ := keys e2 nm2 p hp
      exact s
    · obtain ⟨n, hn, en, _⟩ := keys e2 nm2 p hp
      have hn1 := pm.mem_iff.mpr hn
      obtain ⟨d, hd⟩ := look_mem e1 hn1
      exact (ih n d p.2 hn1 hd (look nd2 e2 p hp n en)).2
/-- data that fits is a value of few levels -/
theorem fit_lev {f : Fm} {d : PyData} (h : FitD f d) : ∀ n, f.dep ≤ n → levD n d = true := by
  induction h with
  | text h => intro n _; cases n <;> rfl
  | number i => intro n _; cases n <;> rfl
  | flag b => intro n _; cases n <;> rfl
  | optN f => intro n _; cases n <;> rfl
  | @opt f d h ih =>
    intro n hn
    have hn : f.dep + 1 ≤ n := hn
    exact ih n (by omega)
  | @list f ds l h ih =>
    intro n hn
    have hn : f.dep + 1 ≤ n := hn
    cases n with
    | zero => omega
    | succ n =>
      show (Nat.ble ds.length 60 && ds.all (levD n)) = true
      rw [Nat.ble_eq_true_of_le (by omega), Bool.true_and, List.all_eq_true]
      exact fun d hd => ih d hd n (by omega)
  | @keyed f k ds cs l h e nd ih =>
    intro n hn
    have hn : f.dep + 1 ≤ n := hn
    cases n with
    | zero => omega
    | succ n =>
      show (Nat.ble ds.length 60 && ds.all (levD n)) = true
      rw [Nat.ble_eq_true_of_le (by omega), Bool.true_and, List.all_eq_true]
      exact fun d hd => ih d hd n (by omega)
  | @rcd fs kvs l nm nd e h ih =>
    intro n hn
    have hn : depFs fs + 1 ≤ n := hn
    cases n with
    | zero => omega
    | succ n =>
      show (kvs.all fun p => nameD p.1 && levD n p.2) = true
      rw [List.all_eq_true]
      intro p hp
      obtain ⟨i, hi⟩ := List.getElem?_of_mem hp
      have il := (List.getElem?_eq_some_iff.mp hi).1
      have len := fit_len e
      have hq : fs[i]? = some (fs[i]'(by omega)) := List.getElem?_eq_getElem _
      have ek : p.1 = nmD (fs[i]'(by omega)) := by
        have h1 : (kvs.map (·.1))[i]? = some p.1 := by rw [List.getElem?_map, hi]; rfl
        rw [e, List.getElem?_map, hq] at h1
        exact (Option.some.inj h1).symm
      have nmi := nm _ (List.mem_of_getElem? hq)
      have ni : nameD p.1 = true := by
        rw [ek]
        have l12 := nm12 nmi
        unfold nmOkL at nmi
        show (Nat.blt 0 (mkS _).length && (Nat.blt (mkS _).length 13 && _)) = true
        rw [mk_len, Nat.blt_eq.mpr (by omega), Nat.blt_eq.mpr (by omega)]
        exact (Bool.and_eq_true_iff.mp nmi).2
      rw [ni, Bool.true_and]
      have dm : ∀ {fs : List (List Nat × Fm)} {i : Nat} {q}, fs[i]? = some q → q.2.dep ≤ depFs fs := by
        intro fs
        induction fs with
        | nil => intro i q h; simp at h
        | cons a r ih2 =>
          intro i q h
          cases i with
          | zero => cases h; exact Nat.le_max_left _ _
          | succ i => exact Nat.le_trans (ih2 (i := i) (by simpa using h)) (Nat.le_max_right _ _)
      exact ih i _ p hq hi n (Nat.le_trans (dm hq) (by omega))
end Sk
/-! Sk: str, repr, bool of own objects; == and != with anything; classmethods by name, through an instance -/
namespace PySem
open PySem.Sem (wp)
theorem skBoolInst (x : Addr) : Meets (Builtin.«bool.__new__» ⟨[.type "bool", .ref x], []⟩) (fun _ R s => (∀ (prog : Program) (w : World) (A : Around) (E : Value → Shared → Prop) (Q : Bool → Shared → Prop), Q true s → wpAny (model prog w) A (truthy (.ref x)) Q E s) ∧ R (.ok (.ret (.bool true))) s) :=
  Meets.of_wp fun prog w A R s hs => by
    obtain ⟨ht, hs⟩ := hs
    obtain ⟨hp, g, d, tk, os⟩ := s
    have f1 := F.conv_sub_bool
    repeat (any_goals (first | assumption | (with_reducible refine ht _ _ _ _ _ ?_) | wp_step))
    all_goals first | exact ⟨_, rfl, hs⟩ | exact hs | skip
theorem skCallBool {prog : Program} {w : World} {A : Around} {E : Value → Shared → Prop} {s : Shared} {x : Addr} {Q : Value → Shared → Prop} (ht : ∀ (prog : Program) (w : World) (A : Around) (E : Value → Shared → Prop) (Q : Bool → Shared → Prop), Q true s → wpAny (model prog w) A (truthy (.ref x)) Q E s)
    (h : Q (.bool true) s) : wpAny (model prog w) A (call (.type "bool") [.ref x]) Q E s :=
  call_bool_1 (skBoolInst x) ⟨ht, rfl, h⟩
end PySem
namespace Sk
open PySem PySem.Spec PyProof.Rows L2
section
variable {X : Cx} {k : Nat} {f C : Addr} {fd : FuncData} {ps : List Str} {sp : Sp}
/-- an own def run at another place -/
theorem run_at {A : Around} {pins : List (Addr × Obj)} {σ : L2.St} {H : Hp} {s : Shared} {us : List Value} {vs : List V} {Q : VK} (F : FnOk X.prog X.w X.K X.mg X.base CX0 k f fd ps sp) (hb : Binds X.K fd ps []) (hr : Room k A) (e0 : Env0 X.prog X.w X.K X.mg X.base A X.stack s H) (I : Inv X pins σ H s) (r : Vals vs us) (h : sp vs H Q E0) : wpAny (model X.prog X.w) A (call (.ref f) us) (EP X pins σ Q) X.xe s := by
  have hl := F.len _ _ _ _ h
  refine wpAny_call (codeAny_mono (F.run A X.stack s H ⟨us, []⟩ us vs Q E0 hr e0 (by
    have := hb s us I.kIn (by rw [List.append_nil]; exact r.length.symm.trans hl)
    simpa using this) r h) fun r s' hq => ?_)
  cases r with
  | error e => exact hq.elim
  | ok fl =>
    cases fl with
    | ret w => exact I.after hq
    | next => exact hq.elim
    | brk => exact hq.elim
    | cont => exact hq.elim
def strK (Q : VK) : VK := fun v H => match v with | .str z => Q (.str z) H | _ => False
theorem str_of {v : V} {u : Value} {H : Hp} {Q : VK} (r : RelV v u) (h : strK Q v H) : ∃ z t, u = .str z t ∧ v = .str z ∧ Q (.str z) H := by
  cases v with
  | str z =>
    obtain ⟨t, rfl⟩ := r
    exact ⟨z, t, rfl, rfl, h⟩
  | _ => exact h.elim
/-- str(x) -/
def rStrO (C : Addr) (sp : Sp) : List V → Hp → VK → Prop := fun xs H Q => match xs with
  | [.ref a] => (∃ dx fs, H a = some (.ins C dx fs)) ∧ sp [.ref a] H (strK Q) E0
  | _ => rStr xs H Q
theorem call_strO (F : FnOk X.prog X.w X.K X.mg X.base CX0 k f fd ps sp) (o : OwnF X.K C "__str__" f) (hb : Binds X.K fd ps []) (hr : Room (k + 2) X.A) : CallR X (.type "str") (rStrO C sp) := by
  intro pins s σ H xs us Q I r q
  unfold rStrO at q
  split at q
  · rename_i a
    obtain ⟨⟨dx, fs, ha⟩, q⟩ := q
    cases r with
    | @cons _ u _ us ru rs =>
    cases rs
    obtain rfl : u = Value.ref a := ru
    obtain ⟨mA, J, _⟩ := ins_get I.hok ha
    obtain ⟨od, J, _⟩ := J.look
    refine PySem.W.kso_call (by have := hr.un; show X.A.units + 2 < cLine; omega) I.kIn J o.at_ o.fn ?_
    refine thn (run_at (A := X.A.in1.in1) (us := [.ref a]) (vs := [.ref a]) F hb hr.in1.in1 I.env0.in1.in1 I (.cons rfl .nil) q) fun r s1 z => ?_
    obtain ⟨v1, H1, I1, r1, q1⟩ := z
    obtain ⟨z, t, rfl, rfl, q2⟩ := str_of r1 q1
    exact ⟨.str z, H1, I1, ⟨t, rfl⟩, q2⟩
  · exact call_strU pins s σ H xs us Q I r q
/-- repr(x) of own objects -/
def rReprO (C : Addr) (sp : Sp) : List V → Hp → VK → Prop := fun xs H Q => match xs with
  | [.ref a] => (∃ dx fs, H a = some (.ins C dx fs)) ∧ sp [.ref a] H (strK Q) E0
  | _ => False
theorem call_reprO (F : FnOk X.prog X.w X.K X.mg X.base CX0 k f fd ps sp) (o : OwnF X.K C "__repr__" f) (hb : Binds X.K fd ps []) (hr : Room (k + 1) X.A) : CallR X (.builtin "repr") (rReprO C sp) := by
  intro pins s σ H xs us Q I r q
  unfold rReprO at q
  split at q
  · rename_i a
    obtain ⟨⟨dx, fs, ha⟩, q⟩ := q
    cases r with
    | @cons _ u _ us ru rs =>
    cases rs
    obtain rfl : u = Value.ref a := ru
    obtain ⟨mA, J, _⟩ := ins_get I.hok ha
    obtain ⟨od, J, _⟩ := J.look
    obtain ⟨m, hF⟩ := I.fr
    refine PySem.W.repr_K (by have := hr.un; show X.A.units + 1 < cLine; omega) hF I.ok.mod.kin J o.at_ o.fn ?_
    refine thn (run_at (A := X.A.in1) (us := [.ref a]) (vs := [.ref a]) F hb hr.in1 I.env0.in1 I (.cons rfl .nil) q) fun r s1 z => ?_
    obtain ⟨v1, H1, I1, r1, q1⟩ := z
    obtain ⟨z, t, rfl, rfl, q2⟩ := str_of r1 q1
    exact ⟨.str z, H1, I1, ⟨t, rfl⟩, q2⟩
  · exact q.elim
/-- no __bool__, no __len__ -/
structure NoBool (K : PySem.W.Frag) (C : Addr) : Prop where
  nb : PySem.W.findIn K (.ref C) "__bool__" = some none
  nl : PySem.W.findIn K (.ref C) "__len__" = some none
def noBoolB (K : Fg) (C : Str) : Bool := decide (PySem.W.findIn K (.ref (He.ga K C)) "__bool__" = some none) && decide (PySem.W.findIn K (.ref (He.ga K C)) "__len__" = some none)
theorem noBoolB_ok {K : Fg} {C : Str} (h : noBoolB K C = true) : NoBool K (He.ga K C) := by
  obtain ⟨a, b⟩ := Bool.and_eq_true_iff.mp h
  exact ⟨of_decide_eq_true a, of_decide_eq_true b⟩
def rBoolO (C : Addr) : List V → Hp → VK → Prop := fun xs H Q => match xs with
  | [.ref a] => (∃ dx fs, H a = some (.ins C dx fs)) ∧ Q (.bl true) H
  | _ => False
theorem call_boolO (n : NoBool X.K C) : CallR X (.type "bool") (rBoolO C) := by
  intro pins s σ H xs us Q I r q
  unfold rBoolO at q
  split at q
  · rename_i a
    obtain ⟨⟨dx, fs, ha⟩, q⟩ := q
    cases r with
    | @cons _ u _ us ru rs =>
    cases rs
    obtain rfl : u = Value.ref a := ru
    obtain ⟨mA, J, _⟩ := ins_get I.hok ha
    obtain ⟨od, J, _⟩ := J.look
    obtain ⟨m, hF⟩ := I.fr
    exact skCallBool (fun _ _ _ _ _ h => PySem.W.truthy_K0 hF I.ok.mod.kin J n.nb n.nl h) ⟨.bl true, H, I, rfl, q⟩
  · exact q.elim
/-- == and != with anything -/
def AnyT (K : PySem.W.Frag) (C : Addr) (H : Hp) (y : V) : Prop := (∃ b dx fs, y = .ref b ∧ H b = some (.ins C dx fs)) ∨ ∃ t : String, TyX K H y (.type t) ∧ PySem.W.notFirst K C (.type t) = true
theorem any_looks {pins : List (Addr × Obj)} {σ : L2.St} {H : Hp} {s : Shared} {y : V} {u : Value} (I : Inv X pins σ H s) (r : RelV y u) (a : AnyT X.K C H y) : ∃ tb, PySem.W.Looks (model X.prog X.w) s.heap (typeOf u) tb ∧ PySem.W.notFirst X.K C tb = true := by
  rcases a with ⟨b, dx, fs, rfl, h⟩ | ⟨t, ty, nf⟩
  · obtain rfl : u = Value.ref b := r
    obtain ⟨mA, J, _⟩ := ins_get I.hok h
    obtain ⟨od, J, _⟩ := J.look
    exact ⟨.ref C, J.type, by simp [PySem.W.notFirst]⟩
  · obtain ⟨P, kx, hP, _⟩ := kit_of I r ty
    exact ⟨_, kx.ty _ _ I.kIn hP, nf⟩
def rEqA (K : PySem.W.Frag) (C : Addr) (sp : Sp) (neg : Bool) : R2 := fun x y H Q => match x with
  | .ref a => (∃ dx fs, H a = some (.ins C dx fs)) ∧ AnyT K C H y ∧ sp [.ref a, y] H (fun v H' => onB v fun c => Q (.bl (if neg then !c else c)) H') E0
  | _ => False
theorem op_eqA (K : PySem.W.Frag) (F : FnOk X.prog X.w X.K X.mg X.base CX0 k f fd ps sp) (o : OwnF X.K C "__eq__" f) (hb : Binds X.K fd ps []) (hr : Room k X.A) (hK : X.K = K := by rfl) : OpR X (compareOp .Eq) (rEqA K C sp false) := by
  subst hK
  intro pins s σ H x y v u Q I rx ry q
  unfold rEqA at q
  split at q
  · rename_i a
    obtain ⟨⟨dx, fs, ha⟩, hy, q⟩ := q
    obtain rfl : v = Value.ref a := rx
    obtain ⟨mA, J, _⟩ := ins_get I.hok ha
    obtain ⟨od, J, _⟩ := J.look
    obtain ⟨tb, L, nf⟩ := any_looks I ry hy
    obtain ⟨m, hF⟩ := I.fr
    show wpAny (model X.prog X.w) X.A (richCompare .Eq (.ref a) u) _ _ s
    refine PySem.W.cmp_K (op := .Eq) (tb := tb) (by have := hr.un; omega) hF I.ok.mod.kin J L nf o.at_ o.fn ?_
    refine thn (run_fn (us := [.ref a, u]) (vs := [.ref a, y]) (Q := fun v H' => onB v fun c => Q (.bl (if false then !c else c)) H') F hr hb .nil pass0 I (.cons rfl (.cons ry .nil)) q) fun r s1 z => ?_
    obtain ⟨v1, H1, I1, r1, q1⟩ := z
    obtain ⟨c, rfl, rfl, q2⟩ := bool_of r1 q1
    exact ⟨.bl c, H1, I1, rfl, q2⟩
  · exact q.elim
theorem op_neA (K : PySem.W.Frag) (F : FnOk X.prog X.w X.K X.mg X.base CX0 k f fd ps sp) (o : OwnF X.K C "__eq__" f) (n : NeO X.K C) (hb : Binds X.K fd ps []) (hr : Room (k + 1) X.A) (hK : X.K = K := by rfl) : OpR X (compareOp .NotEq) (rEqA K C sp true) := by
  subst hK
  intro pins s σ H x y v u Q I rx ry q
  unfold rEqA at q
  split at q
  · rename_i a
    obtain ⟨⟨dx, fs, ha⟩, hy, q⟩ := q
    obtain rfl : v = Value.ref a := rx
    obtain ⟨mA, J, _⟩ := ins_get I.hok ha
    obtain ⟨od, J, _⟩ := J.look
    obtain ⟨tb, L, nf⟩ := any_looks I ry hy
    obtain ⟨m, hF⟩ := I.fr
    show wpAny (model X.prog X.w) X.A (richCompare .NotEq (.ref a) u) _ _ s
    refine PySem.W.skNe (tb := tb) (by have := hr.un; omega) hF I.ok.mod.kin J L nf n.ne n.ob o.at_ o.fn ?_
    refine thn (run_at (A := X.A.in1) (us := [.ref a, u]) (vs := [.ref a, y]) F hb hr.in1 I.env0.in1 I (.cons rfl (.cons ry .nil)) q) fun r s1 z => ?_
    obtain ⟨v1, H1, I1, r1, q1⟩ := z
    obtain ⟨c, rfl, rfl, q2⟩ := bool_of r1 q1
    exact ⟨c, rfl, .bl (!c), H1, I1, rfl, q2⟩
  · exact q.elim
end
/-! ### classmethods -/
section
variable {X : Cx} {k : Nat} {C p g : Addr} {mc : Value} {sp : Sp} {o e : Expr} {es : List Expr} {kws : List Keyword} {m nm : Str} {pos apos kpos : Pos} {ta tk : TE} {t : TA} {pl : Sem Bool}
def uCMeth (C : Addr) (sp : Sp) (ta : TE) (tk : TE) : TE := fun σ H Q => ta σ H fun x H1 => x = .ref C ∧ tk σ H1 fun y H2 => sp [.ref C, y] H2 Q E0
/-- o.m(..), m a classmethod of o's class -/
def uIMeth (C : Addr) (m : Str) (sp : Sp) (ta : TE) (t : TA) : TE := fun σ H Q => ta σ H fun x H1 => match x with
  | .ref a => (∃ dx fs, H1 a = some (.ins C dx fs) ∧ fs.lookup m = none) ∧ t σ H1 fun ws H2 => sp (.ref C :: ws) H2 Q E0
  | _ => False
theorem pe_imethU (he : PE X o ta) (c : ClX.CInst X.K C m p g) (F : FnR X.prog X.w X.K X.mg X.base CX0 k g sp) (hr : Room k X.A) (ha : PA X (e :: es) t)
    (hst : starEach (e :: es) X.env = (false, eval e X.env) :: starEach es X.env := by rfl) (hpl : (backTo pos (starEach es X.env)).any (·.1) = false := by rfl)
    (ht : eval (.Call (.Attribute o m apos) (e :: es) [] pos) X.env = (do
      let ov ← eval o X.env
      standAt apos.atName
      let (f, first) ← holding [ov] (getMethod ov m pl)
      callWith pos f first (backTo pos (starEach (e :: es) X.env)) (backToKw pos (keywordEach [] X.env))) := by rfl) :
    PE X (.Call (.Attribute o m apos) (e :: es) [] pos) (uIMeth C m sp ta t) :=
  PEw (ClX.pe_imethD (E := E0) (up he) c F hr pass0 (upa ha) hst hpl ht) fun σ H Q q => by
    refine ⟨_, fun x H1 z => ?_, q⟩
    cases x with
    | ref a =>
      obtain ⟨⟨dx, fs, h1, h2⟩, z⟩ := z
      exact ⟨a, dx, fs, rfl, h1, h2, _, fun vs H2 z2 => z2, z⟩
    | _ => exact z.elim
end
section
variable {X : Cx} {k : Nat} {C p g : Addr} {mc : Value} {fd : FuncData} {ps ks : List Str} {sp : Sp} {o : Expr} {kws : List Keyword} {m : Str} {pos apos : Pos} {ta : TE} {tk : TA} {pl : Sem Bool}
/-- C.m(k = v) -/
def uCMethK (C : Addr) (sp : Sp) (n : Nat) (ta : TE) (tk : TA) : TE := fun σ H Q => ta σ H fun x H1 => x = .ref C ∧ tk σ H1 fun zs H2 => zs.length = n ∧ sp (.ref C :: zs) H2 Q E0
theorem pe_cmethK (he : PE X o ta) (r : ClX.CRead X.K C mc) (c : ClX.CMet X.K C mc m p g) (F : FnOk X.prog X.w X.K X.mg X.base CX0 k g fd ps sp) (hr : Room k X.A) (hb : KBn X.K fd ps 1 ks (fun us ws => us ++ ws) (fun vs zs => vs ++ zs)) (hkw : PK X kws tk)
    (hall : (backToKw pos (keywordEach kws X.env)).all (·.1.isSome) = true := by rfl) (hks : (backToKw pos (keywordEach kws X.env)).filterMap (·.1) = ks := by rfl)
    (hpl : ((backTo pos (starEach [] X.env)).any (·.1) || (backToKw pos (keywordEach kws X.env)).any (·.1.isNone)) = false := by rfl)
    (ht : eval (.Call (.Attribute o m apos) [] kws pos) X.env = (do
      let ov ← eval o X.env
      standAt apos.atName
      let (f, first) ← holding [ov] (getMethod ov m pl)
      callWith pos f first (backTo pos (starEach [] X.env)) (backToKw pos (keywordEach kws X.env))) := by rfl) :
    PE X (.Call (.Attribute o m apos) [] kws pos) (uCMethK C sp ks.length ta tk) := by
  refine ⟨fun pins s σ H Q I h => ?_⟩
  refine PySem.W.methodCall_KW (pl := pl) (thn (he.run pins s σ H _ I h) fun u s1 z => ?_) ht
  obtain ⟨x, H1, I1, rx, rfl, q⟩ := z
  obtain rfl : u = Value.ref C := rx
  refine ClX.getmethcm_ok I1 r c fun s2 I2 => ?_
  refine PySem.W.callWith_of (P := PySem.W.MethP X.K s1.heap.objs.size g (.ref C)) (first := []) hpl (PySem.W.keeps_M c.fi) (evalArgs_kw2_nil hall (thn (hkw.run pos _ s2 σ H1 _ I2 q) fun ws s3 z => ?_))
  obtain ⟨zs, H2, I3, rz, l2, q2⟩ := z
  refine ⟨⟨ClX.pin_at I3, I3.kIn⟩, ?_⟩
  rw [hks]
  have r0 : Vals [V.ref C] [Value.ref C] := .cons rfl .nil
  have z : wpAny (model X.prog X.w) X.A (call (.ref s1.heap.objs.size) [] (ks.zip ws)) (EP X ((s1.heap.objs.size, PySem.W.methodObj (.ref g) (.ref C)) :: pins) σ Q) X.xe s3 := by
    refine wpAny_call (PySem.W.method_call (ClX.pin_at I3) (codeAny_mono (F.run X.A X.stack s3 H2 ⟨[.ref C], ks.zip ws⟩ ([.ref C] ++ ws) ([.ref C] ++ zs) Q E0 hr I3.env0 (hb.to s3 [.ref C] ws I3.kIn rfl (rz.length.symm.trans l2)) (r0.append rz) q2) fun r s' hq => ?_))
    cases r with
    | error e => exact hq.elim
    | ok fl =>
      cases fl with
      | ret w => exact I3.after hq
      | next => exact hq.elim
      | brk => exact hq.elim
      | cont => exact hq.elim
  exact thn z fun _ _ y => ClX.unpinE y
end
/-- the kinds that are no own class -/
def sevenT : List String := ["NoneType", "bool", "int", "str", "list", "tuple", "dict"]
def StrT (K : PySem.W.Frag) (C : Addr) : Prop := ∀ t ∈ sevenT, PySem.W.kitOne K (.type t) (.ref C) = some false ∧ PySem.W.notFirst K C (.type t) = true
def strTB (K : Fg) (C : Str) : Bool := sevenT.all fun t => decide (PySem.W.kitOne K (.type t) (.ref (He.ga K C)) = some false) && PySem.W.notFirst K (He.ga K C) (.type t)
theorem strTB_ok {K : Fg} {C : Str} (h : strTB K C = true) : StrT K (He.ga K C) := fun t ht => by
  obtain ⟨a, b⟩ := Bool.and_eq_true_iff.mp (List.all_eq_true.mp h t ht)
  exact ⟨of_decide_eq_true a, b⟩
def cinstB (K : Fg) (C m : Str) : Bool := PySem.W.plainGet K (He.ga K C) Str.empty && (PySem.W.isClsIn K (He.ga K C) && (decide (PySem.W.findIn K (.ref (He.ga K C)) m = some (some (.ref (He.ma K (He.ga K C) m)))) && (decide (PySem.W.typeIn K (.ref (He.ma K (He.ga K C) m)) = some (.type "classmethod")) && (decide (PySem.W.specialIn K (.ref (He.ma K (He.ga K C) m)) "__get__" = some (some (.builtin "classmethod.__get__"))) && (decide (PySem.W.takesIn K (.ref (He.ma K (He.ga K C) m)) = some false) && (!PySem.W.copiedNames.contains m && (PySem.W.fnIn K (cmA K C m) && (match PySem.W.recIn K (He.ma K (He.ga K C) m) "classmethod" with
    | some (.ref _ :: _) => true
    | _ => false))))))))
theorem cinstB_ok {K : Fg} {C m : Str} (h : cinstB K C m = true) : ClX.CInst K (He.ga K C) m (He.ma K (He.ga K C) m) (cmA K C m) := by
  obtain ⟨a, h⟩ := Bool.and_eq_true_iff.mp h
  obtain ⟨b, h⟩ := Bool.and_eq_true_iff.mp h
  obtain ⟨c, h⟩ := Bool.and_eq_true_iff.mp h
  obtain ⟨d, h⟩ := Bool.and_eq_true_iff.mp h
  obtain ⟨e, h⟩ := Bool.and_eq_true_iff.mp h
  obtain ⟨f, h⟩ := Bool.and_eq_true_iff.mp h
  obtain ⟨g, h⟩ := Bool.and_eq_true_iff.mp h
  obtain ⟨i, j⟩ := Bool.and_eq_true_iff.mp h
  refine ⟨a, b, of_decide_eq_true c, of_decide_eq_true d, of_decide_eq_true e, of_decide_eq_true f, by simpa using g, ?_, i⟩
  unfold cmA He5.wf
  split at j
  · rename_i q r e
    exact ⟨r, by rw [e]⟩
  · cases j
end Sk
namespace Sk
open PySem PySem.Spec PyProof.Rows L2
def topS (i : Nat) : Stmt := PySem.Challenge.pw_shapekeep_k02_types_read_and_written.main.body.getD i (.Pass ⟨0, 0, 0, 0⟩)
def clsS (s : Stmt) (j : Nat) : Stmt := match s with | .ClassDef _ _ _ b _ _ _ _ _ _ _ => b.getD j (.Pass ⟨0, 0, 0, 0⟩) | _ => s
abbrev s_is_whole : Stmt := topS 4
theorem sc_is_whole : FnScope ["thing"] ["thing"] (defScope s_is_whole) := ⟨rfl, rfl, rfl, by decide +kernel, rfl, by decide +kernel, by decide +kernel⟩
def d_is_whole : He5.DefA := ⟨fun K => He.ga K "is_whole", "is_whole", "is_whole", defArgs s_is_whole, defBody s_is_whole, defScope s_is_whole, [], []⟩
abbrev s_is_name : Stmt := topS 5
theorem sc_is_name : FnScope ["thing", "letter"] ["thing"] (defScope s_is_name) := ⟨rfl, rfl, rfl, by decide +kernel, rfl, by decide +kernel, by decide +kernel⟩
def d_is_name : He5.DefA := ⟨fun K => He.ga K "is_name", "is_name", "is_name", defArgs s_is_name, defBody s_is_name, defScope s_is_name, [], []⟩
abbrev s_name_from : Stmt := topS 11
theorem sc_name_from : FnScope ["text", "at", "end"] ["text", "at"] (defScope s_name_from) := ⟨rfl, rfl, rfl, by decide +kernel, rfl, by decide +kernel, by decide +kernel⟩
def d_name_from : He5.DefA := ⟨fun K => He.ga K "name_from", "name_from", "name_from", defArgs s_name_from, defBody s_name_from, defScope s_name_from, [], []⟩
abbrev s_read_fields : Stmt := topS 12
theorem sc_read_fields : FnScope ["text", "at", "level", "fields", "name", "found"] ["text", "at", "level"] (defScope s_read_fields) := ⟨rfl, rfl, rfl, by decide +kernel, rfl, by decide +kernel, by decide +kernel⟩
def d_read_fields : He5.DefA := ⟨fun K => He.ga K "read_fields", "read_fields", "read_fields", defArgs s_read_fields, defBody s_read_fields, defScope s_read_fields, [], []⟩
abbrev s_key_fits : Stmt := topS 13
theorem sc_key_fits : FnScope ["form", "key", "name", "inner"] ["form", "key"] (defScope s_key_fits) := ⟨rfl, rfl, rfl, by decide +kernel, rfl, by decide +kernel, by decide +kernel⟩
def d_key_fits : He5.DefA := ⟨fun K => He.ga K "key_fits", "key_fits", "key_fits", defArgs s_key_fits, defBody s_key_fits, defScope s_key_fits, [], []⟩
abbrev s_read_list : Stmt := topS 14
theorem sc_read_list : FnScope ["text", "at", "level", "found", "inner", "key"] ["text", "at", "level"] (defScope s_read_list) := ⟨rfl, rfl, rfl, by decide +kernel, rfl, by decide +kernel, by decide +kernel⟩
def d_read_list : He5.DefA := ⟨fun K => He.ga K "read_list", "read_list", "read_list", defArgs s_read_list, defBody s_read_list, defScope s_read_list, [], []⟩
abbrev s_read_bare : Stmt := topS 15
theorem sc_read_bare : FnScope ["text", "at", "level", "word"] ["text", "at", "level"] (defScope s_read_bare) := ⟨rfl, rfl, rfl, by decide +kernel, rfl, by decide +kernel, by decide +kernel⟩
def d_read_bare : He5.DefA := ⟨fun K => He.ga K "read_bare", "read_bare", "read_bare", defArgs s_read_bare, defBody s_read_bare, defScope s_read_bare, [], []⟩
abbrev s_read_form : Stmt := topS 16
theorem sc_read_form : FnScope ["text", "at", "level", "found"] ["text", "at", "level"] (defScope s_read_form) := ⟨rfl, rfl, rfl, by decide +kernel, rfl, by decide +kernel, by decide +kernel⟩
def d_read_form : He5.DefA := ⟨fun K => He.ga K "read_form", "read_form", "read_form", defArgs s_read_form, defBody s_read_form, defScope s_read_form, [], []⟩
abbrev s_form_text : Stmt := topS 17
theorem sc_form_text : FnScope ["form", "name", "inner"] ["form"] (defScope s_form_text) := ⟨rfl, rfl, rfl, by decide +kernel, rfl, by decide +kernel, by decide +kernel⟩
def d_form_text : He5.DefA := ⟨fun K => He.ga K "form_text", "form_text", "form_text", defArgs s_form_text, defBody s_form_text, defScope s_form_text, [], []⟩
abbrev s_fits_simple : Stmt := topS 18
theorem sc_fits_simple : FnScope ["form", "value"] ["form", "value"] (defScope s_fits_simple) := ⟨rfl, rfl, rfl, by decide +kernel, rfl, by decide +kernel, by decide +kernel⟩
def d_fits_simple : He5.DefA := ⟨fun K => He.ga K "fits_simple", "fits_simple", "fits_simple", defArgs s_fits_simple, defBody s_fits_simple, defScope s_fits_simple, [], []⟩
abbrev s_list_trouble : Stmt := topS 19
theorem sc_list_trouble : FnScope ["form", "value", "path", "keys", "index", "part", "trouble"] ["form", "value", "path"] (defScope s_list_trouble) := ⟨rfl, rfl, rfl, by decide +kernel, rfl, by decide +kernel, by decide +kernel⟩
def d_list_trouble : He5.DefA := ⟨fun K => He.ga K "list_trouble", "list_trouble", "list_trouble", defArgs s_list_trouble, defBody s_list_trouble, defScope s_list_trouble, [], []⟩
abbrev s_record_trouble : Stmt := topS 20
theorem sc_record_trouble : FnScope ["form", "value", "path", "name", "inner", "names", "trouble"] ["form", "value", "path"] (defScope s_record_trouble) := ⟨rfl, rfl, rfl, by decide +kernel, rfl, by decide +kernel, by decide +kernel⟩
def d_record_trouble : He5.DefA := ⟨fun K => He.ga K "record_trouble", "record_trouble", "record_trouble", defArgs s_record_trouble, defBody s_record_trouble, defScope s_record_trouble, [], []⟩
abbrev s_trouble_at : Stmt := topS 21
theorem sc_trouble_at : FnScope ["form", "value", "path"] ["form", "value", "path"] (defScope s_trouble_at) := ⟨rfl, rfl, rfl, by decide +kernel, rfl, by decide +kernel, by decide +kernel⟩
def d_trouble_at : He5.DefA := ⟨fun K => He.ga K "trouble_at", "trouble_at", "trouble_at", defArgs s_trouble_at, defBody s_trouble_at, defScope s_trouble_at, [], []⟩
abbrev s__law_cell : Stmt := topS 24
theorem sc__law_cell : FnScope ["_law_script", "_law_k", "_law_state", "_law_cell_here"] ["_law_script", "_law_k"] (defScope s__law_cell) := ⟨rfl, rfl, rfl, by decide +kernel, rfl, by decide +kernel, by decide +kernel⟩
def d__law_cell : He5.DefA := ⟨fun K => He.ga K "_law_cell", "_law_cell", "_law_cell", defArgs s__law_cell, defBody s__law_cell, defScope s__law_cell, [], []⟩
abbrev s__law_pool : Stmt := topS 25
theorem sc__law_pool : FnScope ["_law_cell_here", "_law_digits"] ["_law_cell_here"] (defScope s__law_pool) := ⟨rfl, rfl, rfl, by decide +kernel, rfl, by decide +kernel, by decide +kernel⟩
def d__law_pool : He5.DefA := ⟨fun K => He.ga K "_law_pool", "_law_pool", "_law_pool", defArgs s__law_pool, defBody s__law_pool, defScope s__law_pool, [], []⟩
abbrev s__law_draw : Stmt := topS 26
theorem sc__law_draw : FnScope ["_law_pool_here", "_law_many", "_law_state", "_law_digit"] ["_law_pool_here", "_law_many"] (defScope s__law_draw) := ⟨rfl, rfl, rfl, by decide +kernel, rfl, by decide +kernel, by decide +kernel⟩
def d__law_draw : He5.DefA := ⟨fun K => He.ga K "_law_draw", "_law_draw", "_law_draw", defArgs s__law_draw, defBody s__law_draw, defScope s__law_draw, [], []⟩
abbrev s__law_words : Stmt := topS 27
theorem sc__law_words : FnScope ["_law_pool_here", "_law_many", "_law_letters", "_law_menu", "_law_way", "_law_begin", "_law_stem", "_law_at", "_law_found", "_law_k", "_law_word"] ["_law_pool_here", "_law_many"] (defScope s__law_words) := ⟨rfl, rfl, rfl, by decide +kernel, rfl, by decide +kernel, by decide +kernel⟩
def d__law_words : He5.DefA := ⟨fun K => He.ga K "_law_words", "_law_words", "_law_words", defArgs s__law_words, defBody s__law_words, defScope s__law_words, [], []⟩
abbrev s__law_form : Stmt := topS 28
theorem sc__law_form : FnScope ["_law_pool_here", "_law_deep", "_law_way", "_law_words_here", "_law_fields", "_law_key", "_law_inner", "_law_word"] ["_law_pool_here", "_law_deep"] (defScope s__law_form) := ⟨rfl, rfl, rfl, by decide +kernel, rfl, by decide +kernel, by decide +kernel⟩
def d__law_form : He5.DefA := ⟨fun K => He.ga K "_law_form", "_law_form", "_law_form", defArgs s__law_form, defBody s__law_form, defScope s__law_form, [], []⟩
abbrev s__law_form_text : Stmt := topS 29
theorem sc__law_form_text : FnScope ["_law_form_here", "_law_word", "_law_inner"] ["_law_form_here"] (defScope s__law_form_text) := ⟨rfl, rfl, rfl, by decide +kernel, rfl, by decide +kernel, by decide +kernel⟩
def d__law_form_text : He5.DefA := ⟨fun K => He.ga K "_law_form_text", "_law_form_text", "_law_form_text", defArgs s__law_form_text, defBody s__law_form_text, defScope s__law_form_text, [], []⟩
abbrev s__law_one_right : Stmt := topS 30
theorem sc__law_one_right : FnScope ["_law_row", "_law_made"] ["_law_row"] (defScope s__law_one_right) := ⟨rfl, rfl, rfl, by decide +kernel, rfl, by decide +kernel, by decide +kernel⟩
def d__law_one_right : He5.DefA := ⟨fun K => He.ga K "_law_one_right", "_law_one_right", "_law_one_right", defArgs s__law_one_right, defBody s__law_one_right, defScope s__law_one_right, [], []⟩
abbrev s__law_right : Stmt := topS 31
theorem sc__law_right : FnScope ["_law_pool_here", "_law_seen", "_law_first", "_law_made", "_law_second", "_law_stranger", "_law_turn", "_law_row"] ["_law_pool_here"] (defScope s__law_right) := ⟨rfl, rfl, rfl, by decide +kernel, rfl, by decide +kernel, by decide +kernel⟩
def d__law_right : He5.DefA := ⟨fun K => He.ga K "_law_right", "_law_right", "_law_right", defArgs s__law_right, defBody s__law_right, defScope s__law_right, [], []⟩
abbrev s__law_type_right : Stmt := topS 32
theorem sc__law_type_right : FnScope ["_law_made", "_law_form_here", "_law_turn", "_law_fields", "_law_inner", "_law_row", "_law_k"] ["_law_made", "_law_form_here"] (defScope s__law_type_right) := ⟨rfl, rfl, rfl, by decide +kernel, rfl, by decide +kernel, by decide +kernel⟩
def d__law_type_right : He5.DefA := ⟨fun K => He.ga K "_law_type_right", "_law_type_right", "_law_type_right", defArgs s__law_type_right, defBody s__law_type_right, defScope s__law_type_right, [], []⟩
abbrev s__law_right_of_parts : Stmt := topS 33
theorem sc__law_right_of_parts : FnScope ["_law_pool_here", "_law_turn", "_law_form_here"] ["_law_pool_here"] (defScope s__law_right_of_parts) := ⟨rfl, rfl, rfl, by decide +kernel, rfl, by decide +kernel, by decide +kernel⟩
def d__law_right_of_parts : He5.DefA := ⟨fun K => He.ga K "_law_right_of_parts", "_law_right_of_parts", "_law_right_of_parts", defArgs s__law_right_of_parts, defBody s__law_right_of_parts, defScope s__law_right_of_parts, [], []⟩
abbrev s_law : Stmt := topS 34
theorem sc_law : FnScope ["_law_script", "_law_some", "_law_words_here", "_law_k", "_law_row", "_law_word"] ["_law_script"] (defScope s_law) := ⟨rfl, rfl, rfl, by decide +kernel, rfl, by decide +kernel, by decide +kernel⟩
def d_law : He5.DefA := ⟨fun K => He.ga K "law", "law", "law", defArgs s_law, defBody s_law, defScope s_law, [], []⟩
abbrev s_Type___init__ : Stmt := clsS (topS 22) 0
theorem sc_Type___init__ : FnScope ["self", "form"] ["self", "form"] (defScope s_Type___init__) := ⟨rfl, rfl, rfl, by decide +kernel, rfl, by decide +kernel, by decide +kernel⟩
def d_Type___init__ : He5.DefA := ⟨fun K => He.ma K (He.ga K "Type") "__init__", "__init__", "Type.__init__", defArgs s_Type___init__, defBody s_Type___init__, defScope s_Type___init__, [], []⟩
abbrev s_Type_read : Stmt := clsS (topS 22) 1
theorem sc_Type_read : FnScope ["cls", "text", "found"] ["cls", "text"] (defScope s_Type_read) := ⟨rfl, rfl, rfl, by decide +kernel, rfl, by decide +kernel, by decide +kernel⟩
def d_Type_read : He5.DefA := ⟨fun K => He5.wf K (He.ga K "Type") "classmethod" "read", "read", "Type.read", defArgs s_Type_read, defBody s_Type_read, defScope s_Type_read, [], []⟩
abbrev s_Type_kind : Stmt := clsS (topS 22) 2
theorem sc_Type_kind : FnScope ["self"] ["self"] (defScope s_Type_kind) := ⟨rfl, rfl, rfl, by decide +kernel, rfl, by decide +kernel, by decide +kernel⟩
def d_Type_kind : He5.DefA := ⟨fun K => He5.wf K (He.ga K "Type") "property" "kind", "kind", "Type.kind", defArgs s_Type_kind, defBody s_Type_kind, defScope s_Type_kind, [], []⟩
abbrev s_Type_inner : Stmt := clsS (topS 22) 3
theorem sc_Type_inner : FnScope ["self"] ["self"] (defScope s_Type_inner) := ⟨rfl, rfl, rfl, by decide +kernel, rfl, by decide +kernel, by decide +kernel⟩
def d_Type_inner : He5.DefA := ⟨fun K => He5.wf K (He.ga K "Type") "property" "inner", "inner", "Type.inner", defArgs s_Type_inner, defBody s_Type_inner, defScope s_Type_inner, [], []⟩
abbrev s_Type_key : Stmt := clsS (topS 22) 4
theorem sc_Type_key : FnScope ["self"] ["self"] (defScope s_Type_key) := ⟨rfl, rfl, rfl, by decide +kernel, rfl, by decide +kernel, by decide +kernel⟩
def d_Type_key : He5.DefA := ⟨fun K => He5.wf K (He.ga K "Type") "property" "key", "key", "Type.key", defArgs s_Type_key, defBody s_Type_key, defScope s_Type_key, [], []⟩
abbrev s_Type_fields : Stmt := clsS (topS 22) 5
theorem sc_Type_fields : FnScope ["self", "name", "inner"] ["self"] (defScope s_Type_fields) := ⟨rfl, rfl, rfl, by decide +kernel, rfl, by decide +kernel, by decide +kernel⟩
def d_Type_fields : He5.DefA := ⟨fun K => He5.wf K (He.ga K "Type") "property" "fields", "fields", "Type.fields", defArgs s_Type_fields, defBody s_Type_fields, defScope s_Type_fields, [], []⟩
abbrev s_Type___eq__ : Stmt := clsS (topS 22) 6
theorem sc_Type___eq__ : FnScope ["self", "other"] ["self", "other"] (defScope s_Type___eq__) := ⟨rfl, rfl, rfl, by decide +kernel, rfl, by decide +kernel, by decide +kernel⟩
def d_Type___eq__ : He5.DefA := ⟨fun K => He.ma K (He.ga K "Type") "__eq__", "__eq__", "Type.__eq__", defArgs s_Type___eq__, defBody s_Type___eq__, defScope s_Type___eq__, [], []⟩
abbrev s_Type___str__ : Stmt := clsS (topS 22) 7
theorem sc_Type___str__ : FnScope ["self"] ["self"] (defScope s_Type___str__) := ⟨rfl, rfl, rfl, by decide +kernel, rfl, by decide +kernel, by decide +kernel⟩
def d_Type___str__ : He5.DefA := ⟨fun K => He.ma K (He.ga K "Type") "__str__", "__str__", "Type.__str__", defArgs s_Type___str__, defBody s_Type___str__, defScope s_Type___str__, [], []⟩
abbrev s_Type___repr__ : Stmt := clsS (topS 22) 8
theorem sc_Type___repr__ : FnScope ["self"] ["self"] (defScope s_Type___repr__) := ⟨rfl, rfl, rfl, by decide +kernel, rfl, by decide +kernel, by decide +kernel⟩
def d_Type___repr__ : He5.DefA := ⟨fun K => He.ma K (He.ga K "Type") "__repr__", "__repr__", "Type.__repr__", defArgs s_Type___repr__, defBody s_Type___repr__, defScope s_Type___repr__, [], []⟩
abbrev s_Type___contains__ : Stmt := clsS (topS 22) 9
theorem sc_Type___contains__ : FnScope ["self", "value"] ["self", "value"] (defScope s_Type___contains__) := ⟨rfl, rfl, rfl, by decide +kernel, rfl, by decide +kernel, by decide +kernel⟩
def d_Type___contains__ : He5.DefA := ⟨fun K => He.ma K (He.ga K "Type") "__contains__", "__contains__", "Type.__contains__", defArgs s_Type___contains__, defBody s_Type___contains__, defScope s_Type___contains__, [], []⟩
abbrev s_Type_trouble : Stmt := clsS (topS 22) 10
theorem sc_Type_trouble : FnScope ["self", "value"] ["self", "value"] (defScope s_Type_trouble) := ⟨rfl, rfl, rfl, by decide +kernel, rfl, by decide +kernel, by decide +kernel⟩
def d_Type_trouble : He5.DefA := ⟨fun K => He.ma K (He.ga K "Type") "trouble", "trouble", "Type.trouble", defArgs s_Type_trouble, defBody s_Type_trouble, defScope s_Type_trouble, [], []⟩
structure Top (K : PySem.W.Frag) (mg : Str → Option Value) where
  sys : SysD K
  fd_is_whole : FuncData
  F_is_whole : FunD K "is_whole" "is_whole" (defArgs s_is_whole) (defBody s_is_whole) (defScope s_is_whole) [] [] (He.ga K "is_whole") fd_is_whole
  g_is_whole : mg "is_whole" = some (.ref (He.ga K "is_whole"))
  fd_is_name : FuncData
  F_is_name : FunD K "is_name" "is_name" (defArgs s_is_name) (defBody s_is_name) (defScope s_is_name) [] [] (He.ga K "is_name") fd_is_name
  g_is_name : mg "is_name" = some (.ref (He.ga K "is_name"))
  fd_name_from : FuncData
  F_name_from : FunD K "name_from" "name_from" (defArgs s_name_from) (defBody s_name_from) (defScope s_name_from) [] [] (He.ga K "name_from") fd_name_from
  g_name_from : mg "name_from" = some (.ref (He.ga K "name_from"))
  fd_read_fields : FuncData
  F_read_fields : FunD K "read_fields" "read_fields" (defArgs s_read_fields) (defBody s_read_fields) (defScope s_read_fields) [] [] (He.ga K "read_fields") fd_read_fields
  g_read_fields : mg "read_fields" = some (.ref (He.ga K "read_fields"))
  fd_key_fits : FuncData
  F_key_fits : FunD K "key_fits" "key_fits" (defArgs s_key_fits) (defBody s_key_fits) (defScope s_key_fits) [] [] (He.ga K "key_fits") fd_key_fits
  g_key_fits : mg "key_fits" = some (.ref (He.ga K "key_fits"))
  fd_read_list : FuncData
  F_read_list : FunD K "read_list" "read_list" (defArgs s_read_list) (defBody s_read_list) (defScope s_read_list) [] [] (He.ga K "read_list") fd_read_list
  g_read_list : mg "read_list" = some (.ref (He.ga K "read_list"))
  fd_read_bare : FuncData
  F_read_bare : FunD K "read_bare" "read_bare" (defArgs s_read_bare) (defBody s_read_bare) (defScope s_read_bare) [] [] (He.ga K "read_bare") fd_read_bare
  g_read_bare : mg "read_bare" = some (.ref (He.ga K "read_bare"))
  fd_read_form : FuncData
  F_read_form : FunD K "read_form" "read_form" (defArgs s_read_form) (defBody s_read_form) (defScope s_read_form) [] [] (He.ga K "read_form") fd_read_form
  g_read_form : mg "read_form" = some (.ref (He.ga K "read_form"))
  fd_form_text : FuncData
  F_form_text : FunD K "form_text" "form_text" (defArgs s_form_text) (defBody s_form_text) (defScope s_form_text) [] [] (He.ga K "form_text") fd_form_text
  g_form_text : mg "form_text" = some (.ref (He.ga K "form_text"))
  fd_fits_simple : FuncData
  F_fits_simple : FunD K "fits_simple" "fits_simple" (defArgs s_fits_simple) (defBody s_fits_simple) (defScope s_fits_simple) [] [] (He.ga K "fits_simple") fd_fits_simple
  g_fits_simple : mg "fits_simple" = some (.ref (He.ga K "fits_simple"))
  fd_list_trouble : FuncData
  F_list_trouble : FunD K "list_trouble" "list_trouble" (defArgs s_list_trouble) (defBody s_list_trouble) (defScope s_list_trouble) [] [] (He.ga K "list_trouble") fd_list_trouble
  g_list_trouble : mg "list_trouble" = some (.ref (He.ga K "list_trouble"))
  fd_record_trouble : FuncData
  F_record_trouble : FunD K "record_trouble" "record_trouble" (defArgs s_record_trouble) (defBody s_record_trouble) (defScope s_record_trouble) [] [] (He.ga K "record_trouble") fd_record_trouble
  g_record_trouble : mg "record_trouble" = some (.ref (He.ga K "record_trouble"))
  fd_trouble_at : FuncData
  F_trouble_at : FunD K "trouble_at" "trouble_at" (defArgs s_trouble_at) (defBody s_trouble_at) (defScope s_trouble_at) [] [] (He.ga K "trouble_at") fd_trouble_at
  g_trouble_at : mg "trouble_at" = some (.ref (He.ga K "trouble_at"))
  fd__law_cell : FuncData
  F__law_cell : FunD K "_law_cell" "_law_cell" (defArgs s__law_cell) (defBody s__law_cell) (defScope s__law_cell) [] [] (He.ga K "_law_cell") fd__law_cell
  g__law_cell : mg "_law_cell" = some (.ref (He.ga K "_law_cell"))
  fd__law_pool : FuncData
  F__law_pool : FunD K "_law_pool" "_law_pool" (defArgs s__law_pool) (defBody s__law_pool) (defScope s__law_pool) [] [] (He.ga K "_law_pool") fd__law_pool
  g__law_pool : mg "_law_pool" = some (.ref (He.ga K "_law_pool"))
  fd__law_draw : FuncData
  F__law_draw : FunD K "_law_draw" "_law_draw" (defArgs s__law_draw) (defBody s__law_draw) (defScope s__law_draw) [] [] (He.ga K "_law_draw") fd__law_draw
  g__law_draw : mg "_law_draw" = some (.ref (He.ga K "_law_draw"))
  fd__law_words : FuncData
  F__law_words : FunD K "_law_words" "_law_words" (defArgs s__law_words) (defBody s__law_words) (defScope s__law_words) [] [] (He.ga K "_law_words") fd__law_words
  g__law_words : mg "_law_words" = some (.ref (He.ga K "_law_words"))
  fd__law_form : FuncData
  F__law_form : FunD K "_law_form" "_law_form" (defArgs s__law_form) (defBody s__law_form) (defScope s__law_form) [] [] (He.ga K "_law_form") fd__law_form
  g__law_form : mg "_law_form" = some (.ref (He.ga K "_law_form"))
  fd__law_form_text : FuncData
  F__law_form_text : FunD K "_law_form_text" "_law_form_text" (defArgs s__law_form_text) (defBody s__law_form_text) (defScope s__law_form_text) [] [] (He.ga K "_law_form_text") fd__law_form_text
  g__law_form_text : mg "_law_form_text" = some (.ref (He.ga K "_law_form_text"))
  fd__law_one_right : FuncData
  F__law_one_right : FunD K "_law_one_right" "_law_one_right" (defArgs s__law_one_right) (defBody s__law_one_right) (defScope s__law_one_right) [] [] (He.ga K "_law_one_right") fd__law_one_right
  g__law_one_right : mg "_law_one_right" = some (.ref (He.ga K "_law_one_right"))
  fd__law_right : FuncData
  F__law_right : FunD K "_law_right" "_law_right" (defArgs s__law_right) (defBody s__law_right) (defScope s__law_right) [] [] (He.ga K "_law_right") fd__law_right
  g__law_right : mg "_law_right" = some (.ref (He.ga K "_law_right"))
  fd__law_type_right : FuncData
  F__law_type_right : FunD K "_law_type_right" "_law_type_right" (defArgs s__law_type_right) (defBody s__law_type_right) (defScope s__law_type_right) [] [] (He.ga K "_law_type_right") fd__law_type_right
  g__law_type_right : mg "_law_type_right" = some (.ref (He.ga K "_law_type_right"))
  fd__law_right_of_parts : FuncData
  F__law_right_of_parts : FunD K "_law_right_of_parts" "_law_right_of_parts" (defArgs s__law_right_of_parts) (defBody s__law_right_of_parts) (defScope s__law_right_of_parts) [] [] (He.ga K "_law_right_of_parts") fd__law_right_of_parts
  g__law_right_of_parts : mg "_law_right_of_parts" = some (.ref (He.ga K "_law_right_of_parts"))
  fd_law : FuncData
  F_law : FunD K "law" "law" (defArgs s_law) (defBody s_law) (defScope s_law) [] [] (He.ga K "law") fd_law
  g_law : mg "law" = some (.ref (He.ga K "law"))
  fd_Type___init__ : FuncData
  F_Type___init__ : FunD K "__init__" "Type.__init__" (defArgs s_Type___init__) (defBody s_Type___init__) (defScope s_Type___init__) [] [] (He.ma K (He.ga K "Type") "__init__") fd_Type___init__
  fd_Type_read : FuncData
  F_Type_read : FunD K "read" "Type.read" (defArgs s_Type_read) (defBody s_Type_read) (defScope s_Type_read) [] [] (He5.wf K (He.ga K "Type") "classmethod" "read") fd_Type_read
  fd_Type_kind : FuncData
  F_Type_kind : FunD K "kind" "Type.kind" (defArgs s_Type_kind) (defBody s_Type_kind) (defScope s_Type_kind) [] [] (He5.wf K (He.ga K "Type") "property" "kind") fd_Type_kind
  fd_Type_inner : FuncData
  F_Type_inner : FunD K "inner" "Type.inner" (defArgs s_Type_inner) (defBody s_Type_inner) (defScope s_Type_inner) [] [] (He5.wf K (He.ga K "Type") "property" "inner") fd_Type_inner
  fd_Type_key : FuncData
  F_Type_key : FunD K "key" "Type.key" (defArgs s_Type_key) (defBody s_Type_key) (defScope s_Type_key) [] [] (He5.wf K (He.ga K "Type") "property" "key") fd_Type_key
  fd_Type_fields : FuncData
  F_Type_fields : FunD K "fields" "Type.fields" (defArgs s_Type_fields) (defBody s_Type_fields) (defScope s_Type_fields) [] [] (He5.wf K (He.ga K "Type") "property" "fields") fd_Type_fields
  fd_Type___eq__ : FuncData
  F_Type___eq__ : FunD K "__eq__" "Type.__eq__" (defArgs s_Type___eq__) (defBody s_Type___eq__) (defScope s_Type___eq__) [] [] (He.ma K (He.ga K "Type") "__eq__") fd_Type___eq__
  fd_Type___str__ : FuncData
  F_Type___str__ : FunD K "__str__" "Type.__str__" (defArgs s_Type___str__) (defBody s_Type___str__) (defScope s_Type___str__) [] [] (He.ma K (He.ga K "Type") "__str__") fd_Type___str__
  fd_Type___repr__ : FuncData
  F_Type___repr__ : FunD K "__repr__" "Type.__repr__" (defArgs s_Type___repr__) (defBody s_Type___repr__) (defScope s_Type___repr__) [] [] (He.ma K (He.ga K "Type") "__repr__") fd_Type___repr__
  fd_Type___contains__ : FuncData
  F_Type___contains__ : FunD K "__contains__" "Type.__contains__" (defArgs s_Type___contains__) (defBody s_Type___contains__) (defScope s_Type___contains__) [] [] (He.ma K (He.ga K "Type") "__contains__") fd_Type___contains__
  fd_Type_trouble : FuncData
  F_Type_trouble : FunD K "trouble" "Type.trouble" (defArgs s_Type_trouble) (defBody s_Type_trouble) (defScope s_Type_trouble) [] [] (He.ma K (He.ga K "Type") "trouble") fd_Type_trouble
  cls_Type : Cls K (He.ga K "Type")
  mk_Type : Mk K (He.ga K "Type") (He.ma K (He.ga K "Type") "__init__")
  cr_Type : ClX.CRead K (He.ga K "Type") (.type "type")
  na_Type_form : NoAttr K (He.ga K "Type") "form"
  cm_Type_read : ClX.CMet K (He.ga K "Type") (.type "type") "read" (He.ma K (He.ga K "Type") "read") (cmA K "Type" "read")
  me_Type_trouble : Meth K (He.ga K "Type") "trouble" (He.ma K (He.ga K "Type") "trouble")
  ci_Type_read : ClX.CInst K (He.ga K "Type") "read" (He.ma K (He.ga K "Type") "read") (cmA K "Type" "read")
  pr_Type_kind : PropOf K (He.ga K "Type") "kind" (He.ma K (He.ga K "Type") "kind") (He5.wf K (He.ga K "Type") "property" "kind")
  pr_Type_inner : PropOf K (He.ga K "Type") "inner" (He.ma K (He.ga K "Type") "inner") (He5.wf K (He.ga K "Type") "property" "inner")
  pr_Type_key : PropOf K (He.ga K "Type") "key" (He.ma K (He.ga K "Type") "key") (He5.wf K (He.ga K "Type") "property" "key")
  pr_Type_fields : PropOf K (He.ga K "Type") "fields" (He.ma K (He.ga K "Type") "fields") (He5.wf K (He.ga K "Type") "property" "fields")
  ow_Type___eq__ : OwnF K (He.ga K "Type") "__eq__" (He.ma K (He.ga K "Type") "__eq__")
  st_Type : StrT K (He.ga K "Type")
  nb_Type : NoBool K (He.ga K "Type")
  ne_Type : NeO K (He.ga K "Type")
  ow_Type___str__ : OwnF K (He.ga K "Type") "__str__" (He.ma K (He.ga K "Type") "__str__")
  ow_Type___repr__ : OwnF K (He.ga K "Type") "__repr__" (He.ma K (He.ga K "Type") "__repr__")
  ow_Type___contains__ : OwnF K (He.ga K "Type") "__contains__" (He.ma K (He.ga K "Type") "__contains__")
  t_MAX_ELEMENTS : Tok
  c_MAX_ELEMENTS : mg "MAX_ELEMENTS" = some (.int 60 t_MAX_ELEMENTS)
  t_MAX_LEVELS : Tok
  c_MAX_LEVELS : mg "MAX_LEVELS" = some (.int 6 t_MAX_LEVELS)
  t_LETTERS : Tok
  c_LETTERS : mg "LETTERS" = some (.str "abcdefghijklmnopqrstuvwxyz" t_LETTERS)
  g_SIMPLE : mg "SIMPLE" = some (.ref (He.ga K "SIMPLE"))
  q_SIMPLE : ∀ H, SqT K H (He.ga K "SIMPLE") [.str "text", .str "number", .str "flag"]
  g_ShapeError : mg "ShapeError" = some (.ref (He.ga K "ShapeError"))
  g_InvalidText : mg "InvalidText" = some (.ref (He.ga K "InvalidText"))
  g_Type : mg "Type" = some (.ref (He.ga K "Type"))
  n_ValueError : mg "ValueError" = none
  n_abs : mg "abs" = none
  n_all : mg "all" = none
  n_any : mg "any" = none
  n_bool : mg "bool" = none
  n_dict : mg "dict" = none
  n_divmod : mg "divmod" = none
  n_enumerate : mg "enumerate" = none
  n_int : mg "int" = none
  n_isinstance : mg "isinstance" = none
  n_len : mg "len" = none
  n_max : mg "max" = none
  n_min : mg "min" = none
  n_range : mg "range" = none
  n_repr : mg "repr" = none
  n_sorted : mg "sorted" = none
  n_str : mg "str" = none
  n_tuple : mg "tuple" = none
section
variable {K : PySem.W.Frag} {mg : Str → Option Value}
theorem b_is_whole (T : Top K mg) : Binds K T.fd_is_whole ["thing"] [] := T.F_is_whole.bindsN fun _ _ _ _ _ _ us hl => match us, hl with | [_], _ => rfl
theorem st_is_whole (v0 : V) : start ["thing"] [v0] = [some v0] := rfl
abbrev Ok_is_whole (P : Program) (w : World) (base : Heap) (T : Top K mg) (k : Nat) (sp : Sp) : Prop := FnOk P w K mg base CX0 k (He.ga K "is_whole") T.fd_is_whole ["thing"] sp
theorem b_is_name (T : Top K mg) : Binds K T.fd_is_name ["thing"] [] := T.F_is_name.bindsN fun _ _ _ _ _ _ us hl => match us, hl with | [_], _ => rfl
theorem st_is_name (v0 : V) : start ["thing", "letter"] [v0] = [some v0, none] := rfl
abbrev Ok_is_name (P : Program) (w : World) (base : Heap) (T : Top K mg) (k : Nat) (sp : Sp) : Prop := FnOk P w K mg base CX0 k (He.ga K "is_name") T.fd_is_name ["thing"] sp
theorem b_name_from (T : Top K mg) : Binds K T.fd_name_from ["text", "at"] [] := T.F_name_from.bindsN fun _ _ _ _ _ _ us hl => match us, hl with | [_, _], _ => rfl
theorem st_name_from (v0 v1 : V) : start ["text", "at", "end"] [v0, v1] = [some v0, some v1, none] := rfl
abbrev Ok_name_from (P : Program) (w : World) (base : Heap) (T : Top K mg) (k : Nat) (sp : Sp) : Prop := FnOk P w K mg base CX0 k (He.ga K "name_from") T.fd_name_from ["text", "at"] sp
theorem b_read_fields (T : Top K mg) : Binds K T.fd_read_fields ["text", "at", "level"] [] := T.F_read_fields.bindsN fun _ _ _ _ _ _ us hl => match us, hl with | [_, _, _], _ => rfl
theorem st_read_fields (v0 v1 v2 : V) : start ["text", "at", "level", "fields", "name", "found"] [v0, v1, v2] = [some v0, some v1, some v2, none, none, none] := rfl
abbrev Ok_read_fields (P : Program) (w : World) (base : Heap) (T : Top K mg) (k : Nat) (sp : Sp) : Prop := FnOk P w K mg base CX0 k (He.ga K "read_fields") T.fd_read_fields ["text", "at", "level"] sp
theorem b_key_fits (T : Top K mg) : Binds K T.fd_key_fits ["form", "key"] [] := T.F_key_fits.bindsN fun _ _ _ _ _ _ us hl => match us, hl with | [_, _], _ => rfl
theorem st_key_fits (v0 v1 : V) : start ["form", "key", "name", "inner"] [v0, v1] = [some v0, some v1, none, none] := rfl
abbrev Ok_key_fits (P : Program) (w : World) (base : Heap) (T : Top K mg) (k : Nat) (sp : Sp) : Prop := FnOk P w K mg base CX0 k (He.ga K "key_fits") T.fd_key_fits ["form", "key"] sp
theorem b_read_list (T : Top K mg) : Binds K T.fd_read_list ["text", "at", "level"] [] := T.F_read_list.bindsN fun _ _ _ _ _ _ us hl => match us, hl with | [_, _, _], _ => rfl
theorem st_read_list (v0 v1 v2 : V) : start ["text", "at", "level", "found", "inner", "key"] [v0, v1, v2] = [some v0, some v1, some v2, none, none, none] := rfl
abbrev Ok_read_list (P : Program) (w : World) (base : Heap) (T : Top K mg) (k : Nat) (sp : Sp) : Prop := FnOk P w K mg base CX0 k (He.ga K "read_list") T.fd_read_list ["text", "at", "level"] sp
theorem b_read_bare (T : Top K mg) : Binds K T.fd_read_bare ["text", "at", "level"] [] := T.F_read_bare.bindsN fun _ _ _ _ _ _ us hl => match us, hl with | [_, _, _], _ => rfl
theorem st_read_bare (v0 v1 v2 : V) : start ["text", "at", "level", "word"] [v0, v1, v2] = [some v0, some v1, some v2, none] := rfl
abbrev Ok_read_bare (P : Program) (w : World) (base : Heap) (T : Top K mg) (k : Nat) (sp : Sp) : Prop := FnOk P w K mg base CX0 k (He.ga K "read_bare") T.fd_read_bare ["text", "at", "level"] sp
theorem b_read_form (T : Top K mg) : Binds K T.fd_read_form ["text", "at", "level"] [] := T.F_read_form.bindsN fun _ _ _ _ _ _ us hl => match us, hl with | [_, _, _], _ => rfl
theorem st_read_form (v0 v1 v2 : V) : start ["text", "at", "level", "found"] [v0, v1, v2] = [some v0, some v1, some v2, none] := rfl
abbrev Ok_read_form (P : Program) (w : World) (base : Heap) (T : Top K mg) (k : Nat) (sp : Sp) : Prop := FnOk P w K mg base CX0 k (He.ga K "read_form") T.fd_read_form ["text", "at", "level"] sp
theorem b_form_text (T : Top K mg) : Binds K T.fd_form_text ["form"] [] := T.F_form_text.bindsN fun _ _ _ _ _ _ us hl => match us, hl with | [_], _ => rfl
theorem st_form_text (v0 : V) : start ["form", "name", "inner"] [v0] = [some v0, none, none] := rfl
abbrev Ok_form_text (P : Program) (w : World) (base : Heap) (T : Top K mg) (k : Nat) (sp : Sp) : Prop := FnOk P w K mg base CX0 k (He.ga K "form_text") T.fd_form_text ["form"] sp
theorem b_fits_simple (T : Top K mg) : Binds K T.fd_fits_simple ["form", "value"] [] := T.F_fits_simple.bindsN fun _ _ _ _ _ _ us hl => match us, hl with | [_, _], _ => rfl
theorem st_fits_simple (v0 v1 : V) : start ["form", "value"] [v0, v1] = [some v0, some v1] := rfl
abbrev Ok_fits_simple (P : Program) (w : World) (base : Heap) (T : Top K mg) (k : Nat) (sp : Sp) : Prop := FnOk P w K mg base CX0 k (He.ga K "fits_simple") T.fd_fits_simple ["form", "value"] sp
theorem b_list_trouble (T : Top K mg) : Binds K T.fd_list_trouble ["form", "value", "path"] [] := T.F_list_trouble.bindsN fun _ _ _ _ _ _ us hl => match us, hl with | [_, _, _], _ => rfl
theorem st_list_trouble (v0 v1 v2 : V) : start ["form", "value", "path", "keys", "index", "part", "trouble"] [v0, v1, v2] = [some v0, some v1, some v2, none, none, none, none] := rfl
abbrev Ok_list_trouble (P : Program) (w : World) (base : Heap) (T : Top K mg) (k : Nat) (sp : Sp) : Prop := FnOk P w K mg base CX0 k (He.ga K "list_trouble") T.fd_list_trouble ["form", "value", "path"] sp
theorem b_record_trouble (T : Top K mg) : Binds K T.fd_record_trouble ["form", "value", "path"] [] := T.F_record_trouble.bindsN fun _ _ _ _ _ _ us hl => match us, hl with | [_, _, _], _ => rfl
theorem st_record_trouble (v0 v1 v2 : V) : start ["form", "value", "path", "name", "inner", "names", "trouble"] [v0, v1, v2] = [some v0, some v1, some v2, none, none, none, none] := rfl
abbrev Ok_record_trouble (P : Program) (w : World) (base : Heap) (T : Top K mg) (k : Nat) (sp : Sp) : Prop := FnOk P w K mg base CX0 k (He.ga K "record_trouble") T.fd_record_trouble ["form", "value", "path"] sp
theorem b_trouble_at (T : Top K mg) : Binds K T.fd_trouble_at ["form", "value", "path"] [] := T.F_trouble_at.bindsN fun _ _ _ _ _ _ us hl => match us, hl with | [_, _, _], _ => rfl
theorem st_trouble_at (v0 v1 v2 : V) : start ["form", "value", "path"] [v0, v1, v2] = [some v0, some v1, some v2] := rfl
abbrev Ok_trouble_at (P : Program) (w : World) (base : Heap) (T : Top K mg) (k : Nat) (sp : Sp) : Prop := FnOk P w K mg base CX0 k (He.ga K "trouble_at") T.fd_trouble_at ["form", "value", "path"] sp
theorem b__law_cell (T : Top K mg) : Binds K T.fd__law_cell ["_law_script", "_law_k"] [] := T.F__law_cell.bindsN fun _ _ _ _ _ _ us hl => match us, hl with | [_, _], _ => rfl
theorem st__law_cell (v0 v1 : V) : start ["_law_script", "_law_k", "_law_state", "_law_cell_here"] [v0, v1] = [some v0, some v1, none, none] := rfl
abbrev Ok__law_cell (P : Program) (w : World) (base : Heap) (T : Top K mg) (k : Nat) (sp : Sp) : Prop := FnOk P w K mg base CX0 k (He.ga K "_law_cell") T.fd__law_cell ["_law_script", "_law_k"] sp
theorem b__law_pool (T : Top K mg) : Binds K T.fd__law_pool ["_law_cell_here"] [] := T.F__law_pool.bindsN fun _ _ _ _ _ _ us hl => match us, hl with | [_], _ => rfl
theorem st__law_pool (v0 : V) : start ["_law_cell_here", "_law_digits"] [v0] = [some v0, none] := rfl
abbrev Ok__law_pool (P : Program) (w : World) (base : Heap) (T : Top K mg) (k : Nat) (sp : Sp) : Prop := FnOk P w K mg base CX0 k (He.ga K "_law_pool") T.fd__law_pool ["_law_cell_here"] sp
theorem b__law_draw (T : Top K mg) : Binds K T.fd__law_draw ["_law_pool_here", "_law_many"] [] := T.F__law_draw.bindsN fun _ _ _ _ _ _ us hl => match us, hl with | [_, _], _ => rfl
theorem st__law_draw (v0 v1 : V) : start ["_law_pool_here", "_law_many", "_law_state", "_law_digit"] [v0, v1] = [some v0, some v1, none, none] := rfl
abbrev Ok__law_draw (P : Program) (w : World) (base : Heap) (T : Top K mg) (k : Nat) (sp : Sp) : Prop := FnOk P w K mg base CX0 k (He.ga K "_law_draw") T.fd__law_draw ["_law_pool_here", "_law_many"] sp
theorem b__law_words (T : Top K mg) : Binds K T.fd__law_words ["_law_pool_here", "_law_many"] [] := T.F__law_words.bindsN fun _ _ _ _ _ _ us hl => match us, hl with | [_, _], _ => rfl
theorem st__law_words (v0 v1 : V) : start ["_law_pool_here", "_law_many", "_law_letters", "_law_menu", "_law_way", "_law_begin", "_law_stem", "_law_at", "_law_found", "_law_k", "_law_word"] [v0, v1] = [some v0, some v1, none, none, none, none, none, none, none, none, none] := rfl
abbrev Ok__law_words (P : Program) (w : World) (base : Heap) (T : Top K mg) (k : Nat) (sp : Sp) : Prop := FnOk P w K mg base CX0 k (He.ga K "_law_words") T.fd__law_words ["_law_pool_here", "_law_many"] sp
theorem b__law_form (T : Top K mg) : Binds K T.fd__law_form ["_law_pool_here", "_law_deep"] [] := T.F__law_form.bindsN fun _ _ _ _ _ _ us hl => match us, hl with | [_, _], _ => rfl
theorem st__law_form (v0 v1 : V) : start ["_law_pool_here", "_law_deep", "_law_way", "_law_words_here", "_law_fields", "_law_key", "_law_inner", "_law_word"] [v0, v1] = [some v0, some v1, none, none, none, none, none, none] := rfl
abbrev Ok__law_form (P : Program) (w : World) (base : Heap) (T : Top K mg) (k : Nat) (sp : Sp) : Prop := FnOk P w K mg base CX0 k (He.ga K "_law_form") T.fd__law_form ["_law_pool_here", "_law_deep"] sp
theorem b__law_form_text (T : Top K mg) : Binds K T.fd__law_form_text ["_law_form_here"] [] := T.F__law_form_text.bindsN fun _ _ _ _ _ _ us hl => match us, hl with | [_], _ => rfl
theorem st__law_form_text (v0 : V) : start ["_law_form_here", "_law_word", "_law_inner"] [v0] = [some v0, none, none] := rfl
abbrev Ok__law_form_text (P : Program) (w : World) (base : Heap) (T : Top K mg) (k : Nat) (sp : Sp) : Prop := FnOk P w K mg base CX0 k (He.ga K "_law_form_text") T.fd__law_form_text ["_law_form_here"] sp
theorem b__law_one_right (T : Top K mg) : Binds K T.fd__law_one_right ["_law_row"] [] := T.F__law_one_right.bindsN fun _ _ _ _ _ _ us hl => match us, hl with | [_], _ => rfl
theorem st__law_one_right (v0 : V) : start ["_law_row", "_law_made"] [v0] = [some v0, none] := rfl
abbrev Ok__law_one_right (P : Program) (w : World) (base : Heap) (T : Top K mg) (k : Nat) (sp : Sp) : Prop := FnOk P w K mg base CX0 k (He.ga K "_law_one_right") T.fd__law_one_right ["_law_row"] sp
theorem b__law_right (T : Top K mg) : Binds K T.fd__law_right ["_law_pool_here"] [] := T.F__law_right.bindsN fun _ _ _ _ _ _ us hl => match us, hl with | [_], _ => rfl
theorem st__law_right (v0 : V) : start ["_law_pool_here", "_law_seen", "_law_first", "_law_made", "_law_second", "_law_stranger", "_law_turn", "_law_row"] [v0] = [some v0, none, none, none, none, none, none, none] := rfl
abbrev Ok__law_right (P : Program) (w : World) (base : Heap) (T : Top K mg) (k : Nat) (sp : Sp) : Prop := FnOk P w K mg base CX0 k (He.ga K "_law_right") T.fd__law_right ["_law_pool_here"] sp
theorem b__law_type_right (T : Top K mg) : Binds K T.fd__law_type_right ["_law_made", "_law_form_here"] [] := T.F__law_type_right.bindsN fun _ _ _ _ _ _ us hl => match us, hl with | [_, _], _ => rfl
theorem st__law_type_right (v0 v1 : V) : start ["_law_made", "_law_form_here", "_law_turn", "_law_fields", "_law_inner", "_law_row", "_law_k"] [v0, v1] = [some v0, some v1, none, none, none, none, none] := rfl
abbrev Ok__law_type_right (P : Program) (w : World) (base : Heap) (T : Top K mg) (k : Nat) (sp : Sp) : Prop := FnOk P w K mg base CX0 k (He.ga K "_law_type_right") T.fd__law_type_right ["_law_made", "_law_form_here"] sp
theorem b__law_right_of_parts (T : Top K mg) : Binds K T.fd__law_right_of_parts ["_law_pool_here"] [] := T.F__law_right_of_parts.bindsN fun _ _ _ _ _ _ us hl => match us, hl with | [_], _ => rfl
theorem st__law_right_of_parts (v0 : V) : start ["_law_pool_here", "_law_turn", "_law_form_here"] [v0] = [some v0, none, none] := rfl
abbrev Ok__law_right_of_parts (P : Program) (w : World) (base : Heap) (T : Top K mg) (k : Nat) (sp : Sp) : Prop := FnOk P w K mg base CX0 k (He.ga K "_law_right_of_parts") T.fd__law_right_of_parts ["_law_pool_here"] sp
theorem b_law (T : Top K mg) : Binds K T.fd_law ["_law_script"] [] := T.F_law.bindsN fun _ _ _ _ _ _ us hl => match us, hl with | [_], _ => rfl
theorem st_law (v0 : V) : start ["_law_script", "_law_some", "_law_words_here", "_law_k", "_law_row", "_law_word"] [v0] = [some v0, none, none, none, none, none] := rfl
abbrev Ok_law (P : Program) (w : World) (base : Heap) (T : Top K mg) (k : Nat) (sp : Sp) : Prop := FnOk P w K mg base CX0 k (He.ga K "law") T.fd_law ["_law_script"] sp
theorem b_Type___init__ (T : Top K mg) : Binds K T.fd_Type___init__ ["self", "form"] [] := T.F_Type___init__.bindsN fun _ _ _ _ _ _ us hl => match us, hl with | [_, _], _ => rfl
theorem st_Type___init__ (v0 v1 : V) : start ["self", "form"] [v0, v1] = [some v0, some v1] := rfl
abbrev Ok_Type___init__ (P : Program) (w : World) (base : Heap) (T : Top K mg) (k : Nat) (sp : Sp) : Prop := FnOk P w K mg base CX0 k (He.ma K (He.ga K "Type") "__init__") T.fd_Type___init__ ["self", "form"] sp
theorem b_Type_read (T : Top K mg) : Binds K T.fd_Type_read ["cls", "text"] [] := T.F_Type_read.bindsN fun _ _ _ _ _ _ us hl => match us, hl with | [_, _], _ => rfl
theorem st_Type_read (v0 v1 : V) : start ["cls", "text", "found"] [v0, v1] = [some v0, some v1, none] := rfl
abbrev Ok_Type_read (P : Program) (w : World) (base : Heap) (T : Top K mg) (k : Nat) (sp : Sp) : Prop := FnOk P w K mg base CX0 k (He5.wf K (He.ga K "Type") "classmethod" "read") T.fd_Type_read ["cls", "text"] sp
theorem b_Type_kind (T : Top K mg) : Binds K T.fd_Type_kind ["self"] [] := T.F_Type_kind.bindsN fun _ _ _ _ _ _ us hl => match us, hl with | [_], _ => rfl
theorem st_Type_kind (v0 : V) : start ["self"] [v0] = [some v0] := rfl
abbrev Ok_Type_kind (P : Program) (w : World) (base : Heap) (T : Top K mg) (k : Nat) (sp : Sp) : Prop := FnOk P w K mg base CX0 k (He5.wf K (He.ga K "Type") "property" "kind") T.fd_Type_kind ["self"] sp
theorem b_Type_inner (T : Top K mg) : Binds K T.fd_Type_inner ["self"] [] := T.F_Type_inner.bindsN fun _ _ _ _ _ _ us hl => match us, hl with | [_], _ => rfl
theorem st_Type_inner (v0 : V) : start ["self"] [v0] = [some v0] := rfl
abbrev Ok_Type_inner (P : Program) (w : World) (base : Heap) (T : Top K mg) (k : Nat) (sp : Sp) : Prop := FnOk P w K mg base CX0 k (He5.wf K (He.ga K "Type") "property" "inner") T.fd_Type_inner ["self"] sp
theorem b_Type_key (T : Top K mg) : Binds K T.fd_Type_key ["self"] [] := T.F_Type_key.bindsN fun _ _ _ _ _ _ us hl => match us, hl with | [_], _ => rfl
theorem st_Type_key (v0 : V) : start ["self"] [v0] = [some v0] := rfl
abbrev Ok_Type_key (P : Program) (w : World) (base : Heap) (T : Top K mg) (k : Nat) (sp : Sp) : Prop := FnOk P w K mg base CX0 k (He5.wf K (He.ga K "Type") "property" "key") T.fd_Type_key ["self"] sp
theorem b_Type_fields (T : Top K mg) : Binds K T.fd_Type_fields ["self"] [] := T.F_Type_fields.bindsN fun _ _ _ _ _ _ us hl => match us, hl with | [_], _ => rfl
theorem st_Type_fields (v0 : V) : start ["self", "name", "inner"] [v0] = [some v0, none, none] := rfl
abbrev Ok_Type_fields (P : Program) (w : World) (base : Heap) (T : Top K mg) (k : Nat) (sp : Sp) : Prop := FnOk P w K mg base CX0 k (He5.wf K (He.ga K "Type") "property" "fields") T.fd_Type_fields ["self"] sp
theorem b_Type___eq__ (T : Top K mg) : Binds K T.fd_Type___eq__ ["self", "other"] [] := T.F_Type___eq__.bindsN fun _ _ _ _ _ _ us hl => match us, hl with | [_, _], _ => rfl
theorem st_Type___eq__ (v0 v1 : V) : start ["self", "other"] [v0, v1] = [some v0, some v1] := rfl
abbrev Ok_Type___eq__ (P : Program) (w : World) (base : Heap) (T : Top K mg) (k : Nat) (sp : Sp) : Prop := FnOk P w K mg base CX0 k (He.ma K (He.ga K "Type") "__eq__") T.fd_Type___eq__ ["self", "other"] sp
theorem b_Type___str__ (T : Top K mg) : Binds K T.fd_Type___str__ ["self"] [] := T.F_Type___str__.bindsN fun _ _ _ _ _ _ us hl => match us, hl with | [_], _ => rfl
theorem st_Type___str__ (v0 : V) : start ["self"] [v0] = [some v0] := rfl
abbrev Ok_Type___str__ (P : Program) (w : World) (base : Heap) (T : Top K mg) (k : Nat) (sp : Sp) : Prop := FnOk P w K mg base CX0 k (He.ma K (He.ga K "Type") "__str__") T.fd_Type___str__ ["self"] sp
theorem b_Type___repr__ (T : Top K mg) : Binds K T.fd_Type___repr__ ["self"] [] := T.F_Type___repr__.bindsN fun _ _ _ _ _ _ us hl => match us, hl with | [_], _ => rfl
theorem st_Type___repr__ (v0 : V) : start ["self"] [v0] = [some v0] := rfl
abbrev Ok_Type___repr__ (P : Program) (w : World) (base : Heap) (T : Top K mg) (k : Nat) (sp : Sp) : Prop := FnOk P w K mg base CX0 k (He.ma K (He.ga K "Type") "__repr__") T.fd_Type___repr__ ["self"] sp
theorem b_Type___contains__ (T : Top K mg) : Binds K T.fd_Type___contains__ ["self", "value"] [] := T.F_Type___contains__.bindsN fun _ _ _ _ _ _ us hl => match us, hl with | [_, _], _ => rfl
theorem st_Type___contains__ (v0 v1 : V) : start ["self", "value"] [v0, v1] = [some v0, some v1] := rfl
abbrev Ok_Type___contains__ (P : Program) (w : World) (base : Heap) (T : Top K mg) (k : Nat) (sp : Sp) : Prop := FnOk P w K mg base CX0 k (He.ma K (He.ga K "Type") "__contains__") T.fd_Type___contains__ ["self", "value"] sp
theorem b_Type_trouble (T : Top K mg) : Binds K T.fd_Type_trouble ["self", "value"] [] := T.F_Type_trouble.bindsN fun _ _ _ _ _ _ us hl => match us, hl with | [_, _], _ => rfl
theorem st_Type_trouble (v0 v1 : V) : start ["self", "value"] [v0, v1] = [some v0, some v1] := rfl
abbrev Ok_Type_trouble (P : Program) (w : World) (base : Heap) (T : Top K mg) (k : Nat) (sp : Sp) : Prop := FnOk P w K mg base CX0 k (He.ma K (He.ga K "Type") "trouble") T.fd_Type_trouble ["self", "value"] sp
end
end Sk
namespace Sk
open PySem PySem.Spec PyProof.Rows L2
section
variable {P : Program} {w : World} {K : PySem.W.Frag} {mg : Str → Option Value} {base : Heap}
/-! ### _law_draw -/
def sp_draw : Sp := fun vs H Q _ => match vs with
  | [.ref a, .int m] => Pool H a ∧ 0 < m ∧ m < 1073741824 ∧ ∀ (i : Int) (H' : Hp), 0 ≤ i → i < m → Pool H' a → Keep a H H' → Q (.int i) H'
  | _ => False
theorem ok_draw (T : Top K mg) (k : Nat) : Ok__law_draw P w base T (k + 1) sp_draw := by
  refine T.F__law_draw.ok sc__law_draw (fun vs H Q E h => ?_) (fun cdv A outer s H vs Q E hr h => ⟨_, PSs.nox (pss_cons (ps_asg (pe_op (kplus K) (pe_ix (kget K) (vr 0) pe_int (fun _ _ => rfl)) pe_int) (pg_sub (vr 0) pe_int set_list))
      (pss_cons (ps_set (i := 2) sc__law_draw.nd rfl (by first | exact .inl rfl | exact .inr rfl) (pe_ix (kget K) (vr 0) pe_int (fun _ _ => rfl)))
      (pss_cons (ps_asg (pe_op op_modI (pe_op (kplus K) (pe_op (kplus K) (pe_op op_mulU (vr 2) (pe_op (kplus K) (pe_op op_modI (vr 2) pe_int) pe_int)) (pe_op op_mulU pe_int (pe_ix (kget K) (vr 0) pe_int (fun _ _ => rfl)))) pe_int) pe_int) (pg_sub (vr 0) pe_int set_list))
      (pss_cons (sif (tcmp op_gtI (pe_ix (kget K) (vr 0) pe_int (fun _ _ => rfl)) pe_int (nomark _)) (pss_cons (ps_asg (pe_callB call_dm (by rfl) T.n_divmod (by decide +kernel) (pa_cons (pe_ix (kget K) (vr 0) pe_int (fun _ _ => rfl)) (pa_cons (vr 1) pa_nil))) (gtup K 2 rfl (gs_cons (pg_sub (vr 0) pe_int set_list) (gs_cons (pg_name (i := 3) sc__law_draw.nd rfl (by first | exact .inl rfl | exact .inr rfl)) gs_nil))))
      (pss_one (ps_ret (vr 3)))) pss_nil)
      (pss_one (ps_ret (pe_op op_modI (pe_op op_divI (pe_ix (kget K) (vr 0) pe_int (fun _ _ => rfl)) pe_int) (vr 1)))))))), ?_⟩)
  · unfold sp_draw at h
    split at h
    · rfl
    · exact h.elim
  · unfold sp_draw at h
    split at h
    · obtain ⟨⟨s, d, n, hp, h0, h1, h2⟩, hm, hm2, q⟩ := h
      rename_i a m
      refine ⟨_, _, .inl (sqL_of hp), rfl, ?_⟩
      refine ⟨_, _, _, _, rfl, rfl, hp, rfl, ?_⟩
      refine ⟨_, _, .inl (sqL_of upd_same), rfl, ?_⟩
      refine ⟨by decide, .inl ⟨by omega, by omega⟩, _, _, .inl (sqL_of upd_same), rfl, .inl ⟨by decide, by decide⟩, by decide, _, _, _, _, rfl, rfl, upd_same, rfl, ?_⟩
      refine ⟨_, _, .inl (sqL_of upd_same), rfl, ?_⟩
      refine br2 (fun e => ?_) (fun e => ?_)
      · have e := of_decide_eq_true e
        refine ⟨_, _, .inl (sqL_of upd_same), rfl, ⟨hm, hm2⟩, fun p np => ?_⟩
        have npa := (upd_none np).1
        refine ⟨_, _, rfl, sqT_of upd_same, rfl, ?_⟩
        refine ⟨_, _, _, _, rfl, rfl, (upd_ne npa.symm).trans upd_same, rfl, ?_⟩
        refine q _ _ (Int.emod_nonneg _ (by omega)) (Int.emod_lt_of_pos _ hm) ⟨_, _, _, upd_same, Int.emod_nonneg _ (by decide), Int.emod_lt_of_pos _ (by decide), Int.ediv_nonneg h2 (by omega)⟩ ?_
        exact ((Keep.refl a H).upd.upd.trans (keep_of (same_new np))).upd
      · refine ⟨_, _, .inl (sqL_of upd_same), rfl, ⟨by decide, by decide⟩, hm, ?_⟩
        refine q _ _ (Int.emod_nonneg _ (by omega)) (Int.emod_lt_of_pos _ hm) ⟨_, _, _, upd_same, Int.emod_nonneg _ (by decide), Int.emod_lt_of_pos _ (by decide), h2⟩ ?_
        exact (Keep.refl a H).upd.upd
    · exact h.elim
/-! ### _law_cell, _law_pool -/
def sp_cell (K : PySem.W.Frag) : Sp := fun vs H Q _ => match vs with
  | [.ref a, .int k] => (∃ ns : List Int, SqL K H a (ns.map V.int)) ∧ 0 ≤ k ∧ k < 64 ∧ ∀ (i : Int) (H' : Hp), Same H H' → Q (.int i) H'
  | _ => False
theorem ok_cell (T : Top K mg) (k : Nat) : Ok__law_cell P w base T (k + 1) (sp_cell K) := by
  refine T.F__law_cell.ok sc__law_cell (fun vs H Q E h => ?_) (fun cdv A outer s H vs Q E hr h => ⟨_, PSs.nox (pss_cons (sif (tcmp op_ltI (vr 1) (pe_callB (klen K) (by rfl) T.n_len (by decide +kernel) (pa_cons (vr 0) pa_nil)) (nomark _)) (pss_one (ps_ret (pe_ix (kget K) (vr 0) (vr 1) (fun _ _ => rfl)))) pss_nil)
      (pss_cons (ps_set (i := 2) sc__law_cell.nd rfl (by first | exact .inl rfl | exact .inr rfl) (pe_op op_modI (pe_op op_mulU pe_int (pe_op (kplus K) (pe_op (kplus K) (pe_op op_mulU (vr 1) (vr 1)) (pe_op op_mulU pe_int (vr 1))) pe_int)) pe_int))
      (pss_cons (ps_for PassesOwn.never rfl (ilist K (pe_slice (kcut K) (vr 0) po_none (po_u pe_int))) (pg_name (i := 3) sc__law_cell.nd rfl (by first | exact .inl rfl | exact .inr rfl)) (pss_one (ps_set (i := 2) sc__law_cell.nd rfl (by first | exact .inl rfl | exact .inr rfl) (pe_op op_modI (pe_op (kplus K) (pe_op op_mulU (vr 2) pe_int) (vr 3)) pe_int))))
      (pss_one (ps_ret (vr 2)))))), ?_⟩)
  · unfold sp_cell at h
    split at h
    · rfl
    · exact h.elim
  · unfold sp_cell at h
    split at h
    · obtain ⟨⟨ns, hS⟩, h0, h1, q⟩ := h
      rename_i a m
      refine ⟨_, .inl hS, br2 (fun e => ?_) (fun e => ?_)⟩
      · have e := of_decide_eq_true e
        rw [List.length_map] at e
        have hl : m.toNat < ns.length := by omega
        refine ⟨_, .int ns[m.toNat], .inl hS, ?_, q _ _ (Same.refl H)⟩
        unfold atI ixN
        rw [if_pos h0, List.length_map, if_pos e]
        show (ns.map V.int)[m.toNat]? = _
        rw [List.getElem?_map, List.getElem?_eq_getElem hl]
        rfl
      · refine ⟨.inl ⟨by omega, by omega⟩, .inl ⟨by decide, by decide⟩, .inl ⟨by decide, by decide⟩, by decide, ?_⟩
        refine .inl ⟨_, _, rfl, hS, fun p np => ?_⟩
        refine ⟨p, rfl, ⟨_, sqL_of upd_same⟩, for_list (xs := cutV (ns.map V.int) none (some 3)) (fun i σ H' => H' = upd H p (.lst (cutV (ns.map V.int) none (some 3))) ∧ ∃ (st : Int) (y : Option V), σ = [some (.ref a), some (.int m), some (.int st), y]) ⟨rfl, _, _, rfl⟩
          (fun i σ H' _ hv => ?_) (fun i x σ H' hx hv => ?_) (fun σ H' hv => ?_)⟩
        · rw [hv.1]
          exact sqL_of upd_same
        · obtain ⟨rfl, st, y, rfl⟩ := hv
          have hx' : ∃ n : Int, x = .int n := by
            have hm : x ∈ ns.map V.int := List.drop_subset _ _ (List.take_subset _ _ (List.mem_of_getElem? hx))
            obtain ⟨n, _, e⟩ := List.mem_map.mp hm
            exact ⟨n, e.symm⟩
          obtain ⟨n, rfl⟩ := hx'
          exact ⟨.inr ⟨by decide, by decide⟩, by decide, rfl, _, _, rfl⟩
        · obtain ⟨rfl, st, y, rfl⟩ := hv
          exact q _ _ (same_new np)
    · exact h.elim
def sp_pool : Sp := fun vs H Q _ => match vs with
  | [.int k] => ∀ (a : Addr) (H' : Hp), Same H H' → H a = none → Pool H' a → Q (.ref a) H'
  | _ => False
theorem ok_pool (T : Top K mg) (k : Nat) : Ok__law_pool P w base T (k + 1) sp_pool := by
  refine T.F__law_pool.ok sc__law_pool (fun vs H Q E h => ?_) (fun cdv A outer s H vs Q E hr h => ⟨_, PSs.nox (pss_cons (ps_set (i := 1) sc__law_pool.nd rfl (by first | exact .inl rfl | exact .inr rfl) pe_int)
      (pss_cons (sif (PW.pt (wor (tcmp op_ltI (vr 0) pe_int (nomark _)) (pw_or1 (tcmp op_geI (vr 0) (pe_op op_powI pe_int pe_int) (nomark _))))) (pss_one (ps_set (i := 1) sc__law_pool.nd rfl (by first | exact .inl rfl | exact .inr rfl) (pe_callB call_absU (by rfl) T.n_abs (by decide +kernel) (pa_cons (vr 0) pa_nil)))) pss_nil)
      (pss_one (ps_ret (pe_lst (pa_cons (pe_op op_modI (vr 0) pe_int) (pa_cons (vr 1) (pa_cons pe_int pa_nil)))))))), ?_⟩)
  · unfold sp_pool at h
    split at h
    · rfl
    · exact h.elim
  · unfold sp_pool at h
    split at h
    · rename_i m
      have fin : ∀ d : Int, 0 ≤ d → (([V.int (m % 1000000007), .int d, .int 0].length ≤ sizeLine) ∧ ∀ p, H p = none → Q (.ref p) (upd H p (.lst [.int (m % 1000000007), .int d, .int 0]))) := fun d hd =>
        ⟨by show 3 ≤ sizeLine; decide, fun p np => h p _ (same_new np) np ⟨_, _, _, upd_same, Int.emod_nonneg _ (by decide), Int.emod_lt_of_pos _ (by decide), hd⟩⟩
      refine br2 (fun e => ?_) (fun e => ?_)
      · refine ⟨by decide, fin _ ?_⟩
        have e := of_decide_eq_true e
        rw [if_pos e]
        omega
      · refine ⟨⟨by decide, by decide, by decide⟩, br2 (fun e2 => ?_) (fun e2 => ?_)⟩
        · refine ⟨by decide, fin _ ?_⟩
          split <;> omega
        · exact ⟨by decide, fin _ (by decide)⟩
    · exact h.elim
end
end Sk
namespace Sk
open PySem PySem.Spec PyProof.Rows L2
section
variable {P : Program} {w : World} {K : PySem.W.Frag} {mg : Str → Option Value} {base : Heap}
/-! ### name_from -/
def sp_nmfrom : Sp := fun vs H Q _ => match vs with
  | [.str z, .int i] => ∃ n cs, i = ((n : Nat) : Int) ∧ TxtAt z n cs ∧ Q (.str (mkS (nameAt cs))) H
  | _ => False
theorem ok_nmfrom (T : Top K mg) (k : Nat) : Ok_name_from P w base T (k + 1) sp_nmfrom := by
  refine T.F_name_from.ok sc_name_from (fun vs H Q E h => ?_) (fun cdv A outer s H vs Q E hr h => ⟨_, PSs.nox (pss_cons (ps_set (i := 2) sc_name_from.nd rfl (by first | exact .inl rfl | exact .inr rfl) (vr 1))
      (pss_cons (ps_while PassesOwn.never (upt (PW.pt (wand (tcmp op_ltI (vr 2) (pe_callB (klen K) (by rfl) T.n_len (by decide +kernel) (pa_cons (vr 0) pa_nil)) (nomark _)) (pw_and1 (tcmp (kin K) (pe_ix (kget K) (vr 0) (vr 2) (fun _ _ => rfl)) (pe_glob (v := .str ("abcdefghijklmnopqrstuvwxyz")) (by rfl) T.c_LETTERS ⟨_, rfl⟩) (by rfl)))))) (pss_one (ps_aug (i := 2) sc_name_from.nd rfl (by first | exact .inl rfl | exact .inr rfl) pe_int ip_add)))
      (pss_one (ps_ret (pe_slice (kcut K) (vr 0) (po_u (vr 1)) (po_u (vr 2))))))), ?_⟩)
  · unfold sp_nmfrom at h
    split at h
    · rfl
    · exact h.elim
  · unfold sp_nmfrom at h
    split at h
    · obtain ⟨n, cs, rfl, t, q⟩ := h
      rename_i z
      rw [st_name_from]
      have tl := tw_len (p := low) cs
      have a := t.cs
      have b := t.le
      refine while_up (fun σ H' => H' = H ∧ ∃ j : Nat, j ≤ (cs.takeWhile low).length ∧ σ = [some (.str z), some (.int n), some (.int ((n + j : Nat) : Int))]) (fun σ _ => match σ with | [_, _, some (.int e)] => z.length - e.toNat | _ => 0) ⟨rfl, 0, Nat.zero_le _, rfl⟩ (fun σ H' hv => ?_)
      obtain ⟨rfl, j, hj, rfl⟩ := hv
      have fin : j = (cs.takeWhile low).length → Q (.str (cutS z (some (n : Int)) (some ((n + j : Nat) : Int)))) H' := fun e => by
        have c := t.cut 0 j
        rw [Nat.add_zero] at c
        rw [c, List.drop_zero, Nat.sub_zero, e, tw_take]
        exact q
      refine ⟨t.size, br2 (fun e => ?_) (fun e => ?_)⟩
      · have e := of_decide_eq_true e
        have hl : j < cs.length := by omega
        have hc := List.getElem?_eq_getElem hl
        refine ⟨t.size, _, t.get hc, br2 (fun e2 => ?_) (fun e2 => ?_)⟩
        · have e2 : subS ⟨#[cs[j]]⟩ "abcdefghijklmnopqrstuvwxyz" = true := e2
          rw [subS_one, low_mem] at e2
          have g := tw_go hj hc e2
          refine ⟨_, rfl, _, _, rfl, rfl, ⟨rfl, j + 1, g, ?_⟩, ?_⟩
          · show [_, _, some (V.int (((n + j : Nat) : Int) + 1))] = _
            rw [show (((n + j : Nat) : Int) + 1) = ((n + (j + 1) : Nat) : Int) by omega]
          · show z.length - (((n + j : Nat) : Int) + 1).toNat < z.length - ((n + j : Nat) : Int).toNat
            omega
        · have e2 : subS ⟨#[cs[j]]⟩ "abcdefghijklmnopqrstuvwxyz" = false := e2
          rw [subS_one, low_mem] at e2
          exact ⟨t.size, fin (tw_stop hj fun c h => by rw [hc] at h; cases h; exact e2)⟩
      · have e := of_decide_eq_false e
        exact ⟨t.size, fin (tw_stop hj fun c h => by have := (List.getElem?_eq_some_iff.mp h).1; omega)⟩
    · exact h.elim
/-! ### is_name, of letters -/
def sp_isnm : Sp := fun vs H Q _ => match vs with
  | [.str z] => z.length ≤ 100000 ∧ (∀ c ∈ z.cps.toList, low c = true) ∧ ∀ H', Same H H' → Q (.bl (nmOk z.cps.toList)) H'
  | _ => False
theorem ok_isnm (T : Top K mg) (k : Nat) : Ok_is_name P w base T (k + 1) sp_isnm := by
  refine T.F_is_name.ok sc_is_name (fun vs H Q E h => ?_) (fun cdv A outer s H vs Q E hr h => ⟨_, PSs.nox (pss_one (ps_ret (vand (pe_callB (kis K) (by rfl) T.n_isinstance (by decide +kernel) (pa_cons (vr 0) (pa_cons (pe_bltn (v := .ty "str") (by rfl) T.n_str (by decide +kernel) rfl) pa_nil))) (vand (vchain op_ltI op_ltI pe_int (pe_callB (klen K) (by rfl) T.n_len (by decide +kernel) (pa_cons (vr 0) pa_nil)) pe_int) (pe_one (pe_callB (kall K rfl) (by rfl) T.n_all (by decide +kernel) (pa_cons (pe_lc (own := [("letter", 1)])  rfl sc_is_name.nd (pi_str (vr 0)) (blkOk_by (own := [("letter", 1)]) (N := ["thing", "letter"]) (sc := defScope s_is_name) (by decide +kernel)) (fun _ _ _ _ _ => (pg_name (i := 1) sc_is_name.nd rfl (by first | exact .inl rfl | exact .inr rfl))) (fun _ _ _ _ _ => pts_nil) (fun _ _ _ _ _ => up (pe_cmpR (kin K) (vr 1) (pe_glob (v := .str ("abcdefghijklmnopqrstuvwxyz")) (by rfl) T.c_LETTERS ⟨_, rfl⟩) (by rfl)))) pa_nil))))))), ?_⟩)
  · unfold sp_isnm at h
    split at h
    · rfl
    · exact h.elim
  · unfold sp_isnm at h
    split at h
    · obtain ⟨hz, hl, q⟩ := h
      rename_i z
      have l := len_list z
      have no : (Nat.ble 1 z.length && Nat.ble z.length 12) = false → nmOk z.cps.toList = false := fun e => by
        unfold nmOk
        rw [← l]
        exact e
      have yes : 1 ≤ z.length → z.length ≤ 12 → nmOk z.cps.toList = true := fun h1 h2 => by
        unfold nmOk
        rw [← l, Nat.ble_eq_true_of_le h1, Nat.ble_eq_true_of_le h2]
        rfl
      rw [st_is_name]
      refine ⟨_, _, .base (.str _), rfl, ?_⟩
      refine ⟨size_le hz, br2 (fun e => ?_) (fun e => ?_)⟩
      · have e := of_decide_eq_true e
        refine br2 (fun e2 => ?_) (fun e2 => ?_)
        · have e2 := of_decide_eq_true e2
          refine ⟨z, rfl, fun D nD => ?_⟩
          refine lcw walk_str fr_same (fun _ v _ => v = .bl true) trivial nD (by have : z.cps.size = z.length := rfl; omega) gm_name (fun _ _ _ => trivial) (fun _ _ _ _ h _ => h) (fun i x H1 H1' hi _ s1 hy => ?_) (fun H1 ys _ s1 l1 e1 q1 => ?_)
          · obtain ⟨rfl, c, hc, rfl⟩ := hy
            refine ⟨rfl, trivial, Same.refl _, ?_⟩
            have hm : c ∈ z.cps.toList := by
              rw [← Array.getElem?_toList] at hc
              exact List.mem_of_getElem? hc
            show V.bl (subS ⟨#[c]⟩ _) = .bl true
            rw [subS_one, low_mem, hl c hm]
          · obtain ⟨bs, rfl, hb⟩ := bls_true q1
            refine ⟨_, bs, rfl, sqL_of e1, ?_⟩
            rw [hb, ← yes (by omega) (by omega)]
            exact q _ s1
        · have e2 := of_decide_eq_false e2
          have := q _ (Same.refl H)
          rw [no (by rw [show Nat.ble z.length 12 = false from Bool.eq_false_iff.mpr fun h => by have := Nat.le_of_ble_eq_true h; omega]; simp)] at this
          exact this
      · have e := of_decide_eq_false e
        have := q _ (Same.refl H)
        rw [no (by rw [show Nat.ble 1 z.length = false from Bool.eq_false_iff.mpr fun h => by have := Nat.le_of_ble_eq_true h; omega]; simp)] at this
        exact this
    · exact h.elim
end
end Sk
/-! Sk: the readers of types -/
namespace Sk
open PySem PySem.Spec PyProof.Rows L2
/-- the word of a form, and whether it can be a key's -/
theorem FmV.head {H : Hp} {g : V} {f : Fm} (h : FmV H g f) : ∃ a z r, g = .ref a ∧ H a = some (.tup (.str z :: r)) ∧ inV (.str z) [.str "text", .str "number"] = keyK f := by
  cases h with
  | text h => exact ⟨_, _, _, rfl, h, by decide +kernel⟩
  | number h => exact ⟨_, _, _, rfl, h, by decide +kernel⟩
  | flag h => exact ⟨_, _, _, rfl, h, by decide +kernel⟩
  | opt h _ => exact ⟨_, _, _, rfl, h, show inV (.str "optional") [.str "text", .str "number"] = false by decide +kernel⟩
  | list h _ => exact ⟨_, _, _, rfl, h, show inV (.str "list") [.str "text", .str "number"] = false by decide +kernel⟩
  | keyed h _ => exact ⟨_, _, _, rfl, h, show inV (.str "keyed") [.str "text", .str "number"] = false by decide +kernel⟩
  | rcd h _ _ => exact ⟨_, _, _, rfl, h, show inV (.str "record") [.str "text", .str "number"] = false by decide +kernel⟩
theorem lay_of' {H G : Hp} {q : Addr} {o : HO} (hG : upd H q o = G) (n : H q = none) : Same H G ∧ G q = some o ∧ H q = none := by
  subst hG
  exact ⟨same_new n, upd_same, n⟩
theorem bls_any {α : Type} {f : α → Bool} : ∀ {ds : List α} {ys : List V}, ys.length = ds.length → (∀ (i : Nat) (y : V), ys[i]? = some y → ∃ d, ds[i]? = some d ∧ y = .bl (f d)) → ∃ bs : List Bool, ys = bs.map V.bl ∧ bs.any id = ds.any f
  | [], [], _, _ => ⟨[], rfl, rfl⟩
  | [], _ :: _, h, _ => by cases h
  | _ :: _, [], h, _ => by cases h
  | d :: ds, y :: ys, l, h => by
    obtain ⟨d', e, rfl⟩ := h 0 y rfl
    have e : d = d' := by simpa using e
    subst e
    obtain ⟨bs, rfl, hb⟩ := bls_any (ds := ds) (ys := ys) (f := f) (by simpa using l) fun i z hz => h (i + 1) z (by simpa using hz)
    refine ⟨f d :: bs, rfl, ?_⟩
    show (f d || bs.any id) = _
    rw [hb]
    rfl
theorem at0' {α : Type} (x : α) (xs : List α) : atI (x :: xs) 0 = some x := by
  unfold atI ixN
  rw [if_pos (by decide), if_pos (by simp only [List.length_cons]; omega)]
  rfl
theorem mk_dec (a b : List Nat) : decide (V.str (mkS a) = V.str (mkS b)) = (a == b) := str_dec rfl (mkS b)
theorem gm_pair2 {K : PySem.W.Frag} {i j : Nat} : ∀ x σ H (q q' : L2.St → Hp → Prop), (∀ σ2 H2, q σ2 H2 → q' σ2 H2) → gTup K 2 (uCons (gName i) (uCons (gName j) uNil)) x σ H q → gTup K 2 (uCons (gName i) (uCons (gName j) uNil)) x σ H q' := by
  intro x σ H q q' h z
  obtain ⟨a, xs, e1, e2, e3, t⟩ := z
  refine ⟨a, xs, e1, e2, e3, ?_⟩
  match xs, e3 with
  | [x1, x2], _ => exact h _ _ t
section
variable {P : Program} {w : World} {K : PySem.W.Frag} {mg : Str → Option Value} {base : Heap}
def sp_kf : Sp := fun vs H Q _ => ∃ v k f, vs = [v, .str (mkS k)] ∧ FmV H v f ∧ (∀ fs, f = .rcd fs → fs.length ≤ 40000) ∧ ∀ H', Same H H' → Q (.bl (keyFits f k)) H'
theorem ok_kf (T : Top K mg) (k : Nat) : Ok_key_fits P w base T (k + 1) sp_kf := by
  refine T.F_key_fits.ok sc_key_fits (fun vs H Q E h => by obtain ⟨v, k, f, rfl, _⟩ := h; rfl) (fun cdv A outer s H vs Q E hr h => ⟨_, PSs.nox (pss_one (ps_ret (vand (pe_cmpR (ksame K hr.units) (pe_ix (kget K) (vr 0) pe_int (fun _ _ => rfl)) pe_str (nomark _)) (pe_one (pe_callB (kany K rfl) (by rfl) T.n_any (by decide +kernel) (pa_cons (pe_lc (own := [("name", 2), ("inner", 3)])  rfl sc_key_fits.nd (itup K (pe_ix (kget K) (vr 0) pe_int (fun _ _ => rfl))) (blkOk_by (own := [("name", 2), ("inner", 3)]) (N := ["form", "key", "name", "inner"]) (sc := defScope s_key_fits) (by decide +kernel)) (fun _ _ _ _ _ => (gtup K 2 rfl (gs_cons (pg_name (i := 2) sc_key_fits.nd rfl (by first | exact .inl rfl | exact .inr rfl)) (gs_cons (pg_name (i := 3) sc_key_fits.nd rfl (by first | exact .inl rfl | exact .inr rfl)) gs_nil)))) (fun _ _ _ _ _ => pts_nil) (fun _ _ _ _ _ => up (vand (pe_cmpR (ksame K hr.units) (vr 2) (vr 1) (nomark _)) (pe_one (pe_cmpR (kin K) (pe_ix (kget K) (vr 3) pe_int (fun _ _ => rfl)) (pe_tup (pa_cons pe_str (pa_cons pe_str pa_nil))) (by rfl)))))) pa_nil)))))), ?_⟩)
  obtain ⟨v, kk, f, rfl, hf, hl, q⟩ := h
  rw [st_key_fits]
  cases hf with
  | text h => exact ⟨_, _, .inr (sqT_of h), rfl, q _ (Same.refl H)⟩
  | number h => exact ⟨_, _, .inr (sqT_of h), rfl, q _ (Same.refl H)⟩
  | flag h => exact ⟨_, _, .inr (sqT_of h), rfl, q _ (Same.refl H)⟩
  | opt h _ => exact ⟨_, _, .inr (sqT_of h), rfl, q _ (Same.refl H)⟩
  | list h _ => exact ⟨_, _, .inr (sqT_of h), rfl, q _ (Same.refl H)⟩
  | keyed h _ => exact ⟨_, _, .inr (sqT_of h), rfl, q _ (Same.refl H)⟩
  | @rcd a r ps fs ha hr' hfs =>
    have hl := hl fs rfl
    have len := hfs.length
    refine ⟨_, _, .inr (sqT_of ha), rfl, _, _, .inr (sqT_of ha), rfl, r, rfl, ⟨_, sqT_of hr'⟩, fun D nD => ?_⟩
    refine lcw (walk_tup (xs := ps)) fr_same (fun i v _ => ∃ p, fs[i]? = some p ∧ v = .bl ((p.1 == kk) && keyK p.2)) trivial nD (by omega) gm_pair2 (fun H1 _ s1 => sqT_of (s1 _ _ hr')) (fun _ _ _ _ h _ => h) (fun i x H1 H1' hi _ s1 hy => ?_) (fun H1 ys _ s1 l1 e1 q1 => ?_)
    · obtain ⟨rfl, hx⟩ := hy
      obtain ⟨b, g, n, f, rfl, e2, h2, hg⟩ := hfs.at i x hx
      refine ⟨b, _, rfl, sqT_of (s1 _ _ h2), rfl, rfl, ?_⟩
      refine br2 (fun e => ?_) (fun e => ?_)
      · have e : decide (V.str (mkS n) = V.str (mkS kk)) = true := e
        rw [mk_dec] at e
        obtain ⟨a3, z3, r3, rfl, h3, k3⟩ := hg.head
        refine ⟨_, _, .inr (sqT_of (s1 _ _ h3)), at0' _ _, Nat.le_of_ble_eq_true rfl, fun t nt => ⟨_, .inr (sqT_of upd_same), rfl, rfl, trivial, same_new nt, _, e2, ?_⟩⟩
        show V.bl (inV (.str z3) [.str "text", .str "number"]) = _
        rw [k3, e, Bool.true_and]
      · have e : decide (V.str (mkS n) = V.str (mkS kk)) = false := e
        rw [mk_dec] at e
        refine ⟨trivial, Same.refl _, _, e2, ?_⟩
        rw [e, Bool.false_and]
    · obtain ⟨bs, rfl, hb⟩ := bls_any (f := fun p : List Nat × Fm => (p.1 == kk) && keyK p.2) (l1.trans len) q1
      refine ⟨_, bs, rfl, sqL_of e1, ?_⟩
      rw [hb]
      exact q _ s1
/-! ### read_form: n levels are left -/
def sp_rf (n : Nat) : Sp := fun vs H Q _ => ∃ z m cs, vs = [.str z, .int ((m : Nat) : Int), .int (6 - (n : Int))] ∧ TxtAt z m cs ∧ ∀ v H', Same H H' → ResF z H' v (rForm n cs) → Q v H'
def sp_rb (n : Nat) : Sp := fun vs H Q _ => ∃ z m cs, vs = [.str z, .int ((m : Nat) : Int), .int (6 - (n : Int))] ∧ TxtAt z m cs ∧ ∀ v H', Same H H' → ResF z H' v (rBare n cs) → Q v H'
def sp_rl (n : Nat) : Sp := fun vs H Q _ => ∃ z m cs, vs = [.str z, .int ((m : Nat) : Int), .int (6 - (n : Int))] ∧ TxtAt z m cs ∧ ∀ v H', Same H H' → ResF z H' v (rList (rForm n) cs) → Q v H'
def sp_rfl (n : Nat) : Sp := fun vs H Q _ => ∃ z m cs, vs = [.str z, .int ((m : Nat) : Int), .int (6 - (n : Int))] ∧ TxtAt z m cs ∧ ∀ v H', Same H H' → ResF z H' v ((rFlds (rForm n) (cs.length + 1) none cs).map fun p => (.rcd p.1, p.2)) → Q v H'
theorem ok_rform (T : Top K mg) (n k : Nat) (G_read_bare : Ok_read_bare P w base T k (sp_rb n)) : Ok_read_form P w base T (k + 1) (sp_rf n) := by
  refine T.F_read_form.ok sc_read_form (fun vs H Q E h => by obtain ⟨z, m, cs, rfl, _⟩ := h; rfl) (fun cdv A outer s H vs Q E hr h => ⟨_, PSs.nox (pss_cons (ps_set (i := 3) sc_read_form.nd rfl (by first | exact .inl rfl | exact .inr rfl) (pe_call G_read_bare (hr.mono (by omega)) (by rfl) T.g_read_bare T.F_read_bare.kp (b_read_bare T) .nil pass0 (pa_cons (vr 0) (pa_cons (vr 1) (pa_cons (vr 2) pa_nil)))))
      (pss_cons (sif (PW.pt (wand (tcmp op_notNo (vr 3) pe_non (nomark _)) (pw_and1 (tcmp (ksame K hr.units) (pe_slice (kcut K) (vr 0) (po_u (pe_ix (kget K) (vr 3) pe_int (fun _ _ => rfl))) (po_u (pe_op (kplus K) (pe_ix (kget K) (vr 3) pe_int (fun _ _ => rfl)) pe_int))) pe_str (nomark _))))) (pss_one (ps_ret (pe_tup (pa_cons (pe_tup (pa_cons pe_str (pa_cons (pe_ix (kget K) (vr 3) pe_int (fun _ _ => rfl)) pa_nil))) (pa_cons (pe_op (kplus K) (pe_ix (kget K) (vr 3) pe_int (fun _ _ => rfl)) pe_int) pa_nil))))) pss_nil)
      (pss_one (ps_ret (vr 3))))), ?_⟩)
  obtain ⟨z, m, cs, rfl, t, q⟩ := h
  rw [st_read_form]
  refine ⟨z, m, cs, rfl, t, fun v H1 s1 r1 => ?_⟩
  simp only [gName, List.set_cons_succ, List.set_cons_zero]
  rw [rForm_eq] at q
  have e63 : (Str.ofString "?").cps.toList = [63] := by decide +kernel
  cases hr : rBare n cs with
  | none =>
    rw [hr] at r1 q
    have r1 : v = .non := r1
    subst r1
    exact q _ _ s1 rfl
  | some p =>
    obtain ⟨f, r⟩ := p
    rw [hr] at r1 q
    obtain ⟨p, x, rfl, hp, hx⟩ := r1
    have tl : Tail r cs := by
      cases n with
      | zero => exact simple_tail hr
      | succ n =>
        have : rForm (n + 1) cs = optAt (some (f, r)) := by rw [rForm_eq, hr]
        have hr : (match simpleAt cs with | some x => some x | none => rBareW (rForm n) cs) = some (f, r) := hr
        cases e1 : simpleAt cs with
        | some x =>
          rw [e1] at hr
          cases hr
          exact simple_tail e1
        | none =>
          rw [e1] at hr
          have e : rBareW (rForm n) cs = some (f, r) := hr
          unfold rBareW at e
          split at e
          · exact (list_tail (form_tail n) e).trans (tail_drop 1 cs)
          split at e
          · obtain ⟨pp, hpp, e2⟩ := Option.map_eq_some_iff.mp e
            obtain ⟨l', r'⟩ := pp
            cases e2
            exact (flds_tail (form_tail n) _ _ _ _ _ hpp).trans (tail_drop 1 cs)
          · cases e
    have t1 := t.tail tl
    have c1 : cutS z (some ((z.length - r.length : Nat) : Int)) (some (((z.length - r.length : Nat) : Int) + 1)) = mkS (r.take 1) := by
      have := t1.cut 0 1
      rw [show ((z.length - r.length + 1 : Nat) : Int) = ((z.length - r.length : Nat) : Int) + 1 by omega, Nat.add_zero, List.drop_zero] at this
      exact this
    have a2 := t1.cs
    have b2 := t1.le
    have ll := tl.len
    have a1 := t.cs
    refine ⟨_, _, .inr (sqT_of hp), rfl, _, _, .inr (sqT_of hp), rfl, t1.size, br2 (fun e => ?_) (fun e => ?_)⟩
    · have e : decide (V.str (cutS z (some ((z.length - r.length : Nat) : Int)) (some (((z.length - r.length : Nat) : Int) + 1))) = V.str "?") = true := e
      rw [str_dec c1 "?", e63] at e
      have eo : optAt (some (f, r)) = some (.opt f, r.drop 1) := by unfold optAt; simp only; rw [if_pos e]
      rw [eo] at q
      refine ⟨_, _, .inr (sqT_of hp), rfl, Nat.le_of_ble_eq_true rfl, fun p2 n2 => ?_⟩
      generalize g2 : upd _ p2 _ = B2
      obtain ⟨b2', h2, _⟩ := lay_of' g2 n2
      refine ⟨_, _, .inr (sqT_of (b2' _ _ hp)), rfl, Nat.le_of_ble_eq_true rfl, fun p3 n3 => ?_⟩
      generalize g3 : upd _ p3 _ = B3
      obtain ⟨b3', h3, _⟩ := lay_of' g3 n3
      have r1 : 1 ≤ r.length := by
        cases r with
        | nil => simp at e
        | cons a b => simp
      refine q _ _ ((s1.trans b2').trans b3') ⟨p3, _, rfl, ?_, .opt (b3' _ _ h2) (hx.on (tupS_of (b2'.trans b3')))⟩
      rw [h3, List.length_drop, show (((z.length - r.length : Nat) : Int) + 1) = ((z.length - (r.length - 1) : Nat) : Int) by omega]
    · have e : decide (V.str (cutS z (some ((z.length - r.length : Nat) : Int)) (some (((z.length - r.length : Nat) : Int) + 1))) = V.str "?") = false := e
      rw [str_dec c1 "?", e63] at e
      have eo : optAt (some (f, r)) = some (f, r) := by unfold optAt; simp only; rw [if_neg (by rw [e]; decide)]
      rw [eo] at q
      exact q _ _ s1 ⟨p, x, rfl, hp, hx⟩
end
end Sk
/-! Sk: read_list, read_bare -/
namespace Sk
open PySem PySem.Spec PyProof.Rows L2
theorem cut1 {z : Str} {n : Nat} {cs : List Nat} (t : TxtAt z n cs) (k : Nat) : cutS z (some (n : Int)) (some ((n : Int) + (k : Int))) = mkS (cs.take k) := by
  have := t.cut 0 k
  rw [show ((n + k : Nat) : Int) = (n : Int) + (k : Int) by omega, Nat.add_zero, List.drop_zero, Nat.sub_zero] at this
  exact this
theorem cut_1 {z : Str} {n : Nat} {cs : List Nat} (t : TxtAt z n cs) : cutS z (some (n : Int)) (some ((n : Int) + 1)) = mkS (cs.take 1) := cut1 t 1
theorem cut_2 {z : Str} {n : Nat} {cs : List Nat} (t : TxtAt z n cs) : cutS z (some (n : Int)) (some ((n : Int) + 2)) = mkS (cs.take 2) := cut1 t 2
theorem cut_4 {z : Str} {n : Nat} {cs : List Nat} (t : TxtAt z n cs) : cutS z (some (n : Int)) (some ((n : Int) + 4)) = mkS (cs.take 4) := cut1 t 4
theorem word_cut {z : Str} {m : Nat} {cs : List Nat} (t : TxtAt z m cs) (w : Str) : decide (V.str (cutS z (some (m : Int)) (some ((m : Int) + (w.length : Int)))) = V.str w) = (cs.take w.length == w.cps.toList) := str_dec (cut1 t w.length) w
theorem bare_simple {n : Nat} {cs : List Nat} {x : Fm × List Nat} (h : simpleAt cs = some x) : rBare n cs = some x := by
  cases n with
  | zero => exact h
  | succ n =>
    show (match simpleAt cs with | some x => some x | none => rBareW (rForm n) cs) = _
    rw [h]
theorem bare_wide {n : Nat} {cs : List Nat} (h : simpleAt cs = none) : rBare (n + 1) cs = rBareW (rForm n) cs := by
  show (match simpleAt cs with | some x => some x | none => rBareW (rForm n) cs) = _
  rw [h]
theorem inV_2 (z a b : Str) : inV (.str z) [.str a, .str b] = (z.cps.toList == a.cps.toList || z.cps.toList == b.cps.toList) := by
  have h : ∀ x : Str, eqV (.str x) (.str z) = (z.cps.toList == x.cps.toList) := fun x => by
    show decide (x = z) = _
    by_cases e : x = z
    · rw [e]
      simp
    · rw [decide_eq_false e]
      exact (beq_eq_false_iff_ne.mpr fun k => e (str_ext k.symm)).symm
  unfold inV
  simp only [List.any_cons, List.any_nil, Bool.or_false, h]
theorem sgn_1 (c : Nat) {y : Str} {d : Nat} (h : y.cps.toList = [d]) : decide (V.str ⟨#[c]⟩ = V.str y) = (c == d) := by
  rw [str_dec (show (⟨#[c]⟩ : Str) = mkS [c] from rfl) y, h]
  show ((c == d) && true) = _
  simp
section
variable {P : Program} {w : World} {K : PySem.W.Frag} {mg : Str → Option Value} {base : Heap}
theorem ok_rlist (T : Top K mg) (n k : Nat) (hk : 1 ≤ k) (G_read_form : Ok_read_form P w base T k (sp_rf n)) : Ok_read_list P w base T (k + 1) (sp_rl n) := by
  have G_name_from : Ok_name_from P w base T 1 sp_nmfrom := ok_nmfrom T 0
  have G_key_fits : Ok_key_fits P w base T 1 sp_kf := ok_kf T 0
  refine T.F_read_list.ok sc_read_list (fun vs H Q E h => by obtain ⟨z, m, cs, rfl, _⟩ := h; rfl) (fun cdv A outer s H vs Q E hr h => ⟨_, PSs.nox (pss_cons (ps_set (i := 3) sc_read_list.nd rfl (by first | exact .inl rfl | exact .inr rfl) (pe_call G_read_form (hr.mono (by omega)) (by rfl) T.g_read_form T.F_read_form.kp (b_read_form T) .nil pass0 (pa_cons (vr 0) (pa_cons (vr 1) (pa_cons (vr 2) pa_nil)))))
      (pss_cons (sif (tcmp op_isNo (vr 3) pe_non (nomark _)) (pss_one (ps_ret pe_non)) pss_nil)
      (pss_cons (ps_asg (vr 3) (gtup K 2 rfl (gs_cons (pg_name (i := 4) sc_read_list.nd rfl (by first | exact .inl rfl | exact .inr rfl)) (gs_cons (pg_name (i := 1) sc_read_list.nd rfl (by first | exact .inl rfl | exact .inr rfl)) gs_nil))))
      (pss_cons (sif (tcmp (ksame K hr.units) (pe_slice (kcut K) (vr 0) (po_u (vr 1)) (po_u (pe_op (kplus K) (vr 1) pe_int))) pe_str (nomark _)) (pss_one (ps_ret (pe_tup (pa_cons (pe_tup (pa_cons pe_str (pa_cons (vr 4) pa_nil))) (pa_cons (pe_op (kplus K) (vr 1) pe_int) pa_nil))))) pss_nil)
      (pss_cons (sif (tcmp (kother K hr.units) (pe_slice (kcut K) (vr 0) (po_u (vr 1)) (po_u (pe_op (kplus K) (vr 1) pe_int))) pe_str (nomark _)) (pss_one (ps_ret pe_non)) pss_nil)
      (pss_cons (ps_set (i := 5) sc_read_list.nd rfl (by first | exact .inl rfl | exact .inr rfl) (pe_call G_name_from (hr.mono (by omega)) (by rfl) T.g_name_from T.F_name_from.kp (b_name_from T) .nil pass0 (pa_cons (vr 0) (pa_cons (pe_op (kplus K) (vr 1) pe_int) pa_nil))))
      (pss_cons (ps_aug (i := 1) sc_read_list.nd rfl (by first | exact .inl rfl | exact .inr rfl) (pe_op (kplus K) pe_int (pe_callB (klen K) (by rfl) T.n_len (by decide +kernel) (pa_cons (vr 5) pa_nil))) ip_add)
      (pss_cons (sif (PW.pt (wor (pt_not (tst (pe_call G_key_fits (hr.mono (by omega)) (by rfl) T.g_key_fits T.F_key_fits.kp (b_key_fits T) .nil pass0 (pa_cons (vr 4) (pa_cons (vr 5) pa_nil))))) (pw_or1 (tcmp (kother K hr.units) (pe_slice (kcut K) (vr 0) (po_u (vr 1)) (po_u (pe_op (kplus K) (vr 1) pe_int))) pe_str (nomark _))))) (pss_one (ps_ret pe_non)) pss_nil)
      (pss_one (ps_ret (pe_tup (pa_cons (pe_tup (pa_cons pe_str (pa_cons (vr 4) (pa_cons (vr 5) pa_nil)))) (pa_cons (pe_op (kplus K) (vr 1) pe_int) pa_nil))))))))))))), ?_⟩)
  obtain ⟨z, m, cs, rfl, t, q⟩ := h
  rw [st_read_list]
  refine ⟨z, m, cs, rfl, t, fun v H1 s1 r1 => ?_⟩
  simp only [gName, List.set_cons_succ, List.set_cons_zero]
  have e93 : (Str.ofString "]").cps.toList = [93] := by decide +kernel
  have eby : (Str.ofString " by ").cps.toList = [32, 98, 121, 32] := by decide +kernel
  cases hr : rForm n cs with
  | none =>
    rw [hr] at r1
    have r1 : v = .non := r1
    subst r1
    refine q _ _ s1 ?_
    unfold rList
    rw [hr]
    rfl
  | some p =>
    obtain ⟨f, r⟩ := p
    rw [hr] at r1
    obtain ⟨p, x, rfl, hp, hx⟩ := r1
    have tl := form_tail n cs f r hr
    have t1 := t.tail tl
    have a2 := t1.cs
    have b2 := t1.le
    have ll := tl.len
    have a1 := t.cs
    have un : rList (rForm n) cs = if r.take 1 == [93] then some (.list f, r.drop 1) else if r.take 4 == [32, 98, 121, 32] then
        (if !keyFits f (nameAt (r.drop 4)) || !((r.drop (4 + (nameAt (r.drop 4)).length)).take 1 == [93]) then none else some (.keyed f (nameAt (r.drop 4)), r.drop (4 + (nameAt (r.drop 4)).length + 1))) else none := by
      unfold rList
      rw [hr]
    rw [un] at q
    refine ⟨p, _, rfl, sqT_of hp, rfl, ?_⟩
    simp only [gName, List.set_cons_succ, List.set_cons_zero]
    refine ⟨t1.size, br2 (fun e => ?_) (fun e => ?_)⟩
    · have e : decide (V.str (cutS z (some ((z.length - r.length : Nat) : Int)) (some (((z.length - r.length : Nat) : Int) + 1))) = V.str "]") = true := e
      rw [str_dec (cut_1 t1) "]", e93] at e
      rw [if_pos e] at q
      have := take1_len e
      refine ⟨Nat.le_of_ble_eq_true rfl, fun p2 n2 => ?_⟩
      generalize g2 : upd _ p2 _ = B2
      obtain ⟨b2', h2, _⟩ := lay_of' g2 n2
      refine ⟨Nat.le_of_ble_eq_true rfl, fun p3 n3 => ?_⟩
      generalize g3 : upd _ p3 _ = B3
      obtain ⟨b3', h3, _⟩ := lay_of' g3 n3
      refine q _ _ ((s1.trans b2').trans b3') ⟨p3, _, rfl, ?_, .list (b3' _ _ h2) (hx.on (tupS_of (b2'.trans b3')))⟩
      rw [h3, List.length_drop, show (((z.length - r.length : Nat) : Int) + 1) = ((z.length - (r.length - 1) : Nat) : Int) by omega]
    have e : decide (V.str (cutS z (some ((z.length - r.length : Nat) : Int)) (some (((z.length - r.length : Nat) : Int) + 1))) = V.str "]") = false := e
    rw [str_dec (cut_1 t1) "]", e93] at e
    rw [if_neg (by rw [e]; decide)] at q
    refine ⟨t1.size, br2 (fun e => ?_) (fun e => ?_)⟩
    · have e : (!decide (V.str (cutS z (some ((z.length - r.length : Nat) : Int)) (some (((z.length - r.length : Nat) : Int) + 4))) = V.str " by ")) = true := e
      rw [str_dec (cut_4 t1) " by ", eby] at e
      rw [if_neg (by simpa using e)] at q
      exact q _ _ s1 rfl
    have e : (!decide (V.str (cutS z (some ((z.length - r.length : Nat) : Int)) (some (((z.length - r.length : Nat) : Int) + 4))) = V.str " by ")) = false := e
    rw [str_dec (cut_4 t1) " by ", eby] at e
    have e4 : (r.take 4 == [32, 98, 121, 32]) = true := by simpa using e
    rw [if_pos e4] at q
    have l4 := take4_len rfl e4
    have t2 := t1.on l4
    refine ⟨z.length - r.length + 4, r.drop 4, by omega, t2, ?_⟩
    simp only [gName, List.set_cons_succ, List.set_cons_zero]
    generalize hkk : nameAt (r.drop 4) = kk at q ⊢
    have lk : kk.length ≤ (r.drop 4).length := by rw [← hkk]; exact tw_len _
    rw [List.length_drop] at lk
    refine ⟨_, rfl, by rw [mk_len]; exact size_le (by have := t.len; omega), _, _, rfl, rfl, ?_⟩
    simp only [gName, List.set_cons_succ, List.set_cons_zero]
    refine ⟨x, kk, f, rfl, hx, fun fs e => ?_, fun H2 s2 => ?_⟩
    · subst e
      have := form_count hr
      have := t.len
      omega
    have t3 : TxtAt z (z.length - r.length + (4 + kk.length)) (r.drop (4 + kk.length)) := t1.on (by omega)
    have epos : ((z.length - r.length : Nat) : Int) + (4 + ((mkS kk).length : Int)) = ((z.length - r.length + (4 + kk.length) : Nat) : Int) := by rw [mk_len]; omega
    rw [epos]
    cases ek : keyFits f kk with
    | false =>
      rw [ek] at q
      exact q _ _ (s1.trans s2) rfl
    | true =>
      rw [ek] at q
      refine ⟨t3.size, br2 (fun e => ?_) (fun e => ?_)⟩
      · have e : (!decide (V.str (cutS z (some ((z.length - r.length + (4 + kk.length) : Nat) : Int)) (some (((z.length - r.length + (4 + kk.length) : Nat) : Int) + 1))) = V.str "]")) = true := e
        rw [str_dec (cut_1 t3) "]", e93] at e
        rw [if_pos (by rw [e]; rfl)] at q
        exact q _ _ (s1.trans s2) rfl
      · have e : (!decide (V.str (cutS z (some ((z.length - r.length + (4 + kk.length) : Nat) : Int)) (some (((z.length - r.length + (4 + kk.length) : Nat) : Int) + 1))) = V.str "]")) = false := e
        rw [str_dec (cut_1 t3) "]", e93] at e
        rw [if_neg (by rw [e]; decide)] at q
        have := take1_len (show ((r.drop (4 + kk.length)).take 1 == [93]) = true by simpa using e)
        rw [List.length_drop] at this
        refine ⟨Nat.le_of_ble_eq_true rfl, fun p2 n2 => ?_⟩
        generalize g2 : upd _ p2 _ = B2
        obtain ⟨b2', h2, _⟩ := lay_of' g2 n2
        refine ⟨Nat.le_of_ble_eq_true rfl, fun p3 n3 => ?_⟩
        generalize g3 : upd _ p3 _ = B3
        obtain ⟨b3', h3, _⟩ := lay_of' g3 n3
        refine q _ _ (((s1.trans s2).trans b2').trans b3') ⟨p3, _, rfl, ?_, .keyed (b3' _ _ h2) (hx.on (tupS_of ((s2.trans b2').trans b3')))⟩
        rw [h3, List.length_drop, show (((z.length - r.length + (4 + kk.length) : Nat) : Int) + 1) = ((z.length - (r.length - (4 + kk.length + 1)) : Nat) : Int) by omega]
theorem ok_rbare0 (T : Top K mg) (k : Nat) (hk : 1 ≤ k) (n : Nat) (spL spF : Sp) (G_read_list : Ok_read_list P w base T k spL) (G_read_fields : Ok_read_fields P w base T k spF) (hL : ∀ m, n = m + 1 → spL = sp_rl m) (hF : ∀ m, n = m + 1 → spF = sp_rfl m) : Ok_read_bare P w base T (k + 1) (sp_rb n) := by
  refine T.F_read_bare.ok sc_read_bare (fun vs H Q E h => by obtain ⟨z, m, cs, rfl, _⟩ := h; rfl) (fun cdv A outer s H vs Q E hr h => ⟨_, PSs.nox (pss_cons (ps_for PassesOwn.never rfl (itup K (pe_glob (v := .ref (He.ga K "SIMPLE")) (by rfl) T.g_SIMPLE rfl)) (pg_name (i := 3) sc_read_bare.nd rfl (by first | exact .inl rfl | exact .inr rfl)) (pss_one (sif (tcmp (ksame K hr.units) (pe_slice (kcut K) (vr 0) (po_u (vr 1)) (po_u (pe_op (kplus K) (vr 1) (pe_callB (klen K) (by rfl) T.n_len (by decide +kernel) (pa_cons (vr 3) pa_nil))))) (vr 3) (nomark _)) (pss_one (ps_ret (pe_tup (pa_cons (pe_tup (pa_cons (vr 3) pa_nil)) (pa_cons (pe_op (kplus K) (vr 1) (pe_callB (klen K) (by rfl) T.n_len (by decide +kernel) (pa_cons (vr 3) pa_nil))) pa_nil))))) pss_nil)))
      (pss_cons (sif (PW.pt (wor (tcmp (ksame K hr.units) (vr 2) (pe_glob (v := .int (6)) (by rfl) T.c_MAX_LEVELS ⟨_, rfl⟩) (nomark _)) (pw_or1 (tcmp (knotin K) (pe_slice (kcut K) (vr 0) (po_u (vr 1)) (po_u (pe_op (kplus K) (vr 1) pe_int))) (pe_tup (pa_cons pe_str (pa_cons pe_str pa_nil))) (by rfl))))) (pss_one (ps_ret pe_non)) pss_nil)
      (pss_cons (sif (tcmp (ksame K hr.units) (pe_ix (kget K) (vr 0) (vr 1) (fun _ _ => rfl)) pe_str (nomark _)) (pss_one (ps_ret (pe_call G_read_list (hr.mono (by omega)) (by rfl) T.g_read_list T.F_read_list.kp (b_read_list T) .nil pass0 (pa_cons (vr 0) (pa_cons (pe_op (kplus K) (vr 1) pe_int) (pa_cons (pe_op (kplus K) (vr 2) pe_int) pa_nil)))))) pss_nil)
      (pss_one (ps_ret (pe_call G_read_fields (hr.mono (by omega)) (by rfl) T.g_read_fields T.F_read_fields.kp (b_read_fields T) .nil pass0 (pa_cons (vr 0) (pa_cons (pe_op (kplus K) (vr 1) pe_int) (pa_cons (pe_op (kplus K) (vr 2) pe_int) pa_nil))))))))), ?_⟩)
  obtain ⟨z, m, cs, rfl, t, q⟩ := h
  rw [st_read_bare]
  refine ⟨_, rfl, ⟨_, T.q_SIMPLE H⟩, ?_⟩
  refine for_it (walk_tup (xs := [V.str "text", V.str "number", V.str "flag"])) (fun i σ H' => H' = H ∧ (1 ≤ i → (cs.take 4 == wText) = false) ∧ (2 ≤ i → (cs.take 6 == wNumber) = false) ∧ (3 ≤ i → (cs.take 4 == wFlag) = false) ∧ ∃ y, σ = [some (.str z), some (.int (m : Int)), some (.int (6 - (n : Int))), y]) ⟨rfl, by omega, by omega, by omega, _, rfl⟩ (fun i σ H' _ pv => T.q_SIMPLE H') (fun i x σ H1 H1' hi pv hy => ?_) (fun σ H1 pv => ?_)
  · obtain ⟨rfl, v1, v2, v3, y, rfl⟩ := pv
    obtain ⟨rfl, hx⟩ := hy
    have a1 := t.cs
    have b1 := t.le
    have hi3 : i < 3 := hi
    simp only [gName, List.set_cons_succ, List.set_cons_zero]
    rcases (show i = 0 ∨ i = 1 ∨ i = 2 by omega) with rfl | rfl | rfl <;> (have hx := Option.some.inj hx; subst hx)
    · have e' : decide (V.str (cutS z (some (m : Int)) (some ((m : Int) + ((Str.ofString "text").length : Int)))) = V.str "text") = (cs.take 4 == wText) := by
        rw [word_cut t "text", wText_eq]
        rfl
      refine ⟨by decide, t.size, br2 (fun e => ?_) (fun e => ?_)⟩
      · have e : decide (V.str (cutS z (some (m : Int)) (some ((m : Int) + ((Str.ofString "text").length : Int)))) = V.str "text") = true := e
        rw [e'] at e
        have es : simpleAt cs = some (.text, cs.drop 4) := by
          unfold simpleAt
          rw [e]
          rfl
        rw [bare_simple es] at q
        have ln : 4 ≤ cs.length := by
          have h : cs.take 4 = wText := by simpa using e
          have := congrArg List.length h
          rw [List.length_take] at this
          have : min 4 cs.length = 4 := this
          omega
        refine ⟨Nat.le_of_ble_eq_true rfl, fun p2 n2 => ?_⟩
        generalize g2 : upd _ p2 _ = B2
        obtain ⟨b2', h2, _⟩ := lay_of' g2 n2
        refine ⟨by decide, Nat.le_of_ble_eq_true rfl, fun p3 n3 => ?_⟩
        generalize g3 : upd _ p3 _ = B3
        obtain ⟨b3', h3, _⟩ := lay_of' g3 n3
        refine q _ _ (b2'.trans b3') ⟨p3, _, rfl, ?_, .text (b3' _ _ h2)⟩
        rw [h3, List.length_drop]
        show some (HO.tup [_, V.int ((m : Int) + ((4 : Nat) : Int))]) = _
        rw [show ((m : Int) + ((4 : Nat) : Int)) = ((z.length - (cs.length - 4) : Nat) : Int) by omega]
      · have e : decide (V.str (cutS z (some (m : Int)) (some ((m : Int) + ((Str.ofString "text").length : Int)))) = V.str "text") = false := e
        rw [e'] at e
        exact ⟨rfl, fun _ => e, fun h => by omega, fun h => by omega, _, rfl⟩
    · have e' : decide (V.str (cutS z (some (m : Int)) (some ((m : Int) + ((Str.ofString "number").length : Int)))) = V.str "number") = (cs.take 6 == wNumber) := by
        rw [word_cut t "number", wNumber_eq]
        rfl
      refine ⟨by decide, t.size, br2 (fun e => ?_) (fun e => ?_)⟩
      · have e : decide (V.str (cutS z (some (m : Int)) (some ((m : Int) + ((Str.ofString "number").length : Int)))) = V.str "number") = true := e
        rw [e'] at e
        have es : simpleAt cs = some (.number, cs.drop 6) := by
          unfold simpleAt
          rw [v1 (by omega), e]
          rfl
        rw [bare_simple es] at q
        have ln : 6 ≤ cs.length := by
          have h : cs.take 6 = wNumber := by simpa using e
          have := congrArg List.length h
          rw [List.length_take] at this
          have : min 6 cs.length = 6 := this
          omega
        refine ⟨Nat.le_of_ble_eq_true rfl, fun p2 n2 => ?_⟩
        generalize g2 : upd _ p2 _ = B2
        obtain ⟨b2', h2, _⟩ := lay_of' g2 n2
        refine ⟨by decide, Nat.le_of_ble_eq_true rfl, fun p3 n3 => ?_⟩
        generalize g3 : upd _ p3 _ = B3
        obtain ⟨b3', h3, _⟩ := lay_of' g3 n3
        refine q _ _ (b2'.trans b3') ⟨p3, _, rfl, ?_, .number (b3' _ _ h2)⟩
        rw [h3, List.length_drop]
        show some (HO.tup [_, V.int ((m : Int) + ((6 : Nat) : Int))]) = _
        rw [show ((m : Int) + ((6 : Nat) : Int)) = ((z.length - (cs.length - 6) : Nat) : Int) by omega]
      · have e : decide (V.str (cutS z (some (m : Int)) (some ((m : Int) + ((Str.ofString "number").length : Int)))) = V.str "number") = false := e
        rw [e'] at e
        exact ⟨rfl, fun _ => v1 (by omega), fun _ => e, fun h => by omega, _, rfl⟩
    · have e' : decide (V.str (cutS z (some (m : Int)) (some ((m : Int) + ((Str.ofString "flag").length : Int)))) = V.str "flag") = (cs.take 4 == wFlag) := by
        rw [word_cut t "flag", wFlag_eq]
        rfl
      refine ⟨by decide, t.size, br2 (fun e => ?_) (fun e => ?_)⟩
      · have e : decide (V.str (cutS z (some (m : Int)) (some ((m : Int) + ((Str.ofString "flag").length : Int)))) = V.str "flag") = true := e
        rw [e'] at e
        have es : simpleAt cs = some (.flag, cs.drop 4) := by
          unfold simpleAt
          rw [v1 (by omega), v2 (by omega), e]
          rfl
        rw [bare_simple es] at q
        have ln : 4 ≤ cs.length := by
          have h : cs.take 4 = wFlag := by simpa using e
          have := congrArg List.length h
          rw [List.length_take] at this
          have : min 4 cs.length = 4 := this
          omega
        refine ⟨Nat.le_of_ble_eq_true rfl, fun p2 n2 => ?_⟩
        generalize g2 : upd _ p2 _ = B2
        obtain ⟨b2', h2, _⟩ := lay_of' g2 n2
        refine ⟨by decide, Nat.le_of_ble_eq_true rfl, fun p3 n3 => ?_⟩
        generalize g3 : upd _ p3 _ = B3
        obtain ⟨b3', h3, _⟩ := lay_of' g3 n3
        refine q _ _ (b2'.trans b3') ⟨p3, _, rfl, ?_, .flag (b3' _ _ h2)⟩
        rw [h3, List.length_drop]
        show some (HO.tup [_, V.int ((m : Int) + ((4 : Nat) : Int))]) = _
        rw [show ((m : Int) + ((4 : Nat) : Int)) = ((z.length - (cs.length - 4) : Nat) : Int) by omega]
      · have e : decide (V.str (cutS z (some (m : Int)) (some ((m : Int) + ((Str.ofString "flag").length : Int)))) = V.str "flag") = false := e
        rw [e'] at e
        exact ⟨rfl, fun _ => v1 (by omega), fun _ => v2 (by omega), fun _ => e, _, rfl⟩
  · obtain ⟨rfl, v1, v2, v3, y, rfl⟩ := pv
    have es : simpleAt cs = none := by
      unfold simpleAt
      rw [v1 (by decide), v2 (by decide), v3 (by decide)]
      rfl
    have a1 := t.cs
    have b1 := t.le
    have e91 : (Str.ofString "[").cps.toList = [91] := by decide +kernel
    have e123 : (Str.ofString "{").cps.toList = [123] := by decide +kernel
    cases n with
    | zero =>
      have en : rBare 0 cs = none := es
      rw [en] at q
      exact q _ _ (Same.refl H1) rfl
    | succ n =>
    have hL := hL n rfl
    have hF := hF n rfl
    subst hL hF
    rw [bare_wide es] at q
    refine brF (decide_eq_false fun e => by injection e with e; omega) ?_
    refine ⟨t.size, Nat.le_of_ble_eq_true rfl, fun p1 n1 => ?_⟩
    generalize g1 : upd _ p1 _ = B1
    obtain ⟨b1', h1, _⟩ := lay_of' g1 n1
    refine ⟨_, .inr (sqT_of h1), rfl, rfl, br2 (fun e => ?_) (fun e => ?_)⟩
    · have e : (!inV (.str (cutS z (some (m : Int)) (some ((m : Int) + 1)))) [.str "[", .str "{"]) = true := e
      rw [cut_1 t, inV_2, mk_list, e91, e123] at e
      have e : ((cs.take 1 == [91]) || (cs.take 1 == [123])) = false := by simpa using e
      rw [Bool.or_eq_false_iff] at e
      have : rBareW (rForm n) cs = none := by
        unfold rBareW
        rw [e.1, e.2]
        rfl
      rw [this] at q
      exact q _ _ b1' rfl
    · have e : (!inV (.str (cutS z (some (m : Int)) (some ((m : Int) + 1)))) [.str "[", .str "{"]) = false := e
      rw [cut_1 t, inV_2, mk_list, e91, e123] at e
      have e : ((cs.take 1 == [91]) || (cs.take 1 == [123])) = true := by
        cases h : ((cs.take 1 == [91]) || (cs.take 1 == [123])) with
        | true => rfl
        | false => rw [h] at e; cases e
      cases cs with
      | nil => cases e
      | cons c r =>
      have e : ((c == 91) || (c == 123)) = true := by simpa using e
      have hg : atI z.cps.toList (m : Int) = some c := by
        have := t.get (j := 0) (c := c) rfl
        rw [Nat.add_zero] at this
        exact this
      have t1 : TxtAt z (m + 1) r := t.on (j := 1) (by simp)
      refine ⟨t.size, c, hg, br2 (fun e1 => ?_) (fun e1 => ?_)⟩
      · have e1 : decide (V.str ⟨#[c]⟩ = V.str "[") = true := e1
        rw [sgn_1 c e91] at e1
        have ec : c = 91 := by simpa using e1
        subst ec
        have : rBareW (rForm n) (91 :: r) = rList (rForm n) r := rfl
        rw [this] at q
        refine ⟨z, m + 1, r, ?_, t1, fun v H2 s2 r2 => q _ _ (b1'.trans s2) r2⟩
        show [V.str z, V.int ((m : Int) + 1), V.int (6 - ((n + 1 : Nat) : Int) + 1)] = _
        rw [show ((m : Int) + 1) = ((m + 1 : Nat) : Int) by omega, show (6 - ((n + 1 : Nat) : Int) + 1) = 6 - (n : Int) by omega]
      · have e1 : decide (V.str ⟨#[c]⟩ = V.str "[") = false := e1
        rw [sgn_1 c e91] at e1
        have ne : c ≠ 91 := by simpa using e1
        have ec : c = 123 := by simpa [ne] using e
        subst ec
        have : rBareW (rForm n) (123 :: r) = (rFlds (rForm n) (r.length + 1) none r).map fun p => (.rcd p.1, p.2) := rfl
        rw [this] at q
        refine ⟨z, m + 1, r, ?_, t1, fun v H2 s2 r2 => q _ _ (b1'.trans s2) r2⟩
        show [V.str z, V.int ((m : Int) + 1), V.int (6 - ((n + 1 : Nat) : Int) + 1)] = _
        rw [show ((m : Int) + 1) = ((m + 1 : Nat) : Int) by omega, show (6 - ((n + 1 : Nat) : Int) + 1) = 6 - (n : Int) by omega]
end
end Sk
/-! Sk: read_fields; the reader of types whole -/
namespace Sk
open PySem PySem.Spec PyProof.Rows L2
theorem put_same {H H' : Hp} {L : Addr} {o : HO} (s : Same H H') (n : H L = none) : Same H (upd H' L o) := fun b u e => by
  rw [upd_ne (ne_of_none e n)]
  exact s b u e
theorem put_tup {H : Hp} {L : Addr} {xs ys : List V} (h : H L = some (.lst xs)) : TupS H (upd H L (.lst ys)) := fun b us e => by
  rw [upd_ne (fun z => by rw [z, h] at e; cases e)]
  exact e
theorem at_end {α : Type} (xs : List α) (x : α) : atI (xs ++ [x]) (-1) = some x := by
  unfold atI ixN
  rw [if_neg (by decide), if_pos (by rw [List.length_append]; simp; omega), List.length_append]
  show (xs ++ [x])[_]? = some x
  rw [show (-1 + ((xs.length + [x].length : Nat) : Int)).toNat = xs.length by simp; omega]
  simp
def lastN (acc : List (List Nat × Fm)) : Option (List Nat) := acc.getLast?.map (·.1)
theorem lastN_app (acc : List (List Nat × Fm)) (n : List Nat) (f : Fm) : lastN (acc ++ [(n, f)]) = some n := by unfold lastN; simp
theorem FldV.last {H : Hp} : ∀ {vs : List V} {acc : List (List Nat × Fm)} {n : List Nat} {f : Fm}, FldV H vs (acc ++ [(n, f)]) → ∃ ws b g, vs = ws ++ [.ref b] ∧ H b = some (.tup [.str (mkS n), g])
  | _, [], _, _, h => by
    cases h with
    | @cons b g _ _ _ _ h1 _ h3 =>
      cases h3
      exact ⟨[], b, g, rfl, h1⟩
  | _, p :: acc, _, _, h => by
    cases h with
    | @cons b0 g0 ps _ _ _ h1 h2 h3 =>
      obtain ⟨ws, b, g, rfl, h4⟩ := h3.last
      exact ⟨.ref b0 :: ws, b, g, rfl, h4⟩
section
variable {P : Program} {w : World} {K : PySem.W.Frag} {mg : Str → Option Value} {base : Heap}
theorem ok_rflds (T : Top K mg) (n k : Nat) (hk : 1 ≤ k) (G_read_form : Ok_read_form P w base T k (sp_rf n)) : Ok_read_fields P w base T (k + 1) (sp_rfl n) := by
  have G_name_from : Ok_name_from P w base T 1 sp_nmfrom := ok_nmfrom T 0
  have G_is_name : Ok_is_name P w base T 1 sp_isnm := ok_isnm T 0
  refine T.F_read_fields.ok sc_read_fields (fun vs H Q E h => by obtain ⟨z, m, cs, rfl, _⟩ := h; rfl) (fun cdv A outer s H vs Q E hr h => ⟨_, PSs.nox (pss_cons (ps_set (i := 3) sc_read_fields.nd rfl (by first | exact .inl rfl | exact .inr rfl) (pe_lst pa_nil))
      (pss_one (ps_while PassesOwn.never (upt (tst pe_bl)) (pss_cons (ps_set (i := 4) sc_read_fields.nd rfl (by first | exact .inl rfl | exact .inr rfl) (pe_call G_name_from (hr.mono (by omega)) (by rfl) T.g_name_from T.F_name_from.kp (b_name_from T) .nil pass0 (pa_cons (vr 0) (pa_cons (vr 1) pa_nil))))
      (pss_cons (ps_aug (i := 1) sc_read_fields.nd rfl (by first | exact .inl rfl | exact .inr rfl) (pe_callB (klen K) (by rfl) T.n_len (by decide +kernel) (pa_cons (vr 4) pa_nil)) ip_add)
      (pss_cons (sif (PW.pt (wor (pt_not (tst (pe_call G_is_name (hr.mono (by omega)) (by rfl) T.g_is_name T.F_is_name.kp (b_is_name T) .nil pass0 (pa_cons (vr 4) pa_nil)))) (wor (tcmp (kother K hr.units) (pe_slice (kcut K) (vr 0) (po_u (vr 1)) (po_u (pe_op (kplus K) (vr 1) pe_int))) pe_str (nomark _)) (pw_or1 (PW.pt (wand (ttru K (vr 3)) (pw_and1 (tcmp op_ge2 (pe_ix (kget K) (pe_ix (kget K) (vr 3) (pe_un un_negU pe_int) (fun _ _ => rfl)) pe_int (fun _ _ => rfl)) (vr 4) (nomark _))))))))) (pss_one (ps_ret pe_non)) pss_nil)
      (pss_cons (ps_set (i := 5) sc_read_fields.nd rfl (by first | exact .inl rfl | exact .inr rfl) (pe_call G_read_form (hr.mono (by omega)) (by rfl) T.g_read_form T.F_read_form.kp (b_read_form T) .nil pass0 (pa_cons (vr 0) (pa_cons (pe_op (kplus K) (vr 1) pe_int) (pa_cons (vr 2) pa_nil)))))
      (pss_cons (sif (tcmp op_isNo (vr 5) pe_non (nomark _)) (pss_one (ps_ret pe_non)) pss_nil)
      (pss_cons (ps_expr (kapp (pe_bm PySem.F.plainAttrs_list PySem.F.slot_list_append PySem.F.type_list_append mt_append (up (vr 3)) (pa_cons (up (pe_tup (pa_cons (vr 4) (pa_cons (pe_ix (kget K) (vr 5) pe_int (fun _ _ => rfl)) pa_nil)))) pa_nil))))
      (pss_cons (ps_set (i := 1) sc_read_fields.nd rfl (by first | exact .inl rfl | exact .inr rfl) (pe_ix (kget K) (vr 5) pe_int (fun _ _ => rfl)))
      (pss_cons (sif (tcmp (ksame K hr.units) (pe_slice (kcut K) (vr 0) (po_u (vr 1)) (po_u (pe_op (kplus K) (vr 1) pe_int))) pe_str (nomark _)) (pss_one (ps_ret (pe_tup (pa_cons (pe_tup (pa_cons pe_str (pa_cons (pe_callTy (ktup K) (by rfl) T.n_tuple (by decide +kernel) (pa_cons (vr 3) pa_nil)) pa_nil))) (pa_cons (pe_op (kplus K) (vr 1) pe_int) pa_nil))))) pss_nil)
      (pss_cons (sif (tcmp (kother K hr.units) (pe_slice (kcut K) (vr 0) (po_u (vr 1)) (po_u (pe_op (kplus K) (vr 1) pe_int))) pe_str (nomark _)) (pss_one (ps_ret pe_non)) pss_nil)
      (pss_one (ps_aug (i := 1) sc_read_fields.nd rfl (by first | exact .inl rfl | exact .inr rfl) pe_int ip_add)))))))))))))), ?_⟩)
  obtain ⟨z, m0, cs0, rfl, t0, q⟩ := h
  rw [st_read_fields]
  refine ⟨Nat.le_of_ble_eq_true rfl, fun L nL => ?_⟩
  simp only [gName, List.set_cons_succ, List.set_cons_zero]
  have e125 : (Str.ofString "}").cps.toList = [125] := by decide +kernel
  have e44 : (Str.ofString ", ").cps.toList = [44, 32] := by decide +kernel
  have e58 : (Str.ofString ": ").cps.toList = [58, 32] := by decide +kernel
  have hz := t0.len
  have first : rFlds (rForm n) (cs0.length + 1) none cs0 = (rFlds (rForm n) (cs0.length + 1) (lastN []) cs0).map fun p => ([] ++ p.1, p.2) := by
    show rFlds (rForm n) (cs0.length + 1) none cs0 = (rFlds (rForm n) (cs0.length + 1) none cs0).map _
    cases rFlds (rForm n) (cs0.length + 1) none cs0 <;> rfl
  refine while_up (fun σ H' => ∃ (m f : Nat) (cs : List Nat) (acc : List (List Nat × Fm)) (vs : List V) (y4 y5 : Option V), σ = [some (.str z), some (.int (m : Int)), some (.int (6 - (n : Int))), some (.ref L), y4, y5] ∧ TxtAt z m cs ∧ cs.length < f ∧ Same H H' ∧ H' L = some (.lst vs) ∧ FldV H' vs acc ∧ acc.length ≤ m ∧
      rFlds (rForm n) (cs0.length + 1) none cs0 = (rFlds (rForm n) f (lastN acc) cs).map fun p => (acc ++ p.1, p.2)) (fun σ _ => match σ with | [_, some (.int e), _, _, _, _] => z.length - e.toNat | _ => 0)
      ⟨m0, _, cs0, [], [], none, none, rfl, t0, Nat.lt_succ_self _, same_new nL, upd_same, .nil, Nat.zero_le _, first⟩ (fun σ H' hv => ?_)
  obtain ⟨m, f, cs, acc, vs, y4, y5, rfl, t, hf, S, hL, xs, hm, w1⟩ := hv
  have a1 := t.cs
  have b1 := t.le
  obtain ⟨g, rfl⟩ : ∃ g, f = g + 1 := ⟨f - 1, by omega⟩
  have un : rFlds (rForm n) (g + 1) (lastN acc) cs = if !nmOk (nameAt cs) || (!((cs.drop (nameAt cs).length).take 2 == [58, 32]) || notUp (lastN acc) (nameAt cs)) then none
    else match rForm n (cs.drop ((nameAt cs).length + 2)) with
      | none => none
      | some (f, r) => if r.take 1 == [125] then some ([(nameAt cs, f)], r.drop 1) else if r.take 2 == [44, 32] then (rFlds (rForm n) g (some (nameAt cs)) (r.drop 2)).map fun p => ((nameAt cs, f) :: p.1, p.2) else none := rfl
  rw [un] at w1
  clear un
  have no : rFlds (rForm n) (cs0.length + 1) none cs0 = none → ∀ H2, Same H H2 → Q .non H2 := fun h H2 s2 => q _ _ s2 (by rw [h]; rfl)
  refine ⟨m, cs, rfl, t, ?_⟩
  have low_kk := tw_all (p := low) cs
  have lk : (nameAt cs).length ≤ cs.length := tw_len _
  have low_kk : ∀ c ∈ nameAt cs, low c = true := low_kk
  simp only [gName, List.set_cons_succ, List.set_cons_zero]
  revert w1 lk low_kk
  generalize nameAt cs = kk
  intro w1 lk low_kk
  refine ⟨_, rfl, by rw [mk_len]; exact size_le (by omega), _, _, rfl, rfl, ?_⟩
  simp only [gName, List.set_cons_succ, List.set_cons_zero]
  have epos : ((m : Int) + ((mkS kk).length : Int)) = ((m + kk.length : Nat) : Int) := by rw [mk_len]; omega
  rw [epos]
  have t2 := t.on lk
  refine ⟨by rw [mk_len]; omega, low_kk, fun H1 s1 => ?_⟩
  have S1 := S.trans s1
  have hL1 := s1 _ _ hL
  have en : nmOk (mkS kk).cps.toList = nmOk kk := rfl
  rw [en]
  cases ek : nmOk kk with
  | false =>
    rw [ek] at w1
    exact no w1 _ S1
  | true =>
  rw [ek] at w1
  have w1 : rFlds (rForm n) (cs0.length + 1) none cs0 = Option.map (fun p => (acc ++ p.1, p.2)) (if (!((cs.drop kk.length).take 2 == [58, 32]) || notUp (lastN acc) kk) then none
    else match rForm n (cs.drop (kk.length + 2)) with
      | none => none
      | some (f, r) => if r.take 1 == [125] then some ([(kk, f)], r.drop 1) else if r.take 2 == [44, 32] then (rFlds (rForm n) g (some kk) (r.drop 2)).map fun p => ((kk, f) :: p.1, p.2) else none) := w1
  refine ⟨t2.size, br2 (fun e => ?_) (fun e => ?_)⟩
  · have e : (!decide (V.str (cutS z (some ((m + kk.length : Nat) : Int)) (some (((m + kk.length : Nat) : Int) + 2))) = V.str ": ")) = true := e
    rw [str_dec (cut_2 t2) ": ", e58] at e
    rw [e] at w1
    exact no w1 _ S1
  have e : (!decide (V.str (cutS z (some ((m + kk.length : Nat) : Int)) (some (((m + kk.length : Nat) : Int) + 2))) = V.str ": ")) = false := e
  rw [str_dec (cut_2 t2) ": ", e58] at e
  rw [e, Bool.false_or] at w1
  have l2 := take2_len (show ((cs.drop kk.length).take 2 == [58, 32]) = true by simpa using e)
  rw [List.length_drop] at l2
  have up : ∀ (H2 : Hp), H2 = H1 → notUp (lastN acc) kk = true → Q .non H2 := fun H2 e1 e2 => by
    rw [e2] at w1
    subst e1
    exact no w1 _ S1
  have t3 : TxtAt z (m + (kk.length + 2)) (cs.drop (kk.length + 2)) := t.on (by omega)
  refine ⟨vs, .inl (sqL_of hL1), ?_⟩
  refine (fun (cont : notUp (lastN acc) kk = false → ?_) => ?_) ?_
  rotate_left
  · rcases List.eq_nil_or_concat acc with ea | ⟨acc', p', ea⟩
    · have ev : vs = [] := by
        have := xs.length
        rw [ea] at this
        exact List.length_eq_zero_iff.mp this
      have ee : (!vs.isEmpty) = false := by rw [ev]; rfl
      rw [ee]
      dsimp only [br]
      exact cont (by rw [ea]; rfl)
    · obtain ⟨ln, lf⟩ := p'
      have xs' := xs
      rw [ea] at xs'
      have xs' : FldV H' vs (acc' ++ [(ln, lf)]) := by simpa using xs'
      obtain ⟨ws, b, gg, ev, h4⟩ := xs'.last
      have ee : (!vs.isEmpty) = true := by rw [ev]; simp
      have eup : notUp (lastN acc) kk = !decide (ln < kk) := by
        have : lastN acc = some ln := by rw [ea]; simpa using lastN_app acc' ln lf
        rw [this]
        rfl
      rw [ee]
      dsimp only [br]
      have hL' : H1 L = some (.lst (ws ++ [.ref b])) := by rw [← ev]; exact hL1
      refine ⟨_, _, .inl (sqL_of hL'), at_end _ _, _, _, .inr (sqT_of (s1 _ _ h4)), rfl, ?_⟩
      refine br2 (fun e => ?_) (fun e => ?_)
      · have e : (!decide (ln < kk)) = true := e
        exact up _ rfl (by rw [eup]; exact e)
      · have e : (!decide (ln < kk)) = false := e
        exact cont (by rw [eup]; exact e)
  intro eu
  rw [eu] at w1
  have w1 : rFlds (rForm n) (cs0.length + 1) none cs0 = Option.map (fun p => (acc ++ p.1, p.2)) (match rForm n (cs.drop (kk.length + 2)) with
      | none => none
      | some (f, r) => if r.take 1 == [125] then some ([(kk, f)], r.drop 1) else if r.take 2 == [44, 32] then (rFlds (rForm n) g (some kk) (r.drop 2)).map fun p => ((kk, f) :: p.1, p.2) else none) := w1
  clear up
  refine ⟨z, m + (kk.length + 2), cs.drop (kk.length + 2), ?_, t3, fun v H2 s2 r2 => ?_⟩
  · show [V.str z, V.int (((m + kk.length : Nat) : Int) + 2), V.int (6 - (n : Int))] = _
    rw [show (((m + kk.length : Nat) : Int) + 2) = ((m + (kk.length + 2) : Nat) : Int) by omega]
  simp only [gName, List.set_cons_succ, List.set_cons_zero]
  have S2 := S1.trans s2
  have hL2 := s2 _ _ hL1
  cases hr : rForm n (cs.drop (kk.length + 2)) with
  | none =>
    rw [hr] at r2 w1
    have r2 : v = .non := r2
    subst r2
    exact no w1 _ S2
  | some p =>
  obtain ⟨ff, r⟩ := p
  rw [hr] at r2 w1
  simp only at w1
  obtain ⟨p, x, rfl, hp, hx⟩ := r2
  have tl := form_tail n _ _ _ hr
  have ll := tl.len
  rw [List.length_drop] at ll
  have t4 := t3.tail tl
  have a4 := t4.cs
  have b4 := t4.le
  have lx := xs.length
  refine ⟨⟨vs, hL2⟩, _, _, .inr (sqT_of hp), rfl, Nat.le_of_ble_eq_true rfl, fun bb nb => ?_⟩
  generalize gb : upd _ bb _ = H3
  obtain ⟨s3, hb, _⟩ := lay_of' gb nb
  clear gb nb
  have hL3 := s3 _ _ hL2
  refine ⟨vs, hL3, Nat.lt_of_le_of_lt (show vs.length ≤ 100000 by omega) (by decide), ?_⟩
  have S4 := put_same (o := .lst (vs ++ [.ref bb])) (S2.trans s3) nL
  have hp4 : upd H3 L (.lst (vs ++ [.ref bb])) p = some (.tup [x, .int ((z.length - r.length : Nat) : Int)]) := put_tup hL3 _ _ (s3 _ _ hp)
  have xs4 : FldV (upd H3 L (.lst (vs ++ [.ref bb]))) (vs ++ [.ref bb]) (acc ++ [(kk, ff)]) := ((xs.on (tupS_of ((s1.trans s2).trans s3))).app hb (hx.on (tupS_of s3))).on (put_tup hL3)
  have hL4 : upd H3 L (.lst (vs ++ [.ref bb])) L = some (.lst (vs ++ [.ref bb])) := upd_same
  revert hp4 xs4 hL4 S4
  generalize upd H3 L (.lst (vs ++ [.ref bb])) = H4
  intro S4 hp4 xs4 hL4
  refine ⟨_, _, .inr (sqT_of hp4), rfl, ?_⟩
  simp only [gName, List.set_cons_succ, List.set_cons_zero]
  refine ⟨t4.size, br2 (fun e1 => ?_) (fun e1 => ?_)⟩
  · have e1 : decide (V.str (cutS z (some ((z.length - r.length : Nat) : Int)) (some (((z.length - r.length : Nat) : Int) + 1))) = V.str "}") = true := e1
    rw [str_dec (cut_1 t4) "}", e125] at e1
    rw [if_pos e1] at w1
    have w1 : rFlds (rForm n) (cs0.length + 1) none cs0 = some (acc ++ [(kk, ff)], r.drop 1) := w1
    have r1 := take1_len e1
    refine ⟨_, .inl ⟨sqL_of hL4, fun l nl => ?_⟩⟩
    generalize gl : upd _ l _ = H5
    obtain ⟨s5, hl, _⟩ := lay_of' gl nl
    refine ⟨Nat.le_of_ble_eq_true rfl, fun p2 n2 => ?_⟩
    generalize g2 : upd _ p2 _ = H6
    obtain ⟨s6, h2, _⟩ := lay_of' g2 n2
    refine ⟨Nat.le_of_ble_eq_true rfl, fun p3 n3 => ?_⟩
    generalize g3 : upd _ p3 _ = H7
    obtain ⟨s7, h3, _⟩ := lay_of' g3 n3
    refine q _ _ (((S4.trans s5).trans s6).trans s7) ?_
    rw [w1]
    refine ⟨p3, _, rfl, ?_, .rcd (s7 _ _ h2) ((s6.trans s7) _ _ hl) (xs4.on (tupS_of ((s5.trans s6).trans s7)))⟩
    rw [h3, List.length_drop, show (((z.length - r.length : Nat) : Int) + 1) = ((z.length - (r.length - 1) : Nat) : Int) by omega]
  have e1 : decide (V.str (cutS z (some ((z.length - r.length : Nat) : Int)) (some (((z.length - r.length : Nat) : Int) + 1))) = V.str "}") = false := e1
  rw [str_dec (cut_1 t4) "}", e125] at e1
  rw [if_neg (by rw [e1]; decide)] at w1
  refine ⟨t4.size, br2 (fun e2 => ?_) (fun e2 => ?_)⟩
  · have e2 : (!decide (V.str (cutS z (some ((z.length - r.length : Nat) : Int)) (some (((z.length - r.length : Nat) : Int) + 2))) = V.str ", ")) = true := e2
    rw [str_dec (cut_2 t4) ", ", e44] at e2
    rw [if_neg (by simpa using e2)] at w1
    exact no w1 _ S4
  have e2 : (!decide (V.str (cutS z (some ((z.length - r.length : Nat) : Int)) (some (((z.length - r.length : Nat) : Int) + 2))) = V.str ", ")) = false := e2
  rw [str_dec (cut_2 t4) ", ", e44] at e2
  have e2 : (r.take 2 == [44, 32]) = true := by simpa using e2
  rw [if_pos e2] at w1
  have r2 := take2_len e2
  refine ⟨_, rfl, _, _, rfl, rfl, ⟨z.length - r.length + 2, g, r.drop 2, acc ++ [(kk, ff)], vs ++ [.ref bb], some (.str (mkS kk)), some (.ref p), ?_, t4.on r2, by rw [List.length_drop]; omega, S4, hL4, xs4, ?_, ?_⟩, ?_⟩
  · show [_, some (V.int (((z.length - r.length : Nat) : Int) + 2)), _, _, _, _] = _
    rw [show (((z.length - r.length : Nat) : Int) + 2) = ((z.length - r.length + 2 : Nat) : Int) by omega]
  · rw [List.length_append]
    simp
    omega
  · rw [w1, Option.map_map, lastN_app]
    congr 1
    funext p
    simp
  · show z.length - (((z.length - r.length : Nat) : Int) + 2).toNat < z.length - ((m : Int)).toNat
    omega
theorem no_rl (T : Top K mg) : Ok_read_list P w base T 2 (fun _ _ _ _ => False) := ⟨fun _ _ _ _ h => h.elim, fun _ _ _ _ _ _ _ _ _ _ _ _ _ h => h.elim⟩
theorem no_rfl (T : Top K mg) : Ok_read_fields P w base T 2 (fun _ _ _ _ => False) := ⟨fun _ _ _ _ h => h.elim, fun _ _ _ _ _ _ _ _ _ _ _ _ _ h => h.elim⟩
theorem ok_rf (T : Top K mg) : ∀ n, Ok_read_form P w base T (3 * n + 4) (sp_rf n)
  | 0 => ok_rform T 0 3 (ok_rbare0 T 2 (by decide) 0 _ _ (no_rl T) (no_rfl T) (fun m e => by cases e) fun m e => by cases e)
  | n + 1 => ok_rform T (n + 1) (3 * n + 6) (ok_rbare0 T (3 * n + 5) (by omega) (n + 1) _ _ (ok_rlist T n (3 * n + 4) (by omega) (ok_rf T n)) (ok_rflds T n (3 * n + 4) (by omega) (ok_rf T n)) (fun m e => by cases e; rfl) fun m e => by cases e; rfl)
end
end Sk
/-! Sk: written data as values: GoodV, literals -/
namespace Sk
open PySem PySem.Spec PyProof.Rows L2
def litFL : Lit → Option V
  | .non => some .non
  | .bl b => some (.bl b)
  | .int i => some (.int i)
  | .str z => some (.str z)
  | _ => none
def flatB : V → Bool
  | .non => true
  | .bl _ => true
  | .int i => Nat.ble i.natAbs (10 ^ 30)
  | v => okT 24 v
theorem flatB_ok {v : V} (h : flatB v = true) : FlatOk v := by
  cases v with
  | non => trivial
  | bl b => trivial
  | int i => exact Nat.le_of_ble_eq_true h
  | str z =>
    obtain ⟨z', e, t⟩ := okT_ok (n := 24) (x := .str z) h
    cases e
    exact t
  | _ => cases h
theorem rep_flat {H : Hp} {v x : V} {l : Lit} (r : Rep H v l) (h : litFL l = some x) : v = x := by
  cases r <;> first | (cases h; rfl) | cases h
def goodL : Nat → Lit → Bool
  | 0, l => match litFL l with
    | some x => flatB x
    | none => false
  | n + 1, l => match l with
    | .tup ls => Nat.ble ls.length 3 && ls.all (goodL n)
    | .dic ks ls => Nat.ble ks.length 3 && (ks.all (fun k => okN (.str k)) && (nodupS ks && ls.all (goodL n)))
    | l => match litFL l with
      | some x => flatB x
      | none => false
def valL : List Str → List Lit → Str → Lit
  | k :: ks, l :: ls, w => if k.cps.toList == w.cps.toList then l else valL ks ls w
  | _, _, _ => .non
def litL : Nat → Lit → Str
  | 0, l => match litFL l with
    | some x => litF x
    | none => ""
  | n + 1, l => match l with
    | .tup ls => "[" ++ Txt.join "," (ls.map (litL n)) ++ "]"
    | .dic ks ls => "{" ++ Txt.join "," ((sortN ks).map fun w => rowL w (litL n (valL ks ls w))) ++ "}"
    | l => match litFL l with
      | some x => litF x
      | none => ""
theorem nms_of : ∀ {kvs : List (Key × V)} {ks : List Str}, kvs.map (·.1) = ks.map Sum.inr → nms kvs = ks
  | [], [], _ => rfl
  | [], _ :: _, h => by cases h
  | _ :: _, [], h => by cases h
  | (k, v) :: r, z :: ks, h => by
    have h1 : k = .inr z := (List.cons.inj h).1
    subst h1
    show z :: nms r = z :: ks
    rw [nms_of (List.cons.inj h).2]
theorem val_rep {H : Hp} : ∀ {kvs : List (Key × V)} {ks : List Str} {ls : List Lit}, kvs.map (·.1) = ks.map Sum.inr → Reps H (kvs.map (·.2)) ls → ∀ w, w ∈ ks → ∃ v, valV kvs (.inr w) = some v ∧ Rep H v (valL ks ls w)
  | [], [], _, _, _, w, hw => by cases hw
  | [], _ :: _, _, h, _, _, _ => by cases h
  | _ :: _, [], _, h, _, _, _ => by cases h
  | (k, v) :: r, z :: ks, ls, h, t, w, hw => by
    have h1 : k = .inr z := (List.cons.inj h).1
    subst h1
    cases t with
    | cons a b =>
      rename_i l ls
      by_cases e : z = w
      · subst e
        refine ⟨v, valV_pos rfl, ?_⟩
        show Rep H v (if z.cps.toList == z.cps.toList then l else _)
        rw [if_pos (beq_self_eq_true _)]
        exact a
      · have hw' : w ∈ ks := by
          rcases List.mem_cons.mp hw with q | q
          · exact absurd q.symm e
          · exact q
        obtain ⟨x, e1, e2⟩ := val_rep (List.cons.inj h).2 b w hw'
        refine ⟨x, ?_, ?_⟩
        · rw [valV_neg (fun q => e (Sum.inr.inj q))]
          exact e1
        · show Rep H x (if z.cps.toList == w.cps.toList then l else valL ks ls w)
          rw [if_neg (fun q => e (str_ext (by simpa using q)))]
          exact e2
theorem reps_all {H : Hp} {P : V → Prop} {Q : Lit → Prop} (h : ∀ v l, Rep H v l → Q l → P v) : ∀ {vs : List V} {ls : List Lit}, Reps H vs ls → (∀ l ∈ ls, Q l) → ∀ v ∈ vs, P v
  | _, _, .nil, _, v, hv => by cases hv
  | _, _, .cons a b, hq, v, hv => by
    rcases List.mem_cons.mp hv with e | e
    · rw [e]
      exact h _ _ a (hq _ (List.mem_cons_self ..))
    · exact reps_all h b (fun l hl => hq l (List.mem_cons_of_mem _ hl)) v e
theorem reps_map {H : Hp} {f : V → Str} {g : Lit → Str} {Q : Lit → Prop} (h : ∀ v l, Rep H v l → Q l → f v = g l) : ∀ {vs : List V} {ls : List Lit}, Reps H vs ls → (∀ l ∈ ls, Q l) → vs.map f = ls.map g
  | _, _, .nil, _ => rfl
  | _, _, .cons a b, hq => by
    rw [List.map_cons, List.map_cons, h _ _ a (hq _ (List.mem_cons_self ..)), reps_map h b fun l hl => hq l (List.mem_cons_of_mem _ hl)]
theorem good_flat {H : Hp} {v : V} {l : Lit} (n : Nat) (r : Rep H v l) (h : (match litFL l with | some x => flatB x | none => false) = true) : GoodV H n v ∧ litH H n v = (match litFL l with | some x => litF x | none => "") := by
  split at h
  · rename_i x e
    have := rep_flat r e
    subst this
    have f := flatB_ok h
    exact ⟨f.good n, by rw [lit_flat f]⟩
  · cases h
theorem keys_mem {kvs : List (Key × V)} {ks : List Str} (h : kvs.map (·.1) = ks.map Sum.inr) (p : Key × V) (hp : p ∈ kvs) : ∃ z ∈ ks, p.1 = .inr z := by
  have : p.1 ∈ kvs.map (·.1) := List.mem_map_of_mem hp
  rw [h] at this
  obtain ⟨z, hz, e⟩ := List.mem_map.mp this
  exact ⟨z, hz, e.symm⟩
theorem good_rep {H : Hp} : ∀ (n : Nat) (v : V) (l : Lit), Rep H v l → goodL n l = true → GoodV H n v ∧ litH H n v = litL n l
  | 0, v, l, r, h => good_flat 0 r h
  | n + 1, v, l, r, h => by
    cases l with
    | tup ls =>
      cases r with
      | tup ha rs =>
        have h : (Nat.ble ls.length 3 && ls.all (goodL n)) = true := h
        have h := Bool.and_eq_true_iff.mp h
        have all := List.all_eq_true.mp h.2
        have l3 := Nat.le_of_ble_eq_true h.1
        have len := rs.length
        refine ⟨.inr (.inl ⟨_, _, rfl, ha, by omega, reps_all (Q := fun l => goodL n l = true) (fun v l r h => (good_rep n v l r h).1) rs all⟩), ?_⟩
        rw [lit_tup ha, reps_map (g := litL n) (Q := fun l => goodL n l = true) (fun v l r h => (good_rep n v l r h).2) rs all]
        rfl
    | dic ks ls =>
      cases r with
      | dic ha hk rs =>
        rename_i a kvs
        have h : (Nat.ble ks.length 3 && (ks.all (fun k => okN (.str k)) && (nodupS ks && ls.all (goodL n)))) = true := h
        have h := Bool.and_eq_true_iff.mp h
        have h2 := Bool.and_eq_true_iff.mp h.2
        have h3 := Bool.and_eq_true_iff.mp h2.2
        have all := List.all_eq_true.mp h3.2
        have l3 := Nat.le_of_ble_eq_true h.1
        have lk : kvs.length = ks.length := by
          have := congrArg List.length hk
          simpa using this
        have nok : ∀ z ∈ ks, NameOk z := fun z hz => by
          obtain ⟨z', e, t⟩ := okN_ok (List.all_eq_true.mp h2.1 z hz)
          cases e
          exact t
        have gv := reps_all (P := fun v => GoodV H n v) (Q := fun l => goodL n l = true) (fun v l r h => (good_rep n v l r h).1) rs all
        refine ⟨.inr (.inr ⟨_, _, rfl, ha, ⟨by omega, ?_, fun p hp => ?_⟩, fun p hp => gv _ (List.mem_map_of_mem hp)⟩), ?_⟩
        · rw [hk]
          exact List.Pairwise.map Sum.inr (fun a b h e => h (Sum.inr.inj e)) (nodupS_ok ks h3.1)
        · obtain ⟨z, hz, e⟩ := keys_mem hk p hp
          exact ⟨z, e, nok z hz⟩
        · rw [lit_dict ha, nms_of hk]
          show _ = ("{" : Str) ++ Txt.join "," ((sortN ks).map fun w => rowL w (litL n (valL ks ls w))) ++ "}"
          congr 3
          refine List.map_congr_left fun w hw => ?_
          obtain ⟨v, e1, e2⟩ := val_rep hk rs w (mem_sort.mp hw)
          rw [e1]
          have gl : goodL n (valL ks ls w) = true := by
            have mem : ∀ (ks : List Str) (ls : List Lit), ks.length = ls.length → w ∈ ks → valL ks ls w ∈ ls := by
              intro ks
              induction ks with
              | nil => intro ls _ hw; cases hw
              | cons k ks ih =>
                intro ls hl hw
                cases ls with
                | nil => cases hl
                | cons l ls =>
                  show (if k.cps.toList == w.cps.toList then l else valL ks ls w) ∈ l :: ls
                  split
                  · exact List.mem_cons_self ..
                  · rename_i ne
                    refine List.mem_cons_of_mem _ (ih ls (by simpa using hl) ?_)
                    rcases List.mem_cons.mp hw with q | q
                    · rw [q] at ne
                      exact absurd (beq_self_eq_true _) ne
                    · exact q
            refine all _ (mem ks ls ?_ (mem_sort.mp hw))
            have := rs.length
            rw [List.length_map] at this
            omega
          show rowL w (litH H n v) = _
          rw [(good_rep n v _ e2 gl).2]
    | non => exact good_flat (n + 1) r h
    | bl b => exact good_flat (n + 1) r h
    | int i => exact good_flat (n + 1) r h
    | str z => exact good_flat (n + 1) r h
    | lst ls => cases h
end Sk
/-! Sk: written trees -/
namespace Sk
open PySem PySem.Spec PyProof.Rows L2
def eqS (a b : Str) : Bool := a.cps.toList == b.cps.toList
theorem eqS_ok {a b : Str} (h : eqS a b = true) : a = b := str_ext (by simpa [eqS] using h)
theorem eqS_no {a b : Str} (h : eqS a b = false) : a ≠ b := fun e => by
  rw [e] at h
  simp [eqS] at h
def strsL : List Lit → Option (List Str)
  | [] => some []
  | .str z :: r => if okT 24 (.str z) then (strsL r).map (z :: ·) else none
  | _ => none
def pairsL : List Lit → Option (List (Str × Str))
  | [] => some []
  | .tup [.str w, .str z] :: r => if okN (.str w) && okT 24 (.str z) then (pairsL r).map ((w, z) :: ·) else none
  | _ => none
def attOf : Lit → Option Att
  | .tup [.str n, .str z] => if okN (.str n) && (!eqS n "href" && okT 24 (.str z)) then some (.plain n z) else none
  | .tup [.str n, .tup [.tup ws, .tup ps]] => if eqS n "href" && (Nat.ble 1 ws.length && (Nat.ble ws.length 3 && Nat.ble ps.length 3)) then (match strsL ws, pairsL ps with | some a, some b => some (.addr a b) | _, _ => none) else none
  | _ => none
def attsOf : List Lit → Option (List Att)
  | [] => some []
  | l :: r => match attOf l, attsOf r with
    | some a, some as => some (a :: as)
    | _, _ => none
def ndsOf (f : Lit → Option Nd) : List Lit → Option (List Nd)
  | [] => some []
  | l :: r => match f l, ndsOf f r with
    | some a, some as => some (a :: as)
    | _, _ => none
def ndOf : Nat → Lit → Option Nd
  | 0, _ => none
  | n + 1, l => match l with
    | .tup [.str k, .str z] => if eqS k "text" then (if okT 24 (.str z) && Nat.ble 1 z.length then some (.text z) else none) else if eqS k "data" && goodL 6 (.str z) then some (.data (litL 6 (.str z))) else none
    | .tup [.str k, x] => if eqS k "data" && goodL 6 x then some (.data (litL 6 x)) else none
    | .tup [.str k, .str nm, .tup as, .tup ns] => if eqS k "element" && (okN (.str nm) && (!eqS nm "data" && (Nat.ble as.length 3 && Nat.ble ns.length 4))) then
        (match attsOf as, ndsOf (ndOf n) ns with | some a, some b => if noTwo b then some (.elem nm a b) else none | _, _ => none) else none
    | _ => none
theorem okT_str {n : Nat} {z : Str} (h : okT n (.str z) = true) : TextOk n z := by
  obtain ⟨z', e, t⟩ := okT_ok h
  cases e
  exact t
theorem okN_str {z : Str} (h : okN (.str z) = true) : NameOk z := by
  obtain ⟨z', e, t⟩ := okN_ok h
  cases e
  exact t
theorem strs_rep {H : Hp} : ∀ {ls : List Lit} {zs : List Str} {vs : List V}, strsL ls = some zs → Reps H vs ls → vs = zs.map V.str ∧ (∀ z ∈ zs, TextOk 24 z) ∧ zs.length = ls.length
  | [], zs, vs, h, r => by
    cases h
    cases r
    exact ⟨rfl, (fun z hz => by cases hz), rfl⟩
  | l :: ls, zs, vs, h, r => by
    cases r with
    | cons a b =>
      cases a with
      | str z =>
        unfold strsL at h
        split at h
        · rename_i c
          obtain ⟨zs', h', rfl⟩ := Option.map_eq_some_iff.mp h
          obtain ⟨e1, e2, e3⟩ := strs_rep h' b
          refine ⟨by rw [e1]; rfl, fun x hx => ?_, by rw [List.length_cons, List.length_cons, e3]⟩
          rcases List.mem_cons.mp hx with q | q
          · rw [q]
            exact okT_str c
          · exact e2 x q
        · cases h
      | _ => cases h
theorem pairs_rep {H : Hp} : ∀ {ls : List Lit} {ps : List (Str × Str)} {vs : List V}, pairsL ls = some ps → Reps H vs ls → vs.length = ps.length ∧ ps.length = ls.length ∧ ∀ (i : Nat) x p, vs[i]? = some x → ps[i]? = some p → ∃ b, x = .ref b ∧ H b = some (.tup [.str p.1, .str p.2]) ∧ NameOk p.1 ∧ TextOk 24 p.2
  | [], ps, vs, h, r => by
    cases h
    cases r
    exact ⟨rfl, rfl, fun i x p hx => by simp at hx⟩
  | l :: ls, ps, vs, h, r => by
    unfold pairsL at h
    split at h
    · rename_i e
      cases e
    · rename_i w z r' e
      cases e
      split at h
      · rename_i c
        have c := Bool.and_eq_true_iff.mp c
        obtain ⟨ps', h', rfl⟩ := Option.map_eq_some_iff.mp h
        cases r with
        | cons a b =>
          obtain ⟨e1, e2, e3⟩ := pairs_rep h' b
          refine ⟨by rw [List.length_cons, List.length_cons, e1], by rw [List.length_cons, List.length_cons, e2], fun i x p hx hp => ?_⟩
          cases a with
          | tup ha rs =>
            cases rs with
            | cons r1 rs =>
              cases rs with
              | cons r2 rs =>
                cases rs
                cases r1
                cases r2
                cases i with
                | zero =>
                  cases hx
                  cases hp
                  exact ⟨_, rfl, ha, okN_str c.1, okT_str c.2⟩
                | succ i => exact e3 i x p (by simpa using hx) (by simpa using hp)
      · cases h
    · cases h
theorem att_rep {H : Hp} {v : V} {l : Lit} {a : Att} (r : Rep H v l) (h : attOf l = some a) : AttV H v a := by
  unfold attOf at h
  split at h
  · split at h
    · rename_i c
      have c := Bool.and_eq_true_iff.mp c
      have c2 := Bool.and_eq_true_iff.mp c.2
      cases h
      cases r with
      | tup ha rs =>
        cases rs with
        | cons r1 rs =>
          cases rs with
          | cons r2 rs =>
            cases rs
            cases r1
            cases r2
            exact ⟨_, rfl, ha, okN_str c.1, eqS_no (by simpa using c2.1), okT_str c2.2⟩
    · cases h
  · split at h
    · rename_i c
      have c := Bool.and_eq_true_iff.mp c
      have c2 := Bool.and_eq_true_iff.mp c.2
      have c3 := Bool.and_eq_true_iff.mp c2.2
      split at h
      · rename_i hs hp
        cases h
        cases r with
        | tup ha rs =>
          cases rs with
          | cons r1 rs =>
            cases rs with
            | cons r2 rs =>
              cases rs
              cases r1
              cases r2 with
              | tup hb rs2 =>
                cases rs2 with
                | cons s1 rs2 =>
                  cases rs2 with
                  | cons s2 rs2 =>
                    cases rs2
                    cases s1 with
                    | tup hw rw' =>
                      cases s2 with
                      | tup hq rq =>
                        have e := eqS_ok c.1
                        subst e
                        obtain ⟨e1, e2, e3⟩ := strs_rep hs rw'
                        obtain ⟨f1, f2, f3⟩ := pairs_rep hp rq
                        subst e1
                        have := Nat.le_of_ble_eq_true c2.1
                        have := Nat.le_of_ble_eq_true c3.1
                        have := Nat.le_of_ble_eq_true c3.2
                        exact ⟨_, _, _, _, rfl, ha, hb, ⟨_, rfl, hw, e2⟩, by omega, by omega, ⟨_, _, rfl, hq, f1, f3⟩, by omega⟩
      · cases h
    · cases h
  · cases h
theorem atts_rep {H : Hp} : ∀ {ls : List Lit} {as : List Att} {vs : List V}, attsOf ls = some as → Reps H vs ls → AttsV H vs as ∧ as.length = ls.length
  | [], as, vs, h, r => by
    cases h
    cases r
    exact ⟨.nil, rfl⟩
  | l :: ls, as, vs, h, r => by
    unfold attsOf at h
    split at h
    · rename_i h1 h2
      cases h
      cases r with
      | cons a b =>
        obtain ⟨e1, e2⟩ := atts_rep h2 b
        exact ⟨.cons (att_rep a h1) e1, by rw [List.length_cons, List.length_cons, e2]⟩
    · cases h
theorem nds_rep {H : Hp} {f : Lit → Option Nd} (hf : ∀ v l nd, Rep H v l → f l = some nd → NdV H v nd) : ∀ {ls : List Lit} {ns : List Nd} {vs : List V}, ndsOf f ls = some ns → Reps H vs ls → NdsV H vs ns ∧ ns.length = ls.length
  | [], as, vs, h, r => by
    cases h
    cases r
    exact ⟨.nil, rfl⟩
  | l :: ls, as, vs, h, r => by
    unfold ndsOf at h
    split at h
    · rename_i h1 h2
      cases h
      cases r with
      | cons a b =>
        obtain ⟨e1, e2⟩ := nds_rep hf h2 b
        exact ⟨.cons (hf _ _ _ a h1) e1, by rw [List.length_cons, List.length_cons, e2]⟩
    · cases h
theorem nd_rep {H : Hp} : ∀ (n : Nat) (v : V) (l : Lit) (nd : Nd), Rep H v l → ndOf n l = some nd → NdV H v nd
  | 0, _, _, _, _, h => by cases h
  | n + 1, v, l, nd, r, h => by
    unfold ndOf at h
    split at h
    · split at h
      · rename_i c
        have e := eqS_ok c
        subst e
        split at h
        · rename_i c
          have c := Bool.and_eq_true_iff.mp c
          cases h
          cases r with
          | tup ha rs =>
            cases rs with
            | cons r1 rs =>
              cases rs with
              | cons r2 rs =>
                cases rs
                cases r1
                cases r2
                exact .text ha (okT_str c.1) (Nat.le_of_ble_eq_true c.2)
        · cases h
      · split at h
        · rename_i c
          have c := Bool.and_eq_true_iff.mp c
          have e := eqS_ok c.1
          subst e
          cases h
          cases r with
          | tup ha rs =>
            cases rs with
            | cons r1 rs =>
              cases rs with
              | cons r2 rs =>
                cases rs
                cases r1
                obtain ⟨g1, g2⟩ := good_rep 6 _ _ r2 c.2
                rw [← g2]
                exact .data ha g1
        · cases h
    · split at h
      · rename_i c
        have c := Bool.and_eq_true_iff.mp c
        have e := eqS_ok c.1
        subst e
        cases h
        cases r with
        | tup ha rs =>
          cases rs with
          | cons r1 rs =>
            cases rs with
            | cons r2 rs =>
              cases rs
              cases r1
              obtain ⟨g1, g2⟩ := good_rep 6 _ _ r2 c.2
              rw [← g2]
              exact .data ha g1
      · cases h
    · split at h
      · rename_i c
        have c := Bool.and_eq_true_iff.mp c
        have c2 := Bool.and_eq_true_iff.mp c.2
        have c3 := Bool.and_eq_true_iff.mp c2.2
        have c4 := Bool.and_eq_true_iff.mp c3.2
        have e := eqS_ok c.1
        subst e
        split at h
        · rename_i h1 h2
          split at h
          · rename_i nt
            cases h
            cases r with
            | tup ha rs =>
              cases rs with
              | cons r1 rs =>
                cases rs with
                | cons r2 rs =>
                  cases rs with
                  | cons r3 rs =>
                    cases rs with
                    | cons r4 rs =>
                      cases rs
                      cases r1
                      cases r2
                      cases r3 with
                      | tup hp rp =>
                        cases r4 with
                        | tup hq rq =>
                          obtain ⟨e1, e2⟩ := atts_rep h1 rp
                          obtain ⟨f1, f2⟩ := nds_rep (nd_rep n) h2 rq
                          have := Nat.le_of_ble_eq_true c4.1
                          have := Nat.le_of_ble_eq_true c4.2
                          exact .elem ha (okN_str c2.1) (eqS_no (by simpa using c3.1)) hp e1 (by omega) hq f1 (by omega) nt
          · cases h
        · cases h
      · cases h
    · cases h
end Sk
/-! Sk: lists of written rows, put together and appended to -/
namespace Sk
open PySem PySem.Spec PyProof.Rows L2
theorem newP_upd {H0 H : Hp} {L : Addr} {o : HO} : Same (hide L (newP H0 H)) (hide L (newP H0 (upd H L o))) := fun b u e => by
  obtain ⟨e1, e2⟩ := hide_some e
  obtain ⟨e3, e4⟩ := newP_some e2
  rw [hide_ne e1, newP_at e3, upd_ne e1]
  exact e4
/-- at L a list of at most n rows, all made behind H0, of each p -/
structure Rows (p : Lit → Bool) (H0 : Hp) (n : Nat) (L : Addr) (H : Hp) : Prop where
  same : Same H0 H
  new : H0 L = none
  rows : ∃ vs ls, H L = some (.lst vs) ∧ Reps (hide L (newP H0 H)) vs ls ∧ ls.all p = true ∧ ls.length ≤ n
theorem Rows.on {p : Lit → Bool} {H0 H H' : Hp} {L : Addr} {n : Nat} (S : Rows p H0 n L H) (s : Same H H') : Rows p H0 n L H' := by
  obtain ⟨vs, ls, h1, h2, h3⟩ := S.rows
  exact ⟨S.same.trans s, S.new, vs, ls, s _ _ h1, h2.same (hide_same (newP_same s)), h3⟩
theorem rows_new {p : Lit → Bool} {H0 H : Hp} {L : Addr} {vs : List V} {ls : List Lit} (s : Same H0 H) (r : Reps (newP H0 H) vs ls) (hp : ls.all p = true) (n : H L = none) : Rows p H0 ls.length L (upd H L (.lst vs)) := by
  refine ⟨s.trans (same_new n), s.free n, vs, ls, upd_same, r.same fun b o e => ?_, hp, Nat.le_refl _⟩
  obtain ⟨e1, e2⟩ := newP_some e
  have ne := ne_of_none e2 n
  rw [hide_ne ne, newP_at e1, upd_ne ne]
  exact e2
theorem Rows.cat {p : Lit → Bool} {H0 H H1 : Hp} {L : Addr} {n : Nat} {v : V} {ms : List Lit} (S : Rows p H0 n L H) (s : Same H H1) (r : Rep (newP H H1) v (.lst ms)) (hp : ms.all p = true) (hn : n + ms.length ≤ 1000) :
    ∃ b xs ys, v = .ref b ∧ H1 L = some (.lst xs) ∧ H1 b = some (.lst ys) ∧ xs.length + ys.length ≤ sizeLine ∧ ∀ N, H1 N = none → Rows p H0 (n + ms.length) N (upd H1 N (.lst (xs ++ ys))) := by
  cases r with
  | lst hb rs =>
    obtain ⟨vs, ls, h1, h2, h3, h4⟩ := S.rows
    have hb1 := (newP_some hb).2
    have a := h2.length
    have b := rs.length
    refine ⟨_, vs, _, rfl, s _ _ h1, hb1, size_le (by omega), fun N nN => ?_⟩
    have r1 : Reps (newP H0 H1) vs ls := (h2.same hide_sub).same (newP_same s)
    have r2 := rs.same (newP_less' S.same)
    have := rows_new (p := p) (S.same.trans s) (r1.app r2) (by rw [List.all_append, h3, hp]; rfl) nN
    rw [List.length_append] at this
    obtain ⟨vs', ls', k1, k2, k3, k4⟩ := this.rows
    exact ⟨this.same, this.new, vs', ls', k1, k2, k3, by omega⟩
theorem Rows.app' {p : Lit → Bool} {H0 H : Hp} {L : Addr} {n : Nat} {v : V} {l : Lit} {vs : List V} (S : Rows p H0 n L H) (hL : H L = some (.lst vs)) (r : Rep (hide L (newP H0 H)) v l) (hp : p l = true) : Rows p H0 (n + 1) L (upd H L (.lst (vs ++ [v]))) := by
  obtain ⟨vs', ls, h1, h2, h3, h4⟩ := S.rows
  rw [hL] at h1
  cases h1
  refine ⟨fun b o hb => ?_, S.new, _, ls ++ [l], upd_same, (h2.app (.cons r .nil)).same newP_upd, by rw [List.all_append, h3]; simp [hp], by rw [List.length_append]; exact Nat.succ_le_succ h4⟩
  rw [upd_ne (ne_of_none hb S.new)]
  exact S.same b o hb
theorem Rows.app {p : Lit → Bool} {H0 H H1 : Hp} {L : Addr} {n : Nat} {v : V} {l : Lit} (S : Rows p H0 n L H) (s : Same H H1) (r : Rep (newP H H1) v l) (hp : p l = true) (hn : n ≤ 1000) :
    ∃ xs, H1 L = some (.lst xs) ∧ xs.length < sizeLine ∧ Rows p H0 (n + 1) L (upd H1 L (.lst (xs ++ [v]))) := by
  have S1 := S.on s
  obtain ⟨vs, ls, h1, h2, h3, h4⟩ := S1.rows
  obtain ⟨vs0, _, h0, _⟩ := S.rows
  have a := h2.length
  refine ⟨vs, h1, size_lt (by omega), S1.app' h1 (r.same fun b o e => ?_) hp⟩
  obtain ⟨e1, e2⟩ := newP_some e
  rw [hide_ne (fun z => by rw [z, h0] at e1; cases e1), newP_at (S.same.free e1)]
  exact e2
theorem Rows.has {p : Lit → Bool} {H0 H : Hp} {L : Addr} {n : Nat} (S : Rows p H0 n L H) : ∃ xs, H L = some (.lst xs) := by
  obtain ⟨vs, _, h, _⟩ := S.rows
  exact ⟨vs, h⟩
/-- rows made behind H0 stay where a list of H0 is appended to -/
theorem Rows.other {p : Lit → Bool} {H0 H : Hp} {L N : Addr} {n : Nat} {o u : HO} (h0 : H0 L = some u) (h : ∃ vs ls, H N = some (.lst vs) ∧ Reps (hide N (newP H0 H)) vs ls ∧ ls.all p = true ∧ ls.length ≤ n) (nN : H0 N = none) :
    ∃ vs ls, upd H L o N = some (.lst vs) ∧ Reps (hide N (newP H0 (upd H L o))) vs ls ∧ ls.all p = true ∧ ls.length ≤ n := by
  obtain ⟨vs, ls, h1, h2, h3⟩ := h
  refine ⟨vs, ls, (upd_ne (fun z => by rw [z, h0] at nN; cases nN)).trans h1, h2.same fun b w e => ?_, h3⟩
  obtain ⟨e1, e2⟩ := hide_some e
  obtain ⟨e3, e4⟩ := newP_some e2
  rw [hide_ne e1, newP_at e3, upd_ne (fun z => by rw [z, h0] at e3; cases e3)]
  exact e4
end Sk
/-! Sk: a head's facts over fewer objects (the module's names, their code, classes' dicts and methods); the run in parts -/
namespace Sk
open PySem PySem.Spec PyProof.Rows L2
def refsA (g : Addr → Option Obj) (a : Addr) : List Addr := match g a with
  | some o => He.refsD o
  | none => []
def refsC (g : Addr → Option Obj) (a : Addr) : List Addr := match g a with
  | some ⟨_, _, .cls cd, _⟩ => refsA g cd.ns
  | _ => []
def asV (g : Addr → Option Obj) : List Addr := mainGlobals :: (refsA g mainGlobals ++ ((refsA g mainGlobals).flatMap (refsA g) ++ ((refsA g mainGlobals).flatMap (refsC g) ++ (((refsA g mainGlobals).flatMap (refsC g)).flatMap (refsA g) ++ [cStatics, sysModules]))))
def fragV (g : Addr → Option Obj) : Fg := He.frT g (asV g)
def seenV (fa : List He.Fa) (fn : List He5.DefA) (ts : List He.Tab) (tf : List He.Defn) (ex : Fg → Bool) (g : Addr → Option Obj) : AlU :=
  ((He5.obsA fa fn (fragV g), ts.map fun t => He.dicW (fragV g) (t.1 (fragV g))), ex (fragV g) && He.tabsB g tf (fragV g))
theorem saysV_of {fa : List He.Fa} {fn : List He5.DefA} {ts : List He.Tab} {tf : List He.Defn} {ex : Fg → Bool} {w : World} {h : Heap} (e : seenV fa fn ts tf ex h.get? = wantU fn ts w) : SaysU fa fn ts tf ex w h (fragV h.get?) := by
  have a1 : He5.SaysA fa fn (fragV h.get?) := congrArg (fun z : AlU => z.1.1) e
  have a2 : (ts.map fun t => He.dicW (fragV h.get?) (t.1 (fragV h.get?))) = ts.map fun t => some (He.keysIn w.params t.2) := congrArg (fun z : AlU => z.1.2) e
  have a3 : (ex (fragV h.get?) && He.tabsB h.get? tf (fragV h.get?)) = true := congrArg (fun z : AlU => z.2) e
  obtain ⟨b1, b2⟩ := Bool.and_eq_true_iff.mp a3
  refine ⟨a1, a2, b1, fun p hp => ?_⟩
  obtain ⟨c1, c2⟩ := Bool.and_eq_true_iff.mp (List.all_eq_true.mp b2 p hp)
  refine ⟨c1, ?_⟩
  cases q : h.get? (He.cT (fragV h.get?) p).2 with
  | none =>
    rw [q] at c2
    cases c2
  | some o =>
    rw [q] at c2
    exact ⟨He.frT_none q c2, by rw [He.emptyTab_eq c2]⟩
def hookV (fa : List He.Fa) (fn : List He5.DefA) (ts : List He.Tab) (tf : List He.Defn) (ex : Fg → Bool) : PySem.W.Hook where
  α := AlU
  obs := fun s => seenV fa fn ts tf ex s.heap.get?
  val := fun w => wantU fn ts w
  says := fun w h => ∃ K : Fg, K.In h ∧ SaysU fa fn ts tf ex w h K
  of := fun _ _ e => ⟨_, He.frT_in, saysV_of e⟩
  keeps := fun _ _ _ z k => by
    obtain ⟨K, i, c⟩ := z
    exact ⟨K, i.keeps k, c.defs, c.tabs, c.also, fun p hp => ⟨(c.made p hp).1, (c.made p hp).2.1, k _ _ (c.made p hp).2.2⟩⟩
theorem seenV_eq {fa : List He.Fa} {fn : List He5.DefA} {ts : List He.Tab} {tf : List He.Defn} {ex : Fg → Bool} {g : Addr → Option Obj} {s : Shared} (h : ∀ a, g a = s.heap.get? a) : seenV fa fn ts tf ex g = (hookV fa fn ts tf ex).obs s := by
  have : g = s.heap.get? := funext h
  subst this
  rfl
theorem run3 {α β γ δ : Type} {o : Option α} {f : α → β} {g : α → γ} {h : α → δ} {a : β} {b : γ} {c : δ} (h1 : o.map f = some a) (h2 : o.map g = some b) (h3 : o.map h = some c) : o.map (fun s => (f s, g s, h s)) = some (a, b, c) := by
  cases o with
  | none => cases h1
  | some s =>
    have h1 : some (f s) = some a := h1
    have h2 : some (g s) = some b := h2
    have h3 : some (h s) = some c := h3
    show some (f s, g s, h s) = _
    rw [Option.some.inj h1, Option.some.inj h2, Option.some.inj h3]
end Sk
/-! Sk: lists of data; comprehensions with any invariant, with a test -/
namespace Sk
open PySem PySem.Spec PyProof.Rows L2
/-- a list of data, each of p -/
def OddL (p : PyData → Bool) (H : Hp) (L : Addr) (n : Nat) : Prop := ∃ xs ds, H L = some (.lst xs) ∧ DLs H xs ds ∧ ds.all p = true ∧ xs.length ≤ n ∧ 0 < xs.length
theorem oddL_lit {p : PyData → Bool} {H H' : Hp} {v : V} {ls : List Lit} (r : Rep (newP H H') v (.lst ls)) (hp : (litDs ls).all p = true) (h0 : 0 < ls.length := by decide) : ∃ a, v = .ref a ∧ newP H H' a ≠ none ∧ OddL p (newP H H') a ls.length := by
  cases r with
  | lst h k => exact ⟨_, rfl, (by rw [h]; exact fun e => by cases e), _, _, h, k.dl, hp, by rw [k.length]; exact Nat.le_refl _, by rw [k.length]; exact h0⟩
theorem oddL_new {p : PyData → Bool} {H H1 : Hp} {vs : List V} {ls : List Lit} (s : Same H H1) (r : Reps (newP H H1) vs ls) (hp : (litDs ls).all p = true) (hl : ls.length ≤ 1000) (h0 : 0 < ls.length := by decide) : vs.length ≤ sizeLine ∧ ∀ q, H1 q = none → Same H (upd H1 q (.lst vs)) ∧ OddL p (newP H (upd H1 q (.lst vs))) q ls.length := by
  refine ⟨size_le (by rw [r.length]; omega), fun q nq => ⟨s.trans (same_new nq), vs, _, ?_, r.dl.same (newP_same (same_new nq)), hp, by rw [r.length]; exact Nat.le_refl _, by rw [r.length]; exact h0⟩⟩
  rw [newP_at (s.free nq), upd_same]
theorem OddL.on {p : PyData → Bool} {H H' : Hp} {L : Addr} {n : Nat} (h : OddL p H L n) (s : Same H H') : OddL p H' L n := by
  obtain ⟨xs, ds, h1, h2, h3⟩ := h
  exact ⟨xs, ds, s _ _ h1, h2.same s, h3⟩
theorem newP_put {H0 H : Hp} {q : Addr} {o : HO} (h0 : H0 q = none) (n : H q = none) : newP H0 (upd H q o) q = some o := by
  rw [newP_at h0, upd_same]
theorem oddL_cat {p : PyData → Bool} {H0 H1 H2 : Hp} {L b : Addr} {n m : Nat} (s01 : Same H0 H1) (h : OddL p (newP H0 H1) L n) (s : Same H1 H2) (k : OddL p (newP H1 H2) b m) (hn : n + m ≤ 1000) :
    ∃ xs ys, H2 L = some (.lst xs) ∧ H2 b = some (.lst ys) ∧ xs.length + ys.length ≤ sizeLine ∧ ∀ q, H2 q = none → Same H0 (upd H2 q (.lst (xs ++ ys))) ∧ OddL p (newP H0 (upd H2 q (.lst (xs ++ ys)))) q (n + m) := by
  obtain ⟨xs, ds, h1, h2, h3, h4, h5⟩ := h
  obtain ⟨ys, es, k1, k2, k3, k4, _⟩ := k
  have u1 := (newP_same s) _ _ h1
  refine ⟨xs, ys, (newP_some u1).2, (newP_some k1).2, size_le (by omega), fun q nq => ?_⟩
  have s2 : Same H2 (upd H2 q (.lst (xs ++ ys))) := same_new nq
  refine ⟨(s01.trans s).trans s2, xs ++ ys, ds ++ es, newP_put ((s01.trans s).free nq) nq, ?_, by rw [List.all_append, h3, k3]; rfl, by rw [List.length_append]; omega, by rw [List.length_append]; omega⟩
  exact ((h2.same ((newP_same s).trans (newP_same s2)))).app (k2.same ((newP_less' s01).trans (newP_same s2)))
section
variable {D : Addr} {H1 : Hp}
/-- [e for x in xs], any invariant -/
theorem lcI {K : PySem.W.Frag} {a : Addr} {xs : List V} {j : Nat} {te : TE} {vs : List Nat} {σ : L2.St} {Qd : Hp → Prop} (Iv : Nat → List V → Hp → Prop) (h0 : Iv 0 [] (upd H1 D (.lst []))) (hn : xs.length < 100000)
    (hS : ∀ i ys H, Iv i ys H → H D = some (.lst ys) → SqL K H a xs) (hw : ∀ x, wipe ((wipe σ vs).set j (some x)) vs = wipe σ vs)
    (turn : ∀ (i : Nat) x H ys, xs[i]? = some x → Iv i ys H → H D = some (.lst ys) → te ((wipe σ vs).set j (some x)) H (fun y H4 => H4 D = some (.lst ys) ∧ Iv (i + 1) (ys ++ [y]) (upd H4 D (.lst (ys ++ [y])))))
    (hd : ∀ H ys, Iv xs.length ys H → ys.length = xs.length → H D = some (.lst ys) → Qd H) :
    ∃ W : Nat → Nat → Hp → Prop, (∃ m, W 0 m (upd H1 D (.lst []))) ∧ ∀ i m H, W i m H →
      ((Itl K a).stop i H ∧ Qd H) ∨ ((Itl K a).go i H ∧ ∃ Nx : Hp → Prop, (∀ H', Nx H' → ∃ m', m' < m ∧ W (i + 1) m' H') ∧ ∀ x H', (Itl K a).yld i H x H' → gName j x (wipe σ vs) H' fun σ2 H2 => wipe σ2 vs = wipe σ vs ∧ tYes σ2 H2 fun b H3 =>
        if b = true then upE te σ2 H3 fun y H4 => ∃ acc, H4 D = some (.lst acc) ∧ acc.length < sizeLine ∧ Nx (upd H4 D (.lst (acc ++ [y]))) else Nx H3) := by
  refine lc_list (xs := xs) (fun i H => ∃ ys : List V, ys.length = i ∧ H D = some (.lst ys) ∧ Iv i ys H) ⟨[], rfl, upd_same, h0⟩ (fun i H _ hv => ?_) (fun i x H hx hv => ?_) (fun H hv => ?_)
  · obtain ⟨ys, _, e, v⟩ := hv
    exact hS i ys H v e
  · obtain ⟨ys, l, e, v⟩ := hv
    refine ⟨hw _, ?_⟩
    dsimp only [tYes]
    rw [if_pos rfl]
    have hi : i < xs.length := (List.getElem?_eq_some_iff.mp hx).1
    refine ⟨_, fun y H4 z => ?_, turn i x H ys hx v e⟩
    exact ⟨ys, z.1, size_lt (by omega), ys ++ [y], by rw [List.length_append, l]; rfl, upd_same, z.2⟩
  · obtain ⟨ys, l, e, v⟩ := hv
    exact hd H ys v l e
/-- [e for k in range(..) if c] -/
theorem lcF {n j : Nat} {lo : Int} {tt : TT} {te : TE} {vs : List Nat} {σ : L2.St} {Qd : Hp → Prop} (J : Hp → Prop) (Pp : V → Prop) (hp : J (upd H1 D (.lst []))) (hn : n < 100000) (jup : ∀ H l, J H → J (upd H D (.lst l)))
    (hw : ∀ x, wipe ((wipe σ vs).set j (some x)) vs = wipe σ vs)
    (turn : ∀ (i : Nat) H ys, i < n → J H → H D = some (.lst ys) → tt ((wipe σ vs).set j (some (.int (lo + i)))) H (fun b H3 => J H3 ∧ H3 D = some (.lst ys) ∧ (b = true → te ((wipe σ vs).set j (some (.int (lo + i)))) H3 (fun y H4 => J H4 ∧ H4 D = some (.lst ys) ∧ Pp y))))
    (hd : ∀ H ys, J H → ys.length ≤ n → H D = some (.lst ys) → (∀ y ∈ ys, Pp y) → Qd H) :
    ∃ W : Nat → Nat → Hp → Prop, (∃ m, W 0 m (upd H1 D (.lst []))) ∧ ∀ i m H, W i m H →
      ((Itr lo n).stop i H ∧ Qd H) ∨ ((Itr lo n).go i H ∧ ∃ Nx : Hp → Prop, (∀ H', Nx H' → ∃ m', m' < m ∧ W (i + 1) m' H') ∧ ∀ x H', (Itr lo n).yld i H x H' → gName j x (wipe σ vs) H' fun σ2 H2 => wipe σ2 vs = wipe σ vs ∧ upT tt σ2 H2 fun b H3 =>
        if b = true then upE te σ2 H3 fun y H4 => ∃ acc, H4 D = some (.lst acc) ∧ acc.length < sizeLine ∧ Nx (upd H4 D (.lst (acc ++ [y]))) else Nx H3) := by
  refine lc_range (fun i H => J H ∧ ∃ ys : List V, ys.length ≤ i ∧ H D = some (.lst ys) ∧ ∀ y ∈ ys, Pp y) ⟨hp, [], Nat.le_refl _, upd_same, fun y e => by cases e⟩ (fun i H hi hv => ?_) (fun H hv => ?_)
  · obtain ⟨j1, ys, l1, e1, q1⟩ := hv
    refine ⟨hw _, _, fun b H3 z => ?_, turn i H ys hi j1 e1⟩
    obtain ⟨j3, e3, z⟩ := z
    cases b with
    | false =>
      rw [if_neg (by decide)]
      exact ⟨j3, ys, Nat.le_succ_of_le l1, e3, q1⟩
    | true =>
      rw [if_pos rfl]
      refine ⟨_, fun y H4 z => ?_, z rfl⟩
      obtain ⟨j4, e4, p4⟩ := z
      refine ⟨ys, e4, size_lt (by omega), jup _ _ j4, ys ++ [y], by rw [List.length_append]; exact Nat.succ_le_succ l1, upd_same, fun u hu => ?_⟩
      rcases List.mem_append.mp hu with h | h
      · exact q1 u h
      · rw [List.mem_singleton.mp h]
        exact p4
  · obtain ⟨j1, ys, l1, e1, q1⟩ := hv
    exact hd H ys j1 l1 e1 q1
end
/-- what is shown small -/
def shB (d : PyData) : Bool := d.showable && (Nat.ble d.shown.length 300 && Nat.ble d.depth 10)
theorem shB_ok {d : PyData} (h : shB d = true) : ShD d 300 10 := by
  obtain ⟨h1, h2⟩ := Bool.and_eq_true_iff.mp h
  obtain ⟨h2, h3⟩ := Bool.and_eq_true_iff.mp h2
  exact ⟨h1, Nat.le_of_ble_eq_true h2, Nat.le_of_ble_eq_true h3⟩
/-- no node, and small -/
def oddB (d : PyData) : Bool := szB 12 d && (!nodeW d && shB d)
def OddD (d : PyData) : Prop := Sz d ∧ nodeW d = false ∧ ShD d 300 10
theorem oddB_ok {d : PyData} (h : oddB d = true) : OddD d := by
  obtain ⟨h1, h2⟩ := Bool.and_eq_true_iff.mp h
  obtain ⟨h2, h3⟩ := Bool.and_eq_true_iff.mp h2
  refine ⟨szB_ok _ _ h1, ?_, shB_ok h3⟩
  cases e : nodeW d with
  | false => rfl
  | true => rw [e] at h2; cases h2
/-- ("element", "p", (a,), ()) -/
def withAtt (a : PyData) : PyData := .tuple [.str "element", .str "p", .tuple [a], .tuple []]
def oddAB (a : PyData) : Bool := oddB (withAtt a)
end Sk
/-! Sk: slices and sums of tuples; trees bent -/
namespace Sk
open PySem PySem.Spec PyProof.Rows L2
theorem cut_all {xs : List V} {lo hi : Option Int} (h : HT.sIx xs.length 0 lo = 0 ∧ HT.sIx xs.length xs.length hi = xs.length) : cutV xs lo hi = xs := by
  unfold cutV
  rw [h.1, h.2, List.drop_zero, Nat.sub_zero, List.take_length]
theorem slT {K : Fg} {H : Hp} {a : Addr} {xs : List V} {lo hi : Option Int} {Q : VK} (h : H a = some (.tup xs)) (q : ∀ p H', Same H H' → H' p = some (.tup (cutV xs lo hi)) → Q (.ref p) H') : rCut K (.ref a) lo hi H Q :=
  .inr ⟨a, xs, rfl, sqT_of h, fun hw => q a H (Same.refl H) (by rw [cut_all hw]; exact h), fun _ p np => q p _ (same_new np) upd_same⟩
theorem catT {K : Fg} {H : Hp} {a b : Addr} {xs ys : List V} {Q : VK} (h : H a = some (.tup xs)) (k : H b = some (.tup ys)) (hl : xs.length + ys.length ≤ 100000) (q : ∀ p H', Same H H' → H' p = some (.tup (xs ++ ys)) → Q (.ref p) H') : rPlus K (.ref a) (.ref b) H Q := by
  refine .inr ⟨a, b, xs, ys, rfl, rfl, sqT_of h, sqT_of k, size_le hl, fun e => ?_, fun _ e => ?_, fun _ _ p np => q p _ (same_new np) upd_same⟩
  · subst e
    exact q b H (Same.refl H) k
  · subst e
    exact q a H (Same.refl H) (by rw [List.append_nil]; exact h)
theorem sIx_at {n dflt : Nat} {i : Int} (h0 : 0 ≤ i) (h1 : i ≤ n) : HT.sIx n dflt (some i) = i.toNat := by
  show (if i < 0 then (i + (n : Int)).toNat else min i.toNat n) = i.toNat
  rw [if_neg (by omega)]
  omega
theorem cut_to {xs : List V} {i : Int} (h0 : 0 ≤ i) (h1 : i ≤ xs.length) : cutV xs none (some i) = xs.take i.toNat := by
  unfold cutV
  rw [sIx_at h0 h1]
  show (xs.drop 0).take (i.toNat - 0) = _
  rw [List.drop_zero, Nat.sub_zero]
theorem cut_fr {xs : List V} {i : Int} (h0 : 0 ≤ i) (h1 : i ≤ xs.length) : cutV xs (some i) none = xs.drop i.toNat := by
  unfold cutV
  rw [sIx_at h0 h1]
  show (xs.drop i.toNat).take (xs.length - i.toNat) = _
  refine List.take_of_length_le ?_
  rw [List.length_drop]
  exact Nat.le_refl _
theorem DLs.take {H : Hp} : ∀ {vs : List V} {ds : List PyData}, DLs H vs ds → ∀ i, DLs H (vs.take i) (ds.take i)
  | _, _, .nil, i => by rw [List.take_nil, List.take_nil]; exact .nil
  | _, _, .cons h t, 0 => .nil
  | _, _, .cons h t, i + 1 => .cons h (t.take i)
theorem DLs.drop {H : Hp} : ∀ {vs : List V} {ds : List PyData}, DLs H vs ds → ∀ i, DLs H (vs.drop i) (ds.drop i)
  | _, _, .nil, i => by rw [List.drop_nil, List.drop_nil]; exact .nil
  | _, _, .cons h t, 0 => .cons h t
  | _, _, .cons h t, i + 1 => t.drop i
theorem Pool.tup {H : Hp} {a p : Addr} {xs : List V} (pl : Pool H a) (h : H p = some (.tup xs)) : p ≠ a := fun z => by
  obtain ⟨s, d, n, h1, _⟩ := pl
  rw [z, h1] at h
  cases h
theorem tupD {H : Hp} {a p : Addr} {xs : List V} {ds : List PyData} (pl : Pool H a) (h : H p = some (.tup xs)) (k : DLs (hide a H) xs ds) : DL (hide a H) (.ref p) (.tuple ds) := .tup ((hide_ne (pl.tup h)).trans h) k
theorem keep_hide {a : Addr} {H H' : Hp} (k : Keep a H H') : Same (hide a H) (hide a H') := fun b o e => by
  obtain ⟨e1, e2⟩ := hide_some e
  rw [hide_ne e1]
  exact k b o e1 e2
theorem Sz.app {xs ys : List PyData} (hx : ∀ d ∈ xs, Sz d) (hy : ∀ d ∈ ys, Sz d) (hl : xs.length + ys.length ≤ 1000) : Sz (.tuple (xs ++ ys)) := .tup (by rw [List.length_append]; omega) fun d hd => by
  rcases List.mem_append.mp hd with h | h
  · exact hx d h
  · exact hy d h
/-- a tree that is to be bent, its data -/
structure Bnt (H : Hp) (a : Addr) (v : V) (m : Nat) (d : PyData) : Prop where
  nodes : ∃ p vs ns, v = .ref p ∧ H p = some (.tup vs) ∧ NdsV H vs ns ∧ ns.length ≤ 4 ∧ levs ns ≤ m
  dl : DL (hide a H) v d
  sz : Sz d
  sh : ShD d 1100000 11
def fB : Nat → Nat
  | 0 => 1101000
  | m + 1 => fB m + 2200100
/-- no tree, and shown within bounds -/
structure BntO (H : Hp) (a : Addr) (v : V) (m : Nat) (d : PyData) : Prop where
  dl : DL (hide a H) v d
  sz : Sz d
  no : ∀ n, nodesD n d = false
  sh : ShD d (fB m) (12 + 2 * m)
theorem fB_ge : ∀ m, 1101000 ≤ fB m
  | 0 => Nat.le_refl _
  | m + 1 => Nat.le_trans (fB_ge m) (Nat.le_add_right _ _)
/-- one thing put in -/
theorem bent_in {ds : List PyData} {od : PyData} {i m : Nat} (l4 : ds.length ≤ 4) (sz : ∀ d ∈ ds, Sz d) (sh : ShL ds 1100000 10) (od' : OddD od) : Sz (.tuple (ds.take i ++ [od] ++ ds.drop i)) ∧ (∀ n, nodesD n (.tuple (ds.take i ++ [od] ++ ds.drop i)) = false) ∧ ShD (.tuple (ds.take i ++ [od] ++ ds.drop i)) (fB m) (12 + 2 * m) := by
  obtain ⟨o1, o2, o3⟩ := od'
  refine ⟨?_, fun n => nodes_bad (nodeW_ok o2 n), ?_⟩
  · refine Sz.app (fun d hd => ?_) (fun d hd => sz d (List.mem_of_mem_drop hd)) ?_
    · rcases List.mem_append.mp hd with h | h
      · exact sz d (List.mem_of_mem_take h)
      · rw [List.mem_singleton.mp h]
        exact o1
    · rw [List.length_append, List.length_take, List.length_drop, List.length_singleton]
      omega
  · have a1 : ShL (ds.take i ++ [od] ++ ds.drop i) 1100302 10 := by
      have e : ds.take i ++ [od] ++ ds.drop i = ds.take i ++ (od :: ds.drop i) := by simp
      -- both halves together are the whole
      have key : ∀ (xs ys : List PyData) (w : Nat), ShL (xs ++ ys) w 10 → ShL (xs ++ (od :: ys)) (w + 302) 10 := by
        intro xs
        induction xs with
        | nil => intro ys w h; exact (ShL.cons o3 h).mono (by omega) (Nat.le_refl _)
        | cons x xs ih =>
          intro ys w h
          obtain ⟨_, _, a, b, ha, hb, e⟩ := ShL.uncons (show ShL (x :: (xs ++ ys)) w 10 from h)
          exact (ShL.cons ha (ih ys b hb)).mono (by omega) (Nat.le_refl _)
      rw [e]
      exact key _ _ _ (by rw [List.take_append_drop]; exact sh)
    have := fB_ge m
    exact (ShD.tuple a1).mono (by omega) (by omega)
/-- an element whose nodes are bent -/
theorem bent_at {ds : List PyData} {x y z u : PyData} {i m : Nat} (l4 : ds.length ≤ 4) (sz : ∀ d ∈ ds, Sz d) (sh : ShL ds 1100000 10) (hi : ds[i]? = some (.tuple [x, y, z, u])) (ex : isS "element" x = true) {u' : PyData} (su : Sz u') (no : ∀ n, nodesD n u' = false) (shu : ShD u' (fB m) (12 + 2 * m)) :
    Sz (.tuple (ds.take i ++ [.tuple [x, y, z, u']] ++ ds.drop (i + 1))) ∧ (∀ n, nodesD n (.tuple (ds.take i ++ [.tuple [x, y, z, u']] ++ ds.drop (i + 1))) = false) ∧ ShD (.tuple (ds.take i ++ [.tuple [x, y, z, u']] ++ ds.drop (i + 1))) (fB (m + 1)) (12 + 2 * (m + 1)) := by
  have mem := List.mem_of_getElem? hi
  have sN := sz _ mem
  have zE := sN.tupE
  have shN := sh.mem mem
  have shE : ShL [x, y, z, u] 1100000 9 := ShL.inv shN
  have szN : Sz (.tuple [x, y, z, u']) := .tup (by simp) fun d hd => by
    rcases List.mem_cons.mp hd with rfl | hd
    · exact zE _ (by simp)
    · rcases List.mem_cons.mp hd with rfl | hd
      · exact zE _ (by simp)
      · rcases List.mem_cons.mp hd with rfl | hd
        · exact zE _ (by simp)
        · rw [List.mem_singleton.mp hd]
          exact su
  have noN : ∀ n, nodeD n (.tuple [x, y, z, u']) = false := fun n => by
    cases n with
    | zero => exact nodeD_elem0 ex
    | succ n =>
      rw [nodeD_elem n ex]
      show (nameD y && (!isS "data" y && (attsD z && nodesD n u'))) = false
      rw [no n]
      simp
  refine ⟨?_, fun n => nodes_bad (noN n), ?_⟩
  · refine Sz.app (fun d hd => ?_) (fun d hd => sz d (List.mem_of_mem_drop hd)) ?_
    · rcases List.mem_append.mp hd with h | h
      · exact sz d (List.mem_of_mem_take h)
      · rw [List.mem_singleton.mp h]
        exact szN
    · rw [List.length_append, List.length_take, List.length_drop, List.length_singleton]
      omega
  · have b1 : ShL [x, y, z] 1100000 9 := shE.take 3
    have b2 : ShL ([x, y, z] ++ [u']) (1100000 + (fB m + 2 + 0)) (12 + 2 * m) := ShL.app (b1.mono (Nat.le_refl _) (by omega)) (ShL.cons shu ShL.nil)
    have b3 : ShD (.tuple [x, y, z, u']) (1100000 + (fB m + 2 + 0) + 3) (12 + 2 * m + 1) := ShD.tuple b2
    have b4 : ShL (ds.take i ++ [.tuple [x, y, z, u']]) (1100000 + (1100000 + (fB m + 2 + 0) + 3 + 2 + 0)) (12 + 2 * m + 1) := ShL.app ((sh.take i).mono (Nat.le_refl _) (by omega)) (ShL.cons b3 ShL.nil)
    have key : ∀ (xs ys : List PyData) (e : PyData) (w : Nat), ShL (xs ++ e :: ys) w 10 → ∀ f w', ShD f w' (12 + 2 * m + 1) → ShL (xs ++ [f] ++ ys) (w + w' + 2) (12 + 2 * m + 1) := by
      intro xs
      induction xs with
      | nil =>
        intro ys e w h f w' hf
        obtain ⟨_, h2, _⟩ := h.uncons
        exact (ShL.cons hf (h2.mono (Nat.le_refl _) (by omega))).mono (by omega) (Nat.le_refl _)
      | cons x xs ih =>
        intro ys e w h f w' hf
        obtain ⟨_, _, a, b, ha, hb, e2⟩ := ShL.uncons (show ShL (x :: (xs ++ e :: ys)) w 10 from h)
        exact (ShL.cons (ha.mono (Nat.le_refl _) (by omega)) (ih ys e b hb f w' hf)).mono (by omega) (Nat.le_refl _)
    have il : i < ds.length := (List.getElem?_eq_some_iff.mp hi).1
    have hs : ShL (ds.take i ++ ds[i] :: ds.drop (i + 1)) 1100000 10 := by
      rw [← List.drop_eq_getElem_cons il, List.take_append_drop]
      exact sh
    have b5 := key _ _ _ _ hs _ _ b3
    refine (ShD.tuple b5).mono ?_ (by omega)
    show 1100000 + (1100000 + (fB m + 2 + 0) + 3) + 2 + 3 ≤ fB m + 2200100
    omega
end Sk
/-! Sk: the first trouble of any data with a form -/
namespace Sk
open PySem PySem.Spec PyProof.Rows L2
theorem kitS1 {K : Fg} (d : PyData) : PySem.W.kitOne K (.type (tyD d).nm) (.type "str") = some (isStrD d) := by cases d <;> rfl
theorem kitB1 {K : Fg} (d : PyData) : PySem.W.kitOne K (.type (tyD d).nm) (.type "bool") = some (boolD d) := by cases d <;> rfl
def simD : Fm → PyData → Bool
  | .text, d => isStrD d
  | .number, d => wholeD d
  | _, d => boolD d
def ResT (H : Hp) (v : V) (o : Option (List Key)) (ps : List V) : Prop := match o with
  | none => v = .non
  | some rel => ∃ a, v = .ref a ∧ H a = some (.tup (ps ++ rel.map kV))
theorem look_fs {kvs : List (PyData × PyData)} : ∀ {fs : List (List Nat × Fm)} {k : List Nat}, trbFs fs kvs = none → (fs.any fun p => (p.1 == k) && keyK p.2) = true → ∃ c, keyV (.dict kvs) k = some c
  | [], _, _, h => by cases h
  | (n, f) :: r, k, h, hk => by
    unfold trbFs at h
    cases e : lookD kvs n with
    | none => rw [e] at h; cases h
    | some d =>
      rw [e] at h
      simp only at h
      cases e2 : trb f d with
      | some p => rw [e2] at h; cases h
      | none =>
        rw [e2] at h
        simp only at h
        cases e3 : ((n == k) && keyK f) with
        | false =>
          have hk : (((n == k) && keyK f) || (r.any fun p => (p.1 == k) && keyK p.2)) = true := hk
          rw [e3, Bool.false_or] at hk
          exact look_fs h hk
        | true =>
          obtain ⟨e4, e5⟩ := Bool.and_eq_true_iff.mp e3
          have e4 : n = k := by simpa using e4
          subst e4
          unfold keyV
          simp only [e]
          cases f with
          | text =>
            cases d with
            | str z => exact ⟨_, rfl⟩
            | _ => cases e2
          | number =>
            cases d with
            | int i => exact ⟨_, rfl⟩
            | _ => cases e2
          | _ => cases e5
theorem key_there {f : Fm} {d : PyData} {k : List Nat} (h : trb f d = none) (hk : keyFits f k = true) : ∃ kvs c, d = .dict kvs ∧ keyV d k = some c := by
  cases f with
  | rcd fs =>
    cases d with
    | dict kvs =>
      unfold trb at h
      simp only at h
      split at h
      · cases h
      · obtain ⟨c, hc⟩ := look_fs h hk
        exact ⟨kvs, c, rfl, hc⟩
    | _ => cases h
  | _ => cases hk
theorem eqV_keys (s c : Key) : eqV (kV s) (kV c) = decide (s = c) := by
  cases s with
  | inl i =>
    cases c with
    | inl j =>
      show decide (i = j) = _
      by_cases h : i = j
      · rw [h]; simp
      · rw [decide_eq_false h, decide_eq_false fun q => h (by cases q; rfl)]
    | inr z => exact (decide_eq_false fun q => by cases q).symm
  | inr z =>
    cases c with
    | inl j => exact (decide_eq_false fun q => by cases q).symm
    | inr y =>
      show decide (z = y) = _
      by_cases h : z = y
      · rw [h]; simp
      · rw [decide_eq_false h, decide_eq_false fun q => h (by cases q; rfl)]
theorem inV_keys (c : Key) (seen : List Key) : inV (kV c) (seen.map kV) = seen.any fun s => decide (s = c) := by
  unfold inV
  rw [List.any_map]
  congr 1
  funext s
  exact eqV_keys s c
theorem flat_keys (seen : List Key) : (seen.map kV).all flatV = true := by
  rw [List.all_map]
  refine List.all_eq_true.mpr fun s _ => ?_
  cases s <;> rfl
theorem at1 {α : Type} (x y : α) (r : List α) : atI (x :: y :: r) 1 = some y := by
  unfold atI ixN
  rw [if_pos (by decide), if_pos (by simp only [List.length_cons]; omega)]
  rfl
theorem drop_at {ds : List PyData} {i : Nat} {di : PyData} (edi : ds[i]? = some di) : ds.drop i = di :: ds.drop (i + 1) := by
  have il : i < ds.length := (List.getElem?_eq_some_iff.mp edi).1
  rw [List.drop_eq_getElem_cons il]
  rw [List.getElem?_eq_getElem il] at edi
  rw [Option.some.inj edi]
theorem listT_hit {g : PyData → Option (List Key)} {kO : Option (List Nat)} {ds : List PyData} {i : Nat} {seen : List Key} {di : PyData} {p : List Key} (edi : ds[i]? = some di) (h : g di = some p) : listT g kO i seen (ds.drop i) = some (.inl (i : Int) :: p) := by
  rw [drop_at edi]
  unfold listT
  rw [h]
theorem listT_on {g : PyData → Option (List Key)} {ds : List PyData} {i : Nat} {seen : List Key} {di : PyData} (edi : ds[i]? = some di) (h : g di = none) : listT g none i seen (ds.drop i) = listT g none (i + 1) seen (ds.drop (i + 1)) := by
  rw [drop_at edi]
  conv => lhs; unfold listT
  rw [h]
theorem listT_key {g : PyData → Option (List Key)} {ds : List PyData} {i : Nat} {seen : List Key} {di : PyData} {k : List Nat} {c : Key} (edi : ds[i]? = some di) (h : g di = none) (hc : keyV di k = some c) : listT g (some k) i seen (ds.drop i) = if (seen.any fun s => decide (s = c)) then some [.inl (i : Int)] else listT g (some k) (i + 1) (seen ++ [c]) (ds.drop (i + 1)) := by
  rw [drop_at edi]
  conv => lhs; unfold listT
  rw [h]
  simp only [hc]
section
variable {P : Program} {w : World} {K : PySem.W.Frag} {mg : Str → Option Value} {base : Heap}
def spQ (f : PyData → Bool) : Sp := fun vs H Q _ => ∃ v d, vs = [v] ∧ DL H v d ∧ Q (.bl (f d)) H
theorem ok_whD (T : Top K mg) (k : Nat) : Ok_is_whole P w base T (k + 1) (spQ wholeD) := by
  refine T.F_is_whole.ok sc_is_whole (fun vs H Q E h => by obtain ⟨v, d, rfl, _⟩ := h; rfl) (fun cdv A outer s H vs Q E hr h => ⟨_, PSs.nox (pss_one (ps_ret (vand (pe_callB (kis K) (by rfl) T.n_isinstance (by decide +kernel) (pa_cons (vr 0) (pa_cons (pe_bltn (v := .ty "int") (by rfl) T.n_int (by decide +kernel) rfl) pa_nil))) (pe_one (vnot (pe_callB (kis K) (by rfl) T.n_isinstance (by decide +kernel) (pa_cons (vr 0) (pa_cons (pe_bltn (v := .ty "bool") (by rfl) T.n_bool (by decide +kernel) rfl) pa_nil)))))))), ?_⟩)
  obtain ⟨v, d, rfl, dl, q⟩ := h
  rw [st_is_whole]
  cases dl with
  | non => exact ⟨_, _, .base .non, rfl, q⟩
  | str z => exact ⟨_, _, .base (.str z), rfl, q⟩
  | lst h _ => exact ⟨_, _, .base (.lst h), rfl, q⟩
  | tup h _ => exact ⟨_, _, .base (.tup h), rfl, q⟩
  | dic h _ _ => exact ⟨_, _, .base (.dK h), rfl, q⟩
  | bl b => exact ⟨_, _, .base (.bl b), rfl, _, _, .base (.bl b), rfl, q⟩
  | int i => exact ⟨_, _, .base (.int i), rfl, _, _, .base (.int i), rfl, q⟩
def spSim : Sp := fun vs H Q _ => ∃ fv v f d, vs = [fv, v] ∧ FmV H fv f ∧ f.dep = 0 ∧ DL H v d ∧ Q (.bl (simD f d)) H
theorem ok_sim (T : Top K mg) (k : Nat) : Ok_fits_simple P w base T (k + 2) spSim := by
  have G_is_whole : Ok_is_whole P w base T 1 (spQ wholeD) := ok_whD T 0
  refine T.F_fits_simple.ok sc_fits_simple (fun vs H Q E h => by obtain ⟨fv, v, f, d, rfl, _⟩ := h; rfl) (fun cdv A outer s H vs Q E hr h => ⟨_, PSs.nox (pss_cons (sif (tcmp (ksame K hr.units) (pe_ix (kget K) (vr 0) pe_int (fun _ _ => rfl)) pe_str (nomark _)) (pss_one (ps_ret (pe_callB (kis K) (by rfl) T.n_isinstance (by decide +kernel) (pa_cons (vr 1) (pa_cons (pe_bltn (v := .ty "str") (by rfl) T.n_str (by decide +kernel) rfl) pa_nil))))) pss_nil)
      (pss_one (ps_ret (vif (tcmp (ksame K hr.units) (pe_ix (kget K) (vr 0) pe_int (fun _ _ => rfl)) pe_str (nomark _)) (pe_call G_is_whole (hr.mono (by omega)) (by rfl) T.g_is_whole T.F_is_whole.kp (b_is_whole T) .nil pass0 (pa_cons (vr 1) pa_nil)) (pe_callB (kis K) (by rfl) T.n_isinstance (by decide +kernel) (pa_cons (vr 1) (pa_cons (pe_bltn (v := .ty "bool") (by rfl) T.n_bool (by decide +kernel) rfl) pa_nil))))))), ?_⟩)
  obtain ⟨fv, v, f, d, rfl, hf, h0, dl, q⟩ := h
  rw [st_fits_simple]
  cases hf with
  | text h => exact ⟨_, _, .inr (sqT_of h), rfl, _, _, dl.kn.ty, kitS1 d, q⟩
  | number h => exact ⟨_, _, .inr (sqT_of h), rfl, _, _, .inr (sqT_of h), rfl, v, d, rfl, dl, q⟩
  | flag h => exact ⟨_, _, .inr (sqT_of h), rfl, _, _, .inr (sqT_of h), rfl, _, _, dl.kn.ty, kitB1 d, q⟩
  | opt _ _ => cases h0
  | list _ _ => cases h0
  | keyed _ _ => cases h0
  | rcd _ _ _ => cases h0
/-! ### trouble_at: forms of at most n levels -/
def spT (n : Nat) : Sp := fun vs H Q _ => ∃ fv v f d ps a, vs = [fv, v, .ref a] ∧ H a = some (.tup ps) ∧ ps.length + f.dep ≤ 900 ∧ FmV H fv f ∧ f.dep ≤ n ∧ f.wf = true ∧ DL H v d ∧ Sz d ∧ ∀ v' H', Same H H' → ResT H' v' (trb f d) ps → Q v' H'
/-- the list of a form, its key -/
def ListF (H : Hp) (fa : Addr) (f0 : Fm) (fv1 : V) (f : Fm) (kO : Option (List Nat)) : Prop :=
  (kO = none ∧ f0 = .list f ∧ H fa = some (.tup [.str "list", fv1])) ∨ ∃ k, kO = some k ∧ f0 = .keyed f k ∧ keyFits f k = true ∧ H fa = some (.tup [.str "keyed", fv1, .str (mkS k)])
def spLT (n : Nat) : Sp := fun vs H Q _ => ∃ fa fv1 v f0 f kO d ps a, vs = [.ref fa, v, .ref a] ∧ H a = some (.tup ps) ∧ ps.length + f.dep ≤ 899 ∧ ListF H fa f0 fv1 f kO ∧ FmV H fv1 f ∧ f.dep ≤ n ∧ f.wf = true ∧ DL H v d ∧ Sz d ∧ ∀ v' H', Same H H' → ResT H' v' (trb f0 d) ps → Q v' H'
theorem ok_lt (T : Top K mg) (n k : Nat) (G_trouble_at : Ok_trouble_at P w base T k (spT n)) : Ok_list_trouble P w base T (k + 1) (spLT n) := by
  refine T.F_list_trouble.ok sc_list_trouble (fun vs H Q E h => by obtain ⟨fa, fv1, v, f0, f, kO, d, ps, a, rfl, _⟩ := h; rfl) (fun cdv A outer s H vs Q E hr h => ⟨_, PSs.nox (pss_cons (sif (PW.pt (wor (pt_not (tst (pe_callB (kis K) (by rfl) T.n_isinstance (by decide +kernel) (pa_cons (vr 1) (pa_cons (pe_bltn (v := .ty "tuple") (by rfl) T.n_tuple (by decide +kernel) rfl) pa_nil))))) (pw_or1 (tcmp op_gtI (pe_callB (klen K) (by rfl) T.n_len (by decide +kernel) (pa_cons (vr 1) pa_nil)) (pe_glob (v := .int (60)) (by rfl) T.c_MAX_ELEMENTS ⟨_, rfl⟩) (nomark _))))) (pss_one (ps_ret (vr 2))) pss_nil)
      (pss_cons (ps_set (i := 3) sc_list_trouble.nd rfl (by first | exact .inl rfl | exact .inr rfl) (pe_lst pa_nil))
      (pss_cons (ps_for PassesOwn.never rfl (ienumT K (by rfl) T.n_enumerate (vr 1)) (gtup K 2 rfl (gs_cons (pg_name (i := 4) sc_list_trouble.nd rfl (by first | exact .inl rfl | exact .inr rfl)) (gs_cons (pg_name (i := 5) sc_list_trouble.nd rfl (by first | exact .inl rfl | exact .inr rfl)) gs_nil))) (pss_cons (ps_set (i := 6) sc_list_trouble.nd rfl (by first | exact .inl rfl | exact .inr rfl) (pe_call G_trouble_at (hr.mono (by omega)) (by rfl) T.g_trouble_at T.F_trouble_at.kp (b_trouble_at T) .nil pass0 (pa_cons (pe_ix (kget K) (vr 0) pe_int (fun _ _ => rfl)) (pa_cons (vr 5) (pa_cons (pe_op (kplus K) (vr 2) (pe_tup (pa_cons (vr 4) pa_nil))) pa_nil)))))
      (pss_cons (sif (tcmp op_notNo (vr 6) pe_non (nomark _)) (pss_one (ps_ret (vr 6))) pss_nil)
      (pss_one (sif (tcmp (ksame K hr.units) (pe_ix (kget K) (vr 0) pe_int (fun _ _ => rfl)) pe_str (nomark _)) (pss_cons (sif (tcmp (kin K) (pe_dget (hu_of hr) (vr 5) (pe_ix (kget K) (vr 0) pe_int (fun _ _ => rfl)) (fun _ _ => rfl)) (vr 3) (by rfl)) (pss_one (ps_ret (pe_op (kplus K) (vr 2) (pe_tup (pa_cons (vr 4) pa_nil))))) pss_nil)
      (pss_one (ps_expr (kapp (pe_bm PySem.F.plainAttrs_list PySem.F.slot_list_append PySem.F.type_list_append mt_append (up (vr 3)) (pa_cons (up (pe_dget (hu_of hr) (vr 5) (pe_ix (kget K) (vr 0) pe_int (fun _ _ => rfl)) (fun _ _ => rfl))) pa_nil)))))) pss_nil)))))
      (pss_one (ps_ret pe_non))))), ?_⟩)
  obtain ⟨fa, fv1, v, f0, f, kO, d, ps, a, rfl, ha, hl, lf, hf, hd, wf, dl, sz, q⟩ := h
  rw [st_list_trouble]
  have here : ∀ {H' : Hp}, Same H H' → trb f0 d = some [] → Q (.ref a) H' := fun s e => q _ _ s (by rw [e]; exact ⟨a, rfl, by rw [List.map_nil, List.append_nil]; exact s _ _ ha⟩)
  have nt : (∀ ds, d ≠ .tuple ds) → trb f0 d = some [] := fun h => by
    rcases lf with ⟨_, rfl, _⟩ | ⟨k, _, rfl, _⟩ <;> (cases d with
      | tuple ds => exact absurd rfl (h ds)
      | _ => rfl)
  cases id dl with
  | non => exact ⟨_, _, .base .non, rfl, here (Same.refl H) (nt fun _ e => by cases e)⟩
  | bl b => exact ⟨_, _, .base (.bl b), rfl, here (Same.refl H) (nt fun _ e => by cases e)⟩
  | int i => exact ⟨_, _, .base (.int i), rfl, here (Same.refl H) (nt fun _ e => by cases e)⟩
  | str z => exact ⟨_, _, .base (.str z), rfl, here (Same.refl H) (nt fun _ e => by cases e)⟩
  | lst h _ => exact ⟨_, _, .base (.lst h), rfl, here (Same.refl H) (nt fun _ e => by cases e)⟩
  | dic h _ _ => exact ⟨_, _, .base (.dK h), rfl, here (Same.refl H) (nt fun _ e => by cases e)⟩
  | @tup va xs ds hv hds =>
  have len := hds.len
  have lT : trb f0 (.tuple ds) = if Nat.blt 60 ds.length then some [] else listT (trb f) kO 0 [] ds := by
    rcases lf with ⟨rfl, rfl, _⟩ | ⟨k, rfl, rfl, _⟩ <;> rfl
  refine ⟨_, _, .base (.tup hv), rfl, _, .inr (sqT_of hv), br2 (fun e => ?_) (fun e => ?_)⟩
  · have e := of_decide_eq_true e
    refine here (Same.refl H) ?_
    rw [lT, if_pos (Nat.blt_eq.mpr (by omega))]
  have e := of_decide_eq_false e
  rw [if_neg (fun h => by have := Nat.blt_eq.mp h; omega)] at lT
  refine ⟨Nat.le_of_ble_eq_true rfl, fun L nL => ?_⟩
  simp only [gName, List.set_cons_succ, List.set_cons_zero]
  have sL : Same H (upd H L (.lst [])) := same_new nL
  refine ⟨xs, sqT_of (sL _ _ hv), fun J W => ?_⟩
  refine for_it W (fun i σ H' => ∃ seen y4 y5 y6, σ = [some (.ref fa), some (.ref va), some (.ref a), some (.ref L), y4, y5, y6] ∧ Same H H' ∧ H' L = some (.lst (seen.map kV)) ∧ seen.length ≤ i ∧ trb f0 (.tuple ds) = listT (trb f) kO i seen (ds.drop i)) ⟨[], _, _, _, rfl, sL, upd_same, Nat.le_refl _, lT⟩ (fun i σ H' _ pv => ?_) (fun i x σ H1 H1' hi pv hy => ?_) (fun σ H1 pv => ?_)
  · obtain ⟨_, _, _, _, _, s', _⟩ := pv
    exact sqT_of (s' _ _ hv)
  · obtain ⟨seen, y4, y5, y6, rfl, S, hL, ls, w1⟩ := pv
    obtain ⟨t, x1, x2, rfl, nt1, rfl, hx1, hx2⟩ := hy
    have hx1 : V.int ((i : Nat) : Int) = x1 := by simpa using hx1
    subst hx1
    obtain ⟨di, edi, hdi⟩ := hds.at i x2 hx2
    have S1 : Same H (upd H1 t (.tup [.int ((i : Nat) : Int), x2])) := S.trans (same_new nt1)
    have hL1 := same_new (o := .tup [.int ((i : Nat) : Int), x2]) nt1 _ _ hL
    have ht : upd H1 t (.tup [.int ((i : Nat) : Int), x2]) t = some (.tup [.int ((i : Nat) : Int), x2]) := upd_same
    revert S1 hL1 ht
    generalize upd H1 t _ = B1
    intro S1 hL1 ht
    clear nt1
    refine ⟨t, _, rfl, sqT_of ht, rfl, ?_⟩
    dsimp only [uCons, uNil, gName]
    simp only [List.set_cons_succ, List.set_cons_zero]
    obtain ⟨wd, rr, hfa, ew⟩ : ∃ wd rr, H fa = some (.tup (.str wd :: fv1 :: rr)) ∧ ((kO = none ∧ wd = "list") ∨ ∃ k, kO = some k ∧ wd = "keyed" ∧ rr = [.str (mkS k)] ∧ keyFits f k = true) := by
      rcases lf with ⟨e1, _, h⟩ | ⟨k, e1, _, e2, h⟩
      · exact ⟨_, _, h, .inl ⟨e1, rfl⟩⟩
      · exact ⟨_, _, h, .inr ⟨k, e1, rfl, rfl, e2⟩⟩
    refine ⟨_, _, .inr (sqT_of (S1 _ _ hfa)), at1 _ _ _, Nat.le_of_ble_eq_true rfl, fun t2 n2 => ?_⟩
    generalize g2 : upd _ t2 _ = B2
    obtain ⟨b2, h2, _⟩ := lay_of' g2 n2
    clear g2 n2
    refine catT ((S1.trans b2) _ _ ha) h2 (by rw [List.length_singleton]; omega) fun t3 B3 b3 h3 => ?_
    have S3 := (S1.trans b2).trans b3
    have hL3 := (b2.trans b3) _ _ hL1
    refine ⟨fv1, x2, f, di, ps ++ [.int ((i : Nat) : Int)], t3, rfl, h3, by rw [List.length_append, List.length_singleton]; omega, hf.on (tupS_of S3), hd, wf, hdi.same S3, sz.tupE di (List.mem_of_getElem? edi), fun v' H2 s2 r2 => ?_⟩
    simp only [gName, List.set_cons_succ, List.set_cons_zero]
    have S4 := S3.trans s2
    cases et : trb f di with
    | some p =>
      rw [et] at r2
      obtain ⟨a', rfl, h'⟩ := r2
      refine q _ _ S4 ?_
      rw [w1, listT_hit edi et]
      refine ⟨a', rfl, ?_⟩
      rw [h', List.append_assoc]
      rfl
    | none =>
      rw [et] at r2
      have r2 : v' = .non := r2
      subst r2
      have hL4 := s2 _ _ hL3
      have hfa4 := S4 _ _ hfa
      refine ⟨_, _, .inr (sqT_of hfa4), at0' _ _, ?_⟩
      rcases ew with ⟨rfl, rfl⟩ | ⟨kk, rfl, rfl, rfl, kf⟩
      · exact ⟨seen, _, _, _, rfl, S4, hL4, Nat.le_succ_of_le ls, w1.trans (listT_on edi et)⟩
      obtain ⟨kvs, c, rfl, hc⟩ := key_there et kf
      rw [listT_key edi et hc] at w1
      obtain ⟨pa, kvV, rfl, hpa, dk1, dk2⟩ : ∃ pa kvV, x2 = .ref pa ∧ H2 pa = some (.dK kvV) ∧ DLs H2 (kvV.map fun p => kV p.1) (kvs.map (·.1)) ∧ DLs H2 (kvV.map (·.2)) (kvs.map (·.2)) := by
        have h := hdi.same S4
        cases h with
        | dic h1 h2 h3 => exact ⟨_, _, rfl, h1, h2, h3⟩
      obtain ⟨vk, hvk, rfl⟩ : ∃ vk, valV kvV (.inr (mkS kk)) = some vk ∧ vk = kV c := by
        rcases val_look (n := kk) dk1 dk2 with ⟨_, e2⟩ | ⟨vk, dd, e1, e2, e3⟩
        · unfold keyV at hc
          simp only [e2] at hc
          cases hc
        · refine ⟨vk, e1, ?_⟩
          unfold keyV at hc
          simp only [e2] at hc
          cases dd with
          | int z => cases hc; cases e3; rfl
          | str z => cases hc; cases e3; rfl
          | _ => cases hc
      have fl : flatV (kV c) = true := by cases c <;> rfl
      refine ⟨_, _, .inr (sqT_of hfa4), rfl, pa, kV c, rfl, .inl ⟨kvV, .inr (mkS kk), .inl hpa, rfl, hvk.symm⟩, ?_⟩
      rcases c with ci | cz
      · have ei := inV_keys (.inl ci) seen
        refine ⟨_, .inl (sqL_of hL4), rfl, flat_keys seen, br2 (fun e => ?_) (fun e => ?_)⟩
        · have e : inV (.int ci) (seen.map kV) = true := e
          have e : inV (kV (.inl ci)) (seen.map kV) = true := e
          rw [ei] at e
          rw [if_pos e] at w1
          refine ⟨Nat.le_of_ble_eq_true rfl, fun t4 n4 => ?_⟩
          generalize g4 : upd _ t4 _ = B4
          obtain ⟨b4, h4, _⟩ := lay_of' g4 n4
          clear g4 n4
          refine catT ((S4.trans b4) _ _ ha) h4 (by rw [List.length_singleton]; omega) fun t5 B5 b5 h5 => ?_
          refine q _ _ (S4.trans (b4.trans b5)) ?_
          rw [w1]
          exact ⟨t5, rfl, h5⟩
        · have e : inV (.int ci) (seen.map kV) = false := e
          have e : inV (kV (.inl ci)) (seen.map kV) = false := e
          rw [ei] at e
          rw [if_neg (by rw [e]; decide)] at w1
          refine ⟨⟨_, hL4⟩, _, _, .inr (sqT_of hfa4), rfl, pa, .int ci, rfl, .inl ⟨kvV, .inr (mkS kk), .inl hpa, rfl, hvk.symm⟩, _, hL4, size_lt (by rw [List.length_map]; omega), ?_⟩
          refine ⟨seen ++ [.inl ci], _, _, _, rfl, put_same S4 nL, ?_, by rw [List.length_append, List.length_singleton]; omega, w1⟩
          rw [upd_same, List.map_append]
          rfl
      · have ei := inV_keys (.inr cz) seen
        refine ⟨_, .inl (sqL_of hL4), rfl, flat_keys seen, br2 (fun e => ?_) (fun e => ?_)⟩
        · have e : inV (.str cz) (seen.map kV) = true := e
          have e : inV (kV (.inr cz)) (seen.map kV) = true := e
          rw [ei] at e
          rw [if_pos e] at w1
          refine ⟨Nat.le_of_ble_eq_true rfl, fun t4 n4 => ?_⟩
          generalize g4 : upd _ t4 _ = B4
          obtain ⟨b4, h4, _⟩ := lay_of' g4 n4
          clear g4 n4
          refine catT ((S4.trans b4) _ _ ha) h4 (by rw [List.length_singleton]; omega) fun t5 B5 b5 h5 => ?_
          refine q _ _ (S4.trans (b4.trans b5)) ?_
          rw [w1]
          exact ⟨t5, rfl, h5⟩
        · have e : inV (.str cz) (seen.map kV) = false := e
          have e : inV (kV (.inr cz)) (seen.map kV) = false := e
          rw [ei] at e
          rw [if_neg (by rw [e]; decide)] at w1
          refine ⟨⟨_, hL4⟩, _, _, .inr (sqT_of hfa4), rfl, pa, .str cz, rfl, .inl ⟨kvV, .inr (mkS kk), .inl hpa, rfl, hvk.symm⟩, _, hL4, size_lt (by rw [List.length_map]; omega), ?_⟩
          refine ⟨seen ++ [.inr cz], _, _, _, rfl, put_same S4 nL, ?_, by rw [List.length_append, List.length_singleton]; omega, w1⟩
          rw [upd_same, List.map_append]
          rfl
  · obtain ⟨seen, y4, y5, y6, rfl, S, hL, ls, w1⟩ := pv
    refine q _ _ S ?_
    rw [w1, List.drop_eq_nil_of_le (by omega)]
    rfl
end
end Sk
/-! Sk: record_trouble, trouble_at -/
namespace Sk
open PySem PySem.Spec PyProof.Rows L2
theorem strs_names {fs : List (List Nat × Fm)} : ∀ {ys : List V}, ys.length = fs.length → (∀ (i : Nat) (y : V), ys[i]? = some y → ∃ p, fs[i]? = some p ∧ y = .str (mkS p.1)) → ys = fs.map fun p => V.str (mkS p.1) := by
  intro ys l h
  refine List.ext_getElem? fun i => ?_
  rw [List.getElem?_map]
  cases e : ys[i]? with
  | none =>
    rw [List.getElem?_eq_none_iff] at e
    rw [List.getElem?_eq_none (by omega)]
    rfl
  | some y =>
    obtain ⟨p, e1, e2⟩ := h i y e
    rw [e1, e2]
    rfl
theorem names_flat (fs : List (List Nat × Fm)) : (fs.map fun p => V.str (mkS p.1)).all flatV = true := by
  rw [List.all_map]
  exact List.all_eq_true.mpr fun _ _ => rfl
theorem inV_names {H : Hp} {k : Key} {d : PyData} (h : DL H (kV k) d) (fs : List (List Nat × Fm)) : inV (kV k) (fs.map fun p => V.str (mkS p.1)) = fs.any fun q => strIs d q.1 := by
  unfold inV
  rw [List.any_map]
  congr 1
  funext q
  cases k with
  | inl i =>
    have h : DL H (.int i) d := h
    cases h
    rfl
  | inr z =>
    have h : DL H (.str z) d := h
    cases h
    show (mkS q.1 == z) = (z.cps.toList == q.1)
    by_cases e : z.cps.toList = q.1
    · rw [← e, mk_sl]
      simp
    · rw [beq_eq_false_iff_ne.mpr e]
      refine beq_eq_false_iff_ne.mpr fun w => e ?_
      rw [← w]
      rfl
section
variable {P : Program} {w : World} {K : PySem.W.Frag} {mg : Str → Option Value} {base : Heap}
def spRT (n : Nat) : Sp := fun vs H Q _ => ∃ fa r pv fs v d ps a, vs = [.ref fa, v, .ref a] ∧ H a = some (.tup ps) ∧ ps.length + depFs fs ≤ 899 ∧ H fa = some (.tup [.str "record", .ref r]) ∧ H r = some (.tup pv) ∧ FldV H pv fs ∧ depFs fs ≤ n ∧ wfFs fs = true ∧ fs.length ≤ 1000 ∧ DL H v d ∧ Sz d ∧ ∀ v' H', Same H H' → ResT H' v' (trb (.rcd fs) d) ps → Q v' H'
theorem dep_at : ∀ {fs : List (List Nat × Fm)} {i : Nat} {n : List Nat} {f : Fm}, fs[i]? = some (n, f) → f.dep ≤ depFs fs ∧ (wfFs fs = true → f.wf = true)
  | [], i, n, f, h => by simp at h
  | (m, g) :: r, 0, n, f, h => by
    have h : (m, g) = (n, f) := by simpa using h
    cases h
    exact ⟨Nat.le_max_left _ _, fun h => (Bool.and_eq_true_iff.mp h).1⟩
  | (m, g) :: r, i + 1, n, f, h => by
    obtain ⟨h1, h2⟩ := dep_at (fs := r) (i := i) (n := n) (f := f) (by simpa using h)
    exact ⟨Nat.le_trans h1 (Nat.le_max_right _ _), fun h => h2 (Bool.and_eq_true_iff.mp h).2⟩
theorem fs_drop {fs : List (List Nat × Fm)} {i : Nat} {p : List Nat × Fm} (e : fs[i]? = some p) : fs.drop i = p :: fs.drop (i + 1) := by
  have il : i < fs.length := (List.getElem?_eq_some_iff.mp e).1
  rw [List.drop_eq_getElem_cons il]
  rw [List.getElem?_eq_getElem il] at e
  rw [Option.some.inj e]
theorem Sz.look {ds : List (PyData × PyData)} {n : List Nat} {d : PyData} (h : Sz (.dict ds)) (e : lookD ds n = some d) : Sz d := by
  unfold lookD at e
  obtain ⟨p, hp, rfl⟩ := Option.map_eq_some_iff.mp e
  cases h with
  | dic _ _ _ h => exact h p (List.mem_of_find?_eq_some hp)
theorem ok_rt (T : Top K mg) (n k : Nat) (G_trouble_at : Ok_trouble_at P w base T k (spT n)) : Ok_record_trouble P w base T (k + 1) (spRT n) := by
  refine T.F_record_trouble.ok sc_record_trouble (fun vs H Q E h => by obtain ⟨fa, r, pv, fs, v, d, ps, a, rfl, _⟩ := h; rfl) (fun cdv A outer s H vs Q E hr h => ⟨_, PSs.nox (pss_cons (ps_set (i := 5) sc_record_trouble.nd rfl (by first | exact .inl rfl | exact .inr rfl) (pe_lc (own := [("name", 3), ("inner", 4)])  rfl sc_record_trouble.nd (itup K (pe_ix (kget K) (vr 0) pe_int (fun _ _ => rfl))) (blkOk_by (own := [("name", 3), ("inner", 4)]) (N := ["form", "value", "path", "name", "inner", "names", "trouble"]) (sc := defScope s_record_trouble) (by decide +kernel)) (fun _ _ _ _ _ => (gtup K 2 rfl (gs_cons (pg_name (i := 3) sc_record_trouble.nd rfl (by first | exact .inl rfl | exact .inr rfl)) (gs_cons (pg_name (i := 4) sc_record_trouble.nd rfl (by first | exact .inl rfl | exact .inr rfl)) gs_nil)))) (fun _ _ _ _ _ => pts_nil) (fun _ _ _ _ _ => up (vr 3))))
      (pss_cons (sif (PW.pt (wor (pt_not (tst (pe_callB (kis K) (by rfl) T.n_isinstance (by decide +kernel) (pa_cons (vr 1) (pa_cons (pe_bltn (v := .ty "dict") (by rfl) T.n_dict (by decide +kernel) rfl) pa_nil))))) (pw_or1 (tst (pe_callB (kany K rfl) (by rfl) T.n_any (by decide +kernel) (pa_cons (pe_lock (pe_lc (own := [("name", 3)])  rfl sc_record_trouble.nd (pi_keys (vr 1)) (blkOk_by (own := [("name", 3)]) (N := ["form", "value", "path", "name", "inner", "names", "trouble"]) (sc := defScope s_record_trouble) (by decide +kernel)) (fun _ _ _ _ _ => (pg_name (i := 3) sc_record_trouble.nd rfl (by first | exact .inl rfl | exact .inr rfl))) (fun _ _ _ _ _ => pts_nil) (fun _ _ _ _ _ => up (pe_cmpR (knotin K) (vr 3) (vr 5) (by rfl))))) pa_nil)))))) (pss_one (ps_ret (vr 2))) pss_nil)
      (pss_cons (ps_for PassesOwn.never rfl (itup K (pe_ix (kget K) (vr 0) pe_int (fun _ _ => rfl))) (gtup K 2 rfl (gs_cons (pg_name (i := 3) sc_record_trouble.nd rfl (by first | exact .inl rfl | exact .inr rfl)) (gs_cons (pg_name (i := 4) sc_record_trouble.nd rfl (by first | exact .inl rfl | exact .inr rfl)) gs_nil))) (pss_cons (ps_set (i := 6) sc_record_trouble.nd rfl (by first | exact .inl rfl | exact .inr rfl) (vif (tcmp (op_din (hu_of hr)) (vr 3) (vr 1) (by rfl)) (pe_call G_trouble_at (hr.mono (by omega)) (by rfl) T.g_trouble_at T.F_trouble_at.kp (b_trouble_at T) .nil pass0 (pa_cons (vr 4) (pa_cons (pe_dget (hu_of hr) (vr 1) (vr 3) (fun _ _ => rfl)) (pa_cons (pe_op (kplus K) (vr 2) (pe_tup (pa_cons (vr 3) pa_nil))) pa_nil)))) (pe_op (kplus K) (vr 2) (pe_tup (pa_cons (vr 3) pa_nil)))))
      (pss_one (sif (tcmp op_notNo (vr 6) pe_non (nomark _)) (pss_one (ps_ret (vr 6))) pss_nil))))
      (pss_one (ps_ret pe_non))))), ?_⟩)
  obtain ⟨fa, r, pv, fs, v, d, ps, a, rfl, ha, hl, hfa, hr', hfs, hd, wf, l1000, dl, sz, q⟩ := h
  have len := hfs.length
  rw [st_record_trouble]
  refine ⟨_, _, .inr (sqT_of hfa), rfl, r, rfl, ⟨_, sqT_of hr'⟩, fun D nD => ?_⟩
  refine lcw (walk_tup (xs := pv)) fr_same (fun i v _ => ∃ p, fs[i]? = some p ∧ v = .str (mkS p.1)) trivial nD (by omega) gm_pair2 (fun H1 _ s1 => sqT_of (s1 _ _ hr')) (fun _ _ _ _ h _ => h) (fun i x H1 H1' hi _ s1 hy => ?_) (fun H1 ys _ s1 l1 e1 q1 => ?_)
  · obtain ⟨rfl, hx⟩ := hy
    obtain ⟨b, g, nn, f, rfl, e2, h2, hg⟩ := hfs.at i x hx
    exact ⟨b, _, rfl, sqT_of (s1 _ _ h2), rfl, rfl, trivial, Same.refl _, _, e2, rfl⟩
  have ey := strs_names (l1.trans len) q1
  subst ey
  clear q1 l1
  simp only [gName, List.set_cons_succ, List.set_cons_zero]
  have here : ∀ {H' : Hp}, Same H H' → trb (.rcd fs) d = some [] → Q (.ref a) H' := fun s e => q _ _ s (by rw [e]; exact ⟨a, rfl, by rw [List.map_nil, List.append_nil]; exact s _ _ ha⟩)
  cases id dl with
  | non => exact ⟨_, _, .base .non, rfl, here s1 rfl⟩
  | bl b => exact ⟨_, _, .base (.bl b), rfl, here s1 rfl⟩
  | int i => exact ⟨_, _, .base (.int i), rfl, here s1 rfl⟩
  | str z => exact ⟨_, _, .base (.str z), rfl, here s1 rfl⟩
  | lst h _ => exact ⟨_, _, .base (.lst (s1 _ _ h)), rfl, here s1 rfl⟩
  | tup h _ => exact ⟨_, _, .base (.tup (s1 _ _ h)), rfl, here s1 rfl⟩
  | @dic va kvs ds h0H hka hva =>
  have h0 := s1 _ _ h0H
  refine ⟨_, _, .base (.dK h0), rfl, ?_⟩
  have lk : ds.length ≤ 1000 := by cases sz; assumption
  have lenk : kvs.length = ds.length := by
    have := hka.len
    rw [List.length_map, List.length_map] at this
    exact this
  have eT : trb (.rcd fs) (.dict ds) = if ds.any (fun p => !(fs.any fun q => strIs p.1 q.1)) then some [] else trbFs fs ds := rfl
  refine ⟨va, _, h0, trivial, fun od => ?_⟩
  refine ⟨va, od, rfl, .inl ⟨kvs, upd_same, fun D2 nD2 => ?_⟩⟩
  have nDa := (upd_none nD2).1
  have hf : upd H1 va (.frz od (.dK kvs)) va = some (.frz od (.dK kvs)) := upd_same
  have hDf : upd H1 va (.frz od (.dK kvs)) D = some (.lst (fs.map fun p => V.str (mkS p.1))) := (upd_ne (fun z => by rw [z, h0] at e1; cases e1)).trans e1
  have hback : upd (upd H1 va (.frz od (.dK kvs))) va (.dK kvs) = H1 := by
    funext b
    by_cases z : b = va
    · subst z
      rw [upd_same]
      exact h0.symm
    · rw [upd_ne z, upd_ne z]
  have gk : ∀ H', DLs H' (kvs.map fun p => kV p.1) (ds.map (·.1)) := fun H' => dls_flat hka
  revert hf hDf hback nD2
  generalize upd H1 va (.frz od (.dK kvs)) = HF
  intro nD2 hf hDf hback
  refine lcw walk_keys fr_same (fun i v _ => ∃ p, ds[i]? = some p ∧ v = .bl (!(fs.any fun q => strIs p.1 q.1))) trivial nD2 (by omega) gm_name (fun H2 _ s2 => s2 _ _ hf) (fun _ _ _ _ h _ => h) (fun i x H2 H2' hi _ s2 hy => ?_) (fun H2 ys _ s2 l2 e2 q2 => ?_)
  · obtain ⟨rfl, k0, v0, hx, rfl⟩ := hy
    obtain ⟨kd, e4, h4⟩ := (gk H2').at i (kV k0) (by rw [List.getElem?_map, hx]; rfl)
    rw [List.getElem?_map] at e4
    obtain ⟨pr, hpr, rfl⟩ := Option.map_eq_some_iff.mp e4
    have ei := inV_names h4 fs
    refine ⟨rfl, ?_⟩
    cases k0 with
    | inl i0 => exact ⟨_, .inl (sqL_of (s2 _ _ hDf)), rfl, names_flat fs, trivial, Same.refl _, pr, hpr, congrArg (fun b => V.bl (!b)) ei⟩
    | inr z0 => exact ⟨_, .inl (sqL_of (s2 _ _ hDf)), rfl, names_flat fs, trivial, Same.refl _, pr, hpr, congrArg (fun b => V.bl (!b)) ei⟩
  obtain ⟨bs, rfl, hb⟩ := bls_any (f := fun p : PyData × PyData => !(fs.any fun q => strIs p.1 q.1)) (l2.trans lenk) q2
  have f2 := s2 _ _ hf
  refine ⟨f2, _, bs, rfl, sqL_of ((upd_ne nDa).trans e2), ?_⟩
  rw [hb]
  have s3 : Same H1 (upd H2 va (.dK kvs)) := by
    intro b o hb'
    by_cases z : b = va
    · subst z
      rw [upd_same, ← h0]
      exact hb'
    · rw [upd_ne z]
      refine s2 b o ?_
      rw [← hback, upd_ne z] at hb'
      exact hb'
  revert s3
  generalize upd H2 va (.dK kvs) = H3
  intro s3
  have S3 := s1.trans s3
  cases ea : ds.any (fun p => !(fs.any fun q => strIs p.1 q.1)) with
  | true => exact here S3 (by rw [eT, ea]; rfl)
  | false =>
  rw [ea] at eT
  have eT : trb (.rcd fs) (.dict ds) = trbFs fs ds := eT
  clear e2 q2 l2 nD2 hf hDf hback f2 s2 hb
  refine ⟨_, _, .inr (sqT_of (S3 _ _ hfa)), rfl, r, rfl, ⟨_, sqT_of (S3 _ _ hr')⟩, ?_⟩
  refine for_it (walk_tup (xs := pv)) (fun i σ H' => ∃ y3 y4 y6, σ = [some (.ref fa), some (.ref va), some (.ref a), y3, y4, some (.ref D), y6] ∧ Same H H' ∧ trb (.rcd fs) (.dict ds) = trbFs (fs.drop i) ds) ⟨_, _, _, rfl, S3, eT⟩ (fun i σ H' _ pv => ?_) (fun i x σ H4 H4' hi pv' hy => ?_) (fun σ H4 pv' => ?_)
  · obtain ⟨_, _, _, _, s', _⟩ := pv
    exact sqT_of (s' _ _ hr')
  · obtain ⟨y3, y4, y6, rfl, S, w1⟩ := pv'
    obtain ⟨rfl, hx⟩ := hy
    obtain ⟨b, g, nn, f, rfl, e2, h2, hg⟩ := hfs.at i x hx
    obtain ⟨d1, d2⟩ := dep_at e2
    rw [fs_drop e2] at w1
    refine ⟨b, _, rfl, sqT_of (S _ _ h2), rfl, ?_⟩
    dsimp only [uCons, uNil, gName]
    simp only [List.set_cons_succ, List.set_cons_zero]
    have hv4 := S _ _ h0H
    refine ⟨valV kvs (.inr (mkS nn)), .inl ⟨kvs, .inr (mkS nn), .inl hv4, rfl, rfl⟩, ?_⟩
    have la : ps.length + 1 ≤ 1000 := by omega
    rcases val_look (n := nn) (hka.same S) (hva.same S) with ⟨hvk, hlk⟩ | ⟨v0, d0, hvk, hlk, dl0⟩
    · rw [hvk]
      unfold trbFs at w1
      simp only [hlk] at w1
      refine ⟨Nat.le_of_ble_eq_true rfl, fun t2 n2 => ?_⟩
      generalize g2 : upd _ t2 _ = B2
      obtain ⟨b2, h2', _⟩ := lay_of' g2 n2
      clear g2 n2
      refine catT ((S.trans b2) _ _ ha) h2' (by rw [List.length_singleton]; omega) fun t3 B3 b3 h3 => ?_
      refine q _ _ ((S.trans b2).trans b3) ?_
      rw [w1]
      exact ⟨t3, rfl, h3⟩
    · rw [hvk]
      unfold trbFs at w1
      simp only [hlk] at w1
      refine ⟨va, v0, rfl, .inl ⟨kvs, .inr (mkS nn), .inl hv4, rfl, hvk.symm⟩, Nat.le_of_ble_eq_true rfl, fun t2 n2 => ?_⟩
      generalize g2 : upd _ t2 _ = B2
      obtain ⟨b2, h2', _⟩ := lay_of' g2 n2
      clear g2 n2
      refine catT ((S.trans b2) _ _ ha) h2' (by rw [List.length_singleton]; omega) fun t3 B3 b3 h3 => ?_
      have S3' := (S.trans b2).trans b3
      refine ⟨g, v0, f, d0, ps ++ [.str (mkS nn)], t3, rfl, h3, by rw [List.length_append, List.length_singleton]; omega, hg.on (tupS_of S3'), Nat.le_trans d1 hd, d2 wf, dl0.same (b2.trans b3), sz.look hlk, fun v' H5 s5 r5 => ?_⟩
      simp only [gName, List.set_cons_succ, List.set_cons_zero]
      have S5 := S3'.trans s5
      cases et : trb f d0 with
      | some p =>
        rw [et] at r5 w1
        obtain ⟨a', rfl, h'⟩ := r5
        refine q _ _ S5 ?_
        rw [w1]
        refine ⟨a', rfl, ?_⟩
        rw [h', List.append_assoc]
        rfl
      | none =>
        rw [et] at r5 w1
        have r5 : v' = .non := r5
        subst r5
        exact ⟨_, _, _, rfl, S5, w1⟩
  · obtain ⟨y3, y4, y6, rfl, S, w1⟩ := pv'
    refine q _ _ S ?_
    rw [w1, List.drop_eq_nil_of_le (by omega)]
    rfl
theorem ok_ta0 (T : Top K mg) (k : Nat) (k1 : 1 ≤ k) (n : Nat) (sA sB sC : Sp) (G_trouble_at : Ok_trouble_at P w base T k sA) (G_record_trouble : Ok_record_trouble P w base T (k + 1) sB) (G_list_trouble : Ok_list_trouble P w base T (k + 1) sC) (e : ∀ m, n = m + 1 → sA = spT m ∧ sB = spRT m ∧ sC = spLT m) : Ok_trouble_at P w base T (k + 2) (spT n) := by
  have G_fits_simple : Ok_fits_simple P w base T 2 spSim := ok_sim T 0
  refine T.F_trouble_at.ok sc_trouble_at (fun vs H Q E h => by obtain ⟨fv, v, f, d, ps, a, rfl, _⟩ := h; rfl) (fun cdv A outer s H vs Q E hr h => ⟨_, PSs.nox (pss_cons (sif (tcmp (kin K) (pe_ix (kget K) (vr 0) pe_int (fun _ _ => rfl)) (pe_glob (v := .ref (He.ga K "SIMPLE")) (by rfl) T.g_SIMPLE rfl) (by rfl)) (pss_one (ps_ret (vif (tst (pe_call G_fits_simple (hr.mono (by omega)) (by rfl) T.g_fits_simple T.F_fits_simple.kp (b_fits_simple T) .nil pass0 (pa_cons (vr 0) (pa_cons (vr 1) pa_nil)))) pe_non (vr 2)))) pss_nil)
      (pss_cons (sif (tcmp (ksame K hr.units) (pe_ix (kget K) (vr 0) pe_int (fun _ _ => rfl)) pe_str (nomark _)) (pss_one (ps_ret (vif (tcmp op_isNo (vr 1) pe_non (nomark _)) pe_non (pe_call G_trouble_at (hr.mono (by omega)) (by rfl) T.g_trouble_at T.F_trouble_at.kp (b_trouble_at T) .nil pass0 (pa_cons (pe_ix (kget K) (vr 0) pe_int (fun _ _ => rfl)) (pa_cons (vr 1) (pa_cons (vr 2) pa_nil))))))) pss_nil)
      (pss_cons (sif (tcmp (ksame K hr.units) (pe_ix (kget K) (vr 0) pe_int (fun _ _ => rfl)) pe_str (nomark _)) (pss_one (ps_ret (pe_call G_record_trouble (hr.mono (by omega)) (by rfl) T.g_record_trouble T.F_record_trouble.kp (b_record_trouble T) .nil pass0 (pa_cons (vr 0) (pa_cons (vr 1) (pa_cons (vr 2) pa_nil)))))) pss_nil)
      (pss_one (ps_ret (pe_call G_list_trouble (hr.mono (by omega)) (by rfl) T.g_list_trouble T.F_list_trouble.kp (b_list_trouble T) .nil pass0 (pa_cons (vr 0) (pa_cons (vr 1) (pa_cons (vr 2) pa_nil))))))))), ?_⟩)
  obtain ⟨fv, v, f, d, ps, a, rfl, ha, hl, hf, hd, wf, dl, sz, q⟩ := h
  rw [st_trouble_at]
  have here : trb f d = some [] → Q (.ref a) H := fun e => q _ _ (Same.refl H) (by rw [e]; exact ⟨a, rfl, by rw [List.map_nil, List.append_nil]; exact ha⟩)
  have well : trb f d = none → Q .non H := fun e => q _ _ (Same.refl H) (by rw [e]; rfl)
  have sim : trb f d = (if simD f d then none else some []) → onB (.bl (simD f d)) fun c => br c (Q .non H) (Q (.ref a) H) := fun e => by
    cases es : simD f d with
    | true => exact well (by rw [e, es]; rfl)
    | false => exact here (by rw [e, es]; rfl)
  cases id hf with
  | text h => exact ⟨_, _, .inr (sqT_of h), rfl, _, .inr (T.q_SIMPLE H), rfl, rfl, ⟨_, v, .text, d, rfl, hf, rfl, dl, sim rfl⟩⟩
  | number h => exact ⟨_, _, .inr (sqT_of h), rfl, _, .inr (T.q_SIMPLE H), rfl, rfl, ⟨_, v, .number, d, rfl, hf, rfl, dl, sim rfl⟩⟩
  | flag h => exact ⟨_, _, .inr (sqT_of h), rfl, _, .inr (T.q_SIMPLE H), rfl, rfl, ⟨_, v, .flag, d, rfl, hf, rfl, dl, sim rfl⟩⟩
  | @opt fa x f1 h hx =>
    obtain ⟨m, rfl⟩ : ∃ m, n = m + 1 := ⟨n - 1, by have : f1.dep + 1 ≤ n := hd; omega⟩
    obtain ⟨rfl, rfl, rfl⟩ := e m rfl
    refine ⟨_, _, .inr (sqT_of h), rfl, _, .inr (T.q_SIMPLE H), rfl, rfl, ⟨_, _, .inr (sqT_of h), rfl, ?_⟩⟩
    have hd : f1.dep + 1 ≤ m + 1 := hd
    have hl : ps.length + (f1.dep + 1) ≤ 900 := hl
    have go : noneD d = false → spT m [x, v, .ref a] H Q E := fun e => ⟨x, v, f1, d, ps, a, rfl, ha, by omega, hx, by omega, wf, dl, sz, fun v' H' s' r' => q v' H' s' (by
      have : trb (.opt f1) d = if noneD d then none else trb f1 d := rfl
      rw [this, e]; exact r')⟩
    cases id dl with
    | non => exact well rfl
    | bl b => exact ⟨_, _, .inr (sqT_of h), rfl, go rfl⟩
    | int i => exact ⟨_, _, .inr (sqT_of h), rfl, go rfl⟩
    | str z => exact ⟨_, _, .inr (sqT_of h), rfl, go rfl⟩
    | lst h1 _ => exact ⟨_, _, .inr (sqT_of h), rfl, go rfl⟩
    | tup h1 _ => exact ⟨_, _, .inr (sqT_of h), rfl, go rfl⟩
    | dic h1 _ _ => exact ⟨_, _, .inr (sqT_of h), rfl, go rfl⟩
  | @list fa x f1 h hx =>
    obtain ⟨m, rfl⟩ : ∃ m, n = m + 1 := ⟨n - 1, by have : f1.dep + 1 ≤ n := hd; omega⟩
    obtain ⟨rfl, rfl, rfl⟩ := e m rfl
    have hd : f1.dep + 1 ≤ m + 1 := hd
    have hl : ps.length + (f1.dep + 1) ≤ 900 := hl
    exact ⟨_, _, .inr (sqT_of h), rfl, _, .inr (T.q_SIMPLE H), rfl, rfl, ⟨_, _, .inr (sqT_of h), rfl, _, _, .inr (sqT_of h), rfl, fa, x, v, .list f1, f1, none, d, ps, a, rfl, ha, by omega, .inl ⟨rfl, rfl, h⟩, hx, by omega, wf, dl, sz, q⟩⟩
  | @keyed fa x f1 kk h hx =>
    obtain ⟨m, rfl⟩ : ∃ m, n = m + 1 := ⟨n - 1, by have : f1.dep + 1 ≤ n := hd; omega⟩
    obtain ⟨rfl, rfl, rfl⟩ := e m rfl
    have hd : f1.dep + 1 ≤ m + 1 := hd
    have hl : ps.length + (f1.dep + 1) ≤ 900 := hl
    obtain ⟨w1, w2⟩ := Bool.and_eq_true_iff.mp wf
    exact ⟨_, _, .inr (sqT_of h), rfl, _, .inr (T.q_SIMPLE H), rfl, rfl, ⟨_, _, .inr (sqT_of h), rfl, _, _, .inr (sqT_of h), rfl, fa, x, v, .keyed f1 kk, f1, some kk, d, ps, a, rfl, ha, by omega, .inr ⟨kk, rfl, rfl, w2, h⟩, hx, by omega, w1, dl, sz, q⟩⟩
  | @rcd fa r pv fs h hr hfs =>
    obtain ⟨m, rfl⟩ : ∃ m, n = m + 1 := ⟨n - 1, by have : depFs fs + 1 ≤ n := hd; omega⟩
    obtain ⟨rfl, rfl, rfl⟩ := e m rfl
    have hd : depFs fs + 1 ≤ m + 1 := hd
    have hl : ps.length + (depFs fs + 1) ≤ 900 := hl
    obtain ⟨w1, w2⟩ := Bool.and_eq_true_iff.mp wf
    exact ⟨_, _, .inr (sqT_of h), rfl, _, .inr (T.q_SIMPLE H), rfl, rfl, ⟨_, _, .inr (sqT_of h), rfl, _, _, .inr (sqT_of h), rfl, fa, r, pv, fs, v, d, ps, a, rfl, ha, by omega, h, hr, hfs, by omega, w2, Nat.le_of_ble_eq_true w1, dl, sz, q⟩⟩
theorem no_ta (T : Top K mg) : Ok_trouble_at P w base T 1 (fun _ _ _ _ => False) := ⟨fun _ _ _ _ h => h.elim, fun _ _ _ _ _ _ _ _ _ _ _ _ _ h => h.elim⟩
theorem no_rt (T : Top K mg) : Ok_record_trouble P w base T 2 (fun _ _ _ _ => False) := ⟨fun _ _ _ _ h => h.elim, fun _ _ _ _ _ _ _ _ _ _ _ _ _ h => h.elim⟩
theorem no_lt (T : Top K mg) : Ok_list_trouble P w base T 2 (fun _ _ _ _ => False) := ⟨fun _ _ _ _ h => h.elim, fun _ _ _ _ _ _ _ _ _ _ _ _ _ h => h.elim⟩
/-- trouble_at: the first trouble of any data with a form of at most n levels -/
theorem ok_ta (T : Top K mg) : ∀ n, Ok_trouble_at P w base T (2 * n + 3) (spT n)
  | 0 => ok_ta0 T 1 (Nat.le_refl 1) 0 _ _ _ (no_ta T) (no_rt T) (no_lt T) fun m e => by cases e
  | n + 1 => ok_ta0 T (2 * n + 3) (by omega) (n + 1) _ _ _ (ok_ta T n) (ok_rt T n _ (ok_ta T n)) (ok_lt T n _ (ok_ta T n)) fun m e => by cases e; exact ⟨rfl, rfl, rfl⟩
end
end Sk
/-! Sk: the class Type: made, read, its trouble -/
namespace Sk
open PySem PySem.Spec PyProof.Rows L2
section
variable {P : Program} {w : World} {K : PySem.W.Frag} {mg : Str → Option Value} {base : Heap}
def ObjT (K : PySem.W.Frag) (H : Hp) (x : Addr) (f : Fm) : Prop := ∃ dx t, H x = some (.ins (He.ga K "Type") dx [("form", t)]) ∧ FmV H t f
theorem ObjT.same {H H' : Hp} {x : Addr} {f : Fm} (h : ObjT K H x f) (s : Same H H') : ObjT K H' x f := by
  obtain ⟨dx, t, h1, h2⟩ := h
  exact ⟨dx, t, s _ _ h1, h2.on (tupS_of s)⟩
def sp_tinit (K : PySem.W.Frag) : Sp := fun vs H Q _ => ∃ x t dx, vs = [.ref x, t] ∧ H x = some (.ins (He.ga K "Type") dx []) ∧ Q .non (upd H x (.ins (He.ga K "Type") dx [("form", t)]))
theorem ok_tinit (T : Top K mg) (k : Nat) : Ok_Type___init__ P w base T (k + 1) (sp_tinit K) := by
  refine T.F_Type___init__.ok sc_Type___init__ (fun vs H Q E h => by obtain ⟨x, t, dx, rfl, _⟩ := h; rfl) (fun cdv A outer s H vs Q E hr h => ⟨_, PSs.nox (pss_one (ps_fld (vr 0) (vr 1) (by rfl))), ?_⟩)
  obtain ⟨x, t, dx, rfl, hx, q⟩ := h
  rw [st_Type___init__]
  exact ⟨_, _, dx, [], rfl, hx, T.cls_Type, T.na_Type_form, by decide, q⟩
def sp_tread (K : PySem.W.Frag) : Sp := fun vs H Q _ => ∃ c z f, vs = [c, .str z] ∧ c = .ref (He.ga K "Type") ∧ z.length ≤ 100000 ∧ rForm 6 z.cps.toList = some (f, []) ∧ ∀ x H', Same H H' → H x = none → ObjT K H' x f → Q (.ref x) H'
theorem ok_tread (T : Top K mg) (k : Nat) : Ok_Type_read P w base T (k + 23) (sp_tread K) := by
  have G_read_form : Ok_read_form P w base T 22 (sp_rf 6) := ok_rf T 6
  have R_Type___init__ := fnR_of (ok_tinit (P := P) (w := w) (base := base) T 0) (b_Type___init__ T)
  refine T.F_Type_read.ok sc_Type_read (fun vs H Q E h => by obtain ⟨c, z, f, rfl, _⟩ := h; rfl) (fun cdv A outer s H vs Q E hr h => ⟨_, PSs.nox (pss_cons (ps_set (i := 2) sc_Type_read.nd rfl (by first | exact .inl rfl | exact .inr rfl) (vif (tst (pe_callB (kis K) (by rfl) T.n_isinstance (by decide +kernel) (pa_cons (vr 1) (pa_cons (pe_bltn (v := .ty "str") (by rfl) T.n_str (by decide +kernel) rfl) pa_nil)))) (pe_call G_read_form (hr.mono (by omega)) (by rfl) T.g_read_form T.F_read_form.kp (b_read_form T) .nil pass0 (pa_cons (vr 1) (pa_cons pe_int (pa_cons pe_int pa_nil)))) pe_non))
      (pss_cons (sif (PW.pt (wor (tcmp op_isNo (vr 2) pe_non (nomark _)) (pw_or1 (tcmp (kother K hr.units) (pe_ix (kget K) (vr 2) pe_int (fun _ _ => rfl)) (pe_callB (klen K) (by rfl) T.n_len (by decide +kernel) (pa_cons (vr 1) pa_nil)) (nomark _))))) (pss_one ps_never) pss_nil)
      (pss_one (ps_ret (pe_makeL (i := 0) rfl (by first | exact Or.inl rfl | exact Or.inr (Or.inl rfl) | exact Or.inr (Or.inr rfl)) T.mk_Type R_Type___init__ (hr.mono (by omega)) pass0 (pa_cons (pe_ix (kget K) (vr 2) pe_int (fun _ _ => rfl)) pa_nil)))))), ?_⟩)
  obtain ⟨c, z, f, rfl, rfl, hz, hf, q⟩ := h
  rw [st_Type_read]
  refine ⟨_, _, .base (.str z), rfl, z, 0, z.cps.toList, rfl, ⟨hz, rfl, Nat.zero_le _⟩, fun v H1 s1 hv => ?_⟩
  rw [hf] at hv
  obtain ⟨p, t, rfl, hp, ht⟩ := hv
  refine ⟨_, _, .inr (sqT_of hp), rfl, size_le hz, ?_⟩
  refine br2 (fun e => ?_) (fun e => ?_)
  · have e : (!decide (V.int ((z.length - 0 : Nat) : Int) = V.int (z.length : Int))) = true := e
    rw [Nat.sub_zero, decide_eq_true rfl] at e
    cases e
  refine ⟨rfl, _, _, .inr (sqT_of hp), rfl, fun x dx nx ndx nxd => ⟨x, t, dx, rfl, upd_same, ?_⟩⟩
  have s2 : Same H1 (upd (upd (upd H1 dx (.own x)) x (.ins (He.ga K "Type") dx [])) x (.ins (He.ga K "Type") dx [("form", t)])) := fun b o hb => by
    have n1 := ne_of_none hb nx
    rw [upd_ne n1, upd_ne n1, upd_ne (ne_of_none hb ndx)]
    exact hb
  exact ⟨rfl, q x _ (s1.trans s2) (s1.free nx) ⟨dx, _, upd_same, ht.on (tupS_of s2)⟩⟩
def sp_ttr (K : PySem.W.Frag) : Sp := fun vs H Q _ => ∃ x v f d, vs = [.ref x, v] ∧ ObjT K H x f ∧ f.dep ≤ 12 ∧ f.wf = true ∧ DL H v d ∧ Sz d ∧ ∀ v' H', Same H H' → ResT H' v' (trb f d) [] → Q v' H'
theorem ok_ttr (T : Top K mg) (k : Nat) : Ok_Type_trouble P w base T (k + 28) (sp_ttr K) := by
  have G_trouble_at : Ok_trouble_at P w base T 27 (spT 12) := ok_ta T 12
  refine T.F_Type_trouble.ok sc_Type_trouble (fun vs H Q E h => by obtain ⟨x, v, f, d, rfl, _⟩ := h; rfl) (fun cdv A outer s H vs Q E hr h => ⟨_, PSs.nox (pss_one (ps_ret (pe_call G_trouble_at (hr.mono (by omega)) (by rfl) T.g_trouble_at T.F_trouble_at.kp (b_trouble_at T) .nil pass0 (pa_cons (pe_fld (vr 0) (by rfl)) (pa_cons (vr 1) (pa_cons (pe_tup pa_nil) pa_nil)))))), ?_⟩)
  obtain ⟨x, v, f, d, rfl, ⟨dx, t, hx, hf⟩, hd, wf, dl, sz, q⟩ := h
  rw [st_Type_trouble]
  refine ⟨_, _, dx, _, t, rfl, hx, T.cls_Type, T.na_Type_form, rfl, Nat.le_of_ble_eq_true rfl, fun t2 n2 => ?_⟩
  generalize g2 : upd _ t2 _ = B2
  obtain ⟨b2, h2, _⟩ := lay_of' g2 n2
  exact ⟨t, v, f, d, [], t2, rfl, h2, by show 0 + f.dep ≤ 900; omega, hf.on (tupS_of b2), hd, wf, dl.same b2, sz, fun v' H' s' r' => q v' H' (b2.trans s') r'⟩
end
end Sk
namespace Sk
open PySem PySem.Spec PyProof.Rows L2
section
variable {P : Program} {w : World} {K : PySem.W.Frag} {mg : Str → Option Value} {base : Heap}
/-! ### _law_chars -/
def menuC : List V := [.str "", .str "a", .str "A b", .str "<", .str "&", .str "&lt;", .str "\"", .str "~", .str "/", .str "?a=1;", .str "\\", .str "\n", .str "{x}", .str "}"] ++ [.str "</p>", .str "'", .str "data", .str "0", .str "-7"]
theorem menuC_ok : ∀ x ∈ menuC, ∃ z, x = .str z ∧ TextOk 5 z := all_okT (by decide +kernel)
theorem signs_ok : ∀ c ∈ (Str.ofString "ab <>&\"~/;=.-_Z9{}\\\n").cps.toList, okc c = true := List.all_eq_true.mp (by decide +kernel)
theorem signs_len : (Str.ofString "ab <>&\"~/;=.-_Z9{}\\\n").cps.toList.length = 20 := by decide +kernel
def sp_chars : Sp := fun vs H Q _ => match vs with
  | [.ref a] => Pool H a ∧ ∀ (z : Str) (H' : Hp), TextOk 10 z → Pool H' a → Keep a H H' → Q (.str z) H'
  | _ => False
end
end Sk
namespace Sk
open PySem PySem.Spec PyProof.Rows L2
section
variable {P : Program} {w : World} {K : PySem.W.Frag} {mg : Str → Option Value} {base : Heap}
/-! ### _law_words -/
def letters : Str := Str.ofString "abcdefghijklmnopqrstuvwxyz"
theorem letters_low : ∀ c ∈ letters.cps.toList, low c = true := List.all_eq_true.mp (by decide +kernel)
theorem letters_len : letters.cps.toList.length = 26 := by decide +kernel
theorem letters_size : letters.length ≤ sizeLine := by decide +kernel
def menuW : List V := [.str "data", .str "href", .str "text", .str "part", .str "page", .str "use", .str "for", .str "end", .str "else", .str "slot", .str "size", .str "has"] ++ [.str "sum", .str "equal", .str "name", .str "x", .str "y", .str "items", .str "id", .str "link", .str "null", .str "by", .str "let", .str "if"]
theorem menuW_ok : ∀ x ∈ menuW, ∃ z, x = .str z ∧ NameOk z := all_okN (by decide +kernel)
/-- some letter -/
theorem letter_at {i : Int} (h0 : 0 ≤ i) (h1 : i < 26) : ∃ c, atI letters.cps.toList i = some c ∧ low c = true :=
  atI_all (xs := letters.cps.toList) (i := i) _ h0 (by rw [letters_len]; exact h1) letters_low
theorem names_of {ys : List V} (h : ∀ (i : Nat) (y : V), ys[i]? = some y → ∃ z, y = V.str z ∧ NameOk z) : ∃ zs : List Str, ys = zs.map V.str ∧ ∀ z ∈ zs, NameOk z := by
  induction ys with
  | nil => exact ⟨[], rfl, fun z hz => by cases hz⟩
  | cons y r ih =>
    obtain ⟨z, rfl, tz⟩ := h 0 y rfl
    obtain ⟨zs, rfl, tzs⟩ := ih fun i y e => h (i + 1) y e
    refine ⟨z :: zs, rfl, fun x hx => ?_⟩
    rcases List.mem_cons.mp hx with e | e
    · rw [e]; exact tz
    · exact tzs x e
/-- n times the letter c -/
theorem name_rep {c n : Nat} {z : Str} (hc : low c = true) (h1 : 1 ≤ n) (h2 : n ≤ 12) (e : z.cps.toList = (List.replicate n [c]).flatten) : NameOk z := by
  have l : z.length = n := by
    rw [len_list, e]
    simp
  refine ⟨by omega, by omega, fun x hx => ?_⟩
  rw [e] at hx
  obtain ⟨l, hl, hx⟩ := List.mem_flatten.mp hx
  rw [List.eq_of_mem_replicate hl] at hx
  have : x = c := by simpa using hx
  rw [this]
  exact hc
/-- at most n small letters -/
def LowN (n : Nat) (z : Str) : Prop := z.length ≤ n ∧ ∀ c ∈ z.cps.toList, low c = true
theorem low_one {c : Nat} (h : low c = true) : LowN 1 ⟨#[c]⟩ := ⟨Nat.le_refl 1, fun x hx => by
  have e : x = c := by simpa using hx
  rw [e]
  exact h⟩
theorem lows_of {n : Nat} {ys : List V} (h : ∀ (i : Nat) (y : V), ys[i]? = some y → ∃ z, y = V.str z ∧ LowN n z) : ∃ zs : List Str, ys = zs.map V.str ∧ ∀ z ∈ zs, LowN n z := by
  induction ys with
  | nil => exact ⟨[], rfl, fun z hz => by cases hz⟩
  | cons y r ih =>
    obtain ⟨z, rfl, tz⟩ := h 0 y rfl
    obtain ⟨zs, rfl, tzs⟩ := ih fun i y e => h (i + 1) y e
    refine ⟨z :: zs, rfl, fun x hx => ?_⟩
    rcases List.mem_cons.mp hx with e | e
    · rw [e]; exact tz
    · exact tzs x e
theorem low_join {y : Str} (hy : y.cps.toList = []) {zs : List Str} (h : ∀ z ∈ zs, LowN 1 z) : LowN zs.length (Txt.join y zs) := by
  have e := join_empty hy zs
  refine ⟨?_, fun c hc => ?_⟩
  · rw [len_list, e, List.length_flatten, List.map_map]
    have := sum_le1 fun z hz => (h z hz).1
    have e2 : (List.length ∘ fun z : Str => z.cps.toList) = fun z => z.length := funext fun z => (len_list z).symm
    rw [e2]
    exact this
  · rw [e] at hc
    obtain ⟨l, hl, hc⟩ := List.mem_flatten.mp hc
    obtain ⟨z, hz, rfl⟩ := List.mem_map.mp hl
    exact (h z hz).2 c hc
theorem cut_mem {z : Str} {lo hi : Option Int} {c : Nat} (h : c ∈ (cutS z lo hi).cps.toList) : c ∈ z.cps.toList := by
  unfold cutS at h
  exact List.drop_subset _ _ (List.take_subset _ _ (by simpa using h))
theorem cut_two (z : Str) {n : Nat} (h : n ≤ z.length) : (cutS z none (some (n : Int))).length = n ∧ (cutS z (some (n : Int)) none).length = z.length - n := by
  have l := len_list z
  constructor
  · rw [len_list]
    unfold cutS
    rw [HT.sIx_none, HT.sIx_nat, Nat.min_eq_left h]
    simp
    rw [← Array.length_toList, ← l]
    omega
  · rw [len_list]
    unfold cutS
    rw [HT.sIx_none, HT.sIx_nat, Nat.min_eq_left h]
    simp
    rw [← Array.length_toList, ← l]
    omega
theorem in_three {z : Str} (h : inV (.str z) [.str "true", .str "false", .str "self"] = true) : z.length ≤ 5 := by
  unfold inV at h
  simp only [List.any_cons, List.any_nil, eqV, Bool.or_false, Bool.or_eq_true] at h
  rcases h with h | h | h
  · have e : Str.ofString "true" = z := by simpa using h
    rw [← e]
    decide +kernel
  · have e : Str.ofString "false" = z := by simpa using h
    rw [← e]
    decide +kernel
  · have e : Str.ofString "self" = z := by simpa using h
    rw [← e]
    decide +kernel
theorem x_low : ∀ c ∈ (Str.ofString "x").cps.toList, low c = true := List.all_eq_true.mp (by decide +kernel)
def sp_words : Sp := fun vs H Q _ => match vs with
  | [.ref a, .int m] => Pool H a ∧ 0 ≤ m ∧ m ≤ 24 ∧ ∀ (D : Addr) (zs : List Str) (H' : Hp), zs.length = m.toNat → (∀ z ∈ zs, NameOk z) → Pool H' a → Keep a H H' → H D = none → H' D = some (.lst (zs.map V.str)) → Q (.ref D) H'
  | _ => False
theorem ok_words (T : Top K mg) (k : Nat) : Ok__law_words P w base T (k + 2) sp_words := by
  have G__law_draw : Ok__law_draw P w base T 1 sp_draw := ok_draw T 0
  refine T.F__law_words.ok sc__law_words (fun vs H Q E h => ?_) (fun cdv A outer s H vs Q E hr h => ⟨_, PSs.nox (pss_cons (ps_set (i := 2) sc__law_words.nd rfl (by first | exact .inl rfl | exact .inr rfl) pe_str)
      (pss_cons (ps_set (i := 3) sc__law_words.nd rfl (by first | exact .inl rfl | exact .inr rfl) (pe_lst (pa_cons pe_str (pa_cons pe_str (pa_cons pe_str (pa_cons pe_str (pa_cons pe_str (pa_cons pe_str (pa_cons pe_str (pa_cons pe_str (pa_cons pe_str (pa_cons pe_str (pa_cons pe_str (pa_cons pe_str pa_nil))))))))))))))
      (pss_cons (ps_set (i := 3) sc__law_words.nd rfl (by first | exact .inl rfl | exact .inr rfl) (pe_op (kplus K) (vr 3) (pe_lst (pa_cons pe_str (pa_cons pe_str (pa_cons pe_str (pa_cons pe_str (pa_cons pe_str (pa_cons pe_str (pa_cons pe_str (pa_cons pe_str (pa_cons pe_str (pa_cons pe_str (pa_cons pe_str (pa_cons pe_str pa_nil)))))))))))))))
      (pss_cons (ps_asg (pe_tup (pa_cons (pe_call G__law_draw (hr.mono (by omega)) (by rfl) T.g__law_draw T.F__law_draw.kp (b__law_draw T) .nil pass0 (pa_cons (vr 0) (pa_cons pe_int pa_nil))) (pa_cons (pe_call G__law_draw (hr.mono (by omega)) (by rfl) T.g__law_draw T.F__law_draw.kp (b__law_draw T) .nil pass0 (pa_cons (vr 0) (pa_cons pe_int pa_nil))) pa_nil))) (gtup K 2 rfl (gs_cons (pg_name (i := 4) sc__law_words.nd rfl (by first | exact .inl rfl | exact .inr rfl)) (gs_cons (pg_name (i := 5) sc__law_words.nd rfl (by first | exact .inl rfl | exact .inr rfl)) gs_nil))))
      (pss_cons (sif (tcmp (ksame K hr.units) (vr 4) pe_int (nomark _)) (pss_one (ps_ret (pe_lc (own := [("_law_k", 9)])  rfl sc__law_words.nd (pi_range1 (by rfl) T.n_range (pa_cons (vr 1) pa_nil)) (blkOk_by (own := [("_law_k", 9)]) (N := ["_law_pool_here", "_law_many", "_law_letters", "_law_menu", "_law_way", "_law_begin", "_law_stem", "_law_at", "_law_found", "_law_k", "_law_word"]) (sc := defScope s__law_words) (by decide +kernel)) (fun _ _ _ _ _ => (pg_name (i := 9) sc__law_words.nd rfl (by first | exact .inl rfl | exact .inr rfl))) (fun _ _ _ _ _ => pts_nil) (fun _ _ _ _ _ => up (pe_ix (kget K) (vr 3) (pe_op op_modI (pe_op (kplus K) (vr 5) (pe_op op_mulU pe_int (vr 9))) pe_int) (fun _ _ => rfl)))))) pss_nil)
      (pss_cons (sif (tcmp (ksame K hr.units) (vr 4) pe_int (nomark _)) (pss_one (ps_ret (pe_lc (own := [("_law_k", 9)])  rfl sc__law_words.nd (pi_range1 (by rfl) T.n_range (pa_cons (vr 1) pa_nil)) (blkOk_by (own := [("_law_k", 9)]) (N := ["_law_pool_here", "_law_many", "_law_letters", "_law_menu", "_law_way", "_law_begin", "_law_stem", "_law_at", "_law_found", "_law_k", "_law_word"]) (sc := defScope s__law_words) (by decide +kernel)) (fun _ _ _ _ _ => (pg_name (i := 9) sc__law_words.nd rfl (by first | exact .inl rfl | exact .inr rfl))) (fun _ _ _ _ _ => pts_nil) (fun _ _ _ _ _ => up (pe_op op_mulU (pe_ix (kget K) (vr 2) (pe_op op_modI (pe_op (kplus K) (vr 5) (pe_op op_mulU pe_int (vr 9))) pe_int) (fun _ _ => rfl)) (pe_op (kplus K) pe_int (pe_op op_modI (vr 9) pe_int))))))) pss_nil)
      (pss_cons (ps_set (i := 6) sc__law_words.nd rfl (by first | exact .inl rfl | exact .inr rfl) (kjoin K pe_str (pe_lc (own := [("_law_k", 9)])  rfl sc__law_words.nd (pi_range1 (by rfl) T.n_range (pa_cons (pe_call G__law_draw (hr.mono (by omega)) (by rfl) T.g__law_draw T.F__law_draw.kp (b__law_draw T) .nil pass0 (pa_cons (vr 0) (pa_cons pe_int pa_nil))) pa_nil)) (blkOk_by (own := [("_law_k", 9)]) (N := ["_law_pool_here", "_law_many", "_law_letters", "_law_menu", "_law_way", "_law_begin", "_law_stem", "_law_at", "_law_found", "_law_k", "_law_word"]) (sc := defScope s__law_words) (by decide +kernel)) (fun _ _ _ _ _ => (pg_name (i := 9) sc__law_words.nd rfl (by first | exact .inl rfl | exact .inr rfl))) (fun _ _ _ _ _ => pts_nil) (fun _ _ _ _ _ => up (pe_ix (kget K) (vr 2) (pe_call G__law_draw (hr.mono (by omega)) (by rfl) T.g__law_draw T.F__law_draw.kp (b__law_draw T) .nil pass0 (pa_cons (vr 0) (pa_cons pe_int pa_nil))) (fun _ _ => rfl))))))
      (pss_cons (ps_set (i := 7) sc__law_words.nd rfl (by first | exact .inl rfl | exact .inr rfl) (pe_call G__law_draw (hr.mono (by omega)) (by rfl) T.g__law_draw T.F__law_draw.kp (b__law_draw T) .nil pass0 (pa_cons (vr 0) (pa_cons (pe_op (kplus K) (pe_callB (klen K) (by rfl) T.n_len (by decide +kernel) (pa_cons (vr 6) pa_nil)) pe_int) pa_nil))))
      (pss_cons (ps_setLc (i := 8) (own := [("_law_k", 9)])  rfl sc__law_words.nd rfl rfl (sw_true rfl rfl rfl (by decide +kernel)) (pi_range1 (by rfl) T.n_range (pa_cons (vr 1) pa_nil)) (blkOk_by (own := [("_law_k", 9)]) (N := ["_law_pool_here", "_law_many", "_law_letters", "_law_menu", "_law_way", "_law_begin", "_law_stem", "_law_at", "_law_found", "_law_k", "_law_word"]) (sc := defScope s__law_words) (by decide +kernel)) (fun _ _ _ _ _ => (pg_name (i := 9) sc__law_words.nd rfl (by first | exact .inl rfl | exact .inr rfl))) (fun _ _ _ _ _ => pts_nil) (fun _ _ _ _ _ => up (pe_op (kplus K) (pe_op (kplus K) (pe_slice (kcut K) (vr 6) po_none (po_u (vr 7))) (pe_ix (kget K) (vr 2) (pe_op op_modI (pe_op (kplus K) (vr 5) (pe_op op_mulU pe_int (vr 9))) pe_int) (fun _ _ => rfl))) (pe_slice (kcut K) (vr 6) (po_u (vr 7)) po_none))))
      (pss_one (ps_ret (pe_lc (own := [("_law_word", 10)])  rfl sc__law_words.nd (ilist K (vr 8)) (blkOk_by (own := [("_law_word", 10)]) (N := ["_law_pool_here", "_law_many", "_law_letters", "_law_menu", "_law_way", "_law_begin", "_law_stem", "_law_at", "_law_found", "_law_k", "_law_word"]) (sc := defScope s__law_words) (by decide +kernel)) (fun _ _ _ _ _ => (pg_name (i := 10) sc__law_words.nd rfl (by first | exact .inl rfl | exact .inr rfl))) (fun _ _ _ _ _ => pts_nil) (fun _ _ _ _ _ => up (vif (tcmp (kin K) (vr 10) (pe_lst (pa_cons pe_str (pa_cons pe_str (pa_cons pe_str pa_nil)))) (by rfl)) (pe_op (kplus K) (vr 10) pe_str) (vr 10))))))))))))))), ?_⟩)
  · unfold sp_words at h
    split at h
    · rfl
    · exact h.elim
  · unfold sp_words at h
    split at h
    · obtain ⟨hp, hm0, hm1, q⟩ := h
      rename_i a m
      rw [st__law_words]
      refine ⟨Nat.le_of_ble_eq_true rfl, fun p np => ?_⟩
      refine ⟨Nat.le_of_ble_eq_true rfl, fun p2 np2 => ?_⟩
      have ne2 := (upd_none np2).1
      refine .inl ⟨p, p2, _, _, rfl, rfl, (upd_ne ne2.symm).trans upd_same, upd_same, Nat.le_of_ble_eq_true rfl, fun t nt => ?_⟩
      have net : t ≠ a := fun z => by
        have := (upd_none (upd_none nt).2).2
        rw [z] at this
        exact hp.ne this rfl
      have s0 : Same H (upd (upd (upd H p _) p2 _) t (.lst menuW)) := ((same_new np).trans (same_new np2)).trans (same_new nt)
      refine ⟨hp.same s0, by decide, by decide, fun i1 H1 h0 h1 p1 k1 => ?_⟩
      refine ⟨p1, by decide, by decide, fun i2 H2 h2 h3 p2 k2 => ?_⟩
      have t2 : H2 t = some (.lst menuW) := k2 t _ net (k1 t _ net upd_same)
      have k2 : Keep a H H2 := ((keep_of s0).trans k1).trans k2
      refine ⟨Nat.le_of_ble_eq_true rfl, fun u nu => ?_⟩
      refine ⟨_, _, rfl, sqT_of upd_same, rfl, ?_⟩
      have p3 : Pool (upd H2 u (.tup [.int i1, .int i2])) a := p2.new (p2.ne nu)
      have k3 : Keep a H (upd H2 u (.tup [.int i1, .int i2])) := k2.trans (keep_of (same_new nu))
      have t3 : upd H2 u (.tup [.int i1, .int i2]) t = some (.lst menuW) := same_new nu _ _ t2
      have fin : ∀ (D : Addr) (H4 : Hp) (ys : List V), upd H2 u (.tup [.int i1, .int i2]) D = none → Pool H4 a → Keep a (upd H2 u (.tup [.int i1, .int i2])) H4 → ys.length = m.toNat → H4 D = some (.lst ys) → (∀ (i : Nat) (y : V), ys[i]? = some y → ∃ z, y = V.str z ∧ NameOk z) → Q (.ref D) H4 := fun D H4 ys nD p4 k4 l4 e4 q4 => by
        obtain ⟨zs, rfl, hz⟩ := names_of q4
        have hD : H D = none := k3.free nD (p3.ne nD)
        exact q D zs H4 (by rw [← l4, List.length_map]) hz p4 (k3.trans k4) hD e4
      revert p3 k3 t3 fin
      generalize upd H2 u (.tup [.int i1, .int i2]) = H3
      intro p3 k3 t3 fin
      simp only [List.set_cons_succ, List.set_cons_zero]
      refine br2 (fun e => ?_) (fun e => ?_)
      · refine ⟨m, rfl, by omega, by omega, fun D nD => ?_⟩
        refine lcr (fr_keep (p3.ne nD)) (fun _ v _ => ∃ z, v = .str z ∧ NameOk z) p3 nD (by omega) (fun _ _ _ _ h _ => h) (fun _ => rfl) (fun i H4 hi p4 k4 => ?_) (fun H4 ys p4 k4 l4 e4 q4 => fin D H4 ys nD p4 k4 l4 e4 q4)
        obtain ⟨v, ev, z, rfl, tz⟩ := atI_all (xs := menuW) (i := (i2 + 5 * (0 + (i : Int))) % 24) _ (Int.emod_nonneg _ (by decide)) (Int.emod_lt_of_pos _ (by decide)) menuW_ok
        exact ⟨.inl ⟨by decide, by decide⟩, by decide, _, _, .inl (sqL_of (k4 t _ net t3)), ev, p4, Keep.refl _ _, z, rfl, tz⟩
      refine br2 (fun e => ?_) (fun e => ?_)
      · refine ⟨m, rfl, by omega, by omega, fun D nD => ?_⟩
        refine lcr (fr_keep (p3.ne nD)) (fun _ v _ => ∃ z, v = .str z ∧ NameOk z) p3 nD (by omega) (fun _ _ _ _ h _ => h) (fun _ => rfl) (fun i H4 hi p4 k4 => ?_) (fun H4 ys p4 k4 l4 e4 q4 => fin D H4 ys nD p4 k4 l4 e4 q4)
        obtain ⟨c, ec, lc⟩ := letter_at (i := (i2 + 7 * (0 + (i : Int))) % 26) (Int.emod_nonneg _ (by decide)) (Int.emod_lt_of_pos _ (by decide))
        have hj0 : 0 ≤ (0 + (i : Int)) % 12 := Int.emod_nonneg _ (by decide)
        have hj1 : (0 + (i : Int)) % 12 < 12 := Int.emod_lt_of_pos _ (by decide)
        refine ⟨.inl ⟨by decide, by decide⟩, by decide, letters_size, c, ec, by decide, by omega, by omega, by show 1 ≤ 1000; decide, fun z ez => ?_⟩
        exact ⟨p4, Keep.refl _ _, z, rfl, name_rep lc (by omega) (by omega) ez⟩
      · refine ⟨p3, by decide, by decide, fun i4 H4 h4 h5 p4 k4 => ?_⟩
        refine ⟨i4, rfl, by omega, by omega, fun D nD => ?_⟩
        refine lcr (fr_keep (p4.ne nD)) (fun _ v _ => ∃ z, v = .str z ∧ LowN 1 z) p4 nD (by omega) (fun _ _ _ _ h _ => h) (fun _ => rfl) (fun i H5 hi p5 k5 => ?_) (fun H5 ys p5 k5 l5 e5 q5 => ?_)
        · refine ⟨p5, by decide, by decide, fun i6 H6 h6 h7 p6 k6 => ?_⟩
          obtain ⟨c, ec, lc⟩ := letter_at h6 h7
          exact ⟨letters_size, c, ec, p6, k6, _, rfl, low_one lc⟩
        · obtain ⟨zs, rfl, hz⟩ := lows_of q5
          rw [List.length_map] at l5
          have st := low_join (y := "") rfl hz
          have hs : ((zs.map (·.length)).sum) ≤ zs.length := sum_le1 fun z hz' => (hz z hz').1
          refine ⟨zs, .inl (sqL_of e5), by show _ + zs.length * 0 ≤ 16777216; omega, ?_⟩
          generalize hst : Txt.join "" zs = stem at st ⊢
          have lst : stem.length ≤ 11 := by have := st.1; omega
          refine ⟨size_le (by omega), p5, by omega, by omega, fun i6 H6 h6 h7 p6 k6 => ?_⟩
          have k6 : Keep a H3 H6 := (k4.trans k5).trans k6
          refine ⟨m, rfl, by omega, by omega, fun D2 nD2 => ?_⟩
          refine lcr (fr_keep (p6.ne nD2)) (fun _ v _ => ∃ z, v = .str z ∧ NameOk z) p6 nD2 (by omega) (fun _ _ _ _ h _ => h) (fun _ => rfl) (fun i H7 hi p7 k7 => ?_) (fun H7 ys p7 k7 l7 e7 q7 => ?_)
          · obtain ⟨c, ec, lc⟩ := letter_at (i := (i2 + 5 * (0 + (i : Int))) % 26) (Int.emod_nonneg _ (by decide)) (Int.emod_lt_of_pos _ (by decide))
            have hcut := cut_two stem (n := i6.toNat) (by omega)
            rw [show ((i6.toNat : Nat) : Int) = i6 from by omega] at hcut
            have e1 : (Str.mk #[c]).length = 1 := rfl
            refine ⟨size_le (by omega), .inl ⟨by decide, by decide⟩, by decide, letters_size, c, ec, size_le (by rw [e1]; omega), size_le (by omega), size_le (by rw [app_len, e1]; omega), p7, Keep.refl _ _, _, rfl, ?_⟩
            refine ⟨by rw [app_len, app_len, e1]; omega, by rw [app_len, app_len, e1]; omega, fun x hx => ?_⟩
            rw [app_list, app_list] at hx
            rcases List.mem_append.mp hx with hx | hx
            · rcases List.mem_append.mp hx with hx | hx
              · exact st.2 x (cut_mem hx)
              · have : x = c := by simpa using hx
                rw [this]
                exact lc
            · exact st.2 x (cut_mem hx)
          · obtain ⟨ws, rfl, hws⟩ := names_of q7
            rw [List.length_map] at l7
            have neD2 := p6.ne nD2
            refine ⟨D2, rfl, ⟨_, sqL_of e7⟩, fun D3 nD3 => ?_⟩
            refine lcl (xs := ws.map V.str) (fr_keep (p7.ne nD3)) (fun _ v _ => ∃ z, v = .str z ∧ NameOk z) p7 nD3 (by rw [List.length_map]; omega) (fun H8 p8 k8 => sqL_of (k8 D2 _ neD2 e7)) (fun _ _ _ _ h _ => h) (fun _ => rfl) (fun i x H8 hx p8 k8 => ?_) (fun H8 ys p8 k8 l8 e8 q8 => ?_)
            · obtain ⟨z, hz, rfl⟩ := List.mem_map.mp (List.mem_of_getElem? hx)
              have nz := hws z hz
              refine ⟨Nat.le_of_ble_eq_true rfl, fun p9 np9 => ⟨_, .inl (sqL_of upd_same), rfl, rfl, br2 (fun e => ?_) (fun e => ?_)⟩⟩
              · have h5 := in_three e
                have ex : (Str.ofString "x").length = 1 := by decide +kernel
                refine ⟨size_le (by rw [ex]; omega), p8.new (p8.ne np9), keep_of (same_new np9), _, rfl, by rw [app_len]; omega, by rw [app_len, ex]; omega, fun c hc => ?_⟩
                rw [app_list] at hc
                rcases List.mem_append.mp hc with hc | hc
                · exact nz.2.2 c hc
                · exact x_low c hc
              · exact ⟨p8.new (p8.ne np9), keep_of (same_new np9), z, rfl, nz⟩
            · rw [List.length_map] at l8
              refine fin D3 H8 ys ?_ p8 ((k6.trans k7).trans k8) (by omega) e8 q8
              exact (k6.trans k7).free nD3 (p7.ne nD3)
    · exact h.elim
end
end Sk
/-! Sk: _law_words, different names -/
namespace Sk
open PySem PySem.Spec PyProof.Rows L2
theorem names_ofR : ∀ {R : Nat → Str → Prop} {ys : List V}, (∀ (i : Nat) (y : V), ys[i]? = some y → ∃ z, y = V.str z ∧ NameOk z ∧ R i z) → ∃ zs : List Str, ys = zs.map V.str ∧ (∀ z ∈ zs, NameOk z) ∧ ∀ (i : Nat) (z : Str), zs[i]? = some z → R i z
  | R, [], h => ⟨[], rfl, fun z hz => (by cases hz), fun i z h => (by simp at h)⟩
  | R, y :: r, h => by
    obtain ⟨z, rfl, tz, rz⟩ := h 0 y rfl
    obtain ⟨zs, rfl, tzs, rzs⟩ := names_ofR (R := fun i => R (i + 1)) (ys := r) fun i y e => h (i + 1) y e
    refine ⟨z :: zs, rfl, fun x hx => ?_, fun i x hx => ?_⟩
    · rcases List.mem_cons.mp hx with e | e
      · rw [e]; exact tz
      · exact tzs x e
    · cases i with
      | zero => cases hx; exact rz
      | succ i => exact rzs i x (by simpa using hx)
theorem nodup_R {R : Nat → Str → Prop} {zs : List Str} {m : Nat} (hm : zs.length ≤ m) (inj : ∀ (i j : Nat) (z : Str), i < m → j < m → R i z → R j z → i = j) (h : ∀ (i : Nat) (z : Str), zs[i]? = some z → R i z) : zs.Nodup := by
  refine List.pairwise_iff_getElem.mpr fun i j hi hj hij e => ?_
  have h1 := h i _ (List.getElem?_eq_getElem hi)
  have h2 := h j _ (List.getElem?_eq_getElem hj)
  rw [e] at h1
  have := inj i j _ (by omega) (by omega) h1 h2
  omega
theorem atI_nat {α : Type} {xs : List α} {i : Int} {x : α} (h0 : 0 ≤ i) (h : atI xs i = some x) : xs[i.toNat]? = some x := by
  unfold atI ixN at h
  rw [if_pos h0] at h
  split at h
  · exact h
  · cases h
theorem menu_nd : ∀ i < 24, ∀ j < 24, menuW[i]? = menuW[j]? → i = j := by decide +kernel
theorem letters_nd : ∀ i < 26, ∀ j < 26, letters.cps.toList[i]? = letters.cps.toList[j]? → i = j := by decide +kernel
theorem menu_inj {b : Int} {i j : Nat} {x : V} (hi : i < 24) (hj : j < 24) (h : atI menuW ((b + 5 * (0 + (i : Int))) % 24) = some x) (h' : atI menuW ((b + 5 * (0 + (j : Int))) % 24) = some x) : i = j := by
  have a0 := Int.emod_nonneg (b + 5 * (0 + (i : Int))) (show (24 : Int) ≠ 0 by decide)
  have a1 := Int.emod_lt_of_pos (b + 5 * (0 + (i : Int))) (show (0 : Int) < 24 by decide)
  have b0 := Int.emod_nonneg (b + 5 * (0 + (j : Int))) (show (24 : Int) ≠ 0 by decide)
  have b1 := Int.emod_lt_of_pos (b + 5 * (0 + (j : Int))) (show (0 : Int) < 24 by decide)
  have := menu_nd _ (by omega) _ (by omega) ((atI_nat a0 h).trans (atI_nat b0 h').symm)
  omega
theorem letter_inj {a b : Int} {c : Nat} (a0 : 0 ≤ a) (a1 : a < 26) (b0 : 0 ≤ b) (b1 : b < 26) (h : atI letters.cps.toList a = some c) (h' : atI letters.cps.toList b = some c) : a = b := by
  have := letters_nd _ (by omega) _ (by omega) ((atI_nat a0 h).trans (atI_nat b0 h').symm)
  omega
def repR (b : Int) (i : Nat) (z : Str) : Prop := ∃ c n : Nat, atI letters.cps.toList ((b + 7 * (0 + (i : Int))) % 26) = some c ∧ 1 ≤ n ∧ z.cps.toList = (List.replicate n [c]).flatten
theorem rep_inj {b : Int} {i j : Nat} {z : Str} (hi : i < 24) (hj : j < 24) (h : repR b i z) (h' : repR b j z) : i = j := by
  obtain ⟨c, n, h1, h2, h3⟩ := h
  obtain ⟨c', n', k1, k2, k3⟩ := h'
  have e : c = c' := by
    rw [h3] at k3
    obtain ⟨n, rfl⟩ : ∃ g, n = g + 1 := ⟨n - 1, by omega⟩
    obtain ⟨n', rfl⟩ : ∃ g, n' = g + 1 := ⟨n' - 1, by omega⟩
    rw [List.replicate_succ, List.replicate_succ, List.flatten_cons, List.flatten_cons] at k3
    have := congrArg List.head? k3
    simpa using this
  subst e
  have a0 := Int.emod_nonneg (b + 7 * (0 + (i : Int))) (show (26 : Int) ≠ 0 by decide)
  have a1 := Int.emod_lt_of_pos (b + 7 * (0 + (i : Int))) (show (0 : Int) < 26 by decide)
  have b0 := Int.emod_nonneg (b + 7 * (0 + (j : Int))) (show (26 : Int) ≠ 0 by decide)
  have b1 := Int.emod_lt_of_pos (b + 7 * (0 + (j : Int))) (show (0 : Int) < 26 by decide)
  have := letter_inj a0 a1 b0 b1 h1 k1
  omega
def midR (x y : Str) (b : Int) (i : Nat) (z : Str) : Prop := ∃ c : Nat, atI letters.cps.toList ((b + 5 * (0 + (i : Int))) % 26) = some c ∧ z = (x ++ Str.mk #[c]) ++ y
theorem mid_inj {x y : Str} {b : Int} {i j : Nat} {z : Str} (hi : i < 24) (hj : j < 24) (h : midR x y b i z) (h' : midR x y b j z) : i = j := by
  obtain ⟨c, h1, h3⟩ := h
  obtain ⟨c', k1, k3⟩ := h'
  have e : c = c' := by
    have := congrArg (fun s : Str => s.cps.toList) (h3.symm.trans k3)
    simp only [app_list] at this
    have := List.append_cancel_right this
    have := List.append_cancel_left this
    simpa using this
  subst e
  have a0 := Int.emod_nonneg (b + 5 * (0 + (i : Int))) (show (26 : Int) ≠ 0 by decide)
  have a1 := Int.emod_lt_of_pos (b + 5 * (0 + (i : Int))) (show (0 : Int) < 26 by decide)
  have b0 := Int.emod_nonneg (b + 5 * (0 + (j : Int))) (show (26 : Int) ≠ 0 by decide)
  have b1 := Int.emod_lt_of_pos (b + 5 * (0 + (j : Int))) (show (0 : Int) < 26 by decide)
  have := letter_inj a0 a1 b0 b1 h1 k1
  omega
def endR (ws : List Str) (i : Nat) (z : Str) : Prop := ∃ u, ws[i]? = some u ∧ (z = u ∨ z = u ++ Str.ofString "x")
theorem nodup_at {ws : List Str} (nd : ws.Nodup) {i j : Nat} {u : Str} (h : ws[i]? = some u) (h' : ws[j]? = some u) : i = j := by
  obtain ⟨hi, e1⟩ := List.getElem?_eq_some_iff.mp h
  obtain ⟨hj, e2⟩ := List.getElem?_eq_some_iff.mp h'
  have nd := List.pairwise_iff_getElem.mp nd
  rcases Nat.lt_trichotomy i j with l | l | l
  · exact absurd (e1.trans e2.symm) (nd i j hi hj l)
  · exact l
  · exact absurd (e2.trans e1.symm) (nd j i hj hi l)
theorem end_inj {ws : List Str} {n : Nat} (nd : ws.Nodup) (lw : ∀ z ∈ ws, z.length = n) {i j : Nat} {z : Str} (h : endR ws i z) (h' : endR ws j z) : i = j := by
  obtain ⟨u, h1, h2⟩ := h
  obtain ⟨v, k1, k2⟩ := h'
  have lu := lw u (List.mem_of_getElem? h1)
  have lv := lw v (List.mem_of_getElem? k1)
  have ex : (Str.ofString "x").length = 1 := by decide +kernel
  have e : u = v := by
    rcases h2 with rfl | rfl
    · rcases k2 with e | e
      · exact e
      · have := congrArg Str.length e
        rw [app_len, ex] at this
        omega
    · rcases k2 with e | e
      · have := congrArg Str.length e
        rw [app_len, ex] at this
        omega
      · have := congrArg (fun s : Str => s.cps.toList) e
        simp only [app_list] at this
        have := List.append_cancel_right this
        rw [← mk_sl u, ← mk_sl v, this]
  subst e
  exact nodup_at nd h1 k1
section
variable {P : Program} {w : World} {K : PySem.W.Frag} {mg : Str → Option Value} {base : Heap}
def sp_wordsD : Sp := fun vs H Q _ => match vs with
  | [.ref a, .int m] => Pool H a ∧ 0 ≤ m ∧ m ≤ 24 ∧ ∀ (D : Addr) (zs : List Str) (H' : Hp), zs.length = m.toNat → (∀ z ∈ zs, NameOk z) → zs.Nodup → Pool H' a → Keep a H H' → H D = none → H' D = some (.lst (zs.map V.str)) → Q (.ref D) H'
  | _ => False
theorem ok_wordsD (T : Top K mg) (k : Nat) : Ok__law_words P w base T (k + 2) sp_wordsD := by
  have G__law_draw : Ok__law_draw P w base T 1 sp_draw := ok_draw T 0
  refine T.F__law_words.ok sc__law_words (fun vs H Q E h => ?_) (fun cdv A outer s H vs Q E hr h => ⟨_, PSs.nox (pss_cons (ps_set (i := 2) sc__law_words.nd rfl (by first | exact .inl rfl | exact .inr rfl) pe_str)
      (pss_cons (ps_set (i := 3) sc__law_words.nd rfl (by first | exact .inl rfl | exact .inr rfl) (pe_lst (pa_cons pe_str (pa_cons pe_str (pa_cons pe_str (pa_cons pe_str (pa_cons pe_str (pa_cons pe_str (pa_cons pe_str (pa_cons pe_str (pa_cons pe_str (pa_cons pe_str (pa_cons pe_str (pa_cons pe_str pa_nil))))))))))))))
      (pss_cons (ps_set (i := 3) sc__law_words.nd rfl (by first | exact .inl rfl | exact .inr rfl) (pe_op (kplus K) (vr 3) (pe_lst (pa_cons pe_str (pa_cons pe_str (pa_cons pe_str (pa_cons pe_str (pa_cons pe_str (pa_cons pe_str (pa_cons pe_str (pa_cons pe_str (pa_cons pe_str (pa_cons pe_str (pa_cons pe_str (pa_cons pe_str pa_nil)))))))))))))))
      (pss_cons (ps_asg (pe_tup (pa_cons (pe_call G__law_draw (hr.mono (by omega)) (by rfl) T.g__law_draw T.F__law_draw.kp (b__law_draw T) .nil pass0 (pa_cons (vr 0) (pa_cons pe_int pa_nil))) (pa_cons (pe_call G__law_draw (hr.mono (by omega)) (by rfl) T.g__law_draw T.F__law_draw.kp (b__law_draw T) .nil pass0 (pa_cons (vr 0) (pa_cons pe_int pa_nil))) pa_nil))) (gtup K 2 rfl (gs_cons (pg_name (i := 4) sc__law_words.nd rfl (by first | exact .inl rfl | exact .inr rfl)) (gs_cons (pg_name (i := 5) sc__law_words.nd rfl (by first | exact .inl rfl | exact .inr rfl)) gs_nil))))
      (pss_cons (sif (tcmp (ksame K hr.units) (vr 4) pe_int (nomark _)) (pss_one (ps_ret (pe_lc (own := [("_law_k", 9)])  rfl sc__law_words.nd (pi_range1 (by rfl) T.n_range (pa_cons (vr 1) pa_nil)) (blkOk_by (own := [("_law_k", 9)]) (N := ["_law_pool_here", "_law_many", "_law_letters", "_law_menu", "_law_way", "_law_begin", "_law_stem", "_law_at", "_law_found", "_law_k", "_law_word"]) (sc := defScope s__law_words) (by decide +kernel)) (fun _ _ _ _ _ => (pg_name (i := 9) sc__law_words.nd rfl (by first | exact .inl rfl | exact .inr rfl))) (fun _ _ _ _ _ => pts_nil) (fun _ _ _ _ _ => up (pe_ix (kget K) (vr 3) (pe_op op_modI (pe_op (kplus K) (vr 5) (pe_op op_mulU pe_int (vr 9))) pe_int) (fun _ _ => rfl)))))) pss_nil)
      (pss_cons (sif (tcmp (ksame K hr.units) (vr 4) pe_int (nomark _)) (pss_one (ps_ret (pe_lc (own := [("_law_k", 9)])  rfl sc__law_words.nd (pi_range1 (by rfl) T.n_range (pa_cons (vr 1) pa_nil)) (blkOk_by (own := [("_law_k", 9)]) (N := ["_law_pool_here", "_law_many", "_law_letters", "_law_menu", "_law_way", "_law_begin", "_law_stem", "_law_at", "_law_found", "_law_k", "_law_word"]) (sc := defScope s__law_words) (by decide +kernel)) (fun _ _ _ _ _ => (pg_name (i := 9) sc__law_words.nd rfl (by first | exact .inl rfl | exact .inr rfl))) (fun _ _ _ _ _ => pts_nil) (fun _ _ _ _ _ => up (pe_op op_mulU (pe_ix (kget K) (vr 2) (pe_op op_modI (pe_op (kplus K) (vr 5) (pe_op op_mulU pe_int (vr 9))) pe_int) (fun _ _ => rfl)) (pe_op (kplus K) pe_int (pe_op op_modI (vr 9) pe_int))))))) pss_nil)
      (pss_cons (ps_set (i := 6) sc__law_words.nd rfl (by first | exact .inl rfl | exact .inr rfl) (kjoin K pe_str (pe_lc (own := [("_law_k", 9)])  rfl sc__law_words.nd (pi_range1 (by rfl) T.n_range (pa_cons (pe_call G__law_draw (hr.mono (by omega)) (by rfl) T.g__law_draw T.F__law_draw.kp (b__law_draw T) .nil pass0 (pa_cons (vr 0) (pa_cons pe_int pa_nil))) pa_nil)) (blkOk_by (own := [("_law_k", 9)]) (N := ["_law_pool_here", "_law_many", "_law_letters", "_law_menu", "_law_way", "_law_begin", "_law_stem", "_law_at", "_law_found", "_law_k", "_law_word"]) (sc := defScope s__law_words) (by decide +kernel)) (fun _ _ _ _ _ => (pg_name (i := 9) sc__law_words.nd rfl (by first | exact .inl rfl | exact .inr rfl))) (fun _ _ _ _ _ => pts_nil) (fun _ _ _ _ _ => up (pe_ix (kget K) (vr 2) (pe_call G__law_draw (hr.mono (by omega)) (by rfl) T.g__law_draw T.F__law_draw.kp (b__law_draw T) .nil pass0 (pa_cons (vr 0) (pa_cons pe_int pa_nil))) (fun _ _ => rfl))))))
      (pss_cons (ps_set (i := 7) sc__law_words.nd rfl (by first | exact .inl rfl | exact .inr rfl) (pe_call G__law_draw (hr.mono (by omega)) (by rfl) T.g__law_draw T.F__law_draw.kp (b__law_draw T) .nil pass0 (pa_cons (vr 0) (pa_cons (pe_op (kplus K) (pe_callB (klen K) (by rfl) T.n_len (by decide +kernel) (pa_cons (vr 6) pa_nil)) pe_int) pa_nil))))
      (pss_cons (ps_setLc (i := 8) (own := [("_law_k", 9)])  rfl sc__law_words.nd rfl rfl (sw_true rfl rfl rfl (by decide +kernel)) (pi_range1 (by rfl) T.n_range (pa_cons (vr 1) pa_nil)) (blkOk_by (own := [("_law_k", 9)]) (N := ["_law_pool_here", "_law_many", "_law_letters", "_law_menu", "_law_way", "_law_begin", "_law_stem", "_law_at", "_law_found", "_law_k", "_law_word"]) (sc := defScope s__law_words) (by decide +kernel)) (fun _ _ _ _ _ => (pg_name (i := 9) sc__law_words.nd rfl (by first | exact .inl rfl | exact .inr rfl))) (fun _ _ _ _ _ => pts_nil) (fun _ _ _ _ _ => up (pe_op (kplus K) (pe_op (kplus K) (pe_slice (kcut K) (vr 6) po_none (po_u (vr 7))) (pe_ix (kget K) (vr 2) (pe_op op_modI (pe_op (kplus K) (vr 5) (pe_op op_mulU pe_int (vr 9))) pe_int) (fun _ _ => rfl))) (pe_slice (kcut K) (vr 6) (po_u (vr 7)) po_none))))
      (pss_one (ps_ret (pe_lc (own := [("_law_word", 10)])  rfl sc__law_words.nd (ilist K (vr 8)) (blkOk_by (own := [("_law_word", 10)]) (N := ["_law_pool_here", "_law_many", "_law_letters", "_law_menu", "_law_way", "_law_begin", "_law_stem", "_law_at", "_law_found", "_law_k", "_law_word"]) (sc := defScope s__law_words) (by decide +kernel)) (fun _ _ _ _ _ => (pg_name (i := 10) sc__law_words.nd rfl (by first | exact .inl rfl | exact .inr rfl))) (fun _ _ _ _ _ => pts_nil) (fun _ _ _ _ _ => up (vif (tcmp (kin K) (vr 10) (pe_lst (pa_cons pe_str (pa_cons pe_str (pa_cons pe_str pa_nil)))) (by rfl)) (pe_op (kplus K) (vr 10) pe_str) (vr 10))))))))))))))), ?_⟩)
  · unfold sp_wordsD at h
    split at h
    · rfl
    · exact h.elim
  · unfold sp_wordsD at h
    split at h
    · obtain ⟨hp, hm0, hm1, q⟩ := h
      rename_i a m
      rw [st__law_words]
      refine ⟨Nat.le_of_ble_eq_true rfl, fun p np => ?_⟩
      refine ⟨Nat.le_of_ble_eq_true rfl, fun p2 np2 => ?_⟩
      have ne2 := (upd_none np2).1
      refine .inl ⟨p, p2, _, _, rfl, rfl, (upd_ne ne2.symm).trans upd_same, upd_same, Nat.le_of_ble_eq_true rfl, fun t nt => ?_⟩
      have net : t ≠ a := fun z => by
        have := (upd_none (upd_none nt).2).2
        rw [z] at this
        exact hp.ne this rfl
      have s0 : Same H (upd (upd (upd H p _) p2 _) t (.lst menuW)) := ((same_new np).trans (same_new np2)).trans (same_new nt)
      refine ⟨hp.same s0, by decide, by decide, fun i1 H1 h0 h1 p1 k1 => ?_⟩
      refine ⟨p1, by decide, by decide, fun i2 H2 h2 h3 p2 k2 => ?_⟩
      have t2 : H2 t = some (.lst menuW) := k2 t _ net (k1 t _ net upd_same)
      have k2 : Keep a H H2 := ((keep_of s0).trans k1).trans k2
      refine ⟨Nat.le_of_ble_eq_true rfl, fun u nu => ?_⟩
      refine ⟨_, _, rfl, sqT_of upd_same, rfl, ?_⟩
      have p3 : Pool (upd H2 u (.tup [.int i1, .int i2])) a := p2.new (p2.ne nu)
      have k3 : Keep a H (upd H2 u (.tup [.int i1, .int i2])) := k2.trans (keep_of (same_new nu))
      have t3 : upd H2 u (.tup [.int i1, .int i2]) t = some (.lst menuW) := same_new nu _ _ t2
      have fin : ∀ (D : Addr) (H4 : Hp) (ys : List V), upd H2 u (.tup [.int i1, .int i2]) D = none → Pool H4 a → Keep a (upd H2 u (.tup [.int i1, .int i2])) H4 → ys.length = m.toNat → H4 D = some (.lst ys) → ∀ R : Nat → Str → Prop, (∀ (i j : Nat) (z : Str), i < m.toNat → j < m.toNat → R i z → R j z → i = j) → (∀ (i : Nat) (y : V), ys[i]? = some y → ∃ z, y = V.str z ∧ NameOk z ∧ R i z) → Q (.ref D) H4 := fun D H4 ys nD p4 k4 l4 e4 R hR q4 => by
        obtain ⟨zs, rfl, hz, hRz⟩ := names_ofR q4
        rw [List.length_map] at l4
        have nd := nodup_R (zs := zs) (m := m.toNat) (by omega) hR hRz
        have hD : H D = none := k3.free nD (p3.ne nD)
        exact q D zs H4 l4 hz nd p4 (k3.trans k4) hD e4
      revert p3 k3 t3 fin
      generalize upd H2 u (.tup [.int i1, .int i2]) = H3
      intro p3 k3 t3 fin
      simp only [List.set_cons_succ, List.set_cons_zero]
      refine br2 (fun e => ?_) (fun e => ?_)
      · refine ⟨m, rfl, by omega, by omega, fun D nD => ?_⟩
        refine lcr (fr_keep (p3.ne nD)) (fun i v _ => ∃ z, v = .str z ∧ NameOk z ∧ atI menuW ((i2 + 5 * (0 + (i : Int))) % 24) = some (.str z)) p3 nD (by omega) (fun _ _ _ _ h _ => h) (fun _ => rfl) (fun i H4 hi p4 k4 => ?_) (fun H4 ys p4 k4 l4 e4 q4 => fin D H4 ys nD p4 k4 l4 e4 (fun i z => atI menuW ((i2 + 5 * (0 + (i : Int))) % 24) = some (.str z)) (fun i j z hi hj h h' => menu_inj (by omega) (by omega) h h') q4)
        obtain ⟨v, ev, z, rfl, tz⟩ := atI_all (xs := menuW) (i := (i2 + 5 * (0 + (i : Int))) % 24) _ (Int.emod_nonneg _ (by decide)) (Int.emod_lt_of_pos _ (by decide)) menuW_ok
        exact ⟨.inl ⟨by decide, by decide⟩, by decide, _, _, .inl (sqL_of (k4 t _ net t3)), ev, p4, Keep.refl _ _, z, rfl, tz, ev⟩
      refine br2 (fun e => ?_) (fun e => ?_)
      · refine ⟨m, rfl, by omega, by omega, fun D nD => ?_⟩
        refine lcr (fr_keep (p3.ne nD)) (fun i v _ => ∃ z, v = .str z ∧ NameOk z ∧ repR i2 i z) p3 nD (by omega) (fun _ _ _ _ h _ => h) (fun _ => rfl) (fun i H4 hi p4 k4 => ?_) (fun H4 ys p4 k4 l4 e4 q4 => fin D H4 ys nD p4 k4 l4 e4 (repR i2) (fun i j z hi hj h h' => rep_inj (by omega) (by omega) h h') q4)
        obtain ⟨c, ec, lc⟩ := letter_at (i := (i2 + 7 * (0 + (i : Int))) % 26) (Int.emod_nonneg _ (by decide)) (Int.emod_lt_of_pos _ (by decide))
        have hj0 : 0 ≤ (0 + (i : Int)) % 12 := Int.emod_nonneg _ (by decide)
        have hj1 : (0 + (i : Int)) % 12 < 12 := Int.emod_lt_of_pos _ (by decide)
        refine ⟨.inl ⟨by decide, by decide⟩, by decide, letters_size, c, ec, by decide, by omega, by omega, by show 1 ≤ 1000; decide, fun z ez => ?_⟩
        exact ⟨p4, Keep.refl _ _, z, rfl, name_rep lc (by omega) (by omega) ez, c, _, ec, by omega, ez⟩
      · refine ⟨p3, by decide, by decide, fun i4 H4 h4 h5 p4 k4 => ?_⟩
        refine ⟨i4, rfl, by omega, by omega, fun D nD => ?_⟩
        refine lcr (fr_keep (p4.ne nD)) (fun _ v _ => ∃ z, v = .str z ∧ LowN 1 z) p4 nD (by omega) (fun _ _ _ _ h _ => h) (fun _ => rfl) (fun i H5 hi p5 k5 => ?_) (fun H5 ys p5 k5 l5 e5 q5 => ?_)
        · refine ⟨p5, by decide, by decide, fun i6 H6 h6 h7 p6 k6 => ?_⟩
          obtain ⟨c, ec, lc⟩ := letter_at h6 h7
          exact ⟨letters_size, c, ec, p6, k6, _, rfl, low_one lc⟩
        · obtain ⟨zs, rfl, hz⟩ := lows_of q5
          rw [List.length_map] at l5
          have st := low_join (y := "") rfl hz
          have hs : ((zs.map (·.length)).sum) ≤ zs.length := sum_le1 fun z hz' => (hz z hz').1
          refine ⟨zs, .inl (sqL_of e5), by show _ + zs.length * 0 ≤ 16777216; omega, ?_⟩
          generalize hst : Txt.join "" zs = stem at st ⊢
          have lst : stem.length ≤ 11 := by have := st.1; omega
          refine ⟨size_le (by omega), p5, by omega, by omega, fun i6 H6 h6 h7 p6 k6 => ?_⟩
          have k6 : Keep a H3 H6 := (k4.trans k5).trans k6
          refine ⟨m, rfl, by omega, by omega, fun D2 nD2 => ?_⟩
          refine lcr (fr_keep (p6.ne nD2)) (fun i v _ => ∃ z, v = .str z ∧ NameOk z ∧ midR (cutS stem none (some i6)) (cutS stem (some i6) none) i2 i z) p6 nD2 (by omega) (fun _ _ _ _ h _ => h) (fun _ => rfl) (fun i H7 hi p7 k7 => ?_) (fun H7 ys p7 k7 l7 e7 q7 => ?_)
          · obtain ⟨c, ec, lc⟩ := letter_at (i := (i2 + 5 * (0 + (i : Int))) % 26) (Int.emod_nonneg _ (by decide)) (Int.emod_lt_of_pos _ (by decide))
            have hcut := cut_two stem (n := i6.toNat) (by omega)
            rw [show ((i6.toNat : Nat) : Int) = i6 from by omega] at hcut
            have e1 : (Str.mk #[c]).length = 1 := rfl
            refine ⟨size_le (by omega), .inl ⟨by decide, by decide⟩, by decide, letters_size, c, ec, size_le (by rw [e1]; omega), size_le (by omega), size_le (by rw [app_len, e1]; omega), p7, Keep.refl _ _, _, rfl, ?_, c, ec, rfl⟩
            refine ⟨by rw [app_len, app_len, e1]; omega, by rw [app_len, app_len, e1]; omega, fun x hx => ?_⟩
            rw [app_list, app_list] at hx
            rcases List.mem_append.mp hx with hx | hx
            · rcases List.mem_append.mp hx with hx | hx
              · exact st.2 x (cut_mem hx)
              · have : x = c := by simpa using hx
                rw [this]
                exact lc
            · exact st.2 x (cut_mem hx)
          · obtain ⟨ws, rfl, hws, hRw⟩ := names_ofR q7
            rw [List.length_map] at l7
            have ndw := nodup_R (zs := ws) (R := midR (cutS stem none (some i6)) (cutS stem (some i6) none) i2) (m := m.toNat) (by omega) (fun i j z hi hj h h' => mid_inj (by omega) (by omega) h h') hRw
            have lw : ∀ z ∈ ws, z.length = (cutS stem none (some i6)).length + 1 + (cutS stem (some i6) none).length := fun z hz => by
              obtain ⟨i, hi, rfl⟩ := List.getElem_of_mem hz
              obtain ⟨c, _, e⟩ := hRw i _ (List.getElem?_eq_getElem hi)
              rw [e, app_len, app_len]
              rfl
            have neD2 := p6.ne nD2
            refine ⟨D2, rfl, ⟨_, sqL_of e7⟩, fun D3 nD3 => ?_⟩
            refine lcl (xs := ws.map V.str) (fr_keep (p7.ne nD3)) (fun i v _ => ∃ z, v = .str z ∧ NameOk z ∧ endR ws i z) p7 nD3 (by rw [List.length_map]; omega) (fun H8 p8 k8 => sqL_of (k8 D2 _ neD2 e7)) (fun _ _ _ _ h _ => h) (fun _ => rfl) (fun i x H8 hx p8 k8 => ?_) (fun H8 ys p8 k8 l8 e8 q8 => ?_)
            · rw [List.getElem?_map] at hx
              obtain ⟨z, hx', rfl⟩ := Option.map_eq_some_iff.mp hx
              have hz : z ∈ ws := List.mem_of_getElem? hx'
              have nz := hws z hz
              refine ⟨Nat.le_of_ble_eq_true rfl, fun p9 np9 => ⟨_, .inl (sqL_of upd_same), rfl, rfl, br2 (fun e => ?_) (fun e => ?_)⟩⟩
              · have h5 := in_three e
                have ex : (Str.ofString "x").length = 1 := by decide +kernel
                refine ⟨size_le (by rw [ex]; omega), p8.new (p8.ne np9), keep_of (same_new np9), _, rfl, ⟨by rw [app_len]; omega, by rw [app_len, ex]; omega, fun c hc => ?_⟩, z, hx', .inr rfl⟩
                rw [app_list] at hc
                rcases List.mem_append.mp hc with hc | hc
                · exact nz.2.2 c hc
                · exact x_low c hc
              · exact ⟨p8.new (p8.ne np9), keep_of (same_new np9), z, rfl, nz, z, hx', .inl rfl⟩
            · rw [List.length_map] at l8
              refine fin D3 H8 ys ?_ p8 ((k6.trans k7).trans k8) (by omega) e8 (endR ws) (fun i j z hi hj h h' => end_inj ndw (fun z hz => lw z hz) h h') q8
              exact (k6.trans k7).free nD3 (p7.ne nD3)
    · exact h.elim
end
end Sk
namespace Sk
open PySem PySem.Spec PyProof.Rows L2
/-! ### kinds as tuples -/
def Tups (H H' : Hp) : Prop := ∀ b xs, H b = some (.tup xs) → H' b = some (.tup xs)
theorem tups_of {H H' : Hp} (s : Stay H H') : Tups H H' := fun b xs h => s b _ rfl h
def Form0 (H : Hp) (v : V) : Prop := ∃ a s, v = .ref a ∧ H a = some (.tup [.str s]) ∧ (s = "text" ∨ s = "number" ∨ s = "flag")
def RecF (F : V → Prop) (H : Hp) (v : V) : Prop := ∃ a r ps, v = .ref a ∧ H a = some (.tup [.str "record", .ref r]) ∧ H r = some (.tup ps) ∧ ps.length ≤ 3 ∧ ∀ p ∈ ps, ∃ b w g, p = .ref b ∧ H b = some (.tup [.str w, g]) ∧ NameOk w ∧ F g
def KeyR (F : V → Prop) (H : Hp) (v : V) (w : Str) : Prop := ∃ a q b0 g0 s0 b1 w1 g1, v = .ref a ∧ H a = some (.tup [.str "record", .ref q]) ∧ H q = some (.tup [.ref b0, .ref b1]) ∧ H b0 = some (.tup [.str w, .ref g0]) ∧
  H g0 = some (.tup [.str s0]) ∧ (s0 = "text" ∨ s0 = "number") ∧ H b1 = some (.tup [.str w1, g1]) ∧ NameOk w ∧ NameOk w1 ∧ F g1
def FormV (H : Hp) : Nat → V → Prop
  | 0, v => Form0 H v
  | n + 1, v => Form0 H v ∨ (∃ a u, v = .ref a ∧ H a = some (.tup [.str "list", u]) ∧ FormV H n u) ∨ RecF (FormV H n) H v ∨
      (∃ a r w, v = .ref a ∧ H a = some (.tup [.str "keyed", r, .str w]) ∧ KeyR (FormV H n) H r w) ∨ (∃ a u, v = .ref a ∧ H a = some (.tup [.str "optional", u]) ∧ FormV H n u)
theorem atI_zero {α : Type} (x : α) (r : List α) : atI (x :: r) 0 = some x := by
  unfold atI ixN
  rw [if_pos (Int.le_refl 0), if_pos (by rw [List.length_cons]; omega)]
  rfl
theorem Form0.up {H : Hp} {v : V} (h : Form0 H v) : ∀ n, FormV H n v
  | 0 => h
  | _ + 1 => .inl h
theorem KeyR.rec_ {H : Hp} {n : Nat} {v : V} {w : Str} (h : KeyR (FormV H n) H v w) : RecF (FormV H n) H v := by
  obtain ⟨a, q, b0, g0, s0, b1, w1, g1, e, h1, h2, h3, h4, h5, h6, h7, h8, h9⟩ := h
  refine ⟨a, q, _, e, h1, h2, Nat.le_of_ble_eq_true rfl, fun p hp => ?_⟩
  rcases List.mem_cons.mp hp with rfl | hp
  · refine ⟨b0, w, _, rfl, h3, h7, Form0.up ⟨g0, s0, rfl, h4, ?_⟩ n⟩
    rcases h5 with h5 | h5
    · exact .inl h5
    · exact .inr (.inl h5)
  · have : p = .ref b1 := by simpa using hp
    exact ⟨b1, w1, g1, this, h6, h8, h9⟩
theorem Form0.mono {H H' : Hp} {v : V} (t : Tups H H') (h : Form0 H v) : Form0 H' v := by
  obtain ⟨a, s, e, h1, h2⟩ := h
  exact ⟨a, s, e, t _ _ h1, h2⟩
theorem FormV.mono {H H' : Hp} (t : Tups H H') : ∀ (n : Nat) (v : V), FormV H n v → FormV H' n v
  | 0, _, h => Form0.mono t h
  | n + 1, v, h => by
    rcases h with h | ⟨a, u, e, h1, h2⟩ | ⟨a, r, ps, e, h1, h2, h3, h4⟩ | ⟨a, r, w, e, h1, a2, q, b0, g0, s0, b1, w1, g1, e2, k1, k2, k3, k4, k5, k6, k7, k8, k9⟩ | ⟨a, u, e, h1, h2⟩
    · exact .inl (Form0.mono t h)
    · exact .inr (.inl ⟨a, u, e, t _ _ h1, FormV.mono t n u h2⟩)
    · refine .inr (.inr (.inl ⟨a, r, ps, e, t _ _ h1, t _ _ h2, h3, fun p hp => ?_⟩))
      obtain ⟨b, w, g, ep, k1, k2, k3⟩ := h4 p hp
      exact ⟨b, w, g, ep, t _ _ k1, k2, FormV.mono t n g k3⟩
    · exact .inr (.inr (.inr (.inl ⟨a, r, w, e, t _ _ h1, a2, q, b0, g0, s0, b1, w1, g1, e2, t _ _ k1, t _ _ k2, t _ _ k3, t _ _ k4, k5, t _ _ k6, k7, k8, FormV.mono t n g1 k9⟩)))
    · exact .inr (.inr (.inr (.inr ⟨a, u, e, t _ _ h1, FormV.mono t n u h2⟩)))
theorem FormV.up {H : Hp} : ∀ (n : Nat) (v : V), FormV H n v → FormV H (n + 1) v
  | 0, _, h => .inl h
  | n + 1, v, h => by
    rcases h with h | ⟨a, u, e, h1, h2⟩ | ⟨a, r, ps, e, h1, h2, h3, h4⟩ | ⟨a, r, w, e, h1, a2, q, b0, g0, s0, b1, w1, g1, e2, k1, k2, k3, k4, k5, k6, k7, k8, k9⟩ | ⟨a, u, e, h1, h2⟩
    · exact .inl h
    · exact .inr (.inl ⟨a, u, e, h1, FormV.up n u h2⟩)
    · refine .inr (.inr (.inl ⟨a, r, ps, e, h1, h2, h3, fun p hp => ?_⟩))
      obtain ⟨b, w, g, ep, k1, k2, k3⟩ := h4 p hp
      exact ⟨b, w, g, ep, k1, k2, FormV.up n g k3⟩
    · exact .inr (.inr (.inr (.inl ⟨a, r, w, e, h1, a2, q, b0, g0, s0, b1, w1, g1, e2, k1, k2, k3, k4, k5, k6, k7, k8, FormV.up n g1 k9⟩)))
    · exact .inr (.inr (.inr (.inr ⟨a, u, e, h1, FormV.up n u h2⟩)))
theorem FormV.head {H : Hp} : ∀ (n : Nat) (v : V), FormV H n v → ∃ a s rest, v = .ref a ∧ H a = some (.tup (.str s :: rest))
  | 0, _, ⟨a, s, e, h, _⟩ => ⟨a, s, [], e, h⟩
  | n + 1, v, h => by
    rcases h with ⟨a, s, e, h, _⟩ | ⟨a, u, e, h1, h2⟩ | ⟨a, r, ps, e, h1, h2, h3, h4⟩ | ⟨a, r, w, e, h1, h2⟩ | ⟨a, u, e, h1, h2⟩
    · exact ⟨a, s, [], e, h⟩
    · exact ⟨a, _, _, e, h1⟩
    · exact ⟨a, _, _, e, h1⟩
    · exact ⟨a, _, _, e, h1⟩
    · exact ⟨a, _, _, e, h1⟩
local macro_rules | `(tactic| walk_at "up") => `(tactic| first | assumption | exact upd_same | (refine same_new (by assumption) _ _ ?_; walk_at "up"))
section
variable {P : Program} {w : World} {K : PySem.W.Frag} {mg : Str → Option Value} {base : Heap}
def sp_form (n : Nat) : Sp := fun vs H Q _ => match vs with
  | [.ref a, .int d] => d = (n : Int) ∧ Pool H a ∧ ∀ (v : V) (H' : Hp), FormV H' n v → Pool H' a → Keep a H H' → Q v H'
  | _ => False
theorem step_form (T : Top K mg) (n k : Nat) (hk : 2 ≤ k) (spI : Sp) (G__law_form : Ok__law_form P w base T k spI) (hI : ∀ m, n = m + 1 → spI = sp_form m) : Ok__law_form P w base T (k + 1) (sp_form n) := by
  have G__law_draw : Ok__law_draw P w base T 1 sp_draw := ok_draw T 0
  have G__law_words : Ok__law_words P w base T 2 sp_words := ok_words T 0
  refine T.F__law_form.ok sc__law_form (fun vs H Q E h => ?_) (fun cdv A outer s H vs Q E hr h => ⟨_, PSs.nox (pss_cons (ps_set (i := 2) sc__law_form.nd rfl (by first | exact .inl rfl | exact .inr rfl) (pe_call G__law_draw (hr.mono (by omega)) (by rfl) T.g__law_draw T.F__law_draw.kp (b__law_draw T) .nil pass0 (pa_cons (vr 0) (pa_cons pe_int pa_nil))))
      (pss_cons (sif (PW.pt (wor (tcmp (ksame K hr.units) (vr 1) pe_int (nomark _)) (pw_or1 (tcmp op_ltI (vr 2) pe_int (nomark _))))) (pss_one (ps_ret (pe_ix (kget K) (pe_lst (pa_cons (pe_tup (pa_cons pe_str pa_nil)) (pa_cons (pe_tup (pa_cons pe_str pa_nil)) (pa_cons (pe_tup (pa_cons pe_str pa_nil)) (pa_cons (pe_tup (pa_cons pe_str pa_nil)) pa_nil))))) (pe_op op_modI (vr 2) pe_int) (fun _ _ => rfl)))) pss_nil)
      (pss_cons (sif (tcmp (ksame K hr.units) (vr 2) pe_int (nomark _)) (pss_one (ps_ret (pe_tup (pa_cons pe_str (pa_cons (pe_call G__law_form (hr.mono (by omega)) (by rfl) T.g__law_form T.F__law_form.kp (b__law_form T) .nil pass0 (pa_cons (vr 0) (pa_cons (pe_op op_minus (vr 1) pe_int) pa_nil))) pa_nil))))) pss_nil)
      (pss_cons (sif (tcmp (kin K) (vr 2) (pe_lst (pa_cons pe_int (pa_cons pe_int pa_nil))) (by rfl)) (pss_cons (ps_set (i := 3) sc__law_form.nd rfl (by first | exact .inl rfl | exact .inr rfl) (pe_callB (ksorted K) (by rfl) T.n_sorted (by decide +kernel) (pa_cons (pe_call G__law_words (hr.mono (by omega)) (by rfl) T.g__law_words T.F__law_words.kp (b__law_words T) .nil pass0 (pa_cons (vr 0) (pa_cons (pe_op (kplus K) pe_int (pe_call G__law_draw (hr.mono (by omega)) (by rfl) T.g__law_draw T.F__law_draw.kp (b__law_draw T) .nil pass0 (pa_cons (vr 0) (pa_cons pe_int pa_nil)))) pa_nil))) pa_nil)))
      (pss_cons (ps_setLc (i := 4) (own := [("_law_word", 7)])  rfl sc__law_form.nd rfl rfl (sw_true rfl rfl rfl (by decide +kernel)) (ilist K (vr 3)) (blkOk_by (own := [("_law_word", 7)]) (N := ["_law_pool_here", "_law_deep", "_law_way", "_law_words_here", "_law_fields", "_law_key", "_law_inner", "_law_word"]) (sc := defScope s__law_form) (by decide +kernel)) (fun _ _ _ _ _ => (pg_name (i := 7) sc__law_form.nd rfl (by first | exact .inl rfl | exact .inr rfl))) (fun _ _ _ _ _ => pts_nil) (fun _ _ _ _ _ => up (pe_tup (pa_cons (vr 7) (pa_cons (pe_call G__law_form (hr.mono (by omega)) (by rfl) T.g__law_form T.F__law_form.kp (b__law_form T) .nil pass0 (pa_cons (vr 0) (pa_cons (pe_op op_minus (vr 1) pe_int) pa_nil))) pa_nil)))))
      (pss_one (ps_ret (pe_tup (pa_cons pe_str (pa_cons (pe_callTy (ktup K) (by rfl) T.n_tuple (by decide +kernel) (pa_cons (vr 4) pa_nil)) pa_nil))))))) pss_nil)
      (pss_cons (sif (tcmp (ksame K hr.units) (vr 2) pe_int (nomark _)) (pss_cons (ps_set (i := 3) sc__law_form.nd rfl (by first | exact .inl rfl | exact .inr rfl) (pe_callB (ksorted K) (by rfl) T.n_sorted (by decide +kernel) (pa_cons (pe_call G__law_words (hr.mono (by omega)) (by rfl) T.g__law_words T.F__law_words.kp (b__law_words T) .nil pass0 (pa_cons (vr 0) (pa_cons pe_int pa_nil))) pa_nil)))
      (pss_cons (ps_set (i := 5) sc__law_form.nd rfl (by first | exact .inl rfl | exact .inr rfl) (pe_ix (kget K) (pe_lst (pa_cons pe_str (pa_cons pe_str pa_nil))) (pe_call G__law_draw (hr.mono (by omega)) (by rfl) T.g__law_draw T.F__law_draw.kp (b__law_draw T) .nil pass0 (pa_cons (vr 0) (pa_cons pe_int pa_nil))) (fun _ _ => rfl)))
      (pss_one (ps_ret (pe_tup (pa_cons pe_str (pa_cons (pe_tup (pa_cons pe_str (pa_cons (pe_tup (pa_cons (pe_tup (pa_cons (pe_ix (kget K) (vr 3) pe_int (fun _ _ => rfl)) (pa_cons (pe_tup (pa_cons (vr 5) pa_nil)) pa_nil))) (pa_cons (pe_tup (pa_cons (pe_ix (kget K) (vr 3) pe_int (fun _ _ => rfl)) (pa_cons (pe_call G__law_form (hr.mono (by omega)) (by rfl) T.g__law_form T.F__law_form.kp (b__law_form T) .nil pass0 (pa_cons (vr 0) (pa_cons (pe_op op_minus (vr 1) pe_int) pa_nil))) pa_nil))) pa_nil))) pa_nil))) (pa_cons (pe_ix (kget K) (vr 3) pe_int (fun _ _ => rfl)) pa_nil)))))))) pss_nil)
      (pss_cons (ps_set (i := 6) sc__law_form.nd rfl (by first | exact .inl rfl | exact .inr rfl) (pe_call G__law_form (hr.mono (by omega)) (by rfl) T.g__law_form T.F__law_form.kp (b__law_form T) .nil pass0 (pa_cons (vr 0) (pa_cons (pe_op op_minus (vr 1) pe_int) pa_nil))))
      (pss_one (ps_ret (vif (tcmp (ksame K hr.units) (pe_ix (kget K) (vr 6) pe_int (fun _ _ => rfl)) pe_str (nomark _)) (vr 6) (pe_tup (pa_cons pe_str (pa_cons (vr 6) pa_nil)))))))))))), ?_⟩)
  · unfold sp_form at h
    split at h
    · rfl
    · exact h.elim
  · unfold sp_form at h
    split at h
    · obtain ⟨rfl, hp, q⟩ := h
      rename_i a
      rw [st__law_form]
      refine ⟨hp, by decide, by decide, fun way H1 h0 h1 p1 k1 => ?_⟩
      have fin : ∀ v H2, FormV H2 n v → Pool H2 a → Keep a H1 H2 → Q v H2 := fun v H2 f p k => q v H2 f p (k1.trans k)
      simp only [List.set_cons_succ, List.set_cons_zero]
      have flat : ∀ (σ : L2.St), σ[2]? = some (some (.int way)) → (tRet (tOp (rGet K) (tLst (tCons (tTup (tCons (tC (.str "text")) tNil)) (tCons (tTup (tCons (tC (.str "text")) tNil)) (tCons (tTup (tCons (tC (.str "number")) tNil)) (tCons (tTup (tCons (tC (.str "flag")) tNil)) tNil))))) (tOp rMod (uVar 2) (tC (.int 4))))) { nx := fun _ H' => Q .non H', rt := Q } σ H1 := fun σ hs => by
        refine ⟨Nat.le_of_ble_eq_true rfl, fun a1 n1 => ⟨Nat.le_of_ble_eq_true rfl, fun a2 n2 => ⟨Nat.le_of_ble_eq_true rfl, fun a3 n3 => ⟨Nat.le_of_ble_eq_true rfl, fun a4 n4 => ⟨Nat.le_of_ble_eq_true rfl, fun l nl => ?_⟩⟩⟩⟩⟩
        show uVar 2 σ _ _
        unfold uVar
        rw [hs]
        obtain ⟨v, ev, mv⟩ := atI_in (xs := [V.ref a1, .ref a2, .ref a3, .ref a4]) (i := way % 4) (Int.emod_nonneg _ (by decide)) (Int.emod_lt_of_pos _ (by decide))
        refine ⟨by decide, _, v, .inl (sqL_of upd_same), ev, fin v _ (Form0.up ?_ n) ?_ ?_⟩
        · simp only [List.mem_cons, List.mem_nil_iff, or_false] at mv
          rcases mv with rfl | rfl | rfl | rfl
          · exact ⟨a1, "text", rfl, by walk_at "up", .inl rfl⟩
          · exact ⟨a2, "text", rfl, by walk_at "up", .inl rfl⟩
          · exact ⟨a3, "number", rfl, by walk_at "up", .inr (.inl rfl)⟩
          · exact ⟨a4, "flag", rfl, by walk_at "up", .inr (.inr rfl)⟩
        · obtain ⟨s, d, m, e1, e2⟩ := p1
          exact ⟨s, d, m, by walk_at "up", e2⟩
        · exact keep_of ((((same_new n1).trans (same_new n2)).trans (same_new n3)).trans (same_new n4) |>.trans (same_new nl))
      refine br2 (fun e => ?_) (fun e => ?_)
      · exact flat _ rfl
      refine br2 (fun e2 => ?_) (fun e2 => ?_)
      · exact flat _ rfl
      obtain ⟨m, rfl⟩ : ∃ m, n = m + 1 := by
        cases n with
        | zero => cases e
        | succ m => exact ⟨m, rfl⟩
      have hI := hI m rfl
      subst hI
      have dm : ((m + 1 : Nat) : Int) - 1 = (m : Int) := by omega
      -- a list
      refine br2 (fun e3 => ?_) (fun e3 => ?_)
      · refine ⟨dm, p1, fun u H2 f2 p2 k2 => ?_⟩
        exact ⟨Nat.le_of_ble_eq_true rfl, fun t nt => fin _ _ (.inr (.inl ⟨t, u, rfl, upd_same, FormV.mono (tups_of (stay_new nt)) _ _ f2⟩)) (p2.new (p2.ne nt)) (k2.trans (keep_of (same_new nt)))⟩
      -- a record
      refine ⟨Nat.le_of_ble_eq_true rfl, fun l nl => ⟨_, .inl (sqL_of upd_same), rfl, rfl, br2 (fun e4 => ?_) (fun e4 => ?_)⟩⟩
      · refine ⟨p1.new (p1.ne nl), by decide, by decide, fun i3 H3 g0 g1 p3 k3 => ?_⟩
        refine ⟨p3, by omega, by omega, fun D zs H4 l4 hz p4 k4 nD e4 => ?_⟩
        refine ⟨D, zs, rfl, sqL_of e4, by omega, fun ys t perm srt nt => ?_⟩
        have ly : ys.length = zs.length := perm.length_eq
        have hy : ∀ z ∈ ys, NameOk z := fun z h => hz z (perm.subset h)
        have p5 : Pool (upd H4 t (.lst (ys.map V.str))) a := p4.new (p4.ne nt)
        have k5 : Keep a H1 (upd H4 t (.lst (ys.map V.str))) := (((keep_of (same_new nl)).trans k3).trans k4).trans (keep_of (same_new nt))
        have net := p4.ne nt
        have e5 : upd H4 t (.lst (ys.map V.str)) t = some (.lst (ys.map V.str)) := upd_same
        revert p5 k5 e5
        generalize upd H4 t (.lst (ys.map V.str)) = H5
        intro p5 k5 e5
        simp only [List.set_cons_succ, List.set_cons_zero]
        refine ⟨t, rfl, ⟨_, sqL_of e5⟩, fun D2 nD2 => ?_⟩
        refine lcl (xs := ys.map V.str) (fr_keep (p5.ne nD2)) (fun _ v H => ∃ b w g, v = .ref b ∧ H b = some (.tup [.str w, g]) ∧ NameOk w ∧ FormV H m g) p5 nD2 (by rw [List.length_map]; omega) (fun H6 p6 k6 => sqL_of (k6 t _ net e5))
          (fun _ v H H' h st => by obtain ⟨b, w, g, h1, h2, h3, h4⟩ := h; exact ⟨b, w, g, h1, st _ _ rfl h2, h3, FormV.mono (tups_of st) _ _ h4⟩) (fun _ => rfl) (fun i x H6 hx p6 k6 => ?_) (fun H6 vs p6 k6 l6 e6 q6 => ?_)
        · obtain ⟨w, hw, rfl⟩ := List.mem_map.mp (List.mem_of_getElem? hx)
          refine ⟨dm, p6, fun g H7 f7 p7 k7 => ⟨Nat.le_of_ble_eq_true rfl, fun b nb => ?_⟩⟩
          exact ⟨p7.new (p7.ne nb), k7.trans (keep_of (same_new nb)), b, w, g, rfl, upd_same, hy w hw, FormV.mono (tups_of (stay_new nb)) _ _ f7⟩
        · rw [List.length_map] at l6
          refine ⟨vs, .inl ⟨sqL_of e6, fun r nr => ⟨Nat.le_of_ble_eq_true rfl, fun t2 nt2 => ?_⟩⟩⟩
          have st : Same H6 (upd (upd H6 r (.tup vs)) t2 (.tup [.str "record", .ref r])) := (same_new nr).trans (same_new nt2)
          refine fin _ _ (.inr (.inr (.inl ⟨t2, r, vs, rfl, upd_same, same_new nt2 _ _ upd_same, by omega, fun p hp => ?_⟩))) (p6.same st) ((k5.trans k6).trans (keep_of st))
          obtain ⟨i, hi⟩ := List.getElem?_of_mem hp
          obtain ⟨b, w, g, h1, h2, h3, h4⟩ := q6 i p hi
          exact ⟨b, w, g, h1, st _ _ h2, h3, FormV.mono (tups_of (stay_of st)) _ _ h4⟩
      -- a keyed list
      refine br2 (fun e5 => ?_) (fun e5 => ?_)
      · refine ⟨p1.new (p1.ne nl), by decide, by decide, fun D zs H4 l4 hz p4 k4 nD e4 => ?_⟩
        refine ⟨D, zs, rfl, sqL_of e4, by omega, fun ys t perm srt nt => ?_⟩
        have ly : ys.length = zs.length := perm.length_eq
        have hy : ∀ z ∈ ys, NameOk z := fun z h => hz z (perm.subset h)
        obtain ⟨w0, w1, rfl⟩ : ∃ w0 w1, ys = [w0, w1] := by
          match ys, ly.trans l4 with
          | [w0, w1], _ => exact ⟨w0, w1, rfl⟩
        have n0 := hy w0 (List.mem_cons_self ..)
        have n1 := hy w1 (List.mem_cons_of_mem _ (List.mem_cons_self ..))
        have p5 : Pool (upd H4 t (.lst ([w0, w1].map V.str))) a := p4.new (p4.ne nt)
        have k5 : Keep a H1 (upd H4 t (.lst ([w0, w1].map V.str))) := ((keep_of (same_new nl)).trans k4).trans (keep_of (same_new nt))
        have net := p4.ne nt
        have e5 : upd H4 t (.lst ([w0, w1].map V.str)) t = some (.lst [.str w0, .str w1]) := upd_same
        revert p5 k5 e5
        generalize upd H4 t (.lst ([w0, w1].map V.str)) = H5
        intro p5 k5 e5
        simp only [List.set_cons_succ, List.set_cons_zero]
        refine ⟨Nat.le_of_ble_eq_true rfl, fun l2 nl2 => ?_⟩
        refine ⟨p5.new (p5.ne nl2), by decide, by decide, fun i6 H6 g0 g1 p6 k6 => ?_⟩
        have ne2 := p5.ne nl2
        have e6 : H6 t = some (.lst [.str w0, .str w1]) := k6 t _ net (same_new nl2 _ _ e5)
        obtain ⟨v, ev, mv⟩ := atI_in (xs := [V.str "text", .str "number"]) (i := i6) g0 g1
        refine ⟨_, v, .inl (sqL_of (k6 l2 _ ne2 upd_same)), ev, ?_⟩
        obtain ⟨key, rfl, hkey⟩ : ∃ key, v = .str key ∧ (key = "text" ∨ key = "number") := by
          simp only [List.mem_cons, List.mem_nil_iff, or_false] at mv
          rcases mv with rfl | rfl
          · exact ⟨_, rfl, .inl rfl⟩
          · exact ⟨_, rfl, .inr rfl⟩
        have k6 : Keep a H1 H6 := (k5.trans (keep_of (same_new nl2))).trans k6
        simp only [List.set_cons_succ, List.set_cons_zero]
        refine ⟨_, _, .inl (sqL_of e6), rfl, Nat.le_of_ble_eq_true rfl, fun t0 nt0 => ⟨Nat.le_of_ble_eq_true rfl, fun t1 nt1 => ?_⟩⟩
        have s7 : Same H6 (upd (upd H6 t0 (.tup [.str key])) t1 (.tup [.str w0, .ref t0])) := (same_new nt0).trans (same_new nt1)
        refine ⟨_, _, .inl (sqL_of (s7 _ _ e6)), rfl, dm, p6.same s7, fun g H8 f8 p8 k8 => ?_⟩
        have a1 : H8 t1 = some (.tup [.str w0, .ref t0]) := k8.stay (p6.same s7) _ _ rfl upd_same
        have a0 : H8 t0 = some (.tup [.str key]) := k8.stay (p6.same s7) _ _ rfl (same_new nt1 _ _ upd_same)
        have e8 : H8 t = some (.lst [.str w0, .str w1]) := k8 t _ net (s7 _ _ e6)
        refine ⟨Nat.le_of_ble_eq_true rfl, fun t2 nt2 => ⟨Nat.le_of_ble_eq_true rfl, fun t3 nt3 => ⟨Nat.le_of_ble_eq_true rfl, fun t4 nt4 => ?_⟩⟩⟩
        refine ⟨_, _, .inl (sqL_of (by walk_at "up")), rfl, Nat.le_of_ble_eq_true rfl, fun t5 nt5 => ?_⟩
        refine fin _ _ (.inr (.inr (.inr (.inl ⟨t5, .ref t4, w0, rfl, upd_same, t4, t3, t1, t0, key, t2, w1, g, rfl, by walk_at "up", by walk_at "up", by walk_at "up", by walk_at "up", hkey, by walk_at "up", n0, n1, ?_⟩)))) ?_ ?_
        · exact FormV.mono (tups_of (stay_of ((((same_new nt2).trans (same_new nt3)).trans (same_new nt4)).trans (same_new nt5)))) _ _ f8
        · obtain ⟨s, d, m, e1, e2⟩ := p8
          exact ⟨s, d, m, by walk_at "up", e2⟩
        · exact ((k6.trans (keep_of s7)).trans k8).trans (keep_of ((((same_new nt2).trans (same_new nt3)).trans (same_new nt4)).trans (same_new nt5)))
      -- an optional one
      refine ⟨dm, p1.new (p1.ne nl), fun u H2 f2 p2 k2 => ?_⟩
      have k2 : Keep a H1 H2 := (keep_of (same_new nl)).trans k2
      obtain ⟨b, s, rest, rfl, hb⟩ := FormV.head _ _ f2
      simp only [List.set_cons_succ, List.set_cons_zero]
      refine ⟨_, _, .inr (sqT_of hb), atI_zero _ _, br2 (fun e6 => ?_) (fun e6 => ?_)⟩
      · exact fin _ _ (FormV.up _ _ f2) p2 k2
      · exact ⟨Nat.le_of_ble_eq_true rfl, fun t nt => fin _ _ (.inr (.inr (.inr (.inr ⟨t, _, rfl, upd_same, FormV.mono (tups_of (stay_new nt)) _ _ f2⟩)))) (p2.new (p2.ne nt)) (k2.trans (keep_of (same_new nt)))⟩
    · exact h.elim
theorem no_form (T : Top K mg) : Ok__law_form P w base T 2 (fun _ _ _ _ => False) := ⟨fun _ _ _ _ h => h.elim, fun _ _ _ _ _ _ _ _ _ _ _ _ _ h => h.elim⟩
theorem ok_form (T : Top K mg) : ∀ n, Ok__law_form P w base T (n + 3) (sp_form n)
  | 0 => step_form T 0 2 (by decide) _ (no_form T) fun m e => by cases e
  | n + 1 => step_form T (n + 1) (n + 3) (by omega) _ (ok_form T n) fun m e => by cases e; rfl
end
end Sk
/-! Sk: _law_form, as a drawn form -/
namespace Sk
open PySem PySem.Spec PyProof.Rows L2
theorem nm_of {w : Str} (h : NameOk w) : nmOkL w.cps.toList = true := by
  unfold nmOkL nmOk
  rw [Bool.and_eq_true, Bool.and_eq_true, ← len_list]
  exact ⟨⟨Nat.ble_eq.mpr h.1, Nat.ble_eq.mpr h.2.1⟩, List.all_eq_true.mpr h.2.2⟩
theorem up_strict : ∀ {ys : List Str}, ys.Pairwise leT → ys.Nodup → (ys.map fun w => w.cps.toList).Pairwise (· < ·)
  | [], _, _ => List.Pairwise.nil
  | y :: r, h, nd => by
    have h := List.pairwise_cons.mp h
    have nd := List.nodup_cons.mp nd
    refine List.pairwise_cons.mpr ⟨fun z hz => ?_, up_strict h.2 nd.2⟩
    obtain ⟨x, hx, rfl⟩ := List.mem_map.mp hz
    have le := h.1 x hx
    cases e : ltCps y.cps.toList x.cps.toList with
    | true =>
      rw [ltCps_eq] at e
      exact of_decide_eq_true e
    | false =>
      have := str_ext (le_anti _ _ e le)
      rw [this] at nd
      exact absurd hx nd.1
theorem flds_ofQ {H : Hp} {m : Nat} : ∀ {vs : List V} {ys : List Str}, vs.length = ys.length → (∀ (i : Nat) (v : V), vs[i]? = some v → ∃ b w g f, v = .ref b ∧ H b = some (.tup [.str w, g]) ∧ ys[i]? = some w ∧ FmV H g f ∧ Drn m f) → ∃ fs, FldV H vs fs ∧ fs.map (·.1) = ys.map (fun w => w.cps.toList) ∧ ∀ p ∈ fs, Drn m p.2
  | [], [], _, _ => ⟨[], .nil, rfl, fun p hp => by cases hp⟩
  | [], _ :: _, h, _ => by cases h
  | _ :: _, [], h, _ => by cases h
  | v :: vs, y :: ys, l, h => by
    obtain ⟨b, w, g, f, rfl, h2, h3, h4, h5⟩ := h 0 v rfl
    cases h3
    obtain ⟨fs, k1, k2, k3⟩ := flds_ofQ (vs := vs) (ys := ys) (by simpa using l) fun i v e => h (i + 1) v e
    refine ⟨(y.cps.toList, f) :: fs, .cons (by rw [mk_sl]; exact h2) h4 k1, by rw [List.map_cons, List.map_cons, k2], fun p hp => ?_⟩
    rcases List.mem_cons.mp hp with rfl | hp
    · exact h5
    · exact k3 p hp
theorem fm_head {H : Hp} {v : V} {f : Fm} (h : FmV H v f) : ∃ b s rest, v = .ref b ∧ H b = some (.tup (.str s :: rest)) ∧ (isOpt f = true → s = "optional") := by
  cases h with
  | text h => exact ⟨_, _, _, rfl, h, fun e => by cases e⟩
  | number h => exact ⟨_, _, _, rfl, h, fun e => by cases e⟩
  | flag h => exact ⟨_, _, _, rfl, h, fun e => by cases e⟩
  | opt h _ => exact ⟨_, _, _, rfl, h, fun _ => rfl⟩
  | list h _ => exact ⟨_, _, _, rfl, h, fun e => by cases e⟩
  | keyed h _ => exact ⟨_, _, _, rfl, h, fun e => by cases e⟩
  | rcd h _ _ => exact ⟨_, _, _, rfl, h, fun e => by cases e⟩
local macro_rules | `(tactic| walk_at "up") => `(tactic| first | assumption | exact upd_same | (refine same_new (by assumption) _ _ ?_; walk_at "up"))
section
variable {P : Program} {w : World} {K : PySem.W.Frag} {mg : Str → Option Value} {base : Heap}
def sp_formF (n : Nat) : Sp := fun vs H Q _ => match vs with
  | [.ref a, .int d] => d = (n : Int) ∧ Pool H a ∧ ∀ (v : V) (f : Fm) (H' : Hp), FmV H' v f → Drn n f → Pool H' a → Keep a H H' → Q v H'
  | _ => False
theorem step_formF (T : Top K mg) (n k : Nat) (hk : 2 ≤ k) (spI : Sp) (G__law_form : Ok__law_form P w base T k spI) (hI : ∀ m, n = m + 1 → spI = sp_formF m) : Ok__law_form P w base T (k + 1) (sp_formF n) := by
  have G__law_draw : Ok__law_draw P w base T 1 sp_draw := ok_draw T 0
  have G__law_words : Ok__law_words P w base T 2 sp_wordsD := ok_wordsD T 0
  refine T.F__law_form.ok sc__law_form (fun vs H Q E h => ?_) (fun cdv A outer s H vs Q E hr h => ⟨_, PSs.nox (pss_cons (ps_set (i := 2) sc__law_form.nd rfl (by first | exact .inl rfl | exact .inr rfl) (pe_call G__law_draw (hr.mono (by omega)) (by rfl) T.g__law_draw T.F__law_draw.kp (b__law_draw T) .nil pass0 (pa_cons (vr 0) (pa_cons pe_int pa_nil))))
      (pss_cons (sif (PW.pt (wor (tcmp (ksame K hr.units) (vr 1) pe_int (nomark _)) (pw_or1 (tcmp op_ltI (vr 2) pe_int (nomark _))))) (pss_one (ps_ret (pe_ix (kget K) (pe_lst (pa_cons (pe_tup (pa_cons pe_str pa_nil)) (pa_cons (pe_tup (pa_cons pe_str pa_nil)) (pa_cons (pe_tup (pa_cons pe_str pa_nil)) (pa_cons (pe_tup (pa_cons pe_str pa_nil)) pa_nil))))) (pe_op op_modI (vr 2) pe_int) (fun _ _ => rfl)))) pss_nil)
      (pss_cons (sif (tcmp (ksame K hr.units) (vr 2) pe_int (nomark _)) (pss_one (ps_ret (pe_tup (pa_cons pe_str (pa_cons (pe_call G__law_form (hr.mono (by omega)) (by rfl) T.g__law_form T.F__law_form.kp (b__law_form T) .nil pass0 (pa_cons (vr 0) (pa_cons (pe_op op_minus (vr 1) pe_int) pa_nil))) pa_nil))))) pss_nil)
      (pss_cons (sif (tcmp (kin K) (vr 2) (pe_lst (pa_cons pe_int (pa_cons pe_int pa_nil))) (by rfl)) (pss_cons (ps_set (i := 3) sc__law_form.nd rfl (by first | exact .inl rfl | exact .inr rfl) (pe_callB (ksorted K) (by rfl) T.n_sorted (by decide +kernel) (pa_cons (pe_call G__law_words (hr.mono (by omega)) (by rfl) T.g__law_words T.F__law_words.kp (b__law_words T) .nil pass0 (pa_cons (vr 0) (pa_cons (pe_op (kplus K) pe_int (pe_call G__law_draw (hr.mono (by omega)) (by rfl) T.g__law_draw T.F__law_draw.kp (b__law_draw T) .nil pass0 (pa_cons (vr 0) (pa_cons pe_int pa_nil)))) pa_nil))) pa_nil)))
      (pss_cons (ps_setLc (i := 4) (own := [("_law_word", 7)])  rfl sc__law_form.nd rfl rfl (sw_true rfl rfl rfl (by decide +kernel)) (ilist K (vr 3)) (blkOk_by (own := [("_law_word", 7)]) (N := ["_law_pool_here", "_law_deep", "_law_way", "_law_words_here", "_law_fields", "_law_key", "_law_inner", "_law_word"]) (sc := defScope s__law_form) (by decide +kernel)) (fun _ _ _ _ _ => (pg_name (i := 7) sc__law_form.nd rfl (by first | exact .inl rfl | exact .inr rfl))) (fun _ _ _ _ _ => pts_nil) (fun _ _ _ _ _ => up (pe_tup (pa_cons (vr 7) (pa_cons (pe_call G__law_form (hr.mono (by omega)) (by rfl) T.g__law_form T.F__law_form.kp (b__law_form T) .nil pass0 (pa_cons (vr 0) (pa_cons (pe_op op_minus (vr 1) pe_int) pa_nil))) pa_nil)))))
      (pss_one (ps_ret (pe_tup (pa_cons pe_str (pa_cons (pe_callTy (ktup K) (by rfl) T.n_tuple (by decide +kernel) (pa_cons (vr 4) pa_nil)) pa_nil))))))) pss_nil)
      (pss_cons (sif (tcmp (ksame K hr.units) (vr 2) pe_int (nomark _)) (pss_cons (ps_set (i := 3) sc__law_form.nd rfl (by first | exact .inl rfl | exact .inr rfl) (pe_callB (ksorted K) (by rfl) T.n_sorted (by decide +kernel) (pa_cons (pe_call G__law_words (hr.mono (by omega)) (by rfl) T.g__law_words T.F__law_words.kp (b__law_words T) .nil pass0 (pa_cons (vr 0) (pa_cons pe_int pa_nil))) pa_nil)))
      (pss_cons (ps_set (i := 5) sc__law_form.nd rfl (by first | exact .inl rfl | exact .inr rfl) (pe_ix (kget K) (pe_lst (pa_cons pe_str (pa_cons pe_str pa_nil))) (pe_call G__law_draw (hr.mono (by omega)) (by rfl) T.g__law_draw T.F__law_draw.kp (b__law_draw T) .nil pass0 (pa_cons (vr 0) (pa_cons pe_int pa_nil))) (fun _ _ => rfl)))
      (pss_one (ps_ret (pe_tup (pa_cons pe_str (pa_cons (pe_tup (pa_cons pe_str (pa_cons (pe_tup (pa_cons (pe_tup (pa_cons (pe_ix (kget K) (vr 3) pe_int (fun _ _ => rfl)) (pa_cons (pe_tup (pa_cons (vr 5) pa_nil)) pa_nil))) (pa_cons (pe_tup (pa_cons (pe_ix (kget K) (vr 3) pe_int (fun _ _ => rfl)) (pa_cons (pe_call G__law_form (hr.mono (by omega)) (by rfl) T.g__law_form T.F__law_form.kp (b__law_form T) .nil pass0 (pa_cons (vr 0) (pa_cons (pe_op op_minus (vr 1) pe_int) pa_nil))) pa_nil))) pa_nil))) pa_nil))) (pa_cons (pe_ix (kget K) (vr 3) pe_int (fun _ _ => rfl)) pa_nil)))))))) pss_nil)
      (pss_cons (ps_set (i := 6) sc__law_form.nd rfl (by first | exact .inl rfl | exact .inr rfl) (pe_call G__law_form (hr.mono (by omega)) (by rfl) T.g__law_form T.F__law_form.kp (b__law_form T) .nil pass0 (pa_cons (vr 0) (pa_cons (pe_op op_minus (vr 1) pe_int) pa_nil))))
      (pss_one (ps_ret (vif (tcmp (ksame K hr.units) (pe_ix (kget K) (vr 6) pe_int (fun _ _ => rfl)) pe_str (nomark _)) (vr 6) (pe_tup (pa_cons pe_str (pa_cons (vr 6) pa_nil)))))))))))), ?_⟩)
  · unfold sp_formF at h
    split at h
    · rfl
    · exact h.elim
  · unfold sp_formF at h
    split at h
    · obtain ⟨rfl, hp, q⟩ := h
      rename_i a
      rw [st__law_form]
      refine ⟨hp, by decide, by decide, fun way H1 h0 h1 p1 k1 => ?_⟩
      have fin : ∀ v H2 g, FmV H2 v g → Drn n g → Pool H2 a → Keep a H1 H2 → Q v H2 := fun v H2 g f d p k => q v g H2 f d p (k1.trans k)
      simp only [List.set_cons_succ, List.set_cons_zero]
      have flat : ∀ (σ : L2.St), σ[2]? = some (some (.int way)) → (tRet (tOp (rGet K) (tLst (tCons (tTup (tCons (tC (.str "text")) tNil)) (tCons (tTup (tCons (tC (.str "text")) tNil)) (tCons (tTup (tCons (tC (.str "number")) tNil)) (tCons (tTup (tCons (tC (.str "flag")) tNil)) tNil))))) (tOp rMod (uVar 2) (tC (.int 4))))) { nx := fun _ H' => Q .non H', rt := Q } σ H1 := fun σ hs => by
        refine ⟨Nat.le_of_ble_eq_true rfl, fun a1 n1 => ⟨Nat.le_of_ble_eq_true rfl, fun a2 n2 => ⟨Nat.le_of_ble_eq_true rfl, fun a3 n3 => ⟨Nat.le_of_ble_eq_true rfl, fun a4 n4 => ⟨Nat.le_of_ble_eq_true rfl, fun l nl => ?_⟩⟩⟩⟩⟩
        show uVar 2 σ _ _
        unfold uVar
        rw [hs]
        obtain ⟨v, ev, mv⟩ := atI_in (xs := [V.ref a1, .ref a2, .ref a3, .ref a4]) (i := way % 4) (Int.emod_nonneg _ (by decide)) (Int.emod_lt_of_pos _ (by decide))
        refine ⟨by decide, _, v, .inl (sqL_of upd_same), ev, ?_⟩
        have pl : Pool (upd (upd (upd (upd (upd H1 a1 (.tup [.str "text"])) a2 (.tup [.str "text"])) a3 (.tup [.str "number"])) a4 (.tup [.str "flag"])) l (.lst [V.ref a1, .ref a2, .ref a3, .ref a4])) a := by
          obtain ⟨s, d, m, e1, e2⟩ := p1
          exact ⟨s, d, m, by walk_at "up", e2⟩
        have kp := keep_of (a := a) ((((same_new n1).trans (same_new n2)).trans (same_new n3)).trans (same_new n4) |>.trans (same_new (o := .lst [V.ref a1, .ref a2, .ref a3, .ref a4]) nl))
        simp only [List.mem_cons, List.mem_nil_iff, or_false] at mv
        rcases mv with rfl | rfl | rfl | rfl
        · exact fin _ _ .text (.text (by walk_at "up")) (.text n) pl kp
        · exact fin _ _ .text (.text (by walk_at "up")) (.text n) pl kp
        · exact fin _ _ .number (.number (by walk_at "up")) (.number n) pl kp
        · exact fin _ _ .flag (.flag (by walk_at "up")) (.flag n) pl kp
      refine br2 (fun e => ?_) (fun e => ?_)
      · exact flat _ rfl
      refine br2 (fun e2 => ?_) (fun e2 => ?_)
      · exact flat _ rfl
      obtain ⟨m, rfl⟩ : ∃ m, n = m + 1 := by
        cases n with
        | zero => cases e
        | succ m => exact ⟨m, rfl⟩
      have hI := hI m rfl
      subst hI
      have dm : ((m + 1 : Nat) : Int) - 1 = (m : Int) := by omega
      -- a list
      refine br2 (fun e3 => ?_) (fun e3 => ?_)
      · refine ⟨dm, p1, fun u g H2 f2 d2 p2 k2 => ?_⟩
        exact ⟨Nat.le_of_ble_eq_true rfl, fun t nt => fin _ _ (.list g) (.list upd_same (f2.on (tupS_of (same_new nt)))) (.list d2) (p2.new (p2.ne nt)) (k2.trans (keep_of (same_new nt)))⟩
      -- a record
      refine ⟨Nat.le_of_ble_eq_true rfl, fun l nl => ⟨_, .inl (sqL_of upd_same), rfl, rfl, br2 (fun e4 => ?_) (fun e4 => ?_)⟩⟩
      · refine ⟨p1.new (p1.ne nl), by decide, by decide, fun i3 H3 g0 g1 p3 k3 => ?_⟩
        refine ⟨p3, by omega, by omega, fun D zs H4 l4 hz nd p4 k4 nD e4 => ?_⟩
        refine ⟨D, zs, rfl, sqL_of e4, by omega, fun ys t perm srt nt => ?_⟩
        have ly : ys.length = zs.length := perm.length_eq
        have hy : ∀ z ∈ ys, NameOk z := fun z h => hz z (perm.subset h)
        have up := up_strict (sorted_pw srt) (perm.nodup_iff.mpr nd)
        have p5 : Pool (upd H4 t (.lst (ys.map V.str))) a := p4.new (p4.ne nt)
        have k5 : Keep a H1 (upd H4 t (.lst (ys.map V.str))) := (((keep_of (same_new nl)).trans k3).trans k4).trans (keep_of (same_new nt))
        have net := p4.ne nt
        have e5 : upd H4 t (.lst (ys.map V.str)) t = some (.lst (ys.map V.str)) := upd_same
        revert p5 k5 e5
        generalize upd H4 t (.lst (ys.map V.str)) = H5
        intro p5 k5 e5
        simp only [List.set_cons_succ, List.set_cons_zero]
        refine ⟨t, rfl, ⟨_, sqL_of e5⟩, fun D2 nD2 => ?_⟩
        refine lcl (xs := ys.map V.str) (fr_keep (p5.ne nD2)) (fun i v H => ∃ b w g f, v = .ref b ∧ H b = some (.tup [.str w, g]) ∧ ys[i]? = some w ∧ FmV H g f ∧ Drn m f) p5 nD2 (by rw [List.length_map]; omega) (fun H6 p6 k6 => sqL_of (k6 t _ net e5))
          (fun _ v H H' h st => by obtain ⟨b, w, g, f, h1, h2, h3, h4, h5⟩ := h; exact ⟨b, w, g, f, h1, st _ _ rfl h2, h3, h4.on (tups_of st), h5⟩) (fun _ => rfl) (fun i x H6 hx p6 k6 => ?_) (fun H6 vs p6 k6 l6 e6 q6 => ?_)
        · rw [List.getElem?_map] at hx
          obtain ⟨w, hw, rfl⟩ := Option.map_eq_some_iff.mp hx
          refine ⟨dm, p6, fun g f H7 f7 d7 p7 k7 => ⟨Nat.le_of_ble_eq_true rfl, fun b nb => ?_⟩⟩
          exact ⟨p7.new (p7.ne nb), k7.trans (keep_of (same_new nb)), b, w, g, f, rfl, upd_same, hw, f7.on (tupS_of (same_new nb)), d7⟩
        · rw [List.length_map] at l6
          refine ⟨vs, .inl ⟨sqL_of e6, fun r nr => ⟨Nat.le_of_ble_eq_true rfl, fun t2 nt2 => ?_⟩⟩⟩
          have st : Same H6 (upd (upd H6 r (.tup vs)) t2 (.tup [.str "record", .ref r])) := (same_new nr).trans (same_new nt2)
          obtain ⟨fs, hfs, efs, dfs⟩ := flds_ofQ l6 q6
          have lfs : fs.length = ys.length := by
            have := congrArg List.length efs
            rwa [List.length_map, List.length_map] at this
          refine fin _ _ (.rcd fs) (.rcd upd_same (same_new nt2 _ _ upd_same) (hfs.on (tupS_of st))) (.rcd (fun e => ?_) (by omega) (fun p hp => ?_) (by rw [efs]; exact up) dfs) (p6.same st) ((k5.trans k6).trans (keep_of st))
          · rw [e] at lfs
            have : ([] : List (List Nat × Fm)).length = 0 := rfl
            omega
          · have hm : p.1 ∈ fs.map (·.1) := List.mem_map.mpr ⟨p, hp, rfl⟩
            rw [efs] at hm
            obtain ⟨w, hw, e⟩ := List.mem_map.mp hm
            rw [← e]
            exact nm_of (hy w hw)
      -- a keyed list
      refine br2 (fun e5 => ?_) (fun e5 => ?_)
      · refine ⟨p1.new (p1.ne nl), by decide, by decide, fun D zs H4 l4 hz nd p4 k4 nD e4 => ?_⟩
        refine ⟨D, zs, rfl, sqL_of e4, by omega, fun ys t perm srt nt => ?_⟩
        have ly : ys.length = zs.length := perm.length_eq
        have hy : ∀ z ∈ ys, NameOk z := fun z h => hz z (perm.subset h)
        have up := up_strict (sorted_pw srt) (perm.nodup_iff.mpr nd)
        obtain ⟨w0, w1, rfl⟩ : ∃ w0 w1, ys = [w0, w1] := by
          match ys, ly.trans l4 with
          | [w0, w1], _ => exact ⟨w0, w1, rfl⟩
        have n0 := hy w0 (List.mem_cons_self ..)
        have n1 := hy w1 (List.mem_cons_of_mem _ (List.mem_cons_self ..))
        have p5 : Pool (upd H4 t (.lst ([w0, w1].map V.str))) a := p4.new (p4.ne nt)
        have k5 : Keep a H1 (upd H4 t (.lst ([w0, w1].map V.str))) := ((keep_of (same_new nl)).trans k4).trans (keep_of (same_new nt))
        have net := p4.ne nt
        have e5 : upd H4 t (.lst ([w0, w1].map V.str)) t = some (.lst [.str w0, .str w1]) := upd_same
        revert p5 k5 e5
        generalize upd H4 t (.lst ([w0, w1].map V.str)) = H5
        intro p5 k5 e5
        simp only [List.set_cons_succ, List.set_cons_zero]
        refine ⟨Nat.le_of_ble_eq_true rfl, fun l2 nl2 => ?_⟩
        refine ⟨p5.new (p5.ne nl2), by decide, by decide, fun i6 H6 g0 g1 p6 k6 => ?_⟩
        have ne2 := p5.ne nl2
        have e6 : H6 t = some (.lst [.str w0, .str w1]) := k6 t _ net (same_new nl2 _ _ e5)
        obtain ⟨v, ev, mv⟩ := atI_in (xs := [V.str "text", .str "number"]) (i := i6) g0 g1
        refine ⟨_, v, .inl (sqL_of (k6 l2 _ ne2 upd_same)), ev, ?_⟩
        obtain ⟨key, rfl, hkey⟩ : ∃ key, v = .str key ∧ (key = "text" ∨ key = "number") := by
          simp only [List.mem_cons, List.mem_nil_iff, or_false] at mv
          rcases mv with rfl | rfl
          · exact ⟨_, rfl, .inl rfl⟩
          · exact ⟨_, rfl, .inr rfl⟩
        have k6 : Keep a H1 H6 := (k5.trans (keep_of (same_new nl2))).trans k6
        simp only [List.set_cons_succ, List.set_cons_zero]
        refine ⟨_, _, .inl (sqL_of e6), rfl, Nat.le_of_ble_eq_true rfl, fun t0 nt0 => ⟨Nat.le_of_ble_eq_true rfl, fun t1 nt1 => ?_⟩⟩
        have s7 : Same H6 (upd (upd H6 t0 (.tup [.str key])) t1 (.tup [.str w0, .ref t0])) := (same_new nt0).trans (same_new nt1)
        refine ⟨_, _, .inl (sqL_of (s7 _ _ e6)), rfl, dm, p6.same s7, fun g f H8 f8 d8 p8 k8 => ?_⟩
        have a1 : H8 t1 = some (.tup [.str w0, .ref t0]) := k8.stay (p6.same s7) _ _ rfl upd_same
        have a0 : H8 t0 = some (.tup [.str key]) := k8.stay (p6.same s7) _ _ rfl (same_new nt1 _ _ upd_same)
        have e8 : H8 t = some (.lst [.str w0, .str w1]) := k8 t _ net (s7 _ _ e6)
        refine ⟨Nat.le_of_ble_eq_true rfl, fun t2 nt2 => ⟨Nat.le_of_ble_eq_true rfl, fun t3 nt3 => ⟨Nat.le_of_ble_eq_true rfl, fun t4 nt4 => ?_⟩⟩⟩
        refine ⟨_, _, .inl (sqL_of (by walk_at "up")), rfl, Nat.le_of_ble_eq_true rfl, fun t5 nt5 => ?_⟩
        have up : w0.cps.toList < w1.cps.toList := by simpa using up
        have S8 : Same H8 (upd (upd (upd (upd H8 t2 (.tup [.str w1, g])) t3 (.tup [.ref t1, .ref t2])) t4 (.tup [.str "record", .ref t3])) t5 (.tup [.str "keyed", .ref t4, .str w0])) := (((same_new nt2).trans (same_new nt3)).trans (same_new nt4)).trans (same_new nt5)
        obtain ⟨kf, hkf, ek⟩ : ∃ kf, FmV (upd (upd (upd (upd H8 t2 (.tup [.str w1, g])) t3 (.tup [.ref t1, .ref t2])) t4 (.tup [.str "record", .ref t3])) t5 (.tup [.str "keyed", .ref t4, .str w0])) (.ref t0) kf ∧ keyK kf = true := by
          rcases hkey with rfl | rfl
          · exact ⟨.text, .text (S8 _ _ a0), rfl⟩
          · exact ⟨.number, .number (S8 _ _ a0), rfl⟩
        refine fin _ _ (.keyed (.rcd [(w0.cps.toList, kf), (w1.cps.toList, f)]) w0.cps.toList) (.keyed (by rw [mk_sl]; exact upd_same) (.rcd (by walk_at "up") (by walk_at "up") (.cons (by rw [mk_sl]; walk_at "up") hkf (.cons (by rw [mk_sl]; walk_at "up") (f8.on (tupS_of S8)) .nil)))) (.keyed ek (nm_of n0) (nm_of n1) up d8) ?_ ?_
        · obtain ⟨s, d, m, e1, e2⟩ := p8
          exact ⟨s, d, m, by walk_at "up", e2⟩
        · exact ((k6.trans (keep_of s7)).trans k8).trans (keep_of ((((same_new nt2).trans (same_new nt3)).trans (same_new nt4)).trans (same_new nt5)))
      -- an optional one
      refine ⟨dm, p1.new (p1.ne nl), fun u f H2 f2 d2 p2 k2 => ?_⟩
      have k2 : Keep a H1 H2 := (keep_of (same_new nl)).trans k2
      obtain ⟨b, s, rest, rfl, hb, es⟩ := fm_head f2
      simp only [List.set_cons_succ, List.set_cons_zero]
      refine ⟨_, _, .inr (sqT_of hb), atI_zero _ _, br2 (fun e6 => ?_) (fun e6 => ?_)⟩
      · exact fin _ _ f f2 (.up d2) p2 k2
      · have e6 : decide (V.str s = V.str "optional") = false := e6
        have no : isOpt f = false := by
          cases eo : isOpt f with
          | false => rfl
          | true => exact absurd (congrArg V.str (es eo)) (of_decide_eq_false e6)
        exact ⟨Nat.le_of_ble_eq_true rfl, fun t nt => fin _ _ (.opt f) (.opt upd_same (f2.on (tupS_of (same_new nt)))) (.opt no d2) (p2.new (p2.ne nt)) (k2.trans (keep_of (same_new nt)))⟩
    · exact h.elim
theorem no_formF (T : Top K mg) : Ok__law_form P w base T 2 (fun _ _ _ _ => False) := ⟨fun _ _ _ _ h => h.elim, fun _ _ _ _ _ _ _ _ _ _ _ _ _ h => h.elim⟩
theorem ok_formF (T : Top K mg) : ∀ n, Ok__law_form P w base T (n + 3) (sp_formF n)
  | 0 => step_formF T 0 2 (by decide) _ (no_formF T) fun m e => by cases e
  | n + 1 => step_formF T (n + 1) (n + 3) (by omega) _ (ok_formF T n) fun m e => by cases e; rfl
end
end Sk
/-! Sk: _law_form_text, the writing of a form -/
namespace Sk
open PySem PySem.Spec PyProof.Rows L2
theorem mkS_len (l : List Nat) : (mkS l).length = l.length := by rw [len_list]; rfl
def rowT (p : List Nat × Fm) : List Nat := p.1 ++ ([58, 32] ++ fT p.2)
theorem flT_join : ∀ fs : List (List Nat × Fm), TL.joinL [44, 32] (fs.map rowT) = flT fs
  | [] => by rw [flT]; rfl
  | [(n, f)] => by rw [flT_one]; rfl
  | (n, f) :: p :: r => by
    rw [flT_cons, ← flT_join (p :: r)]
    show rowT (n, f) ++ ([44, 32] ++ TL.joinL [44, 32] ((p :: r).map rowT)) = _
    unfold rowT
    simp
theorem flT_sum : ∀ fs : List (List Nat × Fm), (fs.map fun p => (rowT p).length).sum + fs.length * 2 ≤ (flT fs).length + 2
  | [] => by decide
  | [(n, f)] => by rw [flT_one]; simp [rowT]
  | (n, f) :: p :: r => by
    have ih := flT_sum (p :: r)
    rw [flT_cons, List.map_cons, List.sum_cons, List.length_cons, Nat.succ_mul]
    have e : (rowT (n, f)).length = n.length + (2 + (fT f).length) := by simp [rowT]; omega
    rw [e]
    simp only [List.length_append, List.length_cons, List.length_nil] at ih ⊢
    omega
theorem row_le : ∀ {fs : List (List Nat × Fm)} {p : List Nat × Fm}, p ∈ fs → (rowT p).length ≤ (flT fs).length
  | [(n, f)], p, h => by
    have : p = (n, f) := by simpa using h
    rw [this, flT_one]
    exact Nat.le_refl _
  | (n, f) :: q :: r, p, h => by
    rw [flT_cons]
    rcases List.mem_cons.mp h with rfl | h
    · simp [rowT]
    · have := row_le h
      simp
      omega
theorem rows_of {fs : List (List Nat × Fm)} {ys : List V} (l : ys.length = fs.length) (h : ∀ (i : Nat) (y : V), ys[i]? = some y → ∃ p, fs[i]? = some p ∧ y = .str (mkS (rowT p))) : ys = (fs.map fun p => mkS (rowT p)).map V.str := by
  refine List.ext_getElem? fun i => ?_
  rw [List.getElem?_map, List.getElem?_map]
  cases e : ys[i]? with
  | none =>
    rw [List.getElem?_eq_none_iff] at e
    rw [List.getElem?_eq_none (by omega)]
    rfl
  | some y =>
    obtain ⟨p, e1, e2⟩ := h i y e
    rw [e1, e2]
    rfl
theorem dep_mem {fs : List (List Nat × Fm)} {p : List Nat × Fm} (h : p ∈ fs) : p.2.dep ≤ depFs fs := by
  obtain ⟨i, hi⟩ := List.getElem?_of_mem h
  exact (dep_at (n := p.1) (f := p.2) hi).1
section
variable {P : Program} {w : World} {K : PySem.W.Frag} {mg : Str → Option Value} {base : Heap}
def sp_ftx (n : Nat) : Sp := fun vs H Q _ => ∃ v f, vs = [v] ∧ FmV H v f ∧ f.dep ≤ n ∧ (fT f).length ≤ 100000 ∧ ∀ z H', Same H H' → z = mkS (fT f) → Q (.str z) H'
theorem step_ftx (T : Top K mg) (n k : Nat) (spI : Sp) (G__law_form_text : Ok__law_form_text P w base T k spI) (hI : ∀ m, n = m + 1 → spI = sp_ftx m) : Ok__law_form_text P w base T (k + 1) (sp_ftx n) := by
  refine T.F__law_form_text.ok sc__law_form_text (fun vs H Q E h => by obtain ⟨v, f, rfl, _⟩ := h; rfl) (fun cdv A outer s H vs Q E hr h => ⟨_, PSs.nox (pss_cons (sif (tcmp (kin K) (pe_ix (kget K) (vr 0) pe_int (fun _ _ => rfl)) (pe_lst (pa_cons pe_str (pa_cons pe_str (pa_cons pe_str pa_nil)))) (by rfl)) (pss_one (ps_ret (pe_ix (kget K) (vr 0) pe_int (fun _ _ => rfl)))) pss_nil)
      (pss_cons (sif (tcmp (ksame K hr.units) (pe_ix (kget K) (vr 0) pe_int (fun _ _ => rfl)) pe_str (nomark _)) (pss_one (ps_ret (pe_op (kplus K) (pe_call G__law_form_text (hr.mono (by omega)) (by rfl) T.g__law_form_text T.F__law_form_text.kp (b__law_form_text T) .nil pass0 (pa_cons (pe_ix (kget K) (vr 0) pe_int (fun _ _ => rfl)) pa_nil)) pe_str))) pss_nil)
      (pss_cons (sif (tcmp (ksame K hr.units) (pe_ix (kget K) (vr 0) pe_int (fun _ _ => rfl)) pe_str (nomark _)) (pss_one (ps_ret (pe_op (kplus K) (pe_op (kplus K) pe_str (pe_call G__law_form_text (hr.mono (by omega)) (by rfl) T.g__law_form_text T.F__law_form_text.kp (b__law_form_text T) .nil pass0 (pa_cons (pe_ix (kget K) (vr 0) pe_int (fun _ _ => rfl)) pa_nil))) pe_str))) pss_nil)
      (pss_cons (sif (tcmp (ksame K hr.units) (pe_ix (kget K) (vr 0) pe_int (fun _ _ => rfl)) pe_str (nomark _)) (pss_one (ps_ret (pe_op (kplus K) (pe_op (kplus K) (pe_op (kplus K) (pe_op (kplus K) pe_str (pe_call G__law_form_text (hr.mono (by omega)) (by rfl) T.g__law_form_text T.F__law_form_text.kp (b__law_form_text T) .nil pass0 (pa_cons (pe_ix (kget K) (vr 0) pe_int (fun _ _ => rfl)) pa_nil))) pe_str) (pe_ix (kget K) (vr 0) pe_int (fun _ _ => rfl))) pe_str))) pss_nil)
      (pss_one (ps_ret (pe_op (kplus K) (pe_op (kplus K) pe_str (kjoin K pe_str (pe_lc (own := [("_law_word", 1), ("_law_inner", 2)])  rfl sc__law_form_text.nd (itup K (pe_ix (kget K) (vr 0) pe_int (fun _ _ => rfl))) (blkOk_by (own := [("_law_word", 1), ("_law_inner", 2)]) (N := ["_law_form_here", "_law_word", "_law_inner"]) (sc := defScope s__law_form_text) (by decide +kernel)) (fun _ _ _ _ _ => (gtup K 2 rfl (gs_cons (pg_name (i := 1) sc__law_form_text.nd rfl (by first | exact .inl rfl | exact .inr rfl)) (gs_cons (pg_name (i := 2) sc__law_form_text.nd rfl (by first | exact .inl rfl | exact .inr rfl)) gs_nil)))) (fun _ _ _ _ _ => pts_nil) (fun _ _ _ _ _ => up (pe_op (kplus K) (pe_op (kplus K) (vr 1) pe_str) (pe_call G__law_form_text (hr.mono (by omega)) (by rfl) T.g__law_form_text T.F__law_form_text.kp (b__law_form_text T) .nil pass0 (pa_cons (vr 2) pa_nil))))))) pe_str))))))), ?_⟩)
  obtain ⟨v, f, rfl, hf, hd, hl, q⟩ := h
  rw [st__law_form_text]
  have c63 : (Str.ofString "?").cps.toList = [63] := by decide +kernel
  have c91 : (Str.ofString "[").cps.toList = [91] := by decide +kernel
  have c93 : (Str.ofString "]").cps.toList = [93] := by decide +kernel
  have c123 : (Str.ofString "{").cps.toList = [123] := by decide +kernel
  have c125 : (Str.ofString "}").cps.toList = [125] := by decide +kernel
  have cby : (Str.ofString " by ").cps.toList = [32, 98, 121, 32] := by decide +kernel
  have ccol : (Str.ofString ": ").cps.toList = [58, 32] := by decide +kernel
  have ccom : (Str.ofString ", ").cps.toList = [44, 32] := by decide +kernel
  cases id hf with
  | text h => exact ⟨_, _, .inr (sqT_of h), rfl, Nat.le_of_ble_eq_true rfl, fun t nt => ⟨_, .inl (sqL_of upd_same), rfl, rfl, _, _, .inr (sqT_of (same_new nt _ _ h)), rfl, q _ _ (same_new nt) (str_ext wText_eq)⟩⟩
  | number h => exact ⟨_, _, .inr (sqT_of h), rfl, Nat.le_of_ble_eq_true rfl, fun t nt => ⟨_, .inl (sqL_of upd_same), rfl, rfl, _, _, .inr (sqT_of (same_new nt _ _ h)), rfl, q _ _ (same_new nt) (str_ext wNumber_eq)⟩⟩
  | flag h => exact ⟨_, _, .inr (sqT_of h), rfl, Nat.le_of_ble_eq_true rfl, fun t nt => ⟨_, .inl (sqL_of upd_same), rfl, rfl, _, _, .inr (sqT_of (same_new nt _ _ h)), rfl, q _ _ (same_new nt) (str_ext wFlag_eq)⟩⟩
  | @opt fa x f1 h hx =>
    obtain ⟨m, rfl⟩ : ∃ m, n = m + 1 := ⟨n - 1, by have : f1.dep + 1 ≤ n := hd; omega⟩
    have hd : f1.dep + 1 ≤ m + 1 := hd
    obtain rfl := hI m rfl
    rw [fT] at hl q
    rw [List.length_append, List.length_singleton] at hl
    refine ⟨_, _, .inr (sqT_of h), rfl, Nat.le_of_ble_eq_true rfl, fun t nt => ⟨_, .inl (sqL_of upd_same), rfl, rfl, ?_⟩⟩
    have h1 := same_new (o := .lst [.str "text", .str "number", .str "flag"]) nt _ _ h
    refine ⟨_, _, .inr (sqT_of h1), rfl, _, _, .inr (sqT_of h1), rfl, x, f1, rfl, hx.on (tupS_of (same_new nt)), by omega, by omega, fun z H' s' ez => ?_⟩
    subst ez
    refine ⟨size_le (by rw [mkS_len, len_list (Str.ofString "?"), c63, List.length_singleton]; omega), q _ _ ((same_new nt).trans s') (str_ext ?_)⟩
    rw [app_list, c63]
    rfl
  | @list fa x f1 h hx =>
    obtain ⟨m, rfl⟩ : ∃ m, n = m + 1 := ⟨n - 1, by have : f1.dep + 1 ≤ n := hd; omega⟩
    have hd : f1.dep + 1 ≤ m + 1 := hd
    obtain rfl := hI m rfl
    rw [fT] at hl q
    rw [List.length_cons, List.length_append, List.length_singleton] at hl
    refine ⟨_, _, .inr (sqT_of h), rfl, Nat.le_of_ble_eq_true rfl, fun t nt => ⟨_, .inl (sqL_of upd_same), rfl, rfl, ?_⟩⟩
    have h1 := same_new (o := .lst [.str "text", .str "number", .str "flag"]) nt _ _ h
    refine ⟨_, _, .inr (sqT_of h1), rfl, _, _, .inr (sqT_of h1), rfl, _, _, .inr (sqT_of h1), rfl, x, f1, rfl, hx.on (tupS_of (same_new nt)), by omega, by omega, fun z H' s' ez => ?_⟩
    subst ez
    refine ⟨size_le (by rw [mkS_len, len_list (Str.ofString "["), c91, List.length_singleton]; omega), size_le (by rw [app_len, mkS_len, len_list (Str.ofString "["), c91, len_list (Str.ofString "]"), c93, List.length_singleton, List.length_singleton]; omega), q _ _ ((same_new nt).trans s') (str_ext ?_)⟩
    rw [app_list, app_list, c91, c93]
    rfl
  | @keyed fa x f1 kk h hx =>
    obtain ⟨m, rfl⟩ : ∃ m, n = m + 1 := ⟨n - 1, by have : f1.dep + 1 ≤ n := hd; omega⟩
    have hd : f1.dep + 1 ≤ m + 1 := hd
    obtain rfl := hI m rfl
    rw [fT] at hl q
    simp only [List.length_cons, List.length_append, List.length_nil] at hl
    refine ⟨_, _, .inr (sqT_of h), rfl, Nat.le_of_ble_eq_true rfl, fun t nt => ⟨_, .inl (sqL_of upd_same), rfl, rfl, ?_⟩⟩
    have h1 := same_new (o := .lst [.str "text", .str "number", .str "flag"]) nt _ _ h
    refine ⟨_, _, .inr (sqT_of h1), rfl, _, _, .inr (sqT_of h1), rfl, _, _, .inr (sqT_of h1), rfl, _, _, .inr (sqT_of h1), rfl, x, f1, rfl, hx.on (tupS_of (same_new nt)), by omega, by omega, fun z H' s' ez => ?_⟩
    subst ez
    have l1 : (Str.ofString "[").length = 1 := by rw [len_list, c91]; rfl
    have l2 : (Str.ofString "]").length = 1 := by rw [len_list, c93]; rfl
    have l3 : (Str.ofString " by ").length = 4 := by rw [len_list, cby]; rfl
    refine ⟨size_le (by rw [mkS_len, l1]; omega), size_le (by rw [app_len, mkS_len, l1, l3]; omega), _, _, .inr (sqT_of (s' _ _ h1)), rfl, size_le (by rw [app_len, app_len, mkS_len, mkS_len, l1, l3]; omega), size_le (by rw [app_len, app_len, app_len, mkS_len, mkS_len, l1, l2, l3]; omega), q _ _ ((same_new nt).trans s') (str_ext ?_)⟩
    rw [app_list, app_list, app_list, app_list, c91, c93, cby]
    show (([91] ++ fT f1) ++ [32, 98, 121, 32] ++ kk) ++ [93] = 91 :: (fT f1 ++ ([32, 98, 121, 32] ++ (kk ++ [93])))
    simp
  | @rcd fa r pv fs h hr' hfs =>
    obtain ⟨m, rfl⟩ : ∃ m, n = m + 1 := ⟨n - 1, by have : depFs fs + 1 ≤ n := hd; omega⟩
    have hd : depFs fs + 1 ≤ m + 1 := hd
    obtain rfl := hI m rfl
    have len := hfs.length
    rw [fT] at hl q
    rw [List.length_cons, List.length_append, List.length_singleton] at hl
    have lfs := flT_len fs
    refine ⟨_, _, .inr (sqT_of h), rfl, Nat.le_of_ble_eq_true rfl, fun t nt => ⟨_, .inl (sqL_of upd_same), rfl, rfl, ?_⟩⟩
    have s1 := same_new (o := .lst [.str "text", .str "number", .str "flag"]) nt
    revert s1
    generalize upd H t _ = H1
    intro s1
    have h1 := s1 _ _ h
    refine ⟨_, _, .inr (sqT_of h1), rfl, _, _, .inr (sqT_of h1), rfl, _, _, .inr (sqT_of h1), rfl, ?_⟩
    refine ⟨_, _, .inr (sqT_of h1), rfl, r, rfl, ⟨_, sqT_of (s1 _ _ hr')⟩, fun D nD => ?_⟩
    refine lcw (walk_tup (xs := pv)) fr_same (fun i v _ => ∃ p, fs[i]? = some p ∧ v = .str (mkS (rowT p))) trivial nD (by omega) gm_pair2 (fun H2 _ s2 => sqT_of ((s1.trans s2) _ _ hr')) (fun _ _ _ _ h _ => h) (fun i x H2 H2' hi _ s2 hy => ?_) (fun H2 ys _ s2 l2 e2 q2 => ?_)
    · obtain ⟨rfl, hx⟩ := hy
      obtain ⟨b, g, nn, f, rfl, e2, h2, hg⟩ := hfs.at i x hx
      have S2 := s1.trans s2
      have mem : (nn, f) ∈ fs := List.mem_of_getElem? e2
      have rl := row_le mem
      have re : (rowT (nn, f)).length = nn.length + (2 + (fT f).length) := by simp [rowT]; omega
      have dm := dep_mem mem
      have dm : f.dep ≤ depFs fs := dm
      have l4 : (Str.ofString ": ").length = 2 := by rw [len_list, ccol]; rfl
      refine ⟨b, _, rfl, sqT_of (S2 _ _ h2), rfl, rfl, size_le (by rw [mkS_len, l4]; omega), g, f, rfl, hg.on (tupS_of S2), by omega, by omega, fun z H3 s3 ez => ?_⟩
      subst ez
      refine ⟨size_le (by rw [app_len, mkS_len, mkS_len, l4]; omega), trivial, s3, _, e2, congrArg V.str (str_ext ?_)⟩
      rw [app_list, app_list, ccol]
      show (nn ++ [58, 32]) ++ fT f = nn ++ ([58, 32] ++ fT f)
      simp
    · have ey := rows_of (l2.trans len) q2
      subst ey
      have su := flT_sum fs
      have em : ((fs.map fun p => mkS (rowT p)).map (·.length)) = fs.map fun p => (rowT p).length := by
        rw [List.map_map]
        exact List.map_congr_left fun p _ => mkS_len _
      have l4 : (Str.ofString ", ").length = 2 := by rw [len_list, ccom]; rfl
      have l5 : (Str.ofString "{").length = 1 := by rw [len_list, c123]; rfl
      have l6 : (Str.ofString "}").length = 1 := by rw [len_list, c125]; rfl
      have ej : (Txt.join ", " (fs.map fun p => mkS (rowT p))).cps.toList = flT fs := by
        have e0 : (fs.map fun p => mkS (rowT p)).map sl = fs.map rowT := by
          rw [List.map_map]
          rfl
        have := join_with (y := Str.ofString ", ") e0
        rw [ccom, flT_join] at this
        exact this
      have lj : (Txt.join ", " (fs.map fun p => mkS (rowT p))).length = (flT fs).length := by rw [len_list, ej]
      refine ⟨_, .inl (sqL_of e2), by rw [em, List.length_map, l4]; omega, size_le (by rw [l5, lj]; omega), size_le (by rw [app_len, l5, l6, lj]; omega), q _ _ (s1.trans s2) (str_ext ?_)⟩
      rw [app_list, app_list, c123, c125, ej]
      rfl
theorem no_ftx (T : Top K mg) : Ok__law_form_text P w base T 0 (fun _ _ _ _ => False) := ⟨fun _ _ _ _ h => h.elim, fun _ _ _ _ _ _ _ _ _ _ _ _ _ h => h.elim⟩
theorem ok_ftx (T : Top K mg) : ∀ n, Ok__law_form_text P w base T (n + 1) (sp_ftx n)
  | 0 => step_ftx T 0 0 _ (no_ftx T) fun m e => by cases e
  | n + 1 => step_ftx T (n + 1) (n + 1) _ (ok_ftx T n) fun m e => by cases e; rfl
end
end Sk
/-! Sk: the class Type: kind, inner, fields, in, == -/
namespace Sk
open PySem PySem.Spec PyProof.Rows L2
def headZ : Fm → Str
  | .text => "text"
  | .number => "number"
  | .flag => "flag"
  | .opt _ => "optional"
  | .list _ => "list"
  | .keyed _ _ => "keyed"
  | .rcd _ => "record"
theorem fm_headZ {H : Hp} {v : V} {f : Fm} (h : FmV H v f) : ∃ b r, v = .ref b ∧ H b = some (.tup (.str (headZ f) :: r)) := by
  cases h with
  | text h => exact ⟨_, _, rfl, h⟩
  | number h => exact ⟨_, _, rfl, h⟩
  | flag h => exact ⟨_, _, rfl, h⟩
  | opt h _ => exact ⟨_, _, rfl, h⟩
  | list h _ => exact ⟨_, _, rfl, h⟩
  | keyed h _ => exact ⟨_, _, rfl, h⟩
  | rcd h _ _ => exact ⟨_, _, rfl, h⟩
theorem head_opt (f : Fm) : decide (V.str (headZ f) = V.str "optional") = isOpt f := by cases f <;> rfl
/-- the form of the parts -/
def innerF : Fm → Option Fm
  | .opt f => some f
  | .list f => some f
  | .keyed f _ => some f
  | _ => none
mutual
def fmD : Fm → PyData
  | .text => .tuple [.str "text"]
  | .number => .tuple [.str "number"]
  | .flag => .tuple [.str "flag"]
  | .opt f => .tuple [.str "optional", fmD f]
  | .list f => .tuple [.str "list", fmD f]
  | .keyed f k => .tuple [.str "keyed", fmD f, .str (mkS k)]
  | .rcd fs => .tuple [.str "record", .tuple (fmDs fs)]
def fmDs : List (List Nat × Fm) → List PyData
  | [] => []
  | (n, f) :: r => .tuple [.str (mkS n), fmD f] :: fmDs r
end
mutual
theorem FmV.dp {K : Fg} {H : Hp} : ∀ {v : V} {f : Fm}, FmV H v f → Dp K H v (fmD f)
  | _, _, .text h => .tup (sqT_of h) (.cons (.str _) .nil)
  | _, _, .number h => .tup (sqT_of h) (.cons (.str _) .nil)
  | _, _, .flag h => .tup (sqT_of h) (.cons (.str _) .nil)
  | _, _, .opt h k => .tup (sqT_of h) (.cons (.str _) (.cons (FmV.dp k) .nil))
  | _, _, .list h k => .tup (sqT_of h) (.cons (.str _) (.cons (FmV.dp k) .nil))
  | _, _, .keyed h k => .tup (sqT_of h) (.cons (.str _) (.cons (FmV.dp k) (.cons (.str _) .nil)))
  | _, _, .rcd h h2 k => .tup (sqT_of h) (.cons (.str _) (.cons (.tup (sqT_of h2) (FldV.dp k)) .nil))
theorem FldV.dp {K : Fg} {H : Hp} : ∀ {vs : List V} {fs : List (List Nat × Fm)}, FldV H vs fs → DpAll K H vs (fmDs fs)
  | _, _, .nil => .nil
  | _, _, .cons h k r => .cons (.tup (sqT_of h) (.cons (.str _) (.cons (FmV.dp k) .nil))) (FldV.dp r)
end
theorem str_eqv (z : Str) : (PyData.str z).eqv (.str z) = true := by
  unfold PyData.eqv
  simp
mutual
theorem fm_eqv : ∀ f : Fm, (fmD f).eqv (fmD f) = true
  | .text => by decide +kernel
  | .number => by decide +kernel
  | .flag => by decide +kernel
  | .opt f => by
    have := fm_eqv f
    simp only [fmD, PyData.eqv, PyData.eqvAll, this]
    decide +kernel
  | .list f => by
    have := fm_eqv f
    simp only [fmD, PyData.eqv, PyData.eqvAll, this]
    decide +kernel
  | .keyed f k => by
    have := fm_eqv f
    have h := str_eqv (mkS k)
    simp only [fmD, PyData.eqv, PyData.eqvAll, this] at h ⊢
    rw [h]
    decide +kernel
  | .rcd fs => by
    have := fms_eqv fs
    simp only [fmD, PyData.eqv, PyData.eqvAll, this]
    decide +kernel
theorem fms_eqv : ∀ fs : List (List Nat × Fm), PyData.eqvAll (fmDs fs) (fmDs fs) = true
  | [] => by simp only [fmDs, PyData.eqvAll]
  | (n, f) :: r => by
    have h1 := fm_eqv f
    have h2 := fms_eqv r
    have h := str_eqv (mkS n)
    simp only [fmDs, PyData.eqv, PyData.eqvAll, h1, h2] at h ⊢
    rw [h]
    rfl
end
mutual
theorem fm_shp : ∀ (f : Fm), (fmD f).plain = true ∧ (fmD f).depth ≤ 3 * f.dep + 1
  | .text => by decide +kernel
  | .number => by decide +kernel
  | .flag => by decide +kernel
  | .opt f => by
    obtain ⟨a, b⟩ := fm_shp f
    refine ⟨by simp only [fmD, PyData.plain, PyData.plainAll, a]; rfl, ?_⟩
    show max 0 (max (fmD f).depth 0) + 1 ≤ 3 * (f.dep + 1) + 1
    omega
  | .list f => by
    obtain ⟨a, b⟩ := fm_shp f
    refine ⟨by simp only [fmD, PyData.plain, PyData.plainAll, a]; rfl, ?_⟩
    show max 0 (max (fmD f).depth 0) + 1 ≤ 3 * (f.dep + 1) + 1
    omega
  | .keyed f k => by
    obtain ⟨a, b⟩ := fm_shp f
    refine ⟨by simp only [fmD, PyData.plain, PyData.plainAll, a]; rfl, ?_⟩
    show max 0 (max (fmD f).depth (max 0 0)) + 1 ≤ 3 * (f.dep + 1) + 1
    omega
  | .rcd fs => by
    obtain ⟨a, b⟩ := fms_shp fs
    refine ⟨by simp only [fmD, PyData.plain, PyData.plainAll, a]; rfl, ?_⟩
    show max 0 (max (PyData.depthAll (fmDs fs) + 1) 0) + 1 ≤ 3 * (depFs fs + 1) + 1
    omega
theorem fms_shp : ∀ (fs : List (List Nat × Fm)), PyData.plainAll (fmDs fs) = true ∧ PyData.depthAll (fmDs fs) ≤ 3 * depFs fs + 2
  | [] => ⟨by simp only [fmDs, PyData.plainAll], by simp only [fmDs]; exact Nat.zero_le _⟩
  | (n, f) :: r => by
    obtain ⟨a, b⟩ := fm_shp f
    obtain ⟨c, d⟩ := fms_shp r
    refine ⟨by simp only [fmDs, PyData.plain, PyData.plainAll, a, c]; rfl, ?_⟩
    show max (max 0 (max (fmD f).depth 0) + 1) (PyData.depthAll (fmDs r)) ≤ 3 * max f.dep (depFs r) + 2
    omega
end
theorem fmD_shp {f : Fm} (h : f.dep ≤ 12) : shp (fmD f) = true := by
  obtain ⟨a, b⟩ := fm_shp f
  unfold shp
  rw [a, Bool.true_and]
  exact decide_eq_true (by omega)
section
variable {P : Program} {w : World} {K : PySem.W.Frag} {mg : Str → Option Value} {base : Heap}
def sp_kind (K : PySem.W.Frag) : Sp := fun vs H Q _ => ∃ x f, vs = [.ref x] ∧ ObjT K H x f ∧ Q (.str (headZ f)) H
theorem ok_kind (T : Top K mg) (k : Nat) : Ok_Type_kind P w base T (k + 1) (sp_kind K) := by
  refine T.F_Type_kind.ok sc_Type_kind (fun vs H Q E h => by obtain ⟨x, f, rfl, _⟩ := h; rfl) (fun cdv A outer s H vs Q E hr h => ⟨_, PSs.nox (pss_one (ps_ret (pe_ix (kget K) (pe_fld (vr 0) (by rfl)) pe_int (fun _ _ => rfl)))), ?_⟩)
  obtain ⟨x, f, rfl, ⟨dx, t, hx, hf⟩, q⟩ := h
  rw [st_Type_kind]
  obtain ⟨b, r, rfl, hb⟩ := fm_headZ hf
  exact ⟨_, _, dx, _, _, rfl, hx, T.cls_Type, T.na_Type_form, rfl, _, _, .inr (sqT_of hb), at0' _ _, q⟩
theorem made_obj {H B : Hp} {x dx : Addr} {t : V} {f : Fm} (s : Same H B) (hf : FmV H t f) (nx : B x = none) (ndx : B dx = none) : Same B (upd (upd (upd B dx (.own x)) x (.ins (He.ga K "Type") dx [])) x (.ins (He.ga K "Type") dx [("form", t)])) ∧ ObjT K (upd (upd (upd B dx (.own x)) x (.ins (He.ga K "Type") dx [])) x (.ins (He.ga K "Type") dx [("form", t)])) x f := by
  have s2 : Same B (upd (upd (upd B dx (.own x)) x (.ins (He.ga K "Type") dx [])) x (.ins (He.ga K "Type") dx [("form", t)])) := fun b o hb => by
    have n1 := ne_of_none hb nx
    rw [upd_ne n1, upd_ne n1, upd_ne (ne_of_none hb ndx)]
    exact hb
  exact ⟨s2, dx, t, upd_same, hf.on (tupS_of (s.trans s2))⟩
def sp_inner (K : PySem.W.Frag) : Sp := fun vs H Q _ => ∃ x f, vs = [.ref x] ∧ ObjT K H x f ∧ (innerF f = none → ∀ H', Same H H' → Q .non H') ∧ ∀ g, innerF f = some g → ∀ y H', Same H H' → ObjT K H' y g → Q (.ref y) H'
theorem ok_inner (T : Top K mg) (k : Nat) : Ok_Type_inner P w base T (k + 3) (sp_inner K) := by
  have R_Type___init__ := fnR_of (ok_tinit (P := P) (w := w) (base := base) T 0) (b_Type___init__ T)
  refine T.F_Type_inner.ok sc_Type_inner (fun vs H Q E h => by obtain ⟨x, f, rfl, _⟩ := h; rfl) (fun cdv A outer s H vs Q E hr h => ⟨_, PSs.nox (pss_one (ps_ret (vif (tcmp (kin K) (pe_ix (kget K) (pe_fld (vr 0) (by rfl)) pe_int (fun _ _ => rfl)) (pe_tup (pa_cons pe_str (pa_cons pe_str (pa_cons pe_str pa_nil)))) (by rfl)) (StX.pe_makeR T.mk_Type R_Type___init__ (hr.mono (by omega)) (by rfl) T.g_Type pass0 (pa_cons (pe_ix (kget K) (pe_fld (vr 0) (by rfl)) pe_int (fun _ _ => rfl)) pa_nil)) pe_non))), ?_⟩)
  obtain ⟨x, f, rfl, ⟨dx, t, hx, hf⟩, q0, q1⟩ := h
  rw [st_Type_inner]
  obtain ⟨b, r, rfl, hb⟩ := fm_headZ hf
  refine ⟨_, _, dx, _, _, rfl, hx, T.cls_Type, T.na_Type_form, rfl, _, _, .inr (sqT_of hb), at0' _ _, Nat.le_of_ble_eq_true rfl, fun t2 n2 => ?_⟩
  refine ⟨_, .inr (sqT_of upd_same), rfl, rfl, ?_⟩
  have s2 := same_new (o := .tup [.str "list", .str "keyed", .str "optional"]) n2
  revert s2
  generalize upd H t2 _ = B
  intro s2
  have mk : ∀ {x1 : V} {f1 : Fm}, FmV H x1 f1 → innerF f = some f1 → ∀ y dy, B y = none → B dy = none → dy ≠ y → sp_tinit K [.ref y, x1] (upd (upd B dy (.own y)) y (.ins (He.ga K "Type") dy [])) (fun v H' => v = .non ∧ Q (.ref y) H') E0 := fun h3 h4 y dy ny ndy nyd => by
    refine ⟨y, _, dy, rfl, upd_same, ?_⟩
    obtain ⟨s3, o3⟩ := made_obj (K := K) s2 h3 ny ndy
    exact ⟨rfl, q1 _ h4 y _ (s2.trans s3) o3⟩
  cases id hf with
  | text h => exact q0 rfl _ s2
  | number h => exact q0 rfl _ s2
  | flag h => exact q0 rfl _ s2
  | rcd h h2 hfs => exact q0 rfl _ s2
  | opt h hx1 => exact ⟨_, _, dx, _, _, rfl, s2 _ _ hx, T.cls_Type, T.na_Type_form, rfl, _, _, .inr (sqT_of (s2 _ _ h)), rfl, fun y dy ny ndy nyd => mk hx1 rfl y dy ny ndy nyd⟩
  | list h hx1 => exact ⟨_, _, dx, _, _, rfl, s2 _ _ hx, T.cls_Type, T.na_Type_form, rfl, _, _, .inr (sqT_of (s2 _ _ h)), rfl, fun y dy ny ndy nyd => mk hx1 rfl y dy ny ndy nyd⟩
  | keyed h hx1 => exact ⟨_, _, dx, _, _, rfl, s2 _ _ hx, T.cls_Type, T.na_Type_form, rfl, _, _, .inr (sqT_of (s2 _ _ h)), rfl, fun y dy ny ndy nyd => mk hx1 rfl y dy ny ndy nyd⟩
theorem ObjT.stay {H H' : Hp} {x : Addr} {f : Fm} (h : ObjT K H x f) (s : Stay H H') : ObjT K H' x f := by
  obtain ⟨dx, t, h1, h2⟩ := h
  exact ⟨dx, t, s _ _ rfl h1, h2.on (tups_of s)⟩
def FldO (K : PySem.W.Frag) (fs : List (List Nat × Fm)) (i : Nat) (v : V) (H : Hp) : Prop := ∃ b y n g, v = .ref b ∧ fs[i]? = some (n, g) ∧ H b = some (.tup [.str (mkS n), .ref y]) ∧ ObjT K H y g
theorem FldO.stay {fs : List (List Nat × Fm)} {i : Nat} {v : V} {H H' : Hp} (h : FldO K fs i v H) (s : Stay H H') : FldO K fs i v H' := by
  obtain ⟨b, y, n, g, e1, e2, h1, h2⟩ := h
  exact ⟨b, y, n, g, e1, e2, s _ _ rfl h1, h2.stay s⟩
def sp_fields (K : PySem.W.Frag) : Sp := fun vs H Q _ => ∃ x fs, vs = [.ref x] ∧ ObjT K H x (.rcd fs) ∧ fs.length ≤ 3 ∧ ∀ t ps H', Same H H' → H' t = some (.tup ps) → ps.length = fs.length → (∀ (i : Nat) v, ps[i]? = some v → FldO K fs i v H') → Q (.ref t) H'
theorem ok_fields (T : Top K mg) (k : Nat) : Ok_Type_fields P w base T (k + 3) (sp_fields K) := by
  have R_Type___init__ := fnR_of (ok_tinit (P := P) (w := w) (base := base) T 0) (b_Type___init__ T)
  refine T.F_Type_fields.ok sc_Type_fields (fun vs H Q E h => by obtain ⟨x, f, rfl, _⟩ := h; rfl) (fun cdv A outer s H vs Q E hr h => ⟨_, PSs.nox (pss_cons (sif (tcmp (kother K hr.units) (pe_ix (kget K) (pe_fld (vr 0) (by rfl)) pe_int (fun _ _ => rfl)) pe_str (nomark _)) (pss_one (ps_ret (pe_tup pa_nil))) pss_nil)
      (pss_one (ps_ret (pe_callTy (ktup K) (by rfl) T.n_tuple (by decide +kernel) (pa_cons (pe_lc (own := [("name", 1), ("inner", 2)])  rfl sc_Type_fields.nd (itup K (pe_ix (kget K) (pe_fld (vr 0) (by rfl)) pe_int (fun _ _ => rfl))) (blkOk_by (own := [("name", 1), ("inner", 2)]) (N := ["self", "name", "inner"]) (sc := defScope s_Type_fields) (by decide +kernel)) (fun _ _ _ _ _ => (gtup K 2 rfl (gs_cons (pg_name (i := 1) sc_Type_fields.nd rfl (by first | exact .inl rfl | exact .inr rfl)) (gs_cons (pg_name (i := 2) sc_Type_fields.nd rfl (by first | exact .inl rfl | exact .inr rfl)) gs_nil)))) (fun _ _ _ _ _ => pts_nil) (fun _ _ _ _ _ => up (pe_tup (pa_cons (vr 1) (pa_cons (StX.pe_makeR T.mk_Type R_Type___init__ (hr.mono (by omega)) (by rfl) T.g_Type pass0 (pa_cons (vr 2) pa_nil)) pa_nil))))) pa_nil))))), ?_⟩)
  obtain ⟨x, fs, rfl, ⟨dx, t, hx, hf⟩, l3, q⟩ := h
  rw [st_Type_fields]
  cases hf with
  | @rcd b r pv _ hb hr' hfs =>
  have len := hfs.length
  refine ⟨_, _, dx, _, _, rfl, hx, T.cls_Type, T.na_Type_form, rfl, _, _, .inr (sqT_of hb), at0' _ _, ?_⟩
  refine ⟨_, _, dx, _, _, rfl, hx, T.cls_Type, T.na_Type_form, rfl, _, _, .inr (sqT_of hb), rfl, r, rfl, ⟨_, sqT_of hr'⟩, fun D nD => ?_⟩
  refine lcw (walk_tup (xs := pv)) fr_same (fun i v H' => FldO K fs i v H') trivial nD (by omega) gm_pair2 (fun H1 _ s1 => sqT_of (s1 _ _ hr')) (fun _ _ _ _ h s => h.stay s) (fun i x' H1 H1' hi _ s1 hy => ?_) (fun H1 ys _ s1 l1 e1 q1 => ?_)
  · obtain ⟨rfl, hx'⟩ := hy
    obtain ⟨c, g, nn, f1, rfl, e2, h2, hg⟩ := hfs.at i x' hx'
    refine ⟨c, _, rfl, sqT_of (s1 _ _ h2), rfl, rfl, fun y dy ny ndy nyd => ?_⟩
    refine ⟨y, _, dy, rfl, upd_same, ?_⟩
    obtain ⟨s3, o3⟩ := made_obj (K := K) s1 hg ny ndy
    refine ⟨rfl, Nat.le_of_ble_eq_true rfl, fun t5 n5 => ?_⟩
    have s5 := same_new (o := .tup [.str (mkS nn), .ref y]) n5
    exact ⟨trivial, s3.trans s5, t5, y, nn, f1, rfl, e2, upd_same, o3.same s5⟩
  · refine ⟨ys, .inl ⟨sqL_of e1, fun t5 n5 => ?_⟩⟩
    exact q t5 ys _ (s1.trans (same_new n5)) upd_same (by omega) fun i v hv => (q1 i v hv).stay (stay_new n5)
def sp_cont (K : PySem.W.Frag) : Sp := fun vs H Q _ => ∃ x v f d, vs = [.ref x, v] ∧ ObjT K H x f ∧ f.dep ≤ 12 ∧ f.wf = true ∧ DL H v d ∧ Sz d ∧ ∀ H', Same H H' → Q (.bl (trb f d).isNone) H'
theorem ok_cont (T : Top K mg) (k : Nat) : Ok_Type___contains__ P w base T (k + 28) (sp_cont K) := by
  have G_trouble_at : Ok_trouble_at P w base T 27 (spT 12) := ok_ta T 12
  refine T.F_Type___contains__.ok sc_Type___contains__ (fun vs H Q E h => by obtain ⟨x, v, f, d, rfl, _⟩ := h; rfl) (fun cdv A outer s H vs Q E hr h => ⟨_, PSs.nox (pss_one (ps_ret (pe_cmpR op_isNo (pe_call G_trouble_at (hr.mono (by omega)) (by rfl) T.g_trouble_at T.F_trouble_at.kp (b_trouble_at T) .nil pass0 (pa_cons (pe_fld (vr 0) (by rfl)) (pa_cons (vr 1) (pa_cons (pe_tup pa_nil) pa_nil)))) pe_non (nomark _)))), ?_⟩)
  obtain ⟨x, v, f, d, rfl, ⟨dx, t, hx, hf⟩, hd, wf, dl, sz, q⟩ := h
  rw [st_Type___contains__]
  refine ⟨_, _, dx, _, t, rfl, hx, T.cls_Type, T.na_Type_form, rfl, Nat.le_of_ble_eq_true rfl, fun t2 n2 => ?_⟩
  generalize g2 : upd _ t2 _ = B2
  obtain ⟨b2, h2, _⟩ := lay_of' g2 n2
  refine ⟨t, v, f, d, [], t2, rfl, h2, by show 0 + f.dep ≤ 900; omega, hf.on (tupS_of b2), hd, wf, dl.same b2, sz, fun v' H' s' r' => ?_⟩
  have q := q H' (b2.trans s')
  cases e : trb f d with
  | none =>
    rw [e] at r' q
    have r' : v' = .non := r'
    subst r'
    exact q
  | some p =>
    rw [e] at r' q
    obtain ⟨a', rfl, _⟩ := r'
    exact q
def sp_eqT (K : PySem.W.Frag) : Sp := fun vs H Q _ => ∃ x y f, vs = [.ref x, .ref y] ∧ ObjT K H x f ∧ ObjT K H y f ∧ f.dep ≤ 12 ∧ Q (.bl true) H
theorem ok_eqT (T : Top K mg) (k : Nat) : Ok_Type___eq__ P w base T (k + 1) (sp_eqT K) := by
  refine T.F_Type___eq__.ok sc_Type___eq__ (fun vs H Q E h => by obtain ⟨x, y, f, rfl, _⟩ := h; rfl) (fun cdv A outer s H vs Q E hr h => ⟨_, PSs.nox (pss_one (ps_ret (vand (pe_callB (kis K) (by rfl) T.n_isinstance (by decide +kernel) (pa_cons (vr 1) (pa_cons (pe_glob (v := .ref (He.ga K "Type")) (by rfl) T.g_Type rfl) pa_nil))) (pe_one (pe_cmpR (ksame K hr.units) (pe_fld (vr 0) (by rfl)) (pe_fld (vr 1) (by rfl)) (nomark _)))))), ?_⟩)
  obtain ⟨x, y, f, rfl, ⟨dx, t, hx, hf⟩, ⟨dy, u, hy, hg⟩, hd, q⟩ := h
  rw [st_Type___eq__]
  refine .inl ⟨_, _, _, _, true, rfl, .own _, .base (.ins hy T.cls_Type T.ne_Type.cc T.ne_Type.cg T.ne_Type.ct T.ne_Type.ob), ?_, ?_⟩
  · unfold PySem.W.kitOne
    rw [if_pos (by simp)]
  obtain ⟨b, r, rfl, hb⟩ := fm_headZ hf
  obtain ⟨b', r', rfl, hb'⟩ := fm_headZ hg
  refine ⟨_, _, dx, _, _, rfl, hx, T.cls_Type, T.na_Type_form, rfl, _, _, dy, _, _, rfl, hy, T.cls_Type, T.na_Type_form, rfl, fmD f, fmD f, hf.dp, hg.dp, fmD_shp hd, fmD_shp hd, ?_⟩
  rw [fm_eqv f]
  exact q
end
end Sk
/-! Sk: Type: key, fields of any form, ==, str, repr -/
namespace Sk
open PySem PySem.Spec PyProof.Rows L2
theorem str_eqv_iff {a b : Str} (h : (PyData.str a).eqv (.str b) = true) : a = b := by
  unfold PyData.eqv at h
  simpa using h
def tag : Fm → Nat
  | .text => 0
  | .number => 1
  | .flag => 2
  | .opt _ => 3
  | .list _ => 4
  | .keyed _ _ => 5
  | .rcd _ => 6
def tagZ (z : Str) : Nat := if z = "text" then 0 else if z = "number" then 1 else if z = "flag" then 2 else if z = "optional" then 3 else if z = "list" then 4 else if z = "keyed" then 5 else 6
theorem tag_head (f : Fm) : tagZ (headZ f) = tag f := by
  cases f with
  | text => exact (by decide +kernel : tagZ (Str.ofString "text") = 0)
  | number => exact (by decide +kernel : tagZ (Str.ofString "number") = 1)
  | flag => exact (by decide +kernel : tagZ (Str.ofString "flag") = 2)
  | opt f => exact (by decide +kernel : tagZ (Str.ofString "optional") = 3)
  | list f => exact (by decide +kernel : tagZ (Str.ofString "list") = 4)
  | keyed f k => exact (by decide +kernel : tagZ (Str.ofString "keyed") = 5)
  | rcd f => exact (by decide +kernel : tagZ (Str.ofString "record") = 6)
def restF : Fm → List PyData
  | .opt f => [fmD f]
  | .list f => [fmD f]
  | .keyed f k => [fmD f, .str (mkS k)]
  | .rcd fs => [.tuple (fmDs fs)]
  | _ => []
theorem fmD_eq (f : Fm) : fmD f = .tuple (.str (headZ f) :: restF f) := by
  cases f <;> (rw [fmD]; rfl)
theorem fm_split {f g : Fm} (h : (fmD f).eqv (fmD g) = true) : tag f = tag g ∧ PyData.eqvAll (restF f) (restF g) = true := by
  rw [fmD_eq f, fmD_eq g, PyData.eqv, PyData.eqvAll, Bool.and_eq_true] at h
  refine ⟨?_, h.2⟩
  rw [← tag_head f, ← tag_head g, str_eqv_iff h.1]
mutual
theorem fm_inj : ∀ (f g : Fm), (fmD f).eqv (fmD g) = true → f = g
  | .text, g, h => by
    have t := (fm_split h).1
    cases g <;> first | rfl | cases t
  | .number, g, h => by
    have t := (fm_split h).1
    cases g <;> first | rfl | cases t
  | .flag, g, h => by
    have t := (fm_split h).1
    cases g <;> first | rfl | cases t
  | .opt f, g, h => by
    obtain ⟨t, r⟩ := fm_split h
    cases g with
    | opt g =>
      have r : PyData.eqvAll [fmD f] [fmD g] = true := r
      rw [PyData.eqvAll, Bool.and_eq_true] at r
      rw [fm_inj f g r.1]
    | _ => cases t
  | .list f, g, h => by
    obtain ⟨t, r⟩ := fm_split h
    cases g with
    | list g =>
      have r : PyData.eqvAll [fmD f] [fmD g] = true := r
      rw [PyData.eqvAll, Bool.and_eq_true] at r
      rw [fm_inj f g r.1]
    | _ => cases t
  | .keyed f k, g, h => by
    obtain ⟨t, r⟩ := fm_split h
    cases g with
    | keyed g l =>
      have r : PyData.eqvAll [fmD f, .str (mkS k)] [fmD g, .str (mkS l)] = true := r
      rw [PyData.eqvAll, Bool.and_eq_true, PyData.eqvAll, Bool.and_eq_true] at r
      have e : k = l := congrArg (fun s : Str => s.cps.toList) (str_eqv_iff r.2.1)
      rw [fm_inj f g r.1, e]
    | _ => cases t
  | .rcd fs, g, h => by
    obtain ⟨t, r⟩ := fm_split h
    cases g with
    | rcd gs =>
      have r : PyData.eqvAll [.tuple (fmDs fs)] [.tuple (fmDs gs)] = true := r
      rw [PyData.eqvAll, Bool.and_eq_true, PyData.eqv] at r
      rw [fms_inj fs gs r.1]
    | _ => cases t
termination_by f => sizeOf f
decreasing_by all_goals (simp_wf; try omega)
theorem fms_inj : ∀ (fs gs : List (List Nat × Fm)), PyData.eqvAll (fmDs fs) (fmDs gs) = true → fs = gs
  | [], [], _ => rfl
  | [], _ :: _, h => by rw [fmDs, fmDs, PyData.eqvAll] at h; cases h
  | _ :: _, [], h => by rw [fmDs, fmDs, PyData.eqvAll] at h; cases h
  | (n, f) :: r, (m, g) :: t, h => by
    rw [fmDs, fmDs, PyData.eqvAll, PyData.eqv, Bool.and_eq_true] at h
    obtain ⟨h1, h2⟩ := h
    rw [PyData.eqvAll, Bool.and_eq_true, PyData.eqvAll, Bool.and_eq_true] at h1
    have e : n = m := congrArg (fun s : Str => s.cps.toList) (str_eqv_iff h1.1)
    rw [e, fm_inj f g h1.2.1, fms_inj r t h2]
termination_by fs => sizeOf fs
decreasing_by all_goals (simp_wf; try omega)
end
section
variable {P : Program} {w : World} {K : PySem.W.Frag} {mg : Str → Option Value} {base : Heap}
/-! ### form_text -/
def sp_fxt (n : Nat) : Sp := fun vs H Q _ => ∃ v f, vs = [v] ∧ FmV H v f ∧ f.dep ≤ n ∧ (fT f).length ≤ 100000 ∧ ∀ z H', Same H H' → z = mkS (fT f) → Q (.str z) H'
theorem step_fxt (T : Top K mg) (n k : Nat) (spI : Sp) (G_form_text : Ok_form_text P w base T k spI) (hI : ∀ m, n = m + 1 → spI = sp_fxt m) : Ok_form_text P w base T (k + 1) (sp_fxt n) := by
  refine T.F_form_text.ok sc_form_text (fun vs H Q E h => by obtain ⟨v, f, rfl, _⟩ := h; rfl) (fun cdv A outer s H vs Q E hr h => ⟨_, PSs.nox (pss_cons (sif (tcmp (kin K) (pe_ix (kget K) (vr 0) pe_int (fun _ _ => rfl)) (pe_glob (v := .ref (He.ga K "SIMPLE")) (by rfl) T.g_SIMPLE rfl) (by rfl)) (pss_one (ps_ret (pe_ix (kget K) (vr 0) pe_int (fun _ _ => rfl)))) pss_nil)
      (pss_cons (sif (tcmp (ksame K hr.units) (pe_ix (kget K) (vr 0) pe_int (fun _ _ => rfl)) pe_str (nomark _)) (pss_one (ps_ret (pe_op (kplus K) (pe_call G_form_text (hr.mono (by omega)) (by rfl) T.g_form_text T.F_form_text.kp (b_form_text T) .nil pass0 (pa_cons (pe_ix (kget K) (vr 0) pe_int (fun _ _ => rfl)) pa_nil)) pe_str))) pss_nil)
      (pss_cons (sif (tcmp (ksame K hr.units) (pe_ix (kget K) (vr 0) pe_int (fun _ _ => rfl)) pe_str (nomark _)) (pss_one (ps_ret (pe_op (kplus K) (pe_op (kplus K) pe_str (pe_call G_form_text (hr.mono (by omega)) (by rfl) T.g_form_text T.F_form_text.kp (b_form_text T) .nil pass0 (pa_cons (pe_ix (kget K) (vr 0) pe_int (fun _ _ => rfl)) pa_nil))) pe_str))) pss_nil)
      (pss_cons (sif (tcmp (ksame K hr.units) (pe_ix (kget K) (vr 0) pe_int (fun _ _ => rfl)) pe_str (nomark _)) (pss_one (ps_ret (pe_op (kplus K) (pe_op (kplus K) (pe_op (kplus K) (pe_op (kplus K) pe_str (pe_call G_form_text (hr.mono (by omega)) (by rfl) T.g_form_text T.F_form_text.kp (b_form_text T) .nil pass0 (pa_cons (pe_ix (kget K) (vr 0) pe_int (fun _ _ => rfl)) pa_nil))) pe_str) (pe_ix (kget K) (vr 0) pe_int (fun _ _ => rfl))) pe_str))) pss_nil)
      (pss_one (ps_ret (pe_op (kplus K) (pe_op (kplus K) pe_str (kjoin K pe_str (pe_lc (own := [("name", 1), ("inner", 2)])  rfl sc_form_text.nd (itup K (pe_ix (kget K) (vr 0) pe_int (fun _ _ => rfl))) (blkOk_by (own := [("name", 1), ("inner", 2)]) (N := ["form", "name", "inner"]) (sc := defScope s_form_text) (by decide +kernel)) (fun _ _ _ _ _ => (gtup K 2 rfl (gs_cons (pg_name (i := 1) sc_form_text.nd rfl (by first | exact .inl rfl | exact .inr rfl)) (gs_cons (pg_name (i := 2) sc_form_text.nd rfl (by first | exact .inl rfl | exact .inr rfl)) gs_nil)))) (fun _ _ _ _ _ => pts_nil) (fun _ _ _ _ _ => up (pe_op (kplus K) (pe_op (kplus K) (vr 1) pe_str) (pe_call G_form_text (hr.mono (by omega)) (by rfl) T.g_form_text T.F_form_text.kp (b_form_text T) .nil pass0 (pa_cons (vr 2) pa_nil))))))) pe_str))))))), ?_⟩)
  obtain ⟨v, f, rfl, hf, hd, hl, q⟩ := h
  rw [st_form_text]
  have c63 : (Str.ofString "?").cps.toList = [63] := by decide +kernel
  have c91 : (Str.ofString "[").cps.toList = [91] := by decide +kernel
  have c93 : (Str.ofString "]").cps.toList = [93] := by decide +kernel
  have c123 : (Str.ofString "{").cps.toList = [123] := by decide +kernel
  have c125 : (Str.ofString "}").cps.toList = [125] := by decide +kernel
  have cby : (Str.ofString " by ").cps.toList = [32, 98, 121, 32] := by decide +kernel
  have ccol : (Str.ofString ": ").cps.toList = [58, 32] := by decide +kernel
  have ccom : (Str.ofString ", ").cps.toList = [44, 32] := by decide +kernel
  cases id hf with
  | text h => exact ⟨_, _, .inr (sqT_of h), rfl, _, .inr (T.q_SIMPLE H), rfl, rfl, _, _, .inr (sqT_of h), rfl, q _ _ (Same.refl H) (str_ext wText_eq)⟩
  | number h => exact ⟨_, _, .inr (sqT_of h), rfl, _, .inr (T.q_SIMPLE H), rfl, rfl, _, _, .inr (sqT_of h), rfl, q _ _ (Same.refl H) (str_ext wNumber_eq)⟩
  | flag h => exact ⟨_, _, .inr (sqT_of h), rfl, _, .inr (T.q_SIMPLE H), rfl, rfl, _, _, .inr (sqT_of h), rfl, q _ _ (Same.refl H) (str_ext wFlag_eq)⟩
  | @opt fa x f1 h hx =>
    obtain ⟨m, rfl⟩ : ∃ m, n = m + 1 := ⟨n - 1, by have : f1.dep + 1 ≤ n := hd; omega⟩
    have hd : f1.dep + 1 ≤ m + 1 := hd
    obtain rfl := hI m rfl
    rw [fT] at hl q
    rw [List.length_append, List.length_singleton] at hl
    refine ⟨_, _, .inr (sqT_of h), rfl, _, .inr (T.q_SIMPLE H), rfl, rfl, ?_⟩
    have h1 := h
    refine ⟨_, _, .inr (sqT_of h1), rfl, _, _, .inr (sqT_of h1), rfl, x, f1, rfl, hx, by omega, by omega, fun z H' s' ez => ?_⟩
    subst ez
    refine ⟨size_le (by rw [mkS_len, len_list (Str.ofString "?"), c63, List.length_singleton]; omega), q _ _ s' (str_ext ?_)⟩
    rw [app_list, c63]
    rfl
  | @list fa x f1 h hx =>
    obtain ⟨m, rfl⟩ : ∃ m, n = m + 1 := ⟨n - 1, by have : f1.dep + 1 ≤ n := hd; omega⟩
    have hd : f1.dep + 1 ≤ m + 1 := hd
    obtain rfl := hI m rfl
    rw [fT] at hl q
    rw [List.length_cons, List.length_append, List.length_singleton] at hl
    refine ⟨_, _, .inr (sqT_of h), rfl, _, .inr (T.q_SIMPLE H), rfl, rfl, ?_⟩
    have h1 := h
    refine ⟨_, _, .inr (sqT_of h1), rfl, _, _, .inr (sqT_of h1), rfl, _, _, .inr (sqT_of h1), rfl, x, f1, rfl, hx, by omega, by omega, fun z H' s' ez => ?_⟩
    subst ez
    refine ⟨size_le (by rw [mkS_len, len_list (Str.ofString "["), c91, List.length_singleton]; omega), size_le (by rw [app_len, mkS_len, len_list (Str.ofString "["), c91, len_list (Str.ofString "]"), c93, List.length_singleton, List.length_singleton]; omega), q _ _ s' (str_ext ?_)⟩
    rw [app_list, app_list, c91, c93]
    rfl
  | @keyed fa x f1 kk h hx =>
    obtain ⟨m, rfl⟩ : ∃ m, n = m + 1 := ⟨n - 1, by have : f1.dep + 1 ≤ n := hd; omega⟩
    have hd : f1.dep + 1 ≤ m + 1 := hd
    obtain rfl := hI m rfl
    rw [fT] at hl q
    simp only [List.length_cons, List.length_append, List.length_nil] at hl
    refine ⟨_, _, .inr (sqT_of h), rfl, _, .inr (T.q_SIMPLE H), rfl, rfl, ?_⟩
    have h1 := h
    refine ⟨_, _, .inr (sqT_of h1), rfl, _, _, .inr (sqT_of h1), rfl, _, _, .inr (sqT_of h1), rfl, _, _, .inr (sqT_of h1), rfl, x, f1, rfl, hx, by omega, by omega, fun z H' s' ez => ?_⟩
    subst ez
    have l1 : (Str.ofString "[").length = 1 := by rw [len_list, c91]; rfl
    have l2 : (Str.ofString "]").length = 1 := by rw [len_list, c93]; rfl
    have l3 : (Str.ofString " by ").length = 4 := by rw [len_list, cby]; rfl
    refine ⟨size_le (by rw [mkS_len, l1]; omega), size_le (by rw [app_len, mkS_len, l1, l3]; omega), _, _, .inr (sqT_of (s' _ _ h1)), rfl, size_le (by rw [app_len, app_len, mkS_len, mkS_len, l1, l3]; omega), size_le (by rw [app_len, app_len, app_len, mkS_len, mkS_len, l1, l2, l3]; omega), q _ _ s' (str_ext ?_)⟩
    rw [app_list, app_list, app_list, app_list, c91, c93, cby]
    show (([91] ++ fT f1) ++ [32, 98, 121, 32] ++ kk) ++ [93] = 91 :: (fT f1 ++ ([32, 98, 121, 32] ++ (kk ++ [93])))
    simp
  | @rcd fa r pv fs h hr' hfs =>
    obtain ⟨m, rfl⟩ : ∃ m, n = m + 1 := ⟨n - 1, by have : depFs fs + 1 ≤ n := hd; omega⟩
    have hd : depFs fs + 1 ≤ m + 1 := hd
    obtain rfl := hI m rfl
    have len := hfs.length
    rw [fT] at hl q
    rw [List.length_cons, List.length_append, List.length_singleton] at hl
    have lfs := flT_len fs
    refine ⟨_, _, .inr (sqT_of h), rfl, _, .inr (T.q_SIMPLE H), rfl, rfl, ?_⟩
    have s1 := Same.refl H
    have h1 := h
    refine ⟨_, _, .inr (sqT_of h1), rfl, _, _, .inr (sqT_of h1), rfl, _, _, .inr (sqT_of h1), rfl, ?_⟩
    refine ⟨_, _, .inr (sqT_of h1), rfl, r, rfl, ⟨_, sqT_of (s1 _ _ hr')⟩, fun D nD => ?_⟩
    refine lcw (walk_tup (xs := pv)) fr_same (fun i v _ => ∃ p, fs[i]? = some p ∧ v = .str (mkS (rowT p))) trivial nD (by omega) gm_pair2 (fun H2 _ s2 => sqT_of ((s1.trans s2) _ _ hr')) (fun _ _ _ _ h _ => h) (fun i x H2 H2' hi _ s2 hy => ?_) (fun H2 ys _ s2 l2 e2 q2 => ?_)
    · obtain ⟨rfl, hx⟩ := hy
      obtain ⟨b, g, nn, f, rfl, e2, h2, hg⟩ := hfs.at i x hx
      have S2 := s1.trans s2
      have mem : (nn, f) ∈ fs := List.mem_of_getElem? e2
      have rl := row_le mem
      have re : (rowT (nn, f)).length = nn.length + (2 + (fT f).length) := by simp [rowT]; omega
      have dm := dep_mem mem
      have dm : f.dep ≤ depFs fs := dm
      have l4 : (Str.ofString ": ").length = 2 := by rw [len_list, ccol]; rfl
      refine ⟨b, _, rfl, sqT_of (S2 _ _ h2), rfl, rfl, size_le (by rw [mkS_len, l4]; omega), g, f, rfl, hg.on (tupS_of S2), by omega, by omega, fun z H3 s3 ez => ?_⟩
      subst ez
      refine ⟨size_le (by rw [app_len, mkS_len, mkS_len, l4]; omega), trivial, s3, _, e2, congrArg V.str (str_ext ?_)⟩
      rw [app_list, app_list, ccol]
      show (nn ++ [58, 32]) ++ fT f = nn ++ ([58, 32] ++ fT f)
      simp
    · have ey := rows_of (l2.trans len) q2
      subst ey
      have su := flT_sum fs
      have em : ((fs.map fun p => mkS (rowT p)).map (·.length)) = fs.map fun p => (rowT p).length := by
        rw [List.map_map]
        exact List.map_congr_left fun p _ => mkS_len _
      have l4 : (Str.ofString ", ").length = 2 := by rw [len_list, ccom]; rfl
      have l5 : (Str.ofString "{").length = 1 := by rw [len_list, c123]; rfl
      have l6 : (Str.ofString "}").length = 1 := by rw [len_list, c125]; rfl
      have ej : (Txt.join ", " (fs.map fun p => mkS (rowT p))).cps.toList = flT fs := by
        have e0 : (fs.map fun p => mkS (rowT p)).map sl = fs.map rowT := by
          rw [List.map_map]
          rfl
        have := join_with (y := Str.ofString ", ") e0
        rw [ccom, flT_join] at this
        exact this
      have lj : (Txt.join ", " (fs.map fun p => mkS (rowT p))).length = (flT fs).length := by rw [len_list, ej]
      refine ⟨_, .inl (sqL_of e2), by rw [em, List.length_map, l4]; omega, size_le (by rw [l5, lj]; omega), size_le (by rw [app_len, l5, l6, lj]; omega), q _ _ (s1.trans s2) (str_ext ?_)⟩
      rw [app_list, app_list, c123, c125, ej]
      rfl
theorem no_fxt (T : Top K mg) : Ok_form_text P w base T 0 (fun _ _ _ _ => False) := ⟨fun _ _ _ _ h => h.elim, fun _ _ _ _ _ _ _ _ _ _ _ _ _ h => h.elim⟩
theorem ok_fxt (T : Top K mg) : ∀ n, Ok_form_text P w base T (n + 1) (sp_fxt n)
  | 0 => step_fxt T 0 0 _ (no_fxt T) fun m e => by cases e
  | n + 1 => step_fxt T (n + 1) (n + 1) _ (ok_fxt T n) fun m e => by cases e; rfl
/-! ### key, fields -/
def keyF : Fm → V
  | .keyed _ k => .str (mkS k)
  | _ => .non
def sp_key (K : PySem.W.Frag) : Sp := fun vs H Q _ => ∃ x f, vs = [.ref x] ∧ ObjT K H x f ∧ Q (keyF f) H
theorem ok_key (T : Top K mg) (k : Nat) : Ok_Type_key P w base T (k + 1) (sp_key K) := by
  refine T.F_Type_key.ok sc_Type_key (fun vs H Q E h => by obtain ⟨x, f, rfl, _⟩ := h; rfl) (fun cdv A outer s H vs Q E hr h => ⟨_, PSs.nox (pss_one (ps_ret (vif (tcmp (ksame K hr.units) (pe_ix (kget K) (pe_fld (vr 0) (by rfl)) pe_int (fun _ _ => rfl)) pe_str (nomark _)) (pe_ix (kget K) (pe_fld (vr 0) (by rfl)) pe_int (fun _ _ => rfl)) pe_non))), ?_⟩)
  obtain ⟨x, f, rfl, ⟨dx, t, hx, hf⟩, q⟩ := h
  rw [st_Type_key]
  cases hf with
  | text h => exact ⟨_, _, dx, _, _, rfl, hx, T.cls_Type, T.na_Type_form, rfl, _, _, .inr (sqT_of h), rfl, q⟩
  | number h => exact ⟨_, _, dx, _, _, rfl, hx, T.cls_Type, T.na_Type_form, rfl, _, _, .inr (sqT_of h), rfl, q⟩
  | flag h => exact ⟨_, _, dx, _, _, rfl, hx, T.cls_Type, T.na_Type_form, rfl, _, _, .inr (sqT_of h), rfl, q⟩
  | opt h _ => exact ⟨_, _, dx, _, _, rfl, hx, T.cls_Type, T.na_Type_form, rfl, _, _, .inr (sqT_of h), rfl, q⟩
  | list h _ => exact ⟨_, _, dx, _, _, rfl, hx, T.cls_Type, T.na_Type_form, rfl, _, _, .inr (sqT_of h), rfl, q⟩
  | rcd h _ _ => exact ⟨_, _, dx, _, _, rfl, hx, T.cls_Type, T.na_Type_form, rfl, _, _, .inr (sqT_of h), rfl, q⟩
  | keyed h _ => exact ⟨_, _, dx, _, _, rfl, hx, T.cls_Type, T.na_Type_form, rfl, _, _, .inr (sqT_of h), rfl, _, _, dx, _, _, rfl, hx, T.cls_Type, T.na_Type_form, rfl, _, _, .inr (sqT_of h), rfl, q⟩
def fldsF : Fm → List (List Nat × Fm)
  | .rcd fs => fs
  | _ => []
def sp_fieldsG (K : PySem.W.Frag) : Sp := fun vs H Q _ => ∃ x f, vs = [.ref x] ∧ ObjT K H x f ∧ (fldsF f).length ≤ 3 ∧ ∀ t ps H', Same H H' → H' t = some (.tup ps) → ps.length = (fldsF f).length → (∀ (i : Nat) v, ps[i]? = some v → FldO K (fldsF f) i v H') → Q (.ref t) H'
theorem ok_fieldsG (T : Top K mg) (k : Nat) : Ok_Type_fields P w base T (k + 3) (sp_fieldsG K) := by
  have R_Type___init__ := fnR_of (ok_tinit (P := P) (w := w) (base := base) T 0) (b_Type___init__ T)
  refine T.F_Type_fields.ok sc_Type_fields (fun vs H Q E h => by obtain ⟨x, f, rfl, _⟩ := h; rfl) (fun cdv A outer s H vs Q E hr h => ⟨_, PSs.nox (pss_cons (sif (tcmp (kother K hr.units) (pe_ix (kget K) (pe_fld (vr 0) (by rfl)) pe_int (fun _ _ => rfl)) pe_str (nomark _)) (pss_one (ps_ret (pe_tup pa_nil))) pss_nil)
      (pss_one (ps_ret (pe_callTy (ktup K) (by rfl) T.n_tuple (by decide +kernel) (pa_cons (pe_lc (own := [("name", 1), ("inner", 2)])  rfl sc_Type_fields.nd (itup K (pe_ix (kget K) (pe_fld (vr 0) (by rfl)) pe_int (fun _ _ => rfl))) (blkOk_by (own := [("name", 1), ("inner", 2)]) (N := ["self", "name", "inner"]) (sc := defScope s_Type_fields) (by decide +kernel)) (fun _ _ _ _ _ => (gtup K 2 rfl (gs_cons (pg_name (i := 1) sc_Type_fields.nd rfl (by first | exact .inl rfl | exact .inr rfl)) (gs_cons (pg_name (i := 2) sc_Type_fields.nd rfl (by first | exact .inl rfl | exact .inr rfl)) gs_nil)))) (fun _ _ _ _ _ => pts_nil) (fun _ _ _ _ _ => up (pe_tup (pa_cons (vr 1) (pa_cons (StX.pe_makeR T.mk_Type R_Type___init__ (hr.mono (by omega)) (by rfl) T.g_Type pass0 (pa_cons (vr 2) pa_nil)) pa_nil))))) pa_nil))))), ?_⟩)
  obtain ⟨x, f, rfl, ⟨dx, t, hx, hf⟩, l3, q⟩ := h
  rw [st_Type_fields]
  have none' : fldsF f = [] → ∀ t, H t = none → Q (.ref t) (upd H t (.tup [])) := fun e t n => q t [] _ (same_new n) upd_same (by rw [e]; rfl) (fun i v h => by simp at h)
  cases hf with
  | text h => exact ⟨_, _, dx, _, _, rfl, hx, T.cls_Type, T.na_Type_form, rfl, _, _, .inr (sqT_of h), rfl, Nat.le_of_ble_eq_true rfl, none' rfl⟩
  | number h => exact ⟨_, _, dx, _, _, rfl, hx, T.cls_Type, T.na_Type_form, rfl, _, _, .inr (sqT_of h), rfl, Nat.le_of_ble_eq_true rfl, none' rfl⟩
  | flag h => exact ⟨_, _, dx, _, _, rfl, hx, T.cls_Type, T.na_Type_form, rfl, _, _, .inr (sqT_of h), rfl, Nat.le_of_ble_eq_true rfl, none' rfl⟩
  | opt h _ => exact ⟨_, _, dx, _, _, rfl, hx, T.cls_Type, T.na_Type_form, rfl, _, _, .inr (sqT_of h), rfl, Nat.le_of_ble_eq_true rfl, none' rfl⟩
  | list h _ => exact ⟨_, _, dx, _, _, rfl, hx, T.cls_Type, T.na_Type_form, rfl, _, _, .inr (sqT_of h), rfl, Nat.le_of_ble_eq_true rfl, none' rfl⟩
  | keyed h _ => exact ⟨_, _, dx, _, _, rfl, hx, T.cls_Type, T.na_Type_form, rfl, _, _, .inr (sqT_of h), rfl, Nat.le_of_ble_eq_true rfl, none' rfl⟩
  | @rcd b r pv fs hb hr' hfs =>
  have len := hfs.length
  have l3 : fs.length ≤ 3 := l3
  refine ⟨_, _, dx, _, _, rfl, hx, T.cls_Type, T.na_Type_form, rfl, _, _, .inr (sqT_of hb), at0' _ _, ?_⟩
  refine ⟨_, _, dx, _, _, rfl, hx, T.cls_Type, T.na_Type_form, rfl, _, _, .inr (sqT_of hb), rfl, r, rfl, ⟨_, sqT_of hr'⟩, fun D nD => ?_⟩
  refine lcw (walk_tup (xs := pv)) fr_same (fun i v H' => FldO K fs i v H') trivial nD (by omega) gm_pair2 (fun H1 _ s1 => sqT_of (s1 _ _ hr')) (fun _ _ _ _ h s => h.stay s) (fun i x' H1 H1' hi _ s1 hy => ?_) (fun H1 ys _ s1 l1 e1 q1 => ?_)
  · obtain ⟨rfl, hx'⟩ := hy
    obtain ⟨c, g, nn, f1, rfl, e2, h2, hg⟩ := hfs.at i x' hx'
    refine ⟨c, _, rfl, sqT_of (s1 _ _ h2), rfl, rfl, fun y dy ny ndy nyd => ?_⟩
    refine ⟨y, _, dy, rfl, upd_same, ?_⟩
    obtain ⟨s3, o3⟩ := made_obj (K := K) s1 hg ny ndy
    refine ⟨rfl, Nat.le_of_ble_eq_true rfl, fun t5 n5 => ?_⟩
    have s5 := same_new (o := .tup [.str (mkS nn), .ref y]) n5
    exact ⟨trivial, s3.trans s5, t5, y, nn, f1, rfl, e2, upd_same, o3.same s5⟩
  · refine ⟨ys, .inl ⟨sqL_of e1, fun t5 n5 => ?_⟩⟩
    exact q t5 ys _ (s1.trans (same_new n5)) upd_same (by show ys.length = fs.length; omega) fun i v hv => (q1 i v hv).stay (stay_new n5)
/-! ### == with anything -/
def sp_eqG (K : PySem.W.Frag) : Sp := fun vs H Q _ => ∃ x v f, vs = [.ref x, v] ∧ ObjT K H x f ∧ f.dep ≤ 12 ∧ ((∃ y g, v = .ref y ∧ ObjT K H y g ∧ g.dep ≤ 12 ∧ (f = g → Q (.bl true) H) ∧ (f ≠ g → Q (.bl false) H)) ∨ ∃ t ∈ sevenT, TyX K H v (.type t) ∧ Q (.bl false) H)
theorem ok_eqG (T : Top K mg) (k : Nat) : Ok_Type___eq__ P w base T (k + 1) (sp_eqG K) := by
  refine T.F_Type___eq__.ok sc_Type___eq__ (fun vs H Q E h => by obtain ⟨x, y, f, rfl, _⟩ := h; rfl) (fun cdv A outer s H vs Q E hr h => ⟨_, PSs.nox (pss_one (ps_ret (vand (pe_callB (kis K) (by rfl) T.n_isinstance (by decide +kernel) (pa_cons (vr 1) (pa_cons (pe_glob (v := .ref (He.ga K "Type")) (by rfl) T.g_Type rfl) pa_nil))) (pe_one (pe_cmpR (ksame K hr.units) (pe_fld (vr 0) (by rfl)) (pe_fld (vr 1) (by rfl)) (nomark _)))))), ?_⟩)
  obtain ⟨x, v, f, rfl, ⟨dx, t, hx, hf⟩, hd, hh⟩ := h
  rw [st_Type___eq__]
  rcases hh with ⟨y, g, rfl, ⟨dy, u, hy, hg⟩, hd', q1, q2⟩ | ⟨t', ht', ty, q⟩
  · refine .inl ⟨_, _, _, _, true, rfl, .own _, .base (.ins hy T.cls_Type T.ne_Type.cc T.ne_Type.cg T.ne_Type.ct T.ne_Type.ob), ?_, ?_⟩
    · unfold PySem.W.kitOne
      rw [if_pos (by simp)]
    obtain ⟨b, r, rfl, hb⟩ := fm_headZ hf
    obtain ⟨b', r', rfl, hb'⟩ := fm_headZ hg
    refine ⟨_, _, dx, _, _, rfl, hx, T.cls_Type, T.na_Type_form, rfl, _, _, dy, _, _, rfl, hy, T.cls_Type, T.na_Type_form, rfl, fmD f, fmD g, hf.dp, hg.dp, fmD_shp hd, fmD_shp hd', ?_⟩
    cases e : (fmD f).eqv (fmD g) with
    | true => exact q1 (fm_inj f g e)
    | false => exact q2 fun z => by rw [z, fm_eqv g] at e; cases e
  · exact .inl ⟨_, _, _, _, false, rfl, .own _, ty, (T.st_Type t' ht').1, q⟩
/-! ### str, repr -/
def sp_strT (K : PySem.W.Frag) : Sp := fun vs H Q _ => ∃ x f, vs = [.ref x] ∧ ObjT K H x f ∧ f.dep ≤ 12 ∧ (fT f).length ≤ 50000 ∧ ∀ H', Same H H' → Q (.str (mkS (fT f))) H'
theorem ok_strT (T : Top K mg) (k : Nat) : Ok_Type___str__ P w base T (k + 14) (sp_strT K) := by
  have G_form_text : Ok_form_text P w base T 13 (sp_fxt 12) := ok_fxt T 12
  refine T.F_Type___str__.ok sc_Type___str__ (fun vs H Q E h => by obtain ⟨x, f, rfl, _⟩ := h; rfl) (fun cdv A outer s H vs Q E hr h => ⟨_, PSs.nox (pss_one (ps_ret (pe_callTy call_strU (by rfl) T.n_str (by decide +kernel) (pa_cons (pe_call G_form_text (hr.mono (by omega)) (by rfl) T.g_form_text T.F_form_text.kp (b_form_text T) .nil pass0 (pa_cons (pe_fld (vr 0) (by rfl)) pa_nil)) pa_nil)))), ?_⟩)
  obtain ⟨x, f, rfl, ⟨dx, t, hx, hf⟩, hd, hl, q⟩ := h
  rw [st_Type___str__]
  refine ⟨_, _, dx, _, _, rfl, hx, T.cls_Type, T.na_Type_form, rfl, t, f, rfl, hf, hd, by omega, fun z H' s' ez => ?_⟩
  subst ez
  exact q H' s'
def reprZ (f : Fm) : Str := Str.ofString "Type('" ++ mkS (fT f) ++ Str.ofString "')"
def sp_reprT (K : PySem.W.Frag) : Sp := fun vs H Q _ => ∃ x f, vs = [.ref x] ∧ ObjT K H x f ∧ f.dep ≤ 12 ∧ (fT f).length ≤ 50000 ∧ ∀ H', Same H H' → Q (.str (reprZ f)) H'
theorem ok_reprT (T : Top K mg) (k : Nat) : Ok_Type___repr__ P w base T (k + 17) (sp_reprT K) := by
  have G_Type___str__ : Ok_Type___str__ P w base T 14 (sp_strT K) := ok_strT T 0
  refine T.F_Type___repr__.ok sc_Type___repr__ (fun vs H Q E h => by obtain ⟨x, f, rfl, _⟩ := h; rfl) (fun cdv A outer s H vs Q E hr h => ⟨_, PSs.nox (pss_one (ps_ret (pe_joined (.cons pe_str (.cons (vfmt (pe_callTy (call_strO G_Type___str__ T.ow_Type___str__ (b_Type___str__ T) (hr.mono (by omega))) (by rfl) T.n_str (by decide +kernel) (pa_cons (vr 0) pa_nil))) (.cons pe_str .nil)))))), ?_⟩)
  obtain ⟨x, f, rfl, o, hd, hl, q⟩ := h
  rw [st_Type___repr__]
  obtain ⟨dx, t, hx, ht⟩ := o
  refine ⟨_, rfl, size_le (by decide +kernel), ⟨dx, _, hx⟩, x, f, rfl, ⟨dx, t, hx, ht⟩, hd, hl, fun H' s' => ?_⟩
  have l1 : (Str.ofString "Type('").length = 6 := by decide +kernel
  have l2 : (Str.ofString "')").length = 2 := by decide +kernel
  refine ⟨size_le (by rw [mkS_len]; omega), _, rfl, size_le (by rw [emp_app, app_len, mkS_len, l1]; omega), ?_⟩
  refine ⟨_, rfl, size_le (by rw [emp_app, app_len, app_len, mkS_len, l1, l2]; omega), ?_⟩
  have := q H' s'
  unfold reprZ at this
  rw [← emp_app (Str.ofString "Type('")] at this
  exact this
end
end Sk
/-! Sk: _law_one_right -/
namespace Sk
open PySem PySem.Spec PyProof.Rows L2
section
variable {P : Program} {w : World} {K : PySem.W.Frag} {mg : Str → Option Value} {base : Heap}
def OneOk (f : Fm) : Prop := f.good 6 = true ∧ f.dep ≤ 12 ∧ (fT f).length ≤ 2000
def sp_one : Sp := fun vs H Q _ => ∃ f, vs = [.str (mkS (fT f))] ∧ OneOk f ∧ ∀ H', Same H H' → Q (.bl true) H'
theorem obj_ins {H : Hp} {x : Addr} {f : Fm} (o : ObjT K H x f) : ∃ dx fs, H x = some (.ins (He.ga K "Type") dx fs) := by
  obtain ⟨dx, t, hx, _⟩ := o
  exact ⟨dx, _, hx⟩
theorem obj_any {H : Hp} {x : Addr} {f : Fm} (o : ObjT K H x f) : AnyT K (He.ga K "Type") H (.ref x) := by
  obtain ⟨dx, t, hx, _⟩ := o
  exact .inl ⟨x, dx, _, rfl, hx⟩
theorem ok_one (T : Top K mg) (k : Nat) : Ok__law_one_right P w base T (k + 25) sp_one := by
  have R_Type_read := fnR_of (ok_tread (P := P) (w := w) (base := base) T 0) (b_Type_read T)
  have G_Type_read : Ok_Type_read P w base T 23 (sp_tread K) := ok_tread T 0
  have G_Type___str__ : Ok_Type___str__ P w base T 14 (sp_strT K) := ok_strT T 0
  have G_Type___repr__ : Ok_Type___repr__ P w base T 17 (sp_reprT K) := ok_reprT T 0
  have G_Type___eq__ : Ok_Type___eq__ P w base T 1 (sp_eqG K) := ok_eqG T 0
  refine T.F__law_one_right.ok sc__law_one_right (fun vs H Q E h => by obtain ⟨f, rfl, _⟩ := h; rfl) (fun cdv A outer s H vs Q E hr h => ⟨_, PSs.nox (pss_cons (ps_for PassesOwn.never rfl (ilist K (pe_lst (pa_cons (ClX.pe_cmeth (pe_glob (v := .ref (He.ga K "Type")) (by rfl) T.g_Type rfl) T.cr_Type T.cm_Type_read R_Type_read (hr.mono (by omega)) pass0 (pa_cons (vr 0) pa_nil)) (pa_cons (pe_cmethK (pe_glob (v := .ref (He.ga K "Type")) (by rfl) T.g_Type rfl) T.cr_Type T.cm_Type_read G_Type_read (hr.mono (by omega)) (kb_self T.F_Type_read (fun _ _ _ _ _ _ _ _ => rfl)) (pk_cons (vr 0) pk_nil)) (pa_cons (pe_imethU (ClX.pe_cmeth (pe_glob (v := .ref (He.ga K "Type")) (by rfl) T.g_Type rfl) T.cr_Type T.cm_Type_read R_Type_read (hr.mono (by omega)) pass0 (pa_cons pe_str pa_nil)) T.ci_Type_read R_Type_read (hr.mono (by omega)) (pa_cons (vr 0) pa_nil)) (pa_cons (ClX.pe_cmeth (pe_glob (v := .ref (He.ga K "Type")) (by rfl) T.g_Type rfl) T.cr_Type T.cm_Type_read R_Type_read (hr.mono (by omega)) pass0 (pa_cons (pe_callTy (call_strO G_Type___str__ T.ow_Type___str__ (b_Type___str__ T) (hr.mono (by omega))) (by rfl) T.n_str (by decide +kernel) (pa_cons (ClX.pe_cmeth (pe_glob (v := .ref (He.ga K "Type")) (by rfl) T.g_Type rfl) T.cr_Type T.cm_Type_read R_Type_read (hr.mono (by omega)) pass0 (pa_cons (vr 0) pa_nil)) pa_nil)) pa_nil)) pa_nil)))))) (pg_name (i := 1) sc__law_one_right.nd rfl (by first | exact .inl rfl | exact .inr rfl)) (pss_cons (sif (PW.pt (wor (tcmp (kother K hr.units) (pe_callTy (call_strO G_Type___str__ T.ow_Type___str__ (b_Type___str__ T) (hr.mono (by omega))) (by rfl) T.n_str (by decide +kernel) (pa_cons (vr 1) pa_nil)) (vr 0) (nomark _)) (wor (tcmp (kother K hr.units) (pe_callB (call_reprO G_Type___repr__ T.ow_Type___repr__ (b_Type___repr__ T) (hr.mono (by omega))) (by rfl) T.n_repr (by decide +kernel) (pa_cons (vr 1) pa_nil)) (pe_op (kplus K) (pe_op (kplus K) pe_str (vr 0)) pe_str) (nomark _)) (pw_or1 (tcmp (op_neA K G_Type___eq__ T.ow_Type___eq__ T.ne_Type (b_Type___eq__ T) (hr.mono (by omega))) (vr 1) (ClX.pe_cmeth (pe_glob (v := .ref (He.ga K "Type")) (by rfl) T.g_Type rfl) T.cr_Type T.cm_Type_read R_Type_read (hr.mono (by omega)) pass0 (pa_cons (vr 0) pa_nil)) (nomark _)))))) (pss_one (ps_ret pe_bl)) pss_nil)
      (pss_one (sif (PW.pt (wor (tcmp op_notBl (pe_callTy (call_boolO T.nb_Type) (by rfl) T.n_bool (by decide +kernel) (pa_cons (vr 1) pa_nil)) pe_bl (nomark _)) (pw_or1 (pt_not (tcmp (op_eqA K G_Type___eq__ T.ow_Type___eq__ (b_Type___eq__ T) (hr.mono (by omega))) (vr 1) (ClX.pe_cmeth (pe_glob (v := .ref (He.ga K "Type")) (by rfl) T.g_Type rfl) T.cr_Type T.cm_Type_read R_Type_read (hr.mono (by omega)) pass0 (pa_cons (vr 0) pa_nil)) (nomark _)))))) (pss_one (ps_ret pe_bl)) pss_nil))))
      (pss_one (ps_ret pe_bl))), ?_⟩)
  obtain ⟨f, rfl, ⟨gd, hd, hl⟩, q⟩ := h
  rw [st__law_one_right]
  have lr : (mkS (fT f)).length ≤ 2000 := by rw [mk_len]; exact hl
  have fb : rForm 6 (mkS (fT f)).cps.toList = some (f, []) := form_back gd
  have ff : rForm 6 (Str.ofString "flag").cps.toList = some (.flag, []) := by
    have e : (Str.ofString "flag").cps.toList = fT .flag := by rw [fT]; exact wFlag_eq
    rw [e]
    exact form_back (by rw [Fm.good] <;> simp)
  have lk : ∀ t : V, List.lookup (Str.ofString "read") [((Str.ofString "form" : Str), t)] = none := fun t => rfl
  have lkr : ∀ {H' : Hp} {x : Addr} {g : Fm}, ObjT K H' x g → ∃ dx fs, H' x = some (.ins (He.ga K "Type") dx fs) ∧ fs.lookup (Str.ofString "read") = none := fun o => by
    obtain ⟨dx, t, hx, _⟩ := o
    exact ⟨dx, _, hx, lk t⟩
  refine ⟨rfl, _, _, f, rfl, rfl, by omega, fb, fun x1 H1 s1 _ o1 => ?_⟩
  refine ⟨rfl, rfl, _, _, f, rfl, rfl, by omega, fb, fun x2 H2 s2 _ o2 => ?_⟩
  refine ⟨rfl, _, _, .flag, rfl, rfl, by decide +kernel, ff, fun x0 H3 s3 _ o3 => ?_⟩
  refine ⟨lkr o3, _, _, f, rfl, rfl, by omega, fb, fun x4 H4 s4 _ o4 => ?_⟩
  refine ⟨rfl, rfl, _, _, f, rfl, rfl, by omega, fb, fun x5 H5 s5 _ o5 => ?_⟩
  refine ⟨obj_ins o5, x5, f, rfl, o5, hd, by omega, fun H6 s6 => ?_⟩
  refine ⟨_, _, f, rfl, rfl, by omega, fb, fun x7 H7 s7 _ o7 => ?_⟩
  refine ⟨Nat.le_of_ble_eq_true rfl, fun L nL => ?_⟩
  generalize g8 : upd _ L _ = H8
  obtain ⟨s8, h8, _⟩ := lay_of' g8 nL
  clear g8 nL
  have s48 := ((s5.trans s6).trans s7).trans s8
  have s28 := (s3.trans s4).trans s48
  have S8 := (s1.trans s2).trans s28
  have each : ∀ v ∈ [V.ref x1, .ref x2, .ref x4, .ref x7], ∃ x, v = .ref x ∧ ObjT K H8 x f := fun v hv => by
    simp only [List.mem_cons, List.mem_nil_iff, or_false] at hv
    rcases hv with rfl | rfl | rfl | rfl
    · exact ⟨_, rfl, o1.same (s2.trans s28)⟩
    · exact ⟨_, rfl, o2.same s28⟩
    · exact ⟨_, rfl, o4.same s48⟩
    · exact ⟨_, rfl, o7.same s8⟩
  refine ⟨L, rfl, ⟨_, sqL_of h8⟩, ?_⟩
  refine for_it (walk_list (xs := [V.ref x1, .ref x2, .ref x4, .ref x7])) (fun i σ H' => Same H8 H' ∧ ∃ y, σ = [some (.str (mkS (fT f))), y]) ⟨Same.refl _, _, rfl⟩ (fun i σ H' _ pv => sqL_of (pv.1 _ _ h8)) (fun i v σ H9 H9' hi pv hy => ?_) (fun σ H9 pv => ?_)
  · obtain ⟨s9, y, rfl⟩ := pv
    obtain ⟨rfl, hx⟩ := hy
    obtain ⟨x, rfl, o⟩ := each v (List.mem_of_getElem? hx)
    dsimp only [gName]
    simp only [List.set_cons_succ, List.set_cons_zero]
    have o := o.same s9
    refine ⟨obj_ins o, x, f, rfl, o, hd, by omega, fun HA sA => ?_⟩
    refine brF (by simp) ?_
    have oA := o.same sA
    refine ⟨obj_ins oA, x, f, rfl, oA, hd, by omega, fun HB sB => ?_⟩
    have l1 : (Str.ofString "Type('").length = 6 := by decide +kernel
    have l2 : (Str.ofString "')").length = 2 := by decide +kernel
    refine ⟨size_le (by omega), size_le (by rw [app_len]; omega), ?_⟩
    refine brF (by unfold reprZ; simp) ?_
    have oB := oA.same sB
    refine ⟨rfl, _, _, f, rfl, rfl, by omega, fb, fun xC HC sC _ oC => ?_⟩
    have oB := oB.same sC
    refine ⟨obj_ins oB, obj_any oC, x, _, f, rfl, oB, hd, .inl ⟨xC, f, rfl, oC, hd, fun _ => ?_, fun h => absurd rfl h⟩⟩
    refine ⟨obj_ins oB, true, true, rfl, rfl, ?_⟩
    refine ⟨rfl, _, _, f, rfl, rfl, by omega, fb, fun xD HD sD _ oD => ?_⟩
    have oB := oB.same sD
    refine ⟨obj_ins oB, obj_any oD, x, _, f, rfl, oB, hd, .inl ⟨xD, f, rfl, oD, hd, fun _ => ?_, fun h => absurd rfl h⟩⟩
    exact ⟨s9.trans (((sA.trans sB).trans sC).trans sD), _, rfl⟩
  · exact q H9 (S8.trans pv.1)
end
end Sk
/-! Sk: _law_right (k02) -/
namespace Sk
open PySem PySem.Spec PyProof.Rows L2
def rowV (f : Fm) : V := .str (mkS (fT f))
theorem rows_are {p : Fm → Prop} : ∀ {ys : List V}, (∀ (i : Nat) (y : V), ys[i]? = some y → ∃ f, y = rowV f ∧ p f) → ∃ gs : List Fm, ys = gs.map rowV ∧ ∀ f ∈ gs, p f
  | [], _ => ⟨[], rfl, fun f h => by cases h⟩
  | y :: r, h => by
    obtain ⟨f, rfl, hf⟩ := h 0 y rfl
    obtain ⟨gs, rfl, hg⟩ := rows_are (p := p) (ys := r) fun i y e => h (i + 1) y (by simpa using e)
    refine ⟨f :: gs, rfl, fun g hg' => ?_⟩
    rcases List.mem_cons.mp hg' with rfl | hg'
    · exact hf
    · exact hg g hg'
theorem drn_one {f : Fm} (d : Drn 3 f) : OneOk f := ⟨d.good 6 (Nat.le_refl 6), Nat.le_trans d.dep (by decide), Nat.le_trans d.len (by decide)⟩
theorem text_inj {f g : Fm} (hf : f.good 6 = true) (hg : g.good 6 = true) (e : fT f = fT g) : f = g := by
  have h1 := form_back hf
  have h2 := form_back hg
  rw [e, h2] at h1
  injection h1 with h1
  injection h1 with h1
  exact h1.symm
theorem row_eq {f g : Fm} (hf : f.good 6 = true) (hg : g.good 6 = true) (h : mkS (fT f) = mkS (fT g)) : f = g := text_inj hf hg (congrArg (fun s : Str => s.cps.toList) h)
section
variable {P : Program} {w : World} {K : PySem.W.Frag} {mg : Str → Option Value} {base : Heap}
def sp_poolT : Sp := fun vs H Q _ => ∃ a, vs = [.ref a] ∧ Pool H a ∧ ∀ H', Pool H' a → Keep a H H' → Q (.bl true) H'
theorem ok_rightT (T : Top K mg) (k : Nat) : Ok__law_right P w base T (k + 26) sp_poolT := by
  have G__law_form : Ok__law_form P w base T 6 (sp_formF 3) := ok_formF T 3
  have G__law_form_text : Ok__law_form_text P w base T 7 (sp_ftx 6) := ok_ftx T 6
  have G__law_one_right : Ok__law_one_right P w base T 25 sp_one := ok_one T 0
  have R_Type_read := fnR_of (ok_tread (P := P) (w := w) (base := base) T 0) (b_Type_read T)
  have G_Type___eq__ : Ok_Type___eq__ P w base T 1 (sp_eqG K) := ok_eqG T 0
  refine T.F__law_right.ok sc__law_right (fun vs H Q E h => by obtain ⟨a, rfl, _⟩ := h; rfl) (fun cdv A outer s H vs Q E hr h => ⟨_, PSs.nox (pss_cons (ps_setLc (i := 1) (own := [("_law_turn", 6)])  rfl sc__law_right.nd rfl rfl (sw_true rfl rfl rfl (by decide +kernel)) (pi_range1 (by rfl) T.n_range (pa_cons pe_int pa_nil)) (blkOk_by (own := [("_law_turn", 6)]) (N := ["_law_pool_here", "_law_seen", "_law_first", "_law_made", "_law_second", "_law_stranger", "_law_turn", "_law_row"]) (sc := defScope s__law_right) (by decide +kernel)) (fun _ _ _ _ _ => (pg_name (i := 6) sc__law_right.nd rfl (by first | exact .inl rfl | exact .inr rfl))) (fun _ _ _ _ _ => pts_nil) (fun _ _ _ _ _ => up (pe_call G__law_form_text (hr.mono (by omega)) (by rfl) T.g__law_form_text T.F__law_form_text.kp (b__law_form_text T) .nil pass0 (pa_cons (pe_call G__law_form (hr.mono (by omega)) (by rfl) T.g__law_form T.F__law_form.kp (b__law_form T) .nil pass0 (pa_cons (vr 0) (pa_cons pe_int pa_nil))) pa_nil))))
      (pss_cons (sif (pt_not (tst (pe_callB (kall K rfl) (by rfl) T.n_all (by decide +kernel) (pa_cons (pe_lc (own := [("_law_row", 7)])  rfl sc__law_right.nd (ilist K (vr 1)) (blkOk_by (own := [("_law_row", 7)]) (N := ["_law_pool_here", "_law_seen", "_law_first", "_law_made", "_law_second", "_law_stranger", "_law_turn", "_law_row"]) (sc := defScope s__law_right) (by decide +kernel)) (fun _ _ _ _ _ => (pg_name (i := 7) sc__law_right.nd rfl (by first | exact .inl rfl | exact .inr rfl))) (fun _ _ _ _ _ => pts_nil) (fun _ _ _ _ _ => up (pe_call G__law_one_right (hr.mono (by omega)) (by rfl) T.g__law_one_right T.F__law_one_right.kp (b__law_one_right T) .nil pass0 (pa_cons (vr 7) pa_nil)))) pa_nil)))) (pss_one (ps_ret pe_bl)) pss_nil)
      (pss_cons (ps_for PassesOwn.never rfl (ilist K (vr 1)) (pg_name (i := 2) sc__law_right.nd rfl (by first | exact .inl rfl | exact .inr rfl)) (pss_cons (ps_set (i := 3) sc__law_right.nd rfl (by first | exact .inl rfl | exact .inr rfl) (ClX.pe_cmeth (pe_glob (v := .ref (He.ga K "Type")) (by rfl) T.g_Type rfl) T.cr_Type T.cm_Type_read R_Type_read (hr.mono (by omega)) pass0 (pa_cons (vr 2) pa_nil)))
      (pss_cons (ps_for PassesOwn.never rfl (ilist K (vr 1)) (pg_name (i := 4) sc__law_right.nd rfl (by first | exact .inl rfl | exact .inr rfl)) (pss_one (sif (PW.pt (wor (tcmp (kother K hr.units) (pe_cmpR (op_eqA K G_Type___eq__ T.ow_Type___eq__ (b_Type___eq__ T) (hr.mono (by omega))) (vr 3) (ClX.pe_cmeth (pe_glob (v := .ref (He.ga K "Type")) (by rfl) T.g_Type rfl) T.cr_Type T.cm_Type_read R_Type_read (hr.mono (by omega)) pass0 (pa_cons (vr 4) pa_nil)) (nomark _)) (pe_cmpR (ksame K hr.units) (vr 2) (vr 4) (nomark _)) (nomark _)) (pw_or1 (tcmp (ksame K hr.units) (pe_cmpR (op_neA K G_Type___eq__ T.ow_Type___eq__ T.ne_Type (b_Type___eq__ T) (hr.mono (by omega))) (vr 3) (ClX.pe_cmeth (pe_glob (v := .ref (He.ga K "Type")) (by rfl) T.g_Type rfl) T.cr_Type T.cm_Type_read R_Type_read (hr.mono (by omega)) pass0 (pa_cons (vr 4) pa_nil)) (nomark _)) (pe_cmpR (ksame K hr.units) (vr 2) (vr 4) (nomark _)) (nomark _))))) (pss_one (ps_ret pe_bl)) pss_nil)))
      (pss_one (ps_for PassesOwn.never rfl (ilist K (pe_lst (pa_cons pe_non (pa_cons pe_int (pa_cons pe_str (pa_cons (vr 2) (pa_cons (pe_tup (pa_cons (vr 2) pa_nil)) (pa_cons (pe_lst (pa_cons (vr 3) pa_nil)) (pa_cons pe_dnewK (pa_cons pe_bl pa_nil)))))))))) (pg_name (i := 5) sc__law_right.nd rfl (by first | exact .inl rfl | exact .inr rfl)) (pss_one (sif (PW.pt (wor (tcmp (op_eqA K G_Type___eq__ T.ow_Type___eq__ (b_Type___eq__ T) (hr.mono (by omega))) (vr 3) (vr 5) (nomark _)) (pw_or1 (pt_not (tcmp (op_neA K G_Type___eq__ T.ow_Type___eq__ T.ne_Type (b_Type___eq__ T) (hr.mono (by omega))) (vr 3) (vr 5) (nomark _)))))) (pss_one (ps_ret pe_bl)) pss_nil)))))))
      (pss_one (ps_ret pe_bl))))), ?_⟩)
  obtain ⟨a, rfl, hp, q⟩ := h
  rw [st__law_right]
  refine ⟨6, rfl, by decide, by decide, fun D nD => ?_⟩
  refine lcr (fr_keep (hp.ne nD)) (fun _ v _ => ∃ f, v = rowV f ∧ Drn 3 f) hp nD (by decide) (fun _ _ _ _ h _ => h) (fun _ => rfl) (fun i H1 hi p1 k1 => ?_) (fun H1 ys p1 k1 l1 e1 q1 => ?_)
  · refine ⟨rfl, p1, fun fv f H2 hf drn p2 k2 => ⟨fv, f, rfl, hf, drn.dep, Nat.le_trans drn.len (by decide), fun z H3 s3 ez => ?_⟩⟩
    subst ez
    exact ⟨p2.same s3, k2.trans (keep_of s3), f, rfl, drn⟩
  obtain ⟨gs, rfl, hg⟩ := rows_are q1
  have ones : ∀ f ∈ gs, OneOk f := fun f hf => drn_one (hg f hf)
  rw [List.length_map] at l1
  clear q1
  simp only [gName, List.set_cons_succ, List.set_cons_zero]
  refine ⟨D, rfl, ⟨_, sqL_of e1⟩, fun D2 nD2 => ?_⟩
  refine lcl (xs := gs.map rowV) fr_same (fun _ v _ => v = .bl true) trivial nD2 (by rw [List.length_map]; omega) (fun H2 _ s2 => sqL_of (s2 _ _ e1)) (fun _ _ _ _ h _ => h) (fun _ => rfl) (fun i x H2 hx _ s2 => ?_) (fun H2 ys2 _ s2 l2 e2 q2 => ?_)
  · rw [List.getElem?_map] at hx
    obtain ⟨f, hf, rfl⟩ := Option.map_eq_some_iff.mp hx
    exact ⟨f, rfl, ones f (List.mem_of_getElem? hf), fun H3 s3 => ⟨trivial, s3, rfl⟩⟩
  obtain ⟨bs2, rfl, hb2⟩ := bls_true q2
  refine ⟨_, bs2, rfl, sqL_of e2, ?_⟩
  rw [hb2]
  have hD2 := s2 _ _ e1
  have p2 := p1.same s2
  have K2 : Keep a H H2 := k1.trans (keep_of s2)
  clear e2 hb2 q2 l2 nD2 s2
  refine ⟨D, rfl, ⟨_, sqL_of hD2⟩, ?_⟩
  refine for_it (walk_list (xs := gs.map rowV)) (fun i σ H' => Same H2 H' ∧ ∃ y2 y3 y4 y5 y6 y7, σ = [some (.ref a), some (.ref D), y2, y3, y4, y5, y6, y7]) ⟨Same.refl _, _, _, _, _, _, _, rfl⟩ (fun i σ H' _ pv => sqL_of (pv.1 _ _ hD2)) (fun i v σ H3 H3' hi pv hy => ?_) (fun σ H3 pv => ?_)
  · obtain ⟨s3, y2, y3, y4, y5, y6, y7, rfl⟩ := pv
    obtain ⟨rfl, hx⟩ := hy
    rw [List.getElem?_map] at hx
    obtain ⟨f, hf, rfl⟩ := Option.map_eq_some_iff.mp hx
    obtain ⟨gd, hd, hl⟩ := ones f (List.mem_of_getElem? hf)
    dsimp only [gName]
    simp only [List.set_cons_succ, List.set_cons_zero]
    refine ⟨rfl, _, _, f, rfl, rfl, by rw [mk_len]; omega, form_back gd, fun x H4 s4 _ o => ?_⟩
    simp only [gName, List.set_cons_succ, List.set_cons_zero]
    have s24 := s3.trans s4
    have hD4 := s24 _ _ hD2
    refine ⟨D, rfl, ⟨_, sqL_of hD4⟩, ?_⟩
    refine for_it (walk_list (xs := gs.map rowV)) (fun j σ H' => Same H4 H' ∧ ∃ y4 y5 y6 y7, σ = [some (.ref a), some (.ref D), some (rowV f), some (.ref x), y4, y5, y6, y7]) ⟨Same.refl _, _, _, _, _, rfl⟩ (fun j σ H' _ pv => sqL_of (pv.1 _ _ hD4)) (fun j v2 σ H5 H5' hj pv hy => ?_) (fun σ H5 pv => ?_)
    · obtain ⟨s5, y4, y5, y6, y7, rfl⟩ := pv
      obtain ⟨rfl, hx2⟩ := hy
      rw [List.getElem?_map] at hx2
      obtain ⟨g, hg2, rfl⟩ := Option.map_eq_some_iff.mp hx2
      obtain ⟨gd2, hd2, hl2⟩ := ones g (List.mem_of_getElem? hg2)
      dsimp only [gName]
      simp only [List.set_cons_succ, List.set_cons_zero]
      have o5 := o.same s5
      refine ⟨rfl, _, _, g, rfl, rfl, by rw [mk_len]; omega, form_back gd2, fun x2 H6 s6 _ o6 => ?_⟩
      have o56 := o5.same s6
      by_cases e : f = g
      · subst e
        refine ⟨obj_ins o56, obj_any o6, x, _, f, rfl, o56, hd, .inl ⟨x2, f, rfl, o6, hd2, fun _ => ?_, fun h => absurd rfl h⟩⟩
        refine brF (by simp) ?_
        refine ⟨rfl, _, _, f, rfl, rfl, by rw [mk_len]; omega, form_back gd2, fun x3 H7 s7 _ o7 => ?_⟩
        have o57 := o56.same s7
        refine ⟨obj_ins o57, obj_any o7, x, _, f, rfl, o57, hd, .inl ⟨x3, f, rfl, o7, hd2, fun _ => ?_, fun h => absurd rfl h⟩⟩
        refine brF (by simp) ?_
        exact ⟨s5.trans (s6.trans s7), _, _, _, _, rfl⟩
      · have ne : ¬ (mkS (fT f) = mkS (fT g)) := fun h => e (row_eq gd gd2 h)
        refine ⟨obj_ins o56, obj_any o6, x, _, f, rfl, o56, hd, .inl ⟨x2, g, rfl, o6, hd2, fun h => absurd h e, fun _ => ?_⟩⟩
        refine brF (by simp [rowV, ne]) ?_
        refine ⟨rfl, _, _, g, rfl, rfl, by rw [mk_len]; omega, form_back gd2, fun x3 H7 s7 _ o7 => ?_⟩
        have o57 := o56.same s7
        refine ⟨obj_ins o57, obj_any o7, x, _, f, rfl, o57, hd, .inl ⟨x3, g, rfl, o7, hd2, fun h => absurd h e, fun _ => ?_⟩⟩
        refine brF (by simp [rowV, ne]) ?_
        exact ⟨s5.trans (s6.trans s7), _, _, _, _, rfl⟩
    · obtain ⟨s5, y4, y5, y6, y7, rfl⟩ := pv
      have o5 := o.same s5
      refine ⟨Nat.le_of_ble_eq_true rfl, fun t1 n1 => ?_⟩
      generalize g6 : upd _ t1 _ = H6
      obtain ⟨s6, h6, _⟩ := lay_of' g6 n1
      clear g6 n1
      refine ⟨Nat.le_of_ble_eq_true rfl, fun l1' n2 => ?_⟩
      generalize g7 : upd _ l1' _ = H7
      obtain ⟨s7, h7, _⟩ := lay_of' g7 n2
      clear g7 n2
      intro d1 n3
      generalize g8 : upd _ d1 _ = H8
      obtain ⟨s8, h8, _⟩ := lay_of' g8 n3
      clear g8 n3
      refine ⟨Nat.le_of_ble_eq_true rfl, fun L nL => ?_⟩
      generalize g9 : upd _ L _ = H9
      obtain ⟨s9, h9, _⟩ := lay_of' g9 nL
      clear g9 nL
      have s59 := ((s6.trans s7).trans s8).trans s9
      have kinds : ∀ v ∈ [V.non, .int 0, .str "", rowV f, .ref t1, .ref l1', .ref d1, .bl true], ∃ t ∈ sevenT, TyX K H9 v (.type t) := fun v hv => by
        simp only [List.mem_cons, List.mem_nil_iff, or_false] at hv
        rcases hv with rfl | rfl | rfl | rfl | rfl | rfl | rfl | rfl
        · exact ⟨"NoneType", by simp [sevenT], .base .non⟩
        · exact ⟨"int", by simp [sevenT], .base (.int _)⟩
        · exact ⟨"str", by simp [sevenT], .base (.str _)⟩
        · exact ⟨"str", by simp [sevenT], .base (.str _)⟩
        · exact ⟨"tuple", by simp [sevenT], .base (.tup (((s7.trans s8).trans s9) _ _ h6))⟩
        · exact ⟨"list", by simp [sevenT], .base (.lst ((s8.trans s9) _ _ h7))⟩
        · exact ⟨"dict", by simp [sevenT], .base (.dK (s9 _ _ h8))⟩
        · exact ⟨"bool", by simp [sevenT], .base (.bl _)⟩
      have o9 := o5.same s59
      refine ⟨L, rfl, ⟨_, sqL_of h9⟩, ?_⟩
      refine for_it (walk_list (xs := [V.non, .int 0, .str "", rowV f, .ref t1, .ref l1', .ref d1, .bl true])) (fun j σ H' => H' = H9 ∧ ∃ y4 y5 y6 y7, σ = [some (.ref a), some (.ref D), some (rowV f), some (.ref x), y4, y5, y6, y7]) ⟨rfl, _, _, _, _, rfl⟩ (fun j σ H' _ pv => by rw [pv.1]; exact sqL_of h9) (fun j v2 σ HA HA' hj pv hy => ?_) (fun σ HA pv => ?_)
      · obtain ⟨rfl, z4, z5, z6, z7, rfl⟩ := pv
        obtain ⟨rfl, hx2⟩ := hy
        obtain ⟨t, ht, ty⟩ := kinds v2 (List.mem_of_getElem? hx2)
        dsimp only [gName]
        simp only [List.set_cons_succ, List.set_cons_zero]
        have an : AnyT K (He.ga K "Type") HA' v2 := .inr ⟨t, ty, (T.st_Type t ht).2⟩
        refine ⟨obj_ins o9, an, x, _, f, rfl, o9, hd, .inr ⟨t, ht, ty, ?_⟩⟩
        refine ⟨obj_ins o9, an, x, _, f, rfl, o9, hd, .inr ⟨t, ht, ty, ?_⟩⟩
        exact ⟨rfl, _, _, _, _, rfl⟩
      · obtain ⟨rfl, z4, z5, z6, z7, rfl⟩ := pv
        exact ⟨s24.trans (s5.trans s59), _, _, _, _, _, _, rfl⟩
  · exact q _ (p2.same pv.1) (K2.trans (keep_of pv.1))
end
end Sk
/-! Sk: _law_type_right: a Type against a form, with all its parts -/
namespace Sk
open PySem PySem.Spec PyProof.Rows L2
theorem dp_strs {K : Fg} {H : Hp} : ∀ zs : List Str, DpAll K H (zs.map V.str) (zs.map PyData.str)
  | [] => .nil
  | z :: r => .cons (.str z) (dp_strs r)
theorem strs_plain : ∀ zs : List Str, PyData.plainAll (zs.map PyData.str) = true
  | [] => rfl
  | z :: r => strs_plain r
theorem strs_depth : ∀ zs : List Str, PyData.depthAll (zs.map PyData.str) ≤ 1
  | [] => by decide
  | z :: r => Nat.max_le.mpr ⟨Nat.zero_le 1, strs_depth r⟩
theorem strs_eqv : ∀ zs : List Str, PyData.eqvAll (zs.map PyData.str) (zs.map PyData.str) = true
  | [] => by simp only [List.map_nil, PyData.eqvAll]
  | z :: r => by
    have h := str_eqv z
    simp only [List.map_cons, PyData.eqvAll, strs_eqv r, h]
    rfl
theorem strs_shp (zs : List Str) : shp (.list (zs.map PyData.str)) = true := by
  unfold shp
  rw [Bool.and_eq_true]
  refine ⟨strs_plain zs, decide_eq_true ?_⟩
  have := strs_depth zs
  show PyData.depthAll (zs.map PyData.str) + 1 ≤ 64
  omega
theorem atI_at {α : Type} {xs : List α} {i : Nat} (h : i < xs.length) : atI xs (0 + (i : Int)) = some xs[i] := by
  unfold atI ixN
  rw [if_pos (by omega), if_pos (by omega)]
  show xs[(0 + (i : Int)).toNat]? = _
  rw [show (0 + (i : Int)).toNat = i by omega]
  exact List.getElem?_eq_getElem h
theorem drn_rcdl {n : Nat} {fs : List (List Nat × Fm)} (h : Drn n (.rcd fs)) : fs.length ≤ 3 := by
  generalize e : Fm.rcd fs = g at h
  induction h with
  | rcd ne l nm pw d => cases e; exact l
  | up d ih => exact ih e
  | _ => cases e
theorem lst_same {K : Fg} {H : Hp} {a b : Addr} {zs : List Str} {Q : VK} (h : H a = some (.lst (zs.map V.str))) (h' : H b = some (.lst (zs.map V.str))) (q : Q (.bl false) H) : rSame K true (.ref a) (.ref b) H Q := by
  refine ⟨.list (zs.map PyData.str), .list (zs.map PyData.str), .lst (sqL_of h) (dp_strs _), .lst (sqL_of h') (dp_strs _), strs_shp _, strs_shp _, ?_⟩
  have e : (PyData.list (zs.map PyData.str)).eqv (.list (zs.map PyData.str)) = true := by
    rw [PyData.eqv]
    exact strs_eqv _
  rw [e]
  exact q
theorem names_are {fs : List (List Nat × Fm)} {ys : List V} (l : ys.length = fs.length) (h : ∀ (i : Nat) (y : V), ys[i]? = some y → ∃ p, fs[i]? = some p ∧ y = .str (mkS p.1)) : ys = (fs.map fun p => mkS p.1).map V.str := by
  rw [List.map_map]
  exact map_of (f := V.str ∘ fun p : List Nat × Fm => mkS p.1) l h
section
variable {P : Program} {w : World} {K : PySem.W.Frag} {mg : Str → Option Value} {base : Heap}
def sp_tr (n : Nat) : Sp := fun vs H Q _ => ∃ x fv f, vs = [.ref x, fv] ∧ ObjT K H x f ∧ FmV H fv f ∧ f.dep ≤ n ∧ n ≤ 6 ∧ (∃ m, Drn m f) ∧ (fT f).length ≤ 40000 ∧ ∀ H', Same H H' → Q (.bl true) H'
theorem step_tr (T : Top K mg) (n k : Nat) (hk : 16 ≤ k) (spI : Sp) (G__law_type_right : Ok__law_type_right P w base T k spI) (hI : ∀ m, n = m + 1 → spI = sp_tr (K := K) m) : Ok__law_type_right P w base T (k + 1) (sp_tr (K := K) n) := by
  have G_Type_kind : Ok_Type_kind P w base T 1 (sp_kind K) := ok_kind T 0
  have G_Type_key : Ok_Type_key P w base T 1 (sp_key K) := ok_key T 0
  have G_Type_inner : Ok_Type_inner P w base T 3 (sp_inner K) := ok_inner T 0
  have G_Type_fields : Ok_Type_fields P w base T 3 (sp_fieldsG K) := ok_fieldsG T 0
  have G_Type___str__ : Ok_Type___str__ P w base T 14 (sp_strT K) := ok_strT T 0
  have G__law_form_text : Ok__law_form_text P w base T 7 (sp_ftx 6) := ok_ftx T 6
  refine T.F__law_type_right.ok sc__law_type_right (fun vs H Q E h => by obtain ⟨x, fv, f, rfl, _⟩ := h; rfl) (fun cdv A outer s H vs Q E hr h => ⟨_, PSs.nox (pss_cons (sif (PW.pt (wor (pt_not (tst (pe_callB (kis K) (by rfl) T.n_isinstance (by decide +kernel) (pa_cons (vr 0) (pa_cons (pe_glob (v := .ref (He.ga K "Type")) (by rfl) T.g_Type rfl) pa_nil))))) (wor (tcmp (kother K hr.units) (pe_propU (vr 0) T.cls_Type T.pr_Type_kind G_Type_kind (hr.mono (by omega)) (b_Type_kind T)) (pe_ix (kget K) (vr 1) pe_int (fun _ _ => rfl)) (nomark _)) (pw_or1 (tcmp (kother K hr.units) (pe_callTy (call_strO G_Type___str__ T.ow_Type___str__ (b_Type___str__ T) (hr.mono (by omega))) (by rfl) T.n_str (by decide +kernel) (pa_cons (vr 0) pa_nil)) (pe_call G__law_form_text (hr.mono (by omega)) (by rfl) T.g__law_form_text T.F__law_form_text.kp (b__law_form_text T) .nil pass0 (pa_cons (vr 1) pa_nil)) (nomark _)))))) (pss_one (ps_ret pe_bl)) pss_nil)
      (pss_cons (ps_for PassesOwn.never rfl (pi_range1 (by rfl) T.n_range (pa_cons pe_int pa_nil)) (pg_name (i := 2) sc__law_type_right.nd rfl (by first | exact .inl rfl | exact .inr rfl)) (pss_cons (sif (tcmp (kother K hr.units) (pe_propU (vr 0) T.cls_Type T.pr_Type_key G_Type_key (hr.mono (by omega)) (b_Type_key T)) (vif (tcmp (ksame K hr.units) (pe_ix (kget K) (vr 1) pe_int (fun _ _ => rfl)) pe_str (nomark _)) (pe_ix (kget K) (vr 1) pe_int (fun _ _ => rfl)) pe_non) (nomark _)) (pss_one (ps_ret pe_bl)) pss_nil)
      (pss_cons (ps_asg (pe_tup (pa_cons (pe_propU (vr 0) T.cls_Type T.pr_Type_fields G_Type_fields (hr.mono (by omega)) (b_Type_fields T)) (pa_cons (pe_propU (vr 0) T.cls_Type T.pr_Type_inner G_Type_inner (hr.mono (by omega)) (b_Type_inner T)) pa_nil))) (gtup K 2 rfl (gs_cons (pg_name (i := 3) sc__law_type_right.nd rfl (by first | exact .inl rfl | exact .inr rfl)) (gs_cons (pg_name (i := 4) sc__law_type_right.nd rfl (by first | exact .inl rfl | exact .inr rfl)) gs_nil))))
      (pss_cons (sif (tcmp (ksame K hr.units) (pe_ix (kget K) (vr 1) pe_int (fun _ _ => rfl)) pe_str (nomark _)) (pss_cons (sif (PW.pt (wor (pt_not (tst (pe_callB (kis K) (by rfl) T.n_isinstance (by decide +kernel) (pa_cons (vr 3) (pa_cons (pe_bltn (v := .ty "tuple") (by rfl) T.n_tuple (by decide +kernel) rfl) pa_nil))))) (pw_or1 (tcmp (kother K hr.units) (pe_lc (own := [("_law_row", 5)])  rfl sc__law_type_right.nd (itup K (vr 3)) (blkOk_by (own := [("_law_row", 5)]) (N := ["_law_made", "_law_form_here", "_law_turn", "_law_fields", "_law_inner", "_law_row", "_law_k"]) (sc := defScope s__law_type_right) (by decide +kernel)) (fun _ _ _ _ _ => (pg_name (i := 5) sc__law_type_right.nd rfl (by first | exact .inl rfl | exact .inr rfl))) (fun _ _ _ _ _ => pts_nil) (fun _ _ _ _ _ => up (pe_ix (kget K) (vr 5) pe_int (fun _ _ => rfl)))) (pe_lc (own := [("_law_row", 5)])  rfl sc__law_type_right.nd (itup K (pe_ix (kget K) (vr 1) pe_int (fun _ _ => rfl))) (blkOk_by (own := [("_law_row", 5)]) (N := ["_law_made", "_law_form_here", "_law_turn", "_law_fields", "_law_inner", "_law_row", "_law_k"]) (sc := defScope s__law_type_right) (by decide +kernel)) (fun _ _ _ _ _ => (pg_name (i := 5) sc__law_type_right.nd rfl (by first | exact .inl rfl | exact .inr rfl))) (fun _ _ _ _ _ => pts_nil) (fun _ _ _ _ _ => up (pe_ix (kget K) (vr 5) pe_int (fun _ _ => rfl)))) (nomark _))))) (pss_one (ps_ret pe_bl)) pss_nil)
      (pss_cons (sif (pt_not (tst (pe_callB (kall K rfl) (by rfl) T.n_all (by decide +kernel) (pa_cons (pe_lc (own := [("_law_row", 5)])  rfl sc__law_type_right.nd (itup K (vr 3)) (blkOk_by (own := [("_law_row", 5)]) (N := ["_law_made", "_law_form_here", "_law_turn", "_law_fields", "_law_inner", "_law_row", "_law_k"]) (sc := defScope s__law_type_right) (by decide +kernel)) (fun _ _ _ _ _ => (pg_name (i := 5) sc__law_type_right.nd rfl (by first | exact .inl rfl | exact .inr rfl))) (fun _ _ _ _ _ => pts_nil) (fun _ _ _ _ _ => up (vand (pe_callB (kis K) (by rfl) T.n_isinstance (by decide +kernel) (pa_cons (vr 5) (pa_cons (pe_bltn (v := .ty "tuple") (by rfl) T.n_tuple (by decide +kernel) rfl) pa_nil))) (pe_one (pe_cmpR (ksame K hr.units) (pe_callB (klen K) (by rfl) T.n_len (by decide +kernel) (pa_cons (vr 5) pa_nil)) pe_int (nomark _)))))) pa_nil)))) (pss_one (ps_ret pe_bl)) pss_nil)
      (pss_one (sif (pt_not (tst (pe_callB (kall K rfl) (by rfl) T.n_all (by decide +kernel) (pa_cons (pe_lc (own := [("_law_k", 6)])  rfl sc__law_type_right.nd (pi_range1 (by rfl) T.n_range (pa_cons (pe_callB (klen K) (by rfl) T.n_len (by decide +kernel) (pa_cons (vr 3) pa_nil)) pa_nil)) (blkOk_by (own := [("_law_k", 6)]) (N := ["_law_made", "_law_form_here", "_law_turn", "_law_fields", "_law_inner", "_law_row", "_law_k"]) (sc := defScope s__law_type_right) (by decide +kernel)) (fun _ _ _ _ _ => (pg_name (i := 6) sc__law_type_right.nd rfl (by first | exact .inl rfl | exact .inr rfl))) (fun _ _ _ _ _ => pts_nil) (fun _ _ _ _ _ => up (pe_call G__law_type_right (hr.mono (by omega)) (by rfl) T.g__law_type_right T.F__law_type_right.kp (b__law_type_right T) .nil pass0 (pa_cons (pe_ix (kget K) (pe_ix (kget K) (vr 3) (vr 6) (fun _ _ => rfl)) pe_int (fun _ _ => rfl)) (pa_cons (pe_ix (kget K) (pe_ix (kget K) (pe_ix (kget K) (vr 1) pe_int (fun _ _ => rfl)) (vr 6) (fun _ _ => rfl)) pe_int (fun _ _ => rfl)) pa_nil))))) pa_nil)))) (pss_one (ps_ret pe_bl)) pss_nil)))) (pss_one (sif (tcmp (kneT K hr.units) (vr 3) (pe_tup pa_nil) (nomark _)) (pss_one (ps_ret pe_bl)) pss_nil)))
      (pss_one (sif (tcmp (kin K) (pe_ix (kget K) (vr 1) pe_int (fun _ _ => rfl)) (pe_lst (pa_cons pe_str (pa_cons pe_str (pa_cons pe_str pa_nil)))) (by rfl)) (pss_one (sif (pt_not (tst (pe_call G__law_type_right (hr.mono (by omega)) (by rfl) T.g__law_type_right T.F__law_type_right.kp (b__law_type_right T) .nil pass0 (pa_cons (vr 4) (pa_cons (pe_ix (kget K) (vr 1) pe_int (fun _ _ => rfl)) pa_nil))))) (pss_one (ps_ret pe_bl)) pss_nil)) (pss_one (sif (tcmp op_notNo (vr 4) pe_non (nomark _)) (pss_one (ps_ret pe_bl)) pss_nil))))))))
      (pss_one (ps_ret pe_bl)))), ?_⟩)
  obtain ⟨x, fv, f, rfl, o, hf, hd, n6, ⟨m0, drn⟩, hl, q⟩ := h
  rw [st__law_type_right]
  obtain ⟨b, r0, rfl, hb⟩ := fm_headZ hf
  have o0 := o
  obtain ⟨dx, t, hx, ht⟩ := o0
  refine .inl ⟨_, _, _, _, true, rfl, .own _, .base (.ins hx T.cls_Type T.ne_Type.cc T.ne_Type.cg T.ne_Type.ct T.ne_Type.ob), ?_, ?_⟩
  · unfold PySem.W.kitOne
    rw [if_pos (by simp)]
  refine ⟨obj_ins o, x, f, rfl, o, ?_⟩
  refine ⟨_, _, .inr (sqT_of hb), at0' _ _, ?_⟩
  refine brF (by simp) ?_
  refine ⟨obj_ins o, x, f, rfl, o, by omega, by omega, fun H1 s1 => ?_⟩
  refine ⟨_, f, rfl, hf.on (tupS_of s1), by omega, by omega, fun z H2 s2 ez => ?_⟩
  subst ez
  refine brF (by simp) ?_
  have s12 := s1.trans s2
  refine ⟨2, rfl, by decide, by decide, ?_⟩
  refine for_range (n := 2) (fun i σ H' => Same H H' ∧ ∃ y2 y3 y4 y5 y6, σ = [some (.ref x), some (.ref b), y2, y3, y4, y5, y6]) ⟨s12, _, _, _, _, _, rfl⟩ (fun i σ H3 hi hv => ?_) (fun σ H3 hv => ?_)
  · obtain ⟨s3, y2, y3, y4, y5, y6, rfl⟩ := hv
    simp only [List.set_cons_succ, List.set_cons_zero]
    have o3 := o.same s3
    have hf3 := hf.on (tupS_of s3)
    refine ⟨obj_ins o3, x, f, rfl, o3, ?_⟩
    have nokey : (!decide (V.non = V.non)) = false := rfl
    cases id hf3 with
    | text h =>
      refine ⟨_, _, .inr (sqT_of h), rfl, ?_⟩
      refine ⟨obj_ins o3, x, _, rfl, o3, by show 0 ≤ 3; decide, fun tf ps H4 s4 h4 lps fo => ?_⟩
      have o4 := o3.same s4
      refine ⟨obj_ins o4, x, _, rfl, o4, (fun _ H5 s5 => ?_), (fun g hg => by cases hg)⟩
      refine ⟨Nat.le_of_ble_eq_true rfl, fun t6 n6' => ?_⟩
      generalize g6 : upd _ t6 _ = H6
      obtain ⟨s6, h6, _⟩ := lay_of' g6 n6'
      clear g6 n6'
      refine ⟨t6, _, rfl, sqT_of h6, rfl, ?_⟩
      dsimp only [uCons, uNil, gName]
      simp only [List.set_cons_succ, List.set_cons_zero]
      have s36 := (s4.trans s5).trans s6
      refine ⟨_, _, .inr (sqT_of (s36 _ _ h)), rfl, ?_⟩
      refine ⟨Nat.le_of_ble_eq_true rfl, fun t7 n7 => ?_⟩
      generalize g7 : upd _ t7 _ = H7
      obtain ⟨s7, h7, _⟩ := lay_of' g7 n7
      clear g7 n7
      obtain rfl : ps = [] := List.eq_nil_of_length_eq_zero lps
      refine ⟨[], sqT_of (((s5.trans s6).trans s7) _ _ h4), sqT_of h7, ?_⟩
      refine ⟨_, _, .inr (sqT_of ((s36.trans s7) _ _ h)), rfl, Nat.le_of_ble_eq_true rfl, fun t8 n8 => ⟨_, .inl (sqL_of upd_same), rfl, rfl, ?_⟩⟩
      exact ⟨s3.trans ((s36.trans s7).trans (same_new n8)), _, _, _, _, _, rfl⟩
    | number h =>
      refine ⟨_, _, .inr (sqT_of h), rfl, ?_⟩
      refine ⟨obj_ins o3, x, _, rfl, o3, by show 0 ≤ 3; decide, fun tf ps H4 s4 h4 lps fo => ?_⟩
      have o4 := o3.same s4
      refine ⟨obj_ins o4, x, _, rfl, o4, (fun _ H5 s5 => ?_), (fun g hg => by cases hg)⟩
      refine ⟨Nat.le_of_ble_eq_true rfl, fun t6 n6' => ?_⟩
      generalize g6 : upd _ t6 _ = H6
      obtain ⟨s6, h6, _⟩ := lay_of' g6 n6'
      clear g6 n6'
      refine ⟨t6, _, rfl, sqT_of h6, rfl, ?_⟩
      dsimp only [uCons, uNil, gName]
      simp only [List.set_cons_succ, List.set_cons_zero]
      have s36 := (s4.trans s5).trans s6
      refine ⟨_, _, .inr (sqT_of (s36 _ _ h)), rfl, ?_⟩
      refine ⟨Nat.le_of_ble_eq_true rfl, fun t7 n7 => ?_⟩
      generalize g7 : upd _ t7 _ = H7
      obtain ⟨s7, h7, _⟩ := lay_of' g7 n7
      clear g7 n7
      obtain rfl : ps = [] := List.eq_nil_of_length_eq_zero lps
      refine ⟨[], sqT_of (((s5.trans s6).trans s7) _ _ h4), sqT_of h7, ?_⟩
      refine ⟨_, _, .inr (sqT_of ((s36.trans s7) _ _ h)), rfl, Nat.le_of_ble_eq_true rfl, fun t8 n8 => ⟨_, .inl (sqL_of upd_same), rfl, rfl, ?_⟩⟩
      exact ⟨s3.trans ((s36.trans s7).trans (same_new n8)), _, _, _, _, _, rfl⟩
    | flag h =>
      refine ⟨_, _, .inr (sqT_of h), rfl, ?_⟩
      refine ⟨obj_ins o3, x, _, rfl, o3, by show 0 ≤ 3; decide, fun tf ps H4 s4 h4 lps fo => ?_⟩
      have o4 := o3.same s4
      refine ⟨obj_ins o4, x, _, rfl, o4, (fun _ H5 s5 => ?_), (fun g hg => by cases hg)⟩
      refine ⟨Nat.le_of_ble_eq_true rfl, fun t6 n6' => ?_⟩
      generalize g6 : upd _ t6 _ = H6
      obtain ⟨s6, h6, _⟩ := lay_of' g6 n6'
      clear g6 n6'
      refine ⟨t6, _, rfl, sqT_of h6, rfl, ?_⟩
      dsimp only [uCons, uNil, gName]
      simp only [List.set_cons_succ, List.set_cons_zero]
      have s36 := (s4.trans s5).trans s6
      refine ⟨_, _, .inr (sqT_of (s36 _ _ h)), rfl, ?_⟩
      refine ⟨Nat.le_of_ble_eq_true rfl, fun t7 n7 => ?_⟩
      generalize g7 : upd _ t7 _ = H7
      obtain ⟨s7, h7, _⟩ := lay_of' g7 n7
      clear g7 n7
      obtain rfl : ps = [] := List.eq_nil_of_length_eq_zero lps
      refine ⟨[], sqT_of (((s5.trans s6).trans s7) _ _ h4), sqT_of h7, ?_⟩
      refine ⟨_, _, .inr (sqT_of ((s36.trans s7) _ _ h)), rfl, Nat.le_of_ble_eq_true rfl, fun t8 n8 => ⟨_, .inl (sqL_of upd_same), rfl, rfl, ?_⟩⟩
      exact ⟨s3.trans ((s36.trans s7).trans (same_new n8)), _, _, _, _, _, rfl⟩
    | @opt _ x1 f1 h hx1 =>
      obtain ⟨m, rfl⟩ : ∃ m, n = m + 1 := ⟨n - 1, by have : f1.dep + 1 ≤ n := hd; omega⟩
      have hd : f1.dep + 1 ≤ m + 1 := hd
      obtain rfl := hI m rfl
      have hl1 : (fT f1).length ≤ 40000 := by
        rw [fT] at hl
        simp only [List.length_cons, List.length_append] at hl
        omega
      refine ⟨_, _, .inr (sqT_of h), rfl, ?_⟩
      refine ⟨obj_ins o3, x, _, rfl, o3, by show 0 ≤ 3; decide, fun tf ps H4 s4 h4 lps fo => ?_⟩
      have o4 := o3.same s4
      refine ⟨obj_ins o4, x, _, rfl, o4, (fun e => by cases e), (fun g hg yy H5 s5 o5 => ?_)⟩
      cases hg
      refine ⟨Nat.le_of_ble_eq_true rfl, fun t6 n6' => ?_⟩
      generalize g6 : upd _ t6 _ = H6
      obtain ⟨s6, h6, _⟩ := lay_of' g6 n6'
      clear g6 n6'
      refine ⟨t6, _, rfl, sqT_of h6, rfl, ?_⟩
      dsimp only [uCons, uNil, gName]
      simp only [List.set_cons_succ, List.set_cons_zero]
      have s36 := (s4.trans s5).trans s6
      refine ⟨_, _, .inr (sqT_of (s36 _ _ h)), rfl, ?_⟩
      refine ⟨Nat.le_of_ble_eq_true rfl, fun t7 n7 => ?_⟩
      generalize g7 : upd _ t7 _ = H7
      obtain ⟨s7, h7, _⟩ := lay_of' g7 n7
      clear g7 n7
      obtain rfl : ps = [] := List.eq_nil_of_length_eq_zero lps
      refine ⟨[], sqT_of (((s5.trans s6).trans s7) _ _ h4), sqT_of h7, ?_⟩
      refine ⟨_, _, .inr (sqT_of ((s36.trans s7) _ _ h)), rfl, Nat.le_of_ble_eq_true rfl, fun t8 n8 => ⟨_, .inl (sqL_of upd_same), rfl, rfl, ?_⟩⟩
      generalize g8 : upd _ t8 _ = H8
      obtain ⟨s8, _, _⟩ := lay_of' g8 n8
      clear g8 n8
      have s38 := (s36.trans s7).trans s8
      refine ⟨_, x1, .inr (sqT_of (s38 _ _ h)), rfl, yy, x1, f1, rfl, o5.same ((s6.trans s7).trans s8), hx1.on (tupS_of s38), by omega, by omega, (drn_opt drn).2, hl1, fun H9 s9 => ?_⟩
      exact ⟨s3.trans (s38.trans s9), _, _, _, _, _, rfl⟩
    | @list _ x1 f1 h hx1 =>
      obtain ⟨m, rfl⟩ : ∃ m, n = m + 1 := ⟨n - 1, by have : f1.dep + 1 ≤ n := hd; omega⟩
      have hd : f1.dep + 1 ≤ m + 1 := hd
      obtain rfl := hI m rfl
      have hl1 : (fT f1).length ≤ 40000 := by
        rw [fT] at hl
        simp only [List.length_cons, List.length_append] at hl
        omega
      refine ⟨_, _, .inr (sqT_of h), rfl, ?_⟩
      refine ⟨obj_ins o3, x, _, rfl, o3, by show 0 ≤ 3; decide, fun tf ps H4 s4 h4 lps fo => ?_⟩
      have o4 := o3.same s4
      refine ⟨obj_ins o4, x, _, rfl, o4, (fun e => by cases e), (fun g hg yy H5 s5 o5 => ?_)⟩
      cases hg
      refine ⟨Nat.le_of_ble_eq_true rfl, fun t6 n6' => ?_⟩
      generalize g6 : upd _ t6 _ = H6
      obtain ⟨s6, h6, _⟩ := lay_of' g6 n6'
      clear g6 n6'
      refine ⟨t6, _, rfl, sqT_of h6, rfl, ?_⟩
      dsimp only [uCons, uNil, gName]
      simp only [List.set_cons_succ, List.set_cons_zero]
      have s36 := (s4.trans s5).trans s6
      refine ⟨_, _, .inr (sqT_of (s36 _ _ h)), rfl, ?_⟩
      refine ⟨Nat.le_of_ble_eq_true rfl, fun t7 n7 => ?_⟩
      generalize g7 : upd _ t7 _ = H7
      obtain ⟨s7, h7, _⟩ := lay_of' g7 n7
      clear g7 n7
      obtain rfl : ps = [] := List.eq_nil_of_length_eq_zero lps
      refine ⟨[], sqT_of (((s5.trans s6).trans s7) _ _ h4), sqT_of h7, ?_⟩
      refine ⟨_, _, .inr (sqT_of ((s36.trans s7) _ _ h)), rfl, Nat.le_of_ble_eq_true rfl, fun t8 n8 => ⟨_, .inl (sqL_of upd_same), rfl, rfl, ?_⟩⟩
      generalize g8 : upd _ t8 _ = H8
      obtain ⟨s8, _, _⟩ := lay_of' g8 n8
      clear g8 n8
      have s38 := (s36.trans s7).trans s8
      refine ⟨_, x1, .inr (sqT_of (s38 _ _ h)), rfl, yy, x1, f1, rfl, o5.same ((s6.trans s7).trans s8), hx1.on (tupS_of s38), by omega, by omega, drn_list drn, hl1, fun H9 s9 => ?_⟩
      exact ⟨s3.trans (s38.trans s9), _, _, _, _, _, rfl⟩
    | @keyed _ x1 f1 kw h hx1 =>
      obtain ⟨m, rfl⟩ : ∃ m, n = m + 1 := ⟨n - 1, by have : f1.dep + 1 ≤ n := hd; omega⟩
      have hd : f1.dep + 1 ≤ m + 1 := hd
      obtain rfl := hI m rfl
      have hl1 : (fT f1).length ≤ 40000 := by
        rw [fT] at hl
        simp only [List.length_cons, List.length_append] at hl
        omega
      refine ⟨_, _, .inr (sqT_of h), rfl, _, _, .inr (sqT_of h), rfl, brF (by simp [keyF]) (?_)⟩
      refine ⟨obj_ins o3, x, _, rfl, o3, by show 0 ≤ 3; decide, fun tf ps H4 s4 h4 lps fo => ?_⟩
      have o4 := o3.same s4
      refine ⟨obj_ins o4, x, _, rfl, o4, (fun e => by cases e), (fun g hg yy H5 s5 o5 => ?_)⟩
      cases hg
      refine ⟨Nat.le_of_ble_eq_true rfl, fun t6 n6' => ?_⟩
      generalize g6 : upd _ t6 _ = H6
      obtain ⟨s6, h6, _⟩ := lay_of' g6 n6'
      clear g6 n6'
      refine ⟨t6, _, rfl, sqT_of h6, rfl, ?_⟩
      dsimp only [uCons, uNil, gName]
      simp only [List.set_cons_succ, List.set_cons_zero]
      have s36 := (s4.trans s5).trans s6
      refine ⟨_, _, .inr (sqT_of (s36 _ _ h)), rfl, ?_⟩
      refine ⟨Nat.le_of_ble_eq_true rfl, fun t7 n7 => ?_⟩
      generalize g7 : upd _ t7 _ = H7
      obtain ⟨s7, h7, _⟩ := lay_of' g7 n7
      clear g7 n7
      obtain rfl : ps = [] := List.eq_nil_of_length_eq_zero lps
      refine ⟨[], sqT_of (((s5.trans s6).trans s7) _ _ h4), sqT_of h7, ?_⟩
      refine ⟨_, _, .inr (sqT_of ((s36.trans s7) _ _ h)), rfl, Nat.le_of_ble_eq_true rfl, fun t8 n8 => ⟨_, .inl (sqL_of upd_same), rfl, rfl, ?_⟩⟩
      generalize g8 : upd _ t8 _ = H8
      obtain ⟨s8, _, _⟩ := lay_of' g8 n8
      clear g8 n8
      have s38 := (s36.trans s7).trans s8
      refine ⟨_, x1, .inr (sqT_of (s38 _ _ h)), rfl, yy, x1, f1, rfl, o5.same ((s6.trans s7).trans s8), hx1.on (tupS_of s38), by omega, by omega, drn_keyed drn, hl1, fun H9 s9 => ?_⟩
      exact ⟨s3.trans (s38.trans s9), _, _, _, _, _, rfl⟩
    | @rcd _ r pv fs h hr' hfs =>
      obtain ⟨m, rfl⟩ : ∃ m, n = m + 1 := ⟨n - 1, by have : depFs fs + 1 ≤ n := hd; omega⟩
      have hd : depFs fs + 1 ≤ m + 1 := hd
      obtain rfl := hI m rfl
      have l3 := drn_rcdl drn
      have len := hfs.length
      refine ⟨_, _, .inr (sqT_of h), rfl, ?_⟩
      refine ⟨obj_ins o3, x, _, rfl, o3, l3, fun tf ps H4 s4 h4 lps fo => ?_⟩
      have lps : ps.length = fs.length := lps
      have o4 := o3.same s4
      refine ⟨obj_ins o4, x, _, rfl, o4, (fun _ H5 s5 => ?_), (fun g hg => by cases hg)⟩
      refine ⟨Nat.le_of_ble_eq_true rfl, fun t6 n6' => ?_⟩
      generalize g6 : upd _ t6 _ = H6
      obtain ⟨s6, h6, _⟩ := lay_of' g6 n6'
      clear g6 n6'
      refine ⟨t6, _, rfl, sqT_of h6, rfl, ?_⟩
      dsimp only [uCons, uNil, gName]
      simp only [List.set_cons_succ, List.set_cons_zero]
      have s46 := s5.trans s6
      have s36 := s4.trans s46
      have fo6 : ∀ (i : Nat) v, ps[i]? = some v → FldO K fs i v H6 := fun i v hv => (fo i v hv).stay (stay_of s46)
      have h46 := s46 _ _ h4
      refine ⟨_, _, .inr (sqT_of (s36 _ _ h)), rfl, ?_⟩
      refine ⟨_, _, .base (.tup h46), rfl, tf, rfl, ⟨_, sqT_of h46⟩, fun D nD => ?_⟩
      refine lct (xs := ps) fr_same (fun i v _ => ∃ p, fs[i]? = some p ∧ v = .str (mkS p.1)) trivial nD (by omega) (fun H7 _ s7 => sqT_of (s7 _ _ h46)) (fun _ _ _ _ h _ => h) (fun _ => rfl) (fun i v H7 hv _ s7 => ?_) (fun H7 ys _ s7 l7 e7 q7 => ?_)
      · obtain ⟨c, y, nn, g, rfl, e2, hc, oy⟩ := fo6 i v hv
        exact ⟨_, _, .inr (sqT_of (s7 _ _ hc)), rfl, trivial, Same.refl _, _, e2, rfl⟩
      have ey := names_are (l7.trans lps) q7
      subst ey
      have s37 := s36.trans s7
      have hr7 := s37 _ _ hr'
      refine ⟨_, _, .inr (sqT_of (s37 _ _ h)), rfl, r, rfl, ⟨_, sqT_of hr7⟩, fun D2 nD2 => ?_⟩
      refine lct (xs := pv) fr_same (fun i v _ => ∃ p, fs[i]? = some p ∧ v = .str (mkS p.1)) trivial nD2 (by omega) (fun H8 _ s8 => sqT_of (s8 _ _ hr7)) (fun _ _ _ _ h _ => h) (fun _ => rfl) (fun i v H8 hv _ s8 => ?_) (fun H8 ys2 _ s8 l8 e8 q8 => ?_)
      · obtain ⟨c, g, nn, f1, rfl, e2, h2, hg⟩ := hfs.at i v hv
        exact ⟨_, _, .inr (sqT_of ((s37.trans s8) _ _ h2)), rfl, trivial, Same.refl _, _, e2, rfl⟩
      have ey := names_are (l8.trans len) q8
      subst ey
      refine lst_same (s8 _ _ e7) e8 ?_
      have s68 := s7.trans s8
      have h48 := s68 _ _ h46
      clear e7 e8 q7 q8 l7 l8 nD nD2
      refine ⟨tf, rfl, ⟨_, sqT_of h48⟩, fun D3 nD3 => ?_⟩
      refine lct (xs := ps) fr_same (fun _ v _ => v = .bl true) trivial nD3 (by omega) (fun H9 _ s9 => sqT_of (s9 _ _ h48)) (fun _ _ _ _ h _ => h) (fun _ => rfl) (fun i v H9 hv _ s9 => ?_) (fun H9 ys3 _ s9 l9 e9 q9 => ?_)
      · obtain ⟨c, y, nn, g, rfl, e2, hc, oy⟩ := fo6 i v hv
        have hc9 := (s68.trans s9) _ _ hc
        exact ⟨_, _, .base (.tup hc9), rfl, _, .inr (sqT_of hc9), trivial, Same.refl _, rfl⟩
      obtain ⟨bs3, rfl, hb3⟩ := bls_true q9
      refine ⟨_, bs3, rfl, sqL_of e9, ?_⟩
      rw [hb3]
      have s69 := s68.trans s9
      have h49 := s69 _ _ h46
      clear e9 q9 l9 nD3 hb3
      refine ⟨_, .inr (sqT_of h49), _, rfl, by omega, by omega, fun D4 nD4 => ?_⟩
      refine lcr fr_same (fun _ v _ => v = .bl true) trivial nD4 (by omega) (fun _ _ _ _ h _ => h) (fun _ => rfl) (fun i HA hi _ sA => ?_) (fun HA ys4 _ sA lA eA qA => ?_)
      · have hi : i < ps.length := by omega
        have hv : ps[i]? = some ps[i] := List.getElem?_eq_getElem hi
        obtain ⟨c, y, nn, g, ec, e2, hc, oy⟩ := fo6 i _ hv
        have hpv : pv[i]? = some (pv[i]'(by omega)) := List.getElem?_eq_getElem _
        obtain ⟨c2, gv, nn2, f2, ec2, e3, h2, hg⟩ := hfs.at i _ hpv
        rw [e2] at e3
        cases e3
        have s6A := s69.trans sA
        have s3A := s36.trans s6A
        have mem := List.mem_of_getElem? e2
        have dm : g.dep ≤ depFs fs := dep_mem mem
        have rl := row_le mem
        have hl2 : (fT g).length ≤ 40000 := by
          rw [fT] at hl
          simp only [List.length_cons, List.length_append] at hl
          have : (rowT (nn, g)).length = nn.length + (2 + (fT g).length) := by simp [rowT]; omega
          omega
        refine ⟨_, ps[i], .inr (sqT_of (s6A _ _ h46)), atI_at hi, ?_⟩
        rw [ec]
        refine ⟨_, .ref y, .inr (sqT_of (s6A _ _ hc)), rfl, ?_⟩
        refine ⟨_, .ref r, .inr (sqT_of (s3A _ _ h)), rfl, _, pv[i], .inr (sqT_of (s3A _ _ hr')), atI_at (by omega), ?_⟩
        rw [ec2]
        refine ⟨_, gv, .inr (sqT_of (s3A _ _ h2)), rfl, ?_⟩
        exact ⟨y, gv, g, rfl, oy.same s6A, hg.on (tupS_of s3A), by omega, by omega, drn_rcd drn _ mem, hl2, fun HB sB => ⟨trivial, sB, rfl⟩⟩
      obtain ⟨bs4, rfl, hb4⟩ := bls_true qA
      refine ⟨_, bs4, rfl, sqL_of eA, ?_⟩
      rw [hb4]
      have s3A := s36.trans (s69.trans sA)
      refine ⟨_, _, .inr (sqT_of (s3A _ _ h)), rfl, Nat.le_of_ble_eq_true rfl, fun tB nB' => ⟨_, .inl (sqL_of upd_same), rfl, rfl, ?_⟩⟩
      exact ⟨s3.trans (s3A.trans (same_new nB')), _, _, _, _, _, rfl⟩
  · exact q H3 hv.1
theorem no_tr (T : Top K mg) : Ok__law_type_right P w base T 16 (fun _ _ _ _ => False) := ⟨fun _ _ _ _ h => h.elim, fun _ _ _ _ _ _ _ _ _ _ _ _ _ h => h.elim⟩
theorem ok_tr (T : Top K mg) : ∀ n, Ok__law_type_right P w base T (n + 17) (sp_tr (K := K) n)
  | 0 => step_tr T 0 16 (by decide) _ (no_tr T) fun m e => by cases e
  | n + 1 => step_tr T (n + 1) (n + 17) (by omega) _ (ok_tr T n) fun m e => by cases e; rfl
end
end Sk
/-! Sk: _law_right_of_parts; the kinds written by hand -/
namespace Sk
open PySem PySem.Spec PyProof.Rows L2
def lets (cs : List Nat) : List Nat := cs.map (97 + ·)
abbrev lA : List Nat := [97]
abbrev lB : List Nat := [98]
abbrev lC : List Nat := [99]
abbrev lK : List Nat := [107]
abbrev lX : List Nat := [120]
def upF : Nat → (Fm → Fm) → Fm → Fm
  | 0, _, f => f
  | n + 1, g, f => g (upF n g f)
def hand1 : List Fm := [.text, .opt .number, .list .flag, upF 6 .list .text, .rcd [(lA, .text)],
  .opt (.rcd [(lA, .opt (.rcd [(lB, .opt (.rcd [(lC, .opt .number)]))]))]), .opt (.list (.opt .text))]
def hand2 : List Fm := [.keyed (.rcd [(lets [8, 3], .number), (lX, .list .flag)]) (lets [8, 3]), .opt (.keyed (.rcd [(lA, .text)]) lA),
  .rcd [(lets (List.range 12), .text), (wText, .text)]]
def hand3 : List Fm := [.keyed (.rcd [(lA, .keyed (.rcd [(lB, .text)]) lB), (lK, .text)]) lK,
  .rcd [(lets [1, 24], .keyed (.rcd [(lets [1, 24], .text)]) (lets [1, 24])), (wFlag, .flag), (wNumber, .number)]]
def hand4 : List Fm := [upF 6 (fun f => .rcd [(lA, f)]) .text, upF 2 (fun f => .keyed (.rcd [(lK, .text), (lX, f)]) lK) (.keyed (.rcd [(lK, .text)]) lK)]
def nm2 (i : Nat) : List Nat := [97 + i / 10, 97 + i % 10]
def hund : List (List Nat × Fm) := (List.range 100).map fun i => (nm2 i, Fm.text)
def oneB (f : Fm) : Bool := f.good 6 && (Nat.ble f.dep 12 && Nat.ble (fT f).length 2000)
theorem oneB_ok {f : Fm} (h : oneB f = true) : OneOk f := by
  obtain ⟨a, h⟩ := Bool.and_eq_true_iff.mp h
  obtain ⟨b, c⟩ := Bool.and_eq_true_iff.mp h
  exact ⟨a, Nat.le_of_ble_eq_true b, Nat.le_of_ble_eq_true c⟩
theorem all_ones {gs : List Fm} (h : gs.all oneB = true) : ∀ f ∈ gs, OneOk f := fun f hf => oneB_ok (List.all_eq_true.mp h f hf)
theorem one1 : ∀ f ∈ hand1, OneOk f := all_ones (by decide +kernel)
theorem one2 : ∀ f ∈ hand2, OneOk f := all_ones (by decide +kernel)
theorem one3 : ∀ f ∈ hand3, OneOk f := all_ones (by decide +kernel)
theorem one4 : ∀ f ∈ hand4, OneOk f := all_ones (by decide +kernel)
theorem one5 : OneOk (.rcd hund) := oneB_ok (by decide +kernel)
theorem rows_mk {H : Hp} {l : Addr} {xs : List V} {gs : List Fm} (h : H l = some (.lst xs)) (e : xs = gs.map rowV) : H l = some (.lst (gs.map rowV)) := by rw [← e]; exact h
theorem let_at : ∀ m : Nat, m < 10 → atI (Str.ofString "abcdefghij").cps.toList (m : Int) = some (97 + m) := by decide +kernel
section
variable {P : Program} {w : World} {K : PySem.W.Frag} {mg : Str → Option Value} {base : Heap}
theorem ok_parts (T : Top K mg) (k : Nat) : Ok__law_right_of_parts P w base T (k + 24) sp_poolT := by
  have G__law_form : Ok__law_form P w base T 5 (sp_formF 2) := ok_formF T 2
  have G__law_form_text : Ok__law_form_text P w base T 7 (sp_ftx 6) := ok_ftx T 6
  have G__law_type_right : Ok__law_type_right P w base T 23 (sp_tr (K := K) 6) := ok_tr T 6
  have R_Type_read := fnR_of (ok_tread (P := P) (w := w) (base := base) T 0) (b_Type_read T)
  refine T.F__law_right_of_parts.ok sc__law_right_of_parts (fun vs H Q E h => by obtain ⟨a, rfl, _⟩ := h; rfl) (fun cdv A outer s H vs Q E hr h => ⟨_, PSs.nox (pss_cons (ps_for PassesOwn.never rfl (pi_range1 (by rfl) T.n_range (pa_cons pe_int pa_nil)) (pg_name (i := 1) sc__law_right_of_parts.nd rfl (by first | exact .inl rfl | exact .inr rfl)) (pss_cons (ps_set (i := 2) sc__law_right_of_parts.nd rfl (by first | exact .inl rfl | exact .inr rfl) (pe_call G__law_form (hr.mono (by omega)) (by rfl) T.g__law_form T.F__law_form.kp (b__law_form T) .nil pass0 (pa_cons (vr 0) (pa_cons pe_int pa_nil))))
      (pss_one (sif (pt_not (tst (pe_call G__law_type_right (hr.mono (by omega)) (by rfl) T.g__law_type_right T.F__law_type_right.kp (b__law_type_right T) .nil pass0 (pa_cons (ClX.pe_cmeth (pe_glob (v := .ref (He.ga K "Type")) (by rfl) T.g_Type rfl) T.cr_Type T.cm_Type_read R_Type_read (hr.mono (by omega)) pass0 (pa_cons (pe_call G__law_form_text (hr.mono (by omega)) (by rfl) T.g__law_form_text T.F__law_form_text.kp (b__law_form_text T) .nil pass0 (pa_cons (vr 2) pa_nil)) pa_nil)) (pa_cons (vr 2) pa_nil))))) (pss_one (ps_ret pe_bl)) pss_nil))))
      (pss_one (ps_ret pe_bl))), ?_⟩)
  obtain ⟨a, rfl, hp, q⟩ := h
  rw [st__law_right_of_parts]
  refine ⟨4, rfl, by decide, by decide, ?_⟩
  refine for_range (n := 4) (fun i σ H' => (∃ y1 y2, σ = [some (.ref a), y1, y2]) ∧ Pool H' a ∧ Keep a H H') ⟨⟨_, _, rfl⟩, hp, Keep.refl a H⟩ (fun i σ H0 hi hv => ?_) (fun σ H0 hv => ?_)
  · obtain ⟨⟨y1, y2, rfl⟩, p0, k0⟩ := hv
    simp only [List.set_cons_succ, List.set_cons_zero]
    refine ⟨rfl, p0, fun fv f H1 hf drn p1 k1 => ?_⟩
    simp only [gName, List.set_cons_succ, List.set_cons_zero]
    have dep : f.dep ≤ 4 := drn.dep
    have fl : (fT f).length ≤ 1000 := Nat.le_trans drn.len (by decide)
    refine ⟨rfl, fv, f, rfl, hf, by omega, by omega, fun z H2 s2 ez => ?_⟩
    subst ez
    refine ⟨_, _, f, rfl, rfl, by rw [mk_len]; omega, form_back (drn.good 6 (by decide)), fun x H3 s3 _ o => ?_⟩
    have s23 := s2.trans s3
    refine ⟨x, fv, f, rfl, o, hf.on (tupS_of s23), by omega, by omega, ⟨2, drn⟩, by omega, fun H4 s4 => ?_⟩
    exact ⟨⟨_, _, rfl⟩, p1.same (s23.trans s4), (k0.trans k1).trans (keep_of (s23.trans s4))⟩
  · obtain ⟨⟨y1, y2, rfl⟩, p0, k0⟩ := hv
    exact q H0 p0 k0
end
end Sk
/-! Sk: law (k02) -/
namespace Sk
open PySem PySem.Spec PyProof.Rows L2
theorem get_lt' {α : Type} {xs : List α} {y : α} {i : Nat} (h : xs[i]? = some y) : i < xs.length := (List.getElem?_eq_some_iff.mp h).1
theorem two_eq {a b c d : V} (h1 : a = c) (h2 : b = d) : [a, b] = [c, d] := by rw [h1, h2]
section
variable {P : Program} {w : World} {K : PySem.W.Frag} {mg : Str → Option Value} {base : Heap}
def sp_law (K : PySem.W.Frag) : Sp := fun vs H Q _ => match vs with
  | [.ref a] => (∃ ns : List Int, ns.length ≤ 63 ∧ SqL K H a (ns.map V.int)) ∧ ∀ H', Q (.bl true) H'
  | _ => False
abbrev OkG_law (P : Program) (w : World) (base : Heap) (T : Top K mg) (k : Nat) (sp : Sp) : Prop := FnG P w K mg base k (He.ga K "law") T.fd_law ["_law_script"] sp
theorem ok_law (T : Top K mg) (k : Nat) : OkG_law P w base T (k + 27) (sp_law K) := by
  have G__law_one_right : Ok__law_one_right P w base T 25 sp_one := ok_one T 0
  have G__law_right : Ok__law_right P w base T 26 sp_poolT := ok_rightT T 0
  have G__law_right_of_parts : Ok__law_right_of_parts P w base T 24 sp_poolT := ok_parts T 0
  have G__law_pool : Ok__law_pool P w base T 1 sp_pool := ok_pool T 0
  have G__law_cell : Ok__law_cell P w base T 1 (sp_cell K) := ok_cell T 0
  refine fnG_of T.F_law sc_law (fun vs H Q E h => ?_) (fun cdv A outer s H vs Q E gd hr h => ⟨_, (pss_cons (ps_set (i := 1) sc_law.nd rfl (by first | exact .inl rfl | exact .inr rfl) (pe_lst (pa_cons pe_str (pa_cons pe_str (pa_cons pe_str (pa_cons pe_str (pa_cons pe_str (pa_cons pe_str (pa_cons pe_str pa_nil)))))))))
      (pss_cons (ps_set (i := 1) sc_law.nd rfl (by first | exact .inl rfl | exact .inr rfl) (pe_op (kplus K) (vr 1) (pe_lst (pa_cons pe_str (pa_cons pe_str (pa_cons pe_str pa_nil))))))
      (pss_cons (ps_set (i := 1) sc_law.nd rfl (by first | exact .inl rfl | exact .inr rfl) (pe_op (kplus K) (vr 1) (pe_lst (pa_cons pe_str (pa_cons pe_str pa_nil)))))
      (pss_cons (ps_set (i := 1) sc_law.nd rfl (by first | exact .inl rfl | exact .inr rfl) (pe_op (kplus K) (vr 1) (pe_lst (pa_cons (pe_op (kplus K) (pe_op (kplus K) (pe_op op_mulU pe_str pe_int) pe_str) (pe_op op_mulU pe_str pe_int)) (pa_cons (pe_op (kplus K) (pe_op (kplus K) (pe_op op_mulU pe_str pe_int) pe_str) (pe_op op_mulU pe_str pe_int)) pa_nil)))))
      (pss_cons (ps_setLc (i := 2) (own := [("_law_k", 3)])  rfl sc_law.nd rfl rfl (sw_true rfl rfl rfl (by decide +kernel)) (pi_range1 (by rfl) T.n_range (pa_cons pe_int pa_nil)) (blkOk_by (own := [("_law_k", 3)]) (N := ["_law_script", "_law_some", "_law_words_here", "_law_k", "_law_row", "_law_word"]) (sc := defScope s_law) (by decide +kernel)) (fun _ _ _ _ _ => (pg_name (i := 3) sc_law.nd rfl (by first | exact .inl rfl | exact .inr rfl))) (fun _ _ _ _ _ => pts_nil) (fun _ _ _ _ _ => up (pe_op (kplus K) (pe_ix (kget K) pe_str (pe_op op_divI (vr 3) pe_int) (fun _ _ => rfl)) (pe_ix (kget K) pe_str (pe_op op_modI (vr 3) pe_int) (fun _ _ => rfl)))))
      (pss_cons (ps_expr (kapp (pe_bm PySem.F.plainAttrs_list PySem.F.slot_list_append PySem.F.type_list_append mt_append (up (vr 1)) (pa_cons (up (pe_op (kplus K) (pe_op (kplus K) pe_str (kjoin K pe_str (pe_lc (own := [("_law_word", 5)])  rfl sc_law.nd (ilist K (vr 2)) (blkOk_by (own := [("_law_word", 5)]) (N := ["_law_script", "_law_some", "_law_words_here", "_law_k", "_law_row", "_law_word"]) (sc := defScope s_law) (by decide +kernel)) (fun _ _ _ _ _ => (pg_name (i := 5) sc_law.nd rfl (by first | exact .inl rfl | exact .inr rfl))) (fun _ _ _ _ _ => pts_nil) (fun _ _ _ _ _ => up (pe_op (kplus K) (vr 5) pe_str))))) pe_str)) pa_nil))))
      (pss_cons (sif (pt_not (tst (pe_callB (kall K rfl) (by rfl) T.n_all (by decide +kernel) (pa_cons (pe_lc (own := [("_law_row", 4)])  rfl sc_law.nd (ilist K (vr 1)) (blkOk_by (own := [("_law_row", 4)]) (N := ["_law_script", "_law_some", "_law_words_here", "_law_k", "_law_row", "_law_word"]) (sc := defScope s_law) (by decide +kernel)) (fun _ _ _ _ _ => (pg_name (i := 4) sc_law.nd rfl (by first | exact .inl rfl | exact .inr rfl))) (fun _ _ _ _ _ => pts_nil) (fun _ _ _ _ _ => up (pe_call G__law_one_right (hr.mono (by omega)) (by rfl) T.g__law_one_right T.F__law_one_right.kp (b__law_one_right T) .nil pass0 (pa_cons (vr 4) pa_nil)))) pa_nil)))) (pss_one (ps_ret pe_bl)) pss_nil)
      (pss_cons (sif (pt_not (tst (pe_callB (kall K rfl) (by rfl) T.n_all (by decide +kernel) (pa_cons (pe_lc (own := [("_law_k", 3)])  rfl sc_law.nd (pi_range1 (by rfl) T.n_range (pa_cons (pe_callB (call_maxU rfl) (by rfl) T.n_max (by decide +kernel) (pa_cons pe_int (pa_cons (pe_callB (call_minU rfl) (by rfl) T.n_min (by decide +kernel) (pa_cons (pe_callB (klen K) (by rfl) T.n_len (by decide +kernel) (pa_cons (vr 0) pa_nil)) (pa_cons pe_int pa_nil))) pa_nil))) pa_nil)) (blkOk_by (own := [("_law_k", 3)]) (N := ["_law_script", "_law_some", "_law_words_here", "_law_k", "_law_row", "_law_word"]) (sc := defScope s_law) (by decide +kernel)) (fun _ _ _ _ _ => (pg_name (i := 3) sc_law.nd rfl (by first | exact .inl rfl | exact .inr rfl))) (fun _ _ _ _ _ => pts_nil) (fun _ _ _ _ _ => up (pe_call G__law_right (hr.mono (by omega)) (by rfl) T.g__law_right T.F__law_right.kp (b__law_right T) .nil pass0 (pa_cons (pe_call G__law_pool (hr.mono (by omega)) (by rfl) T.g__law_pool T.F__law_pool.kp (b__law_pool T) .nil pass0 (pa_cons (pe_call G__law_cell (hr.mono (by omega)) (by rfl) T.g__law_cell T.F__law_cell.kp (b__law_cell T) .nil pass0 (pa_cons (vr 0) (pa_cons (vr 3) pa_nil))) pa_nil)) pa_nil)))) pa_nil)))) (pss_one (ps_ret pe_bl)) pss_nil)
      (pss_one (ps_ret (pe_callB (kall K rfl) (by rfl) T.n_all (by decide +kernel) (pa_cons (pe_lc (own := [("_law_k", 3)])  rfl sc_law.nd (pi_range1 (by rfl) T.n_range (pa_cons (pe_callB (call_maxU rfl) (by rfl) T.n_max (by decide +kernel) (pa_cons pe_int (pa_cons (pe_callB (call_minU rfl) (by rfl) T.n_min (by decide +kernel) (pa_cons (pe_callB (klen K) (by rfl) T.n_len (by decide +kernel) (pa_cons (vr 0) pa_nil)) (pa_cons pe_int pa_nil))) pa_nil))) pa_nil)) (blkOk_by (own := [("_law_k", 3)]) (N := ["_law_script", "_law_some", "_law_words_here", "_law_k", "_law_row", "_law_word"]) (sc := defScope s_law) (by decide +kernel)) (fun _ _ _ _ _ => (pg_name (i := 3) sc_law.nd rfl (by first | exact .inl rfl | exact .inr rfl))) (fun _ _ _ _ _ => pts_nil) (fun _ _ _ _ _ => up (pe_call G__law_right_of_parts (hr.mono (by omega)) (by rfl) T.g__law_right_of_parts T.F__law_right_of_parts.kp (b__law_right_of_parts T) .nil pass0 (pa_cons (pe_call G__law_pool (hr.mono (by omega)) (by rfl) T.g__law_pool T.F__law_pool.kp (b__law_pool T) .nil pass0 (pa_cons (pe_call G__law_cell (hr.mono (by omega)) (by rfl) T.g__law_cell T.F__law_cell.kp (b__law_cell T) .nil pass0 (pa_cons (vr 0) (pa_cons (vr 3) pa_nil))) pa_nil)) pa_nil)))) pa_nil)))))))))))), ?_⟩)
  · unfold sp_law at h
    split at h
    · rfl
    · exact h.elim
  · unfold sp_law at h
    split at h
    · obtain ⟨⟨ns, hns, hS⟩, q⟩ := h
      rename_i a
      rw [st_law]
      refine ⟨Nat.le_of_ble_eq_true rfl, fun l1 n1 => ?_⟩
      generalize g1 : upd _ l1 _ = H1
      obtain ⟨s1, h1, _⟩ := lay_of' g1 n1
      clear g1
      simp only [gName, List.set_cons_succ, List.set_cons_zero]
      have h1 := rows_mk (gs := hand1) h1 (by decide +kernel)
      refine ⟨Nat.le_of_ble_eq_true rfl, fun l2 n2 => ?_⟩
      generalize g2 : upd _ l2 _ = H2
      obtain ⟨s2, h2, _⟩ := lay_of' g2 n2
      clear g2
      have h2 := rows_mk (gs := hand2) h2 (by decide +kernel)
      refine .inl ⟨l1, l2, _, _, rfl, rfl, s2 _ _ h1, h2, size_le (by decide +kernel), fun l3 n3 => ?_⟩
      generalize g3 : upd _ l3 _ = H3
      obtain ⟨s3, h3, _⟩ := lay_of' g3 n3
      clear g3
      rw [← List.map_append] at h3
      simp only [gName, List.set_cons_succ, List.set_cons_zero]
      refine ⟨Nat.le_of_ble_eq_true rfl, fun l4 n4 => ?_⟩
      generalize g4 : upd _ l4 _ = H4
      obtain ⟨s4, h4, _⟩ := lay_of' g4 n4
      clear g4
      have h4 := rows_mk (gs := hand3) h4 (by decide +kernel)
      refine .inl ⟨l3, l4, _, _, rfl, rfl, s4 _ _ h3, h4, size_le (by decide +kernel), fun l5 n5 => ?_⟩
      generalize g5 : upd _ l5 _ = H5
      obtain ⟨s5, h5, _⟩ := lay_of' g5 n5
      clear g5
      rw [← List.map_append] at h5
      simp only [gName, List.set_cons_succ, List.set_cons_zero]
      have S5 := (((s1.trans s2).trans s3).trans s4).trans s5
      refine ⟨by decide, by decide, by decide +kernel, fun z1 hz1 => ?_⟩
      have lz : ∀ {z : Str} {l : List Nat}, z.cps.toList = l → l.length ≤ 500 → z.length ≤ 500 := fun h hl => by rw [len_list, h]; exact hl
      have b1 := lz hz1 (by decide +kernel)
      refine ⟨size_le (by have : (Str.ofString "text").length = 4 := by decide +kernel
                          omega), ?_⟩
      refine ⟨by decide, by decide, by decide +kernel, fun z2 hz2 => ?_⟩
      have b2 := lz hz2 (by decide +kernel)
      refine ⟨size_le (by rw [app_len]; have : (Str.ofString "text").length = 4 := by decide +kernel
                          omega), ?_⟩
      refine ⟨by decide, by decide, by decide +kernel, fun z3 hz3 => ?_⟩
      have b3 := lz hz3 (by decide +kernel)
      refine ⟨size_le (Nat.le_trans (Nat.add_le_add_right b3 _) (by decide +kernel)), ?_⟩
      refine ⟨by decide, by decide, by decide +kernel, fun z4 hz4 => ?_⟩
      have b4 := lz hz4 (by decide +kernel)
      refine ⟨size_le (by rw [app_len]; exact Nat.le_trans (Nat.add_le_add (Nat.add_le_add_right b3 _) b4) (by decide +kernel)), ?_⟩
      refine ⟨Nat.le_of_ble_eq_true rfl, fun l6 n6 => ?_⟩
      generalize g6 : upd _ l6 _ = H6
      obtain ⟨s6, h6, _⟩ := lay_of' g6 n6
      clear g6
      have h6 := rows_mk (gs := hand4) h6 (by
        unfold hand4
        rw [List.map_cons, List.map_cons, List.map_nil]
        refine two_eq (congrArg V.str (str_ext ?_)) (congrArg V.str (str_ext ?_))
        · rw [app_list, app_list, hz1, hz2]
          decide +kernel
        · rw [app_list, app_list, hz3, hz4]
          decide +kernel)
      refine .inl ⟨l5, l6, _, _, rfl, rfl, s6 _ _ h5, h6, size_le (by decide +kernel), fun l7 n7 => ?_⟩
      generalize g7 : upd _ l7 _ = H7
      obtain ⟨s7, h7, _⟩ := lay_of' g7 n7
      clear g7
      rw [← List.map_append] at h7
      simp only [gName, List.set_cons_succ, List.set_cons_zero]
      have S7 := (S5.trans s6).trans s7
      clear hz1 hz2 hz3 hz4 b1 b2 b3 b4 h1 h2 h3 h4 h5 h6
      -- the hundred names
      refine ⟨100, rfl, by decide, by decide, fun D nD => ?_⟩
      refine lcr fr_same (fun i v _ => v = .str (mkS (nm2 i))) trivial nD (by decide) (fun _ _ _ _ h _ => h) (fun _ => rfl) (fun i H8 hi _ s8 => ?_) (fun H8 ys _ s8 l8 e8 q8 => ?_)
      · have hi : i < 100 := hi
        have e1 : (0 + (i : Int)) / 10 = ((i / 10 : Nat) : Int) := by omega
        have e2 : (0 + (i : Int)) % 10 = ((i % 10 : Nat) : Int) := by omega
        refine ⟨⟨by decide, by decide⟩, by decide +kernel, 97 + i / 10, ?_, ?_⟩
        · rw [e1]
          exact let_at _ (by omega)
        refine ⟨by decide, by decide +kernel, 97 + i % 10, ?_, ?_⟩
        · rw [e2]
          exact let_at _ (by omega)
        refine ⟨size_le (Nat.le_of_ble_eq_true rfl), trivial, Same.refl _, congrArg V.str (str_ext ?_)⟩
        rw [app_list]
        rfl
      have hun : ∀ i, i < 100 → hund[i]? = some (nm2 i, Fm.text) := fun i hi => by
        unfold hund
        rw [List.getElem?_map, List.getElem?_range hi]
        rfl
      have hlen : hund.length = 100 := by unfold hund; rw [List.length_map, List.length_range]
      have ey : ys = hund.map fun p => V.str (mkS p.1) := map_of (by rw [l8, hlen]; rfl) fun i y hy => by
        have il := get_lt' hy
        refine ⟨_, hun i (by rw [l8] at il; exact il), q8 i y hy⟩
      subst ey
      simp only [gName, List.set_cons_succ, List.set_cons_zero]
      have h78 := s8 _ _ h7
      have S8 := S7.trans s8
      refine ⟨⟨_, h78⟩, ?_⟩
      refine ⟨D, rfl, ⟨_, sqL_of e8⟩, fun D2 nD2 => ?_⟩
      have ccol : (Str.ofString ": text").cps.toList = [58, 32] ++ wText := by decide +kernel
      have ccom : (Str.ofString ", ").cps.toList = [44, 32] := by decide +kernel
      have c123 : (Str.ofString "{").cps.toList = [123] := by decide +kernel
      have c125 : (Str.ofString "}").cps.toList = [125] := by decide +kernel
      refine lcl (xs := hund.map fun p => V.str (mkS p.1)) fr_same (fun i v _ => ∃ p, hund[i]? = some p ∧ v = .str (mkS (rowT p))) trivial nD2 (by rw [List.length_map, hlen]; decide) (fun H9 _ s9 => sqL_of (s9 _ _ e8)) (fun _ _ _ _ h _ => h) (fun _ => rfl) (fun i x H9 hx _ s9 => ?_) (fun H9 ys2 _ s9 l9 e9 q9 => ?_)
      · rw [List.getElem?_map] at hx
        obtain ⟨pr, hpr, rfl⟩ := Option.map_eq_some_iff.mp hx
        have il := get_lt' hpr
        have hpr2 := hpr
        rw [hun i (by omega)] at hpr2
        cases hpr2
        refine ⟨size_le (by rw [mkS_len, len_list (Str.ofString ": text"), ccol]; show 2 + 6 ≤ _; decide), trivial, Same.refl _, _, hpr, congrArg V.str (str_ext ?_)⟩
        rw [app_list, ccol]
        show nm2 i ++ ([58, 32] ++ wText) = nm2 i ++ ([58, 32] ++ fT .text)
        rw [fT]
      have ey := rows_of (l9.trans (List.length_map ..)) q9
      subst ey
      have su := flT_sum hund
      have flen : (flT hund).length ≤ 1500 := by
        have := one5.2.2
        rw [fT] at this
        simp only [List.length_cons, List.length_append] at this
        decide +kernel
      have em : ((hund.map fun p => mkS (rowT p)).map (·.length)) = hund.map fun p => (rowT p).length := by
        rw [List.map_map]
        exact List.map_congr_left fun p _ => mkS_len _
      have l4 : (Str.ofString ", ").length = 2 := by rw [len_list, ccom]; rfl
      have l5 : (Str.ofString "{").length = 1 := by rw [len_list, c123]; rfl
      have l6' : (Str.ofString "}").length = 1 := by rw [len_list, c125]; rfl
      have ej : (Txt.join ", " (hund.map fun p => mkS (rowT p))).cps.toList = flT hund := by
        have e0 : (hund.map fun p => mkS (rowT p)).map sl = hund.map rowT := by
          rw [List.map_map]
          rfl
        have := join_with (y := Str.ofString ", ") e0
        rw [ccom, flT_join] at this
        exact this
      have lj : (Txt.join ", " (hund.map fun p => mkS (rowT p))).length = (flT hund).length := by rw [len_list, ej]
      have h79 := s9 _ _ h78
      refine ⟨_, .inl (sqL_of e9), by rw [em, List.length_map, l4]; omega, size_le (by rw [l5, lj]; omega), size_le (by rw [app_len, l5, l6', lj]; omega), _, h79, size_lt (by decide +kernel), ?_⟩
      have erow : V.str (Str.ofString "{" ++ Txt.join ", " (hund.map fun p => mkS (rowT p)) ++ Str.ofString "}") = rowV (.rcd hund) := congrArg V.str (str_ext (by
        rw [app_list, app_list, c123, c125, ej]
        show ([123] ++ flT hund) ++ [125] = fT (.rcd hund)
        rw [fT]
        rfl))
      have S9 := S8.trans s9
      have n7H : H l7 = none := (S5.trans s6).free n7
      have SS : Same H (upd H9 l7 (.lst (((hand1 ++ hand2 ++ hand3) ++ hand4).map rowV ++ [V.str (Str.ofString "{" ++ Txt.join ", " (hund.map fun p => mkS (rowT p)) ++ Str.ofString "}")]))) := fun b o e => by
        rw [upd_ne (ne_of_none e n7H)]
        exact S9 b o e
      have hA : upd H9 l7 (.lst (((hand1 ++ hand2 ++ hand3) ++ hand4).map rowV ++ [V.str (Str.ofString "{" ++ Txt.join ", " (hund.map fun p => mkS (rowT p)) ++ Str.ofString "}")])) l7 = some (.lst ((((hand1 ++ hand2 ++ hand3) ++ hand4) ++ [Fm.rcd hund]).map rowV)) := by
        rw [upd_same, List.map_append, erow]
        rfl
      revert SS hA
      generalize upd H9 l7 _ = HA
      intro SS hA
      clear e9 q9 l9 e8 q8 nD nD2 su flen em lj
      have ones : ∀ f ∈ ((hand1 ++ hand2 ++ hand3) ++ hand4) ++ [.rcd hund], OneOk f := fun f hf => by
        rcases List.mem_append.mp hf with hf | hf
        · rcases List.mem_append.mp hf with hf | hf
          · rcases List.mem_append.mp hf with hf | hf
            · rcases List.mem_append.mp hf with hf | hf
              · exact one1 f hf
              · exact one2 f hf
            · exact one3 f hf
          · exact one4 f hf
        · rw [List.mem_singleton.mp hf]
          exact one5
      have glen : (((hand1 ++ hand2 ++ hand3) ++ hand4) ++ [Fm.rcd hund]).length = 15 := by decide +kernel
      revert hA ones glen
      generalize ((hand1 ++ hand2 ++ hand3) ++ hand4) ++ [Fm.rcd hund] = gs
      intro hA ones glen
      refine ⟨l7, rfl, ⟨_, sqL_of hA⟩, fun D3 nD3 => ?_⟩
      refine lcl (xs := gs.map rowV) fr_same (fun _ v _ => v = .bl true) trivial nD3 (by rw [List.length_map]; omega) (fun H2 _ s2 => sqL_of (s2 _ _ hA)) (fun _ _ _ _ h _ => h) (fun _ => rfl) (fun i x H2 hx _ s2 => ?_) (fun H2 ys2 _ s2 l2 e2 q2 => ?_)
      · rw [List.getElem?_map] at hx
        obtain ⟨f, hf, rfl⟩ := Option.map_eq_some_iff.mp hx
        exact ⟨f, rfl, ones f (List.mem_of_getElem? hf), fun H3 s3 => ⟨trivial, s3, rfl⟩⟩
      obtain ⟨bs2, rfl, hb2⟩ := bls_true q2
      refine ⟨_, bs2, rfl, sqL_of e2, ?_⟩
      rw [hb2]
      replace SS := SS.trans s2
      clear e2 q2 l2 hb2 nD3 s2
      refine ⟨_, .inl (at_seq (SS a) hS), ?_⟩
      refine ⟨_, rfl, ?_, ?_, fun D2 nD2 => ?_⟩
      · rw [List.length_map]
        split <;> split <;> omega
      · rw [List.length_map]
        split <;> split <;> omega
      refine lcr fr_same (fun _ v _ => v = .bl true) trivial nD2 ?_ (fun _ _ _ _ h _ => h) (fun _ => rfl) (fun i H2 hi _ s2 => ?_) (fun H2 ys2 _ s2 l2 e2 q2 => ?_)
      · rw [List.length_map]
        split <;> split <;> omega
      · have hi8 : i < 64 := by
          rw [List.length_map] at hi
          split at hi <;> split at hi <;> omega
        refine ⟨⟨ns, at_seq ((SS.trans s2) a) hS⟩, by omega, by omega, fun z H3 s3 b H4 s4 nb p4 => ⟨b, rfl, p4, fun H5 p5 k5 => ⟨trivial, ?_, rfl⟩⟩⟩
        intro x o hx
        have h3 := s3 _ _ hx
        exact k5 x o (ne_of_none h3 nb) (s4 _ _ h3)
      obtain ⟨bs2, rfl, hb2⟩ := bls_true q2
      refine ⟨_, bs2, rfl, sqL_of e2, ?_⟩
      rw [hb2]
      replace SS := SS.trans s2
      clear e2 q2 l2 hb2 nD2 s2
      refine ⟨_, .inl (at_seq (SS a) hS), ?_⟩
      refine ⟨_, rfl, ?_, ?_, fun D2 nD2 => ?_⟩
      · rw [List.length_map]
        split <;> split <;> omega
      · rw [List.length_map]
        split <;> split <;> omega
      refine lcr fr_same (fun _ v _ => v = .bl true) trivial nD2 ?_ (fun _ _ _ _ h _ => h) (fun _ => rfl) (fun i H2 hi _ s2 => ?_) (fun H2 ys2 _ s2 l2 e2 q2 => ?_)
      · rw [List.length_map]
        split <;> split <;> omega
      · have hi8 : i < 64 := by
          rw [List.length_map] at hi
          split at hi <;> split at hi <;> omega
        refine ⟨⟨ns, at_seq ((SS.trans s2) a) hS⟩, by omega, by omega, fun z H3 s3 b H4 s4 nb p4 => ⟨b, rfl, p4, fun H5 p5 k5 => ⟨trivial, ?_, rfl⟩⟩⟩
        intro x o hx
        have h3 := s3 _ _ hx
        exact k5 x o (ne_of_none h3 nb) (s4 _ _ h3)
      obtain ⟨bs2, rfl, hb2⟩ := bls_true q2
      refine ⟨_, bs2, rfl, sqL_of e2, ?_⟩
      rw [hb2]
      replace SS := SS.trans s2
      clear e2 q2 l2 hb2 nD2 s2
      exact q _
    · exact h.elim
end
end Sk
namespace Sk
open PySem PySem.Spec PyProof.Rows L2
def fn : List He5.DefA := [d_is_whole, d_is_name, d_name_from, d_read_fields, d_key_fits, d_read_list, d_read_bare, d_read_form, d_form_text, d_fits_simple, d_list_trouble, d_record_trouble, d_trouble_at, d__law_cell, d__law_pool, d__law_draw, d__law_words, d__law_form, d__law_form_text, d__law_one_right, d__law_right, d__law_type_right, d__law_right_of_parts, d_law, d_Type___init__, d_Type_read, d_Type_kind, d_Type_inner, d_Type_key, d_Type_fields, d_Type___eq__, d_Type___str__, d_Type___repr__, d_Type___contains__, d_Type_trouble]
def fa : List He.Fa := [.glo "is_whole", .glo "is_name", .glo "name_from", .glo "read_fields", .glo "key_fits", .glo "read_list", .glo "read_bare", .glo "read_form", .glo "form_text", .glo "fits_simple", .glo "list_trouble", .glo "record_trouble", .glo "trouble_at", .glo "_law_cell", .glo "_law_pool", .glo "_law_draw", .glo "_law_words", .glo "_law_form", .glo "_law_form_text", .glo "_law_one_right", .glo "_law_right", .glo "_law_type_right", .glo "_law_right_of_parts", .glo "law", .glo "ShapeError", .glo "InvalidText", .glo "Type", .cls "Type", .mkr "Type", .noat "Type" "form", .meth "Type" "trouble", .int "MAX_ELEMENTS" 60, .int "MAX_LEVELS" 6, .str "LETTERS" "abcdefghijklmnopqrstuvwxyz", .glo "SIMPLE", .free "ValueError", .free "abs", .free "all", .free "any", .free "bool", .free "dict", .free "divmod", .free "enumerate", .free "int", .free "isinstance", .free "len", .free "max", .free "min", .free "range", .free "repr", .free "sorted", .free "str", .free "tuple"]
def ex (K : PySem.W.Frag) : Bool := (He.dictB K sysModules && (creadB K "Type" && (cmetB K "Type" "read" && (cinstB K "Type" "read" && (propB K "Type" "kind" && (propB K "Type" "inner" && (propB K "Type" "key" && (propB K "Type" "fields" && (ownB K "Type" "__eq__" && (strTB K "Type" && (noBoolB K "Type" && (neB K "Type" && (ownB K "Type" "__str__" && (ownB K "Type" "__repr__" && (ownB K "Type" "__contains__" && (He.tupB K "SIMPLE" [.str "text", .str "number", .str "flag"] && true))))))))))))))))
def ts : List He.Tab := []
def tf : List He.Defn := []
abbrev R : PySem.W.OpenRow := PySem.W.OpenLaw.row PySem.Challenge.rw_shapekeep_k02_types_read_and_written
abbrev hk : PySem.W.Hook := hookU 6 fa fn ts tf ex
def ob (s : PySem.W.SharedT) : AlU := seenU 6 fa fn ts tf ex (HandSHeadRun.getT s)
theorem ob_eq (s : PySem.W.SharedT) : ob s = hk.obs s.abs := seenU_eq (HandSHeadRun.getT_eq s)
def loose0 : List PySem.Str := ["MAX_ELEMENTS", "MAX_LEVELS", "LETTERS", "is_whole", "is_name", "ShapeError", "InvalidText", "SIMPLE", "name_from", "read_fields", "key_fits", "read_list", "read_bare", "read_form", "form_text", "fits_simple", "list_trouble", "record_trouble", "trouble_at", "Type", "_law_cell", "_law_pool", "_law_draw", "_law_words"]
def loose1 : List PySem.Str := ["_law_form", "_law_form_text", "_law_one_right", "_law_right", "_law_type_right", "_law_right_of_parts"]
def loose : List PySem.Str := loose0 ++ loose1
theorem runF (w : World) : HandSHeadRun.RunEq R (PySem.W.view R.prog [34]) hk ob 4000 loose (w.withFollow "special-get-raises" false) := by
  intro os
  kernel_rfl
theorem runT (w : World) : HandSHeadRun.RunEq R (PySem.W.view R.prog [34]) hk ob 4000 loose (w.withFollow "special-get-raises" true) := by
  intro os
  kernel_rfl
theorem run (w : World) : HandSHeadRun.RunEq R (PySem.W.view R.prog [34]) hk ob 4000 loose w := PySem.W.byRow2 "special-get-raises" (P := fun w => HandSHeadRun.RunEq R (PySem.W.view R.prog [34]) hk ob 4000 loose w) runF runT w
theorem top_of {K : PySem.W.Frag} {h : Heap} {mg : Str → Option Value} (X : K.In h) (G : h.Ns mainGlobals mg) (c : He5.SaysA fa fn K) (m : ex K = true) : Nonempty (Top K mg) := by
  unfold ex at m
  obtain ⟨m0, m⟩ := He.ba m
  obtain ⟨m1, m⟩ := He.ba m
  obtain ⟨m2, m⟩ := He.ba m
  obtain ⟨m3, m⟩ := He.ba m
  obtain ⟨m4, m⟩ := He.ba m
  obtain ⟨m5, m⟩ := He.ba m
  obtain ⟨m6, m⟩ := He.ba m
  obtain ⟨m7, m⟩ := He.ba m
  obtain ⟨m8, m⟩ := He.ba m
  obtain ⟨m9, m⟩ := He.ba m
  obtain ⟨m10, m⟩ := He.ba m
  obtain ⟨m11, m⟩ := He.ba m
  obtain ⟨m12, m⟩ := He.ba m
  obtain ⟨m13, m⟩ := He.ba m
  obtain ⟨m14, m⟩ := He.ba m
  obtain ⟨m15, m⟩ := He.ba m
  obtain ⟨fd0, F0⟩ := c.def_ 0 (d := d_is_whole) rfl
  obtain ⟨fd1, F1⟩ := c.def_ 1 (d := d_is_name) rfl
  obtain ⟨fd2, F2⟩ := c.def_ 2 (d := d_name_from) rfl
  obtain ⟨fd3, F3⟩ := c.def_ 3 (d := d_read_fields) rfl
  obtain ⟨fd4, F4⟩ := c.def_ 4 (d := d_key_fits) rfl
  obtain ⟨fd5, F5⟩ := c.def_ 5 (d := d_read_list) rfl
  obtain ⟨fd6, F6⟩ := c.def_ 6 (d := d_read_bare) rfl
  obtain ⟨fd7, F7⟩ := c.def_ 7 (d := d_read_form) rfl
  obtain ⟨fd8, F8⟩ := c.def_ 8 (d := d_form_text) rfl
  obtain ⟨fd9, F9⟩ := c.def_ 9 (d := d_fits_simple) rfl
  obtain ⟨fd10, F10⟩ := c.def_ 10 (d := d_list_trouble) rfl
  obtain ⟨fd11, F11⟩ := c.def_ 11 (d := d_record_trouble) rfl
  obtain ⟨fd12, F12⟩ := c.def_ 12 (d := d_trouble_at) rfl
  obtain ⟨fd13, F13⟩ := c.def_ 13 (d := d__law_cell) rfl
  obtain ⟨fd14, F14⟩ := c.def_ 14 (d := d__law_pool) rfl
  obtain ⟨fd15, F15⟩ := c.def_ 15 (d := d__law_draw) rfl
  obtain ⟨fd16, F16⟩ := c.def_ 16 (d := d__law_words) rfl
  obtain ⟨fd17, F17⟩ := c.def_ 17 (d := d__law_form) rfl
  obtain ⟨fd18, F18⟩ := c.def_ 18 (d := d__law_form_text) rfl
  obtain ⟨fd19, F19⟩ := c.def_ 19 (d := d__law_one_right) rfl
  obtain ⟨fd20, F20⟩ := c.def_ 20 (d := d__law_right) rfl
  obtain ⟨fd21, F21⟩ := c.def_ 21 (d := d__law_type_right) rfl
  obtain ⟨fd22, F22⟩ := c.def_ 22 (d := d__law_right_of_parts) rfl
  obtain ⟨fd23, F23⟩ := c.def_ 23 (d := d_law) rfl
  obtain ⟨fd24, F24⟩ := c.def_ 24 (d := d_Type___init__) rfl
  obtain ⟨fd25, F25⟩ := c.def_ 25 (d := d_Type_read) rfl
  obtain ⟨fd26, F26⟩ := c.def_ 26 (d := d_Type_kind) rfl
  obtain ⟨fd27, F27⟩ := c.def_ 27 (d := d_Type_inner) rfl
  obtain ⟨fd28, F28⟩ := c.def_ 28 (d := d_Type_key) rfl
  obtain ⟨fd29, F29⟩ := c.def_ 29 (d := d_Type_fields) rfl
  obtain ⟨fd30, F30⟩ := c.def_ 30 (d := d_Type___eq__) rfl
  obtain ⟨fd31, F31⟩ := c.def_ 31 (d := d_Type___str__) rfl
  obtain ⟨fd32, F32⟩ := c.def_ 32 (d := d_Type___repr__) rfl
  obtain ⟨fd33, F33⟩ := c.def_ 33 (d := d_Type___contains__) rfl
  obtain ⟨fd34, F34⟩ := c.def_ 34 (d := d_Type_trouble) rfl
  obtain ⟨t0, c0⟩ := He.int_ok X G (c.fact 31 (f := .int "MAX_ELEMENTS" 60) rfl)
  obtain ⟨t1, c1⟩ := He.int_ok X G (c.fact 32 (f := .int "MAX_LEVELS" 6) rfl)
  obtain ⟨t2, c2⟩ := He.str_ok X G (c.fact 33 (f := .str "LETTERS" "abcdefghijklmnopqrstuvwxyz") rfl)
  exact ⟨{ sys := m0, fd_is_whole := fd0, F_is_whole := F0, g_is_whole := He.glo_ok X G (c.fact 0 (f := .glo "is_whole") rfl), fd_is_name := fd1, F_is_name := F1, g_is_name := He.glo_ok X G (c.fact 1 (f := .glo "is_name") rfl), fd_name_from := fd2, F_name_from := F2, g_name_from := He.glo_ok X G (c.fact 2 (f := .glo "name_from") rfl), fd_read_fields := fd3, F_read_fields := F3, g_read_fields := He.glo_ok X G (c.fact 3 (f := .glo "read_fields") rfl), fd_key_fits := fd4, F_key_fits := F4, g_key_fits := He.glo_ok X G (c.fact 4 (f := .glo "key_fits") rfl), fd_read_list := fd5, F_read_list := F5, g_read_list := He.glo_ok X G (c.fact 5 (f := .glo "read_list") rfl), fd_read_bare := fd6, F_read_bare := F6, g_read_bare := He.glo_ok X G (c.fact 6 (f := .glo "read_bare") rfl), fd_read_form := fd7, F_read_form := F7, g_read_form := He.glo_ok X G (c.fact 7 (f := .glo "read_form") rfl), fd_form_text := fd8, F_form_text := F8, g_form_text := He.glo_ok X G (c.fact 8 (f := .glo "form_text") rfl), fd_fits_simple := fd9, F_fits_simple := F9, g_fits_simple := He.glo_ok X G (c.fact 9 (f := .glo "fits_simple") rfl), fd_list_trouble := fd10, F_list_trouble := F10, g_list_trouble := He.glo_ok X G (c.fact 10 (f := .glo "list_trouble") rfl), fd_record_trouble := fd11, F_record_trouble := F11, g_record_trouble := He.glo_ok X G (c.fact 11 (f := .glo "record_trouble") rfl), fd_trouble_at := fd12, F_trouble_at := F12, g_trouble_at := He.glo_ok X G (c.fact 12 (f := .glo "trouble_at") rfl), fd__law_cell := fd13, F__law_cell := F13, g__law_cell := He.glo_ok X G (c.fact 13 (f := .glo "_law_cell") rfl), fd__law_pool := fd14, F__law_pool := F14, g__law_pool := He.glo_ok X G (c.fact 14 (f := .glo "_law_pool") rfl), fd__law_draw := fd15, F__law_draw := F15, g__law_draw := He.glo_ok X G (c.fact 15 (f := .glo "_law_draw") rfl), fd__law_words := fd16, F__law_words := F16, g__law_words := He.glo_ok X G (c.fact 16 (f := .glo "_law_words") rfl), fd__law_form := fd17, F__law_form := F17, g__law_form := He.glo_ok X G (c.fact 17 (f := .glo "_law_form") rfl), fd__law_form_text := fd18, F__law_form_text := F18, g__law_form_text := He.glo_ok X G (c.fact 18 (f := .glo "_law_form_text") rfl), fd__law_one_right := fd19, F__law_one_right := F19, g__law_one_right := He.glo_ok X G (c.fact 19 (f := .glo "_law_one_right") rfl), fd__law_right := fd20, F__law_right := F20, g__law_right := He.glo_ok X G (c.fact 20 (f := .glo "_law_right") rfl), fd__law_type_right := fd21, F__law_type_right := F21, g__law_type_right := He.glo_ok X G (c.fact 21 (f := .glo "_law_type_right") rfl), fd__law_right_of_parts := fd22, F__law_right_of_parts := F22, g__law_right_of_parts := He.glo_ok X G (c.fact 22 (f := .glo "_law_right_of_parts") rfl), fd_law := fd23, F_law := F23, g_law := He.glo_ok X G (c.fact 23 (f := .glo "law") rfl), fd_Type___init__ := fd24, F_Type___init__ := F24, fd_Type_read := fd25, F_Type_read := F25, fd_Type_kind := fd26, F_Type_kind := F26, fd_Type_inner := fd27, F_Type_inner := F27, fd_Type_key := fd28, F_Type_key := F28, fd_Type_fields := fd29, F_Type_fields := F29, fd_Type___eq__ := fd30, F_Type___eq__ := F30, fd_Type___str__ := fd31, F_Type___str__ := F31, fd_Type___repr__ := fd32, F_Type___repr__ := F32, fd_Type___contains__ := fd33, F_Type___contains__ := F33, fd_Type_trouble := fd34, F_Type_trouble := F34, g_ShapeError := He.glo_ok X G (c.fact 24 (f := .glo "ShapeError") rfl), g_InvalidText := He.glo_ok X G (c.fact 25 (f := .glo "InvalidText") rfl), g_Type := He.glo_ok X G (c.fact 26 (f := .glo "Type") rfl), cls_Type := He.cls_ok (c.fact 27 (f := .cls "Type") rfl), mk_Type := He.mkr_ok (c.fact 28 (f := .mkr "Type") rfl), cr_Type := creadB_ok m1, na_Type_form := He.noat_ok (c.fact 29 (f := .noat "Type" "form") rfl), cm_Type_read := cmetB_ok m2, me_Type_trouble := He.meth_ok (c.fact 30 (f := .meth "Type" "trouble") rfl), ci_Type_read := cinstB_ok m3, pr_Type_kind := propB_ok m4, pr_Type_inner := propB_ok m5, pr_Type_key := propB_ok m6, pr_Type_fields := propB_ok m7, ow_Type___eq__ := ownB_ok m8, st_Type := strTB_ok m9, nb_Type := noBoolB_ok m10, ne_Type := neB_ok m11, ow_Type___str__ := ownB_ok m12, ow_Type___repr__ := ownB_ok m13, ow_Type___contains__ := ownB_ok m14, t_MAX_ELEMENTS := t0, c_MAX_ELEMENTS := c0, t_MAX_LEVELS := t1, c_MAX_LEVELS := c1, t_LETTERS := t2, c_LETTERS := c2, g_SIMPLE := He.glo_ok X G (c.fact 34 (f := .glo "SIMPLE") rfl), q_SIMPLE := fun H => He.tupB_ok m15 H, n_ValueError := He.free_ok X G (c.fact 35 (f := .free "ValueError") rfl), n_abs := He.free_ok X G (c.fact 36 (f := .free "abs") rfl), n_all := He.free_ok X G (c.fact 37 (f := .free "all") rfl), n_any := He.free_ok X G (c.fact 38 (f := .free "any") rfl), n_bool := He.free_ok X G (c.fact 39 (f := .free "bool") rfl), n_dict := He.free_ok X G (c.fact 40 (f := .free "dict") rfl), n_divmod := He.free_ok X G (c.fact 41 (f := .free "divmod") rfl), n_enumerate := He.free_ok X G (c.fact 42 (f := .free "enumerate") rfl), n_int := He.free_ok X G (c.fact 43 (f := .free "int") rfl), n_isinstance := He.free_ok X G (c.fact 44 (f := .free "isinstance") rfl), n_len := He.free_ok X G (c.fact 45 (f := .free "len") rfl), n_max := He.free_ok X G (c.fact 46 (f := .free "max") rfl), n_min := He.free_ok X G (c.fact 47 (f := .free "min") rfl), n_range := He.free_ok X G (c.fact 48 (f := .free "range") rfl), n_repr := He.free_ok X G (c.fact 49 (f := .free "repr") rfl), n_sorted := He.free_ok X G (c.fact 50 (f := .free "sorted") rfl), n_str := He.free_ok X G (c.fact 51 (f := .free "str") rfl), n_tuple := He.free_ok X G (c.fact 52 (f := .free "tuple") rfl) }⟩
end Sk
open PySem PySem.W PySem.Calls PyProof.Rows
theorem PySem.Challenge.cw_shapekeep_k02_types_read_and_written_holds : PySem.Challenge.rw_shapekeep_k02_types_read_and_written.Holds := by
  w_on; o_law
  refine HandSHeadRun.head_any (r := OpenLaw.row PySem.Challenge.rw_shapekeep_k02_types_read_and_written) (q := view (OpenLaw.row PySem.Challenge.rw_shapekeep_k02_types_read_and_written).prog [34]) (H := Sk.hk) (ob := Sk.ob) (M := 4000) (loose := Sk.loose) (d := HandSHeadRun.topDef (OpenLaw.row PySem.Challenge.rw_shapekeep_k02_types_read_and_written).prog 34) (kwd := []) Sk.ob_eq
    (by kernel_rfl) (fun s => by kernel_rfl) Sk.run (by kernel_rfl) (by kernel_rfl) (by kernel_rfl) (by rfl) (by first | assumption | decide +kernel) (by decide +kernel) ⟨rfl, rfl, rfl, rfl, rfl, by decide +kernel⟩ ?hw ?hc
  case hw => w_witness2
  case hc =>
    refine Sk.walk_G (l := PySem.Challenge.rw_shapekeep_k02_types_read_and_written) (n := 63) (k := 27) (x := "_law_script") rfl (by decide) (by kernel_rfl) ⟨rfl, by decide, by decide⟩ ?F
    intro w mg fa h Y G hmg0
    obtain ⟨K, KX, c⟩ := Y
    have hmg : mg ("law" : PySem.Str) = some (.ref fa) := by
      have e : (HandSHeadRun.topDef (OpenLaw.row PySem.Challenge.rw_shapekeep_k02_types_read_and_written).prog 34).name = ("law" : PySem.Str) := by kernel_rfl
      rw [← e]
      exact hmg0
    obtain ⟨T⟩ := Sk.top_of KX G c.defs c.also
    have U := True.intro
    have e := hmg.symm.trans T.g_law
    cases e
    have b := L2.FunD.bindsA (ps := ["_law_script"]) T.F_law fun _ _ _ _ _ _ us hl => match us, hl with | [_], _ => rfl
    exact ⟨K, T.fd_law, Sk.sp_law K, KX, fun s v => b s [v] rfl, fun H a ns hl hS => ⟨⟨ns, hl, hS⟩, fun _ => rfl⟩, fun base _ _ => Sk.ok_law T 0⟩
