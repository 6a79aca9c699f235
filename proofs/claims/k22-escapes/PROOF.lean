import PyProof.Rows.All
import Wide.All
import OpenK.AllK
import Wide.FinOn
import HandS.ForMost
import HandS.IsInst
import HandS.FStr
import HandS.Small
import HandS.Style
import HandS.NoneIn
import HandS.ReplaceLit
import HandS.ReplaceDef
import HandS.Defaults
import HandS.TupAny
import HandS.WideBits
import HandS.RaiseMore
import KE.DataEq
import HandS.Codes
import PyProof.ListStr
import HandS.SetBool
import HandS.Conv
import HandS.Walk
import HandS.HeadHook1
import HandS.HeadHook2
import PySem.Challenge.RW_shapekeep_k22_escapes
import HandS.More
import HandS.Words
import HandS.WordsExc
import HandS.Ends
import HandS.Head0
import HandS.Head1
import HandS.Head2
import HandS.HeadEnd
import HandS.HeadHook4
import KE.KStateDown
set_option Elab.async false
set_option linter.all false
set_option maxRecDepth 100000
set_option maxHeartbeats 0
/-! Sk: readings that compute: each rule of the layer weakened to one whose reading is a match over values -/
namespace Sk
open PySem PySem.Spec PyProof.Rows L2
section
variable {X : Cx}
theorem PEw {e : Expr} {t t' : TE} (h : PE X e t) (w : ∀ σ H Q, t' σ H Q → t σ H Q) : PE X e t' := ⟨fun pins s σ H Q I q => h.run pins s σ H Q I (w σ H Q q)⟩
theorem PTw {e : Expr} {t t' : TT} (h : PT X e t) (w : ∀ σ H Q, t' σ H Q → t σ H Q) : PT X e t' := ⟨fun pins s σ H Q I q => h.run pins s σ H Q I (w σ H Q q)⟩
theorem PWw {e : Expr} {t t' : TT} (h : PW X e t) (w : ∀ σ H Q, t' σ H Q → t σ H Q) : PW X e t' := ⟨fun wh pins s σ H Q I q => h.run wh pins s σ H Q I (w σ H Q q)⟩
theorem PSw {e : Stmt} {t t' : TS} (h : PS X e t) (w : ∀ D σ H, t' D σ H → t D σ H) : PS X e t' := ⟨fun pins s σ H D I q => h.run pins s σ H D I (w D σ H q)⟩
theorem PGw {e : Expr} {t t' : TG} (h : PG X e t) (w : ∀ v σ H Q, t' v σ H Q → t v σ H Q) : PG X e t' := ⟨fun pins s σ H v u Q I r q => h.run pins s σ H v u Q I r (w v σ H Q q)⟩
theorem PGsw {e : List Expr} {t t' : TGs} (h : PGs X e t) (w : ∀ v σ H Q, t' v σ H Q → t v σ H Q) : PGs X e t' := ⟨fun pins s σ H v u Q I r q => h.run pins s σ H v u Q I r (w v σ H Q q)⟩
theorem OpRw {f : Value → Value → Sem Value} {r r' : R2} (h : OpR X f r) (w : ∀ x y H Q, r' x y H Q → r x y H Q) : OpR X f r' := fun pins s σ H x y v u Q I rx ry q => h pins s σ H x y v u Q I rx ry (w _ _ _ _ q)
theorem UnRw {f : Value → Sem Value} {r r' : V → Hp → VK → Prop} (h : UnR X f r) (w : ∀ x H Q, r' x H Q → r x H Q) : UnR X f r' := fun pins s σ H x v Q I rx q => h pins s σ H x v Q I rx (w _ _ _ q)
theorem IxRw {r r' : R2} (h : IxR X r) (w : ∀ x y H Q, r' x y H Q → r x y H Q) : IxR X r' := fun va sl pins s σ H x y v u Q I rx ry q => h va sl pins s σ H x y v u Q I rx ry (w _ _ _ _ q)
theorem SlRw {r r' : V → Option Int → Option Int → Hp → VK → Prop} (h : SlR X r) (w : ∀ x y z H Q, r' x y z H Q → r x y z H Q) : SlR X r' := fun pins s σ H x v vl vu lo hi sl Q I rx hs pl pu q => h pins s σ H x v vl vu lo hi sl Q I rx hs pl pu (w _ _ _ _ _ q)
theorem CallRw {f : Value} {r r' : List V → Hp → VK → Prop} (h : CallR X f r) (w : ∀ xs H Q, r' xs H Q → r xs H Q) : CallR X f r' := fun pins s σ H xs us Q I rx q => h pins s σ H xs us Q I rx (w _ _ _ q)
theorem MtRw {id : String} {r r' : V → List V → Hp → VK → Prop} (h : MtR X id r) (w : ∀ x xs H Q, r' x xs H Q → r x xs H Q) : MtR X id r' := fun pins s σ H x xs v us Q I rx rs q => h pins s σ H x xs v us Q I rx rs (w _ _ _ _ q)
theorem POw {e : Option Expr} {t t' : TO} (h : PO X e t) (w : ∀ σ H Q, t' σ H Q → t σ H Q) : PO X e t' := ⟨fun pins s σ H Q I q => h.run pins s σ H Q I (w σ H Q q)⟩
/-! ### names -/
def uVar (i : Nat) : TE := fun σ H Q => match σ[i]? with | some (some v) => Q v H | _ => False
theorem vr (i : Nat) {x : Str} {pos : Pos} (hN : X.N[i]? = some x := by rfl) (hv : Vis X.env.scope x := by first | exact Or.inl rfl | exact Or.inr (Or.inl rfl) | exact Or.inr (Or.inr rfl)) (hd : (x == ("__debug__" : Str)) = false := by decide)
    (hcd : (x == ("__classdict__" : Str)) = false := by decide) : PE X (.Name x pos) (uVar i) := PEw (pe_var hN hv hd hcd) fun σ H Q q => by
  unfold uVar at q
  split at q
  · rename_i v e
    exact ⟨v, e, q⟩
  · exact q.elim
/-! ### what is wanted may be made weaker -/
def upE (t : TE) : TE := fun σ H Q => ∃ Q' : VK, (∀ v H', Q' v H' → Q v H') ∧ t σ H Q'
def upT (t : TT) : TT := fun σ H Q => ∃ Q' : Bool → Hp → Prop, (∀ v H', Q' v H' → Q v H') ∧ t σ H Q'
theorem up {e : Expr} {t : TE} (h : PE X e t) : PE X e (upE t) := ⟨fun pins s σ H Q I q => by
  obtain ⟨Q', w, q⟩ := q
  exact thn (h.run pins s σ H Q' I q) fun v s1 ⟨x, H1, I1, r1, q1⟩ => ⟨x, H1, I1, r1, w _ _ q1⟩⟩
theorem upt {e : Expr} {t : TT} (h : PT X e t) : PT X e (upT t) := ⟨fun pins s σ H Q I q => by
  obtain ⟨Q', w, q⟩ := q
  exact thn (h.run pins s σ H Q' I q) fun v s1 ⟨H1, I1, q1⟩ => ⟨H1, I1, w _ _ q1⟩⟩
theorem upw {e : Expr} {t : TT} (h : PW X e t) : PW X e (upT t) := ⟨fun wh pins s σ H Q I q => by
  obtain ⟨Q', w, q⟩ := q
  exact thn (h.run wh pins s σ H Q' I q) fun v s1 ⟨H1, I1, q1⟩ => ⟨H1, I1, w _ _ q1⟩⟩
/-! ### tests -/
/-- what a truth value hands on -/
def onB (x : V) (Q : Bool → Prop) : Prop := match x with | .bl c => Q c | _ => False
theorem onB_ex {x : V} {Q : Bool → Prop} (h : onB x Q) : ∃ c, x = .bl c ∧ Q c := by
  cases x with
  | bl c => exact ⟨c, rfl, h⟩
  | _ => exact h.elim
/-- b decides -/
def br (c : Bool) (p q : Prop) : Prop := match c with | true => p | false => q
theorem br_if {c : Bool} {p q : Prop} (h : br c p q) : if c = true then p else q := by
  cases c with
  | true => rw [if_pos rfl]; exact h
  | false => rw [if_neg (by decide)]; exact h
theorem br2 {c : Bool} {p q : Prop} (h1 : c = true → p) (h2 : c = false → q) : br c p q := by
  cases c with
  | true => exact h1 rfl
  | false => exact h2 rfl
theorem brT {c : Bool} {p q : Prop} (e : c = true) (h : p) : br c p q := by subst e; exact h
theorem brF {c : Bool} {p q : Prop} (e : c = false) (h : q) : br c p q := by subst e; exact h
def uB (t : TE) : TT := fun σ H Q => t σ H fun x H1 => onB x fun c => Q c H1
theorem tst {e : Expr} {t : TE} (h : PE X e t) (he : ∀ whole, isTrue e X.env whole = (do let v ← whole; standAt e.pos; holding [v] (truthy v)) := by intro _; rfl) : PT X e (uB t) :=
  PTw (pt_val (up h) he) fun σ H Q q => ⟨_, fun v H' z => onB_ex z, q⟩
/-- a comparison as a test -/
theorem tcmp {op : CmpOp} {r : R2} {a b : Expr} {ta tb : TE} {pos : Pos} (ho : OpR X (compareOp op) r) (ha : PE X a ta) (hb : PE X b tb) (hm : behindInMarks op b = false) : PT X (.Compare a [op] [b] pos) (uB (tOp r ta tb)) :=
  PTw (pt_cmpR (r := fun x y H Q => ∃ Q' : VK, (∀ v H', Q' v H' → Q v H') ∧ r x y H Q') (fun pins s σ H x y v u Q I rx ry q => by
    obtain ⟨Q', w, q⟩ := q
    exact thn (ho pins s σ H x y v u Q' I rx ry q) fun v s1 ⟨x, H1, I1, r1, q1⟩ => ⟨x, H1, I1, r1, w _ _ q1⟩) (up ha) (up hb) hm) fun σ H Q q => by
      refine ⟨_, fun v H' z => ?_, q⟩
      refine ⟨_, fun u H2 z2 => ?_, z⟩
      exact ⟨_, fun w H3 z3 => onB_ex z3, z2⟩
def uAnd (t u : TT) : TT := fun σ H Q => t σ H fun c H1 => br c (u σ H1 Q) (Q false H1)
def uOr (t u : TT) : TT := fun σ H Q => t σ H fun c H1 => br c (Q true H1) (u σ H1 Q)
def uNot (t : TT) : TT := fun σ H Q => t σ H fun c H1 => Q (!c) H1
section
variable {a b : Expr} {rest : List Expr} {pos : Pos} {ta tb : TE} {tA tB' : TT}
theorem wand (ha : PT X a tA) (hb : PW X (.BoolOp .And (b :: rest) pos) tB') : PW X (.BoolOp .And (a :: b :: rest) pos) (uAnd tA tB') :=
  PWw (pw_and (upt ha) hb) fun σ H Q q => ⟨_, fun c H' z => br_if z, q⟩
theorem wor (ha : PT X a tA) (hb : PW X (.BoolOp .Or (b :: rest) pos) tB') : PW X (.BoolOp .Or (a :: b :: rest) pos) (uOr tA tB') :=
  PWw (pw_or (upt ha) hb) fun σ H Q q => ⟨_, fun c H' z => br_if z, q⟩
def uAndV (ta tb : TE) : TE := fun σ H Q => ta σ H fun x H1 => onB x fun c => br c (tb σ H1 Q) (Q (.bl false) H1)
def uOrV (ta tb : TE) : TE := fun σ H Q => ta σ H fun x H1 => onB x fun c => br c (Q (.bl true) H1) (tb σ H1 Q)
def uNotV (ta : TE) : TE := fun σ H Q => ta σ H fun x H1 => onB x fun c => Q (.bl (!c)) H1
theorem vand (ha : PE X a ta) (hb : PE X (.BoolOp .And (b :: rest) pos) tb) : PE X (.BoolOp .And (a :: b :: rest) pos) (uAndV ta tb) :=
  PEw (pe_and (up ha) hb) fun σ H Q q => ⟨_, fun x H' z => by obtain ⟨c, e, z⟩ := onB_ex z; exact ⟨c, e, br_if z⟩, q⟩
theorem vor (ha : PE X a ta) (hb : PE X (.BoolOp .Or (b :: rest) pos) tb) : PE X (.BoolOp .Or (a :: b :: rest) pos) (uOrV ta tb) :=
  PEw (pe_or (up ha) hb) fun σ H Q q => ⟨_, fun x H' z => by obtain ⟨c, e, z⟩ := onB_ex z; exact ⟨c, e, br_if z⟩, q⟩
theorem vnot (ha : PE X a ta) : PE X (.UnaryOp .Not a pos) (uNotV ta) :=
  PEw (pe_not (up ha)) fun σ H Q q => ⟨_, fun x H' z => onB_ex z, q⟩
def uIfE (t : TT) (ta tb : TE) : TE := fun σ H Q => t σ H fun c H1 => br c (ta σ H1 Q) (tb σ H1 Q)
theorem vif {c : Expr} (hc : PT X c tA) (ha : PE X a ta) (hb : PE X b tb) : PE X (.IfExp c a b pos) (uIfE tA ta tb) :=
  PEw (pe_ifExp (upt hc) ha hb) fun σ H Q q => ⟨_, fun x H' z => br_if z, q⟩
def uIf (c : TT) (t u : TS) : TS := fun D σ H => c σ H fun b H1 => br b (t D σ H1) (u D σ H1)
theorem sif {c : Expr} {a b : List Stmt} {tc : TT} {t u : TS} (hc : PT X c tc) (ha : PSs X a t) (hb : PSs X b u) : PS X (.If c a b pos) (uIf tc t u) :=
  PSw (ps_if (upt hc) ha hb) fun D σ H q => ⟨_, fun x H' z => br_if z, q⟩
/-- the ways behind an if joined -/
def uCut (t u : TS) : TS := fun D σ H => ∃ Mid : L2.St → Hp → Prop, t { D with nx := Mid } σ H ∧ ∀ σ' H', Mid σ' H' → u D σ' H'
def uChain (r r' : R2) (ta tb tc : TE) : TE := fun σ H Q => ta σ H fun x H1 => tb σ H1 fun y H2 => r x y H2 fun z H3 => onB z fun k => br k (tc σ H3 fun w' H4 => r' y w' H4 Q) (Q (.bl false) H3)
end
/-! ### operators -/
def upR (r : R2) : R2 := fun x y H Q => ∃ Q' : VK, (∀ v H', Q' v H' → Q v H') ∧ r x y H Q'
theorem upO {f : Value → Value → Sem Value} {r : R2} (ho : OpR X f r) : OpR X f (upR r) := fun pins s σ H x y v u Q I rx ry q => by
  obtain ⟨Q', w, q⟩ := q
  exact thn (ho pins s σ H x y v u Q' I rx ry q) fun v s1 ⟨x, H1, I1, r1, q1⟩ => ⟨x, H1, I1, r1, w _ _ q1⟩
theorem vchain {op op' : CmpOp} {r r' : R2} {a b c : Expr} {ta tb tc : TE} {pos : Pos} (ho : OpR X (compareOp op) r) (ho' : OpR X (compareOp op') r') (ha : PE X a ta) (hb : PE X b tb) (hc : PE X c tc)
    (hm : lastMarks [op, op'] [b, c] = false := by with_unfolding_all rfl) : PE X (.Compare a [op, op'] [b, c] pos) (uChain r r' ta tb tc) :=
  PEw (pe_chain (upO ho) ho' (up ha) (up hb) hc hm) fun σ H Q q => by
    refine ⟨_, fun x H' z => ?_, q⟩
    refine ⟨_, fun y H2 z2 => ?_, z⟩
    refine ⟨_, fun y H2 z2 => ?_, z2⟩
    obtain ⟨k, e, z3⟩ := onB_ex z2
    exact ⟨k, e, br_if z3⟩
theorem tchain {op op' : CmpOp} {r r' : R2} {a b c : Expr} {ta tb tc : TE} {pos : Pos} (ho : OpR X (compareOp op) r) (ho' : OpR X (compareOp op') r') (ha : PE X a ta) (hb : PE X b tb) (hc : PE X c tc)
    (hm : lastMarks [op, op'] [b, c] = false := by with_unfolding_all rfl) : PT X (.Compare a [op, op'] [b, c] pos) (uB (uChain r r' ta tb tc)) :=
  PTw (pt_chain (upO ho) (upO ho') (up ha) (up hb) (up hc) hm) fun σ H Q q => by
    refine ⟨_, fun x H' z => ?_, q⟩
    refine ⟨_, fun y H2 z2 => ?_, z⟩
    refine ⟨_, fun y H2 z2 => ?_, z2⟩
    obtain ⟨k, e, z3⟩ := onB_ex z2
    refine ⟨k, e, ?_⟩
    cases k with
    | true =>
      rw [if_pos rfl]
      exact ⟨_, fun y H2 z4 => ⟨_, fun y H3 z5 => onB_ex z5, z4⟩, z3⟩
    | false =>
      rw [if_neg (by decide)]
      exact onB_ex z3
def rPlus (K : PySem.W.Frag) : R2 := fun x y H Q => match x, y with
  | .int i, .int j => Q (.int (i + j)) H
  | .str a, .str b => a.length + b.length ≤ sizeLine ∧ Q (.str (a ++ b)) H
  | .ref a, .ref b => rCat (.ref a) (.ref b) H Q ∨ rCatA K (.ref a) (.ref b) H Q
  | _, _ => False
theorem op_plus : OpR X (binaryOp .Add) (rPlus X.K) := OpRw (OpR.or op_add (OpR.or op_add_str (OpR.or op_cat op_catA))) fun x y H Q q => by
  unfold rPlus at q
  split at q
  · exact .inl ⟨_, _, rfl, rfl, q⟩
  · exact .inr (.inl ⟨_, _, rfl, rfl, q⟩)
  · exact .inr (.inr q)
  · exact q.elim
/-- ints under C -/
def rII (C : Int → Int → Prop) (g : Int → Int → V) : R2 := fun x y H Q => match x, y with
  | .int i, .int j => C i j ∧ Q (g i j) H
  | _, _ => False
def rII0 (g : Int → Int → V) : R2 := fun x y H Q => match x, y with
  | .int i, .int j => Q (g i j) H
  | _, _ => False
theorem ii {f : Value → Value → Sem Value} {C : Int → Int → Prop} {g : Int → Int → V} (h : OpR X f (rI C g)) : OpR X f (rII C g) := OpRw h fun x y H Q q => by
  unfold rII at q
  split at q
  · exact ⟨_, _, rfl, rfl, q⟩
  · exact q.elim
theorem ii0 {f : Value → Value → Sem Value} {g : Int → Int → V} (h : OpR X f (rI0 g)) : OpR X f (rII0 g) := OpRw h fun x y H Q q => by
  unfold rII0 at q
  split at q
  · exact ⟨_, _, rfl, rfl, q⟩
  · exact q.elim
theorem op_minus : OpR X (binaryOp .Sub) (rII0 fun i j => .int (i - j)) := ii0 op_sub
def rMod : R2 := fun x y H Q => match x, y with
  | .int i, .int j => 0 < j ∧ Q (.int (i % j)) H
  | _, _ => False
theorem op_modI : OpR X (binaryOp .Mod) rMod := OpRw op_mod fun x y H Q q => by
  unfold rMod at q
  split at q
  · exact ⟨_, _, rfl, rfl, q⟩
  · exact q.elim
theorem op_divI : OpR X (binaryOp .FloorDiv) (rII CDiv fun i j => .int (i / j)) := ii op_fdiv
theorem op_powI : OpR X (binaryOp .Pow) (rII CPow fun i j => .int (i ^ j.toNat)) := ii op_pow
theorem op_ltI : OpR X (compareOp .Lt) (rII0 fun i j => .bl (decide (i < j))) := ii0 op_lt
theorem op_leI : OpR X (compareOp .LtE) (rII0 fun i j => .bl (decide (i ≤ j))) := ii0 op_le
theorem op_gtI : OpR X (compareOp .Gt) (rII0 fun i j => .bl (decide (j < i))) := ii0 op_gt
theorem op_geI : OpR X (compareOp .GtE) (rII0 fun i j => .bl (decide (j ≤ i))) := ii0 op_ge
/-- is None -/
def rIsNo (neg : Bool) : R2 := fun x y H Q => match y with
  | .non => Q (.bl (if neg then !decide (x = .non) else decide (x = .non))) H
  | _ => False
theorem op_isNo : OpR X (compareOp .Is) (rIsNo false) := OpRw op_isN fun x y H Q q => by
  unfold rIsNo at q
  split at q
  · exact ⟨rfl, q⟩
  · exact q.elim
theorem op_notNo : OpR X (compareOp .IsNot) (rIsNo true) := OpRw op_notN fun x y H Q q => by
  unfold rIsNo at q
  split at q
  · exact ⟨rfl, q⟩
  · exact q.elim
/-- data without dicts, not too deep -/
def shp (d : PyData) : Bool := d.plain && decide (d.depth ≤ 64)
theorem shp_room {A : Around} {d e : PyData} (h : shp d = true) (hu : A.units + 64 < cLine) : A.units + min d.depth e.depth < cLine := by
  have h1 := of_decide_eq_true (Bool.and_eq_true_iff.mp h).2
  have h2 : min d.depth e.depth ≤ d.depth := Nat.min_le_left _ _
  omega
theorem op_eqP (hu : X.A.units + 64 < cLine) : OpR X (compareOp .Eq) (fun x y H Q => ∃ d e, Dp X.K H x d ∧ Dp X.K H y e ∧ shp d = true ∧ shp e = true ∧ Q (.bl (PyData.eqv d e)) H) := by
  intro pins s σ H x y v u Q I rx ry h
  obtain ⟨d, e, hd, he, sd, se, q⟩ := h
  obtain ⟨as, r1⟩ := Dp.reads I d x v hd rx
  obtain ⟨bs, r2⟩ := Dp.reads I e y u he ry
  exact SeqAt.eq_plain r1 r2 (Bool.and_eq_true_iff.mp sd).1 (Bool.and_eq_true_iff.mp se).1 (shp_room sd hu) ⟨.bl _, H, I, rfl, q⟩
theorem op_neP (hu : X.A.units + 64 < cLine) : OpR X (compareOp .NotEq) (fun x y H Q => ∃ d e, Dp X.K H x d ∧ Dp X.K H y e ∧ shp d = true ∧ shp e = true ∧ Q (.bl (!PyData.eqv d e)) H) := by
  intro pins s σ H x y v u Q I rx ry h
  obtain ⟨d, e, hd, he, sd, se, q⟩ := h
  obtain ⟨as, r1⟩ := Dp.reads I d x v hd rx
  obtain ⟨bs, r2⟩ := Dp.reads I e y u he ry
  exact SeqAt.ne_plain r1 r2 (Bool.and_eq_true_iff.mp sd).1 (Bool.and_eq_true_iff.mp se).1 (shp_room sd hu) ⟨.bl _, H, I, rfl, q⟩
/-- ==, !=: scalars, else data at any depth -/
def rSame (K : PySem.W.Frag) (neg : Bool) : R2 := fun x y H Q => match scal x y with
  | true => Q (.bl (if neg then !decide (x = y) else decide (x = y))) H
  | false => ∃ d e, Dp K H x d ∧ Dp K H y e ∧ shp d = true ∧ shp e = true ∧ Q (.bl (if neg then !PyData.eqv d e else PyData.eqv d e)) H
theorem op_same (hu : X.A.units + 64 < cLine) : OpR X (compareOp .Eq) (rSame X.K false) := OpRw (OpR.or op_eq (op_eqP hu)) fun x y H Q q => by
  unfold rSame at q
  split at q
  · rename_i e
    exact .inl ⟨e, q⟩
  · exact .inr q
theorem op_other (hu : X.A.units + 64 < cLine) : OpR X (compareOp .NotEq) (rSame X.K true) := OpRw (OpR.or op_ne (op_neP hu)) fun x y H Q q => by
  unfold rSame at q
  split at q
  · rename_i e
    exact .inl ⟨e, q⟩
  · exact .inr q
/-- in: a text in a text, a flat thing in a list or tuple -/
def subS (i j : Str) : Bool := !(Builtin.Str.occurrences j i 0 j.length 1).isEmpty
theorem subS_one (c : Nat) (z : Str) : subS ⟨#[c]⟩ z = decide (c ∈ z.cps.toList) := PySem.StrLaws.found_one z c
def rInU (K : PySem.W.Frag) (neg : Bool) : R2 := fun x y H Q => match x, y with
  | .str i, .str j => Q (.bl (if neg then !subS i j else subS i j)) H
  | x, .ref p => ∃ xs, (SqL K H p xs ∨ SqT K H p xs) ∧ flatV x = true ∧ xs.all flatV = true ∧ Q (.bl (if neg then !inV x xs else inV x xs)) H
  | _, _ => False
theorem op_inU : OpR X (compareOp .In) (rInU X.K false) := OpRw (OpR.or op_in_str op_in_seq) fun x y H Q q => by
  unfold rInU at q
  split at q
  · exact .inl ⟨_, _, rfl, rfl, q⟩
  · obtain ⟨xs, h⟩ := q
    exact .inr ⟨_, xs, rfl, h⟩
  · exact q.elim
theorem op_notInU : OpR X (compareOp .NotIn) (rInU X.K true) := OpRw (OpR.or op_notin_str op_notIn_seq) fun x y H Q q => by
  unfold rInU at q
  split at q
  · exact .inl ⟨_, _, rfl, rfl, q⟩
  · obtain ⟨xs, h⟩ := q
    exact .inr ⟨_, xs, rfl, h⟩
  · exact q.elim
def rNeg : V → Hp → VK → Prop := fun x H Q => match x with | .int i => Q (.int (-i)) H | _ => False
theorem un_negU : UnR X (unaryOp .USub) rNeg := UnRw un_neg fun x H Q q => by
  unfold rNeg at q
  split at q
  · exact ⟨_, rfl, q⟩
  · exact q.elim
/-! ### subscripts -/
def rGet (K : PySem.W.Frag) : R2 := fun x y H Q => match x, y with
  | .str z, .int i => z.length ≤ sizeLine ∧ ∃ c, atI z.cps.toList i = some c ∧ Q (.str ⟨#[c]⟩) H
  | .ref p, .int i => ∃ xs v, (SqL K H p xs ∨ SqT K H p xs) ∧ atI xs i = some v ∧ Q v H
  | _, _ => False
theorem ix_get : IxR X (rGet X.K) := IxRw ix_seq fun x y H Q q => by
  unfold rGet at q
  split at q
  · obtain ⟨h, c, e, q⟩ := q
    exact .inr (.inr ⟨_, _, c, rfl, rfl, h, e, q⟩)
  · obtain ⟨xs, v, h | h, e, q⟩ := q
    · exact .inl ⟨_, xs, _, v, rfl, rfl, h, e, q⟩
    · exact .inr (.inl ⟨_, xs, _, v, rfl, rfl, h, e, q⟩)
  · exact q.elim
def uPart (t : TE) : TO := fun σ H Q => t σ H fun x H1 => match x with | .int i => Q (some i) H1 | _ => False
theorem po_u {e : Expr} {te : TE} (h : PE X e te) : PO X (some e) (uPart te) := POw (po_some (up h)) fun σ H Q q => ⟨_, fun x H' z => by
  cases x with
  | int i => exact ⟨i, rfl, z⟩
  | _ => exact z.elim, q⟩
def rCut (K : PySem.W.Frag) : V → Option Int → Option Int → Hp → VK → Prop := fun x lo hi H Q => match x with
  | .str z => z.length ≤ sizeLine ∧ Q (.str (cutS z lo hi)) H
  | .ref a => rSlL K (.ref a) lo hi H Q ∨ rSlA K (.ref a) lo hi H Q
  | _ => False
theorem sl_cut : SlR X (rCut X.K) := SlRw (SlR.or sl_str (SlR.or sl_list sl_tupA)) fun x lo hi H Q q => by
  unfold rCut at q
  split at q
  · exact .inl ⟨_, rfl, q⟩
  · exact .inr q
  · exact q.elim
/-! ### built-in calls -/
def rLenU (K : PySem.W.Frag) : List V → Hp → VK → Prop := fun xs H Q => match xs with
  | [.str z] => z.length ≤ sizeLine ∧ Q (.int z.length) H
  | [.ref p] => ∃ ys, (SqL K H p ys ∨ SqT K H p ys) ∧ Q (.int ys.length) H
  | _ => False
theorem call_lenU : CallR X (.builtin "len") (rLenU X.K) := CallRw (CallR.or call_len_str call_len_seq) fun xs H Q q => by
  unfold rLenU at q
  split at q
  · exact .inl ⟨_, rfl, q⟩
  · obtain ⟨ys, h⟩ := q
    exact .inr ⟨_, ys, rfl, h⟩
  · exact q.elim
def r1I (g : Int → V) : List V → Hp → VK → Prop := fun xs H Q => match xs with | [.int i] => Q (g i) H | _ => False
def r2I (g : Int → Int → V) : List V → Hp → VK → Prop := fun xs H Q => match xs with | [.int i, .int j] => Q (g i j) H | _ => False
theorem call_absU : CallR X (.builtin "abs") (r1I fun i => .int (if i < 0 then -i else i)) := CallRw call_abs fun xs H Q q => by
  unfold r1I at q
  split at q
  · exact ⟨_, rfl, q⟩
  · exact q.elim
theorem call_maxU (hc : X.calm = true) : CallR X (.builtin "max") (r2I fun i j => .int (if j > i then j else i)) := CallRw (call_max2 hc) fun xs H Q q => by
  unfold r2I at q
  split at q
  · exact ⟨_, _, rfl, q⟩
  · exact q.elim
theorem call_minU (hc : X.calm = true) : CallR X (.builtin "min") (r2I fun i j => .int (if j < i then j else i)) := CallRw (call_min2 hc) fun xs H Q q => by
  unfold r2I at q
  split at q
  · exact ⟨_, _, rfl, q⟩
  · exact q.elim
def rDm : List V → Hp → VK → Prop := fun xs H Q => match xs with | [.int i, .int j] => CDiv i j ∧ ∀ p, H p = none → Q (.ref p) (upd H p (.tup [.int (i / j), .int (i % j)])) | _ => False
theorem call_dm : CallR X (.builtin "divmod") rDm := CallRw call_divmod fun xs H Q q => by
  unfold rDm at q
  split at q
  · exact ⟨_, _, rfl, q⟩
  · exact q.elim
def rOrd : List V → Hp → VK → Prop := fun xs H Q => match xs with | [.str x] => x.length = 1 ∧ Q (.int (x.cps.getD 0 0 : Nat)) H | _ => False
theorem call_ordU : CallR X (.builtin "ord") rOrd := CallRw call_ord fun xs H Q q => by
  unfold rOrd at q
  split at q
  · exact ⟨_, rfl, q⟩
  · exact q.elim
def rStr : List V → Hp → VK → Prop := fun xs H Q => match xs with | [.str x] => Q (.str x) H | [.int i] => i.natAbs.log2 < 1920 ∧ Q (.str (toString i)) H | _ => False
theorem call_strU : CallR X (.type "str") rStr := CallRw (CallR.or SkE.call_str_str call_str_int) fun xs H Q q => by
  unfold rStr at q
  split at q
  · exact .inl ⟨_, rfl, q⟩
  · exact .inr ⟨_, rfl, q⟩
  · exact q.elim
def rInt1 : List V → Hp → VK → Prop := fun xs H Q => match xs with | [.int i] => Q (.int i) H | [.bl k] => Q (.int (if k then 1 else 0)) H | _ => False
theorem call_intU : CallR X (.type "int") rInt1 := CallRw call_int1 fun xs H Q q => by
  unfold rInt1 at q
  split at q
  · exact .inl ⟨_, rfl, q⟩
  · exact .inr ⟨_, rfl, q⟩
  · exact q.elim
/-- isinstance: one class, or a tuple of classes just laid -/
def rIs (K : PySem.W.Frag) : List V → Hp → VK → Prop := fun xs H Q => match xs with
  | [x, .ty n] => ∃ t b, TyX K H x t ∧ PySem.W.kitOne K t (.type n) = some b ∧ Q (.bl b) H
  | [x, .ref p] => rIsi K [x, .ref p] H Q ∨ rIsiT K [x, .ref p] H Q
  | _ => False
theorem call_isU : CallR X (.builtin "isinstance") (rIs X.K) := CallRw (CallR.or call_isi call_isiT) fun xs H Q q => by
  unfold rIs at q
  split at q
  · obtain ⟨t, b, h, e, q⟩ := q
    exact .inl ⟨_, _, t, _, b, rfl, .ty _, h, e, q⟩
  · exact q
  · exact q.elim
/-! ### targets -/
def uCons (t : TG) (u : TGs) : TGs := fun vs σ H Q => match vs with | v :: r => t v σ H fun σ' H' => u r σ' H' Q | [] => False
def uNil : TGs := fun vs σ H Q => match vs with | [] => Q σ H | _ => False
theorem gs_nil : PGs X [] uNil := PGsw pgs_nil fun v σ H Q q => by
  unfold uNil at q
  split at q
  · exact ⟨rfl, q⟩
  · exact q.elim
theorem gs_cons {e : Expr} {es : List Expr} {t : TG} {u : TGs} (h1 : PG X e t) (h2 : PGs X es u)
    (hs : (assignEach (e :: es) X.env).map (·.2) = assign e X.env :: (assignEach es X.env).map (·.2) := by rfl) : PGs X (e :: es) (uCons t u) := PGsw (pgs_cons h1 h2 hs) fun v σ H Q q => by
  unfold uCons at q
  split at q
  · exact ⟨_, _, rfl, q⟩
  · exact q.elim
/-! ### further: products, joins, displays -/
def uCatN (a : Str) (k : Nat) : List Nat := (List.replicate k a.cps.toList).flatten
def rTimes : R2 := fun x y H Q => match x, y with
  | .int i, .int j => CMul i j ∧ Q (.int (i * j)) H
  | .ref a, .int j => rRep (.ref a) (.int j) H Q
  | _, _ => False
theorem op_times : OpR X (binaryOp .Mult) rTimes := OpRw (OpR.or op_mul op_rep) fun x y H Q q => by
  unfold rTimes at q
  split at q
  · exact .inl ⟨_, _, rfl, rfl, q⟩
  · exact .inr q
  · exact q.elim
def uJoin (K : PySem.W.Frag) (to te : TE) : TE := fun σ H Q => to σ H fun x H1 => match x with
  | .str a => te σ H1 fun y H2 => match y with
    | .ref p => ∃ ys : List Str, (SqL K H2 p (ys.map V.str) ∨ SqT K H2 p (ys.map V.str)) ∧ (ys.map (·.length)).sum + ys.length * a.length ≤ 16777216 ∧ Q (.str (Txt.join a ys)) H2
    | _ => False
  | _ => False
theorem vjoin {o e : Expr} {to te : TE} {apos pos : Pos} (ho : PE X o to) (he : PE X e te) (hs : starEach [e] X.env = [(false, eval e X.env)] := by rfl) (hbase : attributeBase o "join" X.env (eval o X.env) = eval o X.env := by rfl) (hline : (apos.endLine == pos.line) = true := by rfl) :
    PE X (.Call (.Attribute o "join" apos) [e] [] pos) (uJoin X.K to te) := PEw (pe_join (up ho) (up he) hs hbase hline) fun σ H Q q => by
  refine ⟨_, fun x H1 z => ?_, q⟩
  cases x with
  | str a =>
    refine ⟨⟨a, rfl⟩, _, fun y H2 z2 => ?_, z⟩
    cases y with
    | ref p =>
      obtain ⟨ys, h1, h2, h3⟩ := z2
      exact ⟨a, p, ys, rfl, rfl, h1, h2, h3⟩
    | _ => exact z2.elim
  | _ => exact z.elim
/-- a field of an f-string -/
def uFmt (te : TE) : TE := fun σ H Q => te σ H fun x H1 => match x with
  | .str y => y.length ≤ sizeLine ∧ Q (.str y) H1
  | .int i => i.natAbs.log2 < 1920 ∧ Q (.str (toString i)) H1
  | _ => False
theorem vfmt {e : Expr} {te : TE} {pos : Pos} (he : PE X e te) : PE X (.FormattedValue e (-1) none pos) (uFmt te) := PEw (pe_fmt (up he)) fun σ H Q q => by
  refine ⟨_, fun x H1 z => ?_, q⟩
  cases x with
  | str a => exact .inl ⟨a, rfl, z⟩
  | int i => exact .inr ⟨i, rfl, z⟩
  | _ => exact z.elim
end
/-! ### the same rules with the written part as a letter -/
section
variable {X : Cx}
theorem kplus (K : PySem.W.Frag) (h : X.K = K := by rfl) : OpR X (binaryOp .Add) (rPlus K) := by subst h; exact op_plus
theorem ksame (K : PySem.W.Frag) (hu : X.A.units + 64 < cLine) (h : X.K = K := by rfl) : OpR X (compareOp .Eq) (rSame K false) := by subst h; exact op_same hu
theorem kother (K : PySem.W.Frag) (hu : X.A.units + 64 < cLine) (h : X.K = K := by rfl) : OpR X (compareOp .NotEq) (rSame K true) := by subst h; exact op_other hu
theorem kin (K : PySem.W.Frag) (h : X.K = K := by rfl) : OpR X (compareOp .In) (rInU K false) := by subst h; exact op_inU
theorem knotin (K : PySem.W.Frag) (h : X.K = K := by rfl) : OpR X (compareOp .NotIn) (rInU K true) := by subst h; exact op_notInU
theorem kget (K : PySem.W.Frag) (h : X.K = K := by rfl) : IxR X (rGet K) := by subst h; exact ix_get
theorem kcut (K : PySem.W.Frag) (h : X.K = K := by rfl) : SlR X (rCut K) := by subst h; exact sl_cut
theorem klen (K : PySem.W.Frag) (h : X.K = K := by rfl) : CallR X (.builtin "len") (rLenU K) := by subst h; exact call_lenU
theorem kis (K : PySem.W.Frag) (h : X.K = K := by rfl) : CallR X (.builtin "isinstance") (rIs K) := by subst h; exact call_isU
theorem kall (K : PySem.W.Frag) (hc : X.calm = true) (h : X.K = K := by rfl) : CallR X (.builtin "all") (rAll K) := by subst h; exact cr_all hc
theorem kany (K : PySem.W.Frag) (hc : X.calm = true) (h : X.K = K := by rfl) : CallR X (.builtin "any") (rAny K) := by subst h; exact cr_any hc
theorem ksum (K : PySem.W.Frag) (hc : X.calm = true) (h : X.K = K := by rfl) : CallR X (.builtin "sum") (rSum K) := by subst h; exact cr_sum hc
theorem ksorted (K : PySem.W.Frag) (h : X.K = K := by rfl) : CallR X (.builtin "sorted") (rSortedS K) := by subst h; exact cr_sortedS
/-- tuple(xs), list(xs) -/
def rTup (K : PySem.W.Frag) : List V → Hp → VK → Prop := fun xs H Q => match xs with
  | [.ref p] => ∃ ys, (SqL K H p ys ∧ ∀ l, H l = none → Q (.ref l) (upd H l (.tup ys))) ∨ (SqT K H p ys ∧ Q (.ref p) H)
  | _ => False
theorem ktup (K : PySem.W.Frag) (h : X.K = K := by rfl) : CallR X (.type "tuple") (rTup K) := by
  subst h
  refine CallRw call_tuple_of fun xs H Q q => ?_
  unfold rTup at q
  split at q
  · obtain ⟨ys, q⟩ := q
    exact ⟨_, ys, rfl, q⟩
  · exact q.elim
def rLst (K : PySem.W.Frag) : List V → Hp → VK → Prop := fun xs H Q => match xs with
  | [.ref p] => ∃ ys, (SqL K H p ys ∨ SqT K H p ys) ∧ ∀ l, H l = none → Q (.ref l) (upd H l (.lst ys))
  | _ => False
theorem klst (K : PySem.W.Frag) (h : X.K = K := by rfl) : CallR X (.type "list") (rLst K) := by
  subst h
  refine CallRw call_list_of fun xs H Q q => ?_
  unfold rLst at q
  split at q
  · obtain ⟨ys, q⟩ := q
    exact ⟨_, ys, rfl, q⟩
  · exact q.elim
theorem kjoin (K : PySem.W.Frag) {o e : Expr} {to te : TE} {apos pos : Pos} (ho : PE X o to) (he : PE X e te) (h : X.K = K := by rfl) (hs : starEach [e] X.env = [(false, eval e X.env)] := by rfl) (hbase : attributeBase o "join" X.env (eval o X.env) = eval o X.env := by rfl) (hline : (apos.endLine == pos.line) = true := by rfl) :
    PE X (.Call (.Attribute o "join" apos) [e] [] pos) (uJoin K to te) := by subst h; exact vjoin ho he hs hbase hline
/-- xs.append(e) -/
def uApp (to te : TE) : TE := fun σ H Q => to σ H fun x H1 => match x with
  | .ref p => (∃ xs, H1 p = some (.lst xs)) ∧ te σ H1 fun y H2 => ∃ xs, H2 p = some (.lst xs) ∧ xs.length < sizeLine ∧ Q .non (upd H2 p (.lst (xs ++ [y])))
  | _ => False
theorem kapp {K : PySem.W.Frag} {c : Expr} {to te : TE} (h : PE X c (tBM K "list" (fun x xs H Q => ∃ l ys y, x = .ref l ∧ xs = [y] ∧ H l = some (.lst ys) ∧ ys.length < sizeLine ∧ Q .non (upd H l (.lst (ys ++ [y])))) (upE to) (tCons (upE te) tNil))) : PE X c (uApp to te) :=
  PEw h fun σ H Q q => by
    refine ⟨_, fun x H1 z => ?_, q⟩
    cases x with
    | ref p =>
      obtain ⟨⟨xs, hx⟩, z⟩ := z
      refine ⟨.inl ⟨rfl, xs, .inl (.inl hx)⟩, _, fun y H2 z2 => ?_, z⟩
      obtain ⟨ys, h1, h2, h3⟩ := z2
      exact ⟨p, ys, y, rfl, rfl, h1, h2, h3⟩
    | _ => exact z.elim
theorem gtup (K : PySem.W.Frag) {pos : Pos} {es : List Expr} {k : Nat} {t : TGs} (n : Nat) (hc : X.calm = true) (h : PGs X es t) (hK : X.K = K := by rfl)
    (hn : (assignEach es X.env).length = n := by rfl) (hst : (assignEach es X.env).findIdx? (·.1) = none := by rfl) : PG X (.Tuple es k pos) (gTup K n t) := by subst hK; exact pg_tup hc h hn hst
theorem gunl (K : PySem.W.Frag) {pos : Pos} {es : List Expr} {k : Nat} {t : TGs} (n : Nat) (hc : X.calm = true) (h : PGs X es t) (hK : X.K = K := by rfl)
    (hn : (assignEach es X.env).length = n := by rfl) (hst : (assignEach es X.env).findIdx? (·.1) = none := by rfl) : PG X (.Tuple es k pos) (gUnl K n t) := by subst hK; exact pg_unl hc h hn hst
theorem ilist (K : PySem.W.Frag) {tg l : Expr} {tl : TE} (hl : PE X l tl) (h : X.K = K := by rfl) : PI X tg l (iList K tl) := by subst h; exact pi_list hl
theorem itup (K : PySem.W.Frag) {tg l : Expr} {tl : TE} (hl : PE X l tl) (h : X.K = K := by rfl) : PI X tg l (iTup K tl) := by subst h; exact pi_tup hl
theorem krev (K : PySem.W.Frag) {e : Expr} {te : TE} {k : Nat} {p1 p2 p3 pos : Pos} (he : PE X e te) (h : X.K = K := by rfl) : PE X (.Subscript e (.Slice none none (some (.UnaryOp .USub (.Constant (.int 1) k p1) p2)) p3) pos) (tRevL K te) := by subst h; exact pe_revL he
end
/-! ### heaps -/
theorem upd_none {H : Hp} {p q : Addr} {o : HO} (h : upd H p o q = none) : q ≠ p ∧ H q = none := by
  have e : q ≠ p := fun z => by rw [z, upd_same] at h; cases h
  rw [upd_ne e] at h
  exact ⟨e, h⟩
theorem same_new {H : Hp} {p : Addr} {o : HO} (h : H p = none) : Same H (upd H p o) := fun b u e => by
  rw [upd_ne (ne_of_none e h)]
  exact e
/-- all but the object at a is as it was -/
def Keep (a : Addr) (H H' : Hp) : Prop := ∀ b o, b ≠ a → H b = some o → H' b = some o
theorem Keep.refl (a : Addr) (H : Hp) : Keep a H H := fun _ _ _ h => h
theorem Keep.trans {a : Addr} {H H1 H2 : Hp} (x : Keep a H H1) (y : Keep a H1 H2) : Keep a H H2 := fun b o n h => y b o n (x b o n h)
theorem keep_of {a : Addr} {H H1 : Hp} (x : Same H H1) : Keep a H H1 := fun b o _ h => x b o h
theorem Keep.upd {a : Addr} {H H1 : Hp} {o : HO} (x : Keep a H H1) : Keep a H (upd H1 a o) := fun b u n h => by
  rw [upd_ne n]
  exact x b u n h
theorem sqL_of {K : PySem.W.Frag} {H : Hp} {a : Addr} {xs : List V} (h : H a = some (.lst xs)) : SqL K H a xs := .inl (.inl h)
theorem sqT_of {K : PySem.W.Frag} {H : Hp} {a : Addr} {xs : List V} (h : H a = some (.tup xs)) : SqT K H a xs := .inl (.inl h)
end Sk
namespace Sk
open PySem PySem.Spec PyProof.Rows L2
/-! ### texts -/
def okc (c : Nat) : Bool := c == 10 || (Nat.ble 32 c && Nat.ble c 126 && !(c == 37))
def low (c : Nat) : Bool := Nat.ble 97 c && Nat.ble c 122
/-- at most n signs, all of the markup's -/
def TextOk (n : Nat) (z : Str) : Prop := z.length ≤ n ∧ ∀ c ∈ z.cps.toList, okc c = true
/-- a name -/
def NameOk (z : Str) : Prop := 1 ≤ z.length ∧ z.length ≤ 12 ∧ ∀ c ∈ z.cps.toList, low c = true
def okT (n : Nat) : V → Bool
  | .str z => Nat.ble z.length n && z.cps.toList.all okc
  | _ => false
def okN : V → Bool
  | .str z => Nat.ble 1 z.length && Nat.ble z.length 12 && z.cps.toList.all low
  | _ => false
theorem okT_ok {n : Nat} {x : V} (h : okT n x = true) : ∃ z, x = .str z ∧ TextOk n z := by
  cases x with
  | str z =>
    have h : (Nat.ble z.length n && z.cps.toList.all okc) = true := h
    rw [Bool.and_eq_true, List.all_eq_true] at h
    exact ⟨z, rfl, Nat.le_of_ble_eq_true h.1, h.2⟩
  | _ => cases h
theorem okN_ok {x : V} (h : okN x = true) : ∃ z, x = .str z ∧ NameOk z := by
  cases x with
  | str z =>
    have h : (Nat.ble 1 z.length && Nat.ble z.length 12 && z.cps.toList.all low) = true := h
    rw [Bool.and_eq_true, Bool.and_eq_true, List.all_eq_true] at h
    exact ⟨z, rfl, Nat.le_of_ble_eq_true h.1.1, Nat.le_of_ble_eq_true h.1.2, h.2⟩
  | _ => cases h
theorem low_okc {c : Nat} (h : low c = true) : okc c = true := by
  unfold low at h
  unfold okc
  rw [Bool.and_eq_true] at h
  have h1 := Nat.le_of_ble_eq_true h.1
  have h2 := Nat.le_of_ble_eq_true h.2
  have e1 : Nat.ble 32 c = true := Nat.ble_eq_true_of_le (by omega)
  have e2 : Nat.ble c 126 = true := Nat.ble_eq_true_of_le (by omega)
  have e3 : (c == 37) = false := beq_eq_false_iff_ne.mpr (by omega)
  rw [e1, e2, e3]
  simp
theorem NameOk.text {z : Str} (h : NameOk z) : TextOk 12 z := ⟨h.2.1, fun c hc => low_okc (h.2.2 c hc)⟩
theorem TextOk.mono {m n : Nat} {z : Str} (h : TextOk m z) (l : m ≤ n) : TextOk n z := ⟨Nat.le_trans h.1 l, h.2⟩
theorem app_list (x y : Str) : (x ++ y).cps.toList = x.cps.toList ++ y.cps.toList := by
  show (x.cps ++ y.cps).toList = _
  rw [Array.toList_append]
theorem app_len (x y : Str) : (x ++ y).length = x.length + y.length := by
  show (x.cps ++ y.cps).size = _
  rw [Array.size_append]
  rfl
theorem len_list (x : Str) : x.length = x.cps.toList.length := by rw [Array.length_toList]; rfl
theorem str_ext {x y : Str} (h : x.cps.toList = y.cps.toList) : x = y := by
  cases x with | mk a => cases y with | mk b =>
  have e : a = b := Array.toList_inj.mp h
  rw [e]
theorem TextOk.app {m n : Nat} {x y : Str} (hx : TextOk m x) (hy : TextOk n y) : TextOk (m + n) (x ++ y) := by
  refine ⟨by rw [app_len]; have := hx.1; have := hy.1; omega, fun c hc => ?_⟩
  rw [app_list] at hc
  rcases List.mem_append.mp hc with h | h
  · exact hx.2 c h
  · exact hy.2 c h
theorem size_le {n : Nat} (h : n ≤ 100000) : n ≤ sizeLine := Nat.le_trans h (by decide)
theorem size_lt {n : Nat} (h : n < 100000) : n < sizeLine := Nat.lt_of_lt_of_le h (by decide)
/-! ### items -/
theorem atI_in {α : Type} {xs : List α} {i : Int} (h0 : 0 ≤ i) (h1 : i < xs.length) : ∃ v, atI xs i = some v ∧ v ∈ xs := by
  have hl : i.toNat < xs.length := by omega
  refine ⟨xs[i.toNat], ?_, List.getElem_mem hl⟩
  unfold atI ixN
  rw [if_pos h0, if_pos h1]
  exact List.getElem?_eq_getElem hl
theorem atI_all {α : Type} {xs : List α} {i : Int} (P : α → Prop) (h0 : 0 ≤ i) (h1 : i < xs.length) (h : ∀ x ∈ xs, P x) : ∃ v, atI xs i = some v ∧ P v := by
  obtain ⟨v, e, m⟩ := atI_in h0 h1
  exact ⟨v, e, h v m⟩
theorem all_okT {n : Nat} {xs : List V} (h : xs.all (okT n) = true) : ∀ x ∈ xs, ∃ z, x = .str z ∧ TextOk n z := fun x hx => okT_ok (List.all_eq_true.mp h x hx)
theorem all_okN {xs : List V} (h : xs.all okN = true) : ∀ x ∈ xs, ∃ z, x = .str z ∧ NameOk z := fun x hx => okN_ok (List.all_eq_true.mp h x hx)
/-! ### a pool: a state, the digits, the number of draws -/
def Pool (H : Hp) (a : Addr) : Prop := ∃ s d n : Int, H a = some (.lst [.int s, .int d, .int n]) ∧ 0 ≤ s ∧ s < 1000000007 ∧ 0 ≤ d
theorem Pool.keep {H H' : Hp} {a : Addr} (h : Pool H a) (e : H' a = H a) : Pool H' a := by
  obtain ⟨s, d, n, h1, h2⟩ := h
  exact ⟨s, d, n, e.trans h1, h2⟩
theorem Pool.same {H H' : Hp} {a : Addr} (h : Pool H a) (e : Same H H') : Pool H' a := by
  obtain ⟨s, d, n, h1, h2⟩ := h
  exact ⟨s, d, n, e _ _ h1, h2⟩
theorem Pool.ne {H : Hp} {a b : Addr} (h : Pool H a) (e : H b = none) : b ≠ a := fun z => by
  obtain ⟨s, d, n, h1, _⟩ := h
  rw [z, h1] at e
  cases e
theorem Pool.new {H : Hp} {a b : Addr} {o : HO} (h : Pool H a) (e : b ≠ a) : Pool (upd H b o) a := h.keep (upd_ne e.symm)
theorem Keep.free {a b : Addr} {H H' : Hp} (k : Keep a H H') (e : H' b = none) (ne : b ≠ a) : H b = none := by
  cases q : H b with
  | none => rfl
  | some o => rw [k b o ne q] at e; cases e
/-- lists may change, all else stays -/
def isLst : HO → Bool
  | .lst _ => true
  | _ => false
def Stay (H H' : Hp) : Prop := ∀ b o, isLst o = false → H b = some o → H' b = some o
theorem Stay.refl (H : Hp) : Stay H H := fun _ _ _ h => h
theorem Stay.trans {H H1 H2 : Hp} (x : Stay H H1) (y : Stay H1 H2) : Stay H H2 := fun b o n h => y b o n (x b o n h)
theorem stay_of {H H' : Hp} (x : Same H H') : Stay H H' := fun b o _ h => x b o h
theorem Keep.stay {a : Addr} {H H' : Hp} (k : Keep a H H') (p : Pool H a) : Stay H H' := fun b o l h => by
  refine k b o (fun z => ?_) h
  obtain ⟨s, d, n, h1, _⟩ := p
  rw [z, h1] at h
  cases h
  cases l
theorem Stay.lst {H H' : Hp} {D : Addr} {xs ys : List V} (s : Stay H H') (h : H' D = some (.lst xs)) : Stay H (upd H' D (.lst ys)) := fun b o l e => by
  have e2 := s b o l e
  have n : b ≠ D := fun z => by
    rw [z, h] at e2
    cases e2
    cases l
  rw [upd_ne n]
  exact e2
theorem stay_new {H : Hp} {p : Addr} {o : HO} (h : H p = none) : Stay H (upd H p o) := stay_of (same_new h)
/-! ### comprehensions: R what an element's evaluation keeps, J what stands throughout -/
structure Fr (R : Hp → Hp → Prop) (J : Hp → Prop) (D : Addr) : Prop where
  refl : ∀ H, R H H
  trans : ∀ {H H1 H2}, R H H1 → R H1 H2 → R H H2
  new : ∀ {H H' o}, R H H' → H D = none → R H (upd H' D o)
  keep : ∀ {H H' o}, R H H' → H D = some o → H' D = some o
  stay : ∀ {H H'}, J H → R H H' → Stay H H'
  jupd : ∀ {H o}, J H → J (upd H D o)
theorem fr_keep {a D : Addr} (ne : D ≠ a) : Fr (Keep a) (fun H => Pool H a) D where
  refl := fun H => Keep.refl a H
  trans := fun x y => x.trans y
  new := fun x h b o nb hb => by rw [upd_ne (ne_of_none hb h)]; exact x b o nb hb
  keep := fun x h => x D _ ne h
  stay := fun p k => k.stay p
  jupd := fun p => p.new ne
theorem fr_same {D : Addr} : Fr Same (fun _ => True) D where
  refl := fun H => Same.refl H
  trans := fun x y => x.trans y
  new := fun x h b o hb => by rw [upd_ne (ne_of_none hb h)]; exact x b o hb
  keep := fun x h => x D _ h
  stay := fun _ k => stay_of k
  jupd := fun p => p
def accP (R : Hp → Hp → Prop) (J : Hp → Prop) (Pp : Nat → V → Hp → Prop) (D : Addr) (H1 : Hp) (i : Nat) (H : Hp) : Prop :=
  J H ∧ R H1 H ∧ ∃ ys, ys.length = i ∧ H D = some (.lst ys) ∧ ∀ (i : Nat) (y : V), ys[i]? = some y → Pp i y H
section
variable {R : Hp → Hp → Prop} {J : Hp → Prop} {D : Addr} {Pp : Nat → V → Hp → Prop} {H1 : Hp}
theorem acc_start (F : Fr R J D) (j : J H1) (hD : H1 D = none) : accP R J Pp D H1 0 (upd H1 D (.lst [])) :=
  ⟨F.jupd j, F.new (F.refl H1) hD, [], rfl, upd_same, fun i y e => by simp at e⟩
theorem acc_turn (F : Fr R J D) (hD : H1 D = none) (mono : ∀ i v H H', Pp i v H → Stay H H' → Pp i v H') {i : Nat} {H H4 : Hp} {y : V} (hi : i < 100000) (v : accP R J Pp D H1 i H) (z : J H4 ∧ R H H4 ∧ Pp i y H4) :
    ∃ acc, H4 D = some (.lst acc) ∧ acc.length < sizeLine ∧ accP R J Pp D H1 (i + 1) (upd H4 D (.lst (acc ++ [y]))) := by
  obtain ⟨p1, k1, ys, l1, e1, q1⟩ := v
  obtain ⟨p4, k4, q4⟩ := z
  have e4 : H4 D = some (.lst ys) := F.keep k4 e1
  refine ⟨ys, e4, size_lt (by omega), F.jupd p4, F.new (F.trans k1 k4) hD, ys ++ [y], by simp [l1], upd_same, fun i2 y2 e2 => ?_⟩
  have st : Stay H4 (upd H4 D (.lst (ys ++ [y]))) := (Stay.refl H4).lst e4
  rcases Nat.lt_trichotomy i2 ys.length with hl | hl | hl
  · rw [List.getElem?_append_left hl] at e2
    exact mono _ _ _ _ (mono _ _ _ _ (q1 i2 y2 e2) (F.stay p1 k4)) st
  · subst hl
    rw [List.getElem?_append_right (Nat.le_refl _), Nat.sub_self] at e2
    cases e2
    rw [l1]
    exact mono _ _ _ _ q4 st
  · rw [List.getElem?_eq_none (by simp; omega)] at e2
    cases e2
/-- [e for k in range(n)] -/
theorem lcr {n j : Nat} {lo : Int} {te : TE} {vs : List Nat} {σ : L2.St} {Qd : Hp → Prop} (F : Fr R J D) (Pp : Nat → V → Hp → Prop) (hp : J H1) (hD : H1 D = none) (hn : n < 100000)
    (mono : ∀ i v H H', Pp i v H → Stay H H' → Pp i v H') (hw : ∀ x, wipe ((wipe σ vs).set j (some x)) vs = wipe σ vs)
    (turn : ∀ i H, i < n → J H → R H1 H → te ((wipe σ vs).set j (some (.int (lo + i)))) H (fun y H4 => J H4 ∧ R H H4 ∧ Pp i y H4))
    (hd : ∀ H ys, J H → R H1 H → ys.length = n → H D = some (.lst ys) → (∀ (i : Nat) (y : V), ys[i]? = some y → Pp i y H) → Qd H) :
    ∃ W : Nat → Nat → Hp → Prop, (∃ m, W 0 m (upd H1 D (.lst []))) ∧ ∀ i m H, W i m H →
      ((Itr lo n).stop i H ∧ Qd H) ∨ ((Itr lo n).go i H ∧ ∃ Nx : Hp → Prop, (∀ H', Nx H' → ∃ m', m' < m ∧ W (i + 1) m' H') ∧ ∀ x H', (Itr lo n).yld i H x H' → gName j x (wipe σ vs) H' fun σ2 H2 => wipe σ2 vs = wipe σ vs ∧ tYes σ2 H2 fun b H3 =>
        if b = true then upE te σ2 H3 fun y H4 => ∃ acc, H4 D = some (.lst acc) ∧ acc.length < sizeLine ∧ Nx (upd H4 D (.lst (acc ++ [y]))) else Nx H3) := by
  refine lc_range (accP R J Pp D H1) (acc_start F hp hD) (fun i H hi hv => ?_) (fun H hv => ?_)
  · refine ⟨hw _, ?_⟩
    dsimp only [tYes]
    rw [if_pos rfl]
    exact ⟨_, fun y H4 z => acc_turn F hD mono (by omega) hv z, turn i H hi hv.1 hv.2.1⟩
  · obtain ⟨p1, k1, ys, l1, e1, q1⟩ := hv
    exact hd H ys p1 k1 l1 e1 q1
/-- [e for x in xs], a list that stays -/
theorem lcl {K : PySem.W.Frag} {a : Addr} {xs : List V} {j : Nat} {te : TE} {vs : List Nat} {σ : L2.St} {Qd : Hp → Prop} (F : Fr R J D) (Pp : Nat → V → Hp → Prop) (hp : J H1) (hD : H1 D = none) (hn : xs.length < 100000)
    (hS : ∀ H, J H → R H1 H → SqL K H a xs)
    (mono : ∀ i v H H', Pp i v H → Stay H H' → Pp i v H') (hw : ∀ x, wipe ((wipe σ vs).set j (some x)) vs = wipe σ vs)
    (turn : ∀ (i : Nat) x H, xs[i]? = some x → J H → R H1 H → te ((wipe σ vs).set j (some x)) H (fun y H4 => J H4 ∧ R H H4 ∧ Pp i y H4))
    (hd : ∀ H ys, J H → R H1 H → ys.length = xs.length → H D = some (.lst ys) → (∀ (i : Nat) (y : V), ys[i]? = some y → Pp i y H) → Qd H) :
    ∃ W : Nat → Nat → Hp → Prop, (∃ m, W 0 m (upd H1 D (.lst []))) ∧ ∀ i m H, W i m H →
      ((Itl K a).stop i H ∧ Qd H) ∨ ((Itl K a).go i H ∧ ∃ Nx : Hp → Prop, (∀ H', Nx H' → ∃ m', m' < m ∧ W (i + 1) m' H') ∧ ∀ x H', (Itl K a).yld i H x H' → gName j x (wipe σ vs) H' fun σ2 H2 => wipe σ2 vs = wipe σ vs ∧ tYes σ2 H2 fun b H3 =>
        if b = true then upE te σ2 H3 fun y H4 => ∃ acc, H4 D = some (.lst acc) ∧ acc.length < sizeLine ∧ Nx (upd H4 D (.lst (acc ++ [y]))) else Nx H3) := by
  refine lc_list (xs := xs) (accP R J Pp D H1) (acc_start F hp hD) (fun i H _ hv => hS H hv.1 hv.2.1) (fun i x H hx hv => ?_) (fun H hv => ?_)
  · refine ⟨hw _, ?_⟩
    dsimp only [tYes]
    rw [if_pos rfl]
    have hi : i < xs.length := (List.getElem?_eq_some_iff.mp hx).1
    exact ⟨_, fun y H4 z => acc_turn F hD mono (by omega) hv z, turn i x H hx hv.1 hv.2.1⟩
  · obtain ⟨p1, k1, ys, l1, e1, q1⟩ := hv
    exact hd H ys p1 k1 l1 e1 q1
/-- [e for x in t], a tuple -/
theorem lct {K : PySem.W.Frag} {a : Addr} {xs : List V} {j : Nat} {te : TE} {vs : List Nat} {σ : L2.St} {Qd : Hp → Prop} (F : Fr R J D) (Pp : Nat → V → Hp → Prop) (hp : J H1) (hD : H1 D = none) (hn : xs.length < 100000)
    (hS : ∀ H, J H → R H1 H → SqT K H a xs)
    (mono : ∀ i v H H', Pp i v H → Stay H H' → Pp i v H') (hw : ∀ x, wipe ((wipe σ vs).set j (some x)) vs = wipe σ vs)
    (turn : ∀ (i : Nat) x H, xs[i]? = some x → J H → R H1 H → te ((wipe σ vs).set j (some x)) H (fun y H4 => J H4 ∧ R H H4 ∧ Pp i y H4))
    (hd : ∀ H ys, J H → R H1 H → ys.length = xs.length → H D = some (.lst ys) → (∀ (i : Nat) (y : V), ys[i]? = some y → Pp i y H) → Qd H) :
    ∃ W : Nat → Nat → Hp → Prop, (∃ m, W 0 m (upd H1 D (.lst []))) ∧ ∀ i m H, W i m H →
      ((Itt K a).stop i H ∧ Qd H) ∨ ((Itt K a).go i H ∧ ∃ Nx : Hp → Prop, (∀ H', Nx H' → ∃ m', m' < m ∧ W (i + 1) m' H') ∧ ∀ x H', (Itt K a).yld i H x H' → gName j x (wipe σ vs) H' fun σ2 H2 => wipe σ2 vs = wipe σ vs ∧ tYes σ2 H2 fun b H3 =>
        if b = true then upE te σ2 H3 fun y H4 => ∃ acc, H4 D = some (.lst acc) ∧ acc.length < sizeLine ∧ Nx (upd H4 D (.lst (acc ++ [y]))) else Nx H3) := by
  refine lc_tup (xs := xs) (accP R J Pp D H1) (acc_start F hp hD) (fun i H _ hv => hS H hv.1 hv.2.1) (fun i x H hx hv => ?_) (fun H hv => ?_)
  · refine ⟨hw _, ?_⟩
    dsimp only [tYes]
    rw [if_pos rfl]
    have hi : i < xs.length := (List.getElem?_eq_some_iff.mp hx).1
    exact ⟨_, fun y H4 z => acc_turn F hD mono (by omega) hv z, turn i x H hx hv.1 hv.2.1⟩
  · obtain ⟨p1, k1, ys, l1, e1, q1⟩ := hv
    exact hd H ys p1 k1 l1 e1 q1
end
theorem strs_of {n : Nat} {ys : List V} (h : ∀ (i : Nat) (y : V), ys[i]? = some y → ∃ z, y = V.str z ∧ TextOk n z) : ∃ zs : List Str, ys = zs.map V.str ∧ ∀ z ∈ zs, TextOk n z := by
  induction ys with
  | nil => exact ⟨[], rfl, fun z hz => by cases hz⟩
  | cons y r ih =>
    obtain ⟨z, rfl, tz⟩ := h 0 y rfl
    obtain ⟨zs, rfl, tzs⟩ := ih fun i y e => h (i + 1) y e
    refine ⟨z :: zs, rfl, fun x hx => ?_⟩
    rcases List.mem_cons.mp hx with e | e
    · rw [e]; exact tz
    · exact tzs x e
theorem sum_le1 {zs : List Str} : (∀ z ∈ zs, z.length ≤ 1) → (zs.map (·.length)).sum ≤ zs.length := by
  induction zs with
  | nil => intro _; exact Nat.le_refl _
  | cons z r ih =>
    intro h
    have h1 := h z List.mem_cons_self
    have h2 := ih fun x hx => h x (List.mem_cons_of_mem _ hx)
    rw [List.map_cons, List.sum_cons, List.length_cons]
    omega
/-- ''.join -/
theorem joinL_nil : ∀ ps : List (List Nat), TL.joinL [] ps = ps.flatten
  | [] => rfl
  | [p] => by show p = [p].flatten; simp
  | p :: q :: r => by
    show p ++ ([] ++ TL.joinL [] (q :: r)) = _
    rw [joinL_nil (q :: r)]
    simp
theorem join_list (y : Str) (zs : List Str) : (Txt.join y zs).cps.toList = TL.joinL y.cps.toList (zs.map TL.tl) := by
  rw [TL.join_eq]
  exact TL.tl_join y zs
theorem join_empty {y : Str} (hy : y.cps.toList = []) (zs : List Str) : (Txt.join y zs).cps.toList = (zs.map fun z => z.cps.toList).flatten := by
  rw [join_list, hy, joinL_nil]
theorem join_ok {y : Str} (hy : y.cps.toList = []) {zs : List Str} (h : ∀ z ∈ zs, TextOk 1 z) : TextOk zs.length (Txt.join y zs) := by
  have e := join_empty hy zs
  refine ⟨?_, fun c hc => ?_⟩
  · rw [len_list, e, List.length_flatten, List.map_map]
    have := sum_le1 fun z hz => (h z hz).1
    have e2 : (List.length ∘ fun z : Str => z.cps.toList) = fun z => z.length := funext fun z => (len_list z).symm
    rw [e2]
    exact this
  · rw [e] at hc
    obtain ⟨l, hl, hc⟩ := List.mem_flatten.mp hc
    obtain ⟨z, hz, rfl⟩ := List.mem_map.mp hl
    exact (h z hz).2 c hc
/-! ### text * int -/
def rRepS : R2 := fun x y H Q => match x, y with
  | .str a, .int j => 0 ≤ j ∧ j ≤ 1000 ∧ a.length ≤ 1000 ∧ ∀ z : Str, z.cps.toList = (List.replicate j.toNat a.cps.toList).flatten → Q (.str z) H
  | _, _ => False
theorem foldl_rep (c : Array Nat) : ∀ (n : Nat) (acc : Array Nat), ((List.replicate n c).foldl (· ++ ·) acc).toList = acc.toList ++ (List.replicate n c.toList).flatten
  | 0, acc => by simp
  | n + 1, acc => by
    rw [List.replicate_succ, List.foldl_cons, foldl_rep c n, List.replicate_succ, List.flatten_cons, Array.toList_append, List.append_assoc]
section
variable {X : Cx}
theorem op_repS : OpR X (binaryOp .Mult) rRepS := by
  intro pins s σ H x y v u Q I rx ry q
  unfold rRepS at q
  split at q
  · rename_i a j
    obtain ⟨h0, h1, h2, q⟩ := q
    obtain ⟨t, rfl⟩ := rx
    obtain ⟨t', rfl⟩ := ry
    have hd : (decide (j < -(2 ^ 63 : Int)) || decide (j ≥ 2 ^ 63)) = false := by
      rw [decide_eq_false (by omega), decide_eq_false (by omega)]
      rfl
    have hm : a.length * j.toNat ≤ 1000 * 1000 := Nat.mul_le_mul h2 (by omega)
    refine PySem.P.mul_str hd (fun n1 _ => ?_) (fun n1 _ => ?_) ?_
    · intro z
      have : (a.length : Int) ≤ 1000 := by omega
      have h3 : (1000 : Int) ≤ (2 ^ 63 - 1) / j := by
        refine (Int.le_ediv_iff_mul_le (by omega)).mpr ?_
        have : 1000 * j ≤ 1000 * 1000 := Int.mul_le_mul_of_nonneg_left h1 (by decide)
        omega
      omega
    · unfold Builtin.Str.tooLong
      refine decide_eq_false ?_
      intro z
      have : sizeLine ≥ 1000 * 1000 := by decide
      omega
    · by_cases c1 : j < 1
      · rw [if_pos c1]
        have e : j.toNat = 0 := by omega
        exact ⟨by decide, .str Str.empty, H, I.tok _, ⟨_, rfl⟩, q _ (by rw [e]; rfl)⟩
      · rw [if_neg c1]
        by_cases c2 : (j == 1 || a.length == 0) = true
        · rw [if_pos c2]
          refine ⟨.str a, H, I, ⟨_, rfl⟩, q _ ?_⟩
          rw [Bool.or_eq_true] at c2
          rcases c2 with c2 | c2
          · have e : j = 1 := by simpa using c2
            rw [e]
            show a.cps.toList = a.cps.toList ++ []
            rw [List.append_nil]
          · have e : a.cps.toList = [] := by
              have : a.length = 0 := by simpa using c2
              rw [len_list] at this
              exact List.length_eq_zero_iff.mp this
            rw [e]
            simp
        · rw [if_neg c2]
          have el : (List.replicate j.toNat a.cps).foldl (· ++ ·) #[] = (List.replicate j.toNat a.cps).foldl (· ++ ·) #[] := rfl
          have e := foldl_rep a.cps j.toNat #[]
          refine ⟨?_, .str _, H, I.tok _, ⟨_, rfl⟩, q _ ?_⟩
          · show ((List.replicate j.toNat a.cps).foldl (· ++ ·) #[]).size ≤ sizeLine
            rw [← Array.length_toList, e]
            simp
            rw [show a.cps.size = a.length from rfl, Nat.mul_comm]
            exact Nat.le_trans hm (by decide)
          · rw [e]
            rfl
  · exact q.elim
def rMul : R2 := fun x y H Q => match x, y with
  | .int i, .int j => CMul i j ∧ Q (.int (i * j)) H
  | .ref a, .int j => rRep (.ref a) (.int j) H Q
  | .str a, .int j => 0 ≤ j ∧ j ≤ 1000 ∧ a.length ≤ 1000 ∧ ∀ z : Str, z.cps.toList = (List.replicate j.toNat a.cps.toList).flatten → Q (.str z) H
  | _, _ => False
theorem op_mulU : OpR X (binaryOp .Mult) rMul := OpRw (OpR.or op_times op_repS) fun x y H Q q => by
  unfold rMul at q
  split at q
  · exact .inl q
  · exact .inl q
  · exact .inr q
  · exact q.elim
end
end Sk
namespace Sk
open PySem PySem.Spec PyProof.Rows L2
/-! ### values as they stand in a heap -/
def FlatOk : V → Prop
  | .non => True
  | .bl _ => True
  | .int i => i.natAbs ≤ 10 ^ 30
  | .str z => TextOk 24 z
  | _ => False
def DictOk (kvs : List (Key × V)) : Prop := kvs.length ≤ 3 ∧ (kvs.map (·.1)).Nodup ∧ ∀ p ∈ kvs, ∃ w, p.1 = .inr w ∧ NameOk w
def GoodV (H : Hp) : Nat → V → Prop
  | 0, v => FlatOk v
  | n + 1, v => FlatOk v ∨ (∃ a vs, v = .ref a ∧ H a = some (.tup vs) ∧ vs.length ≤ 3 ∧ ∀ x ∈ vs, GoodV H n x) ∨ (∃ a kvs, v = .ref a ∧ H a = some (.dK kvs) ∧ DictOk kvs ∧ ∀ p ∈ kvs, GoodV H n p.2)
theorem FlatOk.good {H : Hp} {v : V} (h : FlatOk v) : ∀ n, GoodV H n v
  | 0 => h
  | _ + 1 => .inl h
theorem GoodV.mono {H H' : Hp} (s : Stay H H') : ∀ (n : Nat) (v : V), GoodV H n v → GoodV H' n v
  | 0, _, h => h
  | n + 1, v, h => by
    rcases h with h | ⟨a, vs, e, h1, h2, h3⟩ | ⟨a, kvs, e, h1, h2, h3⟩
    · exact .inl h
    · exact .inr (.inl ⟨a, vs, e, s _ _ rfl h1, h2, fun x hx => GoodV.mono s n x (h3 x hx)⟩)
    · exact .inr (.inr ⟨a, kvs, e, s _ _ rfl h1, h2, fun p hp => GoodV.mono s n p.2 (h3 p hp)⟩)
theorem GoodV.up {H : Hp} : ∀ (n : Nat) (v : V), GoodV H n v → GoodV H (n + 1) v
  | 0, _, h => .inl h
  | n + 1, v, h => by
    rcases h with h | ⟨a, vs, e, h1, h2, h3⟩ | ⟨a, kvs, e, h1, h2, h3⟩
    · exact .inl h
    · exact .inr (.inl ⟨a, vs, e, h1, h2, fun x hx => GoodV.up n x (h3 x hx)⟩)
    · exact .inr (.inr ⟨a, kvs, e, h1, h2, fun p hp => GoodV.up n p.2 (h3 p hp)⟩)
/-- a key that is there gets another value -/
theorem put_keys {kvs : List (Key × V)} {k : Key} {x : V} (h : (valV kvs k).isSome = true) : (putK kvs k x).map (·.1) = kvs.map (·.1) := by
  unfold putK
  rw [if_pos (by rw [valV_any]; exact h), List.map_map]
  refine List.map_congr_left fun p _ => ?_
  show (if p.1 = k then (p.1, x) else p).1 = p.1
  split <;> rfl
theorem put_mem {kvs : List (Key × V)} {k : Key} {x : V} {p : Key × V} (h : p ∈ putK kvs k x) : p ∈ kvs ∨ (p.1 = k ∧ p.2 = x) := by
  unfold putK at h
  split at h
  · obtain ⟨q, hq, e⟩ := List.mem_map.mp h
    split at e
    · rename_i hk
      rw [← e]
      exact .inr ⟨hk, rfl⟩
    · rw [← e]
      exact .inl hq
  · rcases List.mem_append.mp h with h | h
    · exact .inl h
    · have : p = (k, x) := by simpa using h
      rw [this]
      exact .inr ⟨rfl, rfl⟩
theorem DictOk.put {kvs : List (Key × V)} {k : Key} {x : V} (d : DictOk kvs) (h : (valV kvs k).isSome = true) : DictOk (putK kvs k x) := by
  have e := put_keys (x := x) h
  refine ⟨?_, by rw [e]; exact d.2.1, fun p hp => ?_⟩
  · have l := congrArg List.length e
    rw [List.length_map, List.length_map] at l
    rw [l]
    exact d.1
  · have hm : p.1 ∈ (putK kvs k x).map (·.1) := List.mem_map_of_mem hp
    rw [e] at hm
    obtain ⟨q, hq, eq⟩ := List.mem_map.mp hm
    rw [← eq]
    exact d.2.2 q hq
theorem GoodV.put {G : Hp} {c : Addr} {kvs : List (Key × V)} {k : Key} {x : V} (hc : G c = some (.dK kvs)) (h : (valV kvs k).isSome = true) (hx : FlatOk x) : ∀ (n : Nat) (v : V), GoodV G n v → GoodV (upd G c (.dK (putK kvs k x))) n v
  | 0, _, g => g
  | n + 1, v, g => by
    rcases g with g | ⟨a, vs, e, h1, h2, h3⟩ | ⟨a, ws, e, h1, h2, h3⟩
    · exact .inl g
    · refine .inr (.inl ⟨a, vs, e, ?_, h2, fun x hx' => GoodV.put hc h hx n x (h3 x hx')⟩)
      rw [upd_ne (fun z => by rw [z, hc] at h1; cases h1)]
      exact h1
    · by_cases z : a = c
      · subst z
        rw [hc] at h1
        cases h1
        refine .inr (.inr ⟨a, _, e, upd_same, h2.put h, fun p hp => ?_⟩)
        rcases put_mem hp with hp | ⟨_, hp⟩
        · exact GoodV.put hc h hx n _ (h3 p hp)
        · rw [hp]
          exact hx.good n
      · refine .inr (.inr ⟨a, ws, e, ?_, h2, fun p hp => GoodV.put hc h hx n _ (h3 p hp)⟩)
        rw [upd_ne z]
        exact h1
/-! ### the part of a heap that is new -/
def newP (H H' : Hp) : Hp := fun b => match H b with | some _ => none | none => H' b
theorem newP_at {H H' : Hp} {b : Addr} (h : H b = none) : newP H H' b = H' b := by unfold newP; rw [h]
theorem newP_some {H H' : Hp} {b : Addr} {o : HO} (h : newP H H' b = some o) : H b = none ∧ H' b = some o := by
  unfold newP at h
  cases e : H b with
  | none => rw [e] at h; exact ⟨rfl, h⟩
  | some u => rw [e] at h; cases h
theorem newP_stay {H H' : Hp} : Stay (newP H H') H' := fun b o _ h => (newP_some h).2
/-- more was there before: less is new -/
theorem newP_less {H H1 H2 : Hp} (h : ∀ b, H1 b = none → H b = none) : Stay (newP H1 H2) (newP H H2) := fun b o _ e => by
  obtain ⟨e1, e2⟩ := newP_some e
  rw [newP_at (h b e1)]
  exact e2
theorem newP_on {H H1 H2 : Hp} (s : Stay H1 H2) : Stay (newP H H1) (newP H H2) := fun b o l e => by
  obtain ⟨e1, e2⟩ := newP_some e
  rw [newP_at e1]
  exact s b o l e2
theorem Keep.dom {a : Addr} {H H' : Hp} (k : Keep a H H') (p : Pool H' a) : ∀ b, H' b = none → H b = none := fun b e => k.free e (p.ne e)
/-- all but d -/
def hide (d : Addr) (H : Hp) : Hp := fun b => if b = d then none else H b
theorem hide_ne {d b : Addr} {H : Hp} (h : b ≠ d) : hide d H b = H b := by unfold hide; rw [if_neg h]
theorem hide_some {d b : Addr} {H : Hp} {o : HO} (h : hide d H b = some o) : b ≠ d ∧ H b = some o := by
  unfold hide at h
  split at h
  · cases h
  · exact ⟨by assumption, h⟩
theorem hide_stay {d : Addr} {H : Hp} : Stay (hide d H) H := fun b o _ h => (hide_some h).2
theorem hide_on {d : Addr} {H H' : Hp} (s : Stay H H') : Stay (hide d H) (hide d H') := fun b o l e => by
  obtain ⟨e1, e2⟩ := hide_some e
  rw [hide_ne e1]
  exact s b o l e2
theorem stay_hide {d : Addr} {H H' : Hp} (s : Stay H H') (hd : H d = none) : Stay H (hide d H') := fun b o l e => by
  rw [hide_ne (ne_of_none e hd)]
  exact s b o l e
end Sk
/-! Sk: what holds wherever a token has been given out (replace asks it of its two texts): defs, calls, comprehensions -/
namespace Sk
open PySem PySem.Spec PyProof.Rows L2
/-- a def keeps its promise, called where a token is out -/
structure FnT (P : Program) (w : World) (K : PySem.W.Frag) (mg : Str → Option Value) (base : Heap) (k : Nat) (f : Addr) (fd : FuncData) (ps : List Str) (sp : Sp) : Prop where
  len : ∀ vs H Q E, sp vs H Q E → vs.length = ps.length
  run : ∀ (A : Around) (outer : List Env) (s : Shared) (H : Hp) (args : Args) (us : List Value) (vs : List V) (Q : VK) (E : XK), 1 ≤ s.toks → Room k A → Env0 P w K mg base A outer s H → BindsTo s fd args (ps.zip us) → Vals vs us → sp vs H Q E →
    codeAny (model P w) A (.call (.ref f) args) (CR CX0 outer P w H s Q E) s
section
variable {P : Program} {w : World} {K : PySem.W.Frag} {mg : Str → Option Value} {base : Heap} {x qual : Str} {params : Arguments} {body : List Stmt} {scope : Scope} {dvs : List V} {kws : List (Str × V)} {f : Addr} {fd : FuncData}
theorem FnT.of {k : Nat} {ps : List Str} {sp : Sp} (F : FnOk P w K mg base CX0 k f fd ps sp) : FnT P w K mg base k f fd ps sp := ⟨F.len, fun A outer s H args us vs Q E _ => F.run A outer s H args us vs Q E⟩
theorem fnT_of {N ps : List Str} {k : Nat} {sp : Sp} (F : FunD K x qual params body scope dvs kws f fd) (S : FnScope N ps scope) (len : ∀ vs H Q E, sp vs H Q E → vs.length = ps.length)
    (hb : ∀ (cdv : Value) (A : Around) (outer : List Env) (s : Shared) (H : Hp) (vs : List V) (Q : VK) (E : XK), Room k (A.deeper (envOfC qual scope s.heap.objs.size f cdv)) → sp vs H Q E →
      ∃ t, PSsT (cxOf CX0 P w K mg base N qual scope f cdv A outer s H E).nox body t ∧ t { nx := fun _ H' => Q .non H', rt := Q } (start N vs) H) : FnT P w K mg base (k + 1) f fd ps sp := by
  obtain ⟨oc, od, dV, kV, doc, pm, an, cdv, ct, osl, efd, look, code, _, _⟩ := F.ex
  subst efd
  refine ⟨len, fun A outer s H args us vs Q E tok room env bind rel want => ?_⟩
  have size := len _ _ _ _ want
  have inK : K.In s.heap := env.mod.kin.keeps fun b o e => (env.bs b o e).1
  have calm : s.heap.NoLimit := env.mod.nolimit.keeps fun b o e => (env.bs b o e).1
  have kinds : ∀ y ∈ ps.zip us, scope.names.lookup y.1 = some .local ∨ (scope.names.lookup y.1 = some .cell ∧ ((cellsFrom (s.heap.objs.size + 1) scope.names []).lookup y.1).isSome = true) := by
    rintro ⟨n, v⟩ hy
    cases S.par n (List.of_mem_zip hy).1 with
    | inl q => exact .inl q
    | inr q => exact .inr ⟨q, PySem.W.cellsFrom_some _ _ _ (.inl q)⟩
  refine codeAny_call_function room.depth (inK _ _ look) rfl S.co S.gen rfl (PySem.W.codeRec_of inK code) (bind _ _ _ _ ?_)
  refine wpAny_with_toks (n := 1) tok (wpAny_newFunctionEnv_cells S.kind kinds fun e1 he1 s1 inC tok1 => ?_)
  subst he1
  obtain ⟨t, der, red⟩ := hb cdv A outer s H vs Q E (room.deeper _) want
  have inv : Inv (cxOf CX0 P w K mg base N qual scope f cdv A outer s H E) [] (start N vs) H s1 := inv_start S room.hd env size rel inC
  have inv' : Inv (cxOf CX0 P w K mg base N qual scope f cdv A outer s H E).nox [] (start N vs) H s1 := ⟨⟨inv.ok.mod, inv.ok.kind, inv.ok.glob, inv.ok.blt, inv.ok.above, inv.ok.inj, inv.ok.has, inv.ok.cab, inv.ok.hd, inv.ok.frames, inv.ok.stk, inv.ok.exf, inv.ok.bs, inv.ok.bsz, inv.ok.noex, inv.ok.exfs, inv.ok.funs, inv.ok.frf⟩, inv.os, inv.bare, inv.base, inv.loc, inv.cell, inv.free, inv.freeC, inv.pin, inv.hok, inv.len⟩
  refine ⟨calm.keeps inC.toInCall.keep, codeAny_func (wpAny_mono (der [] s1 _ H _ tok1 inv' red) (fun fl s2 h2 => ?_) fun _ _ z => z.elim)⟩
  have back : ∀ {σ2 : L2.St} {H2 : Hp} {v : V} {u : Value}, Inv (cxOf CX0 P w K mg base N qual scope f cdv A outer s H E).nox [] σ2 H2 s2 → RelV v u → Q v H2 → CE outer P w H s Q u s2 := fun J r q => ⟨_, _, J.os, J.bare, J.base, J.hok, r, q⟩
  cases fl with
  | ret u => obtain ⟨v, σ2, H2, J, r, q⟩ := h2; exact back J r q
  | next => obtain ⟨σ2, H2, J, q⟩ := h2; exact back (u := Value.none) (v := V.non) J rfl q
  | brk => obtain ⟨_, _, _, q⟩ := h2; exact q.elim
  | cont => obtain ⟨_, _, _, q⟩ := h2; exact q.elim
end
section
variable {X : Cx}
/-- f(e, ..) -/
theorem petcall {k : Nat} {f : Addr} {fd : FuncData} {ps : List Str} {sp : Sp} {y : Str} {e : Expr} {es : List Expr} {t : TA} {p pos : Pos} (F : FnT X.prog X.w X.K X.mg X.base k f fd ps sp) (hr : Room k X.A) (hg : Gl X y) (hm : X.mg y = some (.ref f)) (hk : PySem.W.keepIn X.K (.ref f) = true)
    (hb : Binds X.K fd ps []) (ha : PA X (e :: es) t) (hdb : (y == ("__debug__" : Str)) = false := by decide) (he : starEach (e :: es) X.env = (false, eval e X.env) :: starEach es X.env := by rfl) (hpl : (backTo pos (starEach es X.env)).any (·.1) = false := by rfl) :
    PET X (.Call (.Name y p) (e :: es) [] pos) (fun σ H Q => t σ H fun vs H1 => sp vs H1 Q E0) := by
  intro pins s σ H Q tok I h
  refine wpAny_Call_Name_kw (ld_glob I hg hm ?_ hdb)
  have args := PySem.wpAny_toks_of tok (ha.run pos pins s σ H _ I h)
  refine PySem.W.callWith_K (h₀ := X.base) I.ok.mod.kin hk (wpAny_mono args (fun us s1 z => ?_) fun _ _ z => z.2) he hpl
  obtain ⟨tok1, vs, H1, I1, r, q⟩ := z
  refine ⟨I1.kIn, ?_⟩
  have r2 : Vals vs (us ++ []) := by rw [List.append_nil]; exact r
  have size : (us ++ []).length = ps.length := by rw [← r2.length]; exact F.len _ _ _ _ q
  refine wpAny_call (codeAny_mono (F.run X.A X.stack s1 H1 ⟨us, []⟩ (us ++ []) vs Q E0 tok1 hr I1.env0 (hb s1 us I1.kIn size) r2 q) fun r s2 hq => ?_)
  cases r with
  | error e => exact hq.elim
  | ok fl =>
    cases fl with
    | ret u => exact I1.after hq
    | next => exact hq.elim
    | brk => exact hq.elim
    | cont => exact hq.elim
/-- no error, and a token is out behind it too -/
theorem thnT {α : Type} {t : Sem α} {Q Q' : α → Shared → Prop} {M : Model} {A : Around} {E : Value → Shared → Prop} {s : Shared} (tok : 1 ≤ s.toks) (h : wpAny M A t Q (fun _ _ => False) s) (hQ : ∀ a s', 1 ≤ s'.toks → Q a s' → Q' a s') : wpAny M A t Q' E s :=
  wpAny_mono (PySem.wpAny_toks_of tok h) (fun a s' z => hQ a s' z.1 z.2) fun _ _ z => z.2.elim
/-- [elt for target in iter], elt where a token is out -/
theorem lcT_core {pins : List (Addr × Obj)} {s : Shared} {σ : L2.St} {H : Hp} {Q : VK} {elt tg iter : Expr} {scope : Scope} {own : List (Str × Nat)} {pos pos' : Pos} {wi : TI} {g : TG} {te : TE} {use : Option (Value → Sem Unit)} {Qf : Value → Shared → Prop}
    (tok : 1 ≤ s.toks) (hc : X.calm = true) (hN : X.N.Nodup) (I : Inv X pins σ H s) (hi : PI X tg iter wi) (ok : BlkOk X.N X.env.scope scope own)
    (hg : ∀ (s : Shared) (H : Hp) (C : Addr) (cl : List (Str × Addr)) (fp : List Addr), PG (X.blk s H scope (compEnvC scope cl C X.env) fp) tg g)
    (he : ∀ (s : Shared) (H : Hp) (C : Addr) (cl : List (Str × Addr)) (fp : List Addr), PET (X.blk s H scope (compEnvC scope cl C X.env) fp) elt te) (hs : ∀ x, foldedSetIterable iter X.env x = pure x)
    (h : tLc wi g tYes te (own.map (·.2)) σ H Q)
    (fin : ∀ D C s' m H', Inv X pins σ H' s' → Q (.ref D) H' → s'.heap.Ns C m → FpOk X pins H' C → compPost (model X.prog X.w) X.A X.xe use Qf (.ref D) C (.ok .next) s') :
    wpAny (model X.prog X.w) X.A (comprehension (.ListComp elt [⟨tg, iter, [], 0⟩] scope pos) scope X.env pos' (newList []) false (eval iter X.env) use) Qf X.xe s := by
  have caught : ∀ y ∈ scope.names, y.2 = .free → ∃ c, X.env.cells.lookup y.1 = some c := by
    intro y hy e
    cases ok.free y hy e with
    | inl k => exact I.ok.has _ (.inl k)
    | inr k => exact I.ok.has _ (.inr k)
  have walked := PySem.wpAny_toks_of tok (hi.run pins s σ H _ I h)
  refine wpAny_comprehension_free (use := use) rfl hs (closure_ok caught) ok.kind (fun y hy e => by rw [ok.uniq y hy, e]) (wpAny_mono walked (fun xv s1 hx => ?_) fun _ _ z => z.2)
  obtain ⟨tok1, hx⟩ := hx
  refine wpAny_mono (PySem.wpAny_toks_of tok1 hx) (fun itv s2 h2 => ?_) fun _ _ z => z.2
  obtain ⟨tok2, it, fp, tn, J, H2, e, I2, T, st2, f2, q⟩ := h2
  subst e
  refine wpAny_newObj_type (newEnv_comp ?_) (by show 0 ≤ sizeLine; decide)
  obtain ⟨D, hD⟩ : ∃ D, s2.heap.objs.size = D := ⟨_, rfl⟩
  rw [hD]
  have freeD : H2 D = none := I2.hok.fresh (Nat.le_of_eq hD)
  obtain ⟨W, ⟨m0, w0⟩, turn⟩ := q D freeD
  obtain ⟨s3, es3⟩ : ∃ s3 : Shared, ({ s2 with heap := s2.heap.push { cls := .type "list", data := .seq ([] : List Value).toArray } } : Shared) = s3 := ⟨_, rfl⟩
  rw [es3]
  have hp3 : s3.heap = s2.heap.push { cls := .type "list", data := .seq ([] : List Value).toArray } := by rw [← es3]
  have tok3 : 1 ≤ s3.toks := by rw [← es3]; exact tok2
  have grow : ∀ b o, s2.heap.get? b = some o → s3.heap.get? b = some o := fun b o e => by rw [hp3]; exact Heap.get?_push_of_some _ e
  have I3 : Inv X pins σ (upd H2 D (.lst [])) s3 := by
    rw [← es3]
    refine I2.laid (t' := s2.toks) (fun b o e => Heap.get?_push_of_some _ e) (Nat.le_of_eq hD) ⟨Nat.zero_le _, [], 0, .nil, ?_⟩
    rw [← hD]
    exact Heap.get?_push_size _ rfl
  have f3 : ∀ b ∈ fp, FpOk X pins (upd H2 D (.lst [])) b ∧ b < s3.heap.objs.size := by
    intro b hb
    obtain ⟨o, eo, _⟩ := T.obj _ _ st2 b hb
    have lt := Heap.lt_size eo
    have ne : b ≠ D := by rw [← hD]; exact Nat.ne_of_lt lt
    refine ⟨⟨?_, (f2 b hb).2⟩, ?_⟩
    · rw [upd_ne ne]; exact (f2 b hb).1
    · rw [hp3, Heap.size_push]; exact Nat.lt_succ_of_lt lt
  have st3 : tn 0 s3.heap := T.keep _ _ _ st2 fun b _ o e => grow b o e
  have I4 := block_start I3 ok hN f3
  have pg := hg s3 (upd H2 D (.lst [])) s3.heap.objs.size (cellsFrom (s3.heap.objs.size + 1) scope.names (cloFrom X.env.cells scope.names [])) fp
  have pe := he s3 (upd H2 D (.lst [])) s3.heap.objs.size (cellsFrom (s3.heap.objs.size + 1) scope.names (cloFrom X.env.cells scope.names [])) fp
  have none3 : ∀ b ∈ fp, (upd H2 D (.lst [])) b = none := fun b hb => (f3 b hb).1.1
  show codeAny (model X.prog X.w) X.A (.compStart (.ListComp elt [⟨tg, iter, [], 0⟩] scope pos) 0 (.ref it) (.ref D) (compEnvC scope (cellsFrom (s3.heap.objs.size + 1) scope.names (cloFrom X.env.cells scope.names [])) s3.heap.objs.size X.env)) (compPost (model X.prog X.w) X.A X.xe use Qf (.ref D) s3.heap.objs.size) _
  obtain ⟨ce, ece⟩ : ∃ ce, compEnvC scope (cellsFrom (s3.heap.objs.size + 1) scope.names (cloFrom X.env.cells scope.names [])) s3.heap.objs.size X.env = ce := ⟨_, rfl⟩
  have loc : ce.locals = s3.heap.objs.size := by rw [← ece]; rfl
  rw [ece] at I4 pg pe ⊢
  obtain ⟨H3, eH3⟩ : ∃ H3, upd H2 D (.lst []) = H3 := ⟨_, rfl⟩
  rw [eH3] at I3 I4 pg pe w0 none3 f3
  obtain ⟨s4, es4⟩ : ∃ s4 : Shared, ({ s3 with heap := pushCells (s3.heap.push { cls := .type "dict", data := .dict #[] }) scope.names } : Shared) = s4 := ⟨_, rfl⟩
  rw [es4] at I4 ⊢
  have tok4 : 1 ≤ s4.toks := by rw [← es4]; exact tok3
  have st4 : tn 0 s4.heap := T.keep _ _ _ st3 fun b _ o e => by rw [← es4]; exact pushCells_keeps _ _ _ _ (Heap.get?_push_of_some _ e)
  have own4 : ∀ {σ' : L2.St} {H' : Hp} {s' : Shared}, Inv (X.blk s3 H3 scope ce fp) [] σ' H' s' → (∀ b ∈ fp, H' b = none) → ∀ b ∈ fp, FpOk (X.blk s3 H3 scope ce fp) [] H' b := by
    intro σ' H' s' I' hn b hb
    have ex := I'.ok.exf b hb
    exact ⟨hn b hb, ex.1, I'.ok.exfs b hb, .inl hb, fun x c e => ex.2 x c e, fun p hp => by cases hp⟩
  have loop : codeAny (model X.prog X.w) X.A (.compLoop (.ListComp elt [⟨tg, iter, [], 0⟩] scope pos) 0 (.ref it) (.ref D) ce) (compPost (model X.prog X.w) X.A X.xe use Qf (.ref D) s3.heap.objs.size) s4 := by
    refine compLoop_any (fun n s' => 1 ≤ s'.toks ∧ ∃ i H', Inv (X.blk s3 H3 scope ce fp) [] (wipe σ (own.map (·.2))) H' s' ∧ tn i s'.heap ∧ (∀ b ∈ fp, H' b = none) ∧ W i n H') ?_ m0 ⟨tok4, 0, H3, I4, st4, none3, w0⟩
    rintro n s5 ⟨tok5, i, H5, I5, st5, n5, w5⟩
    cases turn i n H5 w5 with
    | inl z =>
      obtain ⟨stop, qq⟩ := z
      have td := T.done (X.blk s3 H3 scope ce fp) rfl rfl rfl hc i [] s5 _ H5 (fun _ _ => False) I5 (own4 I5 n5) st5 stop
      refine thnF td fun r s6 z => ?_
      obtain ⟨hr, I6⟩ := z
      subst hr
      have back : Inv X pins σ H5 s6 := I3.call' (ch := fp) I6.os I6.base I6.hok I6.bare fun b hb => by
        have z := (f3 b hb).1
        exact ⟨z.2.2.2.1, z.2.1, z.2.2.2.2.1, z.2.2.2.2.2⟩
      have nC : H5 ce.locals = none := I6.free
      obtain ⟨m, hn, _⟩ := I6.loc
      have hn : s6.heap.Ns ce.locals m := hn
      rw [loc] at hn nC
      exact fin D s3.heap.objs.size s6 m H5 back qq hn (I3.fpOk (Nat.le_refl _) nC)
    | inr z =>
      obtain ⟨go, Nx, hNx, step⟩ := z
      have ti := T.item (X.blk s3 H3 scope ce fp) rfl rfl rfl hc i [] s5 _ H5 (fun _ _ => False) I5 (own4 I5 n5) st5 go
      refine thnT tok5 ti fun r s6 tok6 z => ?_
      obtain ⟨u, hr, h6⟩ := z
      subst hr
      refine thnT tok6 h6 fun _ s7 tok7 z => ?_
      obtain ⟨x, H7, I7, r7, y7, st7, n7⟩ := z
      have I7p := I7.pinned (own4 I7 n7) (T.obj _ _ st7)
      refine thnT tok7 (pg.run _ s7 _ H7 x u _ I7p r7 (step x H7 y7)) fun _ s8 tok8 z => ?_
      obtain ⟨σ8, H8, I8, same8, q8⟩ := z
      have pt : PTs (X.blk s3 H3 scope ce fp) [] tYes := pts_nil
      refine thnT tok8 (pt.run _ s8 σ8 H8 _ I8 q8) fun b s9 tok9 z => ?_
      obtain ⟨H9, I9, q9⟩ := z
      have next : ∀ {s' : Shared} {H' : Hp}, 1 ≤ s'.toks → Inv (X.blk s3 H3 scope ce fp) ([] ++ pinsAt fp s7.heap) σ8 H' s' → Nx H' →
          ∃ m, m < n ∧ 1 ≤ s'.toks ∧ ∃ i H', Inv (X.blk s3 H3 scope ce fp) [] (wipe σ (own.map (·.2))) H' s' ∧ tn i s'.heap ∧ (∀ b ∈ fp, H' b = none) ∧ W i m H' := by
        intro s' H' tok' I' nx
        obtain ⟨m', hm, w'⟩ := hNx H' nx
        have held : ∀ b ∈ fp, ∀ o, s7.heap.get? b = some o → s'.heap.get? b = some o ∧ H' b = none := by
          intro b hb o e
          have z := I'.pin (b, o) (List.mem_append_right _ (List.mem_append_right _ (mem_pinsAt hb e)))
          exact ⟨z.1, z.2.1⟩
        refine ⟨m', hm, tok', i + 1, H', ?_, ?_, ?_, w'⟩
        · refine (I'.unpinned (pins := [])).weak (by rw [← same8, wipe_length]) fun j v e => ?_
          rw [← same8] at e
          exact (wipe_some e).1
        · exact T.keep _ _ _ st7 fun b hb o e => (held b hb o e).1
        · intro b hb
          obtain ⟨o, e, _⟩ := T.obj _ _ st7 b hb
          exact (held b hb o e).2
      cases b with
      | false =>
        simp only [Bool.false_eq_true, if_false] at q9 ⊢
        exact next tok9 I9 q9
      | true =>
        simp only [if_true] at q9 ⊢
        refine thnT tok9 (pe _ s9 σ8 H9 _ tok9 I9 q9) fun z s10 tok10 w => ?_
        obtain ⟨yv, H10, I10, r10, acc, hD10, hz10, nx⟩ := w
        have app := app_ok (X := X.blk s3 H3 scope ce fp) (E := fun _ _ => False) (Q := fun _ s11 => Inv (X.blk s3 H3 scope ce fp) ([] ++ pinsAt fp s7.heap) σ8 (upd H10 D (.lst (acc ++ [yv]))) s11) I10 hD10 hz10 r10 fun s11 I11 => I11
        exact thnT tok10 app fun _ s11 tok11 I11 => next tok11 I11 nx
  exact codeAny_compStart_list loop (T.self X.A 0 _ _ _ st4 loop)
/-- as a value -/
theorem petlc {elt tg iter : Expr} {scope : Scope} {own : List (Str × Nat)} {pos : Pos} {wi : TI} {g : TG} {te : TE} (hc : X.calm = true) (hN : X.N.Nodup) (hi : PI X tg iter wi) (ok : BlkOk X.N X.env.scope scope own)
    (hg : ∀ (s : Shared) (H : Hp) (C : Addr) (cl : List (Str × Addr)) (fp : List Addr), PG (X.blk s H scope (compEnvC scope cl C X.env) fp) tg g)
    (he : ∀ (s : Shared) (H : Hp) (C : Addr) (cl : List (Str × Addr)) (fp : List Addr), PET (X.blk s H scope (compEnvC scope cl C X.env) fp) elt te) (hs : ∀ x, foldedSetIterable iter X.env x = pure x := by intro _; rfl) :
    PET X (.ListComp elt [⟨tg, iter, [], 0⟩] scope pos) (tLc wi g tYes te (own.map (·.2))) := by
  intro pins s σ H Q tok I h
  rw [eval_ListComp]
  refine lcT_core tok hc hN I hi ok hg he hs h fun D C s' m H' I' q hn f => ⟨m, hn, fun h2 sb => ?_⟩
  have z := I'.turned (t' := s'.toks) (fun b o hb e => (sb.2 b hb).trans e) f.1 f.2.1 f.2.2.2.1 f.2.2.2.2.1 f.2.2.2.2.2
  exact ⟨.ref D, H', z, rfl, q⟩
/-- y = [..] -/
theorem pstsetLc {i : Nat} {y : Str} {py : Pos} {elt tg iter : Expr} {scope : Scope} {own : List (Str × Nat)} {pos spos : Pos} {wi : TI} {g : TG} {te : TE} (hc : X.calm = true) (hN : X.N.Nodup) (hy : X.N[i]? = some y) (hyl : X.env.scope.names.lookup y = some .local)
    (hsw : swapsWith (.ListComp elt [⟨tg, iter, [], 0⟩] scope pos) (some (.Name y py)) spos.line X.env = pure true) (hi : PI X tg iter wi) (ok : BlkOk X.N X.env.scope scope own)
    (hg : ∀ (s : Shared) (H : Hp) (C : Addr) (cl : List (Str × Addr)) (fp : List Addr), PG (X.blk s H scope (compEnvC scope cl C X.env) fp) tg g)
    (he : ∀ (s : Shared) (H : Hp) (C : Addr) (cl : List (Str × Addr)) (fp : List Addr), PET (X.blk s H scope (compEnvC scope cl C X.env) fp) elt te) (hs : ∀ x, foldedSetIterable iter X.env x = pure x := by intro _; rfl) :
    PST X (.Assign [.Name y py] (.ListComp elt [⟨tg, iter, [], 0⟩] scope pos) spos) (tAsg (tLc wi g tYes te (own.map (·.2))) (gName i)) := by
  intro pins s σ H D tok I h
  rw [exec_Assign_Name_used _ _ _ _ hsw]
  refine wpAny_bind (wpAny_standAt (wpAny_bind ?_))
  have want : tLc wi g tYes te (own.map (·.2)) σ H (fun x H1 => gName i x σ H1 D.nx) := h
  refine wpAny_bind (thn (lcT_core (use := some (assign (.Name y py) X.env)) (Qf := fun _ s' => SP X pins D .next s') tok hc hN I hi ok hg he hs want fun L C s' m H' I' q hn f => ?_) fun _ s' hq => wpAny_pure (wpAny_pure hq))
  show wpAny _ _ (assign (.Name y py) X.env (.ref L)) _ _ _
  refine wpAny_assign_Name (store_ok2 (v := V.ref L) I' hN hy (.inl hyl) rfl (fun s2 I2 z => ?_) (.inr hyl))
  obtain ⟨a, sb, ha⟩ := z
  have apart : C ≠ a := by
    cases ha with
    | inl z => rw [z]; exact f.2.1
    | inr z => exact fun e => f.2.2.2.2.1 y a z e.symm
  refine ⟨m, hn.sameBut sb apart, fun h3 sb3 => ?_⟩
  have z := I2.turned (t' := s2.toks) (fun b o hb e => (sb3.2 b hb).trans e) f.1 f.2.1 f.2.2.2.1 f.2.2.2.2.1 f.2.2.2.2.2
  exact ⟨_, H', z, q⟩
theorem PETw {e : Expr} {t t' : TE} (h : PET X e t) (w : ∀ σ H Q, t' σ H Q → t σ H Q) : PET X e t' := fun pins s σ H Q tok I q => h pins s σ H Q tok I (w σ H Q q)
theorem upT' {e : Expr} {t : TE} (h : PET X e t) : PET X e (upE t) := fun pins s σ H Q tok I q => by
  obtain ⟨Q', w, q⟩ := q
  exact thn (h pins s σ H Q' tok I q) fun v s1 ⟨x, H1, I1, r1, q1⟩ => ⟨x, H1, I1, r1, w _ _ q1⟩
/-- x = e -/
theorem pstset {i : Nat} {x : Str} {e : Expr} {te : TE} {pos pos' : Pos} (hN : X.N.Nodup) (hi : X.N[i]? = some x) (hx : Loc X.env.scope x) (he : PET X e te) (hs : swapsWith e (some (.Name x pos')) pos.line X.env = pure false := by rfl) (hf : X.fn x = true ∨ X.env.scope.names.lookup x = some .local := by first | exact .inl rfl | exact .inr rfl | assumption) :
    PST X (.Assign [.Name x pos'] e pos) (tAsg te (gName i)) := by
  intro pins s σ H D tok I h
  refine wpAny_Assign_Name (thn (he pins s σ H _ tok I h) fun v s1 z => ?_) hs
  obtain ⟨y, H1, I1, r1, q1⟩ := z
  exact store_ok I1 hN hi hx r1 (fun s2 I2 => ⟨_, H1, I2, q1⟩) hf
/-- sep.join(e) -/
theorem petjoin (K : PySem.W.Frag) {o e : Expr} {to te : TE} {apos pos : Pos} (ho : PE X o to) (he : PET X e te) (hK : X.K = K := by rfl) (hs : starEach [e] X.env = [(false, eval e X.env)] := by rfl) (hbase : attributeBase o "join" X.env (eval o X.env) = eval o X.env := by rfl) (hline : (apos.endLine == pos.line) = true := by rfl) :
    PET X (.Call (.Attribute o "join" apos) [e] [] pos) (uJoin K to te) := by
  subst hK
  intro pins s σ H Q tok I h
  refine PySem.Call_method1 hbase hs hline (wpAny_mono (PySem.wpAny_toks_of tok (ho.run pins s σ H _ I h)) (fun v s1 z => ?_) fun _ _ z => z.2)
  obtain ⟨tok1, x, H1, I1, r1, q1⟩ := z
  cases x with
  | str a =>
    obtain ⟨t, rfl⟩ := id r1
    refine ⟨"str", _, F.plainAttrs_str, F.slot_str_join, F.type_str_join, typeIs_str _ _ _, (fun _ e => nomatch e), Calls.callWith_builtin rfl (Calls.evalArgs_plain (Calls.spliced_cons ?_))⟩
    refine thn (he pins s1 σ H1 _ tok1 I1 q1) fun u s2 z => Calls.spliced_nil ?_
    obtain ⟨y, H2, I2, r2, q2⟩ := z
    cases y with
    | ref p =>
      obtain ⟨ys, h1, h2, h3⟩ := q2
      exact mt_join pins s2 σ H2 _ [.ref p] _ [u] Q I2 r1 (.cons r2 .nil) ⟨a, p, ys, rfl, rfl, h1, h2, h3⟩
    | _ => exact q2.elim
  | _ => exact q1.elim
/-- a field of an f-string -/
theorem petfmt {e : Expr} {te : TE} {pos : Pos} (he : PET X e te) : PET X (.FormattedValue e (-1) none pos) (uFmt te) := by
  intro pins s σ H Q tok I h
  refine wpAny_FormattedValue_plain (thn (he pins s σ H _ tok I h) fun v s1 z => ?_)
  obtain ⟨x, H1, I1, r1, q⟩ := z
  cases x with
  | str y =>
    obtain ⟨t, rfl⟩ := r1
    exact wpAny_formatField_str ⟨.str y, H1, I1, ⟨t, rfl⟩, q.2⟩ ⟨.str y, H1, I1.tok _, ⟨_, rfl⟩, q.2⟩ q.1
  | int i =>
    obtain ⟨t, rfl⟩ := r1
    exact wpAny_formatField_int q.1 ⟨.str (toString i), H1, I1.tok _, ⟨_, rfl⟩, q.2⟩
  | _ => exact q.elim
inductive PJT (X : Cx) : List Expr → List TE → Prop where
  | nil : PJT X [] []
  | cons {e : Expr} {t : TE} {es : List Expr} {ts : List TE} (h : PET X e t) (r : PJT X es ts) : PJT X (e :: es) (t :: ts)
theorem pjt_run {pins : List (Addr × Obj)} {σ : L2.St} {es : List Expr} {ts : List TE} (h : PJT X es ts) : ∀ (acc : Str) (s : Shared) (H : Hp) (Q : Str → Hp → Prop) (R : Str → Shared → Prop), 1 ≤ s.toks → acc.length ≤ sizeLine → Inv X pins σ H s → tJs ts acc σ H Q →
    (∀ out s1 H1, out.length ≤ sizeLine → Inv X pins σ H1 s1 → Q out H1 → R out s1) → Joins (model X.prog X.w) X.A X.xe (evalEach es X.env) acc R s := by
  induction h with
  | nil =>
    intro acc s H Q R _ hz I q k
    have e0 : evalEach [] X.env = [] := by simp [evalEach]
    rw [e0]
    exact k acc s H hz I q
  | @cons e t es ts he _ ih =>
    intro acc s H Q R tok hz I q k
    have e0 : evalEach (e :: es) X.env = eval e X.env :: evalEach es X.env := by simp [evalEach]
    rw [e0]
    refine wpAny_mono (PySem.wpAny_toks_of tok (he pins s σ H _ tok I q)) (fun v s1 z => ?_) fun _ _ z => z.2
    obtain ⟨tok1, x, H1, I1, r1, y, rfl, hy, q1⟩ := z
    obtain ⟨tk, rfl⟩ := r1
    exact ⟨y, tk, rfl, hy, ih (acc ++ y) s1 H1 Q R tok1 hy I1 q1 k⟩
/-- f'..' of two parts or more -/
theorem petjoined {v1 v2 : Expr} {rest : List Expr} {ts : List TE} {pos : Pos} (h : PJT X (v1 :: v2 :: rest) ts) : PET X (.JoinedStr (v1 :: v2 :: rest) pos) (fun σ H Q => tJs ts Str.empty σ H fun out H1 => Q (.str out) H1) := by
  intro pins s σ H Q tok I q
  exact wpAny_JoinedStr (pjt_run h Str.empty s H (fun out H1 => Q (.str out) H1) _ tok (Nat.zero_le _) I q fun out s1 H1 hz I1 q1 => ⟨hz, .str out, H1, I1.tok _, ⟨_, rfl⟩, q1⟩)
/-- a test's way -/
theorem pstif {c : Expr} {a b : List Stmt} {tc : TT} {t u : TS} {pos : Pos} (hc : PT X c tc) (ha : PSsT X a t) (hb : PSsT X b u) : PST X (.If c a b pos) (uIf tc t u) := fun pins s σ H D tok I h =>
  CwR.pst_if (upt hc) ha hb pins s σ H D tok I ⟨_, fun x H' z => br_if z, h⟩
end
end Sk
/-! Sk: {None: a, True: b, False: c}[v]; list(text); calls by keywords alone -/
namespace Sk
open PySem PySem.Spec PyProof.Rows L2
def nbIs : Option Bool → Value → Bool
  | none, .none => true
  | none, _ => false
  | some b, v => PpSet.isB b v
theorem nb_none {v : Value} (h : nbIs none v = true) : v = .none := by
  cases v with
  | none => rfl
  | _ => cases h
theorem isB_none (b : Bool) : ¬ PpSet.isB b .none = true := fun h => by cases h
def nbKind (prog : Program) (w : World) : PySem.KeyKind prog w (Option Bool) where
  is := nbIs
  hash := fun k => match k with
    | none => (noneKind prog w).hash none
    | some b => (PpSet.boolK prog w).hash b
  inj := fun v a b ha hb => by
    cases a with
    | none =>
      have e := nb_none ha
      subst e
      cases b with
      | none => rfl
      | some k => exact absurd hb (isB_none k)
    | some k =>
      cases b with
      | none =>
        have e := nb_none hb
        subst e
        exact absurd ha (isB_none k)
      | some j => exact congrArg some ((PpSet.boolK prog w).inj v k j ha hb)
  byValue := fun k v h => by
    cases k with
    | none =>
      have e := nb_none h
      subst e
      rfl
    | some k => exact (PpSet.boolK prog w).byValue k v h
  pyHash := @fun A E s k v Q hv h => by
    cases k with
    | none => exact (noneKind prog w).pyHash (k := none) (show nkIs none v = true by rw [nb_none hv]; rfl) h
    | some k => exact (PpSet.boolK prog w).pyHash (k := k) hv h
  eqBool := @fun A E s a b u v Q hu hv h => by
    cases a with
    | none =>
      have e := nb_none hu
      subst e
      cases b with
      | none =>
        have e := nb_none hv
        subst e
        rw [decide_eq_true rfl] at h
        exact SeqAt.EqAt.same _ _ _ _ _ h
      | some k =>
        rw [decide_eq_false (fun z => nomatch z)] at h
        have e := PpSet.isB_shape hv
        subst e
        exact SeqAt.EqAt.none_bool k _ _ _ _ h
    | some k =>
      have e := PpSet.isB_shape hu
      subst e
      cases b with
      | none =>
        have e := nb_none hv
        subst e
        rw [decide_eq_false (fun z => nomatch z)] at h
        exact SeqAt.EqAt.bool_none k _ _ _ _ h
      | some j =>
        have e := PpSet.isB_shape hv
        subst e
        have d : decide ((some k : Option Bool) = some j) = (k == j) := by cases k <;> cases j <;> rfl
        rw [d] at h
        exact SeqAt.EqAt.bool_bool k j _ _ _ _ h
  «strs» := fun k x t v h => by
    cases k with
    | none => cases h
    | some k => exact (PpSet.boolK prog w).«strs» k x t v h
/-- what such a table answers -/
def nbAt (a b c : Str) (y : V) (Q : V → Prop) : Prop := match y with
  | .non => Q (.str a)
  | .bl k => Q (.str (if k then b else c))
  | _ => False
def uNb (a b c : Str) (tv : TE) : TE := fun σ H Q => ∀ p o, H p = none → tv σ (upd H p o) fun y H2 => H2 p = some o ∧ nbAt a b c y fun z => Q z H2
section
variable {X : Cx}
theorem pe_nb {a b c : Str} {v : Expr} {tv : TE} {j1 j2 j3 i1 i2 i3 : Nat} {p1 p2 p3 q1 q2 q3 dpos pos : Pos} (hv : PE X v tv) (hs : NoSl v) :
    PE X (.Subscript (.Dict [some (.Constant .none j1 p1), some (.Constant (.bool true) j2 p2), some (.Constant (.bool false) j3 p3)] [.Constant (.str a) i1 q1, .Constant (.str b) i2 q2, .Constant (.str c) i3 q3] dpos) v pos) (uNb a b c tv) := by
  refine ⟨fun pins s σ H Q I h => ?_⟩
  have hn := I.hok.fresh (Nat.le_refl s.heap.objs.size)
  have I1 := I.laid (a := s.heap.objs.size) (o := .dK []) (h' := s.heap.push { cls := .type "dict", data := .dict #[] }) (t' := s.toks) (fun _ _ q => Heap.get?_push_of_some _ q) (Nat.le_refl _) (dk_empty s.heap I.big)
  have three : PPs X dpos [some (.Constant .none j1 p1), some (.Constant (.bool true) j2 p2), some (.Constant (.bool false) j3 p3)] [.Constant (.str a) i1 q1, .Constant (.str b) i2 q2, .Constant (.str c) i3 q3]
      [(tC .non, tC (.str a)), (tC (.bl true), tC (.str b)), (tC (.bl false), tC (.str c))] := pps_cons pe_non pe_str (pps_cons pe_bl pe_str (pps_cons pe_bl pe_str pps_nil))
  refine subD_of PySem.F.slot_dict_getitem.lookup hs ?_
  refine wpAny_Dict_walk (knd := nbKind X.prog X.w) rfl rfl (by simp) (Nat.le_of_ble_eq_true rfl) (thn (three.run pins _ σ _ (fun ps H1 => ps = [(.non, .str a), (.bl true, .str b), (.bl false, .str c)] ∧ H1 = upd H s.heap.objs.size (.dK [])) I1 ⟨rfl, rfl⟩) fun ws s2 z => ?_)
  obtain ⟨ps, H2, I2, rel, rfl, rfl⟩ := z
  obtain ⟨_, hd, vs0, r0, dd⟩ := dk_of I2.hok upd_same
  cases r0
  cases rel with
  | @cons _ w1 _ r1 h1 t1 =>
  cases t1 with
  | @cons _ w2 _ r2 h2 t2 =>
  cases t2 with
  | @cons _ w3 _ r3 h3 t3 =>
  cases t3
  obtain ⟨w1, x1⟩ := w1
  obtain ⟨w2, x2⟩ := w2
  obtain ⟨w3, x3⟩ := w3
  obtain ⟨e1, ta, e1'⟩ := h1
  obtain ⟨e2, tb, e2'⟩ := h2
  obtain ⟨e3, tc, e3'⟩ := h3
  have e1 : w1 = Value.none := e1
  have e2 : w2 = Value.bool true := e2
  have e3 : w3 = Value.bool false := e3
  have e1' : x1 = Value.str a ta := e1'
  have e2' : x2 = Value.str b tb := e2'
  have e3' : x3 = Value.str c tc := e3'
  subst e1 e2 e3 e1' e2' e3'
  have dn : s2.heap.DictOf (nbKind X.prog X.w) s.heap.objs.size [] := by
    obtain ⟨o, es, ep, g1, g2, g3, _, g5, _⟩ := dd
    have e0 : es.toList = [] := by
      generalize es.toList = l at g5
      cases g5
      rfl
    refine ⟨o, es, ep, g1, g2, g3, fun e he => ?_, by rw [e0]; exact .nil, List.nodup_nil⟩
    have : e ∈ es.toList := Array.mem_toList_iff.mpr he
    rw [e0] at this
    cases this
  refine ⟨[(none, .str a ta), (some true, .str b tb), (some false, .str c tc)], ⟨rfl, rfl, rfl, rfl, rfl, rfl, trivial⟩, dn, fun h' dd' same => ?_⟩
  have he : ∃ q, h'.get? s.heap.objs.size = some q := let ⟨q, _, _, hq, _⟩ := dd'; ⟨q, hq⟩
  have I3 := d_write (ob := .ext fun h => h.DictOf (nbKind X.prog X.w) s.heap.objs.size (merged [] [(none, .str a ta), (some true, .str b tb), (some false, .str c tc)])) (t' := s2.toks + 3) I2 (by rw [upd_same]; exact trivial) same he ⟨dd', he, fun x1 x2 g k => by
    obtain ⟨o, es, ep, g1, g2⟩ := g
    exact ⟨o, es, ep, k o g1, g2⟩⟩
  rw [upd_upd] at I3
  refine thn (hv.run pins _ σ _ _ I3 (h _ _ hn)) fun iv s4 z => ?_
  obtain ⟨y, H4, I4, ry, hp4, q4⟩ := z
  obtain ⟨d4, _⟩ := I4.hok _ _ hp4
  have ty : s4.TypeIs (.ref s.heap.objs.size) "dict" := by
    obtain ⟨o, es, ep, g1, g2, _⟩ := d4
    exact ⟨o, g1, g2.1⟩
  refine ⟨ty, ?_⟩
  cases y with
  | non =>
    have e : iv = Value.none := ry
    subst e
    exact wpAny_getItem_of (knd := nbKind X.prog X.w) (k := none) rfl d4.mapOf rfl ⟨.str a, H4, I4.tok _, ⟨ta, rfl⟩, q4⟩
  | bl k =>
    have e : iv = Value.bool k := ry
    subst e
    cases k with
    | true => exact wpAny_getItem_of (knd := nbKind X.prog X.w) (k := some true) rfl d4.mapOf rfl ⟨.str b, H4, I4.tok _, ⟨tb, rfl⟩, q4⟩
    | false => exact wpAny_getItem_of (knd := nbKind X.prog X.w) (k := some false) rfl d4.mapOf rfl ⟨.str c, H4, I4.tok _, ⟨tc, rfl⟩, q4⟩
  | _ => exact q4.elim
end
end Sk
/-! Sk: list(text), tuple, lists of anything; calls by keywords alone -/
namespace Sk
open PySem PySem.Spec PyProof.Rows L2
section
variable {X : Cx}
def sgs (z : Str) : List V := z.cps.toList.map fun c => V.str ⟨#[c]⟩
theorem call_list_txt (hc : X.A.handled = none) : CallR X (.type "list") (fun xs H Q => ∃ z, xs = [.str z] ∧ z.length ≤ sizeLine ∧ ∀ l, H l = none → Q (.ref l) (upd H l (.lst (sgs z)))) := by
  intro pins s σ H xs us Q I r h
  obtain ⟨z, rfl, hz, q⟩ := h
  cases r with
  | @cons _ u _ us ru rs =>
  cases rs
  obtain ⟨t, rfl⟩ := ru
  refine PySem.call_list_str (hn := hz) hc z t fun h' tk acc c keep at_ items => ?_
  have hl : (sgs z).length = acc.toList.length := by
    unfold sgs
    rw [List.length_map, Array.length_toList, Array.length_toList, items.1]
  have vals : Vals (sgs z) acc.toList := vals_of_at hl fun j x u hx hu => by
    have hu' : acc[j]? = some u := by rw [← hu, Array.getElem?_toList]
    obtain ⟨c, tk, hc, rfl⟩ := items.2 j u hu'
    unfold sgs at hx
    rw [List.getElem?_map, Array.getElem?_toList, hc] at hx
    cases hx
    exact ⟨tk, rfl⟩
  have I' := I.laid (a := s.heap.objs.size) (o := .lst (sgs z)) (t' := tk) keep (Nat.le_refl _) ⟨by rw [hl, Array.length_toList, items.1]; exact hz, acc.toList, c, vals, at_⟩
  exact ⟨.ref s.heap.objs.size, _, I', rfl, q _ (I.hok.fresh (Nat.le_refl _))⟩
/-- list(x): a list, a tuple, a text -/
def rLstU (K : PySem.W.Frag) : List V → Hp → VK → Prop := fun xs H Q => match xs with
  | [.ref p] => ∃ ys, (SqL K H p ys ∨ SqT K H p ys) ∧ ∀ l, H l = none → Q (.ref l) (upd H l (.lst ys))
  | [.str z] => z.length ≤ sizeLine ∧ ∀ l, H l = none → Q (.ref l) (upd H l (.lst (sgs z)))
  | _ => False
theorem klstU (K : PySem.W.Frag) (hc : X.A.handled = none) (h : X.K = K := by rfl) : CallR X (.type "list") (rLstU K) := by
  subst h
  refine CallRw (CallR.or call_list_of (call_list_txt hc)) fun xs H Q q => ?_
  unfold rLstU at q
  split at q
  · obtain ⟨ys, q⟩ := q
    exact .inl ⟨_, ys, rfl, q⟩
  · exact .inr ⟨_, rfl, q⟩
  · exact q.elim
/-- f(k = v, ..) -/
def uCallK (sp : Sp) (m : Nat) (gV : List V → List V) (tk : TA) : TE := fun σ H Q => tk σ H fun zs H2 => zs.length = m ∧ sp (gV zs) H2 Q E0
theorem pe_callK0 {k : Nat} {f : Addr} {fd : FuncData} {ps ks : List Str} {sp : Sp} {x : Str} {p pos : Pos} {kws : List Keyword} {tk : TA} {g : List Value → List Value} {gV : List V → List V} (F : FnOk X.prog X.w X.K X.mg X.base CX0 k f fd ps sp) (hr : Room k X.A) (hg : Gl X x) (hm : X.mg x = some (.ref f))
    (hk : PySem.W.keepIn X.K (.ref f) = true) (hb : KBn X.K fd ps 0 ks (fun _ => g) (fun _ => gV)) (hkw : PK X kws tk) (hall : (backToKw pos (keywordEach kws X.env)).all (·.1.isSome) = true := by rfl) (hks : (backToKw pos (keywordEach kws X.env)).filterMap (·.1) = ks := by rfl)
    (hdb : (x == ("__debug__" : Str)) = false := by decide) (hpl : ((backTo pos (starEach [] X.env)).any (·.1) || (backToKw pos (keywordEach kws X.env)).any (·.1.isNone)) = false := by rfl) :
    PE X (.Call (.Name x p) [] kws pos) (uCallK sp ks.length gV tk) := by
  refine ⟨fun pins s σ H Q I h => ?_⟩
  refine wpAny_Call_Name_kw (ld_glob I hg hm ?_ hdb)
  refine PySem.W.callWith_KW0 (h₀ := X.base) I.ok.mod.kin hk hall (thn (hkw.run pos pins s σ H _ I h) fun ws s2 z => ?_) hpl
  obtain ⟨zs, H2, I2, rz, l2, q2⟩ := z
  refine ⟨I2.kIn, ?_⟩
  rw [hks]
  exact run_fnN (us := []) (vs := []) F hr hb pass0 I2 .nil rz rfl l2 q2
end
section
variable {K : PySem.W.Frag} {x qual : Str} {params : Arguments} {body : List Stmt} {scope : Scope} {f : Addr} {fd : FuncData}
/-- two parameters, given by name in the other order -/
theorem kb_swap {p0 p1 : Str} (F : FunD K x qual params body scope [] [] f fd)
    (h : ∀ (kV doc pm : Value) (an : Option Addr) (cdv ct : Value) (w0 w1 : Value), bindArgs (PySem.W.fnOf x qual params body scope .none kV doc pm an cdv ct) ⟨[], [(p1, w0), (p0, w1)]⟩ = pure [(p0, w1), (p1, w0)]) :
    KBn K fd [p0, p1] 0 [p1, p0] (fun _ ws => ws.reverse) (fun _ zs => zs.reverse) := by
  obtain ⟨oc, od, dV, kV, doc, pm, an, cdv, ct, osl, rfl, lk, hcd, hD, hK⟩ := F.ex
  rcases hD with ⟨_, rfl⟩ | ⟨e, _⟩
  · refine ⟨fun s us ws _ l1 l2 => ?_, fun r rz => ?_⟩
    · match us, ws, l1, l2 with
      | [], [w0, w1], _, _ => exact .of_eq (h kV doc pm an cdv ct w0 w1)
    · cases rz with
      | nil => exact .nil
      | cons r0 rz =>
        have : ∀ {zs : List V} {ws : List Value}, Vals zs ws → Vals zs.reverse ws.reverse := by
          intro zs ws h
          induction h with
          | nil => exact .nil
          | cons r t ih => rw [List.reverse_cons, List.reverse_cons]; exact ih.append (.cons r .nil)
        exact this (.cons r0 rz)
  · exact absurd rfl e
end
end Sk
namespace Sk
open PySem PySem.Spec PyProof.Rows L2
section
variable {X : Cx}
theorem inv_nox {pins : List (Addr × Obj)} {σ : L2.St} {H : Hp} {s : Shared} (v : Inv X pins σ H s) : Inv X.nox pins σ H s :=
  ⟨⟨v.ok.mod, v.ok.kind, v.ok.glob, v.ok.blt, v.ok.above, v.ok.inj, v.ok.has, v.ok.cab, v.ok.hd, v.ok.frames, v.ok.stk, v.ok.exf, v.ok.bs, v.ok.bsz, v.ok.noex, v.ok.exfs, v.ok.funs, v.ok.frf⟩, v.os, v.bare, v.base, v.loc, v.cell, v.free, v.freeC, v.pin, v.hok, v.len⟩
theorem inv_back {pins : List (Addr × Obj)} {σ : L2.St} {H : Hp} {s : Shared} (v : Inv X.nox pins σ H s) : Inv X pins σ H s :=
  ⟨⟨v.ok.mod, v.ok.kind, v.ok.glob, v.ok.blt, v.ok.above, v.ok.inj, v.ok.has, v.ok.cab, v.ok.hd, v.ok.frames, v.ok.stk, v.ok.exf, v.ok.bs, v.ok.bsz, v.ok.noex, v.ok.exfs, v.ok.funs, v.ok.frf⟩, v.os, v.bare, v.base, v.loc, v.cell, v.free, v.freeC, v.pin, v.hok, v.len⟩
theorem psst_nox {b : List Stmt} {t : TS} (h : PSsT X.nox b t) : PSsT X b t := fun pins s σ H D tok I q =>
  wpAny_mono (h pins s σ H D tok (inv_nox I) q) (fun f s' z => by
    cases f with
    | next => obtain ⟨σ', H', J, q⟩ := z; exact ⟨σ', H', inv_back J, q⟩
    | brk => obtain ⟨σ', H', J, q⟩ := z; exact ⟨σ', H', inv_back J, q⟩
    | cont => obtain ⟨σ', H', J, q⟩ := z; exact ⟨σ', H', inv_back J, q⟩
    | ret u => obtain ⟨v, σ', H', J, r, q⟩ := z; exact ⟨v, σ', H', inv_back J, r, q⟩) fun _ _ z => z.elim
/-- a if c else b -/
theorem petif {c a b : Expr} {tc : TT} {ta tb : TE} {pos : Pos} (hc : PT X c tc) (ha : PET X a ta) (hb : PET X b tb) : PET X (.IfExp c a b pos) (uIfE tc ta tb) := by
  intro pins s σ H Q tok I h
  refine wpAny_IfExp (wpAny_mono (PySem.wpAny_toks_of tok (hc.run pins s σ H _ I h)) (fun d s1 z => ?_) fun _ _ z => z.2)
  obtain ⟨tok1, H1, I1, q1⟩ := z
  cases d with
  | true =>
    rw [if_pos rfl]
    exact ha pins s1 σ H1 Q tok1 I1 q1
  | false =>
    rw [if_neg Bool.false_ne_true]
    exact hb pins s1 σ H1 Q tok1 I1 q1
end
section
variable {P : Program} {w : World} {K : PySem.W.Frag} {mg : Str → Option Value} {base : Heap} {x qual : Str} {params : Arguments} {body : List Stmt} {scope : Scope} {dvs : List V} {kws : List (Str × V)} {f : Addr} {fd : FuncData}
/-- a def with parameters and without cells: a token is out when its body begins -/
theorem fnok_T {N ps : List Str} {k : Nat} {sp : Sp} (F : FunD K x qual params body scope dvs kws f fd) (S : FnScope N ps scope) (hnc : ∀ y ∈ scope.names, y.2 ≠ .cell) (hps : 1 ≤ ps.length) (len : ∀ vs H Q E, sp vs H Q E → vs.length = ps.length)
    (hb : ∀ (cdv : Value) (A : Around) (outer : List Env) (s : Shared) (H : Hp) (vs : List V) (Q : VK) (E : XK), Room k (A.deeper (envOfC qual scope s.heap.objs.size f cdv)) → sp vs H Q E →
      ∃ t, PSsT (cxOf CX0 P w K mg base N qual scope f cdv A outer s H E).nox body t ∧ t { nx := fun _ H' => Q .non H', rt := Q } (start N vs) H) : FnOk P w K mg base CX0 (k + 1) f fd ps sp := by
  obtain ⟨oc, od, dV, kV, doc, pm, an, cdv, ct, osl, efd, look, code, _, _⟩ := F.ex
  subst efd
  refine fn_ofT look code S hnc hps len fun A outer s H vs Q E room want => ?_
  obtain ⟨t, d, q⟩ := hb cdv A outer s H vs Q E room want
  exact ⟨t, psst_nox d, q⟩
end
end Sk
/-! Sk: texts in order; data as trees; their literals -/
namespace Sk
open PySem PySem.Spec PyProof.Rows L2
/-! ### the order of texts -/
def leT (a b : Str) : Prop := ltCps b.cps.toList a.cps.toList = false
theorem lt_irr : ∀ a : List Nat, ltCps a a = false
  | [] => rfl
  | x :: r => by
    show (decide (x < x) || (x == x && ltCps r r)) = false
    rw [lt_irr r]
    simp
theorem lt_asym : ∀ a b : List Nat, ltCps a b = true → ltCps b a = false
  | [], [], h => rfl
  | [], _ :: _, h => rfl
  | _ :: _, [], h => by cases h
  | x :: r, y :: t, h => by
    have h : (decide (x < y) || (x == y && ltCps r t)) = true := h
    show (decide (y < x) || (y == x && ltCps t r)) = false
    rw [Bool.or_eq_true, Bool.and_eq_true] at h
    rcases h with h | ⟨h1, h2⟩
    · have h := of_decide_eq_true h
      rw [decide_eq_false (by omega), beq_eq_false_iff_ne.mpr (by omega)]
      rfl
    · have e : x = y := by simpa using h1
      subst e
      rw [lt_asym r t h2]
      simp
theorem le_anti : ∀ a b : List Nat, ltCps a b = false → ltCps b a = false → a = b
  | [], [], _, _ => rfl
  | [], _ :: _, h, _ => by cases h
  | _ :: _, [], _, h => by cases h
  | x :: r, y :: t, h1, h2 => by
    have h1 : (decide (x < y) || (x == y && ltCps r t)) = false := h1
    have h2 : (decide (y < x) || (y == x && ltCps t r)) = false := h2
    rw [Bool.or_eq_false_iff] at h1 h2
    have e : x = y := by
      have := of_decide_eq_false h1.1
      have := of_decide_eq_false h2.1
      omega
    subst e
    have a1 : ltCps r t = false := by simpa using h1.2
    have a2 : ltCps t r = false := by simpa using h2.2
    rw [le_anti r t a1 a2]
theorem le_trans' : ∀ a b c : List Nat, ltCps b a = false → ltCps c b = false → ltCps c a = false
  | [], _, [], _, _ => rfl
  | [], [], _ :: _, _, _ => rfl
  | [], _ :: _, _ :: _, _, _ => rfl
  | _ :: _, [], _, h, _ => by cases h
  | _ :: _, _ :: _, [], _, h => by cases h
  | x :: r, y :: t, z :: u, h1, h2 => by
    have h1 : (decide (y < x) || (y == x && ltCps t r)) = false := h1
    have h2 : (decide (z < y) || (z == y && ltCps u t)) = false := h2
    show (decide (z < x) || (z == x && ltCps u r)) = false
    rw [Bool.or_eq_false_iff] at h1 h2
    have l1 := of_decide_eq_false h1.1
    have l2 := of_decide_eq_false h2.1
    rw [decide_eq_false (by omega)]
    by_cases e : z = x
    · have e1 : y = x := by omega
      subst e e1
      have a1 : ltCps t r = false := by simpa using h1.2
      have a2 : ltCps u t = false := by simpa using h2.2
      rw [le_trans' r t u a1 a2]
      simp
    · rw [beq_eq_false_iff_ne.mpr e]
      rfl
theorem rising_pw : ∀ (p : Str) (l : List Str), risingS p l = true → (p :: l).Pairwise leT
  | p, [], _ => by simp
  | p, x :: r, h => by
    have h : (!ltCps x.cps.toList p.cps.toList && risingS x r) = true := h
    rw [Bool.and_eq_true] at h
    have ih := rising_pw x r h.2
    have h0 : leT p x := by simpa [leT] using h.1
    refine List.pairwise_cons.mpr ⟨fun y hy => ?_, ih⟩
    rcases List.mem_cons.mp hy with e | e
    · rw [e]; exact h0
    · exact le_trans' _ _ _ h0 ((List.pairwise_cons.mp ih).1 y e)
theorem sorted_pw {l : List Str} (h : sortedS l = true) : l.Pairwise leT := by
  cases l with
  | nil => exact List.Pairwise.nil
  | cons x r => exact rising_pw x r h
def insS (x : Str) : List Str → List Str
  | [] => [x]
  | y :: r => if ltCps y.cps.toList x.cps.toList = true then y :: insS x r else x :: y :: r
def sortN : List Str → List Str
  | [] => []
  | x :: r => insS x (sortN r)
theorem ins_perm (x : Str) : ∀ l, (insS x l).Perm (x :: l)
  | [] => List.Perm.refl _
  | y :: r => by
    unfold insS
    split
    · exact ((ins_perm x r).cons y).trans (List.Perm.swap ..)
    · exact List.Perm.refl _
theorem sort_perm : ∀ l, (sortN l).Perm l
  | [] => List.Perm.refl _
  | x :: r => (ins_perm x _).trans ((sort_perm r).cons x)
theorem ins_pw (x : Str) : ∀ l, l.Pairwise leT → (insS x l).Pairwise leT
  | [], _ => by simp [insS]
  | y :: r, h => by
    have h1 := List.pairwise_cons.mp h
    unfold insS
    split
    · rename_i c
      refine List.pairwise_cons.mpr ⟨fun z hz => ?_, ins_pw x r h1.2⟩
      rcases List.mem_cons.mp ((ins_perm x r).mem_iff.mp hz) with e | e
      · rw [e]
        exact lt_asym _ _ c
      · exact h1.1 z e
    · rename_i c
      have c : leT x y := by
        unfold leT
        cases q : ltCps y.cps.toList x.cps.toList with
        | true => exact absurd q c
        | false => rfl
      refine List.pairwise_cons.mpr ⟨fun z hz => ?_, h⟩
      rcases List.mem_cons.mp hz with e | e
      · rw [e]; exact c
      · exact le_trans' _ _ _ c (h1.1 z e)
theorem sort_pw : ∀ l, (sortN l).Pairwise leT
  | [] => List.Pairwise.nil
  | x :: r => ins_pw x _ (sort_pw r)
theorem pw_eq : ∀ {l m : List Str}, l.Perm m → l.Pairwise leT → m.Pairwise leT → l = m
  | [], m, p, _, _ => (List.nil_perm.mp p).symm
  | x :: l, [], p, _, _ => by have := p.length_eq; cases this
  | x :: l, y :: m, p, h1, h2 => by
    have a1 := List.pairwise_cons.mp h1
    have a2 := List.pairwise_cons.mp h2
    have e : x = y := by
      have hx : x ∈ y :: m := p.subset (List.mem_cons_self ..)
      have hy : y ∈ x :: l := p.symm.subset (List.mem_cons_self ..)
      rcases List.mem_cons.mp hx with e | hx
      · exact e
      rcases List.mem_cons.mp hy with e | hy
      · exact e.symm
      exact str_ext (le_anti _ _ (a2.1 x hx) (a1.1 y hy))
    subst e
    rw [pw_eq (List.Perm.cons_inv p) a1.2 a2.2]
theorem sorted_is {ys zs : List Str} (p : ys.Perm zs) (h : sortedS ys = true) : ys = sortN zs := pw_eq (p.trans (sort_perm zs).symm) (sorted_pw h) (sort_pw zs)
theorem sort_of_perm {ys zs : List Str} (p : ys.Perm zs) : sortN ys = sortN zs := pw_eq (((sort_perm ys).trans p).trans (sort_perm zs).symm) (sort_pw ys) (sort_pw zs)
end Sk
/-! Sk: walks of any kind in comprehensions; the literals of data; escapes -/
namespace Sk
open PySem PySem.Spec PyProof.Rows L2
section
variable {R : Hp → Hp → Prop} {J : Hp → Prop} {D : Addr} {H1 : Hp}
/-- [e for x in it], any walk -/
theorem lcw {Jt : It} {n : Nat} {G : Hp → Prop} {Y : Nat → Hp → V → Hp → Prop} (w : Walk Jt n G Y) {g : TG} {te : TE} {vs : List Nat} {σ : L2.St} {Qd : Hp → Prop} (F : Fr R J D) (Pp : Nat → V → Hp → Prop) (hp : J H1) (hD : H1 D = none) (hn : n < 100000)
    (gm : ∀ x σ H (k k' : L2.St → Hp → Prop), (∀ σ2 H2, k σ2 H2 → k' σ2 H2) → g x σ H k → g x σ H k')
    (hS : ∀ H, J H → R H1 H → G H)
    (mono : ∀ i v H H', Pp i v H → Stay H H' → Pp i v H')
    (turn : ∀ (i : Nat) x H H', i < n → J H → R H1 H → Y i H x H' → g x (wipe σ vs) H' (fun σ2 H2 => wipe σ2 vs = wipe σ vs ∧ te σ2 H2 (fun y H4 => J H4 ∧ R H H4 ∧ Pp i y H4)))
    (hd : ∀ H ys, J H → R H1 H → ys.length = n → H D = some (.lst ys) → (∀ (i : Nat) (y : V), ys[i]? = some y → Pp i y H) → Qd H) :
    ∃ W : Nat → Nat → Hp → Prop, (∃ m, W 0 m (upd H1 D (.lst []))) ∧ ∀ i m H, W i m H →
      (Jt.stop i H ∧ Qd H) ∨ (Jt.go i H ∧ ∃ Nx : Hp → Prop, (∀ H', Nx H' → ∃ m', m' < m ∧ W (i + 1) m' H') ∧ ∀ x H', Jt.yld i H x H' → g x (wipe σ vs) H' fun σ2 H2 => wipe σ2 vs = wipe σ vs ∧ tYes σ2 H2 fun b H3 =>
        if b = true then upE te σ2 H3 fun y H4 => ∃ acc, H4 D = some (.lst acc) ∧ acc.length < sizeLine ∧ Nx (upd H4 D (.lst (acc ++ [y]))) else Nx H3) := by
  refine lc_it w (accP R J Pp D H1) (acc_start F hp hD) (fun i H _ hv => hS H hv.1 hv.2.1) (fun i x H H' hi hv y => ?_) (fun H hv => ?_)
  · refine gm x _ _ _ _ (fun σ2 H2 z => ⟨z.1, ?_⟩) (turn i x H H' hi hv.1 hv.2.1 y)
    dsimp only [tYes]
    rw [if_pos rfl]
    exact ⟨_, fun y H4 z => acc_turn F hD mono (by omega) hv z, z.2⟩
  · obtain ⟨p1, k1, ys, l1, e1, q1⟩ := hv
    exact hd H ys p1 k1 l1 e1 q1
theorem gm_name {j : Nat} : ∀ x σ H (k k' : L2.St → Hp → Prop), (∀ σ2 H2, k σ2 H2 → k' σ2 H2) → gName j x σ H k → gName j x σ H k' := fun _ _ _ _ _ h q => h _ _ q
end
theorem strs_ofP {P : Str → Prop} {ys : List V} (h : ∀ (i : Nat) (y : V), ys[i]? = some y → ∃ z, y = V.str z ∧ P z) : ∃ zs : List Str, ys = zs.map V.str ∧ ∀ z ∈ zs, P z := by
  induction ys with
  | nil => exact ⟨[], rfl, fun z hz => by cases hz⟩
  | cons y r ih =>
    obtain ⟨z, e, hz⟩ := h 0 y rfl
    obtain ⟨zs, e2, h2⟩ := ih fun i y hy => h (i + 1) y (by simpa using hy)
    refine ⟨z :: zs, by rw [e, e2]; rfl, fun x hx => ?_⟩
    rcases List.mem_cons.mp hx with q | q
    · rw [q]; exact hz
    · exact h2 x q
/-! ### the literal of a value -/
def rep4 (z : Str) : Str := Txt.replace (Txt.replace (Txt.replace (Txt.replace z "\\" "\\\\") "\"" "\\\"") "\n" "\\n") "<" "\\l"
def litF : V → Str
  | .non => "null"
  | .bl b => if b then "true" else "false"
  | .int i => Str.ofString (toString i)
  | .str z => "\"" ++ rep4 z ++ "\""
  | _ => ""
def rowL (w z : Str) : Str := "\"" ++ w ++ "\":" ++ z
def nms (kvs : List (Key × V)) : List Str := kvs.filterMap fun p => match p.1 with | .inr w => some w | _ => none
def litH (H : Hp) : Nat → V → Str
  | 0, v => litF v
  | n + 1, v => match v with
    | .ref a => match H a with
      | some (.tup vs) => "[" ++ Txt.join "," (vs.map (litH H n)) ++ "]"
      | some (.dK kvs) => "{" ++ Txt.join "," ((sortN (nms kvs)).map fun w => rowL w (litH H n ((valV kvs (.inr w)).getD .non))) ++ "}"
      | _ => ""
    | v => litF v
theorem lit_flat {H : Hp} {v : V} (h : FlatOk v) : ∀ n, litH H n v = litF v
  | 0 => rfl
  | _ + 1 => by cases v <;> first | rfl | exact h.elim
theorem lit_tup {H : Hp} {n : Nat} {a : Addr} {vs : List V} (h : H a = some (.tup vs)) : litH H (n + 1) (.ref a) = "[" ++ Txt.join "," (vs.map (litH H n)) ++ "]" := by
  show (match H a with | some (.tup vs) => _ | some (.dK kvs) => _ | _ => _) = _
  rw [h]
theorem lit_dict {H : Hp} {n : Nat} {a : Addr} {kvs : List (Key × V)} (h : H a = some (.dK kvs)) :
    litH H (n + 1) (.ref a) = "{" ++ Txt.join "," ((sortN (nms kvs)).map fun w => rowL w (litH H n ((valV kvs (.inr w)).getD .non))) ++ "}" := by
  show (match H a with | some (.tup vs) => _ | some (.dK kvs) => _ | _ => _) = _
  rw [h]
theorem nms_keys {kvs : List (Key × V)} (h : ∀ p ∈ kvs, ∃ w, p.1 = .inr w ∧ NameOk w) : kvs.map (·.1) = (nms kvs).map Sum.inr := by
  induction kvs with
  | nil => rfl
  | cons p r ih =>
    obtain ⟨w, e, _⟩ := h p (List.mem_cons_self ..)
    obtain ⟨k, v⟩ := p
    have e : k = .inr w := e
    subst e
    show Sum.inr w :: r.map (·.1) = Sum.inr w :: (nms r).map Sum.inr
    rw [ih fun p hp => h p (List.mem_cons_of_mem _ hp)]
theorem nms_len {kvs : List (Key × V)} (h : ∀ p ∈ kvs, ∃ w, p.1 = .inr w ∧ NameOk w) : (nms kvs).length = kvs.length := by
  have := congrArg List.length (nms_keys h)
  rw [List.length_map, List.length_map] at this
  exact this.symm
theorem val_in {kvs : List (Key × V)} {w : Str} (h : w ∈ nms kvs) : ∃ p ∈ kvs, p.1 = .inr w := by
  unfold nms at h
  obtain ⟨p, hp, e⟩ := List.mem_filterMap.mp h
  refine ⟨p, hp, ?_⟩
  split at e
  · rename_i e2
    cases e
    exact e2
  · cases e
theorem val_mem {kvs : List (Key × V)} {k : Key} {v : V} (h : valV kvs k = some v) : ∃ p ∈ kvs, p.2 = v := by
  unfold valV at h
  obtain ⟨p, hp, e⟩ := Option.map_eq_some_iff.mp h
  exact ⟨p, List.mem_of_find?_eq_some hp, e⟩
theorem val_some {kvs : List (Key × V)} {w : Str} (h : w ∈ nms kvs) : ∃ v, valV kvs (.inr w) = some v ∧ ∃ p ∈ kvs, p.2 = v := by
  obtain ⟨p, hp, e⟩ := val_in h
  cases q : valV kvs (.inr w) with
  | none =>
    have : kvs.any (fun p => decide (p.1 = .inr w)) = false := by rw [valV_any, q]; rfl
    have h2 := List.any_eq_false.mp this p hp
    rw [e] at h2
    simp at h2
  | some v => exact ⟨v, rfl, val_mem q⟩
theorem mem_sort {w : Str} {l : List Str} : w ∈ sortN l ↔ w ∈ l := (sort_perm l).mem_iff
theorem val_get {kvs : List (Key × V)} {w : Str} {P : V → Prop} (h : w ∈ sortN (nms kvs)) (hp : ∀ p ∈ kvs, P p.2) : P ((valV kvs (.inr w)).getD .non) := by
  obtain ⟨v, e, p, hp', e2⟩ := val_some (mem_sort.mp h)
  rw [e]
  show P v
  rw [← e2]
  exact hp p hp'
theorem lit_stay {H H' : Hp} (s : Stay H H') : ∀ (n : Nat) (v : V), GoodV H n v → litH H' n v = litH H n v
  | 0, _, _ => rfl
  | n + 1, v, h => by
    rcases h with h | ⟨a, vs, e, h1, h2, h3⟩ | ⟨a, kvs, e, h1, h2, h3⟩
    · rw [lit_flat h, lit_flat h]
    · subst e
      rw [lit_tup h1, lit_tup (s _ _ rfl h1), List.map_congr_left fun x hx => lit_stay s n x (h3 x hx)]
    · subst e
      rw [lit_dict h1, lit_dict (s _ _ rfl h1)]
      congr 3
      refine List.map_congr_left fun w hw => ?_
      rw [val_get (P := fun v => litH H' n v = litH H n v) hw fun p hp => lit_stay s n p.2 (h3 p hp)]
theorem lit_up {H : Hp} : ∀ (n : Nat) (v : V), GoodV H n v → litH H (n + 1) v = litH H n v
  | 0, v, h => by rw [lit_flat (show FlatOk v from h), lit_flat (show FlatOk v from h)]
  | n + 1, v, h => by
    rcases h with h | ⟨a, vs, e, h1, h2, h3⟩ | ⟨a, kvs, e, h1, h2, h3⟩
    · rw [lit_flat h, lit_flat h]
    · subst e
      rw [lit_tup h1, lit_tup h1, List.map_congr_left fun x hx => lit_up n x (h3 x hx)]
    · subst e
      rw [lit_dict h1, lit_dict h1]
      congr 3
      refine List.map_congr_left fun w hw => ?_
      rw [val_get (P := fun v => litH H (n + 1) v = litH H n v) hw fun p hp => lit_up n p.2 (h3 p hp)]
/-! ### nothing contains itself -/
theorem GoodV.le {H : Hp} {v : V} {m n : Nat} (h : m ≤ n) (g : GoodV H m v) : GoodV H n v := by
  induction h with
  | refl => exact g
  | step _ ih => exact GoodV.up _ _ ih
theorem good_hide {H : Hp} {d : Addr} {m : Nat} (hm : ∀ k, k < m → ¬ GoodV H k (.ref d)) : ∀ (k : Nat) (v : V), k < m → GoodV H k v → GoodV (hide d H) k v
  | 0, _, _, h => h
  | k + 1, v, hk, h => by
    have ne : v ≠ .ref d := fun e => hm (k + 1) hk (e ▸ h)
    rcases h with h | ⟨a, vs, e, h1, h2, h3⟩ | ⟨a, kvs, e, h1, h2, h3⟩
    · exact .inl h
    · have na : a ≠ d := fun z => ne (by rw [e, z])
      exact .inr (.inl ⟨a, vs, e, by rw [hide_ne na]; exact h1, h2, fun x hx => good_hide hm k x (by omega) (h3 x hx)⟩)
    · have na : a ≠ d := fun z => ne (by rw [e, z])
      exact .inr (.inr ⟨a, kvs, e, by rw [hide_ne na]; exact h1, h2, fun p hp => good_hide hm k p.2 (by omega) (h3 p hp)⟩)
theorem good_part {H : Hp} {d : Addr} {kvs : List (Key × V)} (hd : H d = some (.dK kvs)) : ∀ n, GoodV H (n + 1) (.ref d) → ∀ p ∈ kvs, GoodV (hide d H) n p.2 := by
  intro n
  induction n with
  | zero =>
    intro h p hp
    rcases h with h | ⟨a, vs, e, h1, h2, h3⟩ | ⟨a, ws, e, h1, h2, h3⟩
    · exact h.elim
    · cases e; rw [hd] at h1; cases h1
    · cases e; rw [hd] at h1; cases h1; exact h3 p hp
  | succ n ih =>
    intro h p hp
    by_cases q : GoodV H (n + 1) (.ref d)
    · exact GoodV.up _ _ (ih q p hp)
    · have hm : ∀ k, k < n + 2 → ¬ GoodV H k (.ref d) := fun k hk g => q (GoodV.le (by omega) g)
      rcases h with h | ⟨a, vs, e, h1, h2, h3⟩ | ⟨a, ws, e, h1, h2, h3⟩
      · exact h.elim
      · cases e; rw [hd] at h1; cases h1
      · cases e; rw [hd] at h1; cases h1; exact good_hide hm _ _ (by omega) (h3 p hp)
/-! ### how long a literal is -/
def litS : Nat → Nat
  | 0 => 2100
  | n + 1 => 3 * litS n + 60
theorem litS_le : ∀ n, litS n ≤ litS (n + 1) := fun n => by show litS n ≤ 3 * litS n + 60; omega
theorem litS_mono {m n : Nat} (h : m ≤ n) : litS m ≤ litS n := by
  induction h with
  | refl => exact Nat.le_refl _
  | step _ ih => exact Nat.le_trans ih (litS_le _)
theorem rep_le {z a b : Str} {m k : Nat} (hz : z.length ≤ m) (hb : b.length ≤ k) : (Txt.replace z a b).length ≤ m + (m + 1) * k :=
  Nat.le_trans (TK.replace_len z a b) (Nat.add_le_add hz (Nat.mul_le_mul (Nat.succ_le_succ hz) hb))
theorem rep4_len {z : Str} (h : z.length ≤ 24) : (rep4 z).length ≤ 2024 := rep_le (m := 674) (k := 2) (rep_le (m := 224) (k := 2) (rep_le (m := 74) (k := 2) (rep_le (m := 24) (k := 2) h (by decide)) (by decide)) (by decide)) (by decide)
theorem int_log {i : Int} (h : i.natAbs ≤ 10 ^ 30) : i.natAbs.log2 < 1920 := by
  by_cases z : i.natAbs = 0
  · rw [z]; decide
  · exact (Nat.log2_lt z).mpr (Nat.lt_of_le_of_lt h (by decide +kernel))
theorem litF_len {v : V} (h : FlatOk v) : (litF v).length ≤ 2100 := by
  cases v with
  | non => show (Str.ofString "null").length ≤ 2100; decide
  | bl b => cases b <;> decide
  | int i => exact Nat.le_trans (int_text_len_1921 (int_log h)) (by decide)
  | str z =>
    show (("\"" : Str) ++ rep4 z ++ "\"").length ≤ 2100
    have := rep4_len h.1
    rw [app_len, app_len]
    show 1 + (rep4 z).length + 1 ≤ 2100
    omega
  | _ => exact h.elim
theorem join_le (y : Str) (zs : List Str) : (Txt.join y zs).length ≤ (zs.map (·.length)).sum + zs.length * y.length := by rw [TL.join_eq]; exact StrLaws.join_length_le y zs
theorem sum_le {α : Type} {l : List α} {f : α → Nat} {m : Nat} (h : ∀ x ∈ l, f x ≤ m) : (l.map f).sum ≤ l.length * m := by
  induction l with
  | nil => exact Nat.zero_le _
  | cons a r ih =>
    rw [List.map_cons, List.sum_cons, List.length_cons, Nat.succ_mul]
    have := ih fun x hx => h x (List.mem_cons_of_mem _ hx)
    have := h a (List.mem_cons_self ..)
    omega
theorem row_len {w z : Str} {m : Nat} (hw : w.length ≤ 12) (hz : z.length ≤ m) : (rowL w z).length ≤ m + 15 := by
  unfold rowL
  rw [app_len, app_len, app_len]
  show 1 + w.length + 2 + z.length ≤ m + 15
  omega
theorem lit_len {H : Hp} : ∀ (n : Nat) (v : V), GoodV H n v → (litH H n v).length ≤ litS n
  | 0, _, h => litF_len h
  | n + 1, v, h => by
    have low := litS_mono (Nat.zero_le n)
    rcases h with h | ⟨a, vs, e, h1, h2, h3⟩ | ⟨a, kvs, e, h1, h2, h3⟩
    · rw [lit_flat h]
      exact Nat.le_trans (litF_len h) (litS_mono (Nat.zero_le (n + 1)))
    · subst e
      rw [lit_tup h1, app_len, app_len]
      have a1 := join_le "," (vs.map (litH H n))
      rw [List.map_map, List.length_map] at a1
      have a2 : (vs.map ((fun z : Str => z.length) ∘ litH H n)).sum ≤ vs.length * litS n := sum_le fun x hx => lit_len n x (h3 x hx)
      have a3 : vs.length * litS n ≤ 3 * litS n := Nat.mul_le_mul_right _ h2
      have e1 : ("," : Str).length = 1 := rfl
      rw [e1] at a1
      show 1 + (Txt.join "," (vs.map (litH H n))).length + 1 ≤ 3 * litS n + 60
      omega
    · subst e
      rw [lit_dict h1, app_len, app_len]
      have nl := nms_len h2.2.2
      have sl : (sortN (nms kvs)).length = kvs.length := (sort_perm _).length_eq.trans nl
      have a1 := join_le "," ((sortN (nms kvs)).map fun w => rowL w (litH H n ((valV kvs (.inr w)).getD .non)))
      rw [List.map_map, List.length_map, sl] at a1
      have a2 : ((sortN (nms kvs)).map ((fun z : Str => z.length) ∘ fun w => rowL w (litH H n ((valV kvs (.inr w)).getD .non)))).sum ≤ (sortN (nms kvs)).length * (litS n + 15) := sum_le fun w hw => by
        refine row_len ?_ (val_get (P := fun v => (litH H n v).length ≤ litS n) hw fun p hp => lit_len n p.2 (h3 p hp))
        obtain ⟨p, hp, e⟩ := val_in (mem_sort.mp hw)
        obtain ⟨w', e', ok⟩ := h2.2.2 p hp
        rw [e] at e'
        cases e'
        exact ok.2.1
      rw [sl] at a2
      have a3 : kvs.length * (litS n + 15) ≤ 3 * (litS n + 15) := Nat.mul_le_mul_right _ h2.1
      have e1 : ("," : Str).length = 1 := rfl
      rw [e1] at a1
      have l3 := h2.1
      show 1 + (Txt.join "," ((sortN (nms kvs)).map fun w => rowL w (litH H n ((valV kvs (.inr w)).getD .non)))).length + 1 ≤ 3 * litS n + 60
      omega
theorem litS6 {n : Nat} (h : n ≤ 6) : litS n ≤ 2000000 := Nat.le_trans (litS_mono h) (by decide)
end Sk
namespace Sk
open PySem PySem.Spec PyProof.Rows L2
def uIfT (t ta tb : TT) : TT := fun σ H Q => t σ H fun c H1 => br c (ta σ H1 Q) (tb σ H1 Q)
section
variable {X : Cx}
/-- a if c else b, as a test -/
theorem tif {c a b : Expr} {tc ta tb : TT} {pos : Pos} (hc : PT X c tc) (ha : PT X a ta) (hb : PT X b tb) : PT X (.IfExp c a b pos) (uIfT tc ta tb) := by
  refine ⟨fun pins s σ H Q I h => isTrue_IfExp (thn (hc.run pins s σ H _ I h) fun d s1 z => ?_)⟩
  obtain ⟨H1, I1, q1⟩ := z
  cases d with
  | true => exact ha.run pins s1 σ H1 Q I1 q1
  | false => exact hb.run pins s1 σ H1 Q I1 q1
end
theorem map_of {α : Type} {ys : List V} {xs : List α} {f : α → V} (hl : ys.length = xs.length) (h : ∀ (i : Nat) (y : V), ys[i]? = some y → ∃ x, xs[i]? = some x ∧ y = f x) : ys = xs.map f := by
  refine List.ext_getElem? fun i => ?_
  rw [List.getElem?_map]
  cases e : ys[i]? with
  | none =>
    have : xs[i]? = none := by
      rw [List.getElem?_eq_none_iff] at e ⊢
      omega
    rw [this]
    rfl
  | some y =>
    obtain ⟨x, hx, rfl⟩ := h i y e
    rw [hx]
    rfl
theorem emp_app (x : Str) : Str.empty ++ x = x := str_ext (by rw [app_list]; rfl)
theorem keys_str {kvs : List (Key × V)} (h : ∀ p ∈ kvs, ∃ w, p.1 = .inr w ∧ NameOk w) : kvs.map (fun p => kV p.1) = (nms kvs).map V.str := by
  have e := congrArg (List.map kV) (nms_keys h)
  rw [List.map_map, List.map_map] at e
  exact e
/-- sorted([k for k in d]) -/
theorem sort_keys {K : PySem.W.Frag} {σ : L2.St} {H : Hp} {a : Addr} {kvs : List (Key × V)} {i j : Nat} {Q : VK} (h0 : H a = some (.dK kvs)) (dk : DictOk kvs)
    (hv : ∀ Hx (k : VK), k (.ref a) Hx → uVar i σ Hx k) (hx : ∀ x Hx (k : VK), k x Hx → uVar j ((wipe σ [j]).set j (some x)) Hx k) (hw : ∀ x, wipe ((wipe σ [j]).set j (some x)) [j] = wipe σ [j])
    (q : ∀ p H', Same H H' → H' p = some (.lst ((sortN (nms kvs)).map V.str)) → Q (.ref p) H') :
    tCB (rSortedS K) (tCons (tLockE (tLc (iKeys (uVar i)) (gName j) tYes (upE (uVar j)) [j])) tNil) σ H Q := by
  refine ⟨a, _, h0, trivial, fun od => ?_⟩
  dsimp only [tLc, iKeys]
  refine hv _ _ ?_
  refine ⟨a, od, rfl, .inl ⟨kvs, upd_same, fun D nD => ?_⟩⟩
  have nDa := (upd_none nD).1
  have lk := dk.1
  have hf : upd H a (.frz od (.dK kvs)) a = some (.frz od (.dK kvs)) := upd_same
  refine lcw walk_keys fr_same (fun i v _ => ∃ p, kvs[i]? = some p ∧ v = kV p.1) trivial nD (by omega) gm_name (fun H1 _ s1 => s1 _ _ hf) (fun _ _ _ _ h _ => h) (fun i x H1 H1' hi _ s1 hy => ?_) (fun H1 ys _ s1 l1 e1 q1 => ?_)
  · obtain ⟨rfl, k0, v0, hk, rfl⟩ := hy
    refine ⟨hw _, hx _ _ _ ?_⟩
    exact ⟨trivial, Same.refl _, (k0, v0), hk, rfl⟩
  · have e := map_of (f := fun p : Key × V => kV p.1) l1 q1
    rw [keys_str dk.2.2] at e
    subst e
    have f1 := s1 _ _ hf
    have nl := nms_len dk.2.2
    refine ⟨f1, D, nms kvs, rfl, sqL_of ((upd_ne nDa).trans e1), by omega, fun ys p perm srt np => ?_⟩
    rw [sorted_is perm srt]
    refine q _ _ (Same.trans ?_ (same_new np)) upd_same
    intro b o hb
    by_cases z : b = a
    · subst z
      rw [upd_same, ← h0]
      exact hb
    · rw [upd_ne z]
      refine s1 b o ?_
      rw [upd_ne z]
      exact hb
end Sk
namespace Sk
open PySem PySem.Spec PyProof.Rows L2
def topS (i : Nat) : Stmt := PySem.Challenge.pw_shapekeep_k22_escapes.main.body.getD i (.Pass ⟨0, 0, 0, 0⟩)
abbrev s_is_whole : Stmt := topS 4
theorem sc_is_whole : FnScope ["thing"] ["thing"] (defScope s_is_whole) := ⟨rfl, rfl, rfl, by decide +kernel, rfl, by decide +kernel, by decide +kernel⟩
def d_is_whole : He.DefD := ⟨("is_whole", none), "is_whole", "is_whole", defArgs s_is_whole, defBody s_is_whole, defScope s_is_whole, [], []⟩
abbrev s_is_name : Stmt := topS 5
theorem sc_is_name : FnScope ["thing", "letter"] ["thing"] (defScope s_is_name) := ⟨rfl, rfl, rfl, by decide +kernel, rfl, by decide +kernel, by decide +kernel⟩
def d_is_name : He.DefD := ⟨("is_name", none), "is_name", "is_name", defArgs s_is_name, defBody s_is_name, defScope s_is_name, [], []⟩
abbrev s_has_level : Stmt := topS 6
theorem sc_has_level : FnScope ["thing", "most", "name", "part"] ["thing", "most"] (defScope s_has_level) := ⟨rfl, rfl, rfl, by decide +kernel, rfl, by decide +kernel, by decide +kernel⟩
def d_has_level : He.DefD := ⟨("has_level", none), "has_level", "has_level", defArgs s_has_level, defBody s_has_level, defScope s_has_level, [], []⟩
abbrev s_write_text : Stmt := topS 10
theorem sc_write_text : FnScope ["text"] ["text"] (defScope s_write_text) := ⟨rfl, rfl, rfl, by decide +kernel, rfl, by decide +kernel, by decide +kernel⟩
def d_write_text : He.DefD := ⟨("write_text", none), "write_text", "write_text", defArgs s_write_text, defBody s_write_text, defScope s_write_text, [], []⟩
abbrev s_write_attribute : Stmt := topS 11
theorem sc_write_attribute : FnScope ["text"] ["text"] (defScope s_write_attribute) := ⟨rfl, rfl, rfl, by decide +kernel, rfl, by decide +kernel, by decide +kernel⟩
def d_write_attribute : He.DefD := ⟨("write_attribute", none), "write_attribute", "write_attribute", defArgs s_write_attribute, defBody s_write_attribute, defScope s_write_attribute, [], []⟩
abbrev s_write_sign : Stmt := topS 12
theorem sc_write_sign : FnScope ["sign", "high", "low"] ["sign"] (defScope s_write_sign) := ⟨rfl, rfl, rfl, by decide +kernel, rfl, by decide +kernel, by decide +kernel⟩
def d_write_sign : He.DefD := ⟨("write_sign", none), "write_sign", "write_sign", defArgs s_write_sign, defBody s_write_sign, defScope s_write_sign, [], []⟩
abbrev s_write_code : Stmt := topS 13
theorem sc_write_code : FnScope ["text", "sign"] ["text"] (defScope s_write_code) := ⟨rfl, rfl, rfl, by decide +kernel, rfl, by decide +kernel, by decide +kernel⟩
def d_write_code : He.DefD := ⟨("write_code", none), "write_code", "write_code", defArgs s_write_code, defBody s_write_code, defScope s_write_code, [], []⟩
abbrev s_write_literal : Stmt := topS 19
theorem sc_write_literal : FnScope ["value", "inner", "rows", "name", "part"] ["value"] (defScope s_write_literal) := ⟨rfl, rfl, rfl, by decide +kernel, rfl, by decide +kernel, by decide +kernel⟩
def d_write_literal : He.DefD := ⟨("write_literal", none), "write_literal", "write_literal", defArgs s_write_literal, defBody s_write_literal, defScope s_write_literal, [], []⟩
abbrev s_is_value : Stmt := topS 21
theorem sc_is_value : FnScope ["thing"] ["thing"] (defScope s_is_value) := ⟨rfl, rfl, rfl, by decide +kernel, rfl, by decide +kernel, by decide +kernel⟩
def d_is_value : He.DefD := ⟨("is_value", none), "is_value", "is_value", defArgs s_is_value, defBody s_is_value, defScope s_is_value, [], []⟩
abbrev s_escape_text : Stmt := topS 25
theorem sc_escape_text : FnScope ["context", "value", "text"] ["context", "value"] (defScope s_escape_text) := ⟨rfl, rfl, rfl, by decide +kernel, rfl, by decide +kernel, by decide +kernel⟩
def d_escape_text : He.DefD := ⟨("escape_text", none), "escape_text", "escape_text", defArgs s_escape_text, defBody s_escape_text, defScope s_escape_text, [], []⟩
abbrev s_check_context : Stmt := topS 26
theorem sc_check_context : FnScope ["context"] ["context"] (defScope s_check_context) := ⟨rfl, rfl, rfl, by decide +kernel, rfl, by decide +kernel, by decide +kernel⟩
def d_check_context : He.DefD := ⟨("check_context", none), "check_context", "check_context", defArgs s_check_context, defBody s_check_context, defScope s_check_context, [], []⟩
abbrev s_escape : Stmt := topS 27
theorem sc_escape : FnScope ["context", "value"] ["context", "value"] (defScope s_escape) := ⟨rfl, rfl, rfl, by decide +kernel, rfl, by decide +kernel, by decide +kernel⟩
def d_escape : He.DefD := ⟨("escape", none), "escape", "escape", defArgs s_escape, defBody s_escape, defScope s_escape, [], []⟩
abbrev s__law_cell : Stmt := topS 29
theorem sc__law_cell : FnScope ["_law_script", "_law_k", "_law_state", "_law_cell_here"] ["_law_script", "_law_k"] (defScope s__law_cell) := ⟨rfl, rfl, rfl, by decide +kernel, rfl, by decide +kernel, by decide +kernel⟩
def d__law_cell : He.DefD := ⟨("_law_cell", none), "_law_cell", "_law_cell", defArgs s__law_cell, defBody s__law_cell, defScope s__law_cell, [], []⟩
abbrev s__law_pool : Stmt := topS 30
theorem sc__law_pool : FnScope ["_law_cell_here", "_law_digits"] ["_law_cell_here"] (defScope s__law_pool) := ⟨rfl, rfl, rfl, by decide +kernel, rfl, by decide +kernel, by decide +kernel⟩
def d__law_pool : He.DefD := ⟨("_law_pool", none), "_law_pool", "_law_pool", defArgs s__law_pool, defBody s__law_pool, defScope s__law_pool, [], []⟩
abbrev s__law_draw : Stmt := topS 31
theorem sc__law_draw : FnScope ["_law_pool_here", "_law_many", "_law_state", "_law_digit"] ["_law_pool_here", "_law_many"] (defScope s__law_draw) := ⟨rfl, rfl, rfl, by decide +kernel, rfl, by decide +kernel, by decide +kernel⟩
def d__law_draw : He.DefD := ⟨("_law_draw", none), "_law_draw", "_law_draw", defArgs s__law_draw, defBody s__law_draw, defScope s__law_draw, [], []⟩
abbrev s__law_words : Stmt := topS 32
theorem sc__law_words : FnScope ["_law_pool_here", "_law_many", "_law_letters", "_law_menu", "_law_way", "_law_begin", "_law_stem", "_law_at", "_law_found", "_law_k", "_law_word"] ["_law_pool_here", "_law_many"] (defScope s__law_words) := ⟨rfl, rfl, rfl, by decide +kernel, rfl, by decide +kernel, by decide +kernel⟩
def d__law_words : He.DefD := ⟨("_law_words", none), "_law_words", "_law_words", defArgs s__law_words, defBody s__law_words, defScope s__law_words, [], []⟩
abbrev s__law_chars : Stmt := topS 33
theorem sc__law_chars : FnScope ["_law_pool_here", "_law_menu", "_law_way", "_law_signs", "_law_k"] ["_law_pool_here"] (defScope s__law_chars) := ⟨rfl, rfl, rfl, by decide +kernel, rfl, by decide +kernel, by decide +kernel⟩
def d__law_chars : He.DefD := ⟨("_law_chars", none), "_law_chars", "_law_chars", defArgs s__law_chars, defBody s__law_chars, defScope s__law_chars, [], []⟩
abbrev s__law_form : Stmt := topS 34
theorem sc__law_form : FnScope ["_law_pool_here", "_law_deep", "_law_way", "_law_words_here", "_law_fields", "_law_key", "_law_inner", "_law_word"] ["_law_pool_here", "_law_deep"] (defScope s__law_form) := ⟨rfl, rfl, rfl, by decide +kernel, rfl, by decide +kernel, by decide +kernel⟩
def d__law_form : He.DefD := ⟨("_law_form", none), "_law_form", "_law_form", defArgs s__law_form, defBody s__law_form, defScope s__law_form, [], []⟩
abbrev s__law_thing_of : Stmt := topS 35
theorem sc__law_thing_of : FnScope ["_law_pool_here", "_law_form_here", "_law_found", "_law_word", "_law_inner", "_law_k", "_law_numbers"] ["_law_pool_here", "_law_form_here"] (defScope s__law_thing_of) := ⟨rfl, rfl, rfl, by decide +kernel, rfl, by decide +kernel, by decide +kernel⟩
def d__law_thing_of : He.DefD := ⟨("_law_thing_of", none), "_law_thing_of", "_law_thing_of", defArgs s__law_thing_of, defBody s__law_thing_of, defScope s__law_thing_of, [], []⟩
abbrev s__law_code : Stmt := topS 36
theorem sc__law_code : FnScope ["_law_chars_here", "_law_found", "_law_sign", "_law_plain", "_law_low", "_law_high"] ["_law_chars_here"] (defScope s__law_code) := ⟨rfl, rfl, rfl, by decide +kernel, rfl, by decide +kernel, by decide +kernel⟩
def d__law_code : He.DefD := ⟨("_law_code", none), "_law_code", "_law_code", defArgs s__law_code, defBody s__law_code, defScope s__law_code, [], []⟩
abbrev s__law_literal : Stmt := topS 37
theorem sc__law_literal : FnScope ["_law_thing_here", "_law_chars_here", "_law_names", "_law_rows", "_law_word", "_law_each"] ["_law_thing_here"] (defScope s__law_literal) := ⟨rfl, rfl, rfl, by decide +kernel, rfl, by decide +kernel, by decide +kernel⟩
def d__law_literal : He.DefD := ⟨("_law_literal", none), "_law_literal", "_law_literal", defArgs s__law_literal, defBody s__law_literal, defScope s__law_literal, [], []⟩
abbrev s__law_escaped : Stmt := topS 38
theorem sc__law_escaped : FnScope ["_law_where", "_law_thing_here", "_law_chars_here"] ["_law_where", "_law_thing_here"] (defScope s__law_escaped) := ⟨rfl, rfl, rfl, by decide +kernel, rfl, by decide +kernel, by decide +kernel⟩
def d__law_escaped : He.DefD := ⟨("_law_escaped", none), "_law_escaped", "_law_escaped", defArgs s__law_escaped, defBody s__law_escaped, defScope s__law_escaped, [], []⟩
abbrev s__law_told : Stmt := topS 39
theorem sc__law_told : FnScope ["_law_where", "_law_thing_here", "_law_due", "_law_found"] ["_law_where", "_law_thing_here"] (defScope s__law_told) := ⟨rfl, rfl, rfl, by decide +kernel, rfl, by decide +kernel, by decide +kernel⟩
def d__law_told : He.DefD := ⟨("_law_told", none), "_law_told", "_law_told", defArgs s__law_told, defBody s__law_told, defScope s__law_told, [], []⟩
abbrev s__law_turned : Stmt := topS 40
theorem sc__law_turned : FnScope ["_law_thing_here", "_law_found", "_law_word", "_law_each"] ["_law_thing_here"] (defScope s__law_turned) := ⟨rfl, rfl, rfl, by decide +kernel, rfl, by decide +kernel, by decide +kernel⟩
def d__law_turned : He.DefD := ⟨("_law_turned", none), "_law_turned", "_law_turned", defArgs s__law_turned, defBody s__law_turned, defScope s__law_turned, [], []⟩
abbrev s__law_right : Stmt := topS 41
theorem sc__law_right : FnScope ["_law_pool_here", "_law_turn", "_law_chars_here", "_law_count", "_law_thing_here", "_law_where", "_law_other_way"] ["_law_pool_here"] (defScope s__law_right) := ⟨rfl, rfl, rfl, by decide +kernel, rfl, by decide +kernel, by decide +kernel⟩
def d__law_right : He.DefD := ⟨("_law_right", none), "_law_right", "_law_right", defArgs s__law_right, defBody s__law_right, defScope s__law_right, [], []⟩
abbrev s_law : Stmt := topS 42
theorem sc_law : FnScope ["_law_script", "_law_signs", "_law_where", "_law_rows", "_law_k", "_law_thing_here", "_law_due", "_law_sign"] ["_law_script"] (defScope s_law) := ⟨rfl, rfl, rfl, by decide +kernel, rfl, by decide +kernel, by decide +kernel⟩
def d_law : He.DefD := ⟨("law", none), "law", "law", defArgs s_law, defBody s_law, defScope s_law, [], []⟩
structure Top (K : PySem.W.Frag) (mg : Str → Option Value) where
  fd_is_whole : FuncData
  F_is_whole : FunD K "is_whole" "is_whole" (defArgs s_is_whole) (defBody s_is_whole) (defScope s_is_whole) [] [] (He.ga K "is_whole") fd_is_whole
  g_is_whole : mg "is_whole" = some (.ref (He.ga K "is_whole"))
  fd_is_name : FuncData
  F_is_name : FunD K "is_name" "is_name" (defArgs s_is_name) (defBody s_is_name) (defScope s_is_name) [] [] (He.ga K "is_name") fd_is_name
  g_is_name : mg "is_name" = some (.ref (He.ga K "is_name"))
  fd_has_level : FuncData
  F_has_level : FunD K "has_level" "has_level" (defArgs s_has_level) (defBody s_has_level) (defScope s_has_level) [] [] (He.ga K "has_level") fd_has_level
  g_has_level : mg "has_level" = some (.ref (He.ga K "has_level"))
  fd_write_text : FuncData
  F_write_text : FunD K "write_text" "write_text" (defArgs s_write_text) (defBody s_write_text) (defScope s_write_text) [] [] (He.ga K "write_text") fd_write_text
  g_write_text : mg "write_text" = some (.ref (He.ga K "write_text"))
  fd_write_attribute : FuncData
  F_write_attribute : FunD K "write_attribute" "write_attribute" (defArgs s_write_attribute) (defBody s_write_attribute) (defScope s_write_attribute) [] [] (He.ga K "write_attribute") fd_write_attribute
  g_write_attribute : mg "write_attribute" = some (.ref (He.ga K "write_attribute"))
  fd_write_sign : FuncData
  F_write_sign : FunD K "write_sign" "write_sign" (defArgs s_write_sign) (defBody s_write_sign) (defScope s_write_sign) [] [] (He.ga K "write_sign") fd_write_sign
  g_write_sign : mg "write_sign" = some (.ref (He.ga K "write_sign"))
  fd_write_code : FuncData
  F_write_code : FunD K "write_code" "write_code" (defArgs s_write_code) (defBody s_write_code) (defScope s_write_code) [] [] (He.ga K "write_code") fd_write_code
  g_write_code : mg "write_code" = some (.ref (He.ga K "write_code"))
  fd_write_literal : FuncData
  F_write_literal : FunD K "write_literal" "write_literal" (defArgs s_write_literal) (defBody s_write_literal) (defScope s_write_literal) [] [] (He.ga K "write_literal") fd_write_literal
  g_write_literal : mg "write_literal" = some (.ref (He.ga K "write_literal"))
  fd_is_value : FuncData
  F_is_value : FunD K "is_value" "is_value" (defArgs s_is_value) (defBody s_is_value) (defScope s_is_value) [] [] (He.ga K "is_value") fd_is_value
  g_is_value : mg "is_value" = some (.ref (He.ga K "is_value"))
  fd_escape_text : FuncData
  F_escape_text : FunD K "escape_text" "escape_text" (defArgs s_escape_text) (defBody s_escape_text) (defScope s_escape_text) [] [] (He.ga K "escape_text") fd_escape_text
  g_escape_text : mg "escape_text" = some (.ref (He.ga K "escape_text"))
  fd_check_context : FuncData
  F_check_context : FunD K "check_context" "check_context" (defArgs s_check_context) (defBody s_check_context) (defScope s_check_context) [] [] (He.ga K "check_context") fd_check_context
  g_check_context : mg "check_context" = some (.ref (He.ga K "check_context"))
  fd_escape : FuncData
  F_escape : FunD K "escape" "escape" (defArgs s_escape) (defBody s_escape) (defScope s_escape) [] [] (He.ga K "escape") fd_escape
  g_escape : mg "escape" = some (.ref (He.ga K "escape"))
  fd__law_cell : FuncData
  F__law_cell : FunD K "_law_cell" "_law_cell" (defArgs s__law_cell) (defBody s__law_cell) (defScope s__law_cell) [] [] (He.ga K "_law_cell") fd__law_cell
  g__law_cell : mg "_law_cell" = some (.ref (He.ga K "_law_cell"))
  fd__law_pool : FuncData
  F__law_pool : FunD K "_law_pool" "_law_pool" (defArgs s__law_pool) (defBody s__law_pool) (defScope s__law_pool) [] [] (He.ga K "_law_pool") fd__law_pool
  g__law_pool : mg "_law_pool" = some (.ref (He.ga K "_law_pool"))
  fd__law_draw : FuncData
  F__law_draw : FunD K "_law_draw" "_law_draw" (defArgs s__law_draw) (defBody s__law_draw) (defScope s__law_draw) [] [] (He.ga K "_law_draw") fd__law_draw
  g__law_draw : mg "_law_draw" = some (.ref (He.ga K "_law_draw"))
  fd__law_words : FuncData
  F__law_words : FunD K "_law_words" "_law_words" (defArgs s__law_words) (defBody s__law_words) (defScope s__law_words) [] [] (He.ga K "_law_words") fd__law_words
  g__law_words : mg "_law_words" = some (.ref (He.ga K "_law_words"))
  fd__law_chars : FuncData
  F__law_chars : FunD K "_law_chars" "_law_chars" (defArgs s__law_chars) (defBody s__law_chars) (defScope s__law_chars) [] [] (He.ga K "_law_chars") fd__law_chars
  g__law_chars : mg "_law_chars" = some (.ref (He.ga K "_law_chars"))
  fd__law_form : FuncData
  F__law_form : FunD K "_law_form" "_law_form" (defArgs s__law_form) (defBody s__law_form) (defScope s__law_form) [] [] (He.ga K "_law_form") fd__law_form
  g__law_form : mg "_law_form" = some (.ref (He.ga K "_law_form"))
  fd__law_thing_of : FuncData
  F__law_thing_of : FunD K "_law_thing_of" "_law_thing_of" (defArgs s__law_thing_of) (defBody s__law_thing_of) (defScope s__law_thing_of) [] [] (He.ga K "_law_thing_of") fd__law_thing_of
  g__law_thing_of : mg "_law_thing_of" = some (.ref (He.ga K "_law_thing_of"))
  fd__law_code : FuncData
  F__law_code : FunD K "_law_code" "_law_code" (defArgs s__law_code) (defBody s__law_code) (defScope s__law_code) [] [] (He.ga K "_law_code") fd__law_code
  g__law_code : mg "_law_code" = some (.ref (He.ga K "_law_code"))
  fd__law_literal : FuncData
  F__law_literal : FunD K "_law_literal" "_law_literal" (defArgs s__law_literal) (defBody s__law_literal) (defScope s__law_literal) [] [] (He.ga K "_law_literal") fd__law_literal
  g__law_literal : mg "_law_literal" = some (.ref (He.ga K "_law_literal"))
  fd__law_escaped : FuncData
  F__law_escaped : FunD K "_law_escaped" "_law_escaped" (defArgs s__law_escaped) (defBody s__law_escaped) (defScope s__law_escaped) [] [] (He.ga K "_law_escaped") fd__law_escaped
  g__law_escaped : mg "_law_escaped" = some (.ref (He.ga K "_law_escaped"))
  fd__law_told : FuncData
  F__law_told : FunD K "_law_told" "_law_told" (defArgs s__law_told) (defBody s__law_told) (defScope s__law_told) [] [] (He.ga K "_law_told") fd__law_told
  g__law_told : mg "_law_told" = some (.ref (He.ga K "_law_told"))
  fd__law_turned : FuncData
  F__law_turned : FunD K "_law_turned" "_law_turned" (defArgs s__law_turned) (defBody s__law_turned) (defScope s__law_turned) [] [] (He.ga K "_law_turned") fd__law_turned
  g__law_turned : mg "_law_turned" = some (.ref (He.ga K "_law_turned"))
  fd__law_right : FuncData
  F__law_right : FunD K "_law_right" "_law_right" (defArgs s__law_right) (defBody s__law_right) (defScope s__law_right) [] [] (He.ga K "_law_right") fd__law_right
  g__law_right : mg "_law_right" = some (.ref (He.ga K "_law_right"))
  fd_law : FuncData
  F_law : FunD K "law" "law" (defArgs s_law) (defBody s_law) (defScope s_law) [] [] (He.ga K "law") fd_law
  g_law : mg "law" = some (.ref (He.ga K "law"))
  t_MAX_ELEMENTS : Tok
  c_MAX_ELEMENTS : mg "MAX_ELEMENTS" = some (.int 60 t_MAX_ELEMENTS)
  t_MAX_LEVELS : Tok
  c_MAX_LEVELS : mg "MAX_LEVELS" = some (.int 6 t_MAX_LEVELS)
  t_LETTERS : Tok
  c_LETTERS : mg "LETTERS" = some (.str "abcdefghijklmnopqrstuvwxyz" t_LETTERS)
  t_HEX : Tok
  c_HEX : mg "HEX" = some (.str "0123456789abcdef" t_HEX)
  t_CODED : Tok
  c_CODED : mg "CODED" = some (.str (Str.ofString ("\n !\"#$&'()*+,/:;<=>?@" ++ "[\\]^`{|}~")) t_CODED)
  t_DATA : Tok
  c_DATA : mg "DATA" = some (.str "data" t_DATA)
  g_ALL_CONTEXTS : mg "ALL_CONTEXTS" = some (.ref (He.ga K "ALL_CONTEXTS"))
  q_ALL_CONTEXTS : ∀ H, SqT K H (He.ga K "ALL_CONTEXTS") [.str "text", .str "attribute", .str "part", .str "query", .str "data"]
  g_ShapeError : mg "ShapeError" = some (.ref (He.ga K "ShapeError"))
  g_InvalidValue : mg "InvalidValue" = some (.ref (He.ga K "InvalidValue"))
  g_InvalidContext : mg "InvalidContext" = some (.ref (He.ga K "InvalidContext"))
  n_ValueError : mg "ValueError" = none
  n_abs : mg "abs" = none
  n_all : mg "all" = none
  n_bool : mg "bool" = none
  n_dict : mg "dict" = none
  n_divmod : mg "divmod" = none
  n_int : mg "int" = none
  n_isinstance : mg "isinstance" = none
  n_len : mg "len" = none
  n_list : mg "list" = none
  n_max : mg "max" = none
  n_min : mg "min" = none
  n_ord : mg "ord" = none
  n_range : mg "range" = none
  n_sorted : mg "sorted" = none
  n_str : mg "str" = none
  n_tuple : mg "tuple" = none
section
variable {K : PySem.W.Frag} {mg : Str → Option Value}
theorem b_is_whole (T : Top K mg) : Binds K T.fd_is_whole ["thing"] [] := T.F_is_whole.bindsN fun _ _ _ _ _ _ us hl => match us, hl with | [_], _ => rfl
theorem st_is_whole (v0 : V) : start ["thing"] [v0] = [some v0] := rfl
abbrev Ok_is_whole (P : Program) (w : World) (base : Heap) (T : Top K mg) (k : Nat) (sp : Sp) : Prop := FnOk P w K mg base CX0 k (He.ga K "is_whole") T.fd_is_whole ["thing"] sp
theorem b_is_name (T : Top K mg) : Binds K T.fd_is_name ["thing"] [] := T.F_is_name.bindsN fun _ _ _ _ _ _ us hl => match us, hl with | [_], _ => rfl
theorem st_is_name (v0 : V) : start ["thing", "letter"] [v0] = [some v0, none] := rfl
abbrev Ok_is_name (P : Program) (w : World) (base : Heap) (T : Top K mg) (k : Nat) (sp : Sp) : Prop := FnOk P w K mg base CX0 k (He.ga K "is_name") T.fd_is_name ["thing"] sp
theorem b_has_level (T : Top K mg) : Binds K T.fd_has_level ["thing", "most"] [] := T.F_has_level.bindsN fun _ _ _ _ _ _ us hl => match us, hl with | [_, _], _ => rfl
theorem st_has_level (v0 v1 : V) : start ["thing", "most", "name", "part"] [v0, v1] = [some v0, some v1, none, none] := rfl
abbrev Ok_has_level (P : Program) (w : World) (base : Heap) (T : Top K mg) (k : Nat) (sp : Sp) : Prop := FnOk P w K mg base CX0 k (He.ga K "has_level") T.fd_has_level ["thing", "most"] sp
theorem b_write_text (T : Top K mg) : Binds K T.fd_write_text ["text"] [] := T.F_write_text.bindsN fun _ _ _ _ _ _ us hl => match us, hl with | [_], _ => rfl
theorem st_write_text (v0 : V) : start ["text"] [v0] = [some v0] := rfl
abbrev Ok_write_text (P : Program) (w : World) (base : Heap) (T : Top K mg) (k : Nat) (sp : Sp) : Prop := FnOk P w K mg base CX0 k (He.ga K "write_text") T.fd_write_text ["text"] sp
theorem b_write_attribute (T : Top K mg) : Binds K T.fd_write_attribute ["text"] [] := T.F_write_attribute.bindsN fun _ _ _ _ _ _ us hl => match us, hl with | [_], _ => rfl
theorem st_write_attribute (v0 : V) : start ["text"] [v0] = [some v0] := rfl
abbrev Ok_write_attribute (P : Program) (w : World) (base : Heap) (T : Top K mg) (k : Nat) (sp : Sp) : Prop := FnOk P w K mg base CX0 k (He.ga K "write_attribute") T.fd_write_attribute ["text"] sp
theorem b_write_sign (T : Top K mg) : Binds K T.fd_write_sign ["sign"] [] := T.F_write_sign.bindsN fun _ _ _ _ _ _ us hl => match us, hl with | [_], _ => rfl
theorem st_write_sign (v0 : V) : start ["sign", "high", "low"] [v0] = [some v0, none, none] := rfl
abbrev Ok_write_sign (P : Program) (w : World) (base : Heap) (T : Top K mg) (k : Nat) (sp : Sp) : Prop := FnOk P w K mg base CX0 k (He.ga K "write_sign") T.fd_write_sign ["sign"] sp
theorem b_write_code (T : Top K mg) : Binds K T.fd_write_code ["text"] [] := T.F_write_code.bindsN fun _ _ _ _ _ _ us hl => match us, hl with | [_], _ => rfl
theorem st_write_code (v0 : V) : start ["text", "sign"] [v0] = [some v0, none] := rfl
abbrev Ok_write_code (P : Program) (w : World) (base : Heap) (T : Top K mg) (k : Nat) (sp : Sp) : Prop := FnOk P w K mg base CX0 k (He.ga K "write_code") T.fd_write_code ["text"] sp
theorem b_write_literal (T : Top K mg) : Binds K T.fd_write_literal ["value"] [] := T.F_write_literal.bindsN fun _ _ _ _ _ _ us hl => match us, hl with | [_], _ => rfl
theorem st_write_literal (v0 : V) : start ["value", "inner", "rows", "name", "part"] [v0] = [some v0, none, none, none, none] := rfl
abbrev Ok_write_literal (P : Program) (w : World) (base : Heap) (T : Top K mg) (k : Nat) (sp : Sp) : Prop := FnOk P w K mg base CX0 k (He.ga K "write_literal") T.fd_write_literal ["value"] sp
theorem b_is_value (T : Top K mg) : Binds K T.fd_is_value ["thing"] [] := T.F_is_value.bindsN fun _ _ _ _ _ _ us hl => match us, hl with | [_], _ => rfl
theorem st_is_value (v0 : V) : start ["thing"] [v0] = [some v0] := rfl
abbrev Ok_is_value (P : Program) (w : World) (base : Heap) (T : Top K mg) (k : Nat) (sp : Sp) : Prop := FnOk P w K mg base CX0 k (He.ga K "is_value") T.fd_is_value ["thing"] sp
theorem b_escape_text (T : Top K mg) : Binds K T.fd_escape_text ["context", "value"] [] := T.F_escape_text.bindsN fun _ _ _ _ _ _ us hl => match us, hl with | [_, _], _ => rfl
theorem st_escape_text (v0 v1 : V) : start ["context", "value", "text"] [v0, v1] = [some v0, some v1, none] := rfl
abbrev Ok_escape_text (P : Program) (w : World) (base : Heap) (T : Top K mg) (k : Nat) (sp : Sp) : Prop := FnOk P w K mg base CX0 k (He.ga K "escape_text") T.fd_escape_text ["context", "value"] sp
theorem b_check_context (T : Top K mg) : Binds K T.fd_check_context ["context"] [] := T.F_check_context.bindsN fun _ _ _ _ _ _ us hl => match us, hl with | [_], _ => rfl
theorem st_check_context (v0 : V) : start ["context"] [v0] = [some v0] := rfl
abbrev Ok_check_context (P : Program) (w : World) (base : Heap) (T : Top K mg) (k : Nat) (sp : Sp) : Prop := FnOk P w K mg base CX0 k (He.ga K "check_context") T.fd_check_context ["context"] sp
theorem b_escape (T : Top K mg) : Binds K T.fd_escape ["context", "value"] [] := T.F_escape.bindsN fun _ _ _ _ _ _ us hl => match us, hl with | [_, _], _ => rfl
theorem st_escape (v0 v1 : V) : start ["context", "value"] [v0, v1] = [some v0, some v1] := rfl
abbrev Ok_escape (P : Program) (w : World) (base : Heap) (T : Top K mg) (k : Nat) (sp : Sp) : Prop := FnOk P w K mg base CX0 k (He.ga K "escape") T.fd_escape ["context", "value"] sp
theorem b__law_cell (T : Top K mg) : Binds K T.fd__law_cell ["_law_script", "_law_k"] [] := T.F__law_cell.bindsN fun _ _ _ _ _ _ us hl => match us, hl with | [_, _], _ => rfl
theorem st__law_cell (v0 v1 : V) : start ["_law_script", "_law_k", "_law_state", "_law_cell_here"] [v0, v1] = [some v0, some v1, none, none] := rfl
abbrev Ok__law_cell (P : Program) (w : World) (base : Heap) (T : Top K mg) (k : Nat) (sp : Sp) : Prop := FnOk P w K mg base CX0 k (He.ga K "_law_cell") T.fd__law_cell ["_law_script", "_law_k"] sp
theorem b__law_pool (T : Top K mg) : Binds K T.fd__law_pool ["_law_cell_here"] [] := T.F__law_pool.bindsN fun _ _ _ _ _ _ us hl => match us, hl with | [_], _ => rfl
theorem st__law_pool (v0 : V) : start ["_law_cell_here", "_law_digits"] [v0] = [some v0, none] := rfl
abbrev Ok__law_pool (P : Program) (w : World) (base : Heap) (T : Top K mg) (k : Nat) (sp : Sp) : Prop := FnOk P w K mg base CX0 k (He.ga K "_law_pool") T.fd__law_pool ["_law_cell_here"] sp
theorem b__law_draw (T : Top K mg) : Binds K T.fd__law_draw ["_law_pool_here", "_law_many"] [] := T.F__law_draw.bindsN fun _ _ _ _ _ _ us hl => match us, hl with | [_, _], _ => rfl
theorem st__law_draw (v0 v1 : V) : start ["_law_pool_here", "_law_many", "_law_state", "_law_digit"] [v0, v1] = [some v0, some v1, none, none] := rfl
abbrev Ok__law_draw (P : Program) (w : World) (base : Heap) (T : Top K mg) (k : Nat) (sp : Sp) : Prop := FnOk P w K mg base CX0 k (He.ga K "_law_draw") T.fd__law_draw ["_law_pool_here", "_law_many"] sp
theorem b__law_words (T : Top K mg) : Binds K T.fd__law_words ["_law_pool_here", "_law_many"] [] := T.F__law_words.bindsN fun _ _ _ _ _ _ us hl => match us, hl with | [_, _], _ => rfl
theorem st__law_words (v0 v1 : V) : start ["_law_pool_here", "_law_many", "_law_letters", "_law_menu", "_law_way", "_law_begin", "_law_stem", "_law_at", "_law_found", "_law_k", "_law_word"] [v0, v1] = [some v0, some v1, none, none, none, none, none, none, none, none, none] := rfl
abbrev Ok__law_words (P : Program) (w : World) (base : Heap) (T : Top K mg) (k : Nat) (sp : Sp) : Prop := FnOk P w K mg base CX0 k (He.ga K "_law_words") T.fd__law_words ["_law_pool_here", "_law_many"] sp
theorem b__law_chars (T : Top K mg) : Binds K T.fd__law_chars ["_law_pool_here"] [] := T.F__law_chars.bindsN fun _ _ _ _ _ _ us hl => match us, hl with | [_], _ => rfl
theorem st__law_chars (v0 : V) : start ["_law_pool_here", "_law_menu", "_law_way", "_law_signs", "_law_k"] [v0] = [some v0, none, none, none, none] := rfl
abbrev Ok__law_chars (P : Program) (w : World) (base : Heap) (T : Top K mg) (k : Nat) (sp : Sp) : Prop := FnOk P w K mg base CX0 k (He.ga K "_law_chars") T.fd__law_chars ["_law_pool_here"] sp
theorem b__law_form (T : Top K mg) : Binds K T.fd__law_form ["_law_pool_here", "_law_deep"] [] := T.F__law_form.bindsN fun _ _ _ _ _ _ us hl => match us, hl with | [_, _], _ => rfl
theorem st__law_form (v0 v1 : V) : start ["_law_pool_here", "_law_deep", "_law_way", "_law_words_here", "_law_fields", "_law_key", "_law_inner", "_law_word"] [v0, v1] = [some v0, some v1, none, none, none, none, none, none] := rfl
abbrev Ok__law_form (P : Program) (w : World) (base : Heap) (T : Top K mg) (k : Nat) (sp : Sp) : Prop := FnOk P w K mg base CX0 k (He.ga K "_law_form") T.fd__law_form ["_law_pool_here", "_law_deep"] sp
theorem b__law_thing_of (T : Top K mg) : Binds K T.fd__law_thing_of ["_law_pool_here", "_law_form_here"] [] := T.F__law_thing_of.bindsN fun _ _ _ _ _ _ us hl => match us, hl with | [_, _], _ => rfl
theorem st__law_thing_of (v0 v1 : V) : start ["_law_pool_here", "_law_form_here", "_law_found", "_law_word", "_law_inner", "_law_k", "_law_numbers"] [v0, v1] = [some v0, some v1, none, none, none, none, none] := rfl
abbrev Ok__law_thing_of (P : Program) (w : World) (base : Heap) (T : Top K mg) (k : Nat) (sp : Sp) : Prop := FnOk P w K mg base CX0 k (He.ga K "_law_thing_of") T.fd__law_thing_of ["_law_pool_here", "_law_form_here"] sp
theorem b__law_code (T : Top K mg) : Binds K T.fd__law_code ["_law_chars_here"] [] := T.F__law_code.bindsN fun _ _ _ _ _ _ us hl => match us, hl with | [_], _ => rfl
theorem st__law_code (v0 : V) : start ["_law_chars_here", "_law_found", "_law_sign", "_law_plain", "_law_low", "_law_high"] [v0] = [some v0, none, none, none, none, none] := rfl
abbrev Ok__law_code (P : Program) (w : World) (base : Heap) (T : Top K mg) (k : Nat) (sp : Sp) : Prop := FnOk P w K mg base CX0 k (He.ga K "_law_code") T.fd__law_code ["_law_chars_here"] sp
theorem b__law_literal (T : Top K mg) : Binds K T.fd__law_literal ["_law_thing_here"] [] := T.F__law_literal.bindsN fun _ _ _ _ _ _ us hl => match us, hl with | [_], _ => rfl
theorem st__law_literal (v0 : V) : start ["_law_thing_here", "_law_chars_here", "_law_names", "_law_rows", "_law_word", "_law_each"] [v0] = [some v0, none, none, none, none, none] := rfl
abbrev Ok__law_literal (P : Program) (w : World) (base : Heap) (T : Top K mg) (k : Nat) (sp : Sp) : Prop := FnOk P w K mg base CX0 k (He.ga K "_law_literal") T.fd__law_literal ["_law_thing_here"] sp
theorem b__law_escaped (T : Top K mg) : Binds K T.fd__law_escaped ["_law_where", "_law_thing_here"] [] := T.F__law_escaped.bindsN fun _ _ _ _ _ _ us hl => match us, hl with | [_, _], _ => rfl
theorem st__law_escaped (v0 v1 : V) : start ["_law_where", "_law_thing_here", "_law_chars_here"] [v0, v1] = [some v0, some v1, none] := rfl
abbrev Ok__law_escaped (P : Program) (w : World) (base : Heap) (T : Top K mg) (k : Nat) (sp : Sp) : Prop := FnOk P w K mg base CX0 k (He.ga K "_law_escaped") T.fd__law_escaped ["_law_where", "_law_thing_here"] sp
theorem b__law_told (T : Top K mg) : Binds K T.fd__law_told ["_law_where", "_law_thing_here"] [] := T.F__law_told.bindsN fun _ _ _ _ _ _ us hl => match us, hl with | [_, _], _ => rfl
theorem st__law_told (v0 v1 : V) : start ["_law_where", "_law_thing_here", "_law_due", "_law_found"] [v0, v1] = [some v0, some v1, none, none] := rfl
abbrev Ok__law_told (P : Program) (w : World) (base : Heap) (T : Top K mg) (k : Nat) (sp : Sp) : Prop := FnOk P w K mg base CX0 k (He.ga K "_law_told") T.fd__law_told ["_law_where", "_law_thing_here"] sp
theorem b__law_turned (T : Top K mg) : Binds K T.fd__law_turned ["_law_thing_here"] [] := T.F__law_turned.bindsN fun _ _ _ _ _ _ us hl => match us, hl with | [_], _ => rfl
theorem st__law_turned (v0 : V) : start ["_law_thing_here", "_law_found", "_law_word", "_law_each"] [v0] = [some v0, none, none, none] := rfl
abbrev Ok__law_turned (P : Program) (w : World) (base : Heap) (T : Top K mg) (k : Nat) (sp : Sp) : Prop := FnOk P w K mg base CX0 k (He.ga K "_law_turned") T.fd__law_turned ["_law_thing_here"] sp
theorem b__law_right (T : Top K mg) : Binds K T.fd__law_right ["_law_pool_here"] [] := T.F__law_right.bindsN fun _ _ _ _ _ _ us hl => match us, hl with | [_], _ => rfl
theorem st__law_right (v0 : V) : start ["_law_pool_here", "_law_turn", "_law_chars_here", "_law_count", "_law_thing_here", "_law_where", "_law_other_way"] [v0] = [some v0, none, none, none, none, none, none] := rfl
abbrev Ok__law_right (P : Program) (w : World) (base : Heap) (T : Top K mg) (k : Nat) (sp : Sp) : Prop := FnOk P w K mg base CX0 k (He.ga K "_law_right") T.fd__law_right ["_law_pool_here"] sp
theorem b_law (T : Top K mg) : Binds K T.fd_law ["_law_script"] [] := T.F_law.bindsN fun _ _ _ _ _ _ us hl => match us, hl with | [_], _ => rfl
theorem st_law (v0 : V) : start ["_law_script", "_law_signs", "_law_where", "_law_rows", "_law_k", "_law_thing_here", "_law_due", "_law_sign"] [v0] = [some v0, none, none, none, none, none, none, none] := rfl
abbrev Ok_law (P : Program) (w : World) (base : Heap) (T : Top K mg) (k : Nat) (sp : Sp) : Prop := FnOk P w K mg base CX0 k (He.ga K "law") T.fd_law ["_law_script"] sp
end
end Sk
namespace Sk
open PySem PySem.Spec PyProof.Rows L2
section
variable {P : Program} {w : World} {K : PySem.W.Frag} {mg : Str → Option Value} {base : Heap}
/-! ### _law_draw -/
def sp_draw : Sp := fun vs H Q _ => match vs with
  | [.ref a, .int m] => Pool H a ∧ 0 < m ∧ m < 1073741824 ∧ ∀ (i : Int) (H' : Hp), 0 ≤ i → i < m → Pool H' a → Keep a H H' → Q (.int i) H'
  | _ => False
theorem ok_draw (T : Top K mg) (k : Nat) : Ok__law_draw P w base T (k + 1) sp_draw := by
  refine T.F__law_draw.ok sc__law_draw (fun vs H Q E h => ?_) (fun cdv A outer s H vs Q E hr h => ⟨_, PSs.nox (pss_cons (ps_asg (pe_op (kplus K) (pe_ix (kget K) (vr 0) pe_int (fun _ _ => rfl)) pe_int) (pg_sub (vr 0) pe_int set_list))
      (pss_cons (ps_set (i := 2) sc__law_draw.nd rfl (by first | exact .inl rfl | exact .inr rfl) (pe_ix (kget K) (vr 0) pe_int (fun _ _ => rfl)))
      (pss_cons (ps_asg (pe_op op_modI (pe_op (kplus K) (pe_op (kplus K) (pe_op op_mulU (vr 2) (pe_op (kplus K) (pe_op op_modI (vr 2) pe_int) pe_int)) (pe_op op_mulU pe_int (pe_ix (kget K) (vr 0) pe_int (fun _ _ => rfl)))) pe_int) pe_int) (pg_sub (vr 0) pe_int set_list))
      (pss_cons (sif (tcmp op_gtI (pe_ix (kget K) (vr 0) pe_int (fun _ _ => rfl)) pe_int (nomark _)) (pss_cons (ps_asg (pe_callB call_dm (by rfl) T.n_divmod (by decide +kernel) (pa_cons (pe_ix (kget K) (vr 0) pe_int (fun _ _ => rfl)) (pa_cons (vr 1) pa_nil))) (gtup K 2 rfl (gs_cons (pg_sub (vr 0) pe_int set_list) (gs_cons (pg_name (i := 3) sc__law_draw.nd rfl (by first | exact .inl rfl | exact .inr rfl)) gs_nil))))
      (pss_one (ps_ret (vr 3)))) pss_nil)
      (pss_one (ps_ret (pe_op op_modI (pe_op op_divI (pe_ix (kget K) (vr 0) pe_int (fun _ _ => rfl)) pe_int) (vr 1)))))))), ?_⟩)
  · unfold sp_draw at h
    split at h
    · rfl
    · exact h.elim
  · unfold sp_draw at h
    split at h
    · obtain ⟨⟨s, d, n, hp, h0, h1, h2⟩, hm, hm2, q⟩ := h
      rename_i a m
      refine ⟨_, _, .inl (sqL_of hp), rfl, ?_⟩
      refine ⟨_, _, _, _, rfl, rfl, hp, rfl, ?_⟩
      refine ⟨_, _, .inl (sqL_of upd_same), rfl, ?_⟩
      refine ⟨by decide, .inl ⟨by omega, by omega⟩, _, _, .inl (sqL_of upd_same), rfl, .inl ⟨by decide, by decide⟩, by decide, _, _, _, _, rfl, rfl, upd_same, rfl, ?_⟩
      refine ⟨_, _, .inl (sqL_of upd_same), rfl, ?_⟩
      refine br2 (fun e => ?_) (fun e => ?_)
      · have e := of_decide_eq_true e
        refine ⟨_, _, .inl (sqL_of upd_same), rfl, ⟨hm, hm2⟩, fun p np => ?_⟩
        have npa := (upd_none np).1
        refine ⟨_, _, rfl, sqT_of upd_same, rfl, ?_⟩
        refine ⟨_, _, _, _, rfl, rfl, (upd_ne npa.symm).trans upd_same, rfl, ?_⟩
        refine q _ _ (Int.emod_nonneg _ (by omega)) (Int.emod_lt_of_pos _ hm) ⟨_, _, _, upd_same, Int.emod_nonneg _ (by decide), Int.emod_lt_of_pos _ (by decide), Int.ediv_nonneg h2 (by omega)⟩ ?_
        exact ((Keep.refl a H).upd.upd.trans (keep_of (same_new np))).upd
      · refine ⟨_, _, .inl (sqL_of upd_same), rfl, ⟨by decide, by decide⟩, hm, ?_⟩
        refine q _ _ (Int.emod_nonneg _ (by omega)) (Int.emod_lt_of_pos _ hm) ⟨_, _, _, upd_same, Int.emod_nonneg _ (by decide), Int.emod_lt_of_pos _ (by decide), h2⟩ ?_
        exact (Keep.refl a H).upd.upd
    · exact h.elim
/-! ### _law_cell, _law_pool -/
def sp_cell (K : PySem.W.Frag) : Sp := fun vs H Q _ => match vs with
  | [.ref a, .int k] => (∃ ns : List Int, SqL K H a (ns.map V.int)) ∧ 0 ≤ k ∧ k < 64 ∧ ∀ (i : Int) (H' : Hp), Same H H' → Q (.int i) H'
  | _ => False
theorem ok_cell (T : Top K mg) (k : Nat) : Ok__law_cell P w base T (k + 1) (sp_cell K) := by
  refine T.F__law_cell.ok sc__law_cell (fun vs H Q E h => ?_) (fun cdv A outer s H vs Q E hr h => ⟨_, PSs.nox (pss_cons (sif (tcmp op_ltI (vr 1) (pe_callB (klen K) (by rfl) T.n_len (by decide +kernel) (pa_cons (vr 0) pa_nil)) (nomark _)) (pss_one (ps_ret (pe_ix (kget K) (vr 0) (vr 1) (fun _ _ => rfl)))) pss_nil)
      (pss_cons (ps_set (i := 2) sc__law_cell.nd rfl (by first | exact .inl rfl | exact .inr rfl) (pe_op op_modI (pe_op op_mulU pe_int (pe_op (kplus K) (pe_op (kplus K) (pe_op op_mulU (vr 1) (vr 1)) (pe_op op_mulU pe_int (vr 1))) pe_int)) pe_int))
      (pss_cons (ps_for PassesOwn.never rfl (ilist K (pe_slice (kcut K) (vr 0) po_none (po_u pe_int))) (pg_name (i := 3) sc__law_cell.nd rfl (by first | exact .inl rfl | exact .inr rfl)) (pss_one (ps_set (i := 2) sc__law_cell.nd rfl (by first | exact .inl rfl | exact .inr rfl) (pe_op op_modI (pe_op (kplus K) (pe_op op_mulU (vr 2) pe_int) (vr 3)) pe_int))))
      (pss_one (ps_ret (vr 2)))))), ?_⟩)
  · unfold sp_cell at h
    split at h
    · rfl
    · exact h.elim
  · unfold sp_cell at h
    split at h
    · obtain ⟨⟨ns, hS⟩, h0, h1, q⟩ := h
      rename_i a m
      refine ⟨_, .inl hS, br2 (fun e => ?_) (fun e => ?_)⟩
      · have e := of_decide_eq_true e
        rw [List.length_map] at e
        have hl : m.toNat < ns.length := by omega
        refine ⟨_, .int ns[m.toNat], .inl hS, ?_, q _ _ (Same.refl H)⟩
        unfold atI ixN
        rw [if_pos h0, List.length_map, if_pos e]
        show (ns.map V.int)[m.toNat]? = _
        rw [List.getElem?_map, List.getElem?_eq_getElem hl]
        rfl
      · refine ⟨.inl ⟨by omega, by omega⟩, .inl ⟨by decide, by decide⟩, .inl ⟨by decide, by decide⟩, by decide, ?_⟩
        refine .inl ⟨_, _, rfl, hS, fun p np => ?_⟩
        refine ⟨p, rfl, ⟨_, sqL_of upd_same⟩, for_list (xs := cutV (ns.map V.int) none (some 3)) (fun i σ H' => H' = upd H p (.lst (cutV (ns.map V.int) none (some 3))) ∧ ∃ (st : Int) (y : Option V), σ = [some (.ref a), some (.int m), some (.int st), y]) ⟨rfl, _, _, rfl⟩
          (fun i σ H' _ hv => ?_) (fun i x σ H' hx hv => ?_) (fun σ H' hv => ?_)⟩
        · rw [hv.1]
          exact sqL_of upd_same
        · obtain ⟨rfl, st, y, rfl⟩ := hv
          have hx' : ∃ n : Int, x = .int n := by
            have hm : x ∈ ns.map V.int := List.drop_subset _ _ (List.take_subset _ _ (List.mem_of_getElem? hx))
            obtain ⟨n, _, e⟩ := List.mem_map.mp hm
            exact ⟨n, e.symm⟩
          obtain ⟨n, rfl⟩ := hx'
          exact ⟨.inr ⟨by decide, by decide⟩, by decide, rfl, _, _, rfl⟩
        · obtain ⟨rfl, st, y, rfl⟩ := hv
          exact q _ _ (same_new np)
    · exact h.elim
def sp_pool : Sp := fun vs H Q _ => match vs with
  | [.int k] => ∀ (a : Addr) (H' : Hp), Same H H' → H a = none → Pool H' a → Q (.ref a) H'
  | _ => False
theorem ok_pool (T : Top K mg) (k : Nat) : Ok__law_pool P w base T (k + 1) sp_pool := by
  refine T.F__law_pool.ok sc__law_pool (fun vs H Q E h => ?_) (fun cdv A outer s H vs Q E hr h => ⟨_, PSs.nox (pss_cons (ps_set (i := 1) sc__law_pool.nd rfl (by first | exact .inl rfl | exact .inr rfl) pe_int)
      (pss_cons (sif (PW.pt (wor (tcmp op_ltI (vr 0) pe_int (nomark _)) (pw_or1 (tcmp op_geI (vr 0) (pe_op op_powI pe_int pe_int) (nomark _))))) (pss_one (ps_set (i := 1) sc__law_pool.nd rfl (by first | exact .inl rfl | exact .inr rfl) (pe_callB call_absU (by rfl) T.n_abs (by decide +kernel) (pa_cons (vr 0) pa_nil)))) pss_nil)
      (pss_one (ps_ret (pe_lst (pa_cons (pe_op op_modI (vr 0) pe_int) (pa_cons (vr 1) (pa_cons pe_int pa_nil)))))))), ?_⟩)
  · unfold sp_pool at h
    split at h
    · rfl
    · exact h.elim
  · unfold sp_pool at h
    split at h
    · rename_i m
      have fin : ∀ d : Int, 0 ≤ d → (([V.int (m % 1000000007), .int d, .int 0].length ≤ sizeLine) ∧ ∀ p, H p = none → Q (.ref p) (upd H p (.lst [.int (m % 1000000007), .int d, .int 0]))) := fun d hd =>
        ⟨by show 3 ≤ sizeLine; decide, fun p np => h p _ (same_new np) np ⟨_, _, _, upd_same, Int.emod_nonneg _ (by decide), Int.emod_lt_of_pos _ (by decide), hd⟩⟩
      refine br2 (fun e => ?_) (fun e => ?_)
      · refine ⟨by decide, fin _ ?_⟩
        have e := of_decide_eq_true e
        rw [if_pos e]
        omega
      · refine ⟨⟨by decide, by decide, by decide⟩, br2 (fun e2 => ?_) (fun e2 => ?_)⟩
        · refine ⟨by decide, fin _ ?_⟩
          split <;> omega
        · exact ⟨by decide, fin _ (by decide)⟩
    · exact h.elim
end
end Sk
namespace Sk
open PySem PySem.Spec PyProof.Rows L2
section
variable {P : Program} {w : World} {K : PySem.W.Frag} {mg : Str → Option Value} {base : Heap}
/-! ### _law_chars -/
def menuC : List V := [.str "", .str "a", .str "A b", .str "<", .str "&", .str "&lt;", .str "\"", .str "~", .str "/", .str "?a=1;", .str "\\", .str "\n", .str "{x}", .str "}"] ++ [.str "</p>", .str "'", .str "data", .str "0", .str "-7"]
theorem menuC_ok : ∀ x ∈ menuC, ∃ z, x = .str z ∧ TextOk 5 z := all_okT (by decide +kernel)
theorem signs_ok : ∀ c ∈ (Str.ofString "ab <>&\"~/;=.-_Z9{}\\\n").cps.toList, okc c = true := List.all_eq_true.mp (by decide +kernel)
theorem signs_len : (Str.ofString "ab <>&\"~/;=.-_Z9{}\\\n").cps.toList.length = 20 := by decide +kernel
def sp_chars : Sp := fun vs H Q _ => match vs with
  | [.ref a] => Pool H a ∧ ∀ (z : Str) (H' : Hp), TextOk 10 z → Pool H' a → Keep a H H' → Q (.str z) H'
  | _ => False
theorem ok_chars (T : Top K mg) (k : Nat) : Ok__law_chars P w base T (k + 2) sp_chars := by
  have G__law_draw : Ok__law_draw P w base T 1 sp_draw := ok_draw T 0
  refine T.F__law_chars.ok sc__law_chars (fun vs H Q E h => ?_) (fun cdv A outer s H vs Q E hr h => ⟨_, PSs.nox (pss_cons (ps_set (i := 1) sc__law_chars.nd rfl (by first | exact .inl rfl | exact .inr rfl) (pe_lst (pa_cons pe_str (pa_cons pe_str (pa_cons pe_str (pa_cons pe_str (pa_cons pe_str (pa_cons pe_str (pa_cons pe_str (pa_cons pe_str (pa_cons pe_str (pa_cons pe_str (pa_cons pe_str (pa_cons pe_str (pa_cons pe_str (pa_cons pe_str pa_nil))))))))))))))))
      (pss_cons (ps_set (i := 1) sc__law_chars.nd rfl (by first | exact .inl rfl | exact .inr rfl) (pe_op (kplus K) (vr 1) (pe_lst (pa_cons pe_str (pa_cons pe_str (pa_cons pe_str (pa_cons pe_str (pa_cons pe_str pa_nil))))))))
      (pss_cons (ps_set (i := 2) sc__law_chars.nd rfl (by first | exact .inl rfl | exact .inr rfl) (pe_call G__law_draw (hr.mono (by omega)) (by rfl) T.g__law_draw T.F__law_draw.kp (b__law_draw T) .nil pass0 (pa_cons (vr 0) (pa_cons pe_int pa_nil))))
      (pss_cons (sif (tcmp (ksame K hr.units) (vr 2) pe_int (nomark _)) (pss_one (ps_ret (pe_ix (kget K) (vr 1) (pe_call G__law_draw (hr.mono (by omega)) (by rfl) T.g__law_draw T.F__law_draw.kp (b__law_draw T) .nil pass0 (pa_cons (vr 0) (pa_cons pe_int pa_nil))) (fun _ _ => rfl)))) pss_nil)
      (pss_cons (sif (tcmp (ksame K hr.units) (vr 2) pe_int (nomark _)) (pss_one (ps_ret (pe_op (kplus K) (pe_ix (kget K) (vr 1) (pe_call G__law_draw (hr.mono (by omega)) (by rfl) T.g__law_draw T.F__law_draw.kp (b__law_draw T) .nil pass0 (pa_cons (vr 0) (pa_cons pe_int pa_nil))) (fun _ _ => rfl)) (pe_ix (kget K) (vr 1) (pe_call G__law_draw (hr.mono (by omega)) (by rfl) T.g__law_draw T.F__law_draw.kp (b__law_draw T) .nil pass0 (pa_cons (vr 0) (pa_cons pe_int pa_nil))) (fun _ _ => rfl))))) pss_nil)
      (pss_cons (ps_set (i := 3) sc__law_chars.nd rfl (by first | exact .inl rfl | exact .inr rfl) pe_str)
      (pss_one (ps_ret (kjoin K pe_str (pe_lc (own := [("_law_k", 4)])  rfl sc__law_chars.nd (pi_range1 (by rfl) T.n_range (pa_cons (pe_call G__law_draw (hr.mono (by omega)) (by rfl) T.g__law_draw T.F__law_draw.kp (b__law_draw T) .nil pass0 (pa_cons (vr 0) (pa_cons pe_int pa_nil))) pa_nil)) (blkOk_by (own := [("_law_k", 4)]) (N := ["_law_pool_here", "_law_menu", "_law_way", "_law_signs", "_law_k"]) (sc := defScope s__law_chars) (by decide +kernel)) (fun _ _ _ _ _ => (pg_name (i := 4) sc__law_chars.nd rfl (by first | exact .inl rfl | exact .inr rfl))) (fun _ _ _ _ _ => pts_nil) (fun _ _ _ _ _ => up (pe_ix (kget K) (vr 3) (pe_call G__law_draw (hr.mono (by omega)) (by rfl) T.g__law_draw T.F__law_draw.kp (b__law_draw T) .nil pass0 (pa_cons (vr 0) (pa_cons pe_int pa_nil))) (fun _ _ => rfl))))))))))))), ?_⟩)
  · unfold sp_chars at h
    split at h
    · rfl
    · exact h.elim
  · unfold sp_chars at h
    split at h
    · obtain ⟨hp, q⟩ := h
      rename_i a
      refine ⟨Nat.le_of_ble_eq_true rfl, fun p np => ?_⟩
      have nea := hp.ne np
      refine ⟨Nat.le_of_ble_eq_true rfl, fun p2 np2 => ?_⟩
      have ne2 := (upd_none np2).1
      refine .inl ⟨p, p2, _, _, rfl, rfl, (upd_ne ne2.symm).trans upd_same, upd_same, Nat.le_of_ble_eq_true rfl, fun m nm => ?_⟩
      have nem : m ≠ a := fun z => by
        have := (upd_none (upd_none nm).2).2
        rw [z] at this
        exact hp.ne this rfl
      have s0 : Same H (upd (upd (upd H p _) p2 _) m (.lst menuC)) := ((same_new np).trans (same_new np2)).trans (same_new nm)
      have item : ∀ (H2 : Hp) (i : Int) (R : V → Prop), H2 m = some (.lst menuC) → 0 ≤ i → i < 19 → (∀ z, TextOk 5 z → R (.str z)) → ∃ xs v, (SqL K H2 m xs ∨ SqT K H2 m xs) ∧ atI xs i = some v ∧ R v := fun H2 i R hm h0 h1 hR => by
        obtain ⟨v, ev, z, rfl, tz⟩ := atI_all (xs := menuC) _ h0 h1 menuC_ok
        exact ⟨_, _, .inl (sqL_of hm), ev, hR z tz⟩
      refine ⟨hp.same s0, by decide, by decide, fun i1 H1 h0 h1 p1 k1 => ?_⟩
      have m1 : H1 m = some (.lst menuC) := k1 m _ nem upd_same
      have k1 : Keep a H H1 := (keep_of s0).trans k1
      refine br2 (fun e => ?_) (fun e => ?_)
      · refine ⟨p1, by decide, by decide, fun i2 H2 h2 h3 p2 k2 => ?_⟩
        exact item H2 i2 (fun v => Q v H2) (k2 m _ nem m1) h2 h3 fun z tz => q z H2 (tz.mono (by decide)) p2 (k1.trans k2)
      refine br2 (fun e => ?_) (fun e => ?_)
      · refine ⟨p1, by decide, by decide, fun i2 H2 h2 h3 p2 k2 => ?_⟩
        have m2 := k2 m _ nem m1
        refine item H2 i2 _ m2 h2 h3 fun z tz => ?_
        refine ⟨p2, by decide, by decide, fun i3 H3 h4 h5 p3 k3 => ?_⟩
        refine item H3 i3 _ (k3 m _ nem m2) h4 h5 fun y ty => ?_
        have t := tz.app ty
        exact ⟨by have := tz.1; have := ty.1; exact size_le (by omega), q _ _ t p3 ((k1.trans k2).trans k3)⟩
      · refine ⟨p1, by decide, by decide, fun i2 H2 h2 h3 p2 k2 => ?_⟩
        refine ⟨i2, rfl, by omega, by omega, fun D nD => ?_⟩
        refine lcr (fr_keep (p2.ne nD)) (fun _ v _ => ∃ z, v = .str z ∧ TextOk 1 z) p2 nD (by omega) (fun _ _ _ _ h _ => h) (fun _ => rfl) (fun i H3 hi p3 k3 => ?_) (fun H3 ys p3 k3 l3 e3 q3 => ?_)
        · refine ⟨p3, by decide, by decide, fun i4 H4 h6 h7 p4 k4 => ?_⟩
          obtain ⟨c, ec, oc⟩ := atI_all (xs := (Str.ofString "ab <>&\"~/;=.-_Z9{}\\\n").cps.toList) (i := i4) _ h6 (by rw [signs_len]; exact h7) signs_ok
          refine ⟨by decide +kernel, c, ec, p4, k4, _, rfl, Nat.le_refl 1, fun c' hc' => ?_⟩
          have : c' = c := by simpa using hc'
          rw [this]
          exact oc
        · obtain ⟨zs, hz, tz⟩ := strs_of q3
          subst hz
          have hs : ((zs.map (·.length)).sum) ≤ zs.length := sum_le1 fun z hz => (tz z hz).1
          have hl : zs.length ≤ 8 := by
            rw [List.length_map] at l3
            omega
          refine ⟨zs, .inl (sqL_of e3), ?_, ?_⟩
          · show _ + zs.length * 0 ≤ 16777216
            omega
          · refine q _ _ ?_ p3 ((k1.trans k2).trans k3)
            exact (join_ok (by rfl) tz).mono (by omega)
    · exact h.elim
end
end Sk
namespace Sk
open PySem PySem.Spec PyProof.Rows L2
section
variable {P : Program} {w : World} {K : PySem.W.Frag} {mg : Str → Option Value} {base : Heap}
/-! ### _law_words -/
def letters : Str := Str.ofString "abcdefghijklmnopqrstuvwxyz"
theorem letters_low : ∀ c ∈ letters.cps.toList, low c = true := List.all_eq_true.mp (by decide +kernel)
theorem letters_len : letters.cps.toList.length = 26 := by decide +kernel
theorem letters_size : letters.length ≤ sizeLine := by decide +kernel
def menuW : List V := [.str "data", .str "href", .str "text", .str "part", .str "page", .str "use", .str "for", .str "end", .str "else", .str "slot", .str "size", .str "has"] ++ [.str "sum", .str "equal", .str "name", .str "x", .str "y", .str "items", .str "id", .str "link", .str "null", .str "by", .str "let", .str "if"]
theorem menuW_ok : ∀ x ∈ menuW, ∃ z, x = .str z ∧ NameOk z := all_okN (by decide +kernel)
/-- some letter -/
theorem letter_at {i : Int} (h0 : 0 ≤ i) (h1 : i < 26) : ∃ c, atI letters.cps.toList i = some c ∧ low c = true :=
  atI_all (xs := letters.cps.toList) (i := i) _ h0 (by rw [letters_len]; exact h1) letters_low
theorem names_of {ys : List V} (h : ∀ (i : Nat) (y : V), ys[i]? = some y → ∃ z, y = V.str z ∧ NameOk z) : ∃ zs : List Str, ys = zs.map V.str ∧ ∀ z ∈ zs, NameOk z := by
  induction ys with
  | nil => exact ⟨[], rfl, fun z hz => by cases hz⟩
  | cons y r ih =>
    obtain ⟨z, rfl, tz⟩ := h 0 y rfl
    obtain ⟨zs, rfl, tzs⟩ := ih fun i y e => h (i + 1) y e
    refine ⟨z :: zs, rfl, fun x hx => ?_⟩
    rcases List.mem_cons.mp hx with e | e
    · rw [e]; exact tz
    · exact tzs x e
/-- n times the letter c -/
theorem name_rep {c n : Nat} {z : Str} (hc : low c = true) (h1 : 1 ≤ n) (h2 : n ≤ 12) (e : z.cps.toList = (List.replicate n [c]).flatten) : NameOk z := by
  have l : z.length = n := by
    rw [len_list, e]
    simp
  refine ⟨by omega, by omega, fun x hx => ?_⟩
  rw [e] at hx
  obtain ⟨l, hl, hx⟩ := List.mem_flatten.mp hx
  rw [List.eq_of_mem_replicate hl] at hx
  have : x = c := by simpa using hx
  rw [this]
  exact hc
/-- at most n small letters -/
def LowN (n : Nat) (z : Str) : Prop := z.length ≤ n ∧ ∀ c ∈ z.cps.toList, low c = true
theorem low_one {c : Nat} (h : low c = true) : LowN 1 ⟨#[c]⟩ := ⟨Nat.le_refl 1, fun x hx => by
  have e : x = c := by simpa using hx
  rw [e]
  exact h⟩
theorem lows_of {n : Nat} {ys : List V} (h : ∀ (i : Nat) (y : V), ys[i]? = some y → ∃ z, y = V.str z ∧ LowN n z) : ∃ zs : List Str, ys = zs.map V.str ∧ ∀ z ∈ zs, LowN n z := by
  induction ys with
  | nil => exact ⟨[], rfl, fun z hz => by cases hz⟩
  | cons y r ih =>
    obtain ⟨z, rfl, tz⟩ := h 0 y rfl
    obtain ⟨zs, rfl, tzs⟩ := ih fun i y e => h (i + 1) y e
    refine ⟨z :: zs, rfl, fun x hx => ?_⟩
    rcases List.mem_cons.mp hx with e | e
    · rw [e]; exact tz
    · exact tzs x e
theorem low_join {y : Str} (hy : y.cps.toList = []) {zs : List Str} (h : ∀ z ∈ zs, LowN 1 z) : LowN zs.length (Txt.join y zs) := by
  have e := join_empty hy zs
  refine ⟨?_, fun c hc => ?_⟩
  · rw [len_list, e, List.length_flatten, List.map_map]
    have := sum_le1 fun z hz => (h z hz).1
    have e2 : (List.length ∘ fun z : Str => z.cps.toList) = fun z => z.length := funext fun z => (len_list z).symm
    rw [e2]
    exact this
  · rw [e] at hc
    obtain ⟨l, hl, hc⟩ := List.mem_flatten.mp hc
    obtain ⟨z, hz, rfl⟩ := List.mem_map.mp hl
    exact (h z hz).2 c hc
theorem cut_mem {z : Str} {lo hi : Option Int} {c : Nat} (h : c ∈ (cutS z lo hi).cps.toList) : c ∈ z.cps.toList := by
  unfold cutS at h
  exact List.drop_subset _ _ (List.take_subset _ _ (by simpa using h))
theorem cut_two (z : Str) {n : Nat} (h : n ≤ z.length) : (cutS z none (some (n : Int))).length = n ∧ (cutS z (some (n : Int)) none).length = z.length - n := by
  have l := len_list z
  constructor
  · rw [len_list]
    unfold cutS
    rw [HT.sIx_none, HT.sIx_nat, Nat.min_eq_left h]
    simp
    rw [← Array.length_toList, ← l]
    omega
  · rw [len_list]
    unfold cutS
    rw [HT.sIx_none, HT.sIx_nat, Nat.min_eq_left h]
    simp
    rw [← Array.length_toList, ← l]
    omega
theorem in_three {z : Str} (h : inV (.str z) [.str "true", .str "false", .str "self"] = true) : z.length ≤ 5 := by
  unfold inV at h
  simp only [List.any_cons, List.any_nil, eqV, Bool.or_false, Bool.or_eq_true] at h
  rcases h with h | h | h
  · have e : Str.ofString "true" = z := by simpa using h
    rw [← e]
    decide +kernel
  · have e : Str.ofString "false" = z := by simpa using h
    rw [← e]
    decide +kernel
  · have e : Str.ofString "self" = z := by simpa using h
    rw [← e]
    decide +kernel
theorem x_low : ∀ c ∈ (Str.ofString "x").cps.toList, low c = true := List.all_eq_true.mp (by decide +kernel)
def sp_words : Sp := fun vs H Q _ => match vs with
  | [.ref a, .int m] => Pool H a ∧ 0 ≤ m ∧ m ≤ 24 ∧ ∀ (D : Addr) (zs : List Str) (H' : Hp), zs.length = m.toNat → (∀ z ∈ zs, NameOk z) → Pool H' a → Keep a H H' → H D = none → H' D = some (.lst (zs.map V.str)) → Q (.ref D) H'
  | _ => False
theorem ok_words (T : Top K mg) (k : Nat) : Ok__law_words P w base T (k + 2) sp_words := by
  have G__law_draw : Ok__law_draw P w base T 1 sp_draw := ok_draw T 0
  refine T.F__law_words.ok sc__law_words (fun vs H Q E h => ?_) (fun cdv A outer s H vs Q E hr h => ⟨_, PSs.nox (pss_cons (ps_set (i := 2) sc__law_words.nd rfl (by first | exact .inl rfl | exact .inr rfl) pe_str)
      (pss_cons (ps_set (i := 3) sc__law_words.nd rfl (by first | exact .inl rfl | exact .inr rfl) (pe_lst (pa_cons pe_str (pa_cons pe_str (pa_cons pe_str (pa_cons pe_str (pa_cons pe_str (pa_cons pe_str (pa_cons pe_str (pa_cons pe_str (pa_cons pe_str (pa_cons pe_str (pa_cons pe_str (pa_cons pe_str pa_nil))))))))))))))
      (pss_cons (ps_set (i := 3) sc__law_words.nd rfl (by first | exact .inl rfl | exact .inr rfl) (pe_op (kplus K) (vr 3) (pe_lst (pa_cons pe_str (pa_cons pe_str (pa_cons pe_str (pa_cons pe_str (pa_cons pe_str (pa_cons pe_str (pa_cons pe_str (pa_cons pe_str (pa_cons pe_str (pa_cons pe_str (pa_cons pe_str (pa_cons pe_str pa_nil)))))))))))))))
      (pss_cons (ps_asg (pe_tup (pa_cons (pe_call G__law_draw (hr.mono (by omega)) (by rfl) T.g__law_draw T.F__law_draw.kp (b__law_draw T) .nil pass0 (pa_cons (vr 0) (pa_cons pe_int pa_nil))) (pa_cons (pe_call G__law_draw (hr.mono (by omega)) (by rfl) T.g__law_draw T.F__law_draw.kp (b__law_draw T) .nil pass0 (pa_cons (vr 0) (pa_cons pe_int pa_nil))) pa_nil))) (gtup K 2 rfl (gs_cons (pg_name (i := 4) sc__law_words.nd rfl (by first | exact .inl rfl | exact .inr rfl)) (gs_cons (pg_name (i := 5) sc__law_words.nd rfl (by first | exact .inl rfl | exact .inr rfl)) gs_nil))))
      (pss_cons (sif (tcmp (ksame K hr.units) (vr 4) pe_int (nomark _)) (pss_one (ps_ret (pe_lc (own := [("_law_k", 9)])  rfl sc__law_words.nd (pi_range1 (by rfl) T.n_range (pa_cons (vr 1) pa_nil)) (blkOk_by (own := [("_law_k", 9)]) (N := ["_law_pool_here", "_law_many", "_law_letters", "_law_menu", "_law_way", "_law_begin", "_law_stem", "_law_at", "_law_found", "_law_k", "_law_word"]) (sc := defScope s__law_words) (by decide +kernel)) (fun _ _ _ _ _ => (pg_name (i := 9) sc__law_words.nd rfl (by first | exact .inl rfl | exact .inr rfl))) (fun _ _ _ _ _ => pts_nil) (fun _ _ _ _ _ => up (pe_ix (kget K) (vr 3) (pe_op op_modI (pe_op (kplus K) (vr 5) (pe_op op_mulU pe_int (vr 9))) pe_int) (fun _ _ => rfl)))))) pss_nil)
      (pss_cons (sif (tcmp (ksame K hr.units) (vr 4) pe_int (nomark _)) (pss_one (ps_ret (pe_lc (own := [("_law_k", 9)])  rfl sc__law_words.nd (pi_range1 (by rfl) T.n_range (pa_cons (vr 1) pa_nil)) (blkOk_by (own := [("_law_k", 9)]) (N := ["_law_pool_here", "_law_many", "_law_letters", "_law_menu", "_law_way", "_law_begin", "_law_stem", "_law_at", "_law_found", "_law_k", "_law_word"]) (sc := defScope s__law_words) (by decide +kernel)) (fun _ _ _ _ _ => (pg_name (i := 9) sc__law_words.nd rfl (by first | exact .inl rfl | exact .inr rfl))) (fun _ _ _ _ _ => pts_nil) (fun _ _ _ _ _ => up (pe_op op_mulU (pe_ix (kget K) (vr 2) (pe_op op_modI (pe_op (kplus K) (vr 5) (pe_op op_mulU pe_int (vr 9))) pe_int) (fun _ _ => rfl)) (pe_op (kplus K) pe_int (pe_op op_modI (vr 9) pe_int))))))) pss_nil)
      (pss_cons (ps_set (i := 6) sc__law_words.nd rfl (by first | exact .inl rfl | exact .inr rfl) (kjoin K pe_str (pe_lc (own := [("_law_k", 9)])  rfl sc__law_words.nd (pi_range1 (by rfl) T.n_range (pa_cons (pe_call G__law_draw (hr.mono (by omega)) (by rfl) T.g__law_draw T.F__law_draw.kp (b__law_draw T) .nil pass0 (pa_cons (vr 0) (pa_cons pe_int pa_nil))) pa_nil)) (blkOk_by (own := [("_law_k", 9)]) (N := ["_law_pool_here", "_law_many", "_law_letters", "_law_menu", "_law_way", "_law_begin", "_law_stem", "_law_at", "_law_found", "_law_k", "_law_word"]) (sc := defScope s__law_words) (by decide +kernel)) (fun _ _ _ _ _ => (pg_name (i := 9) sc__law_words.nd rfl (by first | exact .inl rfl | exact .inr rfl))) (fun _ _ _ _ _ => pts_nil) (fun _ _ _ _ _ => up (pe_ix (kget K) (vr 2) (pe_call G__law_draw (hr.mono (by omega)) (by rfl) T.g__law_draw T.F__law_draw.kp (b__law_draw T) .nil pass0 (pa_cons (vr 0) (pa_cons pe_int pa_nil))) (fun _ _ => rfl))))))
      (pss_cons (ps_set (i := 7) sc__law_words.nd rfl (by first | exact .inl rfl | exact .inr rfl) (pe_call G__law_draw (hr.mono (by omega)) (by rfl) T.g__law_draw T.F__law_draw.kp (b__law_draw T) .nil pass0 (pa_cons (vr 0) (pa_cons (pe_op (kplus K) (pe_callB (klen K) (by rfl) T.n_len (by decide +kernel) (pa_cons (vr 6) pa_nil)) pe_int) pa_nil))))
      (pss_cons (ps_setLc (i := 8) (own := [("_law_k", 9)])  rfl sc__law_words.nd rfl rfl (sw_true rfl rfl rfl (by decide +kernel)) (pi_range1 (by rfl) T.n_range (pa_cons (vr 1) pa_nil)) (blkOk_by (own := [("_law_k", 9)]) (N := ["_law_pool_here", "_law_many", "_law_letters", "_law_menu", "_law_way", "_law_begin", "_law_stem", "_law_at", "_law_found", "_law_k", "_law_word"]) (sc := defScope s__law_words) (by decide +kernel)) (fun _ _ _ _ _ => (pg_name (i := 9) sc__law_words.nd rfl (by first | exact .inl rfl | exact .inr rfl))) (fun _ _ _ _ _ => pts_nil) (fun _ _ _ _ _ => up (pe_op (kplus K) (pe_op (kplus K) (pe_slice (kcut K) (vr 6) po_none (po_u (vr 7))) (pe_ix (kget K) (vr 2) (pe_op op_modI (pe_op (kplus K) (vr 5) (pe_op op_mulU pe_int (vr 9))) pe_int) (fun _ _ => rfl))) (pe_slice (kcut K) (vr 6) (po_u (vr 7)) po_none))))
      (pss_one (ps_ret (pe_lc (own := [("_law_word", 10)])  rfl sc__law_words.nd (ilist K (vr 8)) (blkOk_by (own := [("_law_word", 10)]) (N := ["_law_pool_here", "_law_many", "_law_letters", "_law_menu", "_law_way", "_law_begin", "_law_stem", "_law_at", "_law_found", "_law_k", "_law_word"]) (sc := defScope s__law_words) (by decide +kernel)) (fun _ _ _ _ _ => (pg_name (i := 10) sc__law_words.nd rfl (by first | exact .inl rfl | exact .inr rfl))) (fun _ _ _ _ _ => pts_nil) (fun _ _ _ _ _ => up (vif (tcmp (kin K) (vr 10) (pe_lst (pa_cons pe_str (pa_cons pe_str (pa_cons pe_str pa_nil)))) (by rfl)) (pe_op (kplus K) (vr 10) pe_str) (vr 10))))))))))))))), ?_⟩)
  · unfold sp_words at h
    split at h
    · rfl
    · exact h.elim
  · unfold sp_words at h
    split at h
    · obtain ⟨hp, hm0, hm1, q⟩ := h
      rename_i a m
      rw [st__law_words]
      refine ⟨Nat.le_of_ble_eq_true rfl, fun p np => ?_⟩
      refine ⟨Nat.le_of_ble_eq_true rfl, fun p2 np2 => ?_⟩
      have ne2 := (upd_none np2).1
      refine .inl ⟨p, p2, _, _, rfl, rfl, (upd_ne ne2.symm).trans upd_same, upd_same, Nat.le_of_ble_eq_true rfl, fun t nt => ?_⟩
      have net : t ≠ a := fun z => by
        have := (upd_none (upd_none nt).2).2
        rw [z] at this
        exact hp.ne this rfl
      have s0 : Same H (upd (upd (upd H p _) p2 _) t (.lst menuW)) := ((same_new np).trans (same_new np2)).trans (same_new nt)
      refine ⟨hp.same s0, by decide, by decide, fun i1 H1 h0 h1 p1 k1 => ?_⟩
      refine ⟨p1, by decide, by decide, fun i2 H2 h2 h3 p2 k2 => ?_⟩
      have t2 : H2 t = some (.lst menuW) := k2 t _ net (k1 t _ net upd_same)
      have k2 : Keep a H H2 := ((keep_of s0).trans k1).trans k2
      refine ⟨Nat.le_of_ble_eq_true rfl, fun u nu => ?_⟩
      refine ⟨_, _, rfl, sqT_of upd_same, rfl, ?_⟩
      have p3 : Pool (upd H2 u (.tup [.int i1, .int i2])) a := p2.new (p2.ne nu)
      have k3 : Keep a H (upd H2 u (.tup [.int i1, .int i2])) := k2.trans (keep_of (same_new nu))
      have t3 : upd H2 u (.tup [.int i1, .int i2]) t = some (.lst menuW) := same_new nu _ _ t2
      have fin : ∀ (D : Addr) (H4 : Hp) (ys : List V), upd H2 u (.tup [.int i1, .int i2]) D = none → Pool H4 a → Keep a (upd H2 u (.tup [.int i1, .int i2])) H4 → ys.length = m.toNat → H4 D = some (.lst ys) → (∀ (i : Nat) (y : V), ys[i]? = some y → ∃ z, y = V.str z ∧ NameOk z) → Q (.ref D) H4 := fun D H4 ys nD p4 k4 l4 e4 q4 => by
        obtain ⟨zs, rfl, hz⟩ := names_of q4
        have hD : H D = none := k3.free nD (p3.ne nD)
        exact q D zs H4 (by rw [← l4, List.length_map]) hz p4 (k3.trans k4) hD e4
      revert p3 k3 t3 fin
      generalize upd H2 u (.tup [.int i1, .int i2]) = H3
      intro p3 k3 t3 fin
      simp only [List.set_cons_succ, List.set_cons_zero]
      refine br2 (fun e => ?_) (fun e => ?_)
      · refine ⟨m, rfl, by omega, by omega, fun D nD => ?_⟩
        refine lcr (fr_keep (p3.ne nD)) (fun _ v _ => ∃ z, v = .str z ∧ NameOk z) p3 nD (by omega) (fun _ _ _ _ h _ => h) (fun _ => rfl) (fun i H4 hi p4 k4 => ?_) (fun H4 ys p4 k4 l4 e4 q4 => fin D H4 ys nD p4 k4 l4 e4 q4)
        obtain ⟨v, ev, z, rfl, tz⟩ := atI_all (xs := menuW) (i := (i2 + 5 * (0 + (i : Int))) % 24) _ (Int.emod_nonneg _ (by decide)) (Int.emod_lt_of_pos _ (by decide)) menuW_ok
        exact ⟨.inl ⟨by decide, by decide⟩, by decide, _, _, .inl (sqL_of (k4 t _ net t3)), ev, p4, Keep.refl _ _, z, rfl, tz⟩
      refine br2 (fun e => ?_) (fun e => ?_)
      · refine ⟨m, rfl, by omega, by omega, fun D nD => ?_⟩
        refine lcr (fr_keep (p3.ne nD)) (fun _ v _ => ∃ z, v = .str z ∧ NameOk z) p3 nD (by omega) (fun _ _ _ _ h _ => h) (fun _ => rfl) (fun i H4 hi p4 k4 => ?_) (fun H4 ys p4 k4 l4 e4 q4 => fin D H4 ys nD p4 k4 l4 e4 q4)
        obtain ⟨c, ec, lc⟩ := letter_at (i := (i2 + 7 * (0 + (i : Int))) % 26) (Int.emod_nonneg _ (by decide)) (Int.emod_lt_of_pos _ (by decide))
        have hj0 : 0 ≤ (0 + (i : Int)) % 12 := Int.emod_nonneg _ (by decide)
        have hj1 : (0 + (i : Int)) % 12 < 12 := Int.emod_lt_of_pos _ (by decide)
        refine ⟨.inl ⟨by decide, by decide⟩, by decide, letters_size, c, ec, by decide, by omega, by omega, by show 1 ≤ 1000; decide, fun z ez => ?_⟩
        exact ⟨p4, Keep.refl _ _, z, rfl, name_rep lc (by omega) (by omega) ez⟩
      · refine ⟨p3, by decide, by decide, fun i4 H4 h4 h5 p4 k4 => ?_⟩
        refine ⟨i4, rfl, by omega, by omega, fun D nD => ?_⟩
        refine lcr (fr_keep (p4.ne nD)) (fun _ v _ => ∃ z, v = .str z ∧ LowN 1 z) p4 nD (by omega) (fun _ _ _ _ h _ => h) (fun _ => rfl) (fun i H5 hi p5 k5 => ?_) (fun H5 ys p5 k5 l5 e5 q5 => ?_)
        · refine ⟨p5, by decide, by decide, fun i6 H6 h6 h7 p6 k6 => ?_⟩
          obtain ⟨c, ec, lc⟩ := letter_at h6 h7
          exact ⟨letters_size, c, ec, p6, k6, _, rfl, low_one lc⟩
        · obtain ⟨zs, rfl, hz⟩ := lows_of q5
          rw [List.length_map] at l5
          have st := low_join (y := "") rfl hz
          have hs : ((zs.map (·.length)).sum) ≤ zs.length := sum_le1 fun z hz' => (hz z hz').1
          refine ⟨zs, .inl (sqL_of e5), by show _ + zs.length * 0 ≤ 16777216; omega, ?_⟩
          generalize hst : Txt.join "" zs = stem at st ⊢
          have lst : stem.length ≤ 11 := by have := st.1; omega
          refine ⟨size_le (by omega), p5, by omega, by omega, fun i6 H6 h6 h7 p6 k6 => ?_⟩
          have k6 : Keep a H3 H6 := (k4.trans k5).trans k6
          refine ⟨m, rfl, by omega, by omega, fun D2 nD2 => ?_⟩
          refine lcr (fr_keep (p6.ne nD2)) (fun _ v _ => ∃ z, v = .str z ∧ NameOk z) p6 nD2 (by omega) (fun _ _ _ _ h _ => h) (fun _ => rfl) (fun i H7 hi p7 k7 => ?_) (fun H7 ys p7 k7 l7 e7 q7 => ?_)
          · obtain ⟨c, ec, lc⟩ := letter_at (i := (i2 + 5 * (0 + (i : Int))) % 26) (Int.emod_nonneg _ (by decide)) (Int.emod_lt_of_pos _ (by decide))
            have hcut := cut_two stem (n := i6.toNat) (by omega)
            rw [show ((i6.toNat : Nat) : Int) = i6 from by omega] at hcut
            have e1 : (Str.mk #[c]).length = 1 := rfl
            refine ⟨size_le (by omega), .inl ⟨by decide, by decide⟩, by decide, letters_size, c, ec, size_le (by rw [e1]; omega), size_le (by omega), size_le (by rw [app_len, e1]; omega), p7, Keep.refl _ _, _, rfl, ?_⟩
            refine ⟨by rw [app_len, app_len, e1]; omega, by rw [app_len, app_len, e1]; omega, fun x hx => ?_⟩
            rw [app_list, app_list] at hx
            rcases List.mem_append.mp hx with hx | hx
            · rcases List.mem_append.mp hx with hx | hx
              · exact st.2 x (cut_mem hx)
              · have : x = c := by simpa using hx
                rw [this]
                exact lc
            · exact st.2 x (cut_mem hx)
          · obtain ⟨ws, rfl, hws⟩ := names_of q7
            rw [List.length_map] at l7
            have neD2 := p6.ne nD2
            refine ⟨D2, rfl, ⟨_, sqL_of e7⟩, fun D3 nD3 => ?_⟩
            refine lcl (xs := ws.map V.str) (fr_keep (p7.ne nD3)) (fun _ v _ => ∃ z, v = .str z ∧ NameOk z) p7 nD3 (by rw [List.length_map]; omega) (fun H8 p8 k8 => sqL_of (k8 D2 _ neD2 e7)) (fun _ _ _ _ h _ => h) (fun _ => rfl) (fun i x H8 hx p8 k8 => ?_) (fun H8 ys p8 k8 l8 e8 q8 => ?_)
            · obtain ⟨z, hz, rfl⟩ := List.mem_map.mp (List.mem_of_getElem? hx)
              have nz := hws z hz
              refine ⟨Nat.le_of_ble_eq_true rfl, fun p9 np9 => ⟨_, .inl (sqL_of upd_same), rfl, rfl, br2 (fun e => ?_) (fun e => ?_)⟩⟩
              · have h5 := in_three e
                have ex : (Str.ofString "x").length = 1 := by decide +kernel
                refine ⟨size_le (by rw [ex]; omega), p8.new (p8.ne np9), keep_of (same_new np9), _, rfl, by rw [app_len]; omega, by rw [app_len, ex]; omega, fun c hc => ?_⟩
                rw [app_list] at hc
                rcases List.mem_append.mp hc with hc | hc
                · exact nz.2.2 c hc
                · exact x_low c hc
              · exact ⟨p8.new (p8.ne np9), keep_of (same_new np9), z, rfl, nz⟩
            · rw [List.length_map] at l8
              refine fin D3 H8 ys ?_ p8 ((k6.trans k7).trans k8) (by omega) e8 q8
              exact (k6.trans k7).free nD3 (p7.ne nD3)
    · exact h.elim
end
end Sk
namespace Sk
open PySem PySem.Spec PyProof.Rows L2
/-! ### kinds as tuples -/
def Tups (H H' : Hp) : Prop := ∀ b xs, H b = some (.tup xs) → H' b = some (.tup xs)
theorem tups_of {H H' : Hp} (s : Stay H H') : Tups H H' := fun b xs h => s b _ rfl h
def Form0 (H : Hp) (v : V) : Prop := ∃ a s, v = .ref a ∧ H a = some (.tup [.str s]) ∧ (s = "text" ∨ s = "number" ∨ s = "flag")
def RecF (F : V → Prop) (H : Hp) (v : V) : Prop := ∃ a r ps, v = .ref a ∧ H a = some (.tup [.str "record", .ref r]) ∧ H r = some (.tup ps) ∧ ps.length ≤ 3 ∧ ∀ p ∈ ps, ∃ b w g, p = .ref b ∧ H b = some (.tup [.str w, g]) ∧ NameOk w ∧ F g
def KeyR (F : V → Prop) (H : Hp) (v : V) (w : Str) : Prop := ∃ a q b0 g0 s0 b1 w1 g1, v = .ref a ∧ H a = some (.tup [.str "record", .ref q]) ∧ H q = some (.tup [.ref b0, .ref b1]) ∧ H b0 = some (.tup [.str w, .ref g0]) ∧
  H g0 = some (.tup [.str s0]) ∧ (s0 = "text" ∨ s0 = "number") ∧ H b1 = some (.tup [.str w1, g1]) ∧ NameOk w ∧ NameOk w1 ∧ F g1
def FormV (H : Hp) : Nat → V → Prop
  | 0, v => Form0 H v
  | n + 1, v => Form0 H v ∨ (∃ a u, v = .ref a ∧ H a = some (.tup [.str "list", u]) ∧ FormV H n u) ∨ RecF (FormV H n) H v ∨
      (∃ a r w, v = .ref a ∧ H a = some (.tup [.str "keyed", r, .str w]) ∧ KeyR (FormV H n) H r w) ∨ (∃ a u, v = .ref a ∧ H a = some (.tup [.str "optional", u]) ∧ FormV H n u)
theorem atI_zero {α : Type} (x : α) (r : List α) : atI (x :: r) 0 = some x := by
  unfold atI ixN
  rw [if_pos (Int.le_refl 0), if_pos (by rw [List.length_cons]; omega)]
  rfl
theorem Form0.up {H : Hp} {v : V} (h : Form0 H v) : ∀ n, FormV H n v
  | 0 => h
  | _ + 1 => .inl h
theorem KeyR.rec_ {H : Hp} {n : Nat} {v : V} {w : Str} (h : KeyR (FormV H n) H v w) : RecF (FormV H n) H v := by
  obtain ⟨a, q, b0, g0, s0, b1, w1, g1, e, h1, h2, h3, h4, h5, h6, h7, h8, h9⟩ := h
  refine ⟨a, q, _, e, h1, h2, Nat.le_of_ble_eq_true rfl, fun p hp => ?_⟩
  rcases List.mem_cons.mp hp with rfl | hp
  · refine ⟨b0, w, _, rfl, h3, h7, Form0.up ⟨g0, s0, rfl, h4, ?_⟩ n⟩
    rcases h5 with h5 | h5
    · exact .inl h5
    · exact .inr (.inl h5)
  · have : p = .ref b1 := by simpa using hp
    exact ⟨b1, w1, g1, this, h6, h8, h9⟩
theorem Form0.mono {H H' : Hp} {v : V} (t : Tups H H') (h : Form0 H v) : Form0 H' v := by
  obtain ⟨a, s, e, h1, h2⟩ := h
  exact ⟨a, s, e, t _ _ h1, h2⟩
theorem FormV.mono {H H' : Hp} (t : Tups H H') : ∀ (n : Nat) (v : V), FormV H n v → FormV H' n v
  | 0, _, h => Form0.mono t h
  | n + 1, v, h => by
    rcases h with h | ⟨a, u, e, h1, h2⟩ | ⟨a, r, ps, e, h1, h2, h3, h4⟩ | ⟨a, r, w, e, h1, a2, q, b0, g0, s0, b1, w1, g1, e2, k1, k2, k3, k4, k5, k6, k7, k8, k9⟩ | ⟨a, u, e, h1, h2⟩
    · exact .inl (Form0.mono t h)
    · exact .inr (.inl ⟨a, u, e, t _ _ h1, FormV.mono t n u h2⟩)
    · refine .inr (.inr (.inl ⟨a, r, ps, e, t _ _ h1, t _ _ h2, h3, fun p hp => ?_⟩))
      obtain ⟨b, w, g, ep, k1, k2, k3⟩ := h4 p hp
      exact ⟨b, w, g, ep, t _ _ k1, k2, FormV.mono t n g k3⟩
    · exact .inr (.inr (.inr (.inl ⟨a, r, w, e, t _ _ h1, a2, q, b0, g0, s0, b1, w1, g1, e2, t _ _ k1, t _ _ k2, t _ _ k3, t _ _ k4, k5, t _ _ k6, k7, k8, FormV.mono t n g1 k9⟩)))
    · exact .inr (.inr (.inr (.inr ⟨a, u, e, t _ _ h1, FormV.mono t n u h2⟩)))
theorem FormV.up {H : Hp} : ∀ (n : Nat) (v : V), FormV H n v → FormV H (n + 1) v
  | 0, _, h => .inl h
  | n + 1, v, h => by
    rcases h with h | ⟨a, u, e, h1, h2⟩ | ⟨a, r, ps, e, h1, h2, h3, h4⟩ | ⟨a, r, w, e, h1, a2, q, b0, g0, s0, b1, w1, g1, e2, k1, k2, k3, k4, k5, k6, k7, k8, k9⟩ | ⟨a, u, e, h1, h2⟩
    · exact .inl h
    · exact .inr (.inl ⟨a, u, e, h1, FormV.up n u h2⟩)
    · refine .inr (.inr (.inl ⟨a, r, ps, e, h1, h2, h3, fun p hp => ?_⟩))
      obtain ⟨b, w, g, ep, k1, k2, k3⟩ := h4 p hp
      exact ⟨b, w, g, ep, k1, k2, FormV.up n g k3⟩
    · exact .inr (.inr (.inr (.inl ⟨a, r, w, e, h1, a2, q, b0, g0, s0, b1, w1, g1, e2, k1, k2, k3, k4, k5, k6, k7, k8, FormV.up n g1 k9⟩)))
    · exact .inr (.inr (.inr (.inr ⟨a, u, e, h1, FormV.up n u h2⟩)))
theorem FormV.head {H : Hp} : ∀ (n : Nat) (v : V), FormV H n v → ∃ a s rest, v = .ref a ∧ H a = some (.tup (.str s :: rest))
  | 0, _, ⟨a, s, e, h, _⟩ => ⟨a, s, [], e, h⟩
  | n + 1, v, h => by
    rcases h with ⟨a, s, e, h, _⟩ | ⟨a, u, e, h1, h2⟩ | ⟨a, r, ps, e, h1, h2, h3, h4⟩ | ⟨a, r, w, e, h1, h2⟩ | ⟨a, u, e, h1, h2⟩
    · exact ⟨a, s, [], e, h⟩
    · exact ⟨a, _, _, e, h1⟩
    · exact ⟨a, _, _, e, h1⟩
    · exact ⟨a, _, _, e, h1⟩
    · exact ⟨a, _, _, e, h1⟩
local macro_rules | `(tactic| walk_at "up") => `(tactic| first | assumption | exact upd_same | (refine same_new (by assumption) _ _ ?_; walk_at "up"))
section
variable {P : Program} {w : World} {K : PySem.W.Frag} {mg : Str → Option Value} {base : Heap}
def sp_form (n : Nat) : Sp := fun vs H Q _ => match vs with
  | [.ref a, .int d] => d = (n : Int) ∧ Pool H a ∧ ∀ (v : V) (H' : Hp), FormV H' n v → Pool H' a → Keep a H H' → Q v H'
  | _ => False
theorem step_form (T : Top K mg) (n k : Nat) (hk : 2 ≤ k) (spI : Sp) (G__law_form : Ok__law_form P w base T k spI) (hI : ∀ m, n = m + 1 → spI = sp_form m) : Ok__law_form P w base T (k + 1) (sp_form n) := by
  have G__law_draw : Ok__law_draw P w base T 1 sp_draw := ok_draw T 0
  have G__law_words : Ok__law_words P w base T 2 sp_words := ok_words T 0
  refine T.F__law_form.ok sc__law_form (fun vs H Q E h => ?_) (fun cdv A outer s H vs Q E hr h => ⟨_, PSs.nox (pss_cons (ps_set (i := 2) sc__law_form.nd rfl (by first | exact .inl rfl | exact .inr rfl) (pe_call G__law_draw (hr.mono (by omega)) (by rfl) T.g__law_draw T.F__law_draw.kp (b__law_draw T) .nil pass0 (pa_cons (vr 0) (pa_cons pe_int pa_nil))))
      (pss_cons (sif (PW.pt (wor (tcmp (ksame K hr.units) (vr 1) pe_int (nomark _)) (pw_or1 (tcmp op_ltI (vr 2) pe_int (nomark _))))) (pss_one (ps_ret (pe_ix (kget K) (pe_lst (pa_cons (pe_tup (pa_cons pe_str pa_nil)) (pa_cons (pe_tup (pa_cons pe_str pa_nil)) (pa_cons (pe_tup (pa_cons pe_str pa_nil)) (pa_cons (pe_tup (pa_cons pe_str pa_nil)) pa_nil))))) (pe_op op_modI (vr 2) pe_int) (fun _ _ => rfl)))) pss_nil)
      (pss_cons (sif (tcmp (ksame K hr.units) (vr 2) pe_int (nomark _)) (pss_one (ps_ret (pe_tup (pa_cons pe_str (pa_cons (pe_call G__law_form (hr.mono (by omega)) (by rfl) T.g__law_form T.F__law_form.kp (b__law_form T) .nil pass0 (pa_cons (vr 0) (pa_cons (pe_op op_minus (vr 1) pe_int) pa_nil))) pa_nil))))) pss_nil)
      (pss_cons (sif (tcmp (kin K) (vr 2) (pe_lst (pa_cons pe_int (pa_cons pe_int pa_nil))) (by rfl)) (pss_cons (ps_set (i := 3) sc__law_form.nd rfl (by first | exact .inl rfl | exact .inr rfl) (pe_callB (ksorted K) (by rfl) T.n_sorted (by decide +kernel) (pa_cons (pe_call G__law_words (hr.mono (by omega)) (by rfl) T.g__law_words T.F__law_words.kp (b__law_words T) .nil pass0 (pa_cons (vr 0) (pa_cons (pe_op (kplus K) pe_int (pe_call G__law_draw (hr.mono (by omega)) (by rfl) T.g__law_draw T.F__law_draw.kp (b__law_draw T) .nil pass0 (pa_cons (vr 0) (pa_cons pe_int pa_nil)))) pa_nil))) pa_nil)))
      (pss_cons (ps_setLc (i := 4) (own := [("_law_word", 7)])  rfl sc__law_form.nd rfl rfl (sw_true rfl rfl rfl (by decide +kernel)) (ilist K (vr 3)) (blkOk_by (own := [("_law_word", 7)]) (N := ["_law_pool_here", "_law_deep", "_law_way", "_law_words_here", "_law_fields", "_law_key", "_law_inner", "_law_word"]) (sc := defScope s__law_form) (by decide +kernel)) (fun _ _ _ _ _ => (pg_name (i := 7) sc__law_form.nd rfl (by first | exact .inl rfl | exact .inr rfl))) (fun _ _ _ _ _ => pts_nil) (fun _ _ _ _ _ => up (pe_tup (pa_cons (vr 7) (pa_cons (pe_call G__law_form (hr.mono (by omega)) (by rfl) T.g__law_form T.F__law_form.kp (b__law_form T) .nil pass0 (pa_cons (vr 0) (pa_cons (pe_op op_minus (vr 1) pe_int) pa_nil))) pa_nil)))))
      (pss_one (ps_ret (pe_tup (pa_cons pe_str (pa_cons (pe_callTy (ktup K) (by rfl) T.n_tuple (by decide +kernel) (pa_cons (vr 4) pa_nil)) pa_nil))))))) pss_nil)
      (pss_cons (sif (tcmp (ksame K hr.units) (vr 2) pe_int (nomark _)) (pss_cons (ps_set (i := 3) sc__law_form.nd rfl (by first | exact .inl rfl | exact .inr rfl) (pe_callB (ksorted K) (by rfl) T.n_sorted (by decide +kernel) (pa_cons (pe_call G__law_words (hr.mono (by omega)) (by rfl) T.g__law_words T.F__law_words.kp (b__law_words T) .nil pass0 (pa_cons (vr 0) (pa_cons pe_int pa_nil))) pa_nil)))
      (pss_cons (ps_set (i := 5) sc__law_form.nd rfl (by first | exact .inl rfl | exact .inr rfl) (pe_ix (kget K) (pe_lst (pa_cons pe_str (pa_cons pe_str pa_nil))) (pe_call G__law_draw (hr.mono (by omega)) (by rfl) T.g__law_draw T.F__law_draw.kp (b__law_draw T) .nil pass0 (pa_cons (vr 0) (pa_cons pe_int pa_nil))) (fun _ _ => rfl)))
      (pss_one (ps_ret (pe_tup (pa_cons pe_str (pa_cons (pe_tup (pa_cons pe_str (pa_cons (pe_tup (pa_cons (pe_tup (pa_cons (pe_ix (kget K) (vr 3) pe_int (fun _ _ => rfl)) (pa_cons (pe_tup (pa_cons (vr 5) pa_nil)) pa_nil))) (pa_cons (pe_tup (pa_cons (pe_ix (kget K) (vr 3) pe_int (fun _ _ => rfl)) (pa_cons (pe_call G__law_form (hr.mono (by omega)) (by rfl) T.g__law_form T.F__law_form.kp (b__law_form T) .nil pass0 (pa_cons (vr 0) (pa_cons (pe_op op_minus (vr 1) pe_int) pa_nil))) pa_nil))) pa_nil))) pa_nil))) (pa_cons (pe_ix (kget K) (vr 3) pe_int (fun _ _ => rfl)) pa_nil)))))))) pss_nil)
      (pss_cons (ps_set (i := 6) sc__law_form.nd rfl (by first | exact .inl rfl | exact .inr rfl) (pe_call G__law_form (hr.mono (by omega)) (by rfl) T.g__law_form T.F__law_form.kp (b__law_form T) .nil pass0 (pa_cons (vr 0) (pa_cons (pe_op op_minus (vr 1) pe_int) pa_nil))))
      (pss_one (ps_ret (vif (tcmp (ksame K hr.units) (pe_ix (kget K) (vr 6) pe_int (fun _ _ => rfl)) pe_str (nomark _)) (vr 6) (pe_tup (pa_cons pe_str (pa_cons (vr 6) pa_nil)))))))))))), ?_⟩)
  · unfold sp_form at h
    split at h
    · rfl
    · exact h.elim
  · unfold sp_form at h
    split at h
    · obtain ⟨rfl, hp, q⟩ := h
      rename_i a
      rw [st__law_form]
      refine ⟨hp, by decide, by decide, fun way H1 h0 h1 p1 k1 => ?_⟩
      have fin : ∀ v H2, FormV H2 n v → Pool H2 a → Keep a H1 H2 → Q v H2 := fun v H2 f p k => q v H2 f p (k1.trans k)
      simp only [List.set_cons_succ, List.set_cons_zero]
      have flat : ∀ (σ : L2.St), σ[2]? = some (some (.int way)) → (tRet (tOp (rGet K) (tLst (tCons (tTup (tCons (tC (.str "text")) tNil)) (tCons (tTup (tCons (tC (.str "text")) tNil)) (tCons (tTup (tCons (tC (.str "number")) tNil)) (tCons (tTup (tCons (tC (.str "flag")) tNil)) tNil))))) (tOp rMod (uVar 2) (tC (.int 4))))) { nx := fun _ H' => Q .non H', rt := Q } σ H1 := fun σ hs => by
        refine ⟨Nat.le_of_ble_eq_true rfl, fun a1 n1 => ⟨Nat.le_of_ble_eq_true rfl, fun a2 n2 => ⟨Nat.le_of_ble_eq_true rfl, fun a3 n3 => ⟨Nat.le_of_ble_eq_true rfl, fun a4 n4 => ⟨Nat.le_of_ble_eq_true rfl, fun l nl => ?_⟩⟩⟩⟩⟩
        show uVar 2 σ _ _
        unfold uVar
        rw [hs]
        obtain ⟨v, ev, mv⟩ := atI_in (xs := [V.ref a1, .ref a2, .ref a3, .ref a4]) (i := way % 4) (Int.emod_nonneg _ (by decide)) (Int.emod_lt_of_pos _ (by decide))
        refine ⟨by decide, _, v, .inl (sqL_of upd_same), ev, fin v _ (Form0.up ?_ n) ?_ ?_⟩
        · simp only [List.mem_cons, List.mem_nil_iff, or_false] at mv
          rcases mv with rfl | rfl | rfl | rfl
          · exact ⟨a1, "text", rfl, by walk_at "up", .inl rfl⟩
          · exact ⟨a2, "text", rfl, by walk_at "up", .inl rfl⟩
          · exact ⟨a3, "number", rfl, by walk_at "up", .inr (.inl rfl)⟩
          · exact ⟨a4, "flag", rfl, by walk_at "up", .inr (.inr rfl)⟩
        · obtain ⟨s, d, m, e1, e2⟩ := p1
          exact ⟨s, d, m, by walk_at "up", e2⟩
        · exact keep_of ((((same_new n1).trans (same_new n2)).trans (same_new n3)).trans (same_new n4) |>.trans (same_new nl))
      refine br2 (fun e => ?_) (fun e => ?_)
      · exact flat _ rfl
      refine br2 (fun e2 => ?_) (fun e2 => ?_)
      · exact flat _ rfl
      obtain ⟨m, rfl⟩ : ∃ m, n = m + 1 := by
        cases n with
        | zero => cases e
        | succ m => exact ⟨m, rfl⟩
      have hI := hI m rfl
      subst hI
      have dm : ((m + 1 : Nat) : Int) - 1 = (m : Int) := by omega
      -- a list
      refine br2 (fun e3 => ?_) (fun e3 => ?_)
      · refine ⟨dm, p1, fun u H2 f2 p2 k2 => ?_⟩
        exact ⟨Nat.le_of_ble_eq_true rfl, fun t nt => fin _ _ (.inr (.inl ⟨t, u, rfl, upd_same, FormV.mono (tups_of (stay_new nt)) _ _ f2⟩)) (p2.new (p2.ne nt)) (k2.trans (keep_of (same_new nt)))⟩
      -- a record
      refine ⟨Nat.le_of_ble_eq_true rfl, fun l nl => ⟨_, .inl (sqL_of upd_same), rfl, rfl, br2 (fun e4 => ?_) (fun e4 => ?_)⟩⟩
      · refine ⟨p1.new (p1.ne nl), by decide, by decide, fun i3 H3 g0 g1 p3 k3 => ?_⟩
        refine ⟨p3, by omega, by omega, fun D zs H4 l4 hz p4 k4 nD e4 => ?_⟩
        refine ⟨D, zs, rfl, sqL_of e4, by omega, fun ys t perm srt nt => ?_⟩
        have ly : ys.length = zs.length := perm.length_eq
        have hy : ∀ z ∈ ys, NameOk z := fun z h => hz z (perm.subset h)
        have p5 : Pool (upd H4 t (.lst (ys.map V.str))) a := p4.new (p4.ne nt)
        have k5 : Keep a H1 (upd H4 t (.lst (ys.map V.str))) := (((keep_of (same_new nl)).trans k3).trans k4).trans (keep_of (same_new nt))
        have net := p4.ne nt
        have e5 : upd H4 t (.lst (ys.map V.str)) t = some (.lst (ys.map V.str)) := upd_same
        revert p5 k5 e5
        generalize upd H4 t (.lst (ys.map V.str)) = H5
        intro p5 k5 e5
        simp only [List.set_cons_succ, List.set_cons_zero]
        refine ⟨t, rfl, ⟨_, sqL_of e5⟩, fun D2 nD2 => ?_⟩
        refine lcl (xs := ys.map V.str) (fr_keep (p5.ne nD2)) (fun _ v H => ∃ b w g, v = .ref b ∧ H b = some (.tup [.str w, g]) ∧ NameOk w ∧ FormV H m g) p5 nD2 (by rw [List.length_map]; omega) (fun H6 p6 k6 => sqL_of (k6 t _ net e5))
          (fun _ v H H' h st => by obtain ⟨b, w, g, h1, h2, h3, h4⟩ := h; exact ⟨b, w, g, h1, st _ _ rfl h2, h3, FormV.mono (tups_of st) _ _ h4⟩) (fun _ => rfl) (fun i x H6 hx p6 k6 => ?_) (fun H6 vs p6 k6 l6 e6 q6 => ?_)
        · obtain ⟨w, hw, rfl⟩ := List.mem_map.mp (List.mem_of_getElem? hx)
          refine ⟨dm, p6, fun g H7 f7 p7 k7 => ⟨Nat.le_of_ble_eq_true rfl, fun b nb => ?_⟩⟩
          exact ⟨p7.new (p7.ne nb), k7.trans (keep_of (same_new nb)), b, w, g, rfl, upd_same, hy w hw, FormV.mono (tups_of (stay_new nb)) _ _ f7⟩
        · rw [List.length_map] at l6
          refine ⟨vs, .inl ⟨sqL_of e6, fun r nr => ⟨Nat.le_of_ble_eq_true rfl, fun t2 nt2 => ?_⟩⟩⟩
          have st : Same H6 (upd (upd H6 r (.tup vs)) t2 (.tup [.str "record", .ref r])) := (same_new nr).trans (same_new nt2)
          refine fin _ _ (.inr (.inr (.inl ⟨t2, r, vs, rfl, upd_same, same_new nt2 _ _ upd_same, by omega, fun p hp => ?_⟩))) (p6.same st) ((k5.trans k6).trans (keep_of st))
          obtain ⟨i, hi⟩ := List.getElem?_of_mem hp
          obtain ⟨b, w, g, h1, h2, h3, h4⟩ := q6 i p hi
          exact ⟨b, w, g, h1, st _ _ h2, h3, FormV.mono (tups_of (stay_of st)) _ _ h4⟩
      -- a keyed list
      refine br2 (fun e5 => ?_) (fun e5 => ?_)
      · refine ⟨p1.new (p1.ne nl), by decide, by decide, fun D zs H4 l4 hz p4 k4 nD e4 => ?_⟩
        refine ⟨D, zs, rfl, sqL_of e4, by omega, fun ys t perm srt nt => ?_⟩
        have ly : ys.length = zs.length := perm.length_eq
        have hy : ∀ z ∈ ys, NameOk z := fun z h => hz z (perm.subset h)
        obtain ⟨w0, w1, rfl⟩ : ∃ w0 w1, ys = [w0, w1] := by
          match ys, ly.trans l4 with
          | [w0, w1], _ => exact ⟨w0, w1, rfl⟩
        have n0 := hy w0 (List.mem_cons_self ..)
        have n1 := hy w1 (List.mem_cons_of_mem _ (List.mem_cons_self ..))
        have p5 : Pool (upd H4 t (.lst ([w0, w1].map V.str))) a := p4.new (p4.ne nt)
        have k5 : Keep a H1 (upd H4 t (.lst ([w0, w1].map V.str))) := ((keep_of (same_new nl)).trans k4).trans (keep_of (same_new nt))
        have net := p4.ne nt
        have e5 : upd H4 t (.lst ([w0, w1].map V.str)) t = some (.lst [.str w0, .str w1]) := upd_same
        revert p5 k5 e5
        generalize upd H4 t (.lst ([w0, w1].map V.str)) = H5
        intro p5 k5 e5
        simp only [List.set_cons_succ, List.set_cons_zero]
        refine ⟨Nat.le_of_ble_eq_true rfl, fun l2 nl2 => ?_⟩
        refine ⟨p5.new (p5.ne nl2), by decide, by decide, fun i6 H6 g0 g1 p6 k6 => ?_⟩
        have ne2 := p5.ne nl2
        have e6 : H6 t = some (.lst [.str w0, .str w1]) := k6 t _ net (same_new nl2 _ _ e5)
        obtain ⟨v, ev, mv⟩ := atI_in (xs := [V.str "text", .str "number"]) (i := i6) g0 g1
        refine ⟨_, v, .inl (sqL_of (k6 l2 _ ne2 upd_same)), ev, ?_⟩
        obtain ⟨key, rfl, hkey⟩ : ∃ key, v = .str key ∧ (key = "text" ∨ key = "number") := by
          simp only [List.mem_cons, List.mem_nil_iff, or_false] at mv
          rcases mv with rfl | rfl
          · exact ⟨_, rfl, .inl rfl⟩
          · exact ⟨_, rfl, .inr rfl⟩
        have k6 : Keep a H1 H6 := (k5.trans (keep_of (same_new nl2))).trans k6
        simp only [List.set_cons_succ, List.set_cons_zero]
        refine ⟨_, _, .inl (sqL_of e6), rfl, Nat.le_of_ble_eq_true rfl, fun t0 nt0 => ⟨Nat.le_of_ble_eq_true rfl, fun t1 nt1 => ?_⟩⟩
        have s7 : Same H6 (upd (upd H6 t0 (.tup [.str key])) t1 (.tup [.str w0, .ref t0])) := (same_new nt0).trans (same_new nt1)
        refine ⟨_, _, .inl (sqL_of (s7 _ _ e6)), rfl, dm, p6.same s7, fun g H8 f8 p8 k8 => ?_⟩
        have a1 : H8 t1 = some (.tup [.str w0, .ref t0]) := k8.stay (p6.same s7) _ _ rfl upd_same
        have a0 : H8 t0 = some (.tup [.str key]) := k8.stay (p6.same s7) _ _ rfl (same_new nt1 _ _ upd_same)
        have e8 : H8 t = some (.lst [.str w0, .str w1]) := k8 t _ net (s7 _ _ e6)
        refine ⟨Nat.le_of_ble_eq_true rfl, fun t2 nt2 => ⟨Nat.le_of_ble_eq_true rfl, fun t3 nt3 => ⟨Nat.le_of_ble_eq_true rfl, fun t4 nt4 => ?_⟩⟩⟩
        refine ⟨_, _, .inl (sqL_of (by walk_at "up")), rfl, Nat.le_of_ble_eq_true rfl, fun t5 nt5 => ?_⟩
        refine fin _ _ (.inr (.inr (.inr (.inl ⟨t5, .ref t4, w0, rfl, upd_same, t4, t3, t1, t0, key, t2, w1, g, rfl, by walk_at "up", by walk_at "up", by walk_at "up", by walk_at "up", hkey, by walk_at "up", n0, n1, ?_⟩)))) ?_ ?_
        · exact FormV.mono (tups_of (stay_of ((((same_new nt2).trans (same_new nt3)).trans (same_new nt4)).trans (same_new nt5)))) _ _ f8
        · obtain ⟨s, d, m, e1, e2⟩ := p8
          exact ⟨s, d, m, by walk_at "up", e2⟩
        · exact ((k6.trans (keep_of s7)).trans k8).trans (keep_of ((((same_new nt2).trans (same_new nt3)).trans (same_new nt4)).trans (same_new nt5)))
      -- an optional one
      refine ⟨dm, p1.new (p1.ne nl), fun u H2 f2 p2 k2 => ?_⟩
      have k2 : Keep a H1 H2 := (keep_of (same_new nl)).trans k2
      obtain ⟨b, s, rest, rfl, hb⟩ := FormV.head _ _ f2
      simp only [List.set_cons_succ, List.set_cons_zero]
      refine ⟨_, _, .inr (sqT_of hb), atI_zero _ _, br2 (fun e6 => ?_) (fun e6 => ?_)⟩
      · exact fin _ _ (FormV.up _ _ f2) p2 k2
      · exact ⟨Nat.le_of_ble_eq_true rfl, fun t nt => fin _ _ (.inr (.inr (.inr (.inr ⟨t, _, rfl, upd_same, FormV.mono (tups_of (stay_new nt)) _ _ f2⟩)))) (p2.new (p2.ne nt)) (k2.trans (keep_of (same_new nt)))⟩
    · exact h.elim
theorem no_form (T : Top K mg) : Ok__law_form P w base T 2 (fun _ _ _ _ => False) := ⟨fun _ _ _ _ h => h.elim, fun _ _ _ _ _ _ _ _ _ _ _ _ _ h => h.elim⟩
theorem ok_form (T : Top K mg) : ∀ n, Ok__law_form P w base T (n + 3) (sp_form n)
  | 0 => step_form T 0 2 (by decide) _ (no_form T) fun m e => by cases e
  | n + 1 => step_form T (n + 1) (n + 3) (by omega) _ (ok_form T n) fun m e => by cases e; rfl
end
end Sk
namespace Sk
open PySem PySem.Spec PyProof.Rows L2
/-! ### kinds by the depth of their values -/
def KeyI (H : Hp) (v : V) (w : Str) : Prop := ∃ a q b0 g0 s0 b1, v = .ref a ∧ H a = some (.tup [.str "record", .ref q]) ∧ H q = some (.tup [.ref b0, b1]) ∧ H b0 = some (.tup [.str w, .ref g0]) ∧ H g0 = some (.tup [.str s0]) ∧ (s0 = "text" ∨ s0 = "number")
def FW (H : Hp) : Nat → V → Prop
  | 0, v => Form0 H v
  | n + 1, v => Form0 H v ∨ (∃ a u, v = .ref a ∧ H a = some (.tup [.str "list", u]) ∧ FW H n u) ∨ RecF (FW H n) H v ∨
      (∃ a r w, v = .ref a ∧ H a = some (.tup [.str "keyed", r, .str w]) ∧ FW H n r ∧ KeyI H r w) ∨ (∃ a u, v = .ref a ∧ H a = some (.tup [.str "optional", u]) ∧ FW H n u)
theorem Form0.fw {H : Hp} {v : V} (h : Form0 H v) : ∀ n, FW H n v
  | 0 => h
  | _ + 1 => .inl h
theorem FW.mono {H H' : Hp} (t : Tups H H') : ∀ (n : Nat) (v : V), FW H n v → FW H' n v
  | 0, _, h => Form0.mono t h
  | n + 1, v, h => by
    rcases h with h | ⟨a, u, e, h1, h2⟩ | ⟨a, r, ps, e, h1, h2, h3, h4⟩ | ⟨a, r, w, e, h1, h2, a2, q, b0, g0, s0, b1, e2, k1, k2, k3, k4, k5⟩ | ⟨a, u, e, h1, h2⟩
    · exact .inl (Form0.mono t h)
    · exact .inr (.inl ⟨a, u, e, t _ _ h1, FW.mono t n u h2⟩)
    · refine .inr (.inr (.inl ⟨a, r, ps, e, t _ _ h1, t _ _ h2, h3, fun p hp => ?_⟩))
      obtain ⟨b, w, g, ep, k1, k2, k3⟩ := h4 p hp
      exact ⟨b, w, g, ep, t _ _ k1, k2, FW.mono t n g k3⟩
    · exact .inr (.inr (.inr (.inl ⟨a, r, w, e, t _ _ h1, FW.mono t n r h2, a2, q, b0, g0, s0, b1, e2, t _ _ k1, t _ _ k2, t _ _ k3, t _ _ k4, k5⟩)))
    · exact .inr (.inr (.inr (.inr ⟨a, u, e, t _ _ h1, FW.mono t n u h2⟩)))
theorem FW.up {H : Hp} : ∀ (n : Nat) (v : V), FW H n v → FW H (n + 1) v
  | 0, _, h => .inl h
  | n + 1, v, h => by
    rcases h with h | ⟨a, u, e, h1, h2⟩ | ⟨a, r, ps, e, h1, h2, h3, h4⟩ | ⟨a, r, w, e, h1, h2, h3⟩ | ⟨a, u, e, h1, h2⟩
    · exact .inl h
    · exact .inr (.inl ⟨a, u, e, h1, FW.up n u h2⟩)
    · refine .inr (.inr (.inl ⟨a, r, ps, e, h1, h2, h3, fun p hp => ?_⟩))
      obtain ⟨b, w, g, ep, k1, k2, k3⟩ := h4 p hp
      exact ⟨b, w, g, ep, k1, k2, FW.up n g k3⟩
    · exact .inr (.inr (.inr (.inl ⟨a, r, w, e, h1, FW.up n r h2, h3⟩)))
    · exact .inr (.inr (.inr (.inr ⟨a, u, e, h1, FW.up n u h2⟩)))
theorem FormV.fw {H : Hp} : ∀ (n : Nat) (v : V), FormV H n v → FW H (2 * n) v
  | 0, _, h => h
  | n + 1, v, h => by
    have two : 2 * (n + 1) = (2 * n + 1) + 1 := by omega
    rw [two]
    have go : ∀ u, FormV H n u → FW H (2 * n + 1) u := fun u hu => FW.up _ _ (FormV.fw n u hu)
    rcases h with h | ⟨a, u, e, h1, h2⟩ | ⟨a, r, ps, e, h1, h2, h3, h4⟩ | ⟨a, r, w, e, h1, h2⟩ | ⟨a, u, e, h1, h2⟩
    · exact .inl h
    · exact .inr (.inl ⟨a, u, e, h1, go u h2⟩)
    · refine .inr (.inr (.inl ⟨a, r, ps, e, h1, h2, h3, fun p hp => ?_⟩))
      obtain ⟨b, w, g, ep, k1, k2, k3⟩ := h4 p hp
      exact ⟨b, w, g, ep, k1, k2, go g k3⟩
    · refine .inr (.inr (.inr (.inl ⟨a, r, w, e, h1, ?_, ?_⟩)))
      · obtain ⟨a, r, ps, e, h1, h2, h3, h4⟩ := h2.rec_
        refine .inr (.inr (.inl ⟨a, r, ps, e, h1, h2, h3, fun p hp => ?_⟩))
        obtain ⟨b, w, g, ep, k1, k2, k3⟩ := h4 p hp
        exact ⟨b, w, g, ep, k1, k2, FormV.fw n g k3⟩
      · obtain ⟨a, q, b0, g0, s0, b1, w1, g1, e, h1, h2, h3, h4, h5, _⟩ := h2
        exact ⟨a, q, b0, g0, s0, _, e, h1, h2, h3, h4, h5⟩
    · exact .inr (.inr (.inr (.inr ⟨a, u, e, h1, go u h2⟩)))
local macro_rules | `(tactic| walk_at "up") => `(tactic| first | assumption | exact upd_same | (refine same_new (by assumption) _ _ ?_; walk_at "up"))
/-- of a record kind: a new record with its fields -/
def RecInfo (H : Hp) (f v : V) (H' : Hp) : Prop := ∀ b r ps, f = .ref b → H b = some (.tup [.str "record", .ref r]) → H r = some (.tup ps) → ∃ c kvs, v = .ref c ∧ H c = none ∧ H' c = some (.dK kvs) ∧ DictOk kvs ∧
  ∀ p ∈ ps, ∀ x w g, p = .ref x → H x = some (.tup [.str w, g]) → (valV kvs (.inr w)).isSome = true
theorem atI_get {α : Type} {xs : List α} {i : Nat} (h : i < xs.length) : atI xs (0 + (i : Int)) = some xs[i] := by
  unfold atI ixN
  rw [if_pos (by omega), if_pos (by omega)]
  show xs[(0 + (i : Int)).toNat]? = _
  rw [show (0 + (i : Int)).toNat = i by omega]
  exact List.getElem?_eq_getElem h
theorem no_info {H H' : Hp} {b : Addr} {v : V} {s : Str} {r : List V} (h : H b = some (.tup (.str s :: r))) (hs : s ≠ "record") : RecInfo H (.ref b) v H' := fun c q ps e h1 _ => by
  cases e
  rw [h] at h1
  cases h1
  exact absurd rfl hs
section
variable {P : Program} {w : World} {K : PySem.W.Frag} {mg : Str → Option Value} {base : Heap}
def sp_thing (n : Nat) : Sp := fun vs H Q _ => match vs with
  | [.ref a, f] => Pool H a ∧ FW H n f ∧ ∀ (v : V) (H' : Hp), GoodV (newP H H') n v → RecInfo H f v H' → Pool H' a → Keep a H H' → Q v H'
  | _ => False
theorem step_thing (T : Top K mg) (n k : Nat) (hk : 2 ≤ k) (spI : Sp) (G__law_thing_of : Ok__law_thing_of P w base T k spI) (hI : ∀ m, n = m + 1 → spI = sp_thing m) : Ok__law_thing_of P w base T (k + 1) (sp_thing n) := by
  have G__law_draw : Ok__law_draw P w base T 1 sp_draw := ok_draw T 0
  have G__law_chars : Ok__law_chars P w base T 2 sp_chars := ok_chars T 0
  refine T.F__law_thing_of.ok sc__law_thing_of (fun vs H Q E h => ?_) (fun cdv A outer s H vs Q E hr h => ⟨_, PSs.nox (pss_cons (sif (tcmp (ksame K hr.units) (pe_ix (kget K) (vr 1) pe_int (fun _ _ => rfl)) pe_str (nomark _)) (pss_one (ps_ret (pe_call G__law_chars (hr.mono (by omega)) (by rfl) T.g__law_chars T.F__law_chars.kp (b__law_chars T) .nil pass0 (pa_cons (vr 0) pa_nil)))) pss_nil)
      (pss_cons (sif (tcmp (ksame K hr.units) (pe_ix (kget K) (vr 1) pe_int (fun _ _ => rfl)) pe_str (nomark _)) (pss_one (ps_ret (pe_ix (kget K) (pe_lst (pa_cons (pe_call G__law_draw (hr.mono (by omega)) (by rfl) T.g__law_draw T.F__law_draw.kp (b__law_draw T) .nil pass0 (pa_cons (vr 0) (pa_cons pe_int pa_nil))) (pa_cons (pe_un un_negU (pe_call G__law_draw (hr.mono (by omega)) (by rfl) T.g__law_draw T.F__law_draw.kp (b__law_draw T) .nil pass0 (pa_cons (vr 0) (pa_cons pe_int pa_nil)))) (pa_cons (pe_op op_minus (pe_op op_powI pe_int pe_int) (pe_call G__law_draw (hr.mono (by omega)) (by rfl) T.g__law_draw T.F__law_draw.kp (b__law_draw T) .nil pass0 (pa_cons (vr 0) (pa_cons pe_int pa_nil)))) pa_nil)))) (pe_call G__law_draw (hr.mono (by omega)) (by rfl) T.g__law_draw T.F__law_draw.kp (b__law_draw T) .nil pass0 (pa_cons (vr 0) (pa_cons pe_int pa_nil))) (fun _ _ => rfl)))) pss_nil)
      (pss_cons (sif (tcmp (ksame K hr.units) (pe_ix (kget K) (vr 1) pe_int (fun _ _ => rfl)) pe_str (nomark _)) (pss_one (ps_ret (pe_cmpR (ksame K hr.units) (pe_call G__law_draw (hr.mono (by omega)) (by rfl) T.g__law_draw T.F__law_draw.kp (b__law_draw T) .nil pass0 (pa_cons (vr 0) (pa_cons pe_int pa_nil))) pe_int (nomark _)))) pss_nil)
      (pss_cons (sif (tcmp (ksame K hr.units) (pe_ix (kget K) (vr 1) pe_int (fun _ _ => rfl)) pe_str (nomark _)) (pss_one (ps_ret (vif (tcmp op_gtI (pe_call G__law_draw (hr.mono (by omega)) (by rfl) T.g__law_draw T.F__law_draw.kp (b__law_draw T) .nil pass0 (pa_cons (vr 0) (pa_cons pe_int pa_nil))) pe_int (nomark _)) (pe_call G__law_thing_of (hr.mono (by omega)) (by rfl) T.g__law_thing_of T.F__law_thing_of.kp (b__law_thing_of T) .nil pass0 (pa_cons (vr 0) (pa_cons (pe_ix (kget K) (vr 1) pe_int (fun _ _ => rfl)) pa_nil))) pe_non))) pss_nil)
      (pss_cons (sif (tcmp (ksame K hr.units) (pe_ix (kget K) (vr 1) pe_int (fun _ _ => rfl)) pe_str (nomark _)) (pss_cons (ps_set (i := 2) sc__law_thing_of.nd rfl (by first | exact .inl rfl | exact .inr rfl) pe_dnewK)
      (pss_cons (ps_for PassesOwn.never rfl (itup K (pe_ix (kget K) (vr 1) pe_int (fun _ _ => rfl))) (gtup K 2 rfl (gs_cons (pg_name (i := 3) sc__law_thing_of.nd rfl (by first | exact .inl rfl | exact .inr rfl)) (gs_cons (pg_name (i := 4) sc__law_thing_of.nd rfl (by first | exact .inl rfl | exact .inr rfl)) gs_nil))) (pss_one (ps_asg (pe_call G__law_thing_of (hr.mono (by omega)) (by rfl) T.g__law_thing_of T.F__law_thing_of.kp (b__law_thing_of T) .nil pass0 (pa_cons (vr 0) (pa_cons (vr 4) pa_nil))) (pg_sub (vr 2) (vr 3) (set_dict (hu_of hr))))))
      (pss_one (ps_ret (vr 2))))) pss_nil)
      (pss_cons (ps_setLc (i := 2) (own := [("_law_k", 5)])  rfl sc__law_thing_of.nd rfl rfl (sw_true rfl rfl rfl (by decide +kernel)) (pi_range1 (by rfl) T.n_range (pa_cons (pe_call G__law_draw (hr.mono (by omega)) (by rfl) T.g__law_draw T.F__law_draw.kp (b__law_draw T) .nil pass0 (pa_cons (vr 0) (pa_cons pe_int pa_nil))) pa_nil)) (blkOk_by (own := [("_law_k", 5)]) (N := ["_law_pool_here", "_law_form_here", "_law_found", "_law_word", "_law_inner", "_law_k", "_law_numbers"]) (sc := defScope s__law_thing_of) (by decide +kernel)) (fun _ _ _ _ _ => (pg_name (i := 5) sc__law_thing_of.nd rfl (by first | exact .inl rfl | exact .inr rfl))) (fun _ _ _ _ _ => pts_nil) (fun _ _ _ _ _ => up (pe_call G__law_thing_of (hr.mono (by omega)) (by rfl) T.g__law_thing_of T.F__law_thing_of.kp (b__law_thing_of T) .nil pass0 (pa_cons (vr 0) (pa_cons (pe_ix (kget K) (vr 1) pe_int (fun _ _ => rfl)) pa_nil)))))
      (pss_cons (sif (tcmp (ksame K hr.units) (pe_ix (kget K) (vr 1) pe_int (fun _ _ => rfl)) pe_str (nomark _)) (pss_one (ps_for PassesOwn.never rfl (pi_range1 (by rfl) T.n_range (pa_cons (pe_callB (klen K) (by rfl) T.n_len (by decide +kernel) (pa_cons (vr 2) pa_nil)) pa_nil)) (pg_name (i := 5) sc__law_thing_of.nd rfl (by first | exact .inl rfl | exact .inr rfl)) (pss_cons (ps_set (i := 6) sc__law_thing_of.nd rfl (by first | exact .inl rfl | exact .inr rfl) (pe_cmpR (ksame K hr.units) (pe_ix (kget K) (pe_ix (kget K) (pe_ix (kget K) (pe_ix (kget K) (vr 1) pe_int (fun _ _ => rfl)) pe_int (fun _ _ => rfl)) pe_int (fun _ _ => rfl)) pe_int (fun _ _ => rfl)) (pe_tup (pa_cons pe_str pa_nil)) (nomark _)))
      (pss_one (ps_asg (vif (tst (vr 6)) (pe_op (kplus K) (pe_op op_mulU (vr 5) pe_int) (pe_call G__law_draw (hr.mono (by omega)) (by rfl) T.g__law_draw T.F__law_draw.kp (b__law_draw T) .nil pass0 (pa_cons (vr 0) (pa_cons pe_int pa_nil)))) (pe_op op_mulU pe_str (pe_op (kplus K) (vr 5) pe_int))) (pg_sub (pe_ix (kget K) (vr 2) (vr 5) (fun _ _ => rfl)) (pe_ix (kget K) (vr 1) pe_int (fun _ _ => rfl)) (set_dict (hu_of hr)))))))) pss_nil)
      (pss_one (ps_ret (pe_callTy (ktup K) (by rfl) T.n_tuple (by decide +kernel) (pa_cons (vr 2) pa_nil))))))))))), ?_⟩)
  · unfold sp_thing at h
    split at h
    · rfl
    · exact h.elim
  · unfold sp_thing at h
    split at h
    · obtain ⟨hp, hf, q⟩ := h
      rename_i a f
      rw [st__law_thing_of]
      have flat0 : ∀ b s, f = .ref b → H b = some (.tup [.str s]) → (s = "text" ∨ s = "number" ∨ s = "flag") → ∀ (v : V) (H' : Hp), FlatOk v → Pool H' a → Keep a H H' → Q v H' := fun b s e hb hs v H' fv p k => by
        refine q v H' (fv.good n) ?_ p k
        rw [e]
        refine no_info hb ?_
        rcases hs with rfl | rfl | rfl <;> decide +kernel
      have hf' : Form0 H f ∨ ∃ m, n = m + 1 ∧ ((∃ a u, f = .ref a ∧ H a = some (.tup [.str "list", u]) ∧ FW H m u) ∨ RecF (FW H m) H f ∨
          (∃ a r w, f = .ref a ∧ H a = some (.tup [.str "keyed", r, .str w]) ∧ FW H m r ∧ KeyI H r w) ∨ (∃ a u, f = .ref a ∧ H a = some (.tup [.str "optional", u]) ∧ FW H m u)) := by
        cases n with
        | zero => exact .inl hf
        | succ m =>
          rcases hf with h | h
          · exact .inl h
          · exact .inr ⟨m, rfl, h⟩
      rcases hf' with ⟨b, s, rfl, hb, hs⟩ | ⟨m, rfl, hf'⟩
      · have fl := flat0 b s rfl hb hs
        rcases hs with rfl | rfl | rfl
        · refine ⟨_, _, .inr (sqT_of hb), rfl, ?_⟩
          exact ⟨hp, fun z H1 tz p1 k1 => fl _ H1 (tz.mono (by decide)) p1 k1⟩
        · refine ⟨_, _, .inr (sqT_of hb), rfl, ?_⟩
          refine ⟨_, _, .inr (sqT_of hb), rfl, ?_⟩
          refine ⟨hp, by decide, by decide, fun i1 H1 a0 a1 p1 k1 => ⟨p1, by decide, by decide, fun i2 H2 b0 b1 p2 k2 => ⟨⟨by decide, by decide, by decide⟩, p2, by decide, by decide, fun i3 H3 c0 c1 p3 k3 => ⟨Nat.le_of_ble_eq_true rfl, fun l nl => ⟨p3.new (p3.ne nl), by decide, by decide, fun i4 H4 d0 d1 p4 k4 => ?_⟩⟩⟩⟩⟩
          obtain ⟨v, ev, mv⟩ := atI_in (xs := [V.int i1, .int (-i2), .int (10 ^ Int.toNat 20 - i3)]) (i := i4) d0 d1
          refine ⟨_, v, .inl (sqL_of (k4 l _ (p3.ne nl) upd_same)), ev, fl v H4 ?_ p4 ((((k1.trans k2).trans k3).trans (keep_of (same_new nl))).trans k4)⟩
          have e20 : (10 : Int) ^ Int.toNat 20 = 100000000000000000000 := by decide
          rw [e20] at mv
          simp only [List.mem_cons, List.mem_nil_iff, or_false] at mv
          rcases mv with rfl | rfl | rfl
          · show i1.natAbs ≤ 10 ^ 30
            omega
          · show (-i2).natAbs ≤ 10 ^ 30
            omega
          · show (100000000000000000000 - i3).natAbs ≤ 10 ^ 30
            omega
        · refine ⟨_, _, .inr (sqT_of hb), rfl, ?_⟩
          refine ⟨_, _, .inr (sqT_of hb), rfl, ?_⟩
          refine ⟨_, _, .inr (sqT_of hb), rfl, ?_⟩
          exact ⟨hp, by decide, by decide, fun i1 H1 a0 a1 p1 k1 => fl _ H1 trivial p1 k1⟩
      have hI := hI m rfl
      subst hI
      rcases hf' with ⟨b, u, rfl, hb, hu⟩ | ⟨b, r, ps, rfl, hb, hr2, hl, hps⟩ | ⟨b, r, kw, rfl, hb, hu, hk2⟩ | ⟨b, u, rfl, hb, hu⟩
      · -- a list
        refine ⟨_, _, .inr (sqT_of hb), rfl, ?_⟩
        refine ⟨_, _, .inr (sqT_of hb), rfl, ?_⟩
        refine ⟨_, _, .inr (sqT_of hb), rfl, ?_⟩
        refine ⟨_, _, .inr (sqT_of hb), rfl, ?_⟩
        refine ⟨_, _, .inr (sqT_of hb), rfl, ?_⟩
        refine ⟨hp, by decide, by decide, fun i1 H1 a0 a1 p1 k1 => ⟨i1, rfl, by omega, by omega, fun D nD => ?_⟩⟩
        refine lcr (fr_keep (p1.ne nD)) (fun _ v H' => GoodV (newP H H') m v) p1 nD (by omega) (fun _ v H' H2 g st => GoodV.mono (newP_on st) _ _ g) (fun _ => rfl) (fun i H2 hi p2 k2 => ?_) (fun H2 ys p2 k2 l2 e2 q2 => ?_)
        · have st : Stay H H2 := (k1.trans k2).stay hp
          refine ⟨_, _, .inr (sqT_of (st _ _ rfl hb)), rfl, p2, FW.mono (tups_of st) _ _ hu, fun v H3 gv ri p3 k3 => ?_⟩
          exact ⟨p3, k3, GoodV.mono (newP_less ((k1.trans k2).dom p2)) _ _ gv⟩
        · have st : Stay H H2 := (k1.trans k2).stay hp
          refine ⟨_, _, .inr (sqT_of (st _ _ rfl hb)), rfl, ?_⟩
          refine ⟨ys, .inl ⟨sqL_of e2, fun t nt => ?_⟩⟩
          have nH : H t = none := (k1.trans k2).dom p2 t nt
          refine q _ _ (.inr (.inl ⟨t, ys, rfl, by rw [newP_at nH]; exact upd_same, by omega, fun x hx => ?_⟩)) (no_info hb (by decide +kernel)) (p2.new (p2.ne nt)) ((k1.trans k2).trans (keep_of (same_new nt)))
          obtain ⟨i, hi⟩ := List.getElem?_of_mem hx
          exact GoodV.mono (newP_on (stay_new nt)) _ _ (q2 i x hi)
      · -- a record
        refine ⟨_, _, .inr (sqT_of hb), rfl, ?_⟩
        refine ⟨_, _, .inr (sqT_of hb), rfl, ?_⟩
        refine ⟨_, _, .inr (sqT_of hb), rfl, ?_⟩
        refine ⟨_, _, .inr (sqT_of hb), rfl, ?_⟩
        refine ⟨_, _, .inr (sqT_of hb), rfl, ?_⟩
        intro d nd
        simp only [List.set_cons_succ, List.set_cons_zero]
        have ned := hp.ne nd
        refine ⟨_, _, .inr (sqT_of (same_new nd _ _ hb)), rfl, r, rfl, ⟨_, sqT_of (same_new nd _ _ hr2)⟩, ?_⟩
        refine for_tup (xs := ps) (fun i σ H' => (∃ y3 y4, σ = [some (.ref a), some (.ref b), some (.ref d), y3, y4, none, none]) ∧ Pool H' a ∧ Keep a H H' ∧ ∃ kvs, H' d = some (.dK kvs) ∧ kvs.length ≤ i ∧ (kvs.map (·.1)).Nodup ∧
          (∀ p ∈ kvs, ∃ w, p.1 = .inr w ∧ NameOk w) ∧ (∀ p ∈ kvs, GoodV (hide d (newP H H')) m p.2) ∧ ∀ (j : Nat) p, j < i → ps[j]? = some p → ∀ x w g, p = .ref x → H x = some (.tup [.str w, g]) → (valV kvs (.inr w)).isSome = true)
          ⟨⟨_, _, rfl⟩, hp.new ned, keep_of (same_new nd), [], upd_same, Nat.le_refl _, List.nodup_nil, (fun p hp => by cases hp), (fun p hp => by cases hp), fun j p hj => absurd hj (Nat.not_lt_zero j)⟩ (fun i σ H' _ hv => ?_) (fun i x σ H' hx hv => ?_) (fun σ H' hv => ?_)
        · exact sqT_of ((hv.2.2.1).stay hp _ _ rfl hr2)
        · obtain ⟨⟨y3, y4, rfl⟩, p1, k1, kvs, e1, l1, nd1, nm1, g1, in1⟩ := hv
          obtain ⟨c, w, g, rfl, hc, hw, fg⟩ := hps x (List.mem_of_getElem? hx)
          have st : Stay H H' := k1.stay hp
          refine ⟨c, _, rfl, sqT_of (st _ _ rfl hc), rfl, ?_⟩
          refine ⟨p1, FW.mono (tups_of st) _ _ fg, fun v H2 gv ri p2 k2 => ?_⟩
          have e2 : H2 d = some (.dK kvs) := k2 d _ ned e1
          have hi : i < ps.length := (List.getElem?_eq_some_iff.mp hx).1
          refine ⟨d, _, rfl, DPut.k (k := .inr w) e2 (size_lt (by omega)), ⟨_, _, rfl⟩, p2.new ned, ?_, _, upd_same, ?_, ?_, ?_, ?_, ?_⟩
          · intro b o nb hb'
            rw [upd_ne (ne_of_none hb' nd)]
            exact k2 b o nb (k1 b o nb hb')
          · have := length_putK kvs (Sum.inr w) v
            omega
          · cases hq : valV kvs (Sum.inr w) with
            | none => exact nd_putK v nd1 hq
            | some z => rw [put_keys (by rw [hq]; rfl)]; exact nd1
          · intro p hp'
            rcases put_mem hp' with h | ⟨h, _⟩
            · exact nm1 p h
            · exact ⟨w, h, hw⟩
          · have same : Stay (hide d (newP H H2)) (hide d (newP H (upd H2 d (.dK (putK kvs (Sum.inr w) v))))) := fun b o l e => by
              obtain ⟨h1, h2⟩ := hide_some e
              obtain ⟨h3, h4⟩ := newP_some h2
              rw [hide_ne h1, newP_at h3, upd_ne h1]
              exact h4
            intro p hp'
            rcases put_mem hp' with h | ⟨_, h⟩
            · exact GoodV.mono ((hide_on (newP_on (k2.stay p1))).trans same) _ _ (g1 p h)
            · rw [h]
              refine GoodV.mono ((stay_hide (newP_less (k1.dom p1)) ?_).trans same) _ _ gv
              unfold newP
              rw [e1]
          · intro j p hj hpj x' w' g' ex hx'
            rw [valV_put]
            split
            · rfl
            · rcases Nat.lt_or_ge j i with hji | hji
              · exact in1 j p hji hpj x' w' g' ex hx'
              · have : j = i := by omega
                subst this
                rw [hx] at hpj
                cases hpj
                cases ex
                rw [hc] at hx'
                cases hx'
                rename_i hne
                exact absurd rfl hne
        · obtain ⟨⟨y3, y4, rfl⟩, p1, k1, kvs, e1, l1, nd1, nm1, g1, in1⟩ := hv
          have dok : DictOk kvs := ⟨by omega, nd1, nm1⟩
          refine q _ _ (.inr (.inr ⟨d, kvs, rfl, by rw [newP_at nd]; exact e1, dok, fun p hp' => GoodV.mono hide_stay _ _ (g1 p hp')⟩)) ?_ p1 k1
          intro b' r' ps' eb h1 h2
          cases eb
          rw [hb] at h1
          cases h1
          rw [hr2] at h2
          cases h2
          refine ⟨d, kvs, rfl, nd, e1, dok, fun p hp' x w g ex hx => ?_⟩
          obtain ⟨j, hj⟩ := List.getElem?_of_mem hp'
          exact in1 j p (List.getElem?_eq_some_iff.mp hj).1 hj x w g ex hx
      · -- a keyed list
        obtain ⟨b2, q0, b0, g0, s0, b1, rfl, w1, w2, w3, w4, w5⟩ := hk2
        have sh : shp (.tuple [.str s0]) = true := rfl
        refine ⟨_, _, .inr (sqT_of hb), rfl, ?_⟩
        refine ⟨_, _, .inr (sqT_of hb), rfl, ?_⟩
        refine ⟨_, _, .inr (sqT_of hb), rfl, ?_⟩
        refine ⟨_, _, .inr (sqT_of hb), rfl, ?_⟩
        refine ⟨_, _, .inr (sqT_of hb), rfl, ?_⟩
        refine ⟨hp, by decide, by decide, fun i1 H1 a0 a1 p1 k1 => ⟨i1, rfl, by omega, by omega, fun D nD => ?_⟩⟩
        have neD := p1.ne nD
        refine lcr (fr_keep neD) (fun _ v H' => GoodV (newP H H') m v ∧ ∃ c kvs, v = .ref c ∧ H c = none ∧ H' c = some (.dK kvs) ∧ DictOk kvs ∧ (valV kvs (.inr kw)).isSome = true) p1 nD (by omega)
          (fun _ v H' H2 g st => ⟨GoodV.mono (newP_on st) _ _ g.1, by obtain ⟨c, kvs, h1, h2, h3, h4⟩ := g.2; exact ⟨c, kvs, h1, h2, st _ _ rfl h3, h4⟩⟩) (fun _ => rfl) (fun i H2 hi p2 k2 => ?_) (fun H2 ys p2 k2 l2 e2 q2 => ?_)
        · have st : Stay H H2 := (k1.trans k2).stay hp
          refine ⟨_, _, .inr (sqT_of (st _ _ rfl hb)), rfl, p2, FW.mono (tups_of st) _ _ hu, fun v H3 gv ri p3 k3 => ?_⟩
          refine ⟨p3, k3, GoodV.mono (newP_less ((k1.trans k2).dom p2)) _ _ gv, ?_⟩
          obtain ⟨c, kvs, h1, h2, h3, h4, h5⟩ := ri b2 q0 _ rfl (st _ _ rfl w1) (st _ _ rfl w2)
          exact ⟨c, kvs, h1, (k1.trans k2).dom p2 c h2, h3, h4, h5 _ (List.mem_cons_self ..) b0 kw _ rfl (st _ _ rfl w3)⟩
        · have st : Stay H H2 := (k1.trans k2).stay hp
          simp only [List.set_cons_succ, List.set_cons_zero]
          refine ⟨_, _, .inr (sqT_of (st _ _ rfl hb)), rfl, ?_⟩
          refine ⟨ys, .inl (sqL_of e2), _, rfl, by omega, by omega, ?_⟩
          have hDn : H D = none := k1.dom p1 D nD
          refine for_range (n := ys.length) (fun i σ H' => (∃ y5 y6, σ = [some (.ref a), some (.ref b), some (.ref D), none, none, y5, y6]) ∧ Pool H' a ∧ Keep a H H' ∧ H' D = some (.lst ys) ∧
            ∀ y ∈ ys, GoodV (newP H H') m y ∧ ∃ c kvs, y = .ref c ∧ H c = none ∧ H' c = some (.dK kvs) ∧ DictOk kvs ∧ (valV kvs (.inr kw)).isSome = true) ⟨⟨_, _, rfl⟩, p2, k1.trans k2, e2, fun y hy => ?_⟩ (fun i σ H' hi hv => ?_) (fun σ H' hv => ?_)
          · obtain ⟨i, hi⟩ := List.getElem?_of_mem hy
            exact q2 i y hi
          · obtain ⟨⟨y5, y6, rfl⟩, p3, k3, e3, g3⟩ := hv
            have st3 : Stay H H' := k3.stay hp
            refine ⟨_, _, .inr (sqT_of (st3 _ _ rfl hb)), rfl, _, _, .inr (sqT_of (st3 _ _ rfl w1)), rfl, _, _, .inr (sqT_of (st3 _ _ rfl w2)), rfl, _, _, .inr (sqT_of (st3 _ _ rfl w3)), rfl, Nat.le_of_ble_eq_true rfl, fun t nt => ?_⟩
            have s4 : Same H' (upd H' t (.tup [.str "number"])) := same_new nt
            refine ⟨.tuple [.str s0], .tuple [.str "number"], .tup (sqT_of (s4 _ _ (st3 _ _ rfl w4))) (.cons (.str _) .nil), .tup (sqT_of upd_same) (.cons (.str _) .nil), sh, by decide +kernel, ?_⟩
            simp only [List.set_cons_succ, List.set_cons_zero]
            have p4 := p3.same s4
            have k4 : Keep a H' (upd H' t (.tup [.str "number"])) := keep_of s4
            have hfin : ∀ (x : V) (H5 : Hp) (z6 : Option V), FlatOk x → Pool H5 a → Keep a H' H5 → gSub (tOp (rGet K) (uVar 2) (uVar 5)) (tOp (rGet K) (uVar 1) (tC (.int 2))) rSetD x [some (.ref a), some (.ref b), some (.ref D), none, none, some (.int (0 + (i : Int))), z6] H5
                (fun σ H' => (∃ y5 y6, σ = [some (.ref a), some (.ref b), some (.ref D), none, none, y5, y6]) ∧ Pool H' a ∧ Keep a H H' ∧ H' D = some (.lst ys) ∧
                  ∀ y ∈ ys, GoodV (newP H H') m y ∧ ∃ c kvs, y = .ref c ∧ H c = none ∧ H' c = some (.dK kvs) ∧ DictOk kvs ∧ (valV kvs (.inr kw)).isSome = true) := fun x H5 z6 fx p5 k5 => by
              have e5 : H5 D = some (.lst ys) := k5 D _ neD e3
              have st5 : Stay H' H5 := k5.stay p3
              obtain ⟨gy, c, kvs, hy, hc, hc3, dok, hkw⟩ := g3 ys[i] (List.getElem_mem hi)
              have hc5 : H5 c = some (.dK kvs) := st5 _ _ rfl hc3
              refine ⟨_, ys[i], .inl (sqL_of e5), atI_get hi, _, _, .inr (sqT_of (st5 _ _ rfl (st3 _ _ rfl hb))), rfl, c, _, hy, DPut.k (k := .inr kw) hc5 (size_lt (by have := dok.1; omega)), ⟨_, _, rfl⟩, p5.new (fun z => by rw [z] at hc5; obtain ⟨_, _, _, h1, _⟩ := p5; rw [h1] at hc5; cases hc5), ?_, ?_, ?_⟩
              · intro b' o nb hb'
                rw [upd_ne (ne_of_none hb' hc)]
                exact k5 b' o nb (k3 b' o nb hb')
              · rw [upd_ne (fun z => by rw [z, hc5] at e5; cases e5)]
                exact e5
              · intro y hy'
                obtain ⟨gy', c', kvs', ey', hc', hc3', dok', hkw'⟩ := g3 y hy'
                have eN : newP H (upd H5 c (.dK (putK kvs (.inr kw) x))) = upd (newP H H5) c (.dK (putK kvs (.inr kw) x)) := by
                  funext z
                  by_cases hz : z = c
                  · subst hz
                    rw [newP_at hc, upd_same, upd_same]
                  · rw [upd_ne hz]
                    unfold newP
                    rw [upd_ne hz]
                refine ⟨?_, ?_⟩
                · rw [eN]
                  exact GoodV.put (by rw [newP_at hc]; exact hc5) hkw fx m y (GoodV.mono (newP_on st5) _ _ gy')
                · by_cases hz : c' = c
                  · subst hz
                    have ek : kvs' = kvs := by rw [hc3] at hc3'; cases hc3'; rfl
                    subst ek
                    refine ⟨c', _, ey', hc', upd_same, dok.put hkw, ?_⟩
                    rw [valV_put, if_pos rfl]
                    rfl
                  · exact ⟨c', kvs', ey', hc', by rw [upd_ne hz]; exact st5 _ _ rfl hc3', dok', hkw'⟩
            have hi3 : i < 3 := by omega
            refine br2 (fun e => ?_) (fun e => ?_)
            · refine ⟨.inr ⟨by decide, by decide⟩, p4, by decide, by decide, fun j H5 c0 c1 p5 k5 => ?_⟩
              refine hfin _ H5 _ ?_ p5 (k4.trans k5)
              show ((0 + (i : Int)) * 3 + j).natAbs ≤ 10 ^ 30
              omega
            · refine ⟨by omega, by omega, by show 1 ≤ 1000; decide, fun z ez => hfin _ _ _ ?_ p4 k4⟩
              exact ((name_rep (c := 107) (n := i + 1) rfl (by omega) (by omega) (by rw [ez]; congr 2; omega)).text).mono (by decide)
          · obtain ⟨⟨y5, y6, rfl⟩, p3, k3, e3, g3⟩ := hv
            refine ⟨ys, .inl ⟨sqL_of e3, fun t nt => ?_⟩⟩
            have nH : H t = none := k3.dom p3 t nt
            exact q _ _ (.inr (.inl ⟨t, ys, rfl, by rw [newP_at nH]; exact upd_same, by omega, fun x hx => GoodV.mono (newP_on (stay_new nt)) _ _ (g3 x hx).1⟩)) (no_info hb (by decide +kernel)) (p3.new (p3.ne nt)) (k3.trans (keep_of (same_new nt)))
      · -- an optional one
        refine ⟨_, _, .inr (sqT_of hb), rfl, ?_⟩
        refine ⟨_, _, .inr (sqT_of hb), rfl, ?_⟩
        refine ⟨_, _, .inr (sqT_of hb), rfl, ?_⟩
        refine ⟨_, _, .inr (sqT_of hb), rfl, ?_⟩
        refine ⟨hp, by decide, by decide, fun i1 H1 a0 a1 p1 k1 => br2 (fun e => ?_) (fun e => ?_)⟩
        · have st : Stay H H1 := k1.stay hp
          refine ⟨_, _, .inr (sqT_of (st _ _ rfl hb)), rfl, p1, FW.mono (tups_of st) _ _ hu, fun v H2 gv ri p2 k2 => ?_⟩
          exact q v H2 (GoodV.mono (newP_less (k1.dom p1)) _ _ (GoodV.up _ _ gv)) (no_info hb (by decide +kernel)) p2 (k1.trans k2)
        · exact q .non H1 (.inl trivial) (no_info hb (by decide +kernel)) p1 k1
    · exact h.elim
theorem no_thing (T : Top K mg) : Ok__law_thing_of P w base T 2 (fun _ _ _ _ => False) := ⟨fun _ _ _ _ h => h.elim, fun _ _ _ _ _ _ _ _ _ _ _ _ _ h => h.elim⟩
theorem ok_thing (T : Top K mg) : ∀ n, Ok__law_thing_of P w base T (n + 3) (sp_thing n)
  | 0 => step_thing T 0 2 (by decide) _ (no_thing T) fun m e => by cases e
  | n + 1 => step_thing T (n + 1) (n + 3) (by omega) _ (ok_thing T n) fun m e => by cases e; rfl
end
end Sk
namespace Sk
open PySem PySem.Spec PyProof.Rows L2
section
variable {P : Program} {w : World} {K : PySem.W.Frag} {mg : Str → Option Value} {base : Heap}
/-! ### kinds -/
theorem kit_same {K : PySem.W.Frag} {t : Value} : PySem.W.kitOne K t t = some true := by
  unfold PySem.W.kitOne
  rw [if_pos (beq_self_eq_true t)]
theorem kit_nb : PySem.W.kitOne K (.type "NoneType") (.type "bool") = some false := rfl
theorem kit_sb : PySem.W.kitOne K (.type "str") (.type "bool") = some false := rfl
theorem kit_ib : PySem.W.kitOne K (.type "int") (.type "bool") = some false := rfl
theorem kit_bi : PySem.W.kitOne K (.type "bool") (.type "int") = some true := rfl
theorem kit_ss : PySem.W.kitOne K (.type "str") (.type "str") = some true := rfl
theorem kit_td : PySem.W.kitOne K (.type "tuple") (.type "dict") = some false := rfl
theorem bls_of {ys : List V} (h : ∀ (i : Nat) (y : V), ys[i]? = some y → y = .bl true) : ∃ bs : List Bool, ys = bs.map V.bl ∧ bs.all id = true := by
  refine ⟨List.replicate ys.length true, ?_, by simp⟩
  refine List.ext_getElem? fun i => ?_
  rw [List.map_replicate]
  cases e : ys[i]? with
  | none =>
    rw [List.getElem?_eq_none_iff] at e
    rw [List.getElem?_eq_none (by simpa using e)]
  | some y =>
    have hi := (List.getElem?_eq_some_iff.mp e).1
    rw [h i y e, List.getElem?_replicate, if_pos hi]
/-! ### is_whole, is_name -/
def sp_whole : Sp := fun vs H Q _ => match vs with
  | [.int _] => Q (.bl true) H
  | _ => False
theorem ok_whole (T : Top K mg) (k : Nat) : Ok_is_whole P w base T (k + 1) sp_whole := by
  refine T.F_is_whole.ok sc_is_whole (fun vs H Q E h => ?_) (fun cdv A outer s H vs Q E hr h => ⟨_, PSs.nox (pss_one (ps_ret (vand (pe_callB (kis K) (by rfl) T.n_isinstance (by decide +kernel) (pa_cons (vr 0) (pa_cons (pe_bltn (v := .ty "int") (by rfl) T.n_int (by decide +kernel) rfl) pa_nil))) (pe_one (vnot (pe_callB (kis K) (by rfl) T.n_isinstance (by decide +kernel) (pa_cons (vr 0) (pa_cons (pe_bltn (v := .ty "bool") (by rfl) T.n_bool (by decide +kernel) rfl) pa_nil)))))))), ?_⟩)
  · unfold sp_whole at h
    split at h
    · rfl
    · exact h.elim
  · unfold sp_whole at h
    split at h
    · rw [st_is_whole]
      refine ⟨_, _, .base (.int _), rfl, ?_⟩
      refine ⟨_, _, .base (.int _), rfl, h⟩
    · exact h.elim
theorem low_in {c : Nat} (h : low c = true) : c ∈ (Str.ofString "abcdefghijklmnopqrstuvwxyz").cps.toList := by
  have : ∀ c, c < 123 → low c = true → c ∈ (Str.ofString "abcdefghijklmnopqrstuvwxyz").cps.toList := by decide +kernel
  refine this c ?_ h
  unfold low at h
  rw [Bool.and_eq_true] at h
  have := Nat.le_of_ble_eq_true h.2
  omega
def sp_name : Sp := fun vs H Q _ => match vs with
  | [.str z] => NameOk z ∧ ∀ H', Same H H' → Q (.bl true) H'
  | _ => False
theorem ok_name (T : Top K mg) (k : Nat) : Ok_is_name P w base T (k + 1) sp_name := by
  refine T.F_is_name.ok sc_is_name (fun vs H Q E h => ?_) (fun cdv A outer s H vs Q E hr h => ⟨_, PSs.nox (pss_one (ps_ret (vand (pe_callB (kis K) (by rfl) T.n_isinstance (by decide +kernel) (pa_cons (vr 0) (pa_cons (pe_bltn (v := .ty "str") (by rfl) T.n_str (by decide +kernel) rfl) pa_nil))) (vand (vchain op_ltI op_ltI pe_int (pe_callB (klen K) (by rfl) T.n_len (by decide +kernel) (pa_cons (vr 0) pa_nil)) pe_int) (pe_one (pe_callB (kall K rfl) (by rfl) T.n_all (by decide +kernel) (pa_cons (pe_lc (own := [("letter", 1)])  rfl sc_is_name.nd (pi_str (vr 0)) (blkOk_by (own := [("letter", 1)]) (N := ["thing", "letter"]) (sc := defScope s_is_name) (by decide +kernel)) (fun _ _ _ _ _ => (pg_name (i := 1) sc_is_name.nd rfl (by first | exact .inl rfl | exact .inr rfl))) (fun _ _ _ _ _ => pts_nil) (fun _ _ _ _ _ => up (pe_cmpR (kin K) (vr 1) (pe_glob (v := .str ("abcdefghijklmnopqrstuvwxyz")) (by rfl) T.c_LETTERS ⟨_, rfl⟩) (by rfl)))) pa_nil))))))), ?_⟩)
  · unfold sp_name at h
    split at h
    · rfl
    · exact h.elim
  · unfold sp_name at h
    split at h
    · obtain ⟨⟨h1, h2, h3⟩, q⟩ := h
      rename_i z
      rw [st_is_name]
      refine ⟨_, _, .base (.str _), rfl, ?_⟩
      refine ⟨size_le (by omega), br2 (fun e => ?_) (fun e => ?_)⟩
      · refine br2 (fun e2 => ?_) (fun e2 => ?_)
        · refine ⟨z, rfl, fun D nD => ?_⟩
          refine lcw walk_str fr_same (fun _ v _ => v = .bl true) trivial nD (by have : z.cps.size ≤ 12 := h2; omega) gm_name (fun _ _ _ => trivial) (fun _ _ _ _ h _ => h) (fun i x H1 H1' hi _ s1 hy => ?_) (fun H1 ys _ s1 l1 e1 q1 => ?_)
          · obtain ⟨rfl, c, hc, rfl⟩ := hy
            refine ⟨rfl, trivial, Same.refl _, ?_⟩
            have hm : c ∈ z.cps.toList := by
              rw [← Array.getElem?_toList] at hc
              exact List.mem_of_getElem? hc
            show V.bl (subS ⟨#[c]⟩ _) = .bl true
            rw [subS_one, decide_eq_true (low_in (h3 c hm))]
          · obtain ⟨bs, rfl, hb⟩ := bls_of q1
            refine ⟨_, bs, rfl, sqL_of e1, ?_⟩
            rw [hb]
            exact q _ s1
        · have e2 := of_decide_eq_false e2
          omega
      · have e := of_decide_eq_false e
        omega
    · exact h.elim
/-! ### write_text, write_attribute -/
def txtE (z : Str) : Str := Txt.replace (Txt.replace z "&" "&amp;") "<" "&lt;"
def attE (z : Str) : Str := Txt.replace (txtE z) "\"" "&quot;"
theorem txt_len {z : Str} (h : z.length ≤ 2000) : (txtE z).length ≤ 60029 := rep_le (m := 12005) (k := 4) (rep_le (m := 2000) (k := 5) h (by decide)) (by decide)
def sp_text : Sp := fun vs H Q _ => match vs with
  | [.str z] => z.length ≤ 2000 ∧ Q (.str (txtE z)) H
  | _ => False
theorem ok_text (T : Top K mg) (k : Nat) : Ok_write_text P w base T (k + 1) sp_text := by
  refine fnok_T T.F_write_text sc_write_text (by decide +kernel) (by decide) (fun vs H Q E h => ?_) (fun cdv A outer s H vs Q E hr h => ⟨_, (CwR.psst_one (CwR.pst_ret (CwR.pet_replT (CwR.pet_replC (vr 0))))), ?_⟩)
  · unfold sp_text at h
    split at h
    · rfl
    · exact h.elim
  · unfold sp_text at h
    split at h
    · obtain ⟨h1, q⟩ := h
      rw [st_write_text]
      refine ⟨_, rfl, ?_, _, rfl, ?_, q⟩
      · show _ + (_ + 1) * 5 ≤ _
        omega
      · have := rep_le (a := "&") (b := "&amp;") (k := 5) h1 (by decide)
        show _ + (_ + 1) * 4 ≤ _
        omega
    · exact h.elim
theorem ok_attribute (T : Top K mg) (k : Nat) : Ok_write_attribute P w base T (k + 2) (fun vs H Q _ => match vs with | [.str z] => z.length ≤ 2000 ∧ Q (.str (attE z)) H | _ => False) := by
  have G_write_text : Ok_write_text P w base T 1 sp_text := ok_text T 0
  refine fnok_T T.F_write_attribute sc_write_attribute (by decide +kernel) (by decide) (fun vs H Q E h => ?_) (fun cdv A outer s H vs Q E hr h => ⟨_, (CwR.psst_one (CwR.pst_ret (CwR.pet_replC (pe_call G_write_text (hr.mono (by omega)) (by rfl) T.g_write_text T.F_write_text.kp (b_write_text T) .nil pass0 (pa_cons (vr 0) pa_nil))))), ?_⟩)
  · split at h
    · rfl
    · exact h.elim
  · split at h
    · obtain ⟨h1, q⟩ := h
      rw [st_write_attribute]
      refine ⟨h1, _, rfl, ?_, q⟩
      have := txt_len h1
      show _ + (_ + 1) * 6 ≤ _
      omega
    · exact h.elim
end
end Sk
namespace Sk
open PySem PySem.Spec PyProof.Rows L2
section
variable {P : Program} {w : World} {K : PySem.W.Frag} {mg : Str → Option Value} {base : Heap}
/-! ### has_level, is_value -/
theorem valV_at : ∀ {kvs : List (Key × V)} {i : Nat} {k : Key} {v : V}, (kvs.map (·.1)).Nodup → kvs[i]? = some (k, v) → valV kvs k = some v
  | [], _, _, _, _, h => by simp at h
  | p :: r, 0, k, v, _, h => by
    have e : p = (k, v) := by simpa using h
    subst e
    exact valV_pos rfl
  | p :: r, i + 1, k, v, nd, h => by
    have h : r[i]? = some (k, v) := by simpa using h
    have nd' := List.nodup_cons.mp (show (p.1 :: r.map (·.1)).Nodup from nd)
    rw [valV_neg (fun e => nd'.1 (by rw [e]; exact List.mem_map_of_mem (f := (·.1)) (List.mem_of_getElem? h)))]
    exact valV_at nd'.2 h
def sp_level (n : Nat) : Sp := fun vs H Q _ => match vs with
  | [v, .int m] => m = (n : Int) ∧ GoodV H n v ∧ ∀ H', Same H H' → Q (.bl true) H'
  | _ => False
theorem step_level (T : Top K mg) (n k : Nat) (hk : 1 ≤ k) (spI : Sp) (G_has_level : Ok_has_level P w base T k spI) (hI : ∀ m, n = m + 1 → spI = sp_level m) : Ok_has_level P w base T (k + 1) (sp_level n) := by
  have G_is_name : Ok_is_name P w base T 1 sp_name := ok_name T 0
  refine T.F_has_level.ok sc_has_level (fun vs H Q E h => ?_) (fun cdv A outer s H vs Q E hr h => ⟨_, PSs.nox (pss_cons (sif (PW.pt (wor (tcmp op_isNo (vr 0) pe_non (nomark _)) (pw_or1 (tst (pe_callB (kis K) (by rfl) T.n_isinstance (by decide +kernel) (pa_cons (vr 0) (pa_cons (pe_tup (pa_cons (pe_bltn (v := .ty "str") (by rfl) T.n_str (by decide +kernel) rfl) (pa_cons (pe_bltn (v := .ty "int") (by rfl) T.n_int (by decide +kernel) rfl) pa_nil))) pa_nil))))))) (pss_one (ps_ret pe_bl)) pss_nil)
      (pss_cons (sif (tst (pe_callB (kis K) (by rfl) T.n_isinstance (by decide +kernel) (pa_cons (vr 0) (pa_cons (pe_bltn (v := .ty "tuple") (by rfl) T.n_tuple (by decide +kernel) rfl) pa_nil)))) (pss_one (ps_ret (vand (pe_cmpR op_gtI (vr 1) pe_int (nomark _)) (vand (pe_cmpR op_leI (pe_callB (klen K) (by rfl) T.n_len (by decide +kernel) (pa_cons (vr 0) pa_nil)) (pe_glob (v := .int (60)) (by rfl) T.c_MAX_ELEMENTS ⟨_, rfl⟩) (nomark _)) (pe_one (pe_callB (kall K rfl) (by rfl) T.n_all (by decide +kernel) (pa_cons (pe_lc (own := [("part", 3)])  rfl sc_has_level.nd (itup K (vr 0)) (blkOk_by (own := [("part", 3)]) (N := ["thing", "most", "name", "part"]) (sc := defScope s_has_level) (by decide +kernel)) (fun _ _ _ _ _ => (pg_name (i := 3) sc_has_level.nd rfl (by first | exact .inl rfl | exact .inr rfl))) (fun _ _ _ _ _ => pts_nil) (fun _ _ _ _ _ => up (pe_call G_has_level (hr.mono (by omega)) (by rfl) T.g_has_level T.F_has_level.kp (b_has_level T) .nil pass0 (pa_cons (vr 3) (pa_cons (pe_op op_minus (vr 1) pe_int) pa_nil))))) pa_nil))))))) pss_nil)
      (pss_cons (sif (PW.pt (wor (pt_not (tst (pe_callB (kis K) (by rfl) T.n_isinstance (by decide +kernel) (pa_cons (vr 0) (pa_cons (pe_bltn (v := .ty "dict") (by rfl) T.n_dict (by decide +kernel) rfl) pa_nil))))) (pw_or1 (tcmp (ksame K hr.units) (vr 1) pe_int (nomark _))))) (pss_one (ps_ret pe_bl)) pss_nil)
      (pss_one (ps_ret (pe_callB (kall K rfl) (by rfl) T.n_all (by decide +kernel) (pa_cons (pe_lock (pe_lc (own := [("name", 2)])  rfl sc_has_level.nd (pi_keys (vr 0)) (blkOk_by (own := [("name", 2)]) (N := ["thing", "most", "name", "part"]) (sc := defScope s_has_level) (by decide +kernel)) (fun _ _ _ _ _ => (pg_name (i := 2) sc_has_level.nd rfl (by first | exact .inl rfl | exact .inr rfl))) (fun _ _ _ _ _ => pts_nil) (fun _ _ _ _ _ => up (vand (pe_call G_is_name (hr.mono (by omega)) (by rfl) T.g_is_name T.F_is_name.kp (b_is_name T) .nil pass0 (pa_cons (vr 2) pa_nil)) (pe_one (pe_call G_has_level (hr.mono (by omega)) (by rfl) T.g_has_level T.F_has_level.kp (b_has_level T) .nil pass0 (pa_cons (pe_dget (hu_of hr) (vr 0) (vr 2) (fun _ _ => rfl)) (pa_cons (pe_op op_minus (vr 1) pe_int) pa_nil)))))))) pa_nil))))))), ?_⟩)
  · unfold sp_level at h
    split at h
    · rfl
    · exact h.elim
  · unfold sp_level at h
    split at h
    · obtain ⟨rfl, g, q⟩ := h
      rename_i v
      rw [st_has_level]
      have flat : FlatOk v → v = .non ∨ (∃ b, v = .bl b) ∨ (∃ i, v = .int i) ∨ ∃ z, v = .str z := fun f => by
        cases v with
        | non => exact .inl rfl
        | bl b => exact .inr (.inl ⟨b, rfl⟩)
        | int i => exact .inr (.inr (.inl ⟨i, rfl⟩))
        | str z => exact .inr (.inr (.inr ⟨z, rfl⟩))
        | _ => exact f.elim
      have two : ∀ _ : Addr, Paired ClsV [V.ty "str", .ty "int"] [Value.type "str", .type "int"] := fun _ => .cons (.ty _) (.cons (.ty _) .nil)
      have first : FlatOk v ∨ ∃ m, n = m + 1 ∧ ((∃ a vs, v = .ref a ∧ H a = some (.tup vs) ∧ vs.length ≤ 3 ∧ ∀ x ∈ vs, GoodV H m x) ∨ (∃ a kvs, v = .ref a ∧ H a = some (.dK kvs) ∧ DictOk kvs ∧ ∀ p ∈ kvs, GoodV (hide a H) m p.2)) := by
        cases n with
        | zero => exact .inl g
        | succ m =>
          rcases id g with g | g | ⟨a, kvs, e, h1, h2, h3⟩
          · exact .inl g
          · exact .inr ⟨m, rfl, .inl g⟩
          · subst e
            exact .inr ⟨m, rfl, .inr ⟨a, kvs, rfl, h1, h2, good_part h1 m g⟩⟩
      rcases first with f | ⟨m, rfl, ⟨a, vs, rfl, h1, h2, h3⟩ | ⟨a, kvs, rfl, h1, h2, h3⟩⟩
      · rcases flat f with rfl | ⟨b, rfl⟩ | ⟨i, rfl⟩ | ⟨z, rfl⟩
        · exact q _ (Same.refl H)
        · refine ⟨Nat.le_of_ble_eq_true rfl, fun p np => .inr ⟨_, p, _, _, _, _, rfl, upd_same, two p, .base (.bl _), rfl, ?_⟩⟩
          exact q _ (same_new np)
        · refine ⟨Nat.le_of_ble_eq_true rfl, fun p np => .inr ⟨_, p, _, _, _, _, rfl, upd_same, two p, .base (.int _), rfl, ?_⟩⟩
          exact q _ (same_new np)
        · refine ⟨Nat.le_of_ble_eq_true rfl, fun p np => .inr ⟨_, p, _, _, _, _, rfl, upd_same, two p, .base (.str _), rfl, ?_⟩⟩
          exact q _ (same_new np)
      · have hI := hI m rfl
        subst hI
        refine ⟨Nat.le_of_ble_eq_true rfl, fun p np => .inr ⟨_, p, _, _, _, _, rfl, upd_same, two p, .base (.tup (same_new np _ _ h1)), rfl, ?_⟩⟩
        have s0 : Same H (upd H p (.tup [.ty "str", .ty "int"])) := same_new np
        revert s0
        generalize upd H p (.tup [.ty "str", .ty "int"]) = H0
        intro s0
        have h0 := s0 _ _ h1
        refine ⟨_, _, .base (.tup h0), rfl, br2 (fun e => ?_) (fun e => ?_)⟩
        · refine ⟨_, .inr (sqT_of h0), br2 (fun e2 => ?_) (fun e2 => ?_)⟩
          · refine ⟨a, rfl, ⟨_, sqT_of h0⟩, fun D nD => ?_⟩
            refine lct (xs := vs) fr_same (fun _ v _ => v = .bl true) trivial nD (by omega) (fun H1 _ s1 => sqT_of (s1 _ _ h0)) (fun _ _ _ _ h _ => h) (fun _ => rfl) (fun i x H1 hx _ s1 => ?_) (fun H1 ys _ s1 l1 e1 q1 => ?_)
            · refine ⟨by omega, GoodV.mono (stay_of (s0.trans s1)) _ _ (h3 x (List.mem_of_getElem? hx)), fun H2 s2 => ⟨trivial, s2, rfl⟩⟩
            · obtain ⟨bs, rfl, hb⟩ := bls_of q1
              refine ⟨_, bs, rfl, sqL_of e1, ?_⟩
              rw [hb]
              exact q _ (s0.trans s1)
          · have e2 := of_decide_eq_false e2
            omega
        · have e := of_decide_eq_false e
          omega
      · have hI := hI m rfl
        subst hI
        refine ⟨Nat.le_of_ble_eq_true rfl, fun p np => .inr ⟨_, p, _, _, _, _, rfl, upd_same, two p, .base (.dK (same_new np _ _ h1)), rfl, ?_⟩⟩
        have s0 : Same H (upd H p (.tup [.ty "str", .ty "int"])) := same_new np
        revert s0
        generalize upd H p (.tup [.ty "str", .ty "int"]) = H0
        intro s0
        have h0 := s0 _ _ h1
        refine ⟨_, _, .base (.dK h0), rfl, ?_⟩
        refine ⟨_, _, .base (.dK h0), rfl, ?_⟩
        · refine ⟨a, _, h0, trivial, fun od => ?_⟩
          refine ⟨a, od, rfl, .inl ⟨kvs, upd_same, fun D nD => ?_⟩⟩
          have nDa := (upd_none nD).1
          have lk := h2.1
          have gd : ∀ p ∈ kvs, GoodV (upd H0 a (.frz od (.dK kvs))) m p.2 := fun p hp => by
            refine GoodV.mono (fun b o l e => ?_) _ _ (h3 p hp)
            obtain ⟨n1, e1⟩ := hide_some e
            rw [upd_ne n1]
            exact s0 _ _ e1
          have hf : upd H0 a (.frz od (.dK kvs)) a = some (.frz od (.dK kvs)) := upd_same
          have hback : upd (upd H0 a (.frz od (.dK kvs))) a (.dK kvs) = H0 := by
            funext b
            by_cases z : b = a
            · subst z
              rw [upd_same]
              exact h0.symm
            · rw [upd_ne z, upd_ne z]
          revert gd hf hback nD
          generalize upd H0 a (.frz od (.dK kvs)) = HF
          intro nD gd hf hback
          refine lcw walk_keys fr_same (fun _ v _ => v = .bl true) trivial nD (by omega) gm_name (fun H1 _ s1 => s1 _ _ hf) (fun _ _ _ _ h _ => h) (fun i x H1 H1' hi _ s1 hy => ?_) (fun H1 ys _ s1 l1 e1 q1 => ?_)
          · obtain ⟨rfl, k0, v0, hx, rfl⟩ := hy
            obtain ⟨w0, ew, ok⟩ := h2.2.2 _ (List.mem_of_getElem? hx)
            have ew : k0 = .inr w0 := ew
            subst ew
            have hv : valV kvs (.inr w0) = some v0 := valV_at h2.2.1 hx
            refine ⟨rfl, ok, fun H2 s2 => ?_⟩
            have f2 := s2 _ _ (s1 _ _ hf)
            refine ⟨a, v0, rfl, ?_, by omega, GoodV.mono (stay_of (s1.trans s2)) _ _ (gd _ (List.mem_of_getElem? hx)), fun H3 s3 => ⟨trivial, s2.trans s3, rfl⟩⟩
            exact .inl ⟨kvs, .inr w0, .inr ⟨od, f2⟩, rfl, hv.symm⟩
          · obtain ⟨bs, rfl, hb⟩ := bls_of q1
            have f1 := s1 _ _ hf
            refine ⟨f1, _, bs, rfl, ?_, ?_⟩
            · exact sqL_of ((upd_ne nDa).trans e1)
            · rw [hb]
              refine q _ (s0.trans ?_)
              intro b o hb'
              by_cases z : b = a
              · subst z
                rw [upd_same, ← h0]
                exact hb'
              · rw [upd_ne z]
                refine s1 b o ?_
                rw [← hback, upd_ne z] at hb'
                exact hb'
    · exact h.elim
theorem no_level (T : Top K mg) : Ok_has_level P w base T 1 (fun _ _ _ _ => False) := ⟨fun _ _ _ _ h => h.elim, fun _ _ _ _ _ _ _ _ _ _ _ _ _ h => h.elim⟩
theorem ok_level (T : Top K mg) : ∀ n, Ok_has_level P w base T (n + 2) (sp_level n)
  | 0 => step_level T 0 1 (by decide) _ (no_level T) fun m e => by cases e
  | n + 1 => step_level T (n + 1) (n + 2) (by omega) _ (ok_level T n) fun m e => by cases e; rfl
end
end Sk
namespace Sk
open PySem PySem.Spec PyProof.Rows L2
theorem ofS_app (a b : String) : (Str.ofString (a ++ b)).cps.toList = (Str.ofString a).cps.toList ++ (Str.ofString b).cps.toList := by
  rw [Str.ofString_eq_toList, Str.ofString_eq_toList, Str.ofString_eq_toList]
  simp
theorem num_ok (n : Nat) : ∀ c ∈ (Str.ofString (toString ((n : Nat) : Int))).cps.toList, okc c = true := fun c hc => by
  have e : (Str.ofString (toString ((n : Nat) : Int))).cps.toList = TL.numL n := TL.tl_num n
  rw [e] at hc
  have h1 : ¬ (c < 48 ∨ 57 < c) := fun z => TL.numL_free z hc
  have all : ∀ c, c < 58 → 48 ≤ c → okc c = true := by decide +kernel
  exact all c (by omega) (by omega)
theorem int_ok' (i : Int) : ∀ c ∈ (Str.ofString (toString i)).cps.toList, okc c = true := fun c hc => by
  cases i with
  | ofNat m => exact num_ok m c hc
  | negSucc m =>
    have e : toString (Int.negSucc m) = "-" ++ Nat.repr (m + 1) := rfl
    rw [e, ofS_app] at hc
    rcases List.mem_append.mp hc with h | h
    · have : c = 45 := by
        have e : (Str.ofString "-").cps.toList = [45] := by decide +kernel
        rw [e] at h
        simpa using h
      subst this
      decide
    · exact num_ok (m + 1) c h
theorem int_text {i : Int} (h : i.natAbs ≤ 10 ^ 30) : TextOk 2000 (Str.ofString (toString i)) := ⟨Nat.le_trans (int_text_len_1921 (int_log h)) (by decide), int_ok' i⟩
/-! ### signs as codes -/
def codedS : Str := (Str.ofString ("\n !\"#$&'()*+,/:;<=>?@" ++ "[\\]^`{|}~"))
def hx (i : Int) : Nat := (atI (Str.ofString "0123456789abcdef").cps.toList i).getD 0
theorem hx_at {i : Int} (h0 : 0 ≤ i) (h1 : i < 16) : atI (Str.ofString "0123456789abcdef").cps.toList i = some (hx i) := by
  obtain ⟨v, e, _⟩ := atI_in (xs := (Str.ofString "0123456789abcdef").cps.toList) (i := i) h0 (by
    have : (Str.ofString "0123456789abcdef").cps.toList.length = 16 := by decide +kernel
    omega)
  unfold hx
  rw [e]
  rfl
def sgnC (c : Nat) : List Nat := if c ∈ codedS.cps.toList then [126, hx ((c : Int) / 16), hx ((c : Int) % 16)] else [c]
theorem sgn_len (c : Nat) : (sgnC c).length ≤ 3 := by
  unfold sgnC
  split
  · exact Nat.le_refl 3
  · exact Nat.le_succ_of_le (Nat.le_succ 1)
def codE (z : Str) : Str := ⟨(z.cps.toList.flatMap sgnC).toArray⟩
theorem cod_list (z : Str) : (codE z).cps.toList = z.cps.toList.flatMap sgnC := rfl
theorem flat_len : ∀ l : List Nat, (l.flatMap sgnC).length ≤ 3 * l.length
  | [] => Nat.le_refl _
  | c :: r => by
    rw [List.flatMap_cons, List.length_append, List.length_cons]
    have := flat_len r
    have := sgn_len c
    omega
theorem okc_lt {c : Nat} (h : okc c = true) : c < 127 := by
  unfold okc at h
  rw [Bool.or_eq_true] at h
  rcases h with h | h
  · have : c = 10 := by simpa using h
    omega
  · rw [Bool.and_eq_true, Bool.and_eq_true] at h
    have := Nat.le_of_ble_eq_true h.1.2
    omega
def plainS : Str := "abcdefghijklmnopqrstuvwxyzABCDEFGHIJKLMNOPQRSTUVWXYZ0123456789-_."
theorem plain_coded {c : Nat} (h : okc c = true) : decide (c ∈ plainS.cps.toList) = !decide (c ∈ codedS.cps.toList) := by
  have all : ∀ c, c < 127 → okc c = true → decide (c ∈ plainS.cps.toList) = !decide (c ∈ codedS.cps.toList) := by decide +kernel
  exact all c (okc_lt h) h
section
variable {P : Program} {w : World} {K : PySem.W.Frag} {mg : Str → Option Value} {base : Heap}
def sp_value : Sp := fun vs H Q _ => match vs with
  | [v] => GoodV H 6 v ∧ ∀ H', Same H H' → Q (.bl true) H'
  | _ => False
theorem ok_value (T : Top K mg) (k : Nat) : Ok_is_value P w base T (k + 9) sp_value := by
  have G_has_level : Ok_has_level P w base T 8 (sp_level 6) := ok_level T 6
  refine T.F_is_value.ok sc_is_value (fun vs H Q E h => ?_) (fun cdv A outer s H vs Q E hr h => ⟨_, PSs.nox (pss_one (ps_ret (pe_call G_has_level (hr.mono (by omega)) (by rfl) T.g_has_level T.F_has_level.kp (b_has_level T) .nil pass0 (pa_cons (vr 0) (pa_cons (pe_glob (v := .int (6)) (by rfl) T.c_MAX_LEVELS ⟨_, rfl⟩) pa_nil))))), ?_⟩)
  · unfold sp_value at h
    split at h
    · rfl
    · exact h.elim
  · unfold sp_value at h
    split at h
    · rw [st_is_value]
      exact ⟨rfl, h.1, h.2⟩
    · exact h.elim
def sp_sign : Sp := fun vs H Q _ => match vs with
  | [.str z] => ∃ c, z = ⟨#[c]⟩ ∧ okc c = true ∧ ∀ H', Same H H' → Q (.str ⟨(sgnC c).toArray⟩) H'
  | _ => False
theorem ok_sign (T : Top K mg) (k : Nat) : Ok_write_sign P w base T (k + 1) sp_sign := by
  refine T.F_write_sign.ok sc_write_sign (fun vs H Q E h => ?_) (fun cdv A outer s H vs Q E hr h => ⟨_, PSs.nox (pss_cons (sif (tcmp (knotin K) (vr 0) (pe_glob (v := .str ((Str.ofString ("\n !\"#$&'()*+,/:;<=>?@" ++ "[\\]^`{|}~")))) (by rfl) T.c_CODED ⟨_, rfl⟩) (by rfl)) (pss_one (ps_ret (vr 0))) pss_nil)
      (pss_cons (ps_asg (pe_callB call_dm (by rfl) T.n_divmod (by decide +kernel) (pa_cons (pe_callB call_ordU (by rfl) T.n_ord (by decide +kernel) (pa_cons (vr 0) pa_nil)) (pa_cons pe_int pa_nil))) (gtup K 2 rfl (gs_cons (pg_name (i := 1) sc_write_sign.nd rfl (by first | exact .inl rfl | exact .inr rfl)) (gs_cons (pg_name (i := 2) sc_write_sign.nd rfl (by first | exact .inl rfl | exact .inr rfl)) gs_nil))))
      (pss_one (ps_ret (pe_joined (.cons pe_str (.cons (vfmt (pe_ix (kget K) (pe_glob (v := .str ("0123456789abcdef")) (by rfl) T.c_HEX ⟨_, rfl⟩) (vr 1) (fun _ _ => rfl))) (.cons (vfmt (pe_ix (kget K) (pe_glob (v := .str ("0123456789abcdef")) (by rfl) T.c_HEX ⟨_, rfl⟩) (vr 2) (fun _ _ => rfl))) .nil)))))))), ?_⟩)
  · unfold sp_sign at h
    split at h
    · rfl
    · exact h.elim
  · unfold sp_sign at h
    split at h
    · obtain ⟨c, rfl, oc, q⟩ := h
      have lt := okc_lt oc
      rw [st_write_sign]
      refine br2 (fun e => ?_) (fun e => ?_)
      · have e : (!subS ⟨#[c]⟩ codedS) = true := e
        rw [subS_one] at e
        have e : ¬ c ∈ codedS.cps.toList := by simpa using e
        have r : sgnC c = [c] := by unfold sgnC; rw [if_neg e]
        have q := q H (Same.refl H)
        rw [r] at q
        exact q
      · have e : (!subS ⟨#[c]⟩ codedS) = false := e
        rw [subS_one] at e
        have e : c ∈ codedS.cps.toList := by simpa using e
        refine ⟨rfl, ⟨by decide, by decide⟩, fun p np => ⟨p, _, rfl, sqT_of upd_same, rfl, ?_⟩⟩
        have h1 := hx_at (i := (c : Int) / 16) (by omega) (by omega)
        have h2 := hx_at (i := (c : Int) % 16) (by omega) (by omega)
        refine ⟨_, rfl, by decide, by decide, _, h1, by show 1 ≤ sizeLine; decide, _, rfl, by rw [app_len, app_len]; exact Nat.le_of_ble_eq_true rfl, by decide, _, h2, by show 1 ≤ sizeLine; decide, _, rfl, by rw [app_len, app_len, app_len]; exact Nat.le_of_ble_eq_true rfl, ?_⟩
        have r : sgnC c = [126, hx ((c : Int) / 16), hx ((c : Int) % 16)] := by unfold sgnC; rw [if_pos e]
        rw [r] at q
        exact q _ (same_new np)
    · exact h.elim
theorem join_map {zs : List Str} {l : List Nat} (hl : zs.length = l.length) (h : ∀ (i : Nat) c z, l[i]? = some c → zs[i]? = some z → z = ⟨(sgnC c).toArray⟩) : (zs.map fun z => z.cps.toList).flatten = l.flatMap sgnC := by
  induction l generalizing zs with
  | nil =>
    cases zs with
    | nil => rfl
    | cons z r => cases hl
  | cons c l ih =>
    cases zs with
    | nil => cases hl
    | cons z r =>
      have e := h 0 c z rfl rfl
      rw [List.map_cons, List.flatten_cons, List.flatMap_cons, ih (by simpa using hl) fun i c z h1 h2 => h (i + 1) c z (by simpa using h1) (by simpa using h2), e]
def sp_code : Sp := fun vs H Q _ => match vs with
  | [.str z] => TextOk 2000 z ∧ ∀ H', Same H H' → Q (.str (codE z)) H'
  | _ => False
theorem ok_code (T : Top K mg) (k : Nat) : Ok_write_code P w base T (k + 2) sp_code := by
  have G_write_sign : Ok_write_sign P w base T 1 sp_sign := ok_sign T 0
  refine T.F_write_code.ok sc_write_code (fun vs H Q E h => ?_) (fun cdv A outer s H vs Q E hr h => ⟨_, PSs.nox (pss_one (ps_ret (kjoin K pe_str (pe_lc (own := [("sign", 1)])  rfl sc_write_code.nd (pi_str (vr 0)) (blkOk_by (own := [("sign", 1)]) (N := ["text", "sign"]) (sc := defScope s_write_code) (by decide +kernel)) (fun _ _ _ _ _ => (pg_name (i := 1) sc_write_code.nd rfl (by first | exact .inl rfl | exact .inr rfl))) (fun _ _ _ _ _ => pts_nil) (fun _ _ _ _ _ => up (pe_call G_write_sign (hr.mono (by omega)) (by rfl) T.g_write_sign T.F_write_sign.kp (b_write_sign T) .nil pass0 (pa_cons (vr 1) pa_nil))))))), ?_⟩)
  · unfold sp_code at h
    split at h
    · rfl
    · exact h.elim
  · unfold sp_code at h
    split at h
    · obtain ⟨⟨h1, h2⟩, q⟩ := h
      rename_i z
      have hz : z.cps.size ≤ 2000 := h1
      rw [st_write_code]
      refine ⟨z, rfl, fun D nD => ?_⟩
      refine lcw walk_str fr_same (fun i v _ => ∃ c, z.cps.toList[i]? = some c ∧ v = .str ⟨(sgnC c).toArray⟩) trivial nD (by omega) gm_name (fun _ _ _ => trivial) (fun _ _ _ _ h _ => h) (fun i x H1 H1' hi _ s1 hy => ?_) (fun H1 ys _ s1 l1 e1 q1 => ?_)
      · obtain ⟨rfl, c, hc, rfl⟩ := hy
        have hc : z.cps.toList[i]? = some c := by rw [Array.getElem?_toList]; exact hc
        refine ⟨rfl, c, rfl, h2 c (List.mem_of_getElem? hc), fun H2 s2 => ⟨trivial, s2, c, hc, rfl⟩⟩
      · obtain ⟨zs, rfl, tz⟩ := strs_ofP (P := fun z' => z'.length ≤ 3) (ys := ys) (fun i y hy => by
          obtain ⟨c, _, e⟩ := q1 i y hy
          exact ⟨_, e, by rw [len_list]; exact sgn_len c⟩)
        rw [List.length_map] at l1
        have hs := sum_le (l := zs) (f := fun z => z.length) (m := 3) tz
        refine ⟨zs, .inl (sqL_of e1), ?_, ?_⟩
        · show _ + zs.length * 0 ≤ 16777216
          omega
        · have e : Txt.join "" zs = codE z := by
            refine str_ext ?_
            rw [join_empty rfl, cod_list]
            refine join_map (by rw [l1, Array.length_toList]) fun i c z' hc hz' => ?_
            obtain ⟨c', hc', e⟩ := q1 i (.str z') (by rw [List.getElem?_map, hz']; rfl)
            rw [hc] at hc'
            cases hc'
            cases e
            rfl
          rw [← e] at q
          exact q _ s1
    · exact h.elim
/-! ### _law_code -/
theorem ok_lawcode (T : Top K mg) (k : Nat) : Ok__law_code P w base T (k + 1) sp_code := by
  refine T.F__law_code.ok sc__law_code (fun vs H Q E h => ?_) (fun cdv A outer s H vs Q E hr h => ⟨_, PSs.nox (pss_cons (ps_set (i := 1) sc__law_code.nd rfl (by first | exact .inl rfl | exact .inr rfl) pe_str)
      (pss_cons (ps_for PassesOwn.never rfl (pi_str (vr 0)) (pg_name (i := 2) sc__law_code.nd rfl (by first | exact .inl rfl | exact .inr rfl)) (pss_cons (ps_set (i := 3) sc__law_code.nd rfl (by first | exact .inl rfl | exact .inr rfl) (pe_cmpR (kin K) (vr 2) pe_str (by rfl)))
      (pss_cons (ps_par (by rfl) sc__law_code.nd (i := 4) (j := 5) rfl rfl (by decide) rfl rfl (pa_cons (pe_op op_modI (pe_callB call_ordU (by rfl) T.n_ord (by decide +kernel) (pa_cons (vr 2) pa_nil)) pe_int) (pa_cons (pe_op op_divI (pe_callB call_ordU (by rfl) T.n_ord (by decide +kernel) (pa_cons (vr 2) pa_nil)) pe_int) pa_nil)) (by rfl))
      (pss_one (ps_set (i := 1) sc__law_code.nd rfl (by first | exact .inl rfl | exact .inr rfl) (pe_op (kplus K) (vr 1) (vif (tst (vr 3)) (vr 2) (pe_op (kplus K) (pe_op (kplus K) pe_str (pe_ix (kget K) pe_str (vr 5) (fun _ _ => rfl))) (pe_ix (kget K) pe_str (vr 4) (fun _ _ => rfl))))))))))
      (pss_one (ps_ret (vr 1))))), ?_⟩)
  · unfold sp_code at h
    split at h
    · rfl
    · exact h.elim
  · unfold sp_code at h
    split at h
    · obtain ⟨⟨h1, h2⟩, q⟩ := h
      rename_i z
      have hz : z.cps.toList.length ≤ 2000 := by rw [Array.length_toList]; exact h1
      rw [st__law_code]
      refine ⟨z, rfl, ?_⟩
      refine for_it walk_str (fun i σ H' => H' = H ∧ ∃ (f : Str) (y2 y3 y4 y5 : Option V), σ = [some (.str z), some (.str f), y2, y3, y4, y5] ∧ f.cps.toList = (z.cps.toList.take i).flatMap sgnC) ⟨rfl, _, _, _, _, _, rfl, rfl⟩ (fun _ _ _ _ _ => trivial) (fun i x σ H1 H1' hi hv hy => ?_) (fun σ H1 hv => ?_)
      · obtain ⟨rfl, f, y2, y3, y4, y5, rfl, ef⟩ := hv
        obtain ⟨rfl, c, hc, rfl⟩ := hy
        have hc : z.cps.toList[i]? = some c := by rw [Array.getElem?_toList]; exact hc
        have oc := h2 c (List.mem_of_getElem? hc)
        have lt := okc_lt oc
        have lf : f.length ≤ 6000 := by
          rw [len_list, ef]
          have := flat_len (z.cps.toList.take i)
          have := List.length_take_le' i z.cps.toList
          omega
        have il : i < z.cps.toList.length := (List.getElem?_eq_some_iff.mp hc).1
        have step : (z.cps.toList.take (i + 1)).flatMap sgnC = (z.cps.toList.take i).flatMap sgnC ++ sgnC c := by
          rw [List.take_succ, hc, List.flatMap_append]
          simp
        refine ⟨rfl, by decide, rfl, ⟨by decide, by decide⟩, _, _, rfl, ?_⟩
        simp only [List.set_cons_succ, List.set_cons_zero]
        have pc := plain_coded oc
        refine br2 (fun e => ?_) (fun e => ?_)
        · have e : subS ⟨#[c]⟩ plainS = true := e
          rw [subS_one, pc] at e
          have e : ¬ c ∈ codedS.cps.toList := by simpa using e
          have r : sgnC c = [c] := by unfold sgnC; rw [if_neg e]
          refine ⟨size_le (by show f.length + 1 ≤ _; omega), rfl, _, _, _, _, _, rfl, ?_⟩
          rw [step, app_list, ef, r]
        · have e : subS ⟨#[c]⟩ plainS = false := e
          rw [subS_one, pc] at e
          have e : c ∈ codedS.cps.toList := by simpa using e
          have r : sgnC c = [126, hx ((c : Int) / 16), hx ((c : Int) % 16)] := by unfold sgnC; rw [if_pos e]
          have a1 := hx_at (i := (c : Int) / 16) (by omega) (by omega)
          have a2 := hx_at (i := (c : Int) % 16) (by omega) (by omega)
          refine ⟨by decide, _, a1, by show 1 + 1 ≤ sizeLine; decide, by decide, _, a2, ?_, ?_⟩
          · rw [app_len]
            show 1 + 1 + 1 ≤ sizeLine
            decide
          · refine ⟨?_, rfl, _, _, _, _, _, rfl, ?_⟩
            · rw [app_len, app_len]
              exact size_le (by show f.length + (1 + 1 + 1) ≤ _; omega)
            · rw [step, app_list, ef, r]
              rfl
      · obtain ⟨rfl, f, y2, y3, y4, y5, rfl, ef⟩ := hv
        have e : f = codE z := by
          refine str_ext ?_
          rw [ef, cod_list, ← Array.length_toList, List.take_length]
        subst e
        exact q _ (Same.refl _)
    · exact h.elim
end
end Sk
namespace Sk
open PySem PySem.Spec PyProof.Rows L2
section
variable {P : Program} {w : World} {K : PySem.W.Frag} {mg : Str → Option Value} {base : Heap}
def sp_lit (n : Nat) : Sp := fun vs H Q _ => match vs with
  | [v] => GoodV H n v ∧ n ≤ 6 ∧ ∀ H', Same H H' → Q (.str (litH H n v)) H'
  | _ => False
theorem good_cases {H : Hp} {n : Nat} {v : V} (g : GoodV H n v) : FlatOk v ∨ ∃ m, n = m + 1 ∧ ((∃ a vs, v = .ref a ∧ H a = some (.tup vs) ∧ vs.length ≤ 3 ∧ ∀ x ∈ vs, GoodV H m x) ∨ (∃ a kvs, v = .ref a ∧ H a = some (.dK kvs) ∧ DictOk kvs ∧ ∀ p ∈ kvs, GoodV H m p.2)) := by
  cases n with
  | zero => exact .inl g
  | succ m =>
    rcases g with g | g | g
    · exact .inl g
    · exact .inr ⟨m, rfl, .inl g⟩
    · exact .inr ⟨m, rfl, .inr g⟩
theorem flat_cases {v : V} (f : FlatOk v) : v = .non ∨ (∃ b, v = .bl b) ∨ (∃ i, v = .int i ∧ i.natAbs ≤ 10 ^ 30) ∨ ∃ z, v = .str z ∧ TextOk 24 z := by
  cases v with
  | non => exact .inl rfl
  | bl b => exact .inr (.inl ⟨b, rfl⟩)
  | int i => exact .inr (.inr (.inl ⟨i, rfl, f⟩))
  | str z => exact .inr (.inr (.inr ⟨z, rfl, f⟩))
  | _ => exact f.elim
theorem names_ok {kvs : List (Key × V)} (dk : DictOk kvs) {w : Str} (h : w ∈ sortN (nms kvs)) : NameOk w := by
  obtain ⟨p, hp, e⟩ := val_in (mem_sort.mp h)
  obtain ⟨w', e', ok⟩ := dk.2.2 p hp
  rw [e] at e'
  cases e'
  exact ok
/-- the bound of a join of parts -/
theorem join_room {zs : List Str} {m : Nat} (hl : zs.length ≤ 3) (hm : m ≤ 3000000) (h : ∀ z ∈ zs, z.length ≤ m) : (zs.map (·.length)).sum + zs.length * 1 ≤ 16777216 ∧ (Txt.join "," zs).length ≤ 9000003 := by
  have a1 := sum_le (l := zs) (f := fun z => z.length) (m := m) h
  have a2 : zs.length * m ≤ 3 * m := Nat.mul_le_mul_right _ hl
  have a3 := join_le "," zs
  have e1 : ("," : Str).length = 1 := rfl
  rw [e1] at a3
  constructor <;> omega
abbrev OkT_wl (P : Program) (w : World) (base : Heap) (T : Top K mg) (k : Nat) (sp : Sp) : Prop := FnT P w K mg base k (He.ga K "write_literal") T.fd_write_literal ["value"] sp
theorem step_wl (T : Top K mg) (n k : Nat) (spI : Sp) (G_write_literal : OkT_wl P w base T k spI) (hI : ∀ m, n = m + 1 → spI = sp_lit m) : OkT_wl P w base T (k + 1) (sp_lit n) := by
  refine fnT_of T.F_write_literal sc_write_literal (fun vs H Q E h => ?_) (fun cdv A outer s H vs Q E hr h => ⟨_, (psst_cons (PST.of (sif (PW.pt (wor (tcmp op_isNo (vr 0) pe_non (nomark _)) (pw_or1 (tst (pe_callB (kis K) (by rfl) T.n_isinstance (by decide +kernel) (pa_cons (vr 0) (pa_cons (pe_bltn (v := .ty "bool") (by rfl) T.n_bool (by decide +kernel) rfl) pa_nil))))))) (pss_one (ps_ret (pe_nb (vr 0) (fun _ _ => rfl)))) pss_nil))
      (psst_cons (pstif (tst (pe_callB (kis K) (by rfl) T.n_isinstance (by decide +kernel) (pa_cons (vr 0) (pa_cons (pe_bltn (v := .ty "str") (by rfl) T.n_str (by decide +kernel) rfl) pa_nil)))) (psst_cons (pstset (i := 1) sc_write_literal.nd rfl (by first | exact .inl rfl | exact .inr rfl) (CwR.pet_replT (CwR.pet_replT (CwR.pet_replT (CwR.pet_replC (vr 0))))))
      (PSsT.of (pss_one (ps_ret (pe_joined (.cons pe_str (.cons (vfmt (vr 1)) (.cons pe_str .nil)))))))) CwR.psst_nil)
      (psst_cons (pstif (tst (pe_callB (kis K) (by rfl) T.n_isinstance (by decide +kernel) (pa_cons (vr 0) (pa_cons (pe_bltn (v := .ty "tuple") (by rfl) T.n_tuple (by decide +kernel) rfl) pa_nil)))) (CwR.psst_one (CwR.pst_ret (petjoined (.cons (CwR.PET.of pe_str) (.cons (petfmt (petjoin K pe_str (petlc (own := [("part", 4)]) rfl sc_write_literal.nd (itup K (vr 0)) (blkOk_by (own := [("part", 4)]) (N := ["value", "inner", "rows", "name", "part"]) (sc := defScope s_write_literal) (by decide +kernel)) (fun _ _ _ _ _ => (pg_name (i := 4) sc_write_literal.nd rfl (by first | exact .inl rfl | exact .inr rfl))) (fun _ _ _ _ _ => upT' (petcall G_write_literal (hr.mono (by omega)) (by rfl) T.g_write_literal T.F_write_literal.kp (b_write_literal T) (pa_cons (vr 4) pa_nil)))))) (.cons (CwR.PET.of pe_str) .nil)))))) CwR.psst_nil)
      (psst_cons (pstif (tst (pe_callB (kis K) (by rfl) T.n_isinstance (by decide +kernel) (pa_cons (vr 0) (pa_cons (pe_bltn (v := .ty "dict") (by rfl) T.n_dict (by decide +kernel) rfl) pa_nil)))) (psst_cons (pstsetLc (i := 2) (own := [("name", 3)]) rfl sc_write_literal.nd rfl rfl (sw_true rfl rfl rfl (by decide +kernel)) (ilist K (pe_callB (ksorted K) (by rfl) T.n_sorted (by decide +kernel) (pa_cons (pe_lock (pe_lc (own := [("name", 3)])  rfl sc_write_literal.nd (pi_keys (vr 0)) (blkOk_by (own := [("name", 3)]) (N := ["value", "inner", "rows", "name", "part"]) (sc := defScope s_write_literal) (by decide +kernel)) (fun _ _ _ _ _ => (pg_name (i := 3) sc_write_literal.nd rfl (by first | exact .inl rfl | exact .inr rfl))) (fun _ _ _ _ _ => pts_nil) (fun _ _ _ _ _ => up (vr 3)))) pa_nil))) (blkOk_by (own := [("name", 3)]) (N := ["value", "inner", "rows", "name", "part"]) (sc := defScope s_write_literal) (by decide +kernel)) (fun _ _ _ _ _ => (pg_name (i := 3) sc_write_literal.nd rfl (by first | exact .inl rfl | exact .inr rfl))) (fun _ _ _ _ _ => upT' (petjoined (.cons (CwR.PET.of pe_str) (.cons (petfmt (CwR.PET.of (vr 3))) (.cons (CwR.PET.of pe_str) (.cons (petfmt (petcall G_write_literal (hr.mono (by omega)) (by rfl) T.g_write_literal T.F_write_literal.kp (b_write_literal T) (pa_cons (pe_dget (hu_of hr) (vr 0) (vr 3) (fun _ _ => rfl)) pa_nil))) .nil)))))))
      (PSsT.of (pss_one (ps_ret (pe_op (kplus K) (pe_op (kplus K) pe_str (kjoin K pe_str (vr 2))) pe_str))))) CwR.psst_nil)
      (PSsT.of (pss_one (ps_ret (pe_callTy call_strU (by rfl) T.n_str (by decide +kernel) (pa_cons (vr 0) pa_nil))))))))), ?_⟩)
  · unfold sp_lit at h
    split at h
    · rfl
    · exact h.elim
  · unfold sp_lit at h
    split at h
    · obtain ⟨g, n6, q⟩ := h
      rename_i v
      rw [st_write_literal]
      have room : ∀ m, n = m + 1 → litS m ≤ 3000000 := fun m e => Nat.le_trans (litS6 (by omega)) (by decide)
      rcases good_cases g with f | ⟨m, rfl, ⟨a, vs, rfl, h1, h2, h3⟩ | ⟨a, kvs, rfl, h1, h2, h3⟩⟩
      · rw [lit_flat f] at q
        rcases flat_cases f with rfl | ⟨b, rfl⟩ | ⟨i, rfl, hi⟩ | ⟨z, rfl, hz⟩
        · exact fun p o np => ⟨upd_same, q _ (same_new np)⟩
        · refine ⟨_, _, .base (.bl _), rfl, fun p o np => ⟨upd_same, q _ (same_new np)⟩⟩
        · refine ⟨_, _, .base (.int _), rfl, _, _, .base (.int _), rfl, _, _, .base (.int _), rfl, _, _, .base (.int _), rfl, int_log hi, q _ (Same.refl H)⟩
        · have l0 := hz.1
          have l1 := rep_le (a := "\\") (b := "\\\\") (k := 2) l0 (by decide)
          have l2 := rep_le (a := "\"") (b := "\\\"") (k := 2) l1 (by decide)
          have l3 := rep_le (a := "\n") (b := "\\n") (k := 2) l2 (by decide)
          have l4 := rep4_len l0
          refine ⟨_, _, .base (.str _), rfl, _, _, .base (.str _), rfl, _, rfl, ?_, _, rfl, ?_, _, rfl, ?_, _, rfl, ?_, ?_⟩
          · show _ + (_ + 1) * 2 ≤ _
            omega
          · show _ + (_ + 1) * 2 ≤ _
            omega
          · show _ + (_ + 1) * 2 ≤ _
            omega
          · show _ + (_ + 1) * 2 ≤ _
            omega
          · refine ⟨_, rfl, by decide, size_le (by show (rep4 z).length ≤ _; omega), _, rfl, ?_, _, rfl, ?_, ?_⟩
            · rw [app_len, app_len]
              exact size_le (by show 0 + 1 + (rep4 z).length ≤ _; omega)
            · rw [app_len, app_len, app_len]
              exact size_le (by show 0 + 1 + (rep4 z).length + 1 ≤ _; omega)
            · rw [emp_app]
              exact q _ (Same.refl H)
      · have hI := hI m rfl
        subst hI
        have rm := room m rfl
        rw [lit_tup h1] at q
        refine ⟨_, _, .base (.tup h1), rfl, _, _, .base (.tup h1), rfl, _, _, .base (.tup h1), rfl, _, rfl, by decide, a, rfl, ⟨_, sqT_of h1⟩, fun D nD => ?_⟩
        refine lct (xs := vs) fr_same (fun i v _ => ∃ x, vs[i]? = some x ∧ v = .str (litH H m x)) trivial nD (by omega) (fun H1 _ s1 => sqT_of (s1 _ _ h1)) (fun _ _ _ _ h _ => h) (fun _ => rfl) (fun i x H1 hx _ s1 => ?_) (fun H1 ys _ s1 l1 e1 q1 => ?_)
        · have gx := h3 x (List.mem_of_getElem? hx)
          refine ⟨GoodV.mono (stay_of s1) _ _ gx, by omega, fun H2 s2 => ⟨trivial, s2, x, hx, ?_⟩⟩
          rw [lit_stay (stay_of s1) _ _ gx]
        · have e := map_of (f := fun x => V.str (litH H m x)) l1 q1
          have e : ys = (vs.map (litH H m)).map V.str := by rw [e, List.map_map]; rfl
          subst e
          obtain ⟨b1, b2⟩ := join_room (zs := vs.map (litH H m)) (m := litS m) (by rw [List.length_map]; exact h2) rm (fun z hz => by
            obtain ⟨x, hx, rfl⟩ := List.mem_map.mp hz
            exact lit_len m x (h3 x hx))
          refine ⟨_, .inl (sqL_of e1), b1, Nat.le_trans b2 (by decide), _, rfl, ?_, _, rfl, ?_, ?_⟩
          · rw [app_len, app_len]
            exact Nat.le_trans (by show 0 + 1 + _ ≤ 9000004; omega) (show 9000004 ≤ sizeLine by decide)
          · rw [app_len, app_len, app_len]
            exact Nat.le_trans (by show 0 + 1 + _ + 1 ≤ 9000005; omega) (show 9000005 ≤ sizeLine by decide)
          · rw [emp_app]
            exact q _ s1
      · have hI := hI m rfl
        subst hI
        have rm := room m rfl
        rw [lit_dict h1] at q
        have nl := nms_len h2.2.2
        have sl : (sortN (nms kvs)).length = kvs.length := (sort_perm _).length_eq.trans nl
        have l3 := h2.1
        refine ⟨_, _, .base (.dK h1), rfl, _, _, .base (.dK h1), rfl, _, _, .base (.dK h1), rfl, _, _, .base (.dK h1), rfl, ?_⟩
        refine sort_keys h1 h2 (fun _ _ h => h) (fun _ _ _ h => h) (fun _ => rfl) (fun p H1 s1 e1 => ?_)
        refine ⟨p, rfl, ⟨_, sqL_of e1⟩, fun D nD => ?_⟩
        refine lcl (xs := (sortN (nms kvs)).map V.str) fr_same (fun i v _ => ∃ w0, (sortN (nms kvs))[i]? = some w0 ∧ v = .str (rowL w0 (litH H m ((valV kvs (.inr w0)).getD .non)))) trivial nD (by rw [List.length_map]; omega) (fun H2 _ s2 => sqL_of (s2 _ _ e1)) (fun _ _ _ _ h _ => h) (fun _ => rfl) (fun i x H2 hx _ s2 => ?_) (fun H2 ys _ s2 l2 e2 q2 => ?_)
        · rw [List.getElem?_map] at hx
          obtain ⟨w0, hw0, rfl⟩ := Option.map_eq_some_iff.mp hx
          have hm := List.mem_of_getElem? hw0
          have nok := names_ok h2 hm
          obtain ⟨v0, ev, p0, hp0, e0⟩ := val_some (mem_sort.mp hm)
          have g0 : GoodV H m v0 := by rw [← e0]; exact h3 p0 hp0
          have st : Stay H H2 := stay_of (s1.trans s2)
          have ll := lit_len m v0 g0
          have w12 := nok.2.1
          refine ⟨_, rfl, by decide, size_le (by omega), _, rfl, ?_, _, rfl, ?_, a, v0, rfl, ?_, GoodV.mono st _ _ g0, by omega, fun H3 s3 => ?_⟩
          · rw [app_len, app_len]
            exact size_le (by show 0 + 1 + w0.length ≤ _; omega)
          · rw [app_len, app_len, app_len]
            exact size_le (by show 0 + 1 + w0.length + 2 ≤ _; omega)
          · exact .inl ⟨kvs, .inr w0, .inl (s2 _ _ (s1 _ _ h1)), rfl, ev.symm⟩
          · rw [lit_stay st _ _ g0]
            refine ⟨Nat.le_trans ll (Nat.le_trans rm (by decide)), _, rfl, ?_, trivial, s3, w0, hw0, ?_⟩
            · rw [app_len, app_len, app_len, app_len]
              exact Nat.le_trans (by show 0 + 1 + w0.length + 2 + _ ≤ 3000015; omega) (show 3000015 ≤ sizeLine by decide)
            · rw [ev, emp_app]
              rfl
        · rw [List.length_map] at l2
          have e := map_of (f := fun w0 => V.str (rowL w0 (litH H m ((valV kvs (.inr w0)).getD .non)))) l2 q2
          have e : ys = ((sortN (nms kvs)).map fun w0 => rowL w0 (litH H m ((valV kvs (.inr w0)).getD .non))).map V.str := by rw [e, List.map_map]; rfl
          subst e
          obtain ⟨b1, b2⟩ := join_room (zs := (sortN (nms kvs)).map fun w0 => rowL w0 (litH H m ((valV kvs (.inr w0)).getD .non))) (m := litS m + 15) (by rw [List.length_map]; omega) (by
              have := litS6 (n := m) (by omega)
              omega) (fun z hz => by
            obtain ⟨w0, hw0, rfl⟩ := List.mem_map.mp hz
            exact row_len (names_ok h2 hw0).2.1 (val_get (P := fun v => (litH H m v).length ≤ litS m) hw0 fun p hp => lit_len m p.2 (h3 p hp)))
          refine ⟨_, .inl (sqL_of e2), b1, ?_, ?_, ?_⟩
          · exact Nat.le_trans (by show 1 + _ ≤ 9000004; omega) (show 9000004 ≤ sizeLine by decide)
          · rw [app_len]
            exact Nat.le_trans (by show 1 + _ + 1 ≤ 9000005; omega) (show 9000005 ≤ sizeLine by decide)
          · exact q _ (s1.trans s2)
    · exact h.elim
theorem no_wl (T : Top K mg) : OkT_wl P w base T 1 (fun _ _ _ _ => False) := ⟨fun _ _ _ _ h => h.elim, fun _ _ _ _ _ _ _ _ _ _ _ _ _ _ h => h.elim⟩
theorem ok_wl (T : Top K mg) : ∀ n, OkT_wl P w base T (n + 2) (sp_lit n)
  | 0 => step_wl T 0 1 _ (no_wl T) fun m e => by cases e
  | n + 1 => step_wl T (n + 1) (n + 2) _ (ok_wl T n) fun m e => by cases e; rfl
end
end Sk
namespace Sk
open PySem PySem.Spec PyProof.Rows L2
section
variable {P : Program} {w : World} {K : PySem.W.Frag} {mg : Str → Option Value} {base : Heap}
abbrev OkT_ll (P : Program) (w : World) (base : Heap) (T : Top K mg) (k : Nat) (sp : Sp) : Prop := FnT P w K mg base k (He.ga K "_law_literal") T.fd__law_literal ["_law_thing_here"] sp
theorem step_ll (T : Top K mg) (n k : Nat) (spI : Sp) (G__law_literal : OkT_ll P w base T k spI) (hI : ∀ m, n = m + 1 → spI = sp_lit m) : OkT_ll P w base T (k + 1) (sp_lit n) := by
  refine fnT_of T.F__law_literal sc__law_literal (fun vs H Q E h => ?_) (fun cdv A outer s H vs Q E hr h => ⟨_, (psst_cons (PST.of (sif (PW.pt (wor (tcmp op_isNo (vr 0) pe_non (nomark _)) (pw_or1 (tst (pe_callB (kis K) (by rfl) T.n_isinstance (by decide +kernel) (pa_cons (vr 0) (pa_cons (pe_bltn (v := .ty "bool") (by rfl) T.n_bool (by decide +kernel) rfl) pa_nil))))))) (pss_one (ps_ret (vif (tcmp op_isNo (vr 0) pe_non (nomark _)) pe_str (pe_ix (kget K) (pe_lst (pa_cons pe_str (pa_cons pe_str pa_nil))) (pe_callTy call_intU (by rfl) T.n_int (by decide +kernel) (pa_cons (vr 0) pa_nil)) (fun _ _ => rfl))))) pss_nil))
      (psst_cons (pstif (tst (pe_callB (kis K) (by rfl) T.n_isinstance (by decide +kernel) (pa_cons (vr 0) (pa_cons (pe_bltn (v := .ty "str") (by rfl) T.n_str (by decide +kernel) rfl) pa_nil)))) (psst_cons (pstset (i := 1) sc__law_literal.nd rfl (by first | exact .inl rfl | exact .inr rfl) (CwR.pet_replT (CwR.pet_replT (CwR.pet_replT (CwR.pet_replC (vr 0))))))
      (PSsT.of (pss_one (ps_ret (pe_op (kplus K) (pe_op (kplus K) pe_str (vr 1)) pe_str))))) CwR.psst_nil)
      (psst_cons (pstif (tst (pe_callB (kis K) (by rfl) T.n_isinstance (by decide +kernel) (pa_cons (vr 0) (pa_cons (pe_bltn (v := .ty "tuple") (by rfl) T.n_tuple (by decide +kernel) rfl) pa_nil)))) (CwR.psst_one (CwR.pst_ret (CwR.pet_op (kplus K) (CwR.pet_op (kplus K) (CwR.PET.of pe_str) (petjoin K pe_str (petlc (own := [("_law_each", 5)]) rfl sc__law_literal.nd (itup K (vr 0)) (blkOk_by (own := [("_law_each", 5)]) (N := ["_law_thing_here", "_law_chars_here", "_law_names", "_law_rows", "_law_word", "_law_each"]) (sc := defScope s__law_literal) (by decide +kernel)) (fun _ _ _ _ _ => (pg_name (i := 5) sc__law_literal.nd rfl (by first | exact .inl rfl | exact .inr rfl))) (fun _ _ _ _ _ => upT' (petcall G__law_literal (hr.mono (by omega)) (by rfl) T.g__law_literal T.F__law_literal.kp (b__law_literal T) (pa_cons (vr 5) pa_nil)))))) (CwR.PET.of pe_str)))) CwR.psst_nil)
      (psst_cons (pstif (tst (pe_callB (kis K) (by rfl) T.n_isinstance (by decide +kernel) (pa_cons (vr 0) (pa_cons (pe_bltn (v := .ty "dict") (by rfl) T.n_dict (by decide +kernel) rfl) pa_nil)))) (psst_cons (PST.of (ps_set (i := 2) sc__law_literal.nd rfl (by first | exact .inl rfl | exact .inr rfl) (pe_callB (ksorted K) (by rfl) T.n_sorted (by decide +kernel) (pa_cons (pe_lock (pe_lc (own := [("_law_word", 4)])  rfl sc__law_literal.nd (pi_keys (vr 0)) (blkOk_by (own := [("_law_word", 4)]) (N := ["_law_thing_here", "_law_chars_here", "_law_names", "_law_rows", "_law_word", "_law_each"]) (sc := defScope s__law_literal) (by decide +kernel)) (fun _ _ _ _ _ => (pg_name (i := 4) sc__law_literal.nd rfl (by first | exact .inl rfl | exact .inr rfl))) (fun _ _ _ _ _ => pts_nil) (fun _ _ _ _ _ => up (vr 4)))) pa_nil))))
      (psst_cons (pstsetLc (i := 3) (own := [("_law_word", 4)]) rfl sc__law_literal.nd rfl rfl (sw_true rfl rfl rfl (by decide +kernel)) (ilist K (vr 2)) (blkOk_by (own := [("_law_word", 4)]) (N := ["_law_thing_here", "_law_chars_here", "_law_names", "_law_rows", "_law_word", "_law_each"]) (sc := defScope s__law_literal) (by decide +kernel)) (fun _ _ _ _ _ => (pg_name (i := 4) sc__law_literal.nd rfl (by first | exact .inl rfl | exact .inr rfl))) (fun _ _ _ _ _ => upT' (CwR.pet_op (kplus K) (CwR.PET.of (pe_op (kplus K) (pe_op (kplus K) pe_str (vr 4)) pe_str)) (petcall G__law_literal (hr.mono (by omega)) (by rfl) T.g__law_literal T.F__law_literal.kp (b__law_literal T) (pa_cons (pe_dget (hu_of hr) (vr 0) (vr 4) (fun _ _ => rfl)) pa_nil)))))
      (PSsT.of (pss_one (ps_ret (pe_op (kplus K) (pe_op (kplus K) pe_str (kjoin K pe_str (vr 3))) pe_str)))))) CwR.psst_nil)
      (PSsT.of (pss_one (ps_ret (pe_callTy call_strU (by rfl) T.n_str (by decide +kernel) (pa_cons (vr 0) pa_nil))))))))), ?_⟩)
  · unfold sp_lit at h
    split at h
    · rfl
    · exact h.elim
  · unfold sp_lit at h
    split at h
    · obtain ⟨g, n6, q⟩ := h
      rename_i v
      rw [st__law_literal]
      have room : ∀ m, n = m + 1 → litS m ≤ 3000000 := fun m e => Nat.le_trans (litS6 (by omega)) (by decide)
      rcases good_cases g with f | ⟨m, rfl, ⟨a, vs, rfl, h1, h2, h3⟩ | ⟨a, kvs, rfl, h1, h2, h3⟩⟩
      · rw [lit_flat f] at q
        rcases flat_cases f with rfl | ⟨b, rfl⟩ | ⟨i, rfl, hi⟩ | ⟨z, rfl, hz⟩
        · exact q _ (Same.refl H)
        · refine ⟨_, _, .base (.bl _), rfl, Nat.le_of_ble_eq_true rfl, fun p np => ?_⟩
          cases b
          · exact ⟨_, _, .inl (sqL_of upd_same), rfl, q _ (same_new np)⟩
          · exact ⟨_, _, .inl (sqL_of upd_same), rfl, q _ (same_new np)⟩
        · refine ⟨_, _, .base (.int _), rfl, _, _, .base (.int _), rfl, _, _, .base (.int _), rfl, _, _, .base (.int _), rfl, int_log hi, q _ (Same.refl H)⟩
        · have l0 := hz.1
          have l1 := rep_le (a := "\\") (b := "\\\\") (k := 2) l0 (by decide)
          have l2 := rep_le (a := "\"") (b := "\\\"") (k := 2) l1 (by decide)
          have l3 := rep_le (a := "\n") (b := "\\n") (k := 2) l2 (by decide)
          have l4 := rep4_len l0
          refine ⟨_, _, .base (.str _), rfl, _, _, .base (.str _), rfl, _, rfl, ?_, _, rfl, ?_, _, rfl, ?_, _, rfl, ?_, ?_⟩
          · show _ + (_ + 1) * 2 ≤ _
            omega
          · show _ + (_ + 1) * 2 ≤ _
            omega
          · show _ + (_ + 1) * 2 ≤ _
            omega
          · show _ + (_ + 1) * 2 ≤ _
            omega
          · refine ⟨size_le (by show 1 + (rep4 z).length ≤ _; omega), ?_, ?_⟩
            · rw [app_len]
              exact size_le (by show 1 + (rep4 z).length + 1 ≤ _; omega)
            · exact q _ (Same.refl H)
      · have hI := hI m rfl
        subst hI
        have rm := room m rfl
        rw [lit_tup h1] at q
        refine ⟨_, _, .base (.tup h1), rfl, _, _, .base (.tup h1), rfl, _, _, .base (.tup h1), rfl, a, rfl, ⟨_, sqT_of h1⟩, fun D nD => ?_⟩
        refine lct (xs := vs) fr_same (fun i v _ => ∃ x, vs[i]? = some x ∧ v = .str (litH H m x)) trivial nD (by omega) (fun H1 _ s1 => sqT_of (s1 _ _ h1)) (fun _ _ _ _ h _ => h) (fun _ => rfl) (fun i x H1 hx _ s1 => ?_) (fun H1 ys _ s1 l1 e1 q1 => ?_)
        · have gx := h3 x (List.mem_of_getElem? hx)
          refine ⟨GoodV.mono (stay_of s1) _ _ gx, by omega, fun H2 s2 => ⟨trivial, s2, x, hx, ?_⟩⟩
          rw [lit_stay (stay_of s1) _ _ gx]
        · have e := map_of (f := fun x => V.str (litH H m x)) l1 q1
          have e : ys = (vs.map (litH H m)).map V.str := by rw [e, List.map_map]; rfl
          subst e
          obtain ⟨b1, b2⟩ := join_room (zs := vs.map (litH H m)) (m := litS m) (by rw [List.length_map]; exact h2) rm (fun z hz => by
            obtain ⟨x, hx, rfl⟩ := List.mem_map.mp hz
            exact lit_len m x (h3 x hx))
          refine ⟨_, .inl (sqL_of e1), b1, ?_, ?_, ?_⟩
          · exact Nat.le_trans (by show 1 + _ ≤ 9000004; omega) (show 9000004 ≤ sizeLine by decide)
          · rw [app_len]
            exact Nat.le_trans (by show 1 + _ + 1 ≤ 9000005; omega) (show 9000005 ≤ sizeLine by decide)
          · exact q _ s1
      · have hI := hI m rfl
        subst hI
        have rm := room m rfl
        rw [lit_dict h1] at q
        have nl := nms_len h2.2.2
        have sl : (sortN (nms kvs)).length = kvs.length := (sort_perm _).length_eq.trans nl
        have l3 := h2.1
        refine ⟨_, _, .base (.dK h1), rfl, _, _, .base (.dK h1), rfl, _, _, .base (.dK h1), rfl, _, _, .base (.dK h1), rfl, ?_⟩
        refine sort_keys h1 h2 (fun _ _ h => h) (fun _ _ _ h => h) (fun _ => rfl) (fun p H1 s1 e1 => ?_)
        refine ⟨p, rfl, ⟨_, sqL_of e1⟩, fun D nD => ?_⟩
        refine lcl (xs := (sortN (nms kvs)).map V.str) fr_same (fun i v _ => ∃ w0, (sortN (nms kvs))[i]? = some w0 ∧ v = .str (rowL w0 (litH H m ((valV kvs (.inr w0)).getD .non)))) trivial nD (by rw [List.length_map]; omega) (fun H2 _ s2 => sqL_of (s2 _ _ e1)) (fun _ _ _ _ h _ => h) (fun _ => rfl) (fun i x H2 hx _ s2 => ?_) (fun H2 ys _ s2 l2 e2 q2 => ?_)
        · rw [List.getElem?_map] at hx
          obtain ⟨w0, hw0, rfl⟩ := Option.map_eq_some_iff.mp hx
          have hm := List.mem_of_getElem? hw0
          have nok := names_ok h2 hm
          obtain ⟨v0, ev, p0, hp0, e0⟩ := val_some (mem_sort.mp hm)
          have g0 : GoodV H m v0 := by rw [← e0]; exact h3 p0 hp0
          have st : Stay H H2 := stay_of (s1.trans s2)
          have ll := lit_len m v0 g0
          have w12 := nok.2.1
          refine ⟨?_, ?_, a, v0, rfl, ?_, GoodV.mono st _ _ g0, by omega, fun H3 s3 => ?_⟩
          · exact size_le (by show 1 + w0.length ≤ _; omega)
          · rw [app_len]
            exact size_le (by show 1 + w0.length + 2 ≤ _; omega)
          · exact .inl ⟨kvs, .inr w0, .inl (s2 _ _ (s1 _ _ h1)), rfl, ev.symm⟩
          · rw [lit_stay st _ _ g0]
            refine ⟨?_, trivial, s3, w0, hw0, ?_⟩
            · rw [app_len, app_len]
              exact Nat.le_trans (by show 1 + w0.length + 2 + _ ≤ 3000015; omega) (show 3000015 ≤ sizeLine by decide)
            · rw [ev]
              rfl
        · rw [List.length_map] at l2
          have e := map_of (f := fun w0 => V.str (rowL w0 (litH H m ((valV kvs (.inr w0)).getD .non)))) l2 q2
          have e : ys = ((sortN (nms kvs)).map fun w0 => rowL w0 (litH H m ((valV kvs (.inr w0)).getD .non))).map V.str := by rw [e, List.map_map]; rfl
          subst e
          obtain ⟨b1, b2⟩ := join_room (zs := (sortN (nms kvs)).map fun w0 => rowL w0 (litH H m ((valV kvs (.inr w0)).getD .non))) (m := litS m + 15) (by rw [List.length_map]; omega) (by
              have := litS6 (n := m) (by omega)
              omega) (fun z hz => by
            obtain ⟨w0, hw0, rfl⟩ := List.mem_map.mp hz
            exact row_len (names_ok h2 hw0).2.1 (val_get (P := fun v => (litH H m v).length ≤ litS m) hw0 fun p hp => lit_len m p.2 (h3 p hp)))
          refine ⟨_, .inl (sqL_of e2), b1, ?_, ?_, ?_⟩
          · exact Nat.le_trans (by show 1 + _ ≤ 9000004; omega) (show 9000004 ≤ sizeLine by decide)
          · rw [app_len]
            exact Nat.le_trans (by show 1 + _ + 1 ≤ 9000005; omega) (show 9000005 ≤ sizeLine by decide)
          · exact q _ (s1.trans s2)
    · exact h.elim
theorem no_ll (T : Top K mg) : OkT_ll P w base T 1 (fun _ _ _ _ => False) := ⟨fun _ _ _ _ h => h.elim, fun _ _ _ _ _ _ _ _ _ _ _ _ _ _ h => h.elim⟩
theorem ok_ll (T : Top K mg) : ∀ n, OkT_ll P w base T (n + 2) (sp_lit n)
  | 0 => step_ll T 0 1 _ (no_ll T) fun m e => by cases e
  | n + 1 => step_ll T (n + 1) (n + 2) _ (ok_ll T n) fun m e => by cases e; rfl
end
end Sk
namespace Sk
open PySem PySem.Spec PyProof.Rows L2
/-! ### what escape is to return -/
def strV : V → Str
  | .str z => z
  | .int i => Str.ofString (toString i)
  | _ => ""
def Flat1 (v : V) : Prop := (∃ z, v = .str z ∧ TextOk 24 z) ∨ ∃ i, v = .int i ∧ i.natAbs ≤ 10 ^ 30
theorem Flat1.ok {v : V} (h : Flat1 v) : TextOk 2000 (strV v) := by
  rcases h with ⟨z, rfl, hz⟩ | ⟨i, rfl, hi⟩
  · exact hz.mono (by decide)
  · exact int_text hi
def EscIs (H : Hp) (c : Str) (v : V) (z : Str) : Prop :=
  (c = "data" ∧ GoodV H 6 v ∧ z = litH H 6 v) ∨ (c = "part" ∧ Flat1 v ∧ z = codE (strV v)) ∨ (c = "query" ∧ Flat1 v ∧ z = codE (strV v)) ∨ (c = "attribute" ∧ Flat1 v ∧ z = attE (strV v)) ∨ (c = "text" ∧ Flat1 v ∧ z = txtE (strV v))
theorem EscIs.same {H H' : Hp} {c : Str} {v : V} {z : Str} (s : Same H H') (h : EscIs H c v z) : EscIs H' c v z := by
  rcases h with ⟨a, b, e⟩ | h
  · exact .inl ⟨a, GoodV.mono (stay_of s) _ _ b, by rw [e, lit_stay (stay_of s) _ _ b]⟩
  · exact .inr h
section
variable {P : Program} {w : World} {K : PySem.W.Frag} {mg : Str → Option Value} {base : Heap}
def sp_esc : Sp := fun vs H Q _ => match vs with
  | [.str c, v] => ∃ z, EscIs H c v z ∧ ∀ H', Same H H' → Q (.str z) H'
  | _ => False
theorem ok_esctext (T : Top K mg) (k : Nat) : Ok_escape_text P w base T (k + 9) sp_esc := by
  have G_write_literal : OkT_wl P w base T 8 (sp_lit 6) := ok_wl T 6
  have G_write_code : Ok_write_code P w base T 2 sp_code := ok_code T 0
  have G_write_attribute := ok_attribute (P := P) (w := w) (base := base) T 0
  have G_write_text : Ok_write_text P w base T 1 sp_text := ok_text T 0
  refine fnok_T T.F_escape_text sc_escape_text (by decide +kernel) (by decide) (fun vs H Q E h => ?_) (fun cdv A outer s H vs Q E hr h => ⟨_, (psst_cons (pstif (tcmp (ksame K hr.units) (vr 0) (pe_glob (v := .str ("data")) (by rfl) T.c_DATA ⟨_, rfl⟩) (nomark _)) (CwR.psst_one (CwR.pst_ret (petcall G_write_literal (hr.mono (by omega)) (by rfl) T.g_write_literal T.F_write_literal.kp (b_write_literal T) (pa_cons (vr 1) pa_nil)))) CwR.psst_nil)
      (PSsT.of (pss_cons (ps_set (i := 2) sc_escape_text.nd rfl (by first | exact .inl rfl | exact .inr rfl) (pe_callTy call_strU (by rfl) T.n_str (by decide +kernel) (pa_cons (vr 1) pa_nil)))
      (pss_cons (sif (tcmp (kin K) (vr 0) (pe_tup (pa_cons pe_str (pa_cons pe_str pa_nil))) (by rfl)) (pss_one (ps_ret (pe_call G_write_code (hr.mono (by omega)) (by rfl) T.g_write_code T.F_write_code.kp (b_write_code T) .nil pass0 (pa_cons (vr 2) pa_nil)))) pss_nil)
      (pss_one (ps_ret (vif (tcmp (ksame K hr.units) (vr 0) pe_str (nomark _)) (pe_call G_write_attribute (hr.mono (by omega)) (by rfl) T.g_write_attribute T.F_write_attribute.kp (b_write_attribute T) .nil pass0 (pa_cons (vr 2) pa_nil)) (pe_call G_write_text (hr.mono (by omega)) (by rfl) T.g_write_text T.F_write_text.kp (b_write_text T) .nil pass0 (pa_cons (vr 2) pa_nil))))))))), ?_⟩)
  · unfold sp_esc at h
    split at h
    · rfl
    · exact h.elim
  · unfold sp_esc at h
    split at h
    · obtain ⟨z, h, q⟩ := h
      rw [st_escape_text]
      rcases h with ⟨rfl, g, rfl⟩ | ⟨rfl, f, rfl⟩ | ⟨rfl, f, rfl⟩ | ⟨rfl, f, rfl⟩ | ⟨rfl, f, rfl⟩
      · exact ⟨g, by decide, q⟩
      · have ok := f.ok
        rcases f with ⟨z, rfl, hz⟩ | ⟨i, rfl, hi⟩
        · refine ⟨Nat.le_of_ble_eq_true rfl, fun p np => ⟨_, .inr (sqT_of upd_same), rfl, rfl, ok, fun H' s => q _ ((same_new np).trans s)⟩⟩
        · refine ⟨int_log hi, Nat.le_of_ble_eq_true rfl, fun p np => ⟨_, .inr (sqT_of upd_same), rfl, rfl, ok, fun H' s => q _ ((same_new np).trans s)⟩⟩
      · have ok := f.ok
        rcases f with ⟨z, rfl, hz⟩ | ⟨i, rfl, hi⟩
        · refine ⟨Nat.le_of_ble_eq_true rfl, fun p np => ⟨_, .inr (sqT_of upd_same), rfl, rfl, ok, fun H' s => q _ ((same_new np).trans s)⟩⟩
        · refine ⟨int_log hi, Nat.le_of_ble_eq_true rfl, fun p np => ⟨_, .inr (sqT_of upd_same), rfl, rfl, ok, fun H' s => q _ ((same_new np).trans s)⟩⟩
      · have ok := f.ok
        rcases f with ⟨z, rfl, hz⟩ | ⟨i, rfl, hi⟩
        · refine ⟨Nat.le_of_ble_eq_true rfl, fun p np => ⟨_, .inr (sqT_of upd_same), rfl, rfl, ok.1, q _ (same_new np)⟩⟩
        · refine ⟨int_log hi, Nat.le_of_ble_eq_true rfl, fun p np => ⟨_, .inr (sqT_of upd_same), rfl, rfl, ok.1, q _ (same_new np)⟩⟩
      · have ok := f.ok
        rcases f with ⟨z, rfl, hz⟩ | ⟨i, rfl, hi⟩
        · refine ⟨Nat.le_of_ble_eq_true rfl, fun p np => ⟨_, .inr (sqT_of upd_same), rfl, rfl, ok.1, q _ (same_new np)⟩⟩
        · refine ⟨int_log hi, Nat.le_of_ble_eq_true rfl, fun p np => ⟨_, .inr (sqT_of upd_same), rfl, rfl, ok.1, q _ (same_new np)⟩⟩
    · exact h.elim
def Ctx5 (c : Str) : Prop := c = "data" ∨ c = "part" ∨ c = "query" ∨ c = "attribute" ∨ c = "text"
theorem EscIs.ctx {H : Hp} {c : Str} {v : V} {z : Str} (h : EscIs H c v z) : Ctx5 c := by
  rcases h with ⟨e, _⟩ | ⟨e, _⟩ | ⟨e, _⟩ | ⟨e, _⟩ | ⟨e, _⟩
  · exact .inl e
  · exact .inr (.inl e)
  · exact .inr (.inr (.inl e))
  · exact .inr (.inr (.inr (.inl e)))
  · exact .inr (.inr (.inr (.inr e)))
def sp_check : Sp := fun vs H Q _ => match vs with
  | [.str c] => Ctx5 c ∧ Q .non H
  | _ => False
theorem ok_check (T : Top K mg) (k : Nat) : Ok_check_context P w base T (k + 1) sp_check := by
  refine T.F_check_context.ok sc_check_context (fun vs H Q E h => ?_) (fun cdv A outer s H vs Q E hr h => ⟨_, PSs.nox (pss_one (sif (PW.pt (wor (pt_not (tst (pe_callB (kis K) (by rfl) T.n_isinstance (by decide +kernel) (pa_cons (vr 0) (pa_cons (pe_bltn (v := .ty "str") (by rfl) T.n_str (by decide +kernel) rfl) pa_nil))))) (pw_or1 (tcmp (knotin K) (vr 0) (pe_glob (v := .ref (He.ga K "ALL_CONTEXTS")) (by rfl) T.g_ALL_CONTEXTS rfl) (by rfl))))) (pss_one ps_never) pss_nil)), ?_⟩)
  · unfold sp_check at h
    split at h
    · rfl
    · exact h.elim
  · unfold sp_check at h
    split at h
    · obtain ⟨h, q⟩ := h
      rw [st_check_context]
      rcases h with rfl | rfl | rfl | rfl | rfl
      · exact ⟨_, _, .base (.str _), rfl, _, .inr (T.q_ALL_CONTEXTS _), rfl, rfl, q⟩
      · exact ⟨_, _, .base (.str _), rfl, _, .inr (T.q_ALL_CONTEXTS _), rfl, rfl, q⟩
      · exact ⟨_, _, .base (.str _), rfl, _, .inr (T.q_ALL_CONTEXTS _), rfl, rfl, q⟩
      · exact ⟨_, _, .base (.str _), rfl, _, .inr (T.q_ALL_CONTEXTS _), rfl, rfl, q⟩
      · exact ⟨_, _, .base (.str _), rfl, _, .inr (T.q_ALL_CONTEXTS _), rfl, rfl, q⟩
    · exact h.elim
theorem ok_escape (T : Top K mg) (k : Nat) : Ok_escape P w base T (k + 10) sp_esc := by
  have G_check_context : Ok_check_context P w base T 1 sp_check := ok_check T 0
  have G_is_value : Ok_is_value P w base T 9 sp_value := ok_value T 0
  have G_is_whole : Ok_is_whole P w base T 1 sp_whole := ok_whole T 0
  have G_escape_text : Ok_escape_text P w base T 9 sp_esc := ok_esctext T 0
  refine T.F_escape.ok sc_escape (fun vs H Q E h => ?_) (fun cdv A outer s H vs Q E hr h => ⟨_, PSs.nox (pss_cons (ps_expr (pe_call G_check_context (hr.mono (by omega)) (by rfl) T.g_check_context T.F_check_context.kp (b_check_context T) .nil pass0 (pa_cons (vr 0) pa_nil)))
      (pss_cons (sif (pt_not (tif (tcmp (ksame K hr.units) (vr 0) (pe_glob (v := .str ("data")) (by rfl) T.c_DATA ⟨_, rfl⟩) (nomark _)) (tst (pe_call G_is_value (hr.mono (by omega)) (by rfl) T.g_is_value T.F_is_value.kp (b_is_value T) .nil pass0 (pa_cons (vr 1) pa_nil))) (PW.pt (wor (tst (pe_callB (kis K) (by rfl) T.n_isinstance (by decide +kernel) (pa_cons (vr 1) (pa_cons (pe_bltn (v := .ty "str") (by rfl) T.n_str (by decide +kernel) rfl) pa_nil)))) (pw_or1 (tst (pe_call G_is_whole (hr.mono (by omega)) (by rfl) T.g_is_whole T.F_is_whole.kp (b_is_whole T) .nil pass0 (pa_cons (vr 1) pa_nil)))))))) (pss_one ps_never) pss_nil)
      (pss_one (ps_ret (pe_call G_escape_text (hr.mono (by omega)) (by rfl) T.g_escape_text T.F_escape_text.kp (b_escape_text T) .nil pass0 (pa_cons (vr 0) (pa_cons (vr 1) pa_nil))))))), ?_⟩)
  · unfold sp_esc at h
    split at h
    · rfl
    · exact h.elim
  · unfold sp_esc at h
    split at h
    · obtain ⟨z, h, q⟩ := h
      rw [st_escape]
      have cx := h.ctx
      refine ⟨cx, ?_⟩
      rcases id h with ⟨rfl, g, rfl⟩ | ⟨rfl, f, rfl⟩ | ⟨rfl, f, rfl⟩ | ⟨rfl, f, rfl⟩ | ⟨rfl, f, rfl⟩
      · exact ⟨g, fun H1 s1 => ⟨_, h.same s1, fun H2 s2 => q _ (s1.trans s2)⟩⟩
      · rcases f with ⟨z, rfl, hz⟩ | ⟨i, rfl, hi⟩
        · exact ⟨_, _, .base (.str _), rfl, _, h, q⟩
        · exact ⟨_, _, .base (.int _), rfl, _, h, q⟩
      · rcases f with ⟨z, rfl, hz⟩ | ⟨i, rfl, hi⟩
        · exact ⟨_, _, .base (.str _), rfl, _, h, q⟩
        · exact ⟨_, _, .base (.int _), rfl, _, h, q⟩
      · rcases f with ⟨z, rfl, hz⟩ | ⟨i, rfl, hi⟩
        · exact ⟨_, _, .base (.str _), rfl, _, h, q⟩
        · exact ⟨_, _, .base (.int _), rfl, _, h, q⟩
      · rcases f with ⟨z, rfl, hz⟩ | ⟨i, rfl, hi⟩
        · exact ⟨_, _, .base (.str _), rfl, _, h, q⟩
        · exact ⟨_, _, .base (.int _), rfl, _, h, q⟩
    · exact h.elim
theorem ok_escaped (T : Top K mg) (k : Nat) : Ok__law_escaped P w base T (k + 9) sp_esc := by
  have G__law_literal : OkT_ll P w base T 8 (sp_lit 6) := ok_ll T 6
  have G__law_code : Ok__law_code P w base T 1 sp_code := ok_lawcode T 0
  refine fnok_T T.F__law_escaped sc__law_escaped (by decide +kernel) (by decide) (fun vs H Q E h => ?_) (fun cdv A outer s H vs Q E hr h => ⟨_, (psst_cons (pstif (tcmp (ksame K hr.units) (vr 0) pe_str (nomark _)) (CwR.psst_one (CwR.pst_ret (petcall G__law_literal (hr.mono (by omega)) (by rfl) T.g__law_literal T.F__law_literal.kp (b__law_literal T) (pa_cons (vr 1) pa_nil)))) CwR.psst_nil)
      (psst_cons (PST.of (ps_set (i := 2) sc__law_escaped.nd rfl (by first | exact .inl rfl | exact .inr rfl) (pe_callTy call_strU (by rfl) T.n_str (by decide +kernel) (pa_cons (vr 1) pa_nil))))
      (psst_cons (PST.of (sif (tcmp (kin K) (vr 0) (pe_lst (pa_cons pe_str (pa_cons pe_str pa_nil))) (by rfl)) (pss_one (ps_ret (pe_call G__law_code (hr.mono (by omega)) (by rfl) T.g__law_code T.F__law_code.kp (b__law_code T) .nil pass0 (pa_cons (vr 2) pa_nil)))) pss_nil))
      (psst_cons (pstset (i := 2) sc__law_escaped.nd rfl (by first | exact .inl rfl | exact .inr rfl) (CwR.pet_replT (CwR.pet_replC (vr 2))))
      (CwR.psst_one (CwR.pst_ret (petif (tcmp (ksame K hr.units) (vr 0) pe_str (nomark _)) (CwR.pet_replC (vr 2)) (CwR.PET.of (vr 2))))))))), ?_⟩)
  · unfold sp_esc at h
    split at h
    · rfl
    · exact h.elim
  · unfold sp_esc at h
    split at h
    · obtain ⟨z, h, q⟩ := h
      rw [st__law_escaped]
      have len : ∀ {t : Str}, t.length ≤ 2000 → t.length + (t.length + 1) * 5 ≤ 16777216 ∧ (Txt.replace t "&" "&amp;").length + ((Txt.replace t "&" "&amp;").length + 1) * 4 ≤ 16777216 ∧ (txtE t).length + ((txtE t).length + 1) * 6 ≤ 16777216 := fun {t} ht => by
        have l1 := rep_le (a := "&") (b := "&amp;") (k := 5) ht (by decide)
        have l2 := txt_len ht
        refine ⟨?_, ?_, ?_⟩ <;> omega
      rcases h with ⟨rfl, g, rfl⟩ | ⟨rfl, f, rfl⟩ | ⟨rfl, f, rfl⟩ | ⟨rfl, f, rfl⟩ | ⟨rfl, f, rfl⟩
      · exact ⟨g, by decide, q⟩
      · have ok := f.ok
        rcases f with ⟨z, rfl, hz⟩ | ⟨i, rfl, hi⟩
        · refine ⟨Nat.le_of_ble_eq_true rfl, fun p np => ⟨_, .inl (sqL_of upd_same), rfl, rfl, ok, fun H' s => q _ ((same_new np).trans s)⟩⟩
        · refine ⟨int_log hi, Nat.le_of_ble_eq_true rfl, fun p np => ⟨_, .inl (sqL_of upd_same), rfl, rfl, ok, fun H' s => q _ ((same_new np).trans s)⟩⟩
      · have ok := f.ok
        rcases f with ⟨z, rfl, hz⟩ | ⟨i, rfl, hi⟩
        · refine ⟨Nat.le_of_ble_eq_true rfl, fun p np => ⟨_, .inl (sqL_of upd_same), rfl, rfl, ok, fun H' s => q _ ((same_new np).trans s)⟩⟩
        · refine ⟨int_log hi, Nat.le_of_ble_eq_true rfl, fun p np => ⟨_, .inl (sqL_of upd_same), rfl, rfl, ok, fun H' s => q _ ((same_new np).trans s)⟩⟩
      · obtain ⟨l1, l2, l3⟩ := len f.ok.1
        rcases f with ⟨z, rfl, hz⟩ | ⟨i, rfl, hi⟩
        · exact ⟨Nat.le_of_ble_eq_true rfl, fun p np => ⟨_, .inl (sqL_of upd_same), rfl, rfl, _, rfl, l1, _, rfl, l2, _, rfl, l3, q _ (same_new np)⟩⟩
        · exact ⟨int_log hi, Nat.le_of_ble_eq_true rfl, fun p np => ⟨_, .inl (sqL_of upd_same), rfl, rfl, _, rfl, l1, _, rfl, l2, _, rfl, l3, q _ (same_new np)⟩⟩
      · obtain ⟨l1, l2, l3⟩ := len f.ok.1
        rcases f with ⟨z, rfl, hz⟩ | ⟨i, rfl, hi⟩
        · exact ⟨Nat.le_of_ble_eq_true rfl, fun p np => ⟨_, .inl (sqL_of upd_same), rfl, rfl, _, rfl, l1, _, rfl, l2, q _ (same_new np)⟩⟩
        · exact ⟨int_log hi, Nat.le_of_ble_eq_true rfl, fun p np => ⟨_, .inl (sqL_of upd_same), rfl, rfl, _, rfl, l1, _, rfl, l2, q _ (same_new np)⟩⟩
    · exact h.elim
def sp_told : Sp := fun vs H Q _ => match vs with
  | [.str c, v] => (∃ z, EscIs H c v z) ∧ ∀ H', Same H H' → Q (.bl true) H'
  | _ => False
theorem ok_told (T : Top K mg) (k : Nat) : Ok__law_told P w base T (k + 11) sp_told := by
  have G__law_escaped : Ok__law_escaped P w base T 9 sp_esc := ok_escaped T 0
  have G_escape : Ok_escape P w base T 10 sp_esc := ok_escape T 0
  refine T.F__law_told.ok sc__law_told (fun vs H Q E h => ?_) (fun cdv A outer s H vs Q E hr h => ⟨_, PSs.nox (pss_cons (ps_set (i := 2) sc__law_told.nd rfl (by first | exact .inl rfl | exact .inr rfl) (pe_call G__law_escaped (hr.mono (by omega)) (by rfl) T.g__law_escaped T.F__law_escaped.kp (b__law_escaped T) .nil pass0 (pa_cons (vr 0) (pa_cons (vr 1) pa_nil))))
      (pss_cons (ps_set (i := 3) sc__law_told.nd rfl (by first | exact .inl rfl | exact .inr rfl) (pe_lst (pa_cons (pe_call G_escape (hr.mono (by omega)) (by rfl) T.g_escape T.F_escape.kp (b_escape T) .nil pass0 (pa_cons (vr 0) (pa_cons (vr 1) pa_nil))) (pa_cons (pe_callK0 G_escape (hr.mono (by omega)) (by rfl) T.g_escape T.F_escape.kp (kb_swap T.F_escape (fun _ _ _ _ _ _ _ _ => rfl)) (pk_cons (vr 1) (pk_cons (vr 0) pk_nil))) pa_nil))))
      (pss_one (ps_ret (pe_cmpR (ksame K hr.units) (pe_op (kplus K) (vr 3) (pe_lst (pa_cons (pe_call G_escape (hr.mono (by omega)) (by rfl) T.g_escape T.F_escape.kp (b_escape T) .nil pass0 (pa_cons (vr 0) (pa_cons (vr 1) pa_nil))) pa_nil))) (pe_op op_mulU (pe_lst (pa_cons (vr 2) pa_nil)) pe_int) (nomark _)))))), ?_⟩)
  · unfold sp_told at h
    split at h
    · rfl
    · exact h.elim
  · unfold sp_told at h
    split at h
    · obtain ⟨⟨z, h⟩, q⟩ := h
      rw [st__law_told]
      refine ⟨z, h, fun H1 s1 => ⟨z, h.same s1, fun H2 s2 => ?_⟩⟩
      have s02 := s1.trans s2
      refine ⟨rfl, z, h.same s02, fun H3 s3 => ⟨Nat.le_of_ble_eq_true rfl, fun l nl => ?_⟩⟩
      have s04 := (s02.trans s3).trans (same_new (o := .lst [.str z, .str z]) nl)
      refine ⟨z, h.same s04, fun H5 s5 => ⟨Nat.le_of_ble_eq_true rfl, fun l2 nl2 => ?_⟩⟩
      have hl : H5 l = some (.lst [.str z, .str z]) := s5 _ _ upd_same
      have s06 := (s04.trans s5).trans (same_new (o := .lst [.str z]) nl2)
      refine .inl ⟨l, l2, _, _, rfl, rfl, same_new nl2 _ _ hl, upd_same, Nat.le_of_ble_eq_true rfl, fun l3 nl3 => ?_⟩
      have s07 := s06.trans (same_new (o := .lst [.str z, .str z, .str z]) nl3)
      refine ⟨Nat.le_of_ble_eq_true rfl, fun l4 nl4 => ?_⟩
      have s08 := s07.trans (same_new (o := .lst [.str z]) nl4)
      refine ⟨l4, 3, _, rfl, rfl, upd_same, by decide, by decide, Nat.le_of_ble_eq_true rfl, fun l5 nl5 => ?_⟩
      have s09 := s08.trans (same_new (o := .lst [.str z, .str z, .str z]) nl5)
      refine ⟨.list [.str z, .str z, .str z], .list [.str z, .str z, .str z], .lst (sqL_of (same_new nl5 _ _ (same_new nl4 _ _ upd_same))) (.cons (.str _) (.cons (.str _) (.cons (.str _) .nil))), .lst (sqL_of upd_same) (.cons (.str _) (.cons (.str _) (.cons (.str _) .nil))), rfl, rfl, ?_⟩
      have e : PyData.eqv (.list [.str z, .str z, .str z]) (.list [.str z, .str z, .str z]) = true := SeqAt.eqv_refl_plain _ rfl
      have q := q _ s09
      show Q (.bl (if false = true then _ else PyData.eqv _ _)) _
      rw [e]
      exact q
    · exact h.elim
end
end Sk
namespace Sk
open PySem PySem.Spec PyProof.Rows L2
theorem val_pair {kvs : List (Key × V)} {k : Key} {v : V} (h : valV kvs k = some v) : (k, v) ∈ kvs := by
  unfold valV at h
  obtain ⟨p, hp, e⟩ := Option.map_eq_some_iff.mp h
  have e1 : decide (p.1 = k) = true := List.find?_some (p := fun kv : Key × V => decide (kv.1 = k)) hp
  have e1 := of_decide_eq_true e1
  have : p = (k, v) := by rw [← e1, ← e]
  rw [← this]
  exact List.mem_of_find?_eq_some hp
theorem same_dom {H H1 : Hp} (s : Same H H1) : ∀ b, H1 b = none → H b = none := fun b h => by
  cases e : H b with
  | none => rfl
  | some o => rw [s b o e] at h; cases h
theorem names_nodup {kvs : List (Key × V)} (dk : DictOk kvs) : (nms kvs).Nodup := by
  have h := dk.2.1
  rw [nms_keys dk.2.2] at h
  exact (List.pairwise_map.mp h).imp fun h e => h (congrArg Sum.inr e)
theorem inr_inj : ∀ {l m : List Str}, l.map (Sum.inr : Str → Key) = m.map Sum.inr → l = m
  | [], [], _ => rfl
  | [], _ :: _, h => by cases h
  | _ :: _, [], h => by cases h
  | x :: l, y :: m, h => by
    have h : Sum.inr x :: l.map (Sum.inr : Str → Key) = Sum.inr y :: m.map Sum.inr := h
    obtain ⟨h1, h2⟩ := List.cons.inj h
    rw [Sum.inr.inj h1, inr_inj h2]
section
variable {P : Program} {w : World} {K : PySem.W.Frag} {mg : Str → Option Value} {base : Heap}
def sp_turn (n : Nat) : Sp := fun vs H Q _ => match vs with
  | [v] => GoodV H n v ∧ ∀ v' H', GoodV (newP H H') n v' → litH (newP H H') n v' = litH H n v → Same H H' → Q v' H'
  | _ => False
theorem step_turn (T : Top K mg) (n k : Nat) (spI : Sp) (G__law_turned : Ok__law_turned P w base T k spI) (hI : ∀ m, n = m + 1 → spI = sp_turn m) : Ok__law_turned P w base T (k + 1) (sp_turn n) := by
  refine T.F__law_turned.ok sc__law_turned (fun vs H Q E h => ?_) (fun cdv A outer s H vs Q E hr h => ⟨_, PSs.nox (pss_cons (sif (tst (pe_callB (kis K) (by rfl) T.n_isinstance (by decide +kernel) (pa_cons (vr 0) (pa_cons (pe_bltn (v := .ty "tuple") (by rfl) T.n_tuple (by decide +kernel) rfl) pa_nil)))) (pss_one (ps_ret (pe_callTy (ktup K) (by rfl) T.n_tuple (by decide +kernel) (pa_cons (pe_lc (own := [("_law_each", 3)])  rfl sc__law_turned.nd (itup K (vr 0)) (blkOk_by (own := [("_law_each", 3)]) (N := ["_law_thing_here", "_law_found", "_law_word", "_law_each"]) (sc := defScope s__law_turned) (by decide +kernel)) (fun _ _ _ _ _ => (pg_name (i := 3) sc__law_turned.nd rfl (by first | exact .inl rfl | exact .inr rfl))) (fun _ _ _ _ _ => pts_nil) (fun _ _ _ _ _ => up (pe_call G__law_turned (hr.mono (by omega)) (by rfl) T.g__law_turned T.F__law_turned.kp (b__law_turned T) .nil pass0 (pa_cons (vr 3) pa_nil)))) pa_nil)))) pss_nil)
      (pss_cons (sif (pt_not (tst (pe_callB (kis K) (by rfl) T.n_isinstance (by decide +kernel) (pa_cons (vr 0) (pa_cons (pe_bltn (v := .ty "dict") (by rfl) T.n_dict (by decide +kernel) rfl) pa_nil))))) (pss_one (ps_ret (vr 0))) pss_nil)
      (pss_cons (ps_set (i := 1) sc__law_turned.nd rfl (by first | exact .inl rfl | exact .inr rfl) pe_dnewK)
      (pss_cons (ps_for PassesOwn.never rfl (ilist K (krev K (pe_callB (ksorted K) (by rfl) T.n_sorted (by decide +kernel) (pa_cons (pe_lock (pe_lc (own := [("_law_word", 2)])  rfl sc__law_turned.nd (pi_keys (vr 0)) (blkOk_by (own := [("_law_word", 2)]) (N := ["_law_thing_here", "_law_found", "_law_word", "_law_each"]) (sc := defScope s__law_turned) (by decide +kernel)) (fun _ _ _ _ _ => (pg_name (i := 2) sc__law_turned.nd rfl (by first | exact .inl rfl | exact .inr rfl))) (fun _ _ _ _ _ => pts_nil) (fun _ _ _ _ _ => up (vr 2)))) pa_nil)))) (pg_name (i := 2) sc__law_turned.nd rfl (by first | exact .inl rfl | exact .inr rfl)) (pss_one (ps_asg (pe_call G__law_turned (hr.mono (by omega)) (by rfl) T.g__law_turned T.F__law_turned.kp (b__law_turned T) .nil pass0 (pa_cons (pe_dget (hu_of hr) (vr 0) (vr 2) (fun _ _ => rfl)) pa_nil)) (pg_sub (vr 1) (vr 2) (set_dict (hu_of hr))))))
      (pss_one (ps_ret (vr 1))))))), ?_⟩)
  · unfold sp_turn at h
    split at h
    · rfl
    · exact h.elim
  · unfold sp_turn at h
    split at h
    · obtain ⟨g, q⟩ := h
      rename_i v
      rw [st__law_turned]
      rcases good_cases g with f | ⟨m, rfl, ⟨a, vs, rfl, h1, h2, h3⟩ | ⟨a, kvs, rfl, h1, h2, h3⟩⟩
      · have q := q v H (f.good n) (by rw [lit_flat f, lit_flat f]) (Same.refl H)
        rcases flat_cases f with rfl | ⟨b, rfl⟩ | ⟨i, rfl, hi⟩ | ⟨z, rfl, hz⟩
        · exact ⟨_, _, .base .non, rfl, _, _, .base .non, rfl, q⟩
        · exact ⟨_, _, .base (.bl _), rfl, _, _, .base (.bl _), rfl, q⟩
        · exact ⟨_, _, .base (.int _), rfl, _, _, .base (.int _), rfl, q⟩
        · exact ⟨_, _, .base (.str _), rfl, _, _, .base (.str _), rfl, q⟩
      · have hI := hI m rfl
        subst hI
        refine ⟨_, _, .base (.tup h1), rfl, a, rfl, ⟨_, sqT_of h1⟩, fun D nD => ?_⟩
        refine lct (xs := vs) fr_same (fun i v H' => ∃ x, vs[i]? = some x ∧ GoodV (newP H H') m v ∧ litH (newP H H') m v = litH H m x) trivial nD (by omega) (fun H1 _ s1 => sqT_of (s1 _ _ h1)) (fun i v H1 H2 h st => ?_) (fun _ => rfl) (fun i x H1 hx _ s1 => ?_) (fun H1 ys _ s1 l1 e1 q1 => ?_)
        · obtain ⟨x, hx, gx, lx⟩ := h
          exact ⟨x, hx, GoodV.mono (newP_on st) _ _ gx, by rw [lit_stay (newP_on st) _ _ gx, lx]⟩
        · have gx := h3 x (List.mem_of_getElem? hx)
          refine ⟨GoodV.mono (stay_of s1) _ _ gx, fun v' H2 gv lv s2 => ⟨trivial, s2, x, hx, GoodV.mono (newP_less (same_dom s1)) _ _ gv, ?_⟩⟩
          rw [lit_stay (newP_less (same_dom s1)) _ _ gv, lv, lit_stay (stay_of s1) _ _ gx]
        · refine ⟨ys, .inl ⟨sqL_of e1, fun t nt => ?_⟩⟩
          have nH : H t = none := same_dom s1 t nt
          have st : Stay (newP H H1) (newP H (upd H1 t (.tup ys))) := newP_on (stay_new nt)
          have ht : newP H (upd H1 t (.tup ys)) t = some (.tup ys) := by rw [newP_at nH]; exact upd_same
          refine q _ _ (.inr (.inl ⟨t, ys, rfl, ht, by omega, fun x hx => ?_⟩)) ?_ (s1.trans (same_new nt))
          · obtain ⟨i, hi⟩ := List.getElem?_of_mem hx
            obtain ⟨_, _, gx, _⟩ := q1 i x hi
            exact GoodV.mono st _ _ gx
          · rw [lit_tup ht, lit_tup h1]
            congr 3
            refine List.ext_getElem? fun i => ?_
            rw [List.getElem?_map, List.getElem?_map]
            cases e : ys[i]? with
            | none =>
              have : vs[i]? = none := by
                rw [List.getElem?_eq_none_iff] at e ⊢
                omega
              rw [this]
              rfl
            | some y =>
              obtain ⟨x, hx, gx, lx⟩ := q1 i y e
              rw [hx]
              show some _ = some _
              rw [lit_stay st _ _ gx, lx]
      · have hI := hI m rfl
        subst hI
        have lk := h2.1
        have nl := nms_len h2.2.2
        have sl : (sortN (nms kvs)).length = kvs.length := (sort_perm _).length_eq.trans nl
        have ndn : (sortN (nms kvs)).reverse.Nodup := List.pairwise_reverse.mpr (((sort_perm _).nodup_iff.mpr (names_nodup h2)).imp fun h e => h e.symm)
        have mem_rev : ∀ {w0 : Str}, w0 ∈ (sortN (nms kvs)).reverse ↔ w0 ∈ sortN (nms kvs) := fun {w0} => List.mem_reverse
        refine ⟨_, _, .base (.dK h1), rfl, _, _, .base (.dK h1), rfl, ?_⟩
        intro d nd
        simp only [List.set_cons_succ, List.set_cons_zero]
        refine sort_keys (same_new nd _ _ h1) h2 (fun _ _ h => h) (fun _ _ _ h => h) (fun _ => rfl) (fun p H1 s1 e1 => ?_)
        refine ⟨p, _, rfl, sqL_of e1, fun r nr => ⟨r, rfl, ⟨_, sqL_of upd_same⟩, ?_⟩⟩
        have hd1 : H1 d = some (.dK []) := s1 _ _ upd_same
        have ner : r ≠ d := fun z => by rw [z, hd1] at nr; cases nr
        have s01 : Same H (upd H1 r (.lst ((sortN (nms kvs)).map V.str).reverse)) := ((same_new nd).trans s1).trans (same_new nr)
        have hd2 : upd H1 r (.lst ((sortN (nms kvs)).map V.str).reverse) d = some (.dK []) := by rw [upd_ne ner.symm]; exact hd1
        have hr2 : upd H1 r (.lst ((sortN (nms kvs)).map V.str).reverse) r = some (.lst ((sortN (nms kvs)).reverse.map V.str)) := by
          rw [List.map_reverse]
          exact upd_same
        refine for_list (xs := ((sortN (nms kvs)).map V.str).reverse) (fun i σ H' => (∃ y2, σ = [some (.ref a), some (.ref d), y2, none]) ∧ Same H H' ∧ H' r = some (.lst ((sortN (nms kvs)).reverse.map V.str)) ∧ ∃ ks, H' d = some (.dK ks) ∧ ks.map (·.1) = ((sortN (nms kvs)).reverse.take i).map Sum.inr ∧
          ∀ p ∈ ks, ∃ w0, p.1 = .inr w0 ∧ GoodV (hide d (newP H H')) m p.2 ∧ litH (hide d (newP H H')) m p.2 = litH H m ((valV kvs (.inr w0)).getD .non)) ⟨⟨_, rfl⟩, s01, hr2, [], hd2, rfl, (fun p hp => by cases hp)⟩ (fun i σ H' _ hv => ?_) (fun i x σ H' hx hv => ?_) (fun σ H' hv => ?_)
        · rw [← List.map_reverse]
          exact sqL_of hv.2.2.1
        · obtain ⟨⟨y2, rfl⟩, s2, r2, ks, ed, ek, gk⟩ := hv
          rw [← List.map_reverse, List.getElem?_map] at hx
          obtain ⟨w0, hw0, rfl⟩ := Option.map_eq_some_iff.mp hx
          have hil := (List.getElem?_eq_some_iff.mp hw0).1
          have hm := mem_rev.mp (List.mem_of_getElem? hw0)
          have nok := names_ok h2 hm
          obtain ⟨v0, ev, p0, hp0, e0⟩ := val_some (mem_sort.mp hm)
          have g0 : GoodV H m v0 := by rw [← e0]; exact h3 p0 hp0
          have kl : ks.length = i := by
            have := congrArg List.length ek
            rw [List.length_map, List.length_map, List.length_take] at this
            omega
          refine ⟨a, v0, rfl, .inl ⟨kvs, .inr w0, .inl (s2 _ _ h1), rfl, ev.symm⟩, GoodV.mono (stay_of s2) _ _ g0, fun v' H3 gv lv s3 => ?_⟩
          have ed3 := s3 _ _ ed
          have nk : valV ks (.inr w0) = none := by
            cases e : valV ks (.inr w0) with
            | none => rfl
            | some u =>
              have hmem : (.inr w0 : Key) ∈ ks.map (·.1) := List.mem_map_of_mem (f := (·.1)) (val_pair e)
              rw [ek] at hmem
              obtain ⟨w1, hw1, e1⟩ := List.mem_map.mp hmem
              cases e1
              obtain ⟨j, hj⟩ := List.getElem?_of_mem hw1
              rw [List.getElem?_take] at hj
              split at hj
              · rename_i hlt
                have e1 : (sortN (nms kvs)).reverse[j]? = (sortN (nms kvs)).reverse[i]? := hj.trans hw0.symm
                have := List.pairwise_iff_getElem.mp ndn j i (by omega) hil hlt
                rw [List.getElem?_eq_getElem (by omega), List.getElem?_eq_getElem hil] at e1
                exact absurd (Option.some.inj e1) this
              · cases hj
          have dput : DPut H3 d (.str w0) v' (upd H3 d (.dK (ks ++ [(.inr w0, v')]))) := by
            have hil2 := hil
            rw [List.length_reverse] at hil2
            have := DPut.k (k := .inr w0) (v := v') ed3 (size_lt (by omega))
            rw [putK_new v' nk] at this
            exact this
          refine ⟨d, _, rfl, dput, ⟨_, rfl⟩, ?_, ?_, _, upd_same, ?_, ?_⟩
          · intro b o hb
            rw [upd_ne (ne_of_none hb nd)]
            exact s3 _ _ (s2 _ _ hb)
          · rw [upd_ne ner]
            exact s3 _ _ r2
          · rw [List.map_append, ek, List.take_succ, hw0, List.map_append]
            rfl
          · have same : Stay (hide d (newP H H3)) (hide d (newP H (upd H3 d (.dK (ks ++ [(.inr w0, v')]))))) := fun b o l e => by
              obtain ⟨h1, h2⟩ := hide_some e
              obtain ⟨h3, h4⟩ := newP_some h2
              rw [hide_ne h1, newP_at h3, upd_ne h1]
              exact h4
            intro p hp
            rcases List.mem_append.mp hp with hp | hp
            · obtain ⟨w1, e1, g1, l1⟩ := gk p hp
              have st := (hide_on (d := d) (newP_on (H := H) (stay_of s3))).trans same
              exact ⟨w1, e1, GoodV.mono st _ _ g1, by rw [lit_stay st _ _ g1, l1]⟩
            · have : p = (.inr w0, v') := by simpa using hp
              subst this
              have st : Stay (newP H' H3) (hide d (newP H (upd H3 d (.dK (ks ++ [(.inr w0, v')]))))) := (stay_hide (newP_less (same_dom s2)) (by unfold newP; rw [ed])).trans same
              refine ⟨w0, rfl, GoodV.mono st _ _ gv, ?_⟩
              show litH _ m v' = _
              rw [lit_stay st _ _ gv, lv, lit_stay (stay_of s2) _ _ g0, ev]
              rfl
        · obtain ⟨⟨y2, rfl⟩, s2, r2, ks, ed, ek, gk⟩ := hv
          rw [List.length_reverse, List.length_map] at ek
          rw [show (sortN (nms kvs)).reverse.take (sortN (nms kvs)).length = (sortN (nms kvs)).reverse from by rw [← List.length_reverse, List.take_length]] at ek
          have kl : ks.length = kvs.length := by
            have := congrArg List.length ek
            rw [List.length_map, List.length_map, List.length_reverse] at this
            omega
          have dok : DictOk ks := by
            refine ⟨by omega, ?_, fun p hp => ?_⟩
            · rw [ek]
              exact List.pairwise_map.mpr (ndn.imp fun h e => h (Sum.inr.inj e))
            · obtain ⟨w0, e0, _⟩ := gk p hp
              refine ⟨w0, e0, ?_⟩
              have hmem : (.inr w0 : Key) ∈ ks.map (·.1) := by rw [← e0]; exact List.mem_map_of_mem (f := (·.1)) hp
              rw [ek] at hmem
              obtain ⟨w1, hw1, e1⟩ := List.mem_map.mp hmem
              cases e1
              exact names_ok h2 (mem_rev.mp hw1)
          have hn : nms ks = (sortN (nms kvs)).reverse := inr_inj ((nms_keys dok.2.2).symm.trans ek)
          have hdN : newP H H' d = some (.dK ks) := by rw [newP_at nd]; exact ed
          refine q _ _ (.inr (.inr ⟨d, ks, rfl, hdN, dok, fun p hp => ?_⟩)) ?_ s2
          · obtain ⟨_, _, g1, _⟩ := gk p hp
            exact GoodV.mono hide_stay _ _ g1
          · rw [lit_dict hdN, lit_dict h1]
            have es : sortN (nms ks) = sortN (nms kvs) := sort_of_perm (by rw [hn]; exact (List.reverse_perm _).trans (sort_perm _))
            rw [es]
            congr 3
            refine List.map_congr_left fun w0 hw0 => ?_
            have hw1 : w0 ∈ nms ks := by rw [hn]; exact mem_rev.mpr hw0
            obtain ⟨v', ev', _⟩ := val_some hw1
            obtain ⟨w1, e1, g1, l1⟩ := gk _ (val_pair ev')
            cases e1
            rw [ev']
            show rowL w0 (litH _ m v') = _
            rw [lit_stay hide_stay _ _ g1, l1]
    · exact h.elim
theorem no_turn (T : Top K mg) : Ok__law_turned P w base T 1 (fun _ _ _ _ => False) := ⟨fun _ _ _ _ h => h.elim, fun _ _ _ _ _ _ _ _ _ _ _ _ _ h => h.elim⟩
theorem ok_turn (T : Top K mg) : ∀ n, Ok__law_turned P w base T (n + 2) (sp_turn n)
  | 0 => step_turn T 0 1 _ (no_turn T) fun m e => by cases e
  | n + 1 => step_turn T (n + 1) (n + 2) _ (ok_turn T n) fun m e => by cases e; rfl
end
end Sk
namespace Sk
open PySem PySem.Spec PyProof.Rows L2
theorem Flat1.flat {v : V} (h : Flat1 v) : FlatOk v := by
  rcases h with ⟨z, rfl, hz⟩ | ⟨i, rfl, hi⟩
  · exact hz
  · exact hi
theorem esc_flat {H : Hp} {c : Str} {v : V} (h : Flat1 v) (hc : Ctx5 c) : ∃ z, EscIs H c v z := by
  rcases hc with e | e | e | e | e
  · exact ⟨_, .inl ⟨e, h.flat.good 6, rfl⟩⟩
  · exact ⟨_, .inr (.inl ⟨e, h, rfl⟩)⟩
  · exact ⟨_, .inr (.inr (.inl ⟨e, h, rfl⟩))⟩
  · exact ⟨_, .inr (.inr (.inr (.inl ⟨e, h, rfl⟩)))⟩
  · exact ⟨_, .inr (.inr (.inr (.inr ⟨e, h, rfl⟩)))⟩
theorem five {x : V} (h : x ∈ [V.str "text", .str "attribute", .str "part", .str "query", .str "data"]) : ∃ c, x = .str c ∧ Ctx5 c := by
  simp only [List.mem_cons, List.mem_nil_iff, or_false] at h
  rcases h with rfl | rfl | rfl | rfl | rfl
  · exact ⟨_, rfl, .inr (.inr (.inr (.inr rfl)))⟩
  · exact ⟨_, rfl, .inr (.inr (.inr (.inl rfl)))⟩
  · exact ⟨_, rfl, .inr (.inl rfl)⟩
  · exact ⟨_, rfl, .inr (.inr (.inl rfl))⟩
  · exact ⟨_, rfl, .inl rfl⟩
section
variable {P : Program} {w : World} {K : PySem.W.Frag} {mg : Str → Option Value} {base : Heap}
def sp_right : Sp := fun vs H Q _ => match vs with
  | [.ref a] => Pool H a ∧ ∀ H', Pool H' a → Keep a H H' → Q (.bl true) H'
  | _ => False
theorem ok_right (T : Top K mg) (k : Nat) : Ok__law_right P w base T (k + 12) sp_right := by
  have G__law_chars : Ok__law_chars P w base T 2 sp_chars := ok_chars T 0
  have G__law_draw : Ok__law_draw P w base T 1 sp_draw := ok_draw T 0
  have G__law_form : Ok__law_form P w base T 6 (sp_form 3) := ok_form T 3
  have G__law_thing_of : Ok__law_thing_of P w base T 9 (sp_thing 6) := ok_thing T 6
  have G__law_told : Ok__law_told P w base T 11 sp_told := ok_told T 0
  have G__law_turned : Ok__law_turned P w base T 8 (sp_turn 6) := ok_turn T 6
  have G_escape : Ok_escape P w base T 10 sp_esc := ok_escape T 0
  have G__law_escaped : Ok__law_escaped P w base T 9 sp_esc := ok_escaped T 0
  refine T.F__law_right.ok sc__law_right (fun vs H Q E h => ?_) (fun cdv A outer s H vs Q E hr h => ⟨_, PSs.nox (pss_cons (ps_for PassesOwn.never rfl (pi_range1 (by rfl) T.n_range (pa_cons pe_int pa_nil)) (pg_name (i := 1) sc__law_right.nd rfl (by first | exact .inl rfl | exact .inr rfl)) (pss_cons (ps_set (i := 2) sc__law_right.nd rfl (by first | exact .inl rfl | exact .inr rfl) (pe_op (kplus K) (pe_call G__law_chars (hr.mono (by omega)) (by rfl) T.g__law_chars T.F__law_chars.kp (b__law_chars T) .nil pass0 (pa_cons (vr 0) pa_nil)) (pe_call G__law_chars (hr.mono (by omega)) (by rfl) T.g__law_chars T.F__law_chars.kp (b__law_chars T) .nil pass0 (pa_cons (vr 0) pa_nil))))
      (pss_cons (ps_set (i := 3) sc__law_right.nd rfl (by first | exact .inl rfl | exact .inr rfl) (pe_call G__law_draw (hr.mono (by omega)) (by rfl) T.g__law_draw T.F__law_draw.kp (b__law_draw T) .nil pass0 (pa_cons (vr 0) (pa_cons (pe_op op_powI pe_int pe_int) pa_nil))))
      (pss_cons (ps_set (i := 3) sc__law_right.nd rfl (by first | exact .inl rfl | exact .inr rfl) (pe_ix (kget K) (pe_lst (pa_cons (pe_op op_modI (vr 3) pe_int) (pa_cons (pe_un un_negU (vr 3)) (pa_cons (pe_op (kplus K) (pe_op op_powI pe_int pe_int) (vr 3)) pa_nil)))) (pe_call G__law_draw (hr.mono (by omega)) (by rfl) T.g__law_draw T.F__law_draw.kp (b__law_draw T) .nil pass0 (pa_cons (vr 0) (pa_cons pe_int pa_nil))) (fun _ _ => rfl)))
      (pss_cons (ps_set (i := 4) sc__law_right.nd rfl (by first | exact .inl rfl | exact .inr rfl) (pe_call G__law_thing_of (hr.mono (by omega)) (by rfl) T.g__law_thing_of T.F__law_thing_of.kp (b__law_thing_of T) .nil pass0 (pa_cons (vr 0) (pa_cons (pe_call G__law_form (hr.mono (by omega)) (by rfl) T.g__law_form T.F__law_form.kp (b__law_form T) .nil pass0 (pa_cons (vr 0) (pa_cons pe_int pa_nil))) pa_nil))))
      (pss_cons (ps_for PassesOwn.never rfl (ilist K (pe_lst (pa_cons pe_str (pa_cons pe_str (pa_cons pe_str (pa_cons pe_str (pa_cons pe_str pa_nil))))))) (pg_name (i := 5) sc__law_right.nd rfl (by first | exact .inl rfl | exact .inr rfl)) (pss_one (sif (PW.pt (wor (pt_not (tst (pe_call G__law_told (hr.mono (by omega)) (by rfl) T.g__law_told T.F__law_told.kp (b__law_told T) .nil pass0 (pa_cons (vr 5) (pa_cons (vr 2) pa_nil))))) (pw_or1 (pt_not (tst (pe_call G__law_told (hr.mono (by omega)) (by rfl) T.g__law_told T.F__law_told.kp (b__law_told T) .nil pass0 (pa_cons (vr 5) (pa_cons (vr 3) pa_nil)))))))) (pss_one (ps_ret pe_bl)) pss_nil)))
      (pss_cons (ps_set (i := 6) sc__law_right.nd rfl (by first | exact .inl rfl | exact .inr rfl) (pe_call G__law_turned (hr.mono (by omega)) (by rfl) T.g__law_turned T.F__law_turned.kp (b__law_turned T) .nil pass0 (pa_cons (vr 4) pa_nil)))
      (pss_one (sif (PW.pt (wor (pt_not (tst (pe_call G__law_told (hr.mono (by omega)) (by rfl) T.g__law_told T.F__law_told.kp (b__law_told T) .nil pass0 (pa_cons pe_str (pa_cons (vr 4) pa_nil))))) (pw_or1 (tcmp (kother K hr.units) (pe_call G_escape (hr.mono (by omega)) (by rfl) T.g_escape T.F_escape.kp (b_escape T) .nil pass0 (pa_cons pe_str (pa_cons (vr 6) pa_nil))) (pe_call G__law_escaped (hr.mono (by omega)) (by rfl) T.g__law_escaped T.F__law_escaped.kp (b__law_escaped T) .nil pass0 (pa_cons pe_str (pa_cons (vr 4) pa_nil))) (nomark _))))) (pss_one (ps_ret pe_bl)) pss_nil)))))))))
      (pss_one (ps_ret pe_bl))), ?_⟩)
  · unfold sp_right at h
    split at h
    · rfl
    · exact h.elim
  · unfold sp_right at h
    split at h
    · obtain ⟨hp, q⟩ := h
      rename_i a
      rw [st__law_right]
      refine ⟨6, rfl, by decide, by decide, ?_⟩
      refine for_range (n := 6) (fun i σ H' => (∃ y1 y2 y3 y4 y5 y6, σ = [some (.ref a), y1, y2, y3, y4, y5, y6]) ∧ Pool H' a ∧ Keep a H H') ⟨⟨_, _, _, _, _, _, rfl⟩, hp, Keep.refl a H⟩ (fun i σ H0 hi hv => ?_) (fun σ H0 hv => ?_)
      · obtain ⟨⟨y1, y2, y3, y4, y5, y6, rfl⟩, p0, k0⟩ := hv
        refine ⟨p0, fun z1 H1 t1 p1 k1 => ⟨p1, fun z2 H2 t2 p2 k2 => ⟨?_, ?_⟩⟩⟩
        · have := t1.1
          have := t2.1
          exact size_le (by omega)
        have tz : TextOk 24 (z1 ++ z2) := (t1.app t2).mono (by decide)
        revert tz
        generalize z1 ++ z2 = z
        intro tz
        refine ⟨⟨by decide, by decide, by decide⟩, p2, by decide, by decide, fun i1 H3 a0 a1 p3 k3 => ?_⟩
        refine ⟨by decide, ⟨by decide, by decide, by decide⟩, Nat.le_of_ble_eq_true rfl, fun l nl => ⟨p3.new (p3.ne nl), by decide, by decide, fun i2 H4 b0 b1 p4 k4 => ?_⟩⟩
        obtain ⟨v3, ev, mv⟩ := atI_in (xs := [V.int (i1 % 100), .int (-i1), .int (10 ^ Int.toNat 29 + i1)]) (i := i2) b0 b1
        refine ⟨_, v3, .inl (sqL_of (k4 l _ (p3.ne nl) upd_same)), ev, ?_⟩
        have f3 : Flat1 v3 := by
          have e9 : (10 : Int) ^ Int.toNat 9 = 1000000000 := by decide
          have e29 : (10 : Int) ^ Int.toNat 29 = 100000000000000000000000000000 := by decide
          rw [e9] at a1
          rw [e29] at mv
          simp only [List.mem_cons, List.mem_nil_iff, or_false] at mv
          rcases mv with rfl | rfl | rfl
          · refine .inr ⟨_, rfl, ?_⟩
            omega
          · refine .inr ⟨_, rfl, ?_⟩
            omega
          · refine .inr ⟨_, rfl, ?_⟩
            omega
        have k04 : Keep a H H4 := ((((k0.trans k1).trans k2).trans k3).trans (keep_of (same_new nl))).trans k4
        clear ev mv nl k4 k3 k2 k1 t1 t2
        refine ⟨rfl, p4, fun f H5 ff p5 k5 => ⟨p5, FormV.fw 3 f ff, fun v H6 gv ri p6 k6 => ?_⟩⟩
        clear ri
        have k06 : Keep a H H6 := (k04.trans k5).trans k6
        have g6 : GoodV H6 6 v := GoodV.mono newP_stay _ _ gv
        clear gv ff k04 k5 k6
        simp only [List.set_cons_succ, List.set_cons_zero]
        refine ⟨Nat.le_of_ble_eq_true rfl, fun l2 nl2 => ⟨l2, rfl, ⟨_, sqL_of upd_same⟩, ?_⟩⟩
        have s7 : Same H6 (upd H6 l2 (.lst [.str "text", .str "attribute", .str "part", .str "query", .str "data"])) := same_new nl2
        have h7 : upd H6 l2 (.lst [.str "text", .str "attribute", .str "part", .str "query", .str "data"]) l2 = some (.lst [.str "text", .str "attribute", .str "part", .str "query", .str "data"]) := upd_same
        revert s7 h7
        generalize upd H6 l2 (.lst [.str "text", .str "attribute", .str "part", .str "query", .str "data"]) = H7
        intro s7 h7
        refine for_list (xs := [.str "text", .str "attribute", .str "part", .str "query", .str "data"]) (fun j σ H' => (∃ y5, σ = [some (.ref a), some (.int (0 + (i : Int))), some (.str z), some v3, some v, y5, y6]) ∧ Same H7 H') ⟨⟨_, rfl⟩, Same.refl _⟩ (fun j σ H' _ hv => sqL_of (hv.2 _ _ h7)) (fun j x σ H' hx hv => ?_) (fun σ H' hv => ?_)
        · obtain ⟨⟨y5, rfl⟩, s8⟩ := hv
          obtain ⟨c, rfl, hc⟩ := five (List.mem_of_getElem? hx)
          refine ⟨esc_flat (.inl ⟨_, rfl, tz⟩) hc, fun H9 s9 => ⟨esc_flat f3 hc, fun H10 s10 => ?_⟩⟩
          exact ⟨⟨_, rfl⟩, (s8.trans s9).trans s10⟩
        · obtain ⟨⟨y5, rfl⟩, s8⟩ := hv
          have k8 : Keep a H H' := k06.trans (keep_of (s7.trans s8))
          have p8 : Pool H' a := p6.same (s7.trans s8)
          have g8 : GoodV H' 6 v := GoodV.mono (stay_of (s7.trans s8)) _ _ g6
          refine ⟨g8, fun v' H9 g9 l9 s9 => ?_⟩
          refine ⟨⟨_, .inl ⟨rfl, GoodV.mono (stay_of s9) _ _ g8, rfl⟩⟩, fun H10 s10 => ?_⟩
          have g10 : GoodV H10 6 v' := GoodV.mono (newP_stay.trans (stay_of s10)) _ _ g9
          have l10 : litH H10 6 v' = litH H' 6 v := by rw [lit_stay (newP_stay.trans (stay_of s10)) _ _ g9, l9]
          refine ⟨litH H' 6 v, .inl ⟨rfl, g10, l10.symm⟩, fun H11 s11 => ?_⟩
          have s8' := (s9.trans s10).trans s11
          refine ⟨litH H' 6 v, .inl ⟨rfl, GoodV.mono (stay_of s8') _ _ g8, (lit_stay (stay_of s8') _ _ g8).symm⟩, fun H12 s12 => ?_⟩
          refine br2 (fun e => ?_) (fun _ => ?_)
          · have e : (!decide (V.str (litH H' 6 v) = V.str (litH H' 6 v))) = true := e
            rw [decide_eq_true rfl] at e
            cases e
          · exact ⟨⟨_, _, _, _, _, _, rfl⟩, p8.same (s8'.trans s12), k8.trans (keep_of (s8'.trans s12))⟩
      · obtain ⟨⟨y1, y2, y3, y4, y5, y6, rfl⟩, p0, k0⟩ := hv
        exact q _ p0 k0
    · exact h.elim
end
end Sk
namespace Sk
open PySem PySem.Spec PyProof.Rows L2
/-! ### rows: [where, thing, text] -/
def Row (H : Hp) (r : V) : Prop := ∃ l c v d, r = .ref l ∧ H l = some (.lst [.str c, v, .str d]) ∧ EscIs H c v d
theorem EscIs.stay {H H' : Hp} {c : Str} {v : V} {z : Str} (s : Stay H H') (h : EscIs H c v z) : EscIs H' c v z := by
  rcases h with ⟨a, b, e⟩ | h
  · exact .inl ⟨a, GoodV.mono s _ _ b, by rw [e, lit_stay s _ _ b]⟩
  · exact .inr h
theorem Row.same {H H' : Hp} {r : V} (s : Same H H') (h : Row H r) : Row H' r := by
  obtain ⟨l, c, v, d, e, h1, h2⟩ := h
  exact ⟨l, c, v, d, e, s _ _ h1, h2.same s⟩
theorem row_new {H : Hp} {l : Addr} {c : Str} {v : V} {d : Str} (nl : H l = none) (e : EscIs H c v d) : Row (upd H l (.lst [.str c, v, .str d])) (.ref l) := ⟨l, c, v, d, rfl, upd_same, e.same (same_new nl)⟩
theorem Row.ne {H : Hp} {r : V} {L : Addr} (h : Row H r) (n : H L = none) : r ≠ .ref L := fun z => by
  obtain ⟨l, c, v, d, e, h1, h2⟩ := h
  rw [e] at z
  cases z
  rw [n] at h1
  cases h1
structure Rows (H0 : Hp) (n : Nat) (L : Addr) (H : Hp) : Prop where
  same : Same H0 H
  new : H0 L = none
  rows : ∃ rs, H L = some (.lst rs) ∧ rs.length ≤ n ∧ ∀ r ∈ rs, Row H r ∧ r ≠ .ref L
theorem Rows.on {H0 H H' : Hp} {n : Nat} {L : Addr} (S : Rows H0 n L H) (s : Same H H') : Rows H0 n L H' := by
  obtain ⟨rs, h1, h2, h3⟩ := S.rows
  exact ⟨S.same.trans s, S.new, rs, s _ _ h1, h2, fun r hr => ⟨(h3 r hr).1.same s, (h3 r hr).2⟩⟩
theorem rows_new {H0 H : Hp} {L : Addr} {rs : List V} (s : Same H0 H) (nL : H L = none) (h : ∀ r ∈ rs, Row H r) : Rows H0 rs.length L (upd H L (.lst rs)) :=
  ⟨s.trans (same_new nL), same_dom s L nL, rs, upd_same, Nat.le_refl _, fun r hr => ⟨(h r hr).same (same_new nL), (h r hr).ne nL⟩⟩
theorem Rows.cat {H0 H : Hp} {n : Nat} {L N : Addr} {rs ms : List V} (S : Rows H0 n L H) (hL : H L = some (.lst rs)) (hm : ∀ r ∈ ms, Row H r) (nN : H N = none) : Rows H0 (n + ms.length) N (upd H N (.lst (rs ++ ms))) := by
  obtain ⟨rs', h1, h2, h3⟩ := S.rows
  rw [hL] at h1
  cases h1
  have := rows_new (rs := rs ++ ms) S.same nN fun r hr => by
    rcases List.mem_append.mp hr with h | h
    · exact (h3 r h).1
    · exact hm r h
  refine ⟨this.same, this.new, rs ++ ms, upd_same, by rw [List.length_append]; omega, ?_⟩
  obtain ⟨rs2, e1, _, e3⟩ := this.rows
  rw [upd_same] at e1
  cases e1
  exact e3
theorem Rows.app {H0 H : Hp} {n : Nat} {L : Addr} {rs : List V} {r : V} (S : Rows H0 n L H) (hL : H L = some (.lst rs)) (hr : Row H r) (ne : r ≠ .ref L) : Rows H0 (n + 1) L (upd H L (.lst (rs ++ [r]))) := by
  obtain ⟨rs', h1, h2, h3⟩ := S.rows
  rw [hL] at h1
  cases h1
  have st : Stay H (upd H L (.lst (rs ++ [r]))) := (Stay.refl H).lst hL
  have go : ∀ x, Row H x → x ≠ .ref L → Row (upd H L (.lst (rs ++ [r]))) x := fun x hx nx => by
    obtain ⟨l, c, v, d, e, h1, h2⟩ := hx
    refine ⟨l, c, v, d, e, ?_, h2.stay st⟩
    rw [upd_ne (fun z => nx (by rw [e, z]))]
    exact h1
  refine ⟨fun b o hb => ?_, S.new, rs ++ [r], upd_same, by rw [List.length_append]; exact Nat.succ_le_succ h2, fun x hx => ?_⟩
  · rw [upd_ne (ne_of_none hb S.new)]
    exact S.same b o hb
  · rcases List.mem_append.mp hx with h | h
    · exact ⟨go x (h3 x h).1 (h3 x h).2, (h3 x h).2⟩
    · have : x = r := by simpa using h
      subst this
      exact ⟨go x hr ne, ne⟩
theorem same_two {H : Hp} {p : Addr} {o o' : HO} (h : H p = none) : Same H (upd (upd H p o) p o') := fun b u hb => by
  rw [upd_ne (ne_of_none hb h), upd_ne (ne_of_none hb h)]
  exact hb
theorem textOk {n : Nat} {z : Str} (h1 : Nat.ble z.length n = true) (h2 : z.cps.toList.all okc = true) : TextOk n z := ⟨Nat.le_of_ble_eq_true h1, List.all_eq_true.mp h2⟩
theorem esc_0 (H : Hp) : EscIs H "part" (.str "\n") "~0a" := .inr (.inl ⟨rfl, .inl ⟨_, rfl, (textOk (by decide +kernel) (by decide +kernel))⟩, by decide +kernel⟩)
theorem esc_1 (H : Hp) : EscIs H "query" (.str "~") "~7e" := .inr (.inr (.inl ⟨rfl, .inl ⟨_, rfl, (textOk (by decide +kernel) (by decide +kernel))⟩, by decide +kernel⟩))
theorem esc_2 (H : Hp) : EscIs H "attribute" (.str "<&\">") "&lt;&amp;&quot;>" := .inr (.inr (.inr (.inl ⟨rfl, .inl ⟨_, rfl, (textOk (by decide +kernel) (by decide +kernel))⟩, by decide +kernel⟩)))
theorem esc_3 (H : Hp) : EscIs H "text" (.str "\"<&") "\"&lt;&amp;" := .inr (.inr (.inr (.inr ⟨rfl, .inl ⟨_, rfl, (textOk (by decide +kernel) (by decide +kernel))⟩, by decide +kernel⟩)))
theorem esc_4 (H : Hp) : EscIs H "part" (.int (-7)) "-7" := .inr (.inl ⟨rfl, .inr ⟨_, rfl, by decide⟩, by decide +kernel⟩)
theorem esc_5 (H : Hp) : EscIs H "data" (.str "-7\n") "\"-7\\n\"" := .inl ⟨rfl, FlatOk.good (v := .str "-7\n") (textOk (by decide +kernel) (by decide +kernel)) 6, by rw [lit_flat (v := .str "-7\n") (textOk (by decide +kernel) (by decide +kernel))]; decide +kernel⟩
theorem esc_6 (H : Hp) : EscIs H "data" (.bl true) "true" := .inl ⟨rfl, FlatOk.good (v := .bl true) trivial 6, by rw [lit_flat (v := .bl true) trivial]; decide +kernel⟩
theorem esc_8 (H : Hp) : EscIs H "data" (.int 1) "1" := .inl ⟨rfl, FlatOk.good (v := .int 1) (show Int.natAbs _ ≤ 10 ^ 30 by decide) 6, by rw [lit_flat (v := .int 1) (show Int.natAbs _ ≤ 10 ^ 30 by decide)]; decide +kernel⟩
theorem esc_11 (H : Hp) : EscIs H "data" (.bl false) "false" := .inl ⟨rfl, FlatOk.good (v := .bl false) trivial 6, by rw [lit_flat (v := .bl false) trivial]; decide +kernel⟩
theorem esc_12 (H : Hp) : EscIs H "data" (.int 0) "0" := .inl ⟨rfl, FlatOk.good (v := .int 0) (show Int.natAbs _ ≤ 10 ^ 30 by decide) 6, by rw [lit_flat (v := .int 0) (show Int.natAbs _ ≤ 10 ^ 30 by decide)]; decide +kernel⟩
theorem esc_14 (H : Hp) : EscIs H "data" (.str "C:\\new\\lib") "\"C:\\\\new\\\\lib\"" := .inl ⟨rfl, FlatOk.good (v := .str "C:\\new\\lib") (textOk (by decide +kernel) (by decide +kernel)) 6, by rw [lit_flat (v := .str "C:\\new\\lib") (textOk (by decide +kernel) (by decide +kernel))]; decide +kernel⟩
theorem esc_15 (H : Hp) : EscIs H "data" (.str "\\\\n\\\\l") "\"\\\\\\\\n\\\\\\\\l\"" := .inl ⟨rfl, FlatOk.good (v := .str "\\\\n\\\\l") (textOk (by decide +kernel) (by decide +kernel)) 6, by rw [lit_flat (v := .str "\\\\n\\\\l") (textOk (by decide +kernel) (by decide +kernel))]; decide +kernel⟩
theorem esc_16 (H : Hp) : EscIs H "data" (.str "\\<\\\n\\\"") "\"\\\\\\l\\\\\\n\\\\\\\"\"" := .inl ⟨rfl, FlatOk.good (v := .str "\\<\\\n\\\"") (textOk (by decide +kernel) (by decide +kernel)) 6, by rw [lit_flat (v := .str "\\<\\\n\\\"") (textOk (by decide +kernel) (by decide +kernel))]; decide +kernel⟩
theorem esc_17 (H : Hp) : EscIs H "text" (.str "\\n\\l\\<") "\\n\\l\\&lt;" := .inr (.inr (.inr (.inr ⟨rfl, .inl ⟨_, rfl, (textOk (by decide +kernel) (by decide +kernel))⟩, by decide +kernel⟩)))
theorem esc_18 (H : Hp) : EscIs H "part" (.int 1) "1" := .inr (.inl ⟨rfl, .inr ⟨_, rfl, by decide⟩, by decide +kernel⟩)
theorem esc_pair {H : Hp} {t : Addr} {x y : V} {z : Str} (h : H t = some (.tup [x, y])) (fx : FlatOk x) (fy : FlatOk y) (e : ("[" ++ Txt.join "," [litF x, litF y] ++ "]" : Str) = z) : EscIs H "data" (.ref t) z := by
  refine .inl ⟨rfl, .inr (.inl ⟨t, _, rfl, h, Nat.le_of_ble_eq_true rfl, fun v hv => ?_⟩), ?_⟩
  · simp only [List.mem_cons, List.mem_nil_iff, or_false] at hv
    rcases hv with rfl | rfl
    · exact fx.good 5
    · exact fy.good 5
  · rw [lit_tup h]
    show z = "[" ++ Txt.join "," [litH H 5 x, litH H 5 y] ++ "]"
    rw [lit_flat fx, lit_flat fy, e]
theorem esc_empty {H : Hp} {t p d : Addr} (h : H t = some (.tup [.ref p, .ref d])) (h1 : H p = some (.tup [])) (h2 : H d = some (.dK [])) : EscIs H "data" (.ref t) "[[],{}]" := by
  refine .inl ⟨rfl, .inr (.inl ⟨t, _, rfl, h, Nat.le_of_ble_eq_true rfl, fun v hv => ?_⟩), ?_⟩
  · simp only [List.mem_cons, List.mem_nil_iff, or_false] at hv
    rcases hv with rfl | rfl
    · exact .inr (.inl ⟨p, [], rfl, h1, by decide, fun x hx => by cases hx⟩)
    · exact .inr (.inr ⟨d, [], rfl, h2, ⟨by decide, List.nodup_nil, fun p hp => by cases hp⟩, fun x hx => by cases hx⟩)
  · rw [lit_tup h]
    show _ = "[" ++ Txt.join "," [litH H 5 (.ref p), litH H 5 (.ref d)] ++ "]"
    rw [lit_tup h1, lit_dict h2]
    show _ = "[" ++ Txt.join "," ["[" ++ Txt.join "," [] ++ "]", "{" ++ Txt.join "," [] ++ "}"] ++ "]"
    decide +kernel
theorem esc_dict {H : Hp} {d : Addr} (h : H d = some (.dK [(.inr "a", .int 0)])) : EscIs H "data" (.ref d) "{\"a\":0}" := by
  refine .inl ⟨rfl, .inr (.inr ⟨d, _, rfl, h, ⟨by decide, by simp, fun p hp => ?_⟩, fun p hp => ?_⟩), ?_⟩
  · have : p = (.inr "a", .int 0) := by simpa using hp
    subst this
    exact ⟨_, rfl, by decide, by decide, List.all_eq_true.mp (by decide +kernel)⟩
  · have : p = (.inr "a", .int 0) := by simpa using hp
    subst this
    exact FlatOk.good (v := .int 0) (show Int.natAbs 0 ≤ 10 ^ 30 by decide) 5
  · rw [lit_dict h]
    show _ = "{" ++ Txt.join "," [rowL "a" (litH H 5 (.int 0))] ++ "}"
    rw [lit_flat (v := .int 0) (show Int.natAbs 0 ≤ 10 ^ 30 by decide)]
    decide +kernel
def firstText : List Stmt → Str
  | .Assign _ (.Constant (.str c) _ _) _ :: _ => c
  | _ => Str.empty
def signsS : Str := firstText (defBody s_law)
theorem signs_flat {x : V} (h : x ∈ sgs signsS ++ [.str "", .int 0]) : Flat1 x := by
  rcases List.mem_append.mp h with h | h
  · unfold sgs at h
    obtain ⟨c, hc, rfl⟩ := List.mem_map.mp h
    have all : signsS.cps.toList.all okc = true := by decide +kernel
    refine .inl ⟨_, rfl, Nat.le_of_ble_eq_true rfl, fun c' hc' => ?_⟩
    have : c' = c := by simpa using hc'
    rw [this]
    exact List.all_eq_true.mp all c hc
  · simp only [List.mem_cons, List.mem_nil_iff, or_false] at h
    rcases h with rfl | rfl
    · exact .inl ⟨_, rfl, textOk (by decide +kernel) (by decide +kernel)⟩
    · exact .inr ⟨_, rfl, by decide⟩
theorem sqL_same {K : PySem.W.Frag} {H H' : Hp} {a : Addr} {xs : List V} (s : Same H H') (h : SqL K H a xs) : SqL K H' a xs := by
  rcases h with (h | ⟨o, h⟩) | h
  · exact .inl (.inl (s _ _ h))
  · exact .inl (.inr ⟨o, s _ _ h⟩)
  · exact .inr h
theorem gm_unl {K : PySem.W.Frag} {i j k : Nat} : ∀ x σ H (q q' : L2.St → Hp → Prop), (∀ σ2 H2, q σ2 H2 → q' σ2 H2) → gUnl K 3 (uCons (gName i) (uCons (gName j) (uCons (gName k) uNil))) x σ H q → gUnl K 3 (uCons (gName i) (uCons (gName j) (uCons (gName k) uNil))) x σ H q' := by
  intro x σ H q q' h z
  obtain ⟨a, xs, e1, e2, e3, t⟩ := z
  refine ⟨a, xs, e1, e2, e3, ?_⟩
  match xs, e3 with
  | [x1, x2, x3], _ => exact h _ _ t
section
variable {P : Program} {w : World} {K : PySem.W.Frag} {mg : Str → Option Value} {base : Heap}
def sp_law (K : PySem.W.Frag) : Sp := fun vs H Q _ => match vs with
  | [.ref a] => (∃ ns : List Int, ns.length ≤ 63 ∧ SqL K H a (ns.map V.int)) ∧ ∀ H', Q (.bl true) H'
  | _ => False
theorem ok_law (T : Top K mg) (k : Nat) : Ok_law P w base T (k + 13) (sp_law K) := by
  have G__law_told : Ok__law_told P w base T 11 sp_told := ok_told T 0
  have G_escape : Ok_escape P w base T 10 sp_esc := ok_escape T 0
  have G__law_right : Ok__law_right P w base T 12 sp_right := ok_right T 0
  have G__law_pool : Ok__law_pool P w base T 1 sp_pool := ok_pool T 0
  have G__law_cell : Ok__law_cell P w base T 1 (sp_cell K) := ok_cell T 0
  refine T.F_law.ok sc_law (fun vs H Q E h => ?_) (fun cdv A outer s H vs Q E hr h => ⟨_, PSs.nox (pss_cons (ps_set (i := 1) sc_law.nd rfl (by first | exact .inl rfl | exact .inr rfl) pe_str)
      (pss_cons (ps_for PassesOwn.never rfl (ilist K (pe_lst (pa_cons pe_str (pa_cons pe_str (pa_cons pe_str (pa_cons pe_str (pa_cons pe_str pa_nil))))))) (pg_name (i := 2) sc_law.nd rfl (by first | exact .inl rfl | exact .inr rfl)) (pss_one (sif (pt_not (tst (pe_callB (kall K rfl) (by rfl) T.n_all (by decide +kernel) (pa_cons (pe_lc (own := [("_law_sign", 7)])  rfl sc_law.nd (ilist K (pe_op (kplus K) (pe_callTy (klstU K hr.hd) (by rfl) T.n_list (by decide +kernel) (pa_cons (vr 1) pa_nil)) (pe_lst (pa_cons pe_str (pa_cons pe_int pa_nil))))) (blkOk_by (own := [("_law_sign", 7)]) (N := ["_law_script", "_law_signs", "_law_where", "_law_rows", "_law_k", "_law_thing_here", "_law_due", "_law_sign"]) (sc := defScope s_law) (by decide +kernel)) (fun _ _ _ _ _ => (pg_name (i := 7) sc_law.nd rfl (by first | exact .inl rfl | exact .inr rfl))) (fun _ _ _ _ _ => pts_nil) (fun _ _ _ _ _ => up (pe_call G__law_told (hr.mono (by omega)) (by rfl) T.g__law_told T.F__law_told.kp (b__law_told T) .nil pass0 (pa_cons (vr 2) (pa_cons (vr 7) pa_nil))))) pa_nil)))) (pss_one (ps_ret pe_bl)) pss_nil)))
      (pss_cons (ps_set (i := 3) sc_law.nd rfl (by first | exact .inl rfl | exact .inr rfl) (pe_lst (pa_cons (pe_lst (pa_cons pe_str (pa_cons pe_str (pa_cons pe_str pa_nil)))) (pa_cons (pe_lst (pa_cons pe_str (pa_cons pe_str (pa_cons pe_str pa_nil)))) (pa_cons (pe_lst (pa_cons pe_str (pa_cons pe_str (pa_cons pe_str pa_nil)))) pa_nil)))))
      (pss_cons (ps_expr (kapp (pe_bm PySem.F.plainAttrs_list PySem.F.slot_list_append PySem.F.type_list_append mt_append (up (vr 3)) (pa_cons (up (pe_lst (pa_cons pe_str (pa_cons pe_str (pa_cons pe_str pa_nil))))) pa_nil))))
      (pss_cons (ps_set (i := 3) sc_law.nd rfl (by first | exact .inl rfl | exact .inr rfl) (pe_op (kplus K) (vr 3) (pe_lst (pa_cons (pe_lst (pa_cons pe_str (pa_cons (pe_un un_negU pe_int) (pa_cons pe_str pa_nil)))) (pa_cons (pe_lst (pa_cons pe_str (pa_cons pe_str (pa_cons pe_str pa_nil)))) (pa_cons (pe_lst (pa_cons pe_str (pa_cons pe_bl (pa_cons pe_str pa_nil)))) pa_nil))))))
      (pss_cons (ps_expr (kapp (pe_bm PySem.F.plainAttrs_list PySem.F.slot_list_append PySem.F.type_list_append mt_append (up (vr 3)) (pa_cons (up (pe_lst (pa_cons pe_str (pa_cons (pe_tup (pa_cons (pe_tup pa_nil) (pa_cons pe_dnewK pa_nil))) (pa_cons pe_str pa_nil))))) pa_nil))))
      (pss_cons (ps_set (i := 3) sc_law.nd rfl (by first | exact .inl rfl | exact .inr rfl) (pe_op (kplus K) (vr 3) (pe_lst (pa_cons (pe_lst (pa_cons pe_str (pa_cons pe_int (pa_cons pe_str pa_nil)))) (pa_cons (pe_lst (pa_cons pe_str (pa_cons (pe_tup (pa_cons pe_bl (pa_cons pe_int pa_nil))) (pa_cons pe_str pa_nil)))) (pa_cons (pe_lst (pa_cons pe_str (pa_cons (pe_tup (pa_cons pe_int (pa_cons pe_bl pa_nil))) (pa_cons pe_str pa_nil)))) pa_nil))))))
      (pss_cons (ps_set (i := 3) sc_law.nd rfl (by first | exact .inl rfl | exact .inr rfl) (pe_op (kplus K) (vr 3) (pe_lst (pa_cons (pe_lst (pa_cons pe_str (pa_cons pe_bl (pa_cons pe_str pa_nil)))) (pa_cons (pe_lst (pa_cons pe_str (pa_cons pe_int (pa_cons pe_str pa_nil)))) (pa_cons (pe_lst (pa_cons pe_str (pa_cons (pe_disp (pps_cons pe_str pe_int pps_nil) (by rfl) (by rfl) (fun z => by cases z) (by decide)) (pa_cons pe_str pa_nil)))) pa_nil))))))
      (pss_cons (ps_set (i := 3) sc_law.nd rfl (by first | exact .inl rfl | exact .inr rfl) (pe_op (kplus K) (vr 3) (pe_lst (pa_cons (pe_lst (pa_cons pe_str (pa_cons pe_str (pa_cons pe_str pa_nil)))) (pa_cons (pe_lst (pa_cons pe_str (pa_cons pe_str (pa_cons pe_str pa_nil)))) pa_nil)))))
      (pss_cons (ps_set (i := 3) sc_law.nd rfl (by first | exact .inl rfl | exact .inr rfl) (pe_op (kplus K) (vr 3) (pe_lst (pa_cons (pe_lst (pa_cons pe_str (pa_cons pe_str (pa_cons pe_str pa_nil)))) (pa_cons (pe_lst (pa_cons pe_str (pa_cons pe_str (pa_cons pe_str pa_nil)))) pa_nil)))))
      (pss_cons (ps_set (i := 3) sc_law.nd rfl (by first | exact .inl rfl | exact .inr rfl) (pe_op (kplus K) (vr 3) (pe_lst (pa_cons (pe_lst (pa_cons pe_str (pa_cons pe_int (pa_cons pe_str pa_nil)))) pa_nil))))
      (pss_cons (sif (pt_not (tst (pe_callB (kall K rfl) (by rfl) T.n_all (by decide +kernel) (pa_cons (pe_lc (own := [("_law_where", 2), ("_law_thing_here", 5), ("_law_due", 6)])  rfl sc_law.nd (ilist K (vr 3)) (blkOk_by (own := [("_law_where", 2), ("_law_thing_here", 5), ("_law_due", 6)]) (N := ["_law_script", "_law_signs", "_law_where", "_law_rows", "_law_k", "_law_thing_here", "_law_due", "_law_sign"]) (sc := defScope s_law) (by decide +kernel)) (fun _ _ _ _ _ => (gunl K 3 rfl (gs_cons (pg_name (i := 2) sc_law.nd rfl (by first | exact .inl rfl | exact .inr rfl)) (gs_cons (pg_name (i := 5) sc_law.nd rfl (by first | exact .inl rfl | exact .inr rfl)) (gs_cons (pg_name (i := 6) sc_law.nd rfl (by first | exact .inl rfl | exact .inr rfl)) gs_nil))))) (fun _ _ _ _ _ => pts_nil) (fun _ _ _ _ _ => up (pe_cmpR (ksame K hr.units) (pe_call G_escape (hr.mono (by omega)) (by rfl) T.g_escape T.F_escape.kp (b_escape T) .nil pass0 (pa_cons (vr 2) (pa_cons (vr 5) pa_nil))) (vr 6) (nomark _)))) pa_nil)))) (pss_one (ps_ret pe_bl)) pss_nil)
      (pss_one (ps_ret (pe_callB (kall K rfl) (by rfl) T.n_all (by decide +kernel) (pa_cons (pe_lc (own := [("_law_k", 4)])  rfl sc_law.nd (pi_range1 (by rfl) T.n_range (pa_cons (pe_callB (call_maxU rfl) (by rfl) T.n_max (by decide +kernel) (pa_cons pe_int (pa_cons (pe_callB (call_minU rfl) (by rfl) T.n_min (by decide +kernel) (pa_cons (pe_callB (klen K) (by rfl) T.n_len (by decide +kernel) (pa_cons (vr 0) pa_nil)) (pa_cons pe_int pa_nil))) pa_nil))) pa_nil)) (blkOk_by (own := [("_law_k", 4)]) (N := ["_law_script", "_law_signs", "_law_where", "_law_rows", "_law_k", "_law_thing_here", "_law_due", "_law_sign"]) (sc := defScope s_law) (by decide +kernel)) (fun _ _ _ _ _ => (pg_name (i := 4) sc_law.nd rfl (by first | exact .inl rfl | exact .inr rfl))) (fun _ _ _ _ _ => pts_nil) (fun _ _ _ _ _ => up (pe_call G__law_right (hr.mono (by omega)) (by rfl) T.g__law_right T.F__law_right.kp (b__law_right T) .nil pass0 (pa_cons (pe_call G__law_pool (hr.mono (by omega)) (by rfl) T.g__law_pool T.F__law_pool.kp (b__law_pool T) .nil pass0 (pa_cons (pe_call G__law_cell (hr.mono (by omega)) (by rfl) T.g__law_cell T.F__law_cell.kp (b__law_cell T) .nil pass0 (pa_cons (vr 0) (pa_cons (vr 4) pa_nil))) pa_nil)) pa_nil)))) pa_nil)))))))))))))))), ?_⟩)
  · unfold sp_law at h
    split at h
    · rfl
    · exact h.elim
  · unfold sp_law at h
    split at h
    · obtain ⟨⟨ns, hns, hS⟩, q⟩ := h
      rename_i a
      rw [st_law]
      refine ⟨Nat.le_of_ble_eq_true rfl, fun l nl => ⟨l, rfl, ⟨_, sqL_of upd_same⟩, ?_⟩⟩
      have s7 : Same H (upd H l (.lst [.str "text", .str "attribute", .str "part", .str "query", .str "data"])) := same_new nl
      have h7 : upd H l (.lst [.str "text", .str "attribute", .str "part", .str "query", .str "data"]) l = some (.lst [.str "text", .str "attribute", .str "part", .str "query", .str "data"]) := upd_same
      revert s7 h7
      generalize upd H l (.lst [.str "text", .str "attribute", .str "part", .str "query", .str "data"]) = HL
      intro s7 h7
      refine for_list (xs := [.str "text", .str "attribute", .str "part", .str "query", .str "data"]) (fun j σ H' => (∃ y2, σ = [some (.ref a), some (.str signsS), y2, none, none, none, none, none]) ∧ Same HL H') ⟨⟨_, rfl⟩, Same.refl _⟩ (fun j σ H' _ hv => sqL_of (hv.2 _ _ h7)) (fun j x σ H' hx hv => ?_) (fun σ G hv => ?_)
      · obtain ⟨⟨y2, rfl⟩, s8⟩ := hv
        obtain ⟨c, rfl, hc⟩ := five (List.mem_of_getElem? hx)
        refine ⟨by decide +kernel, fun l1 n1 => ⟨Nat.le_of_ble_eq_true rfl, fun l2 n2 => .inl ⟨l1, l2, _, _, rfl, rfl, same_new n2 _ _ upd_same, upd_same, by decide +kernel, fun l3 n3 => ⟨l3, rfl, ⟨_, sqL_of upd_same⟩, fun D nD => ?_⟩⟩⟩⟩
        have s9 : Same H' (upd (upd (upd H' l1 (.lst (sgs signsS))) l2 (.lst [.str "", .int 0])) l3 (.lst (sgs signsS ++ [.str "", .int 0]))) := ((same_new n1).trans (same_new n2)).trans (same_new n3)
        have h9 : upd (upd (upd H' l1 (.lst (sgs signsS))) l2 (.lst [.str "", .int 0])) l3 (.lst (sgs signsS ++ [.str "", .int 0])) l3 = some (.lst (sgs signsS ++ [.str "", .int 0])) := upd_same
        refine lcl (xs := sgs signsS ++ [.str "", .int 0]) fr_same (fun _ v _ => v = .bl true) trivial nD (by decide +kernel) (fun H1 _ s1 => sqL_of (s1 _ _ h9)) (fun _ _ _ _ h _ => h) (fun _ => rfl) (fun i x H1 hx _ s1 => ?_) (fun H1 ys _ s1 l1 e1 q1 => ?_)
        · exact ⟨esc_flat (signs_flat (List.mem_of_getElem? hx)) hc, fun H2 s2 => ⟨trivial, s2, rfl⟩⟩
        · obtain ⟨bs, rfl, hb⟩ := bls_of q1
          refine ⟨_, bs, rfl, sqL_of e1, ?_⟩
          rw [hb]
          exact ⟨⟨_, rfl⟩, s8.trans (s9.trans s1)⟩
      · obtain ⟨⟨y2, rfl⟩, s8⟩ := hv
        have sG : Same H G := s7.trans s8
        clear s7 h7 s8
        refine ⟨Nat.le_of_ble_eq_true rfl, fun l0 n0 => ⟨Nat.le_of_ble_eq_true rfl, fun l1 n1 => ⟨Nat.le_of_ble_eq_true rfl, fun l2 n2 => ⟨Nat.le_of_ble_eq_true rfl, fun L0 nL0 => ?_⟩⟩⟩⟩
        have S0 := rows_new (H0 := H) (rs := [.ref l0, .ref l1, .ref l2]) (sG.trans ((((same_new (o := .lst [.str "part", .str "\n", .str "~0a"]) n0)).trans (same_new (o := .lst [.str "query", .str "~", .str "~7e"]) n1)).trans (same_new (o := .lst [.str "attribute", .str "<&\">", .str "&lt;&amp;&quot;>"]) n2))) nL0 (fun r hr => by
          simp only [List.mem_cons, List.mem_nil_iff, or_false] at hr
          rcases hr with rfl | rfl | rfl
          · exact (row_new n0 (esc_0 _)).same (((same_new (o := .lst [.str "query", .str "~", .str "~7e"]) n1)).trans (same_new (o := .lst [.str "attribute", .str "<&\">", .str "&lt;&amp;&quot;>"]) n2))
          · exact (row_new n1 (esc_1 _)).same ((same_new (o := .lst [.str "attribute", .str "<&\">", .str "&lt;&amp;&quot;>"]) n2))
          · exact (row_new n2 (esc_2 _)).same (Same.refl _))
        obtain ⟨rs1, e1, c1, _⟩ := S0.rows
        have c1 : rs1.length ≤ 3 := c1
        refine ⟨⟨_, e1⟩, ⟨Nat.le_of_ble_eq_true rfl, fun l3 n3 => ⟨rs1, ((same_new (o := .lst [.str "text", .str "\"<&", .str "\"&lt;&amp;"]) n3)) _ _ e1, size_lt (by omega), ?_⟩⟩⟩
        have S1 := (S0.on ((same_new (o := .lst [.str "text", .str "\"<&", .str "\"&lt;&amp;"]) n3))).app (((same_new (o := .lst [.str "text", .str "\"<&", .str "\"&lt;&amp;"]) n3)) _ _ e1) (row_new n3 (esc_3 _)) (fun z => by
          cases z
          have := (Same.refl _) _ _ e1
          rw [n3] at this
          cases this)
        obtain ⟨rs2, e2, c2, _⟩ := S1.rows
        have c2 : rs2.length ≤ 4 := c2
        refine ⟨Nat.le_of_ble_eq_true rfl, fun l4 n4 => ⟨Nat.le_of_ble_eq_true rfl, fun l5 n5 => ⟨Nat.le_of_ble_eq_true rfl, fun l6 n6 => ⟨Nat.le_of_ble_eq_true rfl, fun M2 nM2 => .inl ⟨L0, M2, rs2, _, rfl, rfl, (((((same_new (o := .lst [.str "part", .int (-7), .str "-7"]) n4)).trans (same_new (o := .lst [.str "data", .str "-7\n", .str "\"-7\\n\""]) n5)).trans (same_new (o := .lst [.str "data", .bl true, .str "true"]) n6)).trans (same_new (o := .lst [.ref l4, .ref l5, .ref l6]) nM2)) _ _ e2, upd_same, size_le (by show rs2.length + 3 ≤ _; omega), fun L2 nL2 => ?_⟩⟩⟩⟩⟩
        have S2 := (S1.on (((((same_new (o := .lst [.str "part", .int (-7), .str "-7"]) n4)).trans (same_new (o := .lst [.str "data", .str "-7\n", .str "\"-7\\n\""]) n5)).trans (same_new (o := .lst [.str "data", .bl true, .str "true"]) n6)).trans (same_new (o := .lst [.ref l4, .ref l5, .ref l6]) nM2))).cat (ms := [.ref l4, .ref l5, .ref l6]) ((((((same_new (o := .lst [.str "part", .int (-7), .str "-7"]) n4)).trans (same_new (o := .lst [.str "data", .str "-7\n", .str "\"-7\\n\""]) n5)).trans (same_new (o := .lst [.str "data", .bl true, .str "true"]) n6)).trans (same_new (o := .lst [.ref l4, .ref l5, .ref l6]) nM2)) _ _ e2) (fun r hr => by
          simp only [List.mem_cons, List.mem_nil_iff, or_false] at hr
          rcases hr with rfl | rfl | rfl
          · exact (row_new n4 (esc_4 _)).same ((((same_new (o := .lst [.str "data", .str "-7\n", .str "\"-7\\n\""]) n5)).trans (same_new (o := .lst [.str "data", .bl true, .str "true"]) n6)).trans (same_new (o := .lst [.ref l4, .ref l5, .ref l6]) nM2))
          · exact (row_new n5 (esc_5 _)).same (((same_new (o := .lst [.str "data", .bl true, .str "true"]) n6)).trans (same_new (o := .lst [.ref l4, .ref l5, .ref l6]) nM2))
          · exact (row_new n6 (esc_6 _)).same ((same_new (o := .lst [.ref l4, .ref l5, .ref l6]) nM2))) nL2
        obtain ⟨rs3, e3, c3, _⟩ := S2.rows
        have c3 : rs3.length ≤ 7 := c3
        refine ⟨⟨_, e3⟩, ⟨Nat.le_of_ble_eq_true rfl, fun p7 np7 d7 nd7 => ⟨Nat.le_of_ble_eq_true rfl, fun t7 m7 => ⟨Nat.le_of_ble_eq_true rfl, fun l7 n7 => ⟨rs3, (((((same_new (o := .tup []) np7)).trans (same_new (o := .dK []) nd7)).trans (same_new (o := .tup [.ref p7, .ref d7]) m7)).trans (same_new (o := .lst [.str "data", .ref t7, .str "[[],{}]"]) n7)) _ _ e3, size_lt (by omega), ?_⟩⟩⟩⟩⟩
        have S3 := (S2.on (((((same_new (o := .tup []) np7)).trans (same_new (o := .dK []) nd7)).trans (same_new (o := .tup [.ref p7, .ref d7]) m7)).trans (same_new (o := .lst [.str "data", .ref t7, .str "[[],{}]"]) n7))).app ((((((same_new (o := .tup []) np7)).trans (same_new (o := .dK []) nd7)).trans (same_new (o := .tup [.ref p7, .ref d7]) m7)).trans (same_new (o := .lst [.str "data", .ref t7, .str "[[],{}]"]) n7)) _ _ e3) (row_new n7 (esc_empty upd_same (same_new m7 _ _ (same_new nd7 _ _ upd_same)) (same_new m7 _ _ upd_same))) (fun z => by
          cases z
          have := ((((same_new (o := .tup []) np7)).trans (same_new (o := .dK []) nd7)).trans (same_new (o := .tup [.ref p7, .ref d7]) m7)) _ _ e3
          rw [n7] at this
          cases this)
        obtain ⟨rs4, e4, c4, _⟩ := S3.rows
        have c4 : rs4.length ≤ 8 := c4
        refine ⟨Nat.le_of_ble_eq_true rfl, fun l8 n8 => ⟨Nat.le_of_ble_eq_true rfl, fun t9 m9 => ⟨Nat.le_of_ble_eq_true rfl, fun l9 n9 => ⟨Nat.le_of_ble_eq_true rfl, fun t10 m10 => ⟨Nat.le_of_ble_eq_true rfl, fun l10 n10 => ⟨Nat.le_of_ble_eq_true rfl, fun M4 nM4 => .inl ⟨L2, M4, rs4, _, rfl, rfl, (((((((same_new (o := .lst [.str "data", .int 1, .str "1"]) n8)).trans (same_new (o := .tup [.bl true, .int 1]) m9)).trans (same_new (o := .lst [.str "data", .ref t9, .str "[true,1]"]) n9)).trans (same_new (o := .tup [.int 1, .bl true]) m10)).trans (same_new (o := .lst [.str "data", .ref t10, .str "[1,true]"]) n10)).trans (same_new (o := .lst [.ref l8, .ref l9, .ref l10]) nM4)) _ _ e4, upd_same, size_le (by show rs4.length + 3 ≤ _; omega), fun L4 nL4 => ?_⟩⟩⟩⟩⟩⟩⟩
        have S4 := (S3.on (((((((same_new (o := .lst [.str "data", .int 1, .str "1"]) n8)).trans (same_new (o := .tup [.bl true, .int 1]) m9)).trans (same_new (o := .lst [.str "data", .ref t9, .str "[true,1]"]) n9)).trans (same_new (o := .tup [.int 1, .bl true]) m10)).trans (same_new (o := .lst [.str "data", .ref t10, .str "[1,true]"]) n10)).trans (same_new (o := .lst [.ref l8, .ref l9, .ref l10]) nM4))).cat (ms := [.ref l8, .ref l9, .ref l10]) ((((((((same_new (o := .lst [.str "data", .int 1, .str "1"]) n8)).trans (same_new (o := .tup [.bl true, .int 1]) m9)).trans (same_new (o := .lst [.str "data", .ref t9, .str "[true,1]"]) n9)).trans (same_new (o := .tup [.int 1, .bl true]) m10)).trans (same_new (o := .lst [.str "data", .ref t10, .str "[1,true]"]) n10)).trans (same_new (o := .lst [.ref l8, .ref l9, .ref l10]) nM4)) _ _ e4) (fun r hr => by
          simp only [List.mem_cons, List.mem_nil_iff, or_false] at hr
          rcases hr with rfl | rfl | rfl
          · exact (row_new n8 (esc_8 _)).same ((((((same_new (o := .tup [.bl true, .int 1]) m9)).trans (same_new (o := .lst [.str "data", .ref t9, .str "[true,1]"]) n9)).trans (same_new (o := .tup [.int 1, .bl true]) m10)).trans (same_new (o := .lst [.str "data", .ref t10, .str "[1,true]"]) n10)).trans (same_new (o := .lst [.ref l8, .ref l9, .ref l10]) nM4))
          · exact (row_new n9 (esc_pair upd_same (by first | exact trivial | exact (show Int.natAbs _ ≤ 10 ^ 30 by decide)) (by first | exact trivial | exact (show Int.natAbs _ ≤ 10 ^ 30 by decide)) (by decide +kernel))).same ((((same_new (o := .tup [.int 1, .bl true]) m10)).trans (same_new (o := .lst [.str "data", .ref t10, .str "[1,true]"]) n10)).trans (same_new (o := .lst [.ref l8, .ref l9, .ref l10]) nM4))
          · exact (row_new n10 (esc_pair upd_same (by first | exact trivial | exact (show Int.natAbs _ ≤ 10 ^ 30 by decide)) (by first | exact trivial | exact (show Int.natAbs _ ≤ 10 ^ 30 by decide)) (by decide +kernel))).same ((same_new (o := .lst [.ref l8, .ref l9, .ref l10]) nM4))) nL4
        obtain ⟨rs5, e5, c5, _⟩ := S4.rows
        have c5 : rs5.length ≤ 11 := c5
        refine ⟨Nat.le_of_ble_eq_true rfl, fun l11 n11 => ⟨Nat.le_of_ble_eq_true rfl, fun l12 n12 => fun t13 m13 => ⟨upd_same, [(.inr "a", .int 0)], rfl, by decide, ⟨Nat.le_of_ble_eq_true rfl, fun l13 n13 => ⟨Nat.le_of_ble_eq_true rfl, fun M5 nM5 => .inl ⟨L4, M5, rs5, _, rfl, rfl, ((((((same_new (o := .lst [.str "data", .bl false, .str "false"]) n11)).trans (same_new (o := .lst [.str "data", .int 0, .str "0"]) n12)).trans (same_two (o := .dK []) (o' := .dK [(.inr "a", .int 0)]) m13)).trans (same_new (o := .lst [.str "data", .ref t13, .str "{\"a\":0}"]) n13)).trans (same_new (o := .lst [.ref l11, .ref l12, .ref l13]) nM5)) _ _ e5, upd_same, size_le (by show rs5.length + 3 ≤ _; omega), fun L5 nL5 => ?_⟩⟩⟩⟩⟩⟩
        have S5 := (S4.on ((((((same_new (o := .lst [.str "data", .bl false, .str "false"]) n11)).trans (same_new (o := .lst [.str "data", .int 0, .str "0"]) n12)).trans (same_two (o := .dK []) (o' := .dK [(.inr "a", .int 0)]) m13)).trans (same_new (o := .lst [.str "data", .ref t13, .str "{\"a\":0}"]) n13)).trans (same_new (o := .lst [.ref l11, .ref l12, .ref l13]) nM5))).cat (ms := [.ref l11, .ref l12, .ref l13]) (((((((same_new (o := .lst [.str "data", .bl false, .str "false"]) n11)).trans (same_new (o := .lst [.str "data", .int 0, .str "0"]) n12)).trans (same_two (o := .dK []) (o' := .dK [(.inr "a", .int 0)]) m13)).trans (same_new (o := .lst [.str "data", .ref t13, .str "{\"a\":0}"]) n13)).trans (same_new (o := .lst [.ref l11, .ref l12, .ref l13]) nM5)) _ _ e5) (fun r hr => by
          simp only [List.mem_cons, List.mem_nil_iff, or_false] at hr
          rcases hr with rfl | rfl | rfl
          · exact (row_new n11 (esc_11 _)).same (((((same_new (o := .lst [.str "data", .int 0, .str "0"]) n12)).trans (same_two (o := .dK []) (o' := .dK [(.inr "a", .int 0)]) m13)).trans (same_new (o := .lst [.str "data", .ref t13, .str "{\"a\":0}"]) n13)).trans (same_new (o := .lst [.ref l11, .ref l12, .ref l13]) nM5))
          · exact (row_new n12 (esc_12 _)).same ((((same_two (o := .dK []) (o' := .dK [(.inr "a", .int 0)]) m13)).trans (same_new (o := .lst [.str "data", .ref t13, .str "{\"a\":0}"]) n13)).trans (same_new (o := .lst [.ref l11, .ref l12, .ref l13]) nM5))
          · exact (row_new n13 (esc_dict upd_same)).same ((same_new (o := .lst [.ref l11, .ref l12, .ref l13]) nM5))) nL5
        obtain ⟨rs6, e6, c6, _⟩ := S5.rows
        have c6 : rs6.length ≤ 14 := c6
        refine ⟨Nat.le_of_ble_eq_true rfl, fun l14 n14 => ⟨Nat.le_of_ble_eq_true rfl, fun l15 n15 => ⟨Nat.le_of_ble_eq_true rfl, fun M6 nM6 => .inl ⟨L5, M6, rs6, _, rfl, rfl, ((((same_new (o := .lst [.str "data", .str "C:\\new\\lib", .str "\"C:\\\\new\\\\lib\""]) n14)).trans (same_new (o := .lst [.str "data", .str "\\\\n\\\\l", .str "\"\\\\\\\\n\\\\\\\\l\""]) n15)).trans (same_new (o := .lst [.ref l14, .ref l15]) nM6)) _ _ e6, upd_same, size_le (by show rs6.length + 2 ≤ _; omega), fun L6 nL6 => ?_⟩⟩⟩⟩
        have S6 := (S5.on ((((same_new (o := .lst [.str "data", .str "C:\\new\\lib", .str "\"C:\\\\new\\\\lib\""]) n14)).trans (same_new (o := .lst [.str "data", .str "\\\\n\\\\l", .str "\"\\\\\\\\n\\\\\\\\l\""]) n15)).trans (same_new (o := .lst [.ref l14, .ref l15]) nM6))).cat (ms := [.ref l14, .ref l15]) (((((same_new (o := .lst [.str "data", .str "C:\\new\\lib", .str "\"C:\\\\new\\\\lib\""]) n14)).trans (same_new (o := .lst [.str "data", .str "\\\\n\\\\l", .str "\"\\\\\\\\n\\\\\\\\l\""]) n15)).trans (same_new (o := .lst [.ref l14, .ref l15]) nM6)) _ _ e6) (fun r hr => by
          simp only [List.mem_cons, List.mem_nil_iff, or_false] at hr
          rcases hr with rfl | rfl
          · exact (row_new n14 (esc_14 _)).same (((same_new (o := .lst [.str "data", .str "\\\\n\\\\l", .str "\"\\\\\\\\n\\\\\\\\l\""]) n15)).trans (same_new (o := .lst [.ref l14, .ref l15]) nM6))
          · exact (row_new n15 (esc_15 _)).same ((same_new (o := .lst [.ref l14, .ref l15]) nM6))) nL6
        obtain ⟨rs7, e7, c7, _⟩ := S6.rows
        have c7 : rs7.length ≤ 16 := c7
        refine ⟨Nat.le_of_ble_eq_true rfl, fun l16 n16 => ⟨Nat.le_of_ble_eq_true rfl, fun l17 n17 => ⟨Nat.le_of_ble_eq_true rfl, fun M7 nM7 => .inl ⟨L6, M7, rs7, _, rfl, rfl, ((((same_new (o := .lst [.str "data", .str "\\<\\\n\\\"", .str "\"\\\\\\l\\\\\\n\\\\\\\"\""]) n16)).trans (same_new (o := .lst [.str "text", .str "\\n\\l\\<", .str "\\n\\l\\&lt;"]) n17)).trans (same_new (o := .lst [.ref l16, .ref l17]) nM7)) _ _ e7, upd_same, size_le (by show rs7.length + 2 ≤ _; omega), fun L7 nL7 => ?_⟩⟩⟩⟩
        have S7 := (S6.on ((((same_new (o := .lst [.str "data", .str "\\<\\\n\\\"", .str "\"\\\\\\l\\\\\\n\\\\\\\"\""]) n16)).trans (same_new (o := .lst [.str "text", .str "\\n\\l\\<", .str "\\n\\l\\&lt;"]) n17)).trans (same_new (o := .lst [.ref l16, .ref l17]) nM7))).cat (ms := [.ref l16, .ref l17]) (((((same_new (o := .lst [.str "data", .str "\\<\\\n\\\"", .str "\"\\\\\\l\\\\\\n\\\\\\\"\""]) n16)).trans (same_new (o := .lst [.str "text", .str "\\n\\l\\<", .str "\\n\\l\\&lt;"]) n17)).trans (same_new (o := .lst [.ref l16, .ref l17]) nM7)) _ _ e7) (fun r hr => by
          simp only [List.mem_cons, List.mem_nil_iff, or_false] at hr
          rcases hr with rfl | rfl
          · exact (row_new n16 (esc_16 _)).same (((same_new (o := .lst [.str "text", .str "\\n\\l\\<", .str "\\n\\l\\&lt;"]) n17)).trans (same_new (o := .lst [.ref l16, .ref l17]) nM7))
          · exact (row_new n17 (esc_17 _)).same ((same_new (o := .lst [.ref l16, .ref l17]) nM7))) nL7
        obtain ⟨rs8, e8, c8, _⟩ := S7.rows
        have c8 : rs8.length ≤ 18 := c8
        refine ⟨Nat.le_of_ble_eq_true rfl, fun l18 n18 => ⟨Nat.le_of_ble_eq_true rfl, fun M8 nM8 => .inl ⟨L7, M8, rs8, _, rfl, rfl, (((same_new (o := .lst [.str "part", .int 1, .str "1"]) n18)).trans (same_new (o := .lst [.ref l18]) nM8)) _ _ e8, upd_same, size_le (by show rs8.length + 1 ≤ _; omega), fun L8 nL8 => ?_⟩⟩⟩
        have S8 := (S7.on (((same_new (o := .lst [.str "part", .int 1, .str "1"]) n18)).trans (same_new (o := .lst [.ref l18]) nM8))).cat (ms := [.ref l18]) ((((same_new (o := .lst [.str "part", .int 1, .str "1"]) n18)).trans (same_new (o := .lst [.ref l18]) nM8)) _ _ e8) (fun r hr => by
          simp only [List.mem_cons, List.mem_nil_iff, or_false] at hr
          subst hr
          · exact (row_new n18 (esc_18 _)).same ((same_new (o := .lst [.ref l18]) nM8))) nL8
        simp only [List.set_cons_succ, List.set_cons_zero]
        obtain ⟨s9, _, rs, e9, c9, h9⟩ := S8
        have c9 : rs.length ≤ 19 := c9
        refine ⟨L8, rfl, ⟨_, sqL_of e9⟩, fun D nD => ?_⟩
        refine lcw (walk_list (xs := rs)) fr_same (fun _ v _ => v = .bl true) trivial nD (by omega) gm_unl (fun H1 _ s1 => sqL_of (s1 _ _ e9)) (fun _ _ _ _ h _ => h) (fun i x H1 H1' hi _ s1 hy => ?_) (fun H1 ys _ s1 l1 e1 q1 => ?_)
        · obtain ⟨rfl, hx⟩ := hy
          obtain ⟨l, c, v, d, rfl, hl, esc⟩ := (h9 x (List.mem_of_getElem? hx)).1.same s1
          refine ⟨l, _, rfl, sqL_of hl, rfl, rfl, d, esc, fun H2 s2 => ⟨trivial, s2, ?_⟩⟩
          show V.bl (decide (V.str d = V.str d)) = _
          rw [decide_eq_true rfl]
        · obtain ⟨bs, rfl, hb⟩ := bls_of q1
          refine ⟨_, bs, rfl, sqL_of e1, ?_⟩
          rw [hb]
          have sH : Same H H1 := s9.trans s1
          have hS1 := sqL_same sH hS
          refine ⟨_, .inl hS1, ?_⟩
          refine ⟨_, rfl, ?_, ?_, fun D2 nD2 => ?_⟩
          · rw [List.length_map]
            split <;> split <;> omega
          · rw [List.length_map]
            split <;> split <;> omega
          refine lcr fr_same (fun _ v _ => v = .bl true) trivial nD2 ?_ (fun _ _ _ _ h _ => h) (fun _ => rfl) (fun i H2 hi _ s2 => ?_) (fun H2 ys2 _ s2 l2 e2 q2 => ?_)
          · rw [List.length_map]
            split <;> split <;> omega
          · have hi8 : i < 64 := by
              rw [List.length_map] at hi
              split at hi <;> split at hi <;> omega
            refine ⟨⟨ns, sqL_same s2 hS1⟩, by omega, by omega, fun z H3 s3 b H4 s4 nb p4 => ⟨p4, fun H5 p5 k5 => ⟨trivial, ?_, rfl⟩⟩⟩
            intro x o hx
            have h3 := s3 _ _ hx
            exact k5 x o (ne_of_none h3 nb) (s4 _ _ h3)
          · obtain ⟨bs2, rfl, hb2⟩ := bls_of q2
            refine ⟨_, bs2, rfl, sqL_of e2, ?_⟩
            rw [hb2]
            exact q _
    · exact h.elim
end
end Sk
namespace Sk
open PySem PySem.Spec PyProof.Rows L2
def fn : List He.DefD := [d_is_whole, d_is_name, d_has_level, d_write_text, d_write_attribute, d_write_sign, d_write_code, d_write_literal, d_is_value, d_escape_text, d_check_context, d_escape, d__law_cell, d__law_pool, d__law_draw, d__law_words, d__law_chars, d__law_form, d__law_thing_of, d__law_code, d__law_literal, d__law_escaped, d__law_told, d__law_turned, d__law_right, d_law]
def fa : List He.Fa := [.glo "is_whole", .glo "is_name", .glo "has_level", .glo "write_text", .glo "write_attribute", .glo "write_sign", .glo "write_code", .glo "write_literal", .glo "is_value", .glo "escape_text", .glo "check_context", .glo "escape", .glo "_law_cell", .glo "_law_pool", .glo "_law_draw", .glo "_law_words", .glo "_law_chars", .glo "_law_form", .glo "_law_thing_of", .glo "_law_code", .glo "_law_literal", .glo "_law_escaped", .glo "_law_told", .glo "_law_turned", .glo "_law_right", .glo "law", .int "MAX_ELEMENTS" 60, .int "MAX_LEVELS" 6, .str "LETTERS" "abcdefghijklmnopqrstuvwxyz", .str "HEX" "0123456789abcdef", .str "CODED" (Str.ofString ("\n !\"#$&'()*+,/:;<=>?@" ++ "[\\]^`{|}~")), .str "DATA" "data", .glo "ALL_CONTEXTS", .glo "ShapeError", .glo "InvalidValue", .glo "InvalidContext", .free "ValueError", .free "abs", .free "all", .free "bool", .free "dict", .free "divmod", .free "int", .free "isinstance", .free "len", .free "list", .free "max", .free "min", .free "ord", .free "range", .free "sorted", .free "str", .free "tuple"]
def ex (K : PySem.W.Frag) : Bool := (He.tupB K "ALL_CONTEXTS" [.str "text", .str "attribute", .str "part", .str "query", .str "data"] && true)
abbrev R : PySem.W.OpenRow := PySem.W.OpenLaw.row PySem.Challenge.rw_shapekeep_k22_escapes
abbrev hk : PySem.W.Hook := He.hookX 4 fa fn [] [] ex
def ob (s : PySem.W.SharedT) : He.AlX := He.obsX 4 fa fn [] [] ex (HandSHeadRun.getT s)
theorem ob_eq (s : PySem.W.SharedT) : ob s = hk.obs s.abs := He.obsX_eq (HandSHeadRun.getT_eq s)
def loose0 : List PySem.Str := ["MAX_ELEMENTS", "MAX_LEVELS", "LETTERS", "is_whole", "is_name", "has_level", "HEX", "CODED", "write_text", "write_attribute", "write_sign", "write_code", "ShapeError", "InvalidValue", "InvalidContext", "write_literal", "is_value", "DATA", "ALL_CONTEXTS", "escape_text", "check_context", "escape", "_law_cell", "_law_pool"]
def loose1 : List PySem.Str := ["_law_draw", "_law_words", "_law_chars", "_law_form", "_law_thing_of", "_law_code", "_law_literal", "_law_escaped", "_law_told", "_law_turned", "_law_right"]
def loose : List PySem.Str := loose0 ++ loose1
theorem run (w : World) : HandSHeadRun.RunEq R (PySem.W.view R.prog [42]) hk ob 4000 loose w := by
  intro os
  kernel_rfl
theorem top_of {K : PySem.W.Frag} {h : Heap} {mg : Str → Option Value} (X : K.In h) (G : h.Ns mainGlobals mg) (c : He.SaysD fa fn K) (m : ex K = true) : Nonempty (Top K mg) := by
  obtain ⟨fd0, F0⟩ := c.def_ 0 (d := d_is_whole) rfl
  obtain ⟨fd1, F1⟩ := c.def_ 1 (d := d_is_name) rfl
  obtain ⟨fd2, F2⟩ := c.def_ 2 (d := d_has_level) rfl
  obtain ⟨fd3, F3⟩ := c.def_ 3 (d := d_write_text) rfl
  obtain ⟨fd4, F4⟩ := c.def_ 4 (d := d_write_attribute) rfl
  obtain ⟨fd5, F5⟩ := c.def_ 5 (d := d_write_sign) rfl
  obtain ⟨fd6, F6⟩ := c.def_ 6 (d := d_write_code) rfl
  obtain ⟨fd7, F7⟩ := c.def_ 7 (d := d_write_literal) rfl
  obtain ⟨fd8, F8⟩ := c.def_ 8 (d := d_is_value) rfl
  obtain ⟨fd9, F9⟩ := c.def_ 9 (d := d_escape_text) rfl
  obtain ⟨fd10, F10⟩ := c.def_ 10 (d := d_check_context) rfl
  obtain ⟨fd11, F11⟩ := c.def_ 11 (d := d_escape) rfl
  obtain ⟨fd12, F12⟩ := c.def_ 12 (d := d__law_cell) rfl
  obtain ⟨fd13, F13⟩ := c.def_ 13 (d := d__law_pool) rfl
  obtain ⟨fd14, F14⟩ := c.def_ 14 (d := d__law_draw) rfl
  obtain ⟨fd15, F15⟩ := c.def_ 15 (d := d__law_words) rfl
  obtain ⟨fd16, F16⟩ := c.def_ 16 (d := d__law_chars) rfl
  obtain ⟨fd17, F17⟩ := c.def_ 17 (d := d__law_form) rfl
  obtain ⟨fd18, F18⟩ := c.def_ 18 (d := d__law_thing_of) rfl
  obtain ⟨fd19, F19⟩ := c.def_ 19 (d := d__law_code) rfl
  obtain ⟨fd20, F20⟩ := c.def_ 20 (d := d__law_literal) rfl
  obtain ⟨fd21, F21⟩ := c.def_ 21 (d := d__law_escaped) rfl
  obtain ⟨fd22, F22⟩ := c.def_ 22 (d := d__law_told) rfl
  obtain ⟨fd23, F23⟩ := c.def_ 23 (d := d__law_turned) rfl
  obtain ⟨fd24, F24⟩ := c.def_ 24 (d := d__law_right) rfl
  obtain ⟨fd25, F25⟩ := c.def_ 25 (d := d_law) rfl
  obtain ⟨t26, c26⟩ := He.int_ok X G (c.fact 26 (f := .int "MAX_ELEMENTS" 60) rfl)
  obtain ⟨t27, c27⟩ := He.int_ok X G (c.fact 27 (f := .int "MAX_LEVELS" 6) rfl)
  obtain ⟨t28, c28⟩ := He.str_ok X G (c.fact 28 (f := .str "LETTERS" "abcdefghijklmnopqrstuvwxyz") rfl)
  obtain ⟨t29, c29⟩ := He.str_ok X G (c.fact 29 (f := .str "HEX" "0123456789abcdef") rfl)
  obtain ⟨t30, c30⟩ := He.str_ok X G (c.fact 30 (f := .str "CODED" (Str.ofString ("\n !\"#$&'()*+,/:;<=>?@" ++ "[\\]^`{|}~"))) rfl)
  obtain ⟨t31, c31⟩ := He.str_ok X G (c.fact 31 (f := .str "DATA" "data") rfl)
  unfold ex at m
  obtain ⟨m0, m⟩ := He.ba m
  exact ⟨{ fd_is_whole := fd0, F_is_whole := F0, g_is_whole := He.glo_ok X G (c.fact 0 (f := .glo "is_whole") rfl), fd_is_name := fd1, F_is_name := F1, g_is_name := He.glo_ok X G (c.fact 1 (f := .glo "is_name") rfl), fd_has_level := fd2, F_has_level := F2, g_has_level := He.glo_ok X G (c.fact 2 (f := .glo "has_level") rfl), fd_write_text := fd3, F_write_text := F3, g_write_text := He.glo_ok X G (c.fact 3 (f := .glo "write_text") rfl), fd_write_attribute := fd4, F_write_attribute := F4, g_write_attribute := He.glo_ok X G (c.fact 4 (f := .glo "write_attribute") rfl), fd_write_sign := fd5, F_write_sign := F5, g_write_sign := He.glo_ok X G (c.fact 5 (f := .glo "write_sign") rfl), fd_write_code := fd6, F_write_code := F6, g_write_code := He.glo_ok X G (c.fact 6 (f := .glo "write_code") rfl), fd_write_literal := fd7, F_write_literal := F7, g_write_literal := He.glo_ok X G (c.fact 7 (f := .glo "write_literal") rfl), fd_is_value := fd8, F_is_value := F8, g_is_value := He.glo_ok X G (c.fact 8 (f := .glo "is_value") rfl), fd_escape_text := fd9, F_escape_text := F9, g_escape_text := He.glo_ok X G (c.fact 9 (f := .glo "escape_text") rfl), fd_check_context := fd10, F_check_context := F10, g_check_context := He.glo_ok X G (c.fact 10 (f := .glo "check_context") rfl), fd_escape := fd11, F_escape := F11, g_escape := He.glo_ok X G (c.fact 11 (f := .glo "escape") rfl), fd__law_cell := fd12, F__law_cell := F12, g__law_cell := He.glo_ok X G (c.fact 12 (f := .glo "_law_cell") rfl), fd__law_pool := fd13, F__law_pool := F13, g__law_pool := He.glo_ok X G (c.fact 13 (f := .glo "_law_pool") rfl), fd__law_draw := fd14, F__law_draw := F14, g__law_draw := He.glo_ok X G (c.fact 14 (f := .glo "_law_draw") rfl), fd__law_words := fd15, F__law_words := F15, g__law_words := He.glo_ok X G (c.fact 15 (f := .glo "_law_words") rfl), fd__law_chars := fd16, F__law_chars := F16, g__law_chars := He.glo_ok X G (c.fact 16 (f := .glo "_law_chars") rfl), fd__law_form := fd17, F__law_form := F17, g__law_form := He.glo_ok X G (c.fact 17 (f := .glo "_law_form") rfl), fd__law_thing_of := fd18, F__law_thing_of := F18, g__law_thing_of := He.glo_ok X G (c.fact 18 (f := .glo "_law_thing_of") rfl), fd__law_code := fd19, F__law_code := F19, g__law_code := He.glo_ok X G (c.fact 19 (f := .glo "_law_code") rfl), fd__law_literal := fd20, F__law_literal := F20, g__law_literal := He.glo_ok X G (c.fact 20 (f := .glo "_law_literal") rfl), fd__law_escaped := fd21, F__law_escaped := F21, g__law_escaped := He.glo_ok X G (c.fact 21 (f := .glo "_law_escaped") rfl), fd__law_told := fd22, F__law_told := F22, g__law_told := He.glo_ok X G (c.fact 22 (f := .glo "_law_told") rfl), fd__law_turned := fd23, F__law_turned := F23, g__law_turned := He.glo_ok X G (c.fact 23 (f := .glo "_law_turned") rfl), fd__law_right := fd24, F__law_right := F24, g__law_right := He.glo_ok X G (c.fact 24 (f := .glo "_law_right") rfl), fd_law := fd25, F_law := F25, g_law := He.glo_ok X G (c.fact 25 (f := .glo "law") rfl), t_MAX_ELEMENTS := t26, c_MAX_ELEMENTS := c26, t_MAX_LEVELS := t27, c_MAX_LEVELS := c27, t_LETTERS := t28, c_LETTERS := c28, t_HEX := t29, c_HEX := c29, t_CODED := t30, c_CODED := c30, t_DATA := t31, c_DATA := c31, g_ALL_CONTEXTS := He.glo_ok X G (c.fact 32 (f := .glo "ALL_CONTEXTS") rfl), q_ALL_CONTEXTS := fun H => He.tupB_ok m0 H, g_ShapeError := He.glo_ok X G (c.fact 33 (f := .glo "ShapeError") rfl), g_InvalidValue := He.glo_ok X G (c.fact 34 (f := .glo "InvalidValue") rfl), g_InvalidContext := He.glo_ok X G (c.fact 35 (f := .glo "InvalidContext") rfl), n_ValueError := He.free_ok X G (c.fact 36 (f := .free "ValueError") rfl), n_abs := He.free_ok X G (c.fact 37 (f := .free "abs") rfl), n_all := He.free_ok X G (c.fact 38 (f := .free "all") rfl), n_bool := He.free_ok X G (c.fact 39 (f := .free "bool") rfl), n_dict := He.free_ok X G (c.fact 40 (f := .free "dict") rfl), n_divmod := He.free_ok X G (c.fact 41 (f := .free "divmod") rfl), n_int := He.free_ok X G (c.fact 42 (f := .free "int") rfl), n_isinstance := He.free_ok X G (c.fact 43 (f := .free "isinstance") rfl), n_len := He.free_ok X G (c.fact 44 (f := .free "len") rfl), n_list := He.free_ok X G (c.fact 45 (f := .free "list") rfl), n_max := He.free_ok X G (c.fact 46 (f := .free "max") rfl), n_min := He.free_ok X G (c.fact 47 (f := .free "min") rfl), n_ord := He.free_ok X G (c.fact 48 (f := .free "ord") rfl), n_range := He.free_ok X G (c.fact 49 (f := .free "range") rfl), n_sorted := He.free_ok X G (c.fact 50 (f := .free "sorted") rfl), n_str := He.free_ok X G (c.fact 51 (f := .free "str") rfl), n_tuple := He.free_ok X G (c.fact 52 (f := .free "tuple") rfl) }⟩
end Sk
open PySem PySem.W PySem.Calls PyProof.Rows
theorem PySem.Challenge.cw_shapekeep_k22_escapes_holds : PySem.Challenge.rw_shapekeep_k22_escapes.Holds := by
  w_on; o_law
  refine HandSHeadRun.head_any (r := OpenLaw.row PySem.Challenge.rw_shapekeep_k22_escapes) (q := view (OpenLaw.row PySem.Challenge.rw_shapekeep_k22_escapes).prog [42]) (H := Sk.hk) (ob := Sk.ob) (M := 4000) (loose := Sk.loose) (d := HandSHeadRun.topDef (OpenLaw.row PySem.Challenge.rw_shapekeep_k22_escapes).prog 42) (kwd := []) Sk.ob_eq
    (by kernel_rfl) (fun s => by kernel_rfl) Sk.run (by kernel_rfl) (by kernel_rfl) (by kernel_rfl) (by rfl) (by first | assumption | decide +kernel) (by decide +kernel) ⟨rfl, rfl, rfl, rfl, rfl, by decide +kernel⟩ ?hw ?hc
  case hw => w_witness2
  case hc =>
    refine L2.walk_ofE (l := PySem.Challenge.rw_shapekeep_k22_escapes) (n := 63) (k := 13) (x := "_law_script") (CX := L2.CX0) rfl (by decide) (by kernel_rfl) ⟨rfl, by decide, by decide⟩ ?F (fun _ _ _ _ z => z)
    intro w mg fa h Y G hmg0
    obtain ⟨K, KX, c⟩ := Y
    have hmg : mg ("law" : PySem.Str) = some (.ref fa) := by
      have e : (HandSHeadRun.topDef (OpenLaw.row PySem.Challenge.rw_shapekeep_k22_escapes).prog 42).name = ("law" : PySem.Str) := by kernel_rfl
      rw [← e]
      exact hmg0
    obtain ⟨T⟩ := Sk.top_of KX G c.t.d c.more
    have e := hmg.symm.trans T.g_law
    cases e
    have b := L2.FunD.bindsA (ps := ["_law_script"]) T.F_law fun _ _ _ _ _ _ us hl => match us, hl with | [_], _ => rfl
    exact ⟨K, T.fd_law, Sk.sp_law K, KX, fun s v => b s [v] rfl, fun H a ns hl _ hS => ⟨⟨ns, hl, hS⟩, fun _ => rfl⟩, fun base _ _ => Sk.ok_law T 0⟩
