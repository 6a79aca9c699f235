import PyProof.Rows.All
import Wide.All
import OpenK.AllK
import Wide.FinOn
import HandS.ForMost
import HandS.IsInst
import HandS.FStr
import HandS.Small
import HandS.Style
import HandS.NoneIn
import HandS.ReplaceLit
import HandS.ReplaceDef
import HandS.Defaults
import HandS.TupAny
import HandS.WideBits
import HandS.RaiseMore
import KE.DataEq
import HandS.Codes
import PyProof.ListStr
import HandS.Conv
import HandS.SetBool
import HandS.Walk
import PyProof.ReprRoads
import HandS.Ends
import HandS.HeadEnd
import HandS.Zip
import PyProof.ReprLen
import HandS.HeadHook4
import HandS.HeadNt
import HandS.Star
import HandS.ClsMeth
import KE.IntTextLaws
import HandS.ExcInit
import HandS.ExcField
import HandS.ExcIs
import HandS.HotCalls
import HandS.Lambda
import KE.KExcIs
import KE.KTryMore
import KE.GoesEnum
import PyProof.EnumMake
import HandS.EndTab
import HandS.HeadHook1
import HandS.HeadHook2
import PySem.Challenge.RW_shapekeep_k20_what_is_a_tree
import KE.KRevSl
import HandS.More
import HandS.Words
import HandS.WordsExc
import HandS.Head0
import HandS.Head1
import HandS.Head2
import KE.KStateDown
set_option Elab.async false
set_option linter.all false
set_option maxRecDepth 100000
set_option maxHeartbeats 0
/-! Sk: readings that compute: each rule of the layer weakened to one whose reading is a match over values -/
namespace Sk
open PySem PySem.Spec PyProof.Rows L2
section
variable {X : Cx}
theorem PEw {e : Expr} {t t' : TE} (h : PE X e t) (w : ∀ σ H Q, t' σ H Q → t σ H Q) : PE X e t' := ⟨fun pins s σ H Q I q => h.run pins s σ H Q I (w σ H Q q)⟩
theorem PTw {e : Expr} {t t' : TT} (h : PT X e t) (w : ∀ σ H Q, t' σ H Q → t σ H Q) : PT X e t' := ⟨fun pins s σ H Q I q => h.run pins s σ H Q I (w σ H Q q)⟩
theorem PWw {e : Expr} {t t' : TT} (h : PW X e t) (w : ∀ σ H Q, t' σ H Q → t σ H Q) : PW X e t' := ⟨fun wh pins s σ H Q I q => h.run wh pins s σ H Q I (w σ H Q q)⟩
theorem PSw {e : Stmt} {t t' : TS} (h : PS X e t) (w : ∀ D σ H, t' D σ H → t D σ H) : PS X e t' := ⟨fun pins s σ H D I q => h.run pins s σ H D I (w D σ H q)⟩
theorem PGw {e : Expr} {t t' : TG} (h : PG X e t) (w : ∀ v σ H Q, t' v σ H Q → t v σ H Q) : PG X e t' := ⟨fun pins s σ H v u Q I r q => h.run pins s σ H v u Q I r (w v σ H Q q)⟩
theorem PGsw {e : List Expr} {t t' : TGs} (h : PGs X e t) (w : ∀ v σ H Q, t' v σ H Q → t v σ H Q) : PGs X e t' := ⟨fun pins s σ H v u Q I r q => h.run pins s σ H v u Q I r (w v σ H Q q)⟩
theorem OpRw {f : Value → Value → Sem Value} {r r' : R2} (h : OpR X f r) (w : ∀ x y H Q, r' x y H Q → r x y H Q) : OpR X f r' := fun pins s σ H x y v u Q I rx ry q => h pins s σ H x y v u Q I rx ry (w _ _ _ _ q)
theorem UnRw {f : Value → Sem Value} {r r' : V → Hp → VK → Prop} (h : UnR X f r) (w : ∀ x H Q, r' x H Q → r x H Q) : UnR X f r' := fun pins s σ H x v Q I rx q => h pins s σ H x v Q I rx (w _ _ _ q)
theorem IxRw {r r' : R2} (h : IxR X r) (w : ∀ x y H Q, r' x y H Q → r x y H Q) : IxR X r' := fun va sl pins s σ H x y v u Q I rx ry q => h va sl pins s σ H x y v u Q I rx ry (w _ _ _ _ q)
theorem SlRw {r r' : V → Option Int → Option Int → Hp → VK → Prop} (h : SlR X r) (w : ∀ x y z H Q, r' x y z H Q → r x y z H Q) : SlR X r' := fun pins s σ H x v vl vu lo hi sl Q I rx hs pl pu q => h pins s σ H x v vl vu lo hi sl Q I rx hs pl pu (w _ _ _ _ _ q)
theorem CallRw {f : Value} {r r' : List V → Hp → VK → Prop} (h : CallR X f r) (w : ∀ xs H Q, r' xs H Q → r xs H Q) : CallR X f r' := fun pins s σ H xs us Q I rx q => h pins s σ H xs us Q I rx (w _ _ _ q)
theorem MtRw {id : String} {r r' : V → List V → Hp → VK → Prop} (h : MtR X id r) (w : ∀ x xs H Q, r' x xs H Q → r x xs H Q) : MtR X id r' := fun pins s σ H x xs v us Q I rx rs q => h pins s σ H x xs v us Q I rx rs (w _ _ _ _ q)
theorem POw {e : Option Expr} {t t' : TO} (h : PO X e t) (w : ∀ σ H Q, t' σ H Q → t σ H Q) : PO X e t' := ⟨fun pins s σ H Q I q => h.run pins s σ H Q I (w σ H Q q)⟩
/-! ### names -/
def uVar (i : Nat) : TE := fun σ H Q => match σ[i]? with | some (some v) => Q v H | _ => False
theorem vr (i : Nat) {x : Str} {pos : Pos} (hN : X.N[i]? = some x := by rfl) (hv : Vis X.env.scope x := by first | exact Or.inl rfl | exact Or.inr (Or.inl rfl) | exact Or.inr (Or.inr rfl)) (hd : (x == ("__debug__" : Str)) = false := by decide)
    (hcd : (x == ("__classdict__" : Str)) = false := by decide) : PE X (.Name x pos) (uVar i) := PEw (pe_var hN hv hd hcd) fun σ H Q q => by
  unfold uVar at q
  split at q
  · rename_i v e
    exact ⟨v, e, q⟩
  · exact q.elim
/-! ### what is wanted may be made weaker -/
def upE (t : TE) : TE := fun σ H Q => ∃ Q' : VK, (∀ v H', Q' v H' → Q v H') ∧ t σ H Q'
def upT (t : TT) : TT := fun σ H Q => ∃ Q' : Bool → Hp → Prop, (∀ v H', Q' v H' → Q v H') ∧ t σ H Q'
theorem up {e : Expr} {t : TE} (h : PE X e t) : PE X e (upE t) := ⟨fun pins s σ H Q I q => by
  obtain ⟨Q', w, q⟩ := q
  exact thn (h.run pins s σ H Q' I q) fun v s1 ⟨x, H1, I1, r1, q1⟩ => ⟨x, H1, I1, r1, w _ _ q1⟩⟩
theorem upt {e : Expr} {t : TT} (h : PT X e t) : PT X e (upT t) := ⟨fun pins s σ H Q I q => by
  obtain ⟨Q', w, q⟩ := q
  exact thn (h.run pins s σ H Q' I q) fun v s1 ⟨H1, I1, q1⟩ => ⟨H1, I1, w _ _ q1⟩⟩
theorem upw {e : Expr} {t : TT} (h : PW X e t) : PW X e (upT t) := ⟨fun wh pins s σ H Q I q => by
  obtain ⟨Q', w, q⟩ := q
  exact thn (h.run wh pins s σ H Q' I q) fun v s1 ⟨H1, I1, q1⟩ => ⟨H1, I1, w _ _ q1⟩⟩
/-! ### tests -/
/-- what a truth value hands on -/
def onB (x : V) (Q : Bool → Prop) : Prop := match x with | .bl c => Q c | _ => False
theorem onB_ex {x : V} {Q : Bool → Prop} (h : onB x Q) : ∃ c, x = .bl c ∧ Q c := by
  cases x with
  | bl c => exact ⟨c, rfl, h⟩
  | _ => exact h.elim
/-- b decides -/
def br (c : Bool) (p q : Prop) : Prop := match c with | true => p | false => q
theorem br_if {c : Bool} {p q : Prop} (h : br c p q) : if c = true then p else q := by
  cases c with
  | true => rw [if_pos rfl]; exact h
  | false => rw [if_neg (by decide)]; exact h
theorem br2 {c : Bool} {p q : Prop} (h1 : c = true → p) (h2 : c = false → q) : br c p q := by
  cases c with
  | true => exact h1 rfl
  | false => exact h2 rfl
theorem brT {c : Bool} {p q : Prop} (e : c = true) (h : p) : br c p q := by subst e; exact h
theorem brF {c : Bool} {p q : Prop} (e : c = false) (h : q) : br c p q := by subst e; exact h
def uB (t : TE) : TT := fun σ H Q => t σ H fun x H1 => onB x fun c => Q c H1
theorem tst {e : Expr} {t : TE} (h : PE X e t) (he : ∀ whole, isTrue e X.env whole = (do let v ← whole; standAt e.pos; holding [v] (truthy v)) := by intro _; rfl) : PT X e (uB t) :=
  PTw (pt_val (up h) he) fun σ H Q q => ⟨_, fun v H' z => onB_ex z, q⟩
/-- a comparison as a test -/
theorem tcmp {op : CmpOp} {r : R2} {a b : Expr} {ta tb : TE} {pos : Pos} (ho : OpR X (compareOp op) r) (ha : PE X a ta) (hb : PE X b tb) (hm : behindInMarks op b = false) : PT X (.Compare a [op] [b] pos) (uB (tOp r ta tb)) :=
  PTw (pt_cmpR (r := fun x y H Q => ∃ Q' : VK, (∀ v H', Q' v H' → Q v H') ∧ r x y H Q') (fun pins s σ H x y v u Q I rx ry q => by
    obtain ⟨Q', w, q⟩ := q
    exact thn (ho pins s σ H x y v u Q' I rx ry q) fun v s1 ⟨x, H1, I1, r1, q1⟩ => ⟨x, H1, I1, r1, w _ _ q1⟩) (up ha) (up hb) hm) fun σ H Q q => by
      refine ⟨_, fun v H' z => ?_, q⟩
      refine ⟨_, fun u H2 z2 => ?_, z⟩
      exact ⟨_, fun w H3 z3 => onB_ex z3, z2⟩
def uAnd (t u : TT) : TT := fun σ H Q => t σ H fun c H1 => br c (u σ H1 Q) (Q false H1)
def uOr (t u : TT) : TT := fun σ H Q => t σ H fun c H1 => br c (Q true H1) (u σ H1 Q)
def uNot (t : TT) : TT := fun σ H Q => t σ H fun c H1 => Q (!c) H1
section
variable {a b : Expr} {rest : List Expr} {pos : Pos} {ta tb : TE} {tA tB' : TT}
theorem wand (ha : PT X a tA) (hb : PW X (.BoolOp .And (b :: rest) pos) tB') : PW X (.BoolOp .And (a :: b :: rest) pos) (uAnd tA tB') :=
  PWw (pw_and (upt ha) hb) fun σ H Q q => ⟨_, fun c H' z => br_if z, q⟩
theorem wor (ha : PT X a tA) (hb : PW X (.BoolOp .Or (b :: rest) pos) tB') : PW X (.BoolOp .Or (a :: b :: rest) pos) (uOr tA tB') :=
  PWw (pw_or (upt ha) hb) fun σ H Q q => ⟨_, fun c H' z => br_if z, q⟩
def uAndV (ta tb : TE) : TE := fun σ H Q => ta σ H fun x H1 => onB x fun c => br c (tb σ H1 Q) (Q (.bl false) H1)
def uOrV (ta tb : TE) : TE := fun σ H Q => ta σ H fun x H1 => onB x fun c => br c (Q (.bl true) H1) (tb σ H1 Q)
def uNotV (ta : TE) : TE := fun σ H Q => ta σ H fun x H1 => onB x fun c => Q (.bl (!c)) H1
theorem vand (ha : PE X a ta) (hb : PE X (.BoolOp .And (b :: rest) pos) tb) : PE X (.BoolOp .And (a :: b :: rest) pos) (uAndV ta tb) :=
  PEw (pe_and (up ha) hb) fun σ H Q q => ⟨_, fun x H' z => by obtain ⟨c, e, z⟩ := onB_ex z; exact ⟨c, e, br_if z⟩, q⟩
theorem vor (ha : PE X a ta) (hb : PE X (.BoolOp .Or (b :: rest) pos) tb) : PE X (.BoolOp .Or (a :: b :: rest) pos) (uOrV ta tb) :=
  PEw (pe_or (up ha) hb) fun σ H Q q => ⟨_, fun x H' z => by obtain ⟨c, e, z⟩ := onB_ex z; exact ⟨c, e, br_if z⟩, q⟩
theorem vnot (ha : PE X a ta) : PE X (.UnaryOp .Not a pos) (uNotV ta) :=
  PEw (pe_not (up ha)) fun σ H Q q => ⟨_, fun x H' z => onB_ex z, q⟩
def uIfE (t : TT) (ta tb : TE) : TE := fun σ H Q => t σ H fun c H1 => br c (ta σ H1 Q) (tb σ H1 Q)
theorem vif {c : Expr} (hc : PT X c tA) (ha : PE X a ta) (hb : PE X b tb) : PE X (.IfExp c a b pos) (uIfE tA ta tb) :=
  PEw (pe_ifExp (upt hc) ha hb) fun σ H Q q => ⟨_, fun x H' z => br_if z, q⟩
def uIf (c : TT) (t u : TS) : TS := fun D σ H => c σ H fun b H1 => br b (t D σ H1) (u D σ H1)
theorem sif {c : Expr} {a b : List Stmt} {tc : TT} {t u : TS} (hc : PT X c tc) (ha : PSs X a t) (hb : PSs X b u) : PS X (.If c a b pos) (uIf tc t u) :=
  PSw (ps_if (upt hc) ha hb) fun D σ H q => ⟨_, fun x H' z => br_if z, q⟩
/-- the ways behind an if joined -/
def uCut (t u : TS) : TS := fun D σ H => ∃ Mid : L2.St → Hp → Prop, t { D with nx := Mid } σ H ∧ ∀ σ' H', Mid σ' H' → u D σ' H'
def uChain (r r' : R2) (ta tb tc : TE) : TE := fun σ H Q => ta σ H fun x H1 => tb σ H1 fun y H2 => r x y H2 fun z H3 => onB z fun k => br k (tc σ H3 fun w' H4 => r' y w' H4 Q) (Q (.bl false) H3)
end
/-! ### operators -/
def upR (r : R2) : R2 := fun x y H Q => ∃ Q' : VK, (∀ v H', Q' v H' → Q v H') ∧ r x y H Q'
theorem upO {f : Value → Value → Sem Value} {r : R2} (ho : OpR X f r) : OpR X f (upR r) := fun pins s σ H x y v u Q I rx ry q => by
  obtain ⟨Q', w, q⟩ := q
  exact thn (ho pins s σ H x y v u Q' I rx ry q) fun v s1 ⟨x, H1, I1, r1, q1⟩ => ⟨x, H1, I1, r1, w _ _ q1⟩
theorem vchain {op op' : CmpOp} {r r' : R2} {a b c : Expr} {ta tb tc : TE} {pos : Pos} (ho : OpR X (compareOp op) r) (ho' : OpR X (compareOp op') r') (ha : PE X a ta) (hb : PE X b tb) (hc : PE X c tc)
    (hm : lastMarks [op, op'] [b, c] = false := by with_unfolding_all rfl) : PE X (.Compare a [op, op'] [b, c] pos) (uChain r r' ta tb tc) :=
  PEw (pe_chain (upO ho) ho' (up ha) (up hb) hc hm) fun σ H Q q => by
    refine ⟨_, fun x H' z => ?_, q⟩
    refine ⟨_, fun y H2 z2 => ?_, z⟩
    refine ⟨_, fun y H2 z2 => ?_, z2⟩
    obtain ⟨k, e, z3⟩ := onB_ex z2
    exact ⟨k, e, br_if z3⟩
theorem tchain {op op' : CmpOp} {r r' : R2} {a b c : Expr} {ta tb tc : TE} {pos : Pos} (ho : OpR X (compareOp op) r) (ho' : OpR X (compareOp op') r') (ha : PE X a ta) (hb : PE X b tb) (hc : PE X c tc)
    (hm : lastMarks [op, op'] [b, c] = false := by with_unfolding_all rfl) : PT X (.Compare a [op, op'] [b, c] pos) (uB (uChain r r' ta tb tc)) :=
  PTw (pt_chain (upO ho) (upO ho') (up ha) (up hb) (up hc) hm) fun σ H Q q => by
    refine ⟨_, fun x H' z => ?_, q⟩
    refine ⟨_, fun y H2 z2 => ?_, z⟩
    refine ⟨_, fun y H2 z2 => ?_, z2⟩
    obtain ⟨k, e, z3⟩ := onB_ex z2
    refine ⟨k, e, ?_⟩
    cases k with
    | true =>
      rw [if_pos rfl]
      exact ⟨_, fun y H2 z4 => ⟨_, fun y H3 z5 => onB_ex z5, z4⟩, z3⟩
    | false =>
      rw [if_neg (by decide)]
      exact onB_ex z3
def rPlus (K : PySem.W.Frag) : R2 := fun x y H Q => match x, y with
  | .int i, .int j => Q (.int (i + j)) H
  | .str a, .str b => a.length + b.length ≤ sizeLine ∧ Q (.str (a ++ b)) H
  | .ref a, .ref b => rCat (.ref a) (.ref b) H Q ∨ rCatA K (.ref a) (.ref b) H Q
  | _, _ => False
theorem op_plus : OpR X (binaryOp .Add) (rPlus X.K) := OpRw (OpR.or op_add (OpR.or op_add_str (OpR.or op_cat op_catA))) fun x y H Q q => by
  unfold rPlus at q
  split at q
  · exact .inl ⟨_, _, rfl, rfl, q⟩
  · exact .inr (.inl ⟨_, _, rfl, rfl, q⟩)
  · exact .inr (.inr q)
  · exact q.elim
/-- ints under C -/
def rII (C : Int → Int → Prop) (g : Int → Int → V) : R2 := fun x y H Q => match x, y with
  | .int i, .int j => C i j ∧ Q (g i j) H
  | _, _ => False
def rII0 (g : Int → Int → V) : R2 := fun x y H Q => match x, y with
  | .int i, .int j => Q (g i j) H
  | _, _ => False
theorem ii {f : Value → Value → Sem Value} {C : Int → Int → Prop} {g : Int → Int → V} (h : OpR X f (rI C g)) : OpR X f (rII C g) := OpRw h fun x y H Q q => by
  unfold rII at q
  split at q
  · exact ⟨_, _, rfl, rfl, q⟩
  · exact q.elim
theorem ii0 {f : Value → Value → Sem Value} {g : Int → Int → V} (h : OpR X f (rI0 g)) : OpR X f (rII0 g) := OpRw h fun x y H Q q => by
  unfold rII0 at q
  split at q
  · exact ⟨_, _, rfl, rfl, q⟩
  · exact q.elim
theorem op_minus : OpR X (binaryOp .Sub) (rII0 fun i j => .int (i - j)) := ii0 op_sub
def rMod : R2 := fun x y H Q => match x, y with
  | .int i, .int j => 0 < j ∧ Q (.int (i % j)) H
  | _, _ => False
theorem op_modI : OpR X (binaryOp .Mod) rMod := OpRw op_mod fun x y H Q q => by
  unfold rMod at q
  split at q
  · exact ⟨_, _, rfl, rfl, q⟩
  · exact q.elim
theorem op_divI : OpR X (binaryOp .FloorDiv) (rII CDiv fun i j => .int (i / j)) := ii op_fdiv
theorem op_powI : OpR X (binaryOp .Pow) (rII CPow fun i j => .int (i ^ j.toNat)) := ii op_pow
theorem op_ltI : OpR X (compareOp .Lt) (rII0 fun i j => .bl (decide (i < j))) := ii0 op_lt
theorem op_leI : OpR X (compareOp .LtE) (rII0 fun i j => .bl (decide (i ≤ j))) := ii0 op_le
theorem op_gtI : OpR X (compareOp .Gt) (rII0 fun i j => .bl (decide (j < i))) := ii0 op_gt
theorem op_geI : OpR X (compareOp .GtE) (rII0 fun i j => .bl (decide (j ≤ i))) := ii0 op_ge
/-- is None -/
def rIsNo (neg : Bool) : R2 := fun x y H Q => match y with
  | .non => Q (.bl (if neg then !decide (x = .non) else decide (x = .non))) H
  | _ => False
theorem op_isNo : OpR X (compareOp .Is) (rIsNo false) := OpRw op_isN fun x y H Q q => by
  unfold rIsNo at q
  split at q
  · exact ⟨rfl, q⟩
  · exact q.elim
theorem op_notNo : OpR X (compareOp .IsNot) (rIsNo true) := OpRw op_notN fun x y H Q q => by
  unfold rIsNo at q
  split at q
  · exact ⟨rfl, q⟩
  · exact q.elim
/-- data without dicts, not too deep -/
def shp (d : PyData) : Bool := d.plain && decide (d.depth ≤ 64)
theorem shp_room {A : Around} {d e : PyData} (h : shp d = true) (hu : A.units + 64 < cLine) : A.units + min d.depth e.depth < cLine := by
  have h1 := of_decide_eq_true (Bool.and_eq_true_iff.mp h).2
  have h2 : min d.depth e.depth ≤ d.depth := Nat.min_le_left _ _
  omega
theorem op_eqP (hu : X.A.units + 64 < cLine) : OpR X (compareOp .Eq) (fun x y H Q => ∃ d e, Dp X.K H x d ∧ Dp X.K H y e ∧ shp d = true ∧ shp e = true ∧ Q (.bl (PyData.eqv d e)) H) := by
  intro pins s σ H x y v u Q I rx ry h
  obtain ⟨d, e, hd, he, sd, se, q⟩ := h
  obtain ⟨as, r1⟩ := Dp.reads I d x v hd rx
  obtain ⟨bs, r2⟩ := Dp.reads I e y u he ry
  exact SeqAt.eq_plain r1 r2 (Bool.and_eq_true_iff.mp sd).1 (Bool.and_eq_true_iff.mp se).1 (shp_room sd hu) ⟨.bl _, H, I, rfl, q⟩
theorem op_neP (hu : X.A.units + 64 < cLine) : OpR X (compareOp .NotEq) (fun x y H Q => ∃ d e, Dp X.K H x d ∧ Dp X.K H y e ∧ shp d = true ∧ shp e = true ∧ Q (.bl (!PyData.eqv d e)) H) := by
  intro pins s σ H x y v u Q I rx ry h
  obtain ⟨d, e, hd, he, sd, se, q⟩ := h
  obtain ⟨as, r1⟩ := Dp.reads I d x v hd rx
  obtain ⟨bs, r2⟩ := Dp.reads I e y u he ry
  exact SeqAt.ne_plain r1 r2 (Bool.and_eq_true_iff.mp sd).1 (Bool.and_eq_true_iff.mp se).1 (shp_room sd hu) ⟨.bl _, H, I, rfl, q⟩
/-- ==, !=: scalars, else data at any depth -/
def rSame (K : PySem.W.Frag) (neg : Bool) : R2 := fun x y H Q => match scal x y with
  | true => Q (.bl (if neg then !decide (x = y) else decide (x = y))) H
  | false => ∃ d e, Dp K H x d ∧ Dp K H y e ∧ shp d = true ∧ shp e = true ∧ Q (.bl (if neg then !PyData.eqv d e else PyData.eqv d e)) H
theorem op_same (hu : X.A.units + 64 < cLine) : OpR X (compareOp .Eq) (rSame X.K false) := OpRw (OpR.or op_eq (op_eqP hu)) fun x y H Q q => by
  unfold rSame at q
  split at q
  · rename_i e
    exact .inl ⟨e, q⟩
  · exact .inr q
theorem op_other (hu : X.A.units + 64 < cLine) : OpR X (compareOp .NotEq) (rSame X.K true) := OpRw (OpR.or op_ne (op_neP hu)) fun x y H Q q => by
  unfold rSame at q
  split at q
  · rename_i e
    exact .inl ⟨e, q⟩
  · exact .inr q
/-- in: a text in a text, a flat thing in a list or tuple -/
def subS (i j : Str) : Bool := !(Builtin.Str.occurrences j i 0 j.length 1).isEmpty
theorem subS_one (c : Nat) (z : Str) : subS ⟨#[c]⟩ z = decide (c ∈ z.cps.toList) := PySem.StrLaws.found_one z c
def rInU (K : PySem.W.Frag) (neg : Bool) : R2 := fun x y H Q => match x, y with
  | .str i, .str j => Q (.bl (if neg then !subS i j else subS i j)) H
  | x, .ref p => ∃ xs, (SqL K H p xs ∨ SqT K H p xs) ∧ flatV x = true ∧ xs.all flatV = true ∧ Q (.bl (if neg then !inV x xs else inV x xs)) H
  | _, _ => False
theorem op_inU : OpR X (compareOp .In) (rInU X.K false) := OpRw (OpR.or op_in_str op_in_seq) fun x y H Q q => by
  unfold rInU at q
  split at q
  · exact .inl ⟨_, _, rfl, rfl, q⟩
  · obtain ⟨xs, h⟩ := q
    exact .inr ⟨_, xs, rfl, h⟩
  · exact q.elim
theorem op_notInU : OpR X (compareOp .NotIn) (rInU X.K true) := OpRw (OpR.or op_notin_str op_notIn_seq) fun x y H Q q => by
  unfold rInU at q
  split at q
  · exact .inl ⟨_, _, rfl, rfl, q⟩
  · obtain ⟨xs, h⟩ := q
    exact .inr ⟨_, xs, rfl, h⟩
  · exact q.elim
def rNeg : V → Hp → VK → Prop := fun x H Q => match x with | .int i => Q (.int (-i)) H | _ => False
theorem un_negU : UnR X (unaryOp .USub) rNeg := UnRw un_neg fun x H Q q => by
  unfold rNeg at q
  split at q
  · exact ⟨_, rfl, q⟩
  · exact q.elim
/-! ### subscripts -/
def rGet (K : PySem.W.Frag) : R2 := fun x y H Q => match x, y with
  | .str z, .int i => z.length ≤ sizeLine ∧ ∃ c, atI z.cps.toList i = some c ∧ Q (.str ⟨#[c]⟩) H
  | .ref p, .int i => ∃ xs v, (SqL K H p xs ∨ SqT K H p xs) ∧ atI xs i = some v ∧ Q v H
  | _, _ => False
theorem ix_get : IxR X (rGet X.K) := IxRw ix_seq fun x y H Q q => by
  unfold rGet at q
  split at q
  · obtain ⟨h, c, e, q⟩ := q
    exact .inr (.inr ⟨_, _, c, rfl, rfl, h, e, q⟩)
  · obtain ⟨xs, v, h | h, e, q⟩ := q
    · exact .inl ⟨_, xs, _, v, rfl, rfl, h, e, q⟩
    · exact .inr (.inl ⟨_, xs, _, v, rfl, rfl, h, e, q⟩)
  · exact q.elim
def uPart (t : TE) : TO := fun σ H Q => t σ H fun x H1 => match x with | .int i => Q (some i) H1 | _ => False
theorem po_u {e : Expr} {te : TE} (h : PE X e te) : PO X (some e) (uPart te) := POw (po_some (up h)) fun σ H Q q => ⟨_, fun x H' z => by
  cases x with
  | int i => exact ⟨i, rfl, z⟩
  | _ => exact z.elim, q⟩
def rCut (K : PySem.W.Frag) : V → Option Int → Option Int → Hp → VK → Prop := fun x lo hi H Q => match x with
  | .str z => z.length ≤ sizeLine ∧ Q (.str (cutS z lo hi)) H
  | .ref a => rSlL K (.ref a) lo hi H Q ∨ rSlA K (.ref a) lo hi H Q
  | _ => False
theorem sl_cut : SlR X (rCut X.K) := SlRw (SlR.or sl_str (SlR.or sl_list sl_tupA)) fun x lo hi H Q q => by
  unfold rCut at q
  split at q
  · exact .inl ⟨_, rfl, q⟩
  · exact .inr q
  · exact q.elim
/-! ### built-in calls -/
def rLenU (K : PySem.W.Frag) : List V → Hp → VK → Prop := fun xs H Q => match xs with
  | [.str z] => z.length ≤ sizeLine ∧ Q (.int z.length) H
  | [.ref p] => ∃ ys, (SqL K H p ys ∨ SqT K H p ys) ∧ Q (.int ys.length) H
  | _ => False
theorem call_lenU : CallR X (.builtin "len") (rLenU X.K) := CallRw (CallR.or call_len_str call_len_seq) fun xs H Q q => by
  unfold rLenU at q
  split at q
  · exact .inl ⟨_, rfl, q⟩
  · obtain ⟨ys, h⟩ := q
    exact .inr ⟨_, ys, rfl, h⟩
  · exact q.elim
def r1I (g : Int → V) : List V → Hp → VK → Prop := fun xs H Q => match xs with | [.int i] => Q (g i) H | _ => False
def r2I (g : Int → Int → V) : List V → Hp → VK → Prop := fun xs H Q => match xs with | [.int i, .int j] => Q (g i j) H | _ => False
theorem call_absU : CallR X (.builtin "abs") (r1I fun i => .int (if i < 0 then -i else i)) := CallRw call_abs fun xs H Q q => by
  unfold r1I at q
  split at q
  · exact ⟨_, rfl, q⟩
  · exact q.elim
theorem call_maxU (hc : X.calm = true) : CallR X (.builtin "max") (r2I fun i j => .int (if j > i then j else i)) := CallRw (call_max2 hc) fun xs H Q q => by
  unfold r2I at q
  split at q
  · exact ⟨_, _, rfl, q⟩
  · exact q.elim
theorem call_minU (hc : X.calm = true) : CallR X (.builtin "min") (r2I fun i j => .int (if j < i then j else i)) := CallRw (call_min2 hc) fun xs H Q q => by
  unfold r2I at q
  split at q
  · exact ⟨_, _, rfl, q⟩
  · exact q.elim
def rDm : List V → Hp → VK → Prop := fun xs H Q => match xs with | [.int i, .int j] => CDiv i j ∧ ∀ p, H p = none → Q (.ref p) (upd H p (.tup [.int (i / j), .int (i % j)])) | _ => False
theorem call_dm : CallR X (.builtin "divmod") rDm := CallRw call_divmod fun xs H Q q => by
  unfold rDm at q
  split at q
  · exact ⟨_, _, rfl, q⟩
  · exact q.elim
def rOrd : List V → Hp → VK → Prop := fun xs H Q => match xs with | [.str x] => x.length = 1 ∧ Q (.int (x.cps.getD 0 0 : Nat)) H | _ => False
theorem call_ordU : CallR X (.builtin "ord") rOrd := CallRw call_ord fun xs H Q q => by
  unfold rOrd at q
  split at q
  · exact ⟨_, rfl, q⟩
  · exact q.elim
def rStr : List V → Hp → VK → Prop := fun xs H Q => match xs with | [.str x] => Q (.str x) H | [.int i] => i.natAbs.log2 < 1920 ∧ Q (.str (toString i)) H | _ => False
theorem call_strU : CallR X (.type "str") rStr := CallRw (CallR.or SkE.call_str_str call_str_int) fun xs H Q q => by
  unfold rStr at q
  split at q
  · exact .inl ⟨_, rfl, q⟩
  · exact .inr ⟨_, rfl, q⟩
  · exact q.elim
def rInt1 : List V → Hp → VK → Prop := fun xs H Q => match xs with | [.int i] => Q (.int i) H | [.bl k] => Q (.int (if k then 1 else 0)) H | _ => False
theorem call_intU : CallR X (.type "int") rInt1 := CallRw call_int1 fun xs H Q q => by
  unfold rInt1 at q
  split at q
  · exact .inl ⟨_, rfl, q⟩
  · exact .inr ⟨_, rfl, q⟩
  · exact q.elim
/-- isinstance: one class, or a tuple of classes just laid -/
def rIs (K : PySem.W.Frag) : List V → Hp → VK → Prop := fun xs H Q => match xs with
  | [x, .ty n] => ∃ t b, TyX K H x t ∧ PySem.W.kitOne K t (.type n) = some b ∧ Q (.bl b) H
  | [x, .ref p] => rIsi K [x, .ref p] H Q ∨ rIsiT K [x, .ref p] H Q
  | _ => False
theorem call_isU : CallR X (.builtin "isinstance") (rIs X.K) := CallRw (CallR.or call_isi call_isiT) fun xs H Q q => by
  unfold rIs at q
  split at q
  · obtain ⟨t, b, h, e, q⟩ := q
    exact .inl ⟨_, _, t, _, b, rfl, .ty _, h, e, q⟩
  · exact q
  · exact q.elim
/-! ### targets -/
def uCons (t : TG) (u : TGs) : TGs := fun vs σ H Q => match vs with | v :: r => t v σ H fun σ' H' => u r σ' H' Q | [] => False
def uNil : TGs := fun vs σ H Q => match vs with | [] => Q σ H | _ => False
theorem gs_nil : PGs X [] uNil := PGsw pgs_nil fun v σ H Q q => by
  unfold uNil at q
  split at q
  · exact ⟨rfl, q⟩
  · exact q.elim
theorem gs_cons {e : Expr} {es : List Expr} {t : TG} {u : TGs} (h1 : PG X e t) (h2 : PGs X es u)
    (hs : (assignEach (e :: es) X.env).map (·.2) = assign e X.env :: (assignEach es X.env).map (·.2) := by rfl) : PGs X (e :: es) (uCons t u) := PGsw (pgs_cons h1 h2 hs) fun v σ H Q q => by
  unfold uCons at q
  split at q
  · exact ⟨_, _, rfl, q⟩
  · exact q.elim
/-! ### further: products, joins, displays -/
def uCatN (a : Str) (k : Nat) : List Nat := (List.replicate k a.cps.toList).flatten
def rTimes : R2 := fun x y H Q => match x, y with
  | .int i, .int j => CMul i j ∧ Q (.int (i * j)) H
  | .ref a, .int j => rRep (.ref a) (.int j) H Q
  | _, _ => False
theorem op_times : OpR X (binaryOp .Mult) rTimes := OpRw (OpR.or op_mul op_rep) fun x y H Q q => by
  unfold rTimes at q
  split at q
  · exact .inl ⟨_, _, rfl, rfl, q⟩
  · exact .inr q
  · exact q.elim
def uJoin (K : PySem.W.Frag) (to te : TE) : TE := fun σ H Q => to σ H fun x H1 => match x with
  | .str a => te σ H1 fun y H2 => match y with
    | .ref p => ∃ ys : List Str, (SqL K H2 p (ys.map V.str) ∨ SqT K H2 p (ys.map V.str)) ∧ (ys.map (·.length)).sum + ys.length * a.length ≤ 16777216 ∧ Q (.str (Txt.join a ys)) H2
    | _ => False
  | _ => False
theorem vjoin {o e : Expr} {to te : TE} {apos pos : Pos} (ho : PE X o to) (he : PE X e te) (hs : starEach [e] X.env = [(false, eval e X.env)] := by rfl) (hbase : attributeBase o "join" X.env (eval o X.env) = eval o X.env := by rfl) (hline : (apos.endLine == pos.line) = true := by rfl) :
    PE X (.Call (.Attribute o "join" apos) [e] [] pos) (uJoin X.K to te) := PEw (pe_join (up ho) (up he) hs hbase hline) fun σ H Q q => by
  refine ⟨_, fun x H1 z => ?_, q⟩
  cases x with
  | str a =>
    refine ⟨⟨a, rfl⟩, _, fun y H2 z2 => ?_, z⟩
    cases y with
    | ref p =>
      obtain ⟨ys, h1, h2, h3⟩ := z2
      exact ⟨a, p, ys, rfl, rfl, h1, h2, h3⟩
    | _ => exact z2.elim
  | _ => exact z.elim
/-- a field of an f-string -/
def uFmt (te : TE) : TE := fun σ H Q => te σ H fun x H1 => match x with
  | .str y => y.length ≤ sizeLine ∧ Q (.str y) H1
  | .int i => i.natAbs.log2 < 1920 ∧ Q (.str (toString i)) H1
  | _ => False
theorem vfmt {e : Expr} {te : TE} {pos : Pos} (he : PE X e te) : PE X (.FormattedValue e (-1) none pos) (uFmt te) := PEw (pe_fmt (up he)) fun σ H Q q => by
  refine ⟨_, fun x H1 z => ?_, q⟩
  cases x with
  | str a => exact .inl ⟨a, rfl, z⟩
  | int i => exact .inr ⟨i, rfl, z⟩
  | _ => exact z.elim
end
/-! ### the same rules with the written part as a letter -/
section
variable {X : Cx}
theorem kplus (K : PySem.W.Frag) (h : X.K = K := by rfl) : OpR X (binaryOp .Add) (rPlus K) := by subst h; exact op_plus
theorem ksame (K : PySem.W.Frag) (hu : X.A.units + 64 < cLine) (h : X.K = K := by rfl) : OpR X (compareOp .Eq) (rSame K false) := by subst h; exact op_same hu
theorem kother (K : PySem.W.Frag) (hu : X.A.units + 64 < cLine) (h : X.K = K := by rfl) : OpR X (compareOp .NotEq) (rSame K true) := by subst h; exact op_other hu
theorem kin (K : PySem.W.Frag) (h : X.K = K := by rfl) : OpR X (compareOp .In) (rInU K false) := by subst h; exact op_inU
theorem knotin (K : PySem.W.Frag) (h : X.K = K := by rfl) : OpR X (compareOp .NotIn) (rInU K true) := by subst h; exact op_notInU
theorem kget (K : PySem.W.Frag) (h : X.K = K := by rfl) : IxR X (rGet K) := by subst h; exact ix_get
theorem kcut (K : PySem.W.Frag) (h : X.K = K := by rfl) : SlR X (rCut K) := by subst h; exact sl_cut
theorem klen (K : PySem.W.Frag) (h : X.K = K := by rfl) : CallR X (.builtin "len") (rLenU K) := by subst h; exact call_lenU
theorem kis (K : PySem.W.Frag) (h : X.K = K := by rfl) : CallR X (.builtin "isinstance") (rIs K) := by subst h; exact call_isU
theorem kall (K : PySem.W.Frag) (hc : X.calm = true) (h : X.K = K := by rfl) : CallR X (.builtin "all") (rAll K) := by subst h; exact cr_all hc
theorem kany (K : PySem.W.Frag) (hc : X.calm = true) (h : X.K = K := by rfl) : CallR X (.builtin "any") (rAny K) := by subst h; exact cr_any hc
theorem ksum (K : PySem.W.Frag) (hc : X.calm = true) (h : X.K = K := by rfl) : CallR X (.builtin "sum") (rSum K) := by subst h; exact cr_sum hc
theorem ksorted (K : PySem.W.Frag) (h : X.K = K := by rfl) : CallR X (.builtin "sorted") (rSortedS K) := by subst h; exact cr_sortedS
/-- tuple(xs), list(xs) -/
def rTup (K : PySem.W.Frag) : List V → Hp → VK → Prop := fun xs H Q => match xs with
  | [.ref p] => ∃ ys, (SqL K H p ys ∧ ∀ l, H l = none → Q (.ref l) (upd H l (.tup ys))) ∨ (SqT K H p ys ∧ Q (.ref p) H)
  | _ => False
theorem ktup (K : PySem.W.Frag) (h : X.K = K := by rfl) : CallR X (.type "tuple") (rTup K) := by
  subst h
  refine CallRw call_tuple_of fun xs H Q q => ?_
  unfold rTup at q
  split at q
  · obtain ⟨ys, q⟩ := q
    exact ⟨_, ys, rfl, q⟩
  · exact q.elim
def rLst (K : PySem.W.Frag) : List V → Hp → VK → Prop := fun xs H Q => match xs with
  | [.ref p] => ∃ ys, (SqL K H p ys ∨ SqT K H p ys) ∧ ∀ l, H l = none → Q (.ref l) (upd H l (.lst ys))
  | _ => False
theorem klst (K : PySem.W.Frag) (h : X.K = K := by rfl) : CallR X (.type "list") (rLst K) := by
  subst h
  refine CallRw call_list_of fun xs H Q q => ?_
  unfold rLst at q
  split at q
  · obtain ⟨ys, q⟩ := q
    exact ⟨_, ys, rfl, q⟩
  · exact q.elim
theorem kjoin (K : PySem.W.Frag) {o e : Expr} {to te : TE} {apos pos : Pos} (ho : PE X o to) (he : PE X e te) (h : X.K = K := by rfl) (hs : starEach [e] X.env = [(false, eval e X.env)] := by rfl) (hbase : attributeBase o "join" X.env (eval o X.env) = eval o X.env := by rfl) (hline : (apos.endLine == pos.line) = true := by rfl) :
    PE X (.Call (.Attribute o "join" apos) [e] [] pos) (uJoin K to te) := by subst h; exact vjoin ho he hs hbase hline
/-- xs.append(e) -/
def uApp (to te : TE) : TE := fun σ H Q => to σ H fun x H1 => match x with
  | .ref p => (∃ xs, H1 p = some (.lst xs)) ∧ te σ H1 fun y H2 => ∃ xs, H2 p = some (.lst xs) ∧ xs.length < sizeLine ∧ Q .non (upd H2 p (.lst (xs ++ [y])))
  | _ => False
theorem kapp {K : PySem.W.Frag} {c : Expr} {to te : TE} (h : PE X c (tBM K "list" (fun x xs H Q => ∃ l ys y, x = .ref l ∧ xs = [y] ∧ H l = some (.lst ys) ∧ ys.length < sizeLine ∧ Q .non (upd H l (.lst (ys ++ [y])))) (upE to) (tCons (upE te) tNil))) : PE X c (uApp to te) :=
  PEw h fun σ H Q q => by
    refine ⟨_, fun x H1 z => ?_, q⟩
    cases x with
    | ref p =>
      obtain ⟨⟨xs, hx⟩, z⟩ := z
      refine ⟨.inl ⟨rfl, xs, .inl (.inl hx)⟩, _, fun y H2 z2 => ?_, z⟩
      obtain ⟨ys, h1, h2, h3⟩ := z2
      exact ⟨p, ys, y, rfl, rfl, h1, h2, h3⟩
    | _ => exact z.elim
theorem gtup (K : PySem.W.Frag) {pos : Pos} {es : List Expr} {k : Nat} {t : TGs} (n : Nat) (hc : X.calm = true) (h : PGs X es t) (hK : X.K = K := by rfl)
    (hn : (assignEach es X.env).length = n := by rfl) (hst : (assignEach es X.env).findIdx? (·.1) = none := by rfl) : PG X (.Tuple es k pos) (gTup K n t) := by subst hK; exact pg_tup hc h hn hst
theorem gunl (K : PySem.W.Frag) {pos : Pos} {es : List Expr} {k : Nat} {t : TGs} (n : Nat) (hc : X.calm = true) (h : PGs X es t) (hK : X.K = K := by rfl)
    (hn : (assignEach es X.env).length = n := by rfl) (hst : (assignEach es X.env).findIdx? (·.1) = none := by rfl) : PG X (.Tuple es k pos) (gUnl K n t) := by subst hK; exact pg_unl hc h hn hst
theorem ilist (K : PySem.W.Frag) {tg l : Expr} {tl : TE} (hl : PE X l tl) (h : X.K = K := by rfl) : PI X tg l (iList K tl) := by subst h; exact pi_list hl
theorem itup (K : PySem.W.Frag) {tg l : Expr} {tl : TE} (hl : PE X l tl) (h : X.K = K := by rfl) : PI X tg l (iTup K tl) := by subst h; exact pi_tup hl
theorem krev (K : PySem.W.Frag) {e : Expr} {te : TE} {k : Nat} {p1 p2 p3 pos : Pos} (he : PE X e te) (h : X.K = K := by rfl) : PE X (.Subscript e (.Slice none none (some (.UnaryOp .USub (.Constant (.int 1) k p1) p2)) p3) pos) (tRevL K te) := by subst h; exact pe_revL he
end
/-! ### heaps -/
theorem upd_none {H : Hp} {p q : Addr} {o : HO} (h : upd H p o q = none) : q ≠ p ∧ H q = none := by
  have e : q ≠ p := fun z => by rw [z, upd_same] at h; cases h
  rw [upd_ne e] at h
  exact ⟨e, h⟩
theorem same_new {H : Hp} {p : Addr} {o : HO} (h : H p = none) : Same H (upd H p o) := fun b u e => by
  rw [upd_ne (ne_of_none e h)]
  exact e
/-- all but the object at a is as it was -/
def Keep (a : Addr) (H H' : Hp) : Prop := ∀ b o, b ≠ a → H b = some o → H' b = some o
theorem Keep.refl (a : Addr) (H : Hp) : Keep a H H := fun _ _ _ h => h
theorem Keep.trans {a : Addr} {H H1 H2 : Hp} (x : Keep a H H1) (y : Keep a H1 H2) : Keep a H H2 := fun b o n h => y b o n (x b o n h)
theorem keep_of {a : Addr} {H H1 : Hp} (x : Same H H1) : Keep a H H1 := fun b o _ h => x b o h
theorem Keep.upd {a : Addr} {H H1 : Hp} {o : HO} (x : Keep a H H1) : Keep a H (upd H1 a o) := fun b u n h => by
  rw [upd_ne n]
  exact x b u n h
theorem sqL_of {K : PySem.W.Frag} {H : Hp} {a : Addr} {xs : List V} (h : H a = some (.lst xs)) : SqL K H a xs := .inl (.inl h)
theorem sqT_of {K : PySem.W.Frag} {H : Hp} {a : Addr} {xs : List V} (h : H a = some (.tup xs)) : SqT K H a xs := .inl (.inl h)
end Sk
namespace Sk
open PySem PySem.Spec PyProof.Rows L2
/-! ### texts -/
def okc (c : Nat) : Bool := c == 10 || (Nat.ble 32 c && Nat.ble c 126 && !(c == 37))
def low (c : Nat) : Bool := Nat.ble 97 c && Nat.ble c 122
/-- at most n signs, all of the markup's -/
def TextOk (n : Nat) (z : Str) : Prop := z.length ≤ n ∧ ∀ c ∈ z.cps.toList, okc c = true
/-- a name -/
def NameOk (z : Str) : Prop := 1 ≤ z.length ∧ z.length ≤ 12 ∧ ∀ c ∈ z.cps.toList, low c = true
def okT (n : Nat) : V → Bool
  | .str z => Nat.ble z.length n && z.cps.toList.all okc
  | _ => false
def okN : V → Bool
  | .str z => Nat.ble 1 z.length && Nat.ble z.length 12 && z.cps.toList.all low
  | _ => false
theorem okT_ok {n : Nat} {x : V} (h : okT n x = true) : ∃ z, x = .str z ∧ TextOk n z := by
  cases x with
  | str z =>
    have h : (Nat.ble z.length n && z.cps.toList.all okc) = true := h
    rw [Bool.and_eq_true, List.all_eq_true] at h
    exact ⟨z, rfl, Nat.le_of_ble_eq_true h.1, h.2⟩
  | _ => cases h
theorem okN_ok {x : V} (h : okN x = true) : ∃ z, x = .str z ∧ NameOk z := by
  cases x with
  | str z =>
    have h : (Nat.ble 1 z.length && Nat.ble z.length 12 && z.cps.toList.all low) = true := h
    rw [Bool.and_eq_true, Bool.and_eq_true, List.all_eq_true] at h
    exact ⟨z, rfl, Nat.le_of_ble_eq_true h.1.1, Nat.le_of_ble_eq_true h.1.2, h.2⟩
  | _ => cases h
theorem low_okc {c : Nat} (h : low c = true) : okc c = true := by
  unfold low at h
  unfold okc
  rw [Bool.and_eq_true] at h
  have h1 := Nat.le_of_ble_eq_true h.1
  have h2 := Nat.le_of_ble_eq_true h.2
  have e1 : Nat.ble 32 c = true := Nat.ble_eq_true_of_le (by omega)
  have e2 : Nat.ble c 126 = true := Nat.ble_eq_true_of_le (by omega)
  have e3 : (c == 37) = false := beq_eq_false_iff_ne.mpr (by omega)
  rw [e1, e2, e3]
  simp
theorem NameOk.text {z : Str} (h : NameOk z) : TextOk 12 z := ⟨h.2.1, fun c hc => low_okc (h.2.2 c hc)⟩
theorem TextOk.mono {m n : Nat} {z : Str} (h : TextOk m z) (l : m ≤ n) : TextOk n z := ⟨Nat.le_trans h.1 l, h.2⟩
theorem app_list (x y : Str) : (x ++ y).cps.toList = x.cps.toList ++ y.cps.toList := by
  show (x.cps ++ y.cps).toList = _
  rw [Array.toList_append]
theorem app_len (x y : Str) : (x ++ y).length = x.length + y.length := by
  show (x.cps ++ y.cps).size = _
  rw [Array.size_append]
  rfl
theorem len_list (x : Str) : x.length = x.cps.toList.length := by rw [Array.length_toList]; rfl
theorem str_ext {x y : Str} (h : x.cps.toList = y.cps.toList) : x = y := by
  cases x with | mk a => cases y with | mk b =>
  have e : a = b := Array.toList_inj.mp h
  rw [e]
theorem TextOk.app {m n : Nat} {x y : Str} (hx : TextOk m x) (hy : TextOk n y) : TextOk (m + n) (x ++ y) := by
  refine ⟨by rw [app_len]; have := hx.1; have := hy.1; omega, fun c hc => ?_⟩
  rw [app_list] at hc
  rcases List.mem_append.mp hc with h | h
  · exact hx.2 c h
  · exact hy.2 c h
theorem size_le {n : Nat} (h : n ≤ 100000) : n ≤ sizeLine := Nat.le_trans h (by decide)
theorem size_lt {n : Nat} (h : n < 100000) : n < sizeLine := Nat.lt_of_lt_of_le h (by decide)
/-! ### items -/
theorem atI_in {α : Type} {xs : List α} {i : Int} (h0 : 0 ≤ i) (h1 : i < xs.length) : ∃ v, atI xs i = some v ∧ v ∈ xs := by
  have hl : i.toNat < xs.length := by omega
  refine ⟨xs[i.toNat], ?_, List.getElem_mem hl⟩
  unfold atI ixN
  rw [if_pos h0, if_pos h1]
  exact List.getElem?_eq_getElem hl
theorem atI_all {α : Type} {xs : List α} {i : Int} (P : α → Prop) (h0 : 0 ≤ i) (h1 : i < xs.length) (h : ∀ x ∈ xs, P x) : ∃ v, atI xs i = some v ∧ P v := by
  obtain ⟨v, e, m⟩ := atI_in h0 h1
  exact ⟨v, e, h v m⟩
theorem all_okT {n : Nat} {xs : List V} (h : xs.all (okT n) = true) : ∀ x ∈ xs, ∃ z, x = .str z ∧ TextOk n z := fun x hx => okT_ok (List.all_eq_true.mp h x hx)
theorem all_okN {xs : List V} (h : xs.all okN = true) : ∀ x ∈ xs, ∃ z, x = .str z ∧ NameOk z := fun x hx => okN_ok (List.all_eq_true.mp h x hx)
/-! ### a pool: a state, the digits, the number of draws -/
def Pool (H : Hp) (a : Addr) : Prop := ∃ s d n : Int, H a = some (.lst [.int s, .int d, .int n]) ∧ 0 ≤ s ∧ s < 1000000007 ∧ 0 ≤ d
theorem Pool.keep {H H' : Hp} {a : Addr} (h : Pool H a) (e : H' a = H a) : Pool H' a := by
  obtain ⟨s, d, n, h1, h2⟩ := h
  exact ⟨s, d, n, e.trans h1, h2⟩
theorem Pool.same {H H' : Hp} {a : Addr} (h : Pool H a) (e : Same H H') : Pool H' a := by
  obtain ⟨s, d, n, h1, h2⟩ := h
  exact ⟨s, d, n, e _ _ h1, h2⟩
theorem Pool.ne {H : Hp} {a b : Addr} (h : Pool H a) (e : H b = none) : b ≠ a := fun z => by
  obtain ⟨s, d, n, h1, _⟩ := h
  rw [z, h1] at e
  cases e
theorem Pool.new {H : Hp} {a b : Addr} {o : HO} (h : Pool H a) (e : b ≠ a) : Pool (upd H b o) a := h.keep (upd_ne e.symm)
theorem Keep.free {a b : Addr} {H H' : Hp} (k : Keep a H H') (e : H' b = none) (ne : b ≠ a) : H b = none := by
  cases q : H b with
  | none => rfl
  | some o => rw [k b o ne q] at e; cases e
/-- lists may change, all else stays -/
def isLst : HO → Bool
  | .lst _ => true
  | _ => false
def Stay (H H' : Hp) : Prop := ∀ b o, isLst o = false → H b = some o → H' b = some o
theorem Stay.refl (H : Hp) : Stay H H := fun _ _ _ h => h
theorem Stay.trans {H H1 H2 : Hp} (x : Stay H H1) (y : Stay H1 H2) : Stay H H2 := fun b o n h => y b o n (x b o n h)
theorem stay_of {H H' : Hp} (x : Same H H') : Stay H H' := fun b o _ h => x b o h
theorem Keep.stay {a : Addr} {H H' : Hp} (k : Keep a H H') (p : Pool H a) : Stay H H' := fun b o l h => by
  refine k b o (fun z => ?_) h
  obtain ⟨s, d, n, h1, _⟩ := p
  rw [z, h1] at h
  cases h
  cases l
theorem Stay.lst {H H' : Hp} {D : Addr} {xs ys : List V} (s : Stay H H') (h : H' D = some (.lst xs)) : Stay H (upd H' D (.lst ys)) := fun b o l e => by
  have e2 := s b o l e
  have n : b ≠ D := fun z => by
    rw [z, h] at e2
    cases e2
    cases l
  rw [upd_ne n]
  exact e2
theorem stay_new {H : Hp} {p : Addr} {o : HO} (h : H p = none) : Stay H (upd H p o) := stay_of (same_new h)
/-! ### comprehensions: R what an element's evaluation keeps, J what stands throughout -/
structure Fr (R : Hp → Hp → Prop) (J : Hp → Prop) (D : Addr) : Prop where
  refl : ∀ H, R H H
  trans : ∀ {H H1 H2}, R H H1 → R H1 H2 → R H H2
  new : ∀ {H H' o}, R H H' → H D = none → R H (upd H' D o)
  keep : ∀ {H H' o}, R H H' → H D = some o → H' D = some o
  stay : ∀ {H H'}, J H → R H H' → Stay H H'
  jupd : ∀ {H o}, J H → J (upd H D o)
theorem fr_keep {a D : Addr} (ne : D ≠ a) : Fr (Keep a) (fun H => Pool H a) D where
  refl := fun H => Keep.refl a H
  trans := fun x y => x.trans y
  new := fun x h b o nb hb => by rw [upd_ne (ne_of_none hb h)]; exact x b o nb hb
  keep := fun x h => x D _ ne h
  stay := fun p k => k.stay p
  jupd := fun p => p.new ne
theorem fr_same {D : Addr} : Fr Same (fun _ => True) D where
  refl := fun H => Same.refl H
  trans := fun x y => x.trans y
  new := fun x h b o hb => by rw [upd_ne (ne_of_none hb h)]; exact x b o hb
  keep := fun x h => x D _ h
  stay := fun _ k => stay_of k
  jupd := fun p => p
def accP (R : Hp → Hp → Prop) (J : Hp → Prop) (Pp : Nat → V → Hp → Prop) (D : Addr) (H1 : Hp) (i : Nat) (H : Hp) : Prop :=
  J H ∧ R H1 H ∧ ∃ ys, ys.length = i ∧ H D = some (.lst ys) ∧ ∀ (i : Nat) (y : V), ys[i]? = some y → Pp i y H
section
variable {R : Hp → Hp → Prop} {J : Hp → Prop} {D : Addr} {Pp : Nat → V → Hp → Prop} {H1 : Hp}
theorem acc_start (F : Fr R J D) (j : J H1) (hD : H1 D = none) : accP R J Pp D H1 0 (upd H1 D (.lst [])) :=
  ⟨F.jupd j, F.new (F.refl H1) hD, [], rfl, upd_same, fun i y e => by simp at e⟩
theorem acc_turn (F : Fr R J D) (hD : H1 D = none) (mono : ∀ i v H H', Pp i v H → Stay H H' → Pp i v H') {i : Nat} {H H4 : Hp} {y : V} (hi : i < 100000) (v : accP R J Pp D H1 i H) (z : J H4 ∧ R H H4 ∧ Pp i y H4) :
    ∃ acc, H4 D = some (.lst acc) ∧ acc.length < sizeLine ∧ accP R J Pp D H1 (i + 1) (upd H4 D (.lst (acc ++ [y]))) := by
  obtain ⟨p1, k1, ys, l1, e1, q1⟩ := v
  obtain ⟨p4, k4, q4⟩ := z
  have e4 : H4 D = some (.lst ys) := F.keep k4 e1
  refine ⟨ys, e4, size_lt (by omega), F.jupd p4, F.new (F.trans k1 k4) hD, ys ++ [y], by simp [l1], upd_same, fun i2 y2 e2 => ?_⟩
  have st : Stay H4 (upd H4 D (.lst (ys ++ [y]))) := (Stay.refl H4).lst e4
  rcases Nat.lt_trichotomy i2 ys.length with hl | hl | hl
  · rw [List.getElem?_append_left hl] at e2
    exact mono _ _ _ _ (mono _ _ _ _ (q1 i2 y2 e2) (F.stay p1 k4)) st
  · subst hl
    rw [List.getElem?_append_right (Nat.le_refl _), Nat.sub_self] at e2
    cases e2
    rw [l1]
    exact mono _ _ _ _ q4 st
  · rw [List.getElem?_eq_none (by simp; omega)] at e2
    cases e2
/-- [e for k in range(n)] -/
theorem lcr {n j : Nat} {lo : Int} {te : TE} {vs : List Nat} {σ : L2.St} {Qd : Hp → Prop} (F : Fr R J D) (Pp : Nat → V → Hp → Prop) (hp : J H1) (hD : H1 D = none) (hn : n < 100000)
    (mono : ∀ i v H H', Pp i v H → Stay H H' → Pp i v H') (hw : ∀ x, wipe ((wipe σ vs).set j (some x)) vs = wipe σ vs)
    (turn : ∀ i H, i < n → J H → R H1 H → te ((wipe σ vs).set j (some (.int (lo + i)))) H (fun y H4 => J H4 ∧ R H H4 ∧ Pp i y H4))
    (hd : ∀ H ys, J H → R H1 H → ys.length = n → H D = some (.lst ys) → (∀ (i : Nat) (y : V), ys[i]? = some y → Pp i y H) → Qd H) :
    ∃ W : Nat → Nat → Hp → Prop, (∃ m, W 0 m (upd H1 D (.lst []))) ∧ ∀ i m H, W i m H →
      ((Itr lo n).stop i H ∧ Qd H) ∨ ((Itr lo n).go i H ∧ ∃ Nx : Hp → Prop, (∀ H', Nx H' → ∃ m', m' < m ∧ W (i + 1) m' H') ∧ ∀ x H', (Itr lo n).yld i H x H' → gName j x (wipe σ vs) H' fun σ2 H2 => wipe σ2 vs = wipe σ vs ∧ tYes σ2 H2 fun b H3 =>
        if b = true then upE te σ2 H3 fun y H4 => ∃ acc, H4 D = some (.lst acc) ∧ acc.length < sizeLine ∧ Nx (upd H4 D (.lst (acc ++ [y]))) else Nx H3) := by
  refine lc_range (accP R J Pp D H1) (acc_start F hp hD) (fun i H hi hv => ?_) (fun H hv => ?_)
  · refine ⟨hw _, ?_⟩
    dsimp only [tYes]
    rw [if_pos rfl]
    exact ⟨_, fun y H4 z => acc_turn F hD mono (by omega) hv z, turn i H hi hv.1 hv.2.1⟩
  · obtain ⟨p1, k1, ys, l1, e1, q1⟩ := hv
    exact hd H ys p1 k1 l1 e1 q1
/-- [e for x in xs], a list that stays -/
theorem lcl {K : PySem.W.Frag} {a : Addr} {xs : List V} {j : Nat} {te : TE} {vs : List Nat} {σ : L2.St} {Qd : Hp → Prop} (F : Fr R J D) (Pp : Nat → V → Hp → Prop) (hp : J H1) (hD : H1 D = none) (hn : xs.length < 100000)
    (hS : ∀ H, J H → R H1 H → SqL K H a xs)
    (mono : ∀ i v H H', Pp i v H → Stay H H' → Pp i v H') (hw : ∀ x, wipe ((wipe σ vs).set j (some x)) vs = wipe σ vs)
    (turn : ∀ (i : Nat) x H, xs[i]? = some x → J H → R H1 H → te ((wipe σ vs).set j (some x)) H (fun y H4 => J H4 ∧ R H H4 ∧ Pp i y H4))
    (hd : ∀ H ys, J H → R H1 H → ys.length = xs.length → H D = some (.lst ys) → (∀ (i : Nat) (y : V), ys[i]? = some y → Pp i y H) → Qd H) :
    ∃ W : Nat → Nat → Hp → Prop, (∃ m, W 0 m (upd H1 D (.lst []))) ∧ ∀ i m H, W i m H →
      ((Itl K a).stop i H ∧ Qd H) ∨ ((Itl K a).go i H ∧ ∃ Nx : Hp → Prop, (∀ H', Nx H' → ∃ m', m' < m ∧ W (i + 1) m' H') ∧ ∀ x H', (Itl K a).yld i H x H' → gName j x (wipe σ vs) H' fun σ2 H2 => wipe σ2 vs = wipe σ vs ∧ tYes σ2 H2 fun b H3 =>
        if b = true then upE te σ2 H3 fun y H4 => ∃ acc, H4 D = some (.lst acc) ∧ acc.length < sizeLine ∧ Nx (upd H4 D (.lst (acc ++ [y]))) else Nx H3) := by
  refine lc_list (xs := xs) (accP R J Pp D H1) (acc_start F hp hD) (fun i H _ hv => hS H hv.1 hv.2.1) (fun i x H hx hv => ?_) (fun H hv => ?_)
  · refine ⟨hw _, ?_⟩
    dsimp only [tYes]
    rw [if_pos rfl]
    have hi : i < xs.length := (List.getElem?_eq_some_iff.mp hx).1
    exact ⟨_, fun y H4 z => acc_turn F hD mono (by omega) hv z, turn i x H hx hv.1 hv.2.1⟩
  · obtain ⟨p1, k1, ys, l1, e1, q1⟩ := hv
    exact hd H ys p1 k1 l1 e1 q1
/-- [e for x in t], a tuple -/
theorem lct {K : PySem.W.Frag} {a : Addr} {xs : List V} {j : Nat} {te : TE} {vs : List Nat} {σ : L2.St} {Qd : Hp → Prop} (F : Fr R J D) (Pp : Nat → V → Hp → Prop) (hp : J H1) (hD : H1 D = none) (hn : xs.length < 100000)
    (hS : ∀ H, J H → R H1 H → SqT K H a xs)
    (mono : ∀ i v H H', Pp i v H → Stay H H' → Pp i v H') (hw : ∀ x, wipe ((wipe σ vs).set j (some x)) vs = wipe σ vs)
    (turn : ∀ (i : Nat) x H, xs[i]? = some x → J H → R H1 H → te ((wipe σ vs).set j (some x)) H (fun y H4 => J H4 ∧ R H H4 ∧ Pp i y H4))
    (hd : ∀ H ys, J H → R H1 H → ys.length = xs.length → H D = some (.lst ys) → (∀ (i : Nat) (y : V), ys[i]? = some y → Pp i y H) → Qd H) :
    ∃ W : Nat → Nat → Hp → Prop, (∃ m, W 0 m (upd H1 D (.lst []))) ∧ ∀ i m H, W i m H →
      ((Itt K a).stop i H ∧ Qd H) ∨ ((Itt K a).go i H ∧ ∃ Nx : Hp → Prop, (∀ H', Nx H' → ∃ m', m' < m ∧ W (i + 1) m' H') ∧ ∀ x H', (Itt K a).yld i H x H' → gName j x (wipe σ vs) H' fun σ2 H2 => wipe σ2 vs = wipe σ vs ∧ tYes σ2 H2 fun b H3 =>
        if b = true then upE te σ2 H3 fun y H4 => ∃ acc, H4 D = some (.lst acc) ∧ acc.length < sizeLine ∧ Nx (upd H4 D (.lst (acc ++ [y]))) else Nx H3) := by
  refine lc_tup (xs := xs) (accP R J Pp D H1) (acc_start F hp hD) (fun i H _ hv => hS H hv.1 hv.2.1) (fun i x H hx hv => ?_) (fun H hv => ?_)
  · refine ⟨hw _, ?_⟩
    dsimp only [tYes]
    rw [if_pos rfl]
    have hi : i < xs.length := (List.getElem?_eq_some_iff.mp hx).1
    exact ⟨_, fun y H4 z => acc_turn F hD mono (by omega) hv z, turn i x H hx hv.1 hv.2.1⟩
  · obtain ⟨p1, k1, ys, l1, e1, q1⟩ := hv
    exact hd H ys p1 k1 l1 e1 q1
end
theorem strs_of {n : Nat} {ys : List V} (h : ∀ (i : Nat) (y : V), ys[i]? = some y → ∃ z, y = V.str z ∧ TextOk n z) : ∃ zs : List Str, ys = zs.map V.str ∧ ∀ z ∈ zs, TextOk n z := by
  induction ys with
  | nil => exact ⟨[], rfl, fun z hz => by cases hz⟩
  | cons y r ih =>
    obtain ⟨z, rfl, tz⟩ := h 0 y rfl
    obtain ⟨zs, rfl, tzs⟩ := ih fun i y e => h (i + 1) y e
    refine ⟨z :: zs, rfl, fun x hx => ?_⟩
    rcases List.mem_cons.mp hx with e | e
    · rw [e]; exact tz
    · exact tzs x e
theorem sum_le1 {zs : List Str} : (∀ z ∈ zs, z.length ≤ 1) → (zs.map (·.length)).sum ≤ zs.length := by
  induction zs with
  | nil => intro _; exact Nat.le_refl _
  | cons z r ih =>
    intro h
    have h1 := h z List.mem_cons_self
    have h2 := ih fun x hx => h x (List.mem_cons_of_mem _ hx)
    rw [List.map_cons, List.sum_cons, List.length_cons]
    omega
/-- ''.join -/
theorem joinL_nil : ∀ ps : List (List Nat), TL.joinL [] ps = ps.flatten
  | [] => rfl
  | [p] => by show p = [p].flatten; simp
  | p :: q :: r => by
    show p ++ ([] ++ TL.joinL [] (q :: r)) = _
    rw [joinL_nil (q :: r)]
    simp
theorem join_list (y : Str) (zs : List Str) : (Txt.join y zs).cps.toList = TL.joinL y.cps.toList (zs.map TL.tl) := by
  rw [TL.join_eq]
  exact TL.tl_join y zs
theorem join_empty {y : Str} (hy : y.cps.toList = []) (zs : List Str) : (Txt.join y zs).cps.toList = (zs.map fun z => z.cps.toList).flatten := by
  rw [join_list, hy, joinL_nil]
theorem join_ok {y : Str} (hy : y.cps.toList = []) {zs : List Str} (h : ∀ z ∈ zs, TextOk 1 z) : TextOk zs.length (Txt.join y zs) := by
  have e := join_empty hy zs
  refine ⟨?_, fun c hc => ?_⟩
  · rw [len_list, e, List.length_flatten, List.map_map]
    have := sum_le1 fun z hz => (h z hz).1
    have e2 : (List.length ∘ fun z : Str => z.cps.toList) = fun z => z.length := funext fun z => (len_list z).symm
    rw [e2]
    exact this
  · rw [e] at hc
    obtain ⟨l, hl, hc⟩ := List.mem_flatten.mp hc
    obtain ⟨z, hz, rfl⟩ := List.mem_map.mp hl
    exact (h z hz).2 c hc
/-! ### text * int -/
def rRepS : R2 := fun x y H Q => match x, y with
  | .str a, .int j => 0 ≤ j ∧ j ≤ 1000 ∧ a.length ≤ 1000 ∧ ∀ z : Str, z.cps.toList = (List.replicate j.toNat a.cps.toList).flatten → Q (.str z) H
  | _, _ => False
theorem foldl_rep (c : Array Nat) : ∀ (n : Nat) (acc : Array Nat), ((List.replicate n c).foldl (· ++ ·) acc).toList = acc.toList ++ (List.replicate n c.toList).flatten
  | 0, acc => by simp
  | n + 1, acc => by
    rw [List.replicate_succ, List.foldl_cons, foldl_rep c n, List.replicate_succ, List.flatten_cons, Array.toList_append, List.append_assoc]
section
variable {X : Cx}
theorem op_repS : OpR X (binaryOp .Mult) rRepS := by
  intro pins s σ H x y v u Q I rx ry q
  unfold rRepS at q
  split at q
  · rename_i a j
    obtain ⟨h0, h1, h2, q⟩ := q
    obtain ⟨t, rfl⟩ := rx
    obtain ⟨t', rfl⟩ := ry
    have hd : (decide (j < -(2 ^ 63 : Int)) || decide (j ≥ 2 ^ 63)) = false := by
      rw [decide_eq_false (by omega), decide_eq_false (by omega)]
      rfl
    have hm : a.length * j.toNat ≤ 1000 * 1000 := Nat.mul_le_mul h2 (by omega)
    refine PySem.P.mul_str hd (fun n1 _ => ?_) (fun n1 _ => ?_) ?_
    · intro z
      have : (a.length : Int) ≤ 1000 := by omega
      have h3 : (1000 : Int) ≤ (2 ^ 63 - 1) / j := by
        refine (Int.le_ediv_iff_mul_le (by omega)).mpr ?_
        have : 1000 * j ≤ 1000 * 1000 := Int.mul_le_mul_of_nonneg_left h1 (by decide)
        omega
      omega
    · unfold Builtin.Str.tooLong
      refine decide_eq_false ?_
      intro z
      have : sizeLine ≥ 1000 * 1000 := by decide
      omega
    · by_cases c1 : j < 1
      · rw [if_pos c1]
        have e : j.toNat = 0 := by omega
        exact ⟨by decide, .str Str.empty, H, I.tok _, ⟨_, rfl⟩, q _ (by rw [e]; rfl)⟩
      · rw [if_neg c1]
        by_cases c2 : (j == 1 || a.length == 0) = true
        · rw [if_pos c2]
          refine ⟨.str a, H, I, ⟨_, rfl⟩, q _ ?_⟩
          rw [Bool.or_eq_true] at c2
          rcases c2 with c2 | c2
          · have e : j = 1 := by simpa using c2
            rw [e]
            show a.cps.toList = a.cps.toList ++ []
            rw [List.append_nil]
          · have e : a.cps.toList = [] := by
              have : a.length = 0 := by simpa using c2
              rw [len_list] at this
              exact List.length_eq_zero_iff.mp this
            rw [e]
            simp
        · rw [if_neg c2]
          have el : (List.replicate j.toNat a.cps).foldl (· ++ ·) #[] = (List.replicate j.toNat a.cps).foldl (· ++ ·) #[] := rfl
          have e := foldl_rep a.cps j.toNat #[]
          refine ⟨?_, .str _, H, I.tok _, ⟨_, rfl⟩, q _ ?_⟩
          · show ((List.replicate j.toNat a.cps).foldl (· ++ ·) #[]).size ≤ sizeLine
            rw [← Array.length_toList, e]
            simp
            rw [show a.cps.size = a.length from rfl, Nat.mul_comm]
            exact Nat.le_trans hm (by decide)
          · rw [e]
            rfl
  · exact q.elim
def rMul : R2 := fun x y H Q => match x, y with
  | .int i, .int j => CMul i j ∧ Q (.int (i * j)) H
  | .ref a, .int j => rRep (.ref a) (.int j) H Q
  | .str a, .int j => 0 ≤ j ∧ j ≤ 1000 ∧ a.length ≤ 1000 ∧ ∀ z : Str, z.cps.toList = (List.replicate j.toNat a.cps.toList).flatten → Q (.str z) H
  | _, _ => False
theorem op_mulU : OpR X (binaryOp .Mult) rMul := OpRw (OpR.or op_times op_repS) fun x y H Q q => by
  unfold rMul at q
  split at q
  · exact .inl q
  · exact .inl q
  · exact .inr q
  · exact q.elim
end
end Sk
namespace Sk
open PySem PySem.Spec PyProof.Rows L2
/-! ### values as they stand in a heap -/
def FlatOk : V → Prop
  | .non => True
  | .bl _ => True
  | .int i => i.natAbs ≤ 10 ^ 30
  | .str z => TextOk 24 z
  | _ => False
def DictOk (kvs : List (Key × V)) : Prop := kvs.length ≤ 3 ∧ (kvs.map (·.1)).Nodup ∧ ∀ p ∈ kvs, ∃ w, p.1 = .inr w ∧ NameOk w
def GoodV (H : Hp) : Nat → V → Prop
  | 0, v => FlatOk v
  | n + 1, v => FlatOk v ∨ (∃ a vs, v = .ref a ∧ H a = some (.tup vs) ∧ vs.length ≤ 3 ∧ ∀ x ∈ vs, GoodV H n x) ∨ (∃ a kvs, v = .ref a ∧ H a = some (.dK kvs) ∧ DictOk kvs ∧ ∀ p ∈ kvs, GoodV H n p.2)
theorem FlatOk.good {H : Hp} {v : V} (h : FlatOk v) : ∀ n, GoodV H n v
  | 0 => h
  | _ + 1 => .inl h
theorem GoodV.mono {H H' : Hp} (s : Stay H H') : ∀ (n : Nat) (v : V), GoodV H n v → GoodV H' n v
  | 0, _, h => h
  | n + 1, v, h => by
    rcases h with h | ⟨a, vs, e, h1, h2, h3⟩ | ⟨a, kvs, e, h1, h2, h3⟩
    · exact .inl h
    · exact .inr (.inl ⟨a, vs, e, s _ _ rfl h1, h2, fun x hx => GoodV.mono s n x (h3 x hx)⟩)
    · exact .inr (.inr ⟨a, kvs, e, s _ _ rfl h1, h2, fun p hp => GoodV.mono s n p.2 (h3 p hp)⟩)
theorem GoodV.up {H : Hp} : ∀ (n : Nat) (v : V), GoodV H n v → GoodV H (n + 1) v
  | 0, _, h => .inl h
  | n + 1, v, h => by
    rcases h with h | ⟨a, vs, e, h1, h2, h3⟩ | ⟨a, kvs, e, h1, h2, h3⟩
    · exact .inl h
    · exact .inr (.inl ⟨a, vs, e, h1, h2, fun x hx => GoodV.up n x (h3 x hx)⟩)
    · exact .inr (.inr ⟨a, kvs, e, h1, h2, fun p hp => GoodV.up n p.2 (h3 p hp)⟩)
/-- a key that is there gets another value -/
theorem put_keys {kvs : List (Key × V)} {k : Key} {x : V} (h : (valV kvs k).isSome = true) : (putK kvs k x).map (·.1) = kvs.map (·.1) := by
  unfold putK
  rw [if_pos (by rw [valV_any]; exact h), List.map_map]
  refine List.map_congr_left fun p _ => ?_
  show (if p.1 = k then (p.1, x) else p).1 = p.1
  split <;> rfl
theorem put_mem {kvs : List (Key × V)} {k : Key} {x : V} {p : Key × V} (h : p ∈ putK kvs k x) : p ∈ kvs ∨ (p.1 = k ∧ p.2 = x) := by
  unfold putK at h
  split at h
  · obtain ⟨q, hq, e⟩ := List.mem_map.mp h
    split at e
    · rename_i hk
      rw [← e]
      exact .inr ⟨hk, rfl⟩
    · rw [← e]
      exact .inl hq
  · rcases List.mem_append.mp h with h | h
    · exact .inl h
    · have : p = (k, x) := by simpa using h
      rw [this]
      exact .inr ⟨rfl, rfl⟩
theorem DictOk.put {kvs : List (Key × V)} {k : Key} {x : V} (d : DictOk kvs) (h : (valV kvs k).isSome = true) : DictOk (putK kvs k x) := by
  have e := put_keys (x := x) h
  refine ⟨?_, by rw [e]; exact d.2.1, fun p hp => ?_⟩
  · have l := congrArg List.length e
    rw [List.length_map, List.length_map] at l
    rw [l]
    exact d.1
  · have hm : p.1 ∈ (putK kvs k x).map (·.1) := List.mem_map_of_mem hp
    rw [e] at hm
    obtain ⟨q, hq, eq⟩ := List.mem_map.mp hm
    rw [← eq]
    exact d.2.2 q hq
theorem GoodV.put {G : Hp} {c : Addr} {kvs : List (Key × V)} {k : Key} {x : V} (hc : G c = some (.dK kvs)) (h : (valV kvs k).isSome = true) (hx : FlatOk x) : ∀ (n : Nat) (v : V), GoodV G n v → GoodV (upd G c (.dK (putK kvs k x))) n v
  | 0, _, g => g
  | n + 1, v, g => by
    rcases g with g | ⟨a, vs, e, h1, h2, h3⟩ | ⟨a, ws, e, h1, h2, h3⟩
    · exact .inl g
    · refine .inr (.inl ⟨a, vs, e, ?_, h2, fun x hx' => GoodV.put hc h hx n x (h3 x hx')⟩)
      rw [upd_ne (fun z => by rw [z, hc] at h1; cases h1)]
      exact h1
    · by_cases z : a = c
      · subst z
        rw [hc] at h1
        cases h1
        refine .inr (.inr ⟨a, _, e, upd_same, h2.put h, fun p hp => ?_⟩)
        rcases put_mem hp with hp | ⟨_, hp⟩
        · exact GoodV.put hc h hx n _ (h3 p hp)
        · rw [hp]
          exact hx.good n
      · refine .inr (.inr ⟨a, ws, e, ?_, h2, fun p hp => GoodV.put hc h hx n _ (h3 p hp)⟩)
        rw [upd_ne z]
        exact h1
/-! ### the part of a heap that is new -/
def newP (H H' : Hp) : Hp := fun b => match H b with | some _ => none | none => H' b
theorem newP_at {H H' : Hp} {b : Addr} (h : H b = none) : newP H H' b = H' b := by unfold newP; rw [h]
theorem newP_some {H H' : Hp} {b : Addr} {o : HO} (h : newP H H' b = some o) : H b = none ∧ H' b = some o := by
  unfold newP at h
  cases e : H b with
  | none => rw [e] at h; exact ⟨rfl, h⟩
  | some u => rw [e] at h; cases h
theorem newP_stay {H H' : Hp} : Stay (newP H H') H' := fun b o _ h => (newP_some h).2
/-- more was there before: less is new -/
theorem newP_less {H H1 H2 : Hp} (h : ∀ b, H1 b = none → H b = none) : Stay (newP H1 H2) (newP H H2) := fun b o _ e => by
  obtain ⟨e1, e2⟩ := newP_some e
  rw [newP_at (h b e1)]
  exact e2
theorem newP_on {H H1 H2 : Hp} (s : Stay H1 H2) : Stay (newP H H1) (newP H H2) := fun b o l e => by
  obtain ⟨e1, e2⟩ := newP_some e
  rw [newP_at e1]
  exact s b o l e2
theorem Keep.dom {a : Addr} {H H' : Hp} (k : Keep a H H') (p : Pool H' a) : ∀ b, H' b = none → H b = none := fun b e => k.free e (p.ne e)
/-- all but d -/
def hide (d : Addr) (H : Hp) : Hp := fun b => if b = d then none else H b
theorem hide_ne {d b : Addr} {H : Hp} (h : b ≠ d) : hide d H b = H b := by unfold hide; rw [if_neg h]
theorem hide_some {d b : Addr} {H : Hp} {o : HO} (h : hide d H b = some o) : b ≠ d ∧ H b = some o := by
  unfold hide at h
  split at h
  · cases h
  · exact ⟨by assumption, h⟩
theorem hide_stay {d : Addr} {H : Hp} : Stay (hide d H) H := fun b o _ h => (hide_some h).2
theorem hide_on {d : Addr} {H H' : Hp} (s : Stay H H') : Stay (hide d H) (hide d H') := fun b o l e => by
  obtain ⟨e1, e2⟩ := hide_some e
  rw [hide_ne e1]
  exact s b o l e2
theorem stay_hide {d : Addr} {H H' : Hp} (s : Stay H H') (hd : H d = none) : Stay H (hide d H') := fun b o l e => by
  rw [hide_ne (ne_of_none e hd)]
  exact s b o l e
end Sk
/-! Sk: what holds wherever a token has been given out (replace asks it of its two texts): defs, calls, comprehensions -/
namespace Sk
open PySem PySem.Spec PyProof.Rows L2
/-- a def keeps its promise, called where a token is out -/
structure FnT (P : Program) (w : World) (K : PySem.W.Frag) (mg : Str → Option Value) (base : Heap) (k : Nat) (f : Addr) (fd : FuncData) (ps : List Str) (sp : Sp) : Prop where
  len : ∀ vs H Q E, sp vs H Q E → vs.length = ps.length
  run : ∀ (A : Around) (outer : List Env) (s : Shared) (H : Hp) (args : Args) (us : List Value) (vs : List V) (Q : VK) (E : XK), 1 ≤ s.toks → Room k A → Env0 P w K mg base A outer s H → BindsTo s fd args (ps.zip us) → Vals vs us → sp vs H Q E →
    codeAny (model P w) A (.call (.ref f) args) (CR CX0 outer P w H s Q E) s
section
variable {P : Program} {w : World} {K : PySem.W.Frag} {mg : Str → Option Value} {base : Heap} {x qual : Str} {params : Arguments} {body : List Stmt} {scope : Scope} {dvs : List V} {kws : List (Str × V)} {f : Addr} {fd : FuncData}
theorem FnT.of {k : Nat} {ps : List Str} {sp : Sp} (F : FnOk P w K mg base CX0 k f fd ps sp) : FnT P w K mg base k f fd ps sp := ⟨F.len, fun A outer s H args us vs Q E _ => F.run A outer s H args us vs Q E⟩
theorem fnT_of {N ps : List Str} {k : Nat} {sp : Sp} (F : FunD K x qual params body scope dvs kws f fd) (S : FnScope N ps scope) (len : ∀ vs H Q E, sp vs H Q E → vs.length = ps.length)
    (hb : ∀ (cdv : Value) (A : Around) (outer : List Env) (s : Shared) (H : Hp) (vs : List V) (Q : VK) (E : XK), Room k (A.deeper (envOfC qual scope s.heap.objs.size f cdv)) → sp vs H Q E →
      ∃ t, PSsT (cxOf CX0 P w K mg base N qual scope f cdv A outer s H E).nox body t ∧ t { nx := fun _ H' => Q .non H', rt := Q } (start N vs) H) : FnT P w K mg base (k + 1) f fd ps sp := by
  obtain ⟨oc, od, dV, kV, doc, pm, an, cdv, ct, osl, efd, look, code, _, _⟩ := F.ex
  subst efd
  refine ⟨len, fun A outer s H args us vs Q E tok room env bind rel want => ?_⟩
  have size := len _ _ _ _ want
  have inK : K.In s.heap := env.mod.kin.keeps fun b o e => (env.bs b o e).1
  have calm : s.heap.NoLimit := env.mod.nolimit.keeps fun b o e => (env.bs b o e).1
  have kinds : ∀ y ∈ ps.zip us, scope.names.lookup y.1 = some .local ∨ (scope.names.lookup y.1 = some .cell ∧ ((cellsFrom (s.heap.objs.size + 1) scope.names []).lookup y.1).isSome = true) := by
    rintro ⟨n, v⟩ hy
    cases S.par n (List.of_mem_zip hy).1 with
    | inl q => exact .inl q
    | inr q => exact .inr ⟨q, PySem.W.cellsFrom_some _ _ _ (.inl q)⟩
  refine codeAny_call_function room.depth (inK _ _ look) rfl S.co S.gen rfl (PySem.W.codeRec_of inK code) (bind _ _ _ _ ?_)
  refine wpAny_with_toks (n := 1) tok (wpAny_newFunctionEnv_cells S.kind kinds fun e1 he1 s1 inC tok1 => ?_)
  subst he1
  obtain ⟨t, der, red⟩ := hb cdv A outer s H vs Q E (room.deeper _) want
  have inv : Inv (cxOf CX0 P w K mg base N qual scope f cdv A outer s H E) [] (start N vs) H s1 := inv_start S room.hd env size rel inC
  have inv' : Inv (cxOf CX0 P w K mg base N qual scope f cdv A outer s H E).nox [] (start N vs) H s1 := ⟨⟨inv.ok.mod, inv.ok.kind, inv.ok.glob, inv.ok.blt, inv.ok.above, inv.ok.inj, inv.ok.has, inv.ok.cab, inv.ok.hd, inv.ok.frames, inv.ok.stk, inv.ok.exf, inv.ok.bs, inv.ok.bsz, inv.ok.noex, inv.ok.exfs, inv.ok.funs, inv.ok.frf⟩, inv.os, inv.bare, inv.base, inv.loc, inv.cell, inv.free, inv.freeC, inv.pin, inv.hok, inv.len⟩
  refine ⟨calm.keeps inC.toInCall.keep, codeAny_func (wpAny_mono (der [] s1 _ H _ tok1 inv' red) (fun fl s2 h2 => ?_) fun _ _ z => z.elim)⟩
  have back : ∀ {σ2 : L2.St} {H2 : Hp} {v : V} {u : Value}, Inv (cxOf CX0 P w K mg base N qual scope f cdv A outer s H E).nox [] σ2 H2 s2 → RelV v u → Q v H2 → CE outer P w H s Q u s2 := fun J r q => ⟨_, _, J.os, J.bare, J.base, J.hok, r, q⟩
  cases fl with
  | ret u => obtain ⟨v, σ2, H2, J, r, q⟩ := h2; exact back J r q
  | next => obtain ⟨σ2, H2, J, q⟩ := h2; exact back (u := Value.none) (v := V.non) J rfl q
  | brk => obtain ⟨_, _, _, q⟩ := h2; exact q.elim
  | cont => obtain ⟨_, _, _, q⟩ := h2; exact q.elim
end
section
variable {X : Cx}
/-- f(e, ..) -/
theorem petcall {k : Nat} {f : Addr} {fd : FuncData} {ps : List Str} {sp : Sp} {y : Str} {e : Expr} {es : List Expr} {t : TA} {p pos : Pos} (F : FnT X.prog X.w X.K X.mg X.base k f fd ps sp) (hr : Room k X.A) (hg : Gl X y) (hm : X.mg y = some (.ref f)) (hk : PySem.W.keepIn X.K (.ref f) = true)
    (hb : Binds X.K fd ps []) (ha : PA X (e :: es) t) (hdb : (y == ("__debug__" : Str)) = false := by decide) (he : starEach (e :: es) X.env = (false, eval e X.env) :: starEach es X.env := by rfl) (hpl : (backTo pos (starEach es X.env)).any (·.1) = false := by rfl) :
    PET X (.Call (.Name y p) (e :: es) [] pos) (fun σ H Q => t σ H fun vs H1 => sp vs H1 Q E0) := by
  intro pins s σ H Q tok I h
  refine wpAny_Call_Name_kw (ld_glob I hg hm ?_ hdb)
  have args := PySem.wpAny_toks_of tok (ha.run pos pins s σ H _ I h)
  refine PySem.W.callWith_K (h₀ := X.base) I.ok.mod.kin hk (wpAny_mono args (fun us s1 z => ?_) fun _ _ z => z.2) he hpl
  obtain ⟨tok1, vs, H1, I1, r, q⟩ := z
  refine ⟨I1.kIn, ?_⟩
  have r2 : Vals vs (us ++ []) := by rw [List.append_nil]; exact r
  have size : (us ++ []).length = ps.length := by rw [← r2.length]; exact F.len _ _ _ _ q
  refine wpAny_call (codeAny_mono (F.run X.A X.stack s1 H1 ⟨us, []⟩ (us ++ []) vs Q E0 tok1 hr I1.env0 (hb s1 us I1.kIn size) r2 q) fun r s2 hq => ?_)
  cases r with
  | error e => exact hq.elim
  | ok fl =>
    cases fl with
    | ret u => exact I1.after hq
    | next => exact hq.elim
    | brk => exact hq.elim
    | cont => exact hq.elim
/-- no error, and a token is out behind it too -/
theorem thnT {α : Type} {t : Sem α} {Q Q' : α → Shared → Prop} {M : Model} {A : Around} {E : Value → Shared → Prop} {s : Shared} (tok : 1 ≤ s.toks) (h : wpAny M A t Q (fun _ _ => False) s) (hQ : ∀ a s', 1 ≤ s'.toks → Q a s' → Q' a s') : wpAny M A t Q' E s :=
  wpAny_mono (PySem.wpAny_toks_of tok h) (fun a s' z => hQ a s' z.1 z.2) fun _ _ z => z.2.elim
/-- [elt for target in iter], elt where a token is out -/
theorem lcT_core {pins : List (Addr × Obj)} {s : Shared} {σ : L2.St} {H : Hp} {Q : VK} {elt tg iter : Expr} {scope : Scope} {own : List (Str × Nat)} {pos pos' : Pos} {wi : TI} {g : TG} {te : TE} {use : Option (Value → Sem Unit)} {Qf : Value → Shared → Prop}
    (tok : 1 ≤ s.toks) (hc : X.calm = true) (hN : X.N.Nodup) (I : Inv X pins σ H s) (hi : PI X tg iter wi) (ok : BlkOk X.N X.env.scope scope own)
    (hg : ∀ (s : Shared) (H : Hp) (C : Addr) (cl : List (Str × Addr)) (fp : List Addr), PG (X.blk s H scope (compEnvC scope cl C X.env) fp) tg g)
    (he : ∀ (s : Shared) (H : Hp) (C : Addr) (cl : List (Str × Addr)) (fp : List Addr), PET (X.blk s H scope (compEnvC scope cl C X.env) fp) elt te) (hs : ∀ x, foldedSetIterable iter X.env x = pure x)
    (h : tLc wi g tYes te (own.map (·.2)) σ H Q)
    (fin : ∀ D C s' m H', Inv X pins σ H' s' → Q (.ref D) H' → s'.heap.Ns C m → FpOk X pins H' C → compPost (model X.prog X.w) X.A X.xe use Qf (.ref D) C (.ok .next) s') :
    wpAny (model X.prog X.w) X.A (comprehension (.ListComp elt [⟨tg, iter, [], 0⟩] scope pos) scope X.env pos' (newList []) false (eval iter X.env) use) Qf X.xe s := by
  have caught : ∀ y ∈ scope.names, y.2 = .free → ∃ c, X.env.cells.lookup y.1 = some c := by
    intro y hy e
    cases ok.free y hy e with
    | inl k => exact I.ok.has _ (.inl k)
    | inr k => exact I.ok.has _ (.inr k)
  have walked := PySem.wpAny_toks_of tok (hi.run pins s σ H _ I h)
  refine wpAny_comprehension_free (use := use) rfl hs (closure_ok caught) ok.kind (fun y hy e => by rw [ok.uniq y hy, e]) (wpAny_mono walked (fun xv s1 hx => ?_) fun _ _ z => z.2)
  obtain ⟨tok1, hx⟩ := hx
  refine wpAny_mono (PySem.wpAny_toks_of tok1 hx) (fun itv s2 h2 => ?_) fun _ _ z => z.2
  obtain ⟨tok2, it, fp, tn, J, H2, e, I2, T, st2, f2, q⟩ := h2
  subst e
  refine wpAny_newObj_type (newEnv_comp ?_) (by show 0 ≤ sizeLine; decide)
  obtain ⟨D, hD⟩ : ∃ D, s2.heap.objs.size = D := ⟨_, rfl⟩
  rw [hD]
  have freeD : H2 D = none := I2.hok.fresh (Nat.le_of_eq hD)
  obtain ⟨W, ⟨m0, w0⟩, turn⟩ := q D freeD
  obtain ⟨s3, es3⟩ : ∃ s3 : Shared, ({ s2 with heap := s2.heap.push { cls := .type "list", data := .seq ([] : List Value).toArray } } : Shared) = s3 := ⟨_, rfl⟩
  rw [es3]
  have hp3 : s3.heap = s2.heap.push { cls := .type "list", data := .seq ([] : List Value).toArray } := by rw [← es3]
  have tok3 : 1 ≤ s3.toks := by rw [← es3]; exact tok2
  have grow : ∀ b o, s2.heap.get? b = some o → s3.heap.get? b = some o := fun b o e => by rw [hp3]; exact Heap.get?_push_of_some _ e
  have I3 : Inv X pins σ (upd H2 D (.lst [])) s3 := by
    rw [← es3]
    refine I2.laid (t' := s2.toks) (fun b o e => Heap.get?_push_of_some _ e) (Nat.le_of_eq hD) ⟨Nat.zero_le _, [], 0, .nil, ?_⟩
    rw [← hD]
    exact Heap.get?_push_size _ rfl
  have f3 : ∀ b ∈ fp, FpOk X pins (upd H2 D (.lst [])) b ∧ b < s3.heap.objs.size := by
    intro b hb
    obtain ⟨o, eo, _⟩ := T.obj _ _ st2 b hb
    have lt := Heap.lt_size eo
    have ne : b ≠ D := by rw [← hD]; exact Nat.ne_of_lt lt
    refine ⟨⟨?_, (f2 b hb).2⟩, ?_⟩
    · rw [upd_ne ne]; exact (f2 b hb).1
    · rw [hp3, Heap.size_push]; exact Nat.lt_succ_of_lt lt
  have st3 : tn 0 s3.heap := T.keep _ _ _ st2 fun b _ o e => grow b o e
  have I4 := block_start I3 ok hN f3
  have pg := hg s3 (upd H2 D (.lst [])) s3.heap.objs.size (cellsFrom (s3.heap.objs.size + 1) scope.names (cloFrom X.env.cells scope.names [])) fp
  have pe := he s3 (upd H2 D (.lst [])) s3.heap.objs.size (cellsFrom (s3.heap.objs.size + 1) scope.names (cloFrom X.env.cells scope.names [])) fp
  have none3 : ∀ b ∈ fp, (upd H2 D (.lst [])) b = none := fun b hb => (f3 b hb).1.1
  show codeAny (model X.prog X.w) X.A (.compStart (.ListComp elt [⟨tg, iter, [], 0⟩] scope pos) 0 (.ref it) (.ref D) (compEnvC scope (cellsFrom (s3.heap.objs.size + 1) scope.names (cloFrom X.env.cells scope.names [])) s3.heap.objs.size X.env)) (compPost (model X.prog X.w) X.A X.xe use Qf (.ref D) s3.heap.objs.size) _
  obtain ⟨ce, ece⟩ : ∃ ce, compEnvC scope (cellsFrom (s3.heap.objs.size + 1) scope.names (cloFrom X.env.cells scope.names [])) s3.heap.objs.size X.env = ce := ⟨_, rfl⟩
  have loc : ce.locals = s3.heap.objs.size := by rw [← ece]; rfl
  rw [ece] at I4 pg pe ⊢
  obtain ⟨H3, eH3⟩ : ∃ H3, upd H2 D (.lst []) = H3 := ⟨_, rfl⟩
  rw [eH3] at I3 I4 pg pe w0 none3 f3
  obtain ⟨s4, es4⟩ : ∃ s4 : Shared, ({ s3 with heap := pushCells (s3.heap.push { cls := .type "dict", data := .dict #[] }) scope.names } : Shared) = s4 := ⟨_, rfl⟩
  rw [es4] at I4 ⊢
  have tok4 : 1 ≤ s4.toks := by rw [← es4]; exact tok3
  have st4 : tn 0 s4.heap := T.keep _ _ _ st3 fun b _ o e => by rw [← es4]; exact pushCells_keeps _ _ _ _ (Heap.get?_push_of_some _ e)
  have own4 : ∀ {σ' : L2.St} {H' : Hp} {s' : Shared}, Inv (X.blk s3 H3 scope ce fp) [] σ' H' s' → (∀ b ∈ fp, H' b = none) → ∀ b ∈ fp, FpOk (X.blk s3 H3 scope ce fp) [] H' b := by
    intro σ' H' s' I' hn b hb
    have ex := I'.ok.exf b hb
    exact ⟨hn b hb, ex.1, I'.ok.exfs b hb, .inl hb, fun x c e => ex.2 x c e, fun p hp => by cases hp⟩
  have loop : codeAny (model X.prog X.w) X.A (.compLoop (.ListComp elt [⟨tg, iter, [], 0⟩] scope pos) 0 (.ref it) (.ref D) ce) (compPost (model X.prog X.w) X.A X.xe use Qf (.ref D) s3.heap.objs.size) s4 := by
    refine compLoop_any (fun n s' => 1 ≤ s'.toks ∧ ∃ i H', Inv (X.blk s3 H3 scope ce fp) [] (wipe σ (own.map (·.2))) H' s' ∧ tn i s'.heap ∧ (∀ b ∈ fp, H' b = none) ∧ W i n H') ?_ m0 ⟨tok4, 0, H3, I4, st4, none3, w0⟩
    rintro n s5 ⟨tok5, i, H5, I5, st5, n5, w5⟩
    cases turn i n H5 w5 with
    | inl z =>
      obtain ⟨stop, qq⟩ := z
      have td := T.done (X.blk s3 H3 scope ce fp) rfl rfl rfl hc i [] s5 _ H5 (fun _ _ => False) I5 (own4 I5 n5) st5 stop
      refine thnF td fun r s6 z => ?_
      obtain ⟨hr, I6⟩ := z
      subst hr
      have back : Inv X pins σ H5 s6 := I3.call' (ch := fp) I6.os I6.base I6.hok I6.bare fun b hb => by
        have z := (f3 b hb).1
        exact ⟨z.2.2.2.1, z.2.1, z.2.2.2.2.1, z.2.2.2.2.2⟩
      have nC : H5 ce.locals = none := I6.free
      obtain ⟨m, hn, _⟩ := I6.loc
      have hn : s6.heap.Ns ce.locals m := hn
      rw [loc] at hn nC
      exact fin D s3.heap.objs.size s6 m H5 back qq hn (I3.fpOk (Nat.le_refl _) nC)
    | inr z =>
      obtain ⟨go, Nx, hNx, step⟩ := z
      have ti := T.item (X.blk s3 H3 scope ce fp) rfl rfl rfl hc i [] s5 _ H5 (fun _ _ => False) I5 (own4 I5 n5) st5 go
      refine thnT tok5 ti fun r s6 tok6 z => ?_
      obtain ⟨u, hr, h6⟩ := z
      subst hr
      refine thnT tok6 h6 fun _ s7 tok7 z => ?_
      obtain ⟨x, H7, I7, r7, y7, st7, n7⟩ := z
      have I7p := I7.pinned (own4 I7 n7) (T.obj _ _ st7)
      refine thnT tok7 (pg.run _ s7 _ H7 x u _ I7p r7 (step x H7 y7)) fun _ s8 tok8 z => ?_
      obtain ⟨σ8, H8, I8, same8, q8⟩ := z
      have pt : PTs (X.blk s3 H3 scope ce fp) [] tYes := pts_nil
      refine thnT tok8 (pt.run _ s8 σ8 H8 _ I8 q8) fun b s9 tok9 z => ?_
      obtain ⟨H9, I9, q9⟩ := z
      have next : ∀ {s' : Shared} {H' : Hp}, 1 ≤ s'.toks → Inv (X.blk s3 H3 scope ce fp) ([] ++ pinsAt fp s7.heap) σ8 H' s' → Nx H' →
          ∃ m, m < n ∧ 1 ≤ s'.toks ∧ ∃ i H', Inv (X.blk s3 H3 scope ce fp) [] (wipe σ (own.map (·.2))) H' s' ∧ tn i s'.heap ∧ (∀ b ∈ fp, H' b = none) ∧ W i m H' := by
        intro s' H' tok' I' nx
        obtain ⟨m', hm, w'⟩ := hNx H' nx
        have held : ∀ b ∈ fp, ∀ o, s7.heap.get? b = some o → s'.heap.get? b = some o ∧ H' b = none := by
          intro b hb o e
          have z := I'.pin (b, o) (List.mem_append_right _ (List.mem_append_right _ (mem_pinsAt hb e)))
          exact ⟨z.1, z.2.1⟩
        refine ⟨m', hm, tok', i + 1, H', ?_, ?_, ?_, w'⟩
        · refine (I'.unpinned (pins := [])).weak (by rw [← same8, wipe_length]) fun j v e => ?_
          rw [← same8] at e
          exact (wipe_some e).1
        · exact T.keep _ _ _ st7 fun b hb o e => (held b hb o e).1
        · intro b hb
          obtain ⟨o, e, _⟩ := T.obj _ _ st7 b hb
          exact (held b hb o e).2
      cases b with
      | false =>
        simp only [Bool.false_eq_true, if_false] at q9 ⊢
        exact next tok9 I9 q9
      | true =>
        simp only [if_true] at q9 ⊢
        refine thnT tok9 (pe _ s9 σ8 H9 _ tok9 I9 q9) fun z s10 tok10 w => ?_
        obtain ⟨yv, H10, I10, r10, acc, hD10, hz10, nx⟩ := w
        have app := app_ok (X := X.blk s3 H3 scope ce fp) (E := fun _ _ => False) (Q := fun _ s11 => Inv (X.blk s3 H3 scope ce fp) ([] ++ pinsAt fp s7.heap) σ8 (upd H10 D (.lst (acc ++ [yv]))) s11) I10 hD10 hz10 r10 fun s11 I11 => I11
        exact thnT tok10 app fun _ s11 tok11 I11 => next tok11 I11 nx
  exact codeAny_compStart_list loop (T.self X.A 0 _ _ _ st4 loop)
/-- as a value -/
theorem petlc {elt tg iter : Expr} {scope : Scope} {own : List (Str × Nat)} {pos : Pos} {wi : TI} {g : TG} {te : TE} (hc : X.calm = true) (hN : X.N.Nodup) (hi : PI X tg iter wi) (ok : BlkOk X.N X.env.scope scope own)
    (hg : ∀ (s : Shared) (H : Hp) (C : Addr) (cl : List (Str × Addr)) (fp : List Addr), PG (X.blk s H scope (compEnvC scope cl C X.env) fp) tg g)
    (he : ∀ (s : Shared) (H : Hp) (C : Addr) (cl : List (Str × Addr)) (fp : List Addr), PET (X.blk s H scope (compEnvC scope cl C X.env) fp) elt te) (hs : ∀ x, foldedSetIterable iter X.env x = pure x := by intro _; rfl) :
    PET X (.ListComp elt [⟨tg, iter, [], 0⟩] scope pos) (tLc wi g tYes te (own.map (·.2))) := by
  intro pins s σ H Q tok I h
  rw [eval_ListComp]
  refine lcT_core tok hc hN I hi ok hg he hs h fun D C s' m H' I' q hn f => ⟨m, hn, fun h2 sb => ?_⟩
  have z := I'.turned (t' := s'.toks) (fun b o hb e => (sb.2 b hb).trans e) f.1 f.2.1 f.2.2.2.1 f.2.2.2.2.1 f.2.2.2.2.2
  exact ⟨.ref D, H', z, rfl, q⟩
/-- y = [..] -/
theorem pstsetLc {i : Nat} {y : Str} {py : Pos} {elt tg iter : Expr} {scope : Scope} {own : List (Str × Nat)} {pos spos : Pos} {wi : TI} {g : TG} {te : TE} (hc : X.calm = true) (hN : X.N.Nodup) (hy : X.N[i]? = some y) (hyl : X.env.scope.names.lookup y = some .local)
    (hsw : swapsWith (.ListComp elt [⟨tg, iter, [], 0⟩] scope pos) (some (.Name y py)) spos.line X.env = pure true) (hi : PI X tg iter wi) (ok : BlkOk X.N X.env.scope scope own)
    (hg : ∀ (s : Shared) (H : Hp) (C : Addr) (cl : List (Str × Addr)) (fp : List Addr), PG (X.blk s H scope (compEnvC scope cl C X.env) fp) tg g)
    (he : ∀ (s : Shared) (H : Hp) (C : Addr) (cl : List (Str × Addr)) (fp : List Addr), PET (X.blk s H scope (compEnvC scope cl C X.env) fp) elt te) (hs : ∀ x, foldedSetIterable iter X.env x = pure x := by intro _; rfl) :
    PST X (.Assign [.Name y py] (.ListComp elt [⟨tg, iter, [], 0⟩] scope pos) spos) (tAsg (tLc wi g tYes te (own.map (·.2))) (gName i)) := by
  intro pins s σ H D tok I h
  rw [exec_Assign_Name_used _ _ _ _ hsw]
  refine wpAny_bind (wpAny_standAt (wpAny_bind ?_))
  have want : tLc wi g tYes te (own.map (·.2)) σ H (fun x H1 => gName i x σ H1 D.nx) := h
  refine wpAny_bind (thn (lcT_core (use := some (assign (.Name y py) X.env)) (Qf := fun _ s' => SP X pins D .next s') tok hc hN I hi ok hg he hs want fun L C s' m H' I' q hn f => ?_) fun _ s' hq => wpAny_pure (wpAny_pure hq))
  show wpAny _ _ (assign (.Name y py) X.env (.ref L)) _ _ _
  refine wpAny_assign_Name (store_ok2 (v := V.ref L) I' hN hy (.inl hyl) rfl (fun s2 I2 z => ?_) (.inr hyl))
  obtain ⟨a, sb, ha⟩ := z
  have apart : C ≠ a := by
    cases ha with
    | inl z => rw [z]; exact f.2.1
    | inr z => exact fun e => f.2.2.2.2.1 y a z e.symm
  refine ⟨m, hn.sameBut sb apart, fun h3 sb3 => ?_⟩
  have z := I2.turned (t' := s2.toks) (fun b o hb e => (sb3.2 b hb).trans e) f.1 f.2.1 f.2.2.2.1 f.2.2.2.2.1 f.2.2.2.2.2
  exact ⟨_, H', z, q⟩
theorem PETw {e : Expr} {t t' : TE} (h : PET X e t) (w : ∀ σ H Q, t' σ H Q → t σ H Q) : PET X e t' := fun pins s σ H Q tok I q => h pins s σ H Q tok I (w σ H Q q)
theorem upT' {e : Expr} {t : TE} (h : PET X e t) : PET X e (upE t) := fun pins s σ H Q tok I q => by
  obtain ⟨Q', w, q⟩ := q
  exact thn (h pins s σ H Q' tok I q) fun v s1 ⟨x, H1, I1, r1, q1⟩ => ⟨x, H1, I1, r1, w _ _ q1⟩
/-- x = e -/
theorem pstset {i : Nat} {x : Str} {e : Expr} {te : TE} {pos pos' : Pos} (hN : X.N.Nodup) (hi : X.N[i]? = some x) (hx : Loc X.env.scope x) (he : PET X e te) (hs : swapsWith e (some (.Name x pos')) pos.line X.env = pure false := by rfl) (hf : X.fn x = true ∨ X.env.scope.names.lookup x = some .local := by first | exact .inl rfl | exact .inr rfl | assumption) :
    PST X (.Assign [.Name x pos'] e pos) (tAsg te (gName i)) := by
  intro pins s σ H D tok I h
  refine wpAny_Assign_Name (thn (he pins s σ H _ tok I h) fun v s1 z => ?_) hs
  obtain ⟨y, H1, I1, r1, q1⟩ := z
  exact store_ok I1 hN hi hx r1 (fun s2 I2 => ⟨_, H1, I2, q1⟩) hf
/-- sep.join(e) -/
theorem petjoin (K : PySem.W.Frag) {o e : Expr} {to te : TE} {apos pos : Pos} (ho : PE X o to) (he : PET X e te) (hK : X.K = K := by rfl) (hs : starEach [e] X.env = [(false, eval e X.env)] := by rfl) (hbase : attributeBase o "join" X.env (eval o X.env) = eval o X.env := by rfl) (hline : (apos.endLine == pos.line) = true := by rfl) :
    PET X (.Call (.Attribute o "join" apos) [e] [] pos) (uJoin K to te) := by
  subst hK
  intro pins s σ H Q tok I h
  refine PySem.Call_method1 hbase hs hline (wpAny_mono (PySem.wpAny_toks_of tok (ho.run pins s σ H _ I h)) (fun v s1 z => ?_) fun _ _ z => z.2)
  obtain ⟨tok1, x, H1, I1, r1, q1⟩ := z
  cases x with
  | str a =>
    obtain ⟨t, rfl⟩ := id r1
    refine ⟨"str", _, F.plainAttrs_str, F.slot_str_join, F.type_str_join, typeIs_str _ _ _, (fun _ e => nomatch e), Calls.callWith_builtin rfl (Calls.evalArgs_plain (Calls.spliced_cons ?_))⟩
    refine thn (he pins s1 σ H1 _ tok1 I1 q1) fun u s2 z => Calls.spliced_nil ?_
    obtain ⟨y, H2, I2, r2, q2⟩ := z
    cases y with
    | ref p =>
      obtain ⟨ys, h1, h2, h3⟩ := q2
      exact mt_join pins s2 σ H2 _ [.ref p] _ [u] Q I2 r1 (.cons r2 .nil) ⟨a, p, ys, rfl, rfl, h1, h2, h3⟩
    | _ => exact q2.elim
  | _ => exact q1.elim
/-- a field of an f-string -/
theorem petfmt {e : Expr} {te : TE} {pos : Pos} (he : PET X e te) : PET X (.FormattedValue e (-1) none pos) (uFmt te) := by
  intro pins s σ H Q tok I h
  refine wpAny_FormattedValue_plain (thn (he pins s σ H _ tok I h) fun v s1 z => ?_)
  obtain ⟨x, H1, I1, r1, q⟩ := z
  cases x with
  | str y =>
    obtain ⟨t, rfl⟩ := r1
    exact wpAny_formatField_str ⟨.str y, H1, I1, ⟨t, rfl⟩, q.2⟩ ⟨.str y, H1, I1.tok _, ⟨_, rfl⟩, q.2⟩ q.1
  | int i =>
    obtain ⟨t, rfl⟩ := r1
    exact wpAny_formatField_int q.1 ⟨.str (toString i), H1, I1.tok _, ⟨_, rfl⟩, q.2⟩
  | _ => exact q.elim
inductive PJT (X : Cx) : List Expr → List TE → Prop where
  | nil : PJT X [] []
  | cons {e : Expr} {t : TE} {es : List Expr} {ts : List TE} (h : PET X e t) (r : PJT X es ts) : PJT X (e :: es) (t :: ts)
theorem pjt_run {pins : List (Addr × Obj)} {σ : L2.St} {es : List Expr} {ts : List TE} (h : PJT X es ts) : ∀ (acc : Str) (s : Shared) (H : Hp) (Q : Str → Hp → Prop) (R : Str → Shared → Prop), 1 ≤ s.toks → acc.length ≤ sizeLine → Inv X pins σ H s → tJs ts acc σ H Q →
    (∀ out s1 H1, out.length ≤ sizeLine → Inv X pins σ H1 s1 → Q out H1 → R out s1) → Joins (model X.prog X.w) X.A X.xe (evalEach es X.env) acc R s := by
  induction h with
  | nil =>
    intro acc s H Q R _ hz I q k
    have e0 : evalEach [] X.env = [] := by simp [evalEach]
    rw [e0]
    exact k acc s H hz I q
  | @cons e t es ts he _ ih =>
    intro acc s H Q R tok hz I q k
    have e0 : evalEach (e :: es) X.env = eval e X.env :: evalEach es X.env := by simp [evalEach]
    rw [e0]
    refine wpAny_mono (PySem.wpAny_toks_of tok (he pins s σ H _ tok I q)) (fun v s1 z => ?_) fun _ _ z => z.2
    obtain ⟨tok1, x, H1, I1, r1, y, rfl, hy, q1⟩ := z
    obtain ⟨tk, rfl⟩ := r1
    exact ⟨y, tk, rfl, hy, ih (acc ++ y) s1 H1 Q R tok1 hy I1 q1 k⟩
/-- f'..' of two parts or more -/
theorem petjoined {v1 v2 : Expr} {rest : List Expr} {ts : List TE} {pos : Pos} (h : PJT X (v1 :: v2 :: rest) ts) : PET X (.JoinedStr (v1 :: v2 :: rest) pos) (fun σ H Q => tJs ts Str.empty σ H fun out H1 => Q (.str out) H1) := by
  intro pins s σ H Q tok I q
  exact wpAny_JoinedStr (pjt_run h Str.empty s H (fun out H1 => Q (.str out) H1) _ tok (Nat.zero_le _) I q fun out s1 H1 hz I1 q1 => ⟨hz, .str out, H1, I1.tok _, ⟨_, rfl⟩, q1⟩)
/-- a test's way -/
theorem pstif {c : Expr} {a b : List Stmt} {tc : TT} {t u : TS} {pos : Pos} (hc : PT X c tc) (ha : PSsT X a t) (hb : PSsT X b u) : PST X (.If c a b pos) (uIf tc t u) := fun pins s σ H D tok I h =>
  CwR.pst_if (upt hc) ha hb pins s σ H D tok I ⟨_, fun x H' z => br_if z, h⟩
end
end Sk
/-! Sk: list(text), tuple, lists of anything; calls by keywords alone -/
namespace Sk
open PySem PySem.Spec PyProof.Rows L2
section
variable {X : Cx}
def sgs (z : Str) : List V := z.cps.toList.map fun c => V.str ⟨#[c]⟩
theorem call_list_txt (hc : X.A.handled = none) : CallR X (.type "list") (fun xs H Q => ∃ z, xs = [.str z] ∧ z.length ≤ sizeLine ∧ ∀ l, H l = none → Q (.ref l) (upd H l (.lst (sgs z)))) := by
  intro pins s σ H xs us Q I r h
  obtain ⟨z, rfl, hz, q⟩ := h
  cases r with
  | @cons _ u _ us ru rs =>
  cases rs
  obtain ⟨t, rfl⟩ := ru
  refine PySem.call_list_str (hn := hz) hc z t fun h' tk acc c keep at_ items => ?_
  have hl : (sgs z).length = acc.toList.length := by
    unfold sgs
    rw [List.length_map, Array.length_toList, Array.length_toList, items.1]
  have vals : Vals (sgs z) acc.toList := vals_of_at hl fun j x u hx hu => by
    have hu' : acc[j]? = some u := by rw [← hu, Array.getElem?_toList]
    obtain ⟨c, tk, hc, rfl⟩ := items.2 j u hu'
    unfold sgs at hx
    rw [List.getElem?_map, Array.getElem?_toList, hc] at hx
    cases hx
    exact ⟨tk, rfl⟩
  have I' := I.laid (a := s.heap.objs.size) (o := .lst (sgs z)) (t' := tk) keep (Nat.le_refl _) ⟨by rw [hl, Array.length_toList, items.1]; exact hz, acc.toList, c, vals, at_⟩
  exact ⟨.ref s.heap.objs.size, _, I', rfl, q _ (I.hok.fresh (Nat.le_refl _))⟩
/-- list(x): a list, a tuple, a text -/
def rLstU (K : PySem.W.Frag) : List V → Hp → VK → Prop := fun xs H Q => match xs with
  | [.ref p] => ∃ ys, (SqL K H p ys ∨ SqT K H p ys) ∧ ∀ l, H l = none → Q (.ref l) (upd H l (.lst ys))
  | [.str z] => z.length ≤ sizeLine ∧ ∀ l, H l = none → Q (.ref l) (upd H l (.lst (sgs z)))
  | _ => False
theorem klstU (K : PySem.W.Frag) (hc : X.A.handled = none) (h : X.K = K := by rfl) : CallR X (.type "list") (rLstU K) := by
  subst h
  refine CallRw (CallR.or call_list_of (call_list_txt hc)) fun xs H Q q => ?_
  unfold rLstU at q
  split at q
  · obtain ⟨ys, q⟩ := q
    exact .inl ⟨_, ys, rfl, q⟩
  · exact .inr ⟨_, rfl, q⟩
  · exact q.elim
/-- f(k = v, ..) -/
def uCallK (sp : Sp) (m : Nat) (gV : List V → List V) (tk : TA) : TE := fun σ H Q => tk σ H fun zs H2 => zs.length = m ∧ sp (gV zs) H2 Q E0
theorem pe_callK0 {k : Nat} {f : Addr} {fd : FuncData} {ps ks : List Str} {sp : Sp} {x : Str} {p pos : Pos} {kws : List Keyword} {tk : TA} {g : List Value → List Value} {gV : List V → List V} (F : FnOk X.prog X.w X.K X.mg X.base CX0 k f fd ps sp) (hr : Room k X.A) (hg : Gl X x) (hm : X.mg x = some (.ref f))
    (hk : PySem.W.keepIn X.K (.ref f) = true) (hb : KBn X.K fd ps 0 ks (fun _ => g) (fun _ => gV)) (hkw : PK X kws tk) (hall : (backToKw pos (keywordEach kws X.env)).all (·.1.isSome) = true := by rfl) (hks : (backToKw pos (keywordEach kws X.env)).filterMap (·.1) = ks := by rfl)
    (hdb : (x == ("__debug__" : Str)) = false := by decide) (hpl : ((backTo pos (starEach [] X.env)).any (·.1) || (backToKw pos (keywordEach kws X.env)).any (·.1.isNone)) = false := by rfl) :
    PE X (.Call (.Name x p) [] kws pos) (uCallK sp ks.length gV tk) := by
  refine ⟨fun pins s σ H Q I h => ?_⟩
  refine wpAny_Call_Name_kw (ld_glob I hg hm ?_ hdb)
  refine PySem.W.callWith_KW0 (h₀ := X.base) I.ok.mod.kin hk hall (thn (hkw.run pos pins s σ H _ I h) fun ws s2 z => ?_) hpl
  obtain ⟨zs, H2, I2, rz, l2, q2⟩ := z
  refine ⟨I2.kIn, ?_⟩
  rw [hks]
  exact run_fnN (us := []) (vs := []) F hr hb pass0 I2 .nil rz rfl l2 q2
end
section
variable {K : PySem.W.Frag} {x qual : Str} {params : Arguments} {body : List Stmt} {scope : Scope} {f : Addr} {fd : FuncData}
/-- two parameters, given by name in the other order -/
theorem kb_swap {p0 p1 : Str} (F : FunD K x qual params body scope [] [] f fd)
    (h : ∀ (kV doc pm : Value) (an : Option Addr) (cdv ct : Value) (w0 w1 : Value), bindArgs (PySem.W.fnOf x qual params body scope .none kV doc pm an cdv ct) ⟨[], [(p1, w0), (p0, w1)]⟩ = pure [(p0, w1), (p1, w0)]) :
    KBn K fd [p0, p1] 0 [p1, p0] (fun _ ws => ws.reverse) (fun _ zs => zs.reverse) := by
  obtain ⟨oc, od, dV, kV, doc, pm, an, cdv, ct, osl, rfl, lk, hcd, hD, hK⟩ := F.ex
  rcases hD with ⟨_, rfl⟩ | ⟨e, _⟩
  · refine ⟨fun s us ws _ l1 l2 => ?_, fun r rz => ?_⟩
    · match us, ws, l1, l2 with
      | [], [w0, w1], _, _ => exact .of_eq (h kV doc pm an cdv ct w0 w1)
    · cases rz with
      | nil => exact .nil
      | cons r0 rz =>
        have : ∀ {zs : List V} {ws : List Value}, Vals zs ws → Vals zs.reverse ws.reverse := by
          intro zs ws h
          induction h with
          | nil => exact .nil
          | cons r t ih => rw [List.reverse_cons, List.reverse_cons]; exact ih.append (.cons r .nil)
        exact this (.cons r0 rz)
  · exact absurd rfl e
end
end Sk
/-! Sk: texts in order; data as trees; their literals -/
namespace Sk
open PySem PySem.Spec PyProof.Rows L2
/-! ### the order of texts -/
def leT (a b : Str) : Prop := ltCps b.cps.toList a.cps.toList = false
theorem lt_irr : ∀ a : List Nat, ltCps a a = false
  | [] => rfl
  | x :: r => by
    show (decide (x < x) || (x == x && ltCps r r)) = false
    rw [lt_irr r]
    simp
theorem lt_asym : ∀ a b : List Nat, ltCps a b = true → ltCps b a = false
  | [], [], h => rfl
  | [], _ :: _, h => rfl
  | _ :: _, [], h => by cases h
  | x :: r, y :: t, h => by
    have h : (decide (x < y) || (x == y && ltCps r t)) = true := h
    show (decide (y < x) || (y == x && ltCps t r)) = false
    rw [Bool.or_eq_true, Bool.and_eq_true] at h
    rcases h with h | ⟨h1, h2⟩
    · have h := of_decide_eq_true h
      rw [decide_eq_false (by omega), beq_eq_false_iff_ne.mpr (by omega)]
      rfl
    · have e : x = y := by simpa using h1
      subst e
      rw [lt_asym r t h2]
      simp
theorem le_anti : ∀ a b : List Nat, ltCps a b = false → ltCps b a = false → a = b
  | [], [], _, _ => rfl
  | [], _ :: _, h, _ => by cases h
  | _ :: _, [], _, h => by cases h
  | x :: r, y :: t, h1, h2 => by
    have h1 : (decide (x < y) || (x == y && ltCps r t)) = false := h1
    have h2 : (decide (y < x) || (y == x && ltCps t r)) = false := h2
    rw [Bool.or_eq_false_iff] at h1 h2
    have e : x = y := by
      have := of_decide_eq_false h1.1
      have := of_decide_eq_false h2.1
      omega
    subst e
    have a1 : ltCps r t = false := by simpa using h1.2
    have a2 : ltCps t r = false := by simpa using h2.2
    rw [le_anti r t a1 a2]
theorem le_trans' : ∀ a b c : List Nat, ltCps b a = false → ltCps c b = false → ltCps c a = false
  | [], _, [], _, _ => rfl
  | [], [], _ :: _, _, _ => rfl
  | [], _ :: _, _ :: _, _, _ => rfl
  | _ :: _, [], _, h, _ => by cases h
  | _ :: _, _ :: _, [], _, h => by cases h
  | x :: r, y :: t, z :: u, h1, h2 => by
    have h1 : (decide (y < x) || (y == x && ltCps t r)) = false := h1
    have h2 : (decide (z < y) || (z == y && ltCps u t)) = false := h2
    show (decide (z < x) || (z == x && ltCps u r)) = false
    rw [Bool.or_eq_false_iff] at h1 h2
    have l1 := of_decide_eq_false h1.1
    have l2 := of_decide_eq_false h2.1
    rw [decide_eq_false (by omega)]
    by_cases e : z = x
    · have e1 : y = x := by omega
      subst e e1
      have a1 : ltCps t r = false := by simpa using h1.2
      have a2 : ltCps u t = false := by simpa using h2.2
      rw [le_trans' r t u a1 a2]
      simp
    · rw [beq_eq_false_iff_ne.mpr e]
      rfl
theorem rising_pw : ∀ (p : Str) (l : List Str), risingS p l = true → (p :: l).Pairwise leT
  | p, [], _ => by simp
  | p, x :: r, h => by
    have h : (!ltCps x.cps.toList p.cps.toList && risingS x r) = true := h
    rw [Bool.and_eq_true] at h
    have ih := rising_pw x r h.2
    have h0 : leT p x := by simpa [leT] using h.1
    refine List.pairwise_cons.mpr ⟨fun y hy => ?_, ih⟩
    rcases List.mem_cons.mp hy with e | e
    · rw [e]; exact h0
    · exact le_trans' _ _ _ h0 ((List.pairwise_cons.mp ih).1 y e)
theorem sorted_pw {l : List Str} (h : sortedS l = true) : l.Pairwise leT := by
  cases l with
  | nil => exact List.Pairwise.nil
  | cons x r => exact rising_pw x r h
def insS (x : Str) : List Str → List Str
  | [] => [x]
  | y :: r => if ltCps y.cps.toList x.cps.toList = true then y :: insS x r else x :: y :: r
def sortN : List Str → List Str
  | [] => []
  | x :: r => insS x (sortN r)
theorem ins_perm (x : Str) : ∀ l, (insS x l).Perm (x :: l)
  | [] => List.Perm.refl _
  | y :: r => by
    unfold insS
    split
    · exact ((ins_perm x r).cons y).trans (List.Perm.swap ..)
    · exact List.Perm.refl _
theorem sort_perm : ∀ l, (sortN l).Perm l
  | [] => List.Perm.refl _
  | x :: r => (ins_perm x _).trans ((sort_perm r).cons x)
theorem ins_pw (x : Str) : ∀ l, l.Pairwise leT → (insS x l).Pairwise leT
  | [], _ => by simp [insS]
  | y :: r, h => by
    have h1 := List.pairwise_cons.mp h
    unfold insS
    split
    · rename_i c
      refine List.pairwise_cons.mpr ⟨fun z hz => ?_, ins_pw x r h1.2⟩
      rcases List.mem_cons.mp ((ins_perm x r).mem_iff.mp hz) with e | e
      · rw [e]
        exact lt_asym _ _ c
      · exact h1.1 z e
    · rename_i c
      have c : leT x y := by
        unfold leT
        cases q : ltCps y.cps.toList x.cps.toList with
        | true => exact absurd q c
        | false => rfl
      refine List.pairwise_cons.mpr ⟨fun z hz => ?_, h⟩
      rcases List.mem_cons.mp hz with e | e
      · rw [e]; exact c
      · exact le_trans' _ _ _ c (h1.1 z e)
theorem sort_pw : ∀ l, (sortN l).Pairwise leT
  | [] => List.Pairwise.nil
  | x :: r => ins_pw x _ (sort_pw r)
theorem pw_eq : ∀ {l m : List Str}, l.Perm m → l.Pairwise leT → m.Pairwise leT → l = m
  | [], m, p, _, _ => (List.nil_perm.mp p).symm
  | x :: l, [], p, _, _ => by have := p.length_eq; cases this
  | x :: l, y :: m, p, h1, h2 => by
    have a1 := List.pairwise_cons.mp h1
    have a2 := List.pairwise_cons.mp h2
    have e : x = y := by
      have hx : x ∈ y :: m := p.subset (List.mem_cons_self ..)
      have hy : y ∈ x :: l := p.symm.subset (List.mem_cons_self ..)
      rcases List.mem_cons.mp hx with e | hx
      · exact e
      rcases List.mem_cons.mp hy with e | hy
      · exact e.symm
      exact str_ext (le_anti _ _ (a2.1 x hx) (a1.1 y hy))
    subst e
    rw [pw_eq (List.Perm.cons_inv p) a1.2 a2.2]
theorem sorted_is {ys zs : List Str} (p : ys.Perm zs) (h : sortedS ys = true) : ys = sortN zs := pw_eq (p.trans (sort_perm zs).symm) (sorted_pw h) (sort_pw zs)
theorem sort_of_perm {ys zs : List Str} (p : ys.Perm zs) : sortN ys = sortN zs := pw_eq (((sort_perm ys).trans p).trans (sort_perm zs).symm) (sort_pw ys) (sort_pw zs)
end Sk
/-! Sk: {None: a, True: b, False: c}[v]; list(text); calls by keywords alone -/
namespace Sk
open PySem PySem.Spec PyProof.Rows L2
def nbIs : Option Bool → Value → Bool
  | none, .none => true
  | none, _ => false
  | some b, v => PpSet.isB b v
theorem nb_none {v : Value} (h : nbIs none v = true) : v = .none := by
  cases v with
  | none => rfl
  | _ => cases h
theorem isB_none (b : Bool) : ¬ PpSet.isB b .none = true := fun h => by cases h
def nbKind (prog : Program) (w : World) : PySem.KeyKind prog w (Option Bool) where
  is := nbIs
  hash := fun k => match k with
    | none => (noneKind prog w).hash none
    | some b => (PpSet.boolK prog w).hash b
  inj := fun v a b ha hb => by
    cases a with
    | none =>
      have e := nb_none ha
      subst e
      cases b with
      | none => rfl
      | some k => exact absurd hb (isB_none k)
    | some k =>
      cases b with
      | none =>
        have e := nb_none hb
        subst e
        exact absurd ha (isB_none k)
      | some j => exact congrArg some ((PpSet.boolK prog w).inj v k j ha hb)
  byValue := fun k v h => by
    cases k with
    | none =>
      have e := nb_none h
      subst e
      rfl
    | some k => exact (PpSet.boolK prog w).byValue k v h
  pyHash := @fun A E s k v Q hv h => by
    cases k with
    | none => exact (noneKind prog w).pyHash (k := none) (show nkIs none v = true by rw [nb_none hv]; rfl) h
    | some k => exact (PpSet.boolK prog w).pyHash (k := k) hv h
  eqBool := @fun A E s a b u v Q hu hv h => by
    cases a with
    | none =>
      have e := nb_none hu
      subst e
      cases b with
      | none =>
        have e := nb_none hv
        subst e
        rw [decide_eq_true rfl] at h
        exact SeqAt.EqAt.same _ _ _ _ _ h
      | some k =>
        rw [decide_eq_false (fun z => nomatch z)] at h
        have e := PpSet.isB_shape hv
        subst e
        exact SeqAt.EqAt.none_bool k _ _ _ _ h
    | some k =>
      have e := PpSet.isB_shape hu
      subst e
      cases b with
      | none =>
        have e := nb_none hv
        subst e
        rw [decide_eq_false (fun z => nomatch z)] at h
        exact SeqAt.EqAt.bool_none k _ _ _ _ h
      | some j =>
        have e := PpSet.isB_shape hv
        subst e
        have d : decide ((some k : Option Bool) = some j) = (k == j) := by cases k <;> cases j <;> rfl
        rw [d] at h
        exact SeqAt.EqAt.bool_bool k j _ _ _ _ h
  «strs» := fun k x t v h => by
    cases k with
    | none => cases h
    | some k => exact (PpSet.boolK prog w).«strs» k x t v h
/-- what such a table answers -/
def nbAt (a b c : Str) (y : V) (Q : V → Prop) : Prop := match y with
  | .non => Q (.str a)
  | .bl k => Q (.str (if k then b else c))
  | _ => False
def uNb (a b c : Str) (tv : TE) : TE := fun σ H Q => ∀ p o, H p = none → tv σ (upd H p o) fun y H2 => H2 p = some o ∧ nbAt a b c y fun z => Q z H2
section
variable {X : Cx}
theorem pe_nb {a b c : Str} {v : Expr} {tv : TE} {j1 j2 j3 i1 i2 i3 : Nat} {p1 p2 p3 q1 q2 q3 dpos pos : Pos} (hv : PE X v tv) (hs : NoSl v) :
    PE X (.Subscript (.Dict [some (.Constant .none j1 p1), some (.Constant (.bool true) j2 p2), some (.Constant (.bool false) j3 p3)] [.Constant (.str a) i1 q1, .Constant (.str b) i2 q2, .Constant (.str c) i3 q3] dpos) v pos) (uNb a b c tv) := by
  refine ⟨fun pins s σ H Q I h => ?_⟩
  have hn := I.hok.fresh (Nat.le_refl s.heap.objs.size)
  have I1 := I.laid (a := s.heap.objs.size) (o := .dK []) (h' := s.heap.push { cls := .type "dict", data := .dict #[] }) (t' := s.toks) (fun _ _ q => Heap.get?_push_of_some _ q) (Nat.le_refl _) (dk_empty s.heap I.big)
  have three : PPs X dpos [some (.Constant .none j1 p1), some (.Constant (.bool true) j2 p2), some (.Constant (.bool false) j3 p3)] [.Constant (.str a) i1 q1, .Constant (.str b) i2 q2, .Constant (.str c) i3 q3]
      [(tC .non, tC (.str a)), (tC (.bl true), tC (.str b)), (tC (.bl false), tC (.str c))] := pps_cons pe_non pe_str (pps_cons pe_bl pe_str (pps_cons pe_bl pe_str pps_nil))
  refine subD_of PySem.F.slot_dict_getitem.lookup hs ?_
  refine wpAny_Dict_walk (knd := nbKind X.prog X.w) rfl rfl (by simp) (Nat.le_of_ble_eq_true rfl) (thn (three.run pins _ σ _ (fun ps H1 => ps = [(.non, .str a), (.bl true, .str b), (.bl false, .str c)] ∧ H1 = upd H s.heap.objs.size (.dK [])) I1 ⟨rfl, rfl⟩) fun ws s2 z => ?_)
  obtain ⟨ps, H2, I2, rel, rfl, rfl⟩ := z
  obtain ⟨_, hd, vs0, r0, dd⟩ := dk_of I2.hok upd_same
  cases r0
  cases rel with
  | @cons _ w1 _ r1 h1 t1 =>
  cases t1 with
  | @cons _ w2 _ r2 h2 t2 =>
  cases t2 with
  | @cons _ w3 _ r3 h3 t3 =>
  cases t3
  obtain ⟨w1, x1⟩ := w1
  obtain ⟨w2, x2⟩ := w2
  obtain ⟨w3, x3⟩ := w3
  obtain ⟨e1, ta, e1'⟩ := h1
  obtain ⟨e2, tb, e2'⟩ := h2
  obtain ⟨e3, tc, e3'⟩ := h3
  have e1 : w1 = Value.none := e1
  have e2 : w2 = Value.bool true := e2
  have e3 : w3 = Value.bool false := e3
  have e1' : x1 = Value.str a ta := e1'
  have e2' : x2 = Value.str b tb := e2'
  have e3' : x3 = Value.str c tc := e3'
  subst e1 e2 e3 e1' e2' e3'
  have dn : s2.heap.DictOf (nbKind X.prog X.w) s.heap.objs.size [] := by
    obtain ⟨o, es, ep, g1, g2, g3, _, g5, _⟩ := dd
    have e0 : es.toList = [] := by
      generalize es.toList = l at g5
      cases g5
      rfl
    refine ⟨o, es, ep, g1, g2, g3, fun e he => ?_, by rw [e0]; exact .nil, List.nodup_nil⟩
    have : e ∈ es.toList := Array.mem_toList_iff.mpr he
    rw [e0] at this
    cases this
  refine ⟨[(none, .str a ta), (some true, .str b tb), (some false, .str c tc)], ⟨rfl, rfl, rfl, rfl, rfl, rfl, trivial⟩, dn, fun h' dd' same => ?_⟩
  have he : ∃ q, h'.get? s.heap.objs.size = some q := let ⟨q, _, _, hq, _⟩ := dd'; ⟨q, hq⟩
  have I3 := d_write (ob := .ext fun h => h.DictOf (nbKind X.prog X.w) s.heap.objs.size (merged [] [(none, .str a ta), (some true, .str b tb), (some false, .str c tc)])) (t' := s2.toks + 3) I2 (by rw [upd_same]; exact trivial) same he ⟨dd', he, fun x1 x2 g k => by
    obtain ⟨o, es, ep, g1, g2⟩ := g
    exact ⟨o, es, ep, k o g1, g2⟩⟩
  rw [upd_upd] at I3
  refine thn (hv.run pins _ σ _ _ I3 (h _ _ hn)) fun iv s4 z => ?_
  obtain ⟨y, H4, I4, ry, hp4, q4⟩ := z
  obtain ⟨d4, _⟩ := I4.hok _ _ hp4
  have ty : s4.TypeIs (.ref s.heap.objs.size) "dict" := by
    obtain ⟨o, es, ep, g1, g2, _⟩ := d4
    exact ⟨o, g1, g2.1⟩
  refine ⟨ty, ?_⟩
  cases y with
  | non =>
    have e : iv = Value.none := ry
    subst e
    exact wpAny_getItem_of (knd := nbKind X.prog X.w) (k := none) rfl d4.mapOf rfl ⟨.str a, H4, I4.tok _, ⟨ta, rfl⟩, q4⟩
  | bl k =>
    have e : iv = Value.bool k := ry
    subst e
    cases k with
    | true => exact wpAny_getItem_of (knd := nbKind X.prog X.w) (k := some true) rfl d4.mapOf rfl ⟨.str b, H4, I4.tok _, ⟨tb, rfl⟩, q4⟩
    | false => exact wpAny_getItem_of (knd := nbKind X.prog X.w) (k := some false) rfl d4.mapOf rfl ⟨.str c, H4, I4.tok _, ⟨tc, rfl⟩, q4⟩
  | _ => exact q4.elim
end
end Sk
namespace Sk
open PySem PySem.Spec PyProof.Rows L2
section
variable {X : Cx}
theorem inv_nox {pins : List (Addr × Obj)} {σ : L2.St} {H : Hp} {s : Shared} (v : Inv X pins σ H s) : Inv X.nox pins σ H s :=
  ⟨⟨v.ok.mod, v.ok.kind, v.ok.glob, v.ok.blt, v.ok.above, v.ok.inj, v.ok.has, v.ok.cab, v.ok.hd, v.ok.frames, v.ok.stk, v.ok.exf, v.ok.bs, v.ok.bsz, v.ok.noex, v.ok.exfs, v.ok.funs, v.ok.frf⟩, v.os, v.bare, v.base, v.loc, v.cell, v.free, v.freeC, v.pin, v.hok, v.len⟩
theorem inv_back {pins : List (Addr × Obj)} {σ : L2.St} {H : Hp} {s : Shared} (v : Inv X.nox pins σ H s) : Inv X pins σ H s :=
  ⟨⟨v.ok.mod, v.ok.kind, v.ok.glob, v.ok.blt, v.ok.above, v.ok.inj, v.ok.has, v.ok.cab, v.ok.hd, v.ok.frames, v.ok.stk, v.ok.exf, v.ok.bs, v.ok.bsz, v.ok.noex, v.ok.exfs, v.ok.funs, v.ok.frf⟩, v.os, v.bare, v.base, v.loc, v.cell, v.free, v.freeC, v.pin, v.hok, v.len⟩
theorem psst_nox {b : List Stmt} {t : TS} (h : PSsT X.nox b t) : PSsT X b t := fun pins s σ H D tok I q =>
  wpAny_mono (h pins s σ H D tok (inv_nox I) q) (fun f s' z => by
    cases f with
    | next => obtain ⟨σ', H', J, q⟩ := z; exact ⟨σ', H', inv_back J, q⟩
    | brk => obtain ⟨σ', H', J, q⟩ := z; exact ⟨σ', H', inv_back J, q⟩
    | cont => obtain ⟨σ', H', J, q⟩ := z; exact ⟨σ', H', inv_back J, q⟩
    | ret u => obtain ⟨v, σ', H', J, r, q⟩ := z; exact ⟨v, σ', H', inv_back J, r, q⟩) fun _ _ z => z.elim
/-- a if c else b -/
theorem petif {c a b : Expr} {tc : TT} {ta tb : TE} {pos : Pos} (hc : PT X c tc) (ha : PET X a ta) (hb : PET X b tb) : PET X (.IfExp c a b pos) (uIfE tc ta tb) := by
  intro pins s σ H Q tok I h
  refine wpAny_IfExp (wpAny_mono (PySem.wpAny_toks_of tok (hc.run pins s σ H _ I h)) (fun d s1 z => ?_) fun _ _ z => z.2)
  obtain ⟨tok1, H1, I1, q1⟩ := z
  cases d with
  | true =>
    rw [if_pos rfl]
    exact ha pins s1 σ H1 Q tok1 I1 q1
  | false =>
    rw [if_neg Bool.false_ne_true]
    exact hb pins s1 σ H1 Q tok1 I1 q1
end
section
variable {P : Program} {w : World} {K : PySem.W.Frag} {mg : Str → Option Value} {base : Heap} {x qual : Str} {params : Arguments} {body : List Stmt} {scope : Scope} {dvs : List V} {kws : List (Str × V)} {f : Addr} {fd : FuncData}
/-- a def with parameters and without cells: a token is out when its body begins -/
theorem fnok_T {N ps : List Str} {k : Nat} {sp : Sp} (F : FunD K x qual params body scope dvs kws f fd) (S : FnScope N ps scope) (hnc : ∀ y ∈ scope.names, y.2 ≠ .cell) (hps : 1 ≤ ps.length) (len : ∀ vs H Q E, sp vs H Q E → vs.length = ps.length)
    (hb : ∀ (cdv : Value) (A : Around) (outer : List Env) (s : Shared) (H : Hp) (vs : List V) (Q : VK) (E : XK), Room k (A.deeper (envOfC qual scope s.heap.objs.size f cdv)) → sp vs H Q E →
      ∃ t, PSsT (cxOf CX0 P w K mg base N qual scope f cdv A outer s H E).nox body t ∧ t { nx := fun _ H' => Q .non H', rt := Q } (start N vs) H) : FnOk P w K mg base CX0 (k + 1) f fd ps sp := by
  obtain ⟨oc, od, dV, kV, doc, pm, an, cdv, ct, osl, efd, look, code, _, _⟩ := F.ex
  subst efd
  refine fn_ofT look code S hnc hps len fun A outer s H vs Q E room want => ?_
  obtain ⟨t, d, q⟩ := hb cdv A outer s H vs Q E room want
  exact ⟨t, psst_nox d, q⟩
end
end Sk
/-! Sk: walks of any kind in comprehensions; the literals of data; escapes -/
namespace Sk
open PySem PySem.Spec PyProof.Rows L2
section
variable {R : Hp → Hp → Prop} {J : Hp → Prop} {D : Addr} {H1 : Hp}
/-- [e for x in it], any walk -/
theorem lcw {Jt : It} {n : Nat} {G : Hp → Prop} {Y : Nat → Hp → V → Hp → Prop} (w : Walk Jt n G Y) {g : TG} {te : TE} {vs : List Nat} {σ : L2.St} {Qd : Hp → Prop} (F : Fr R J D) (Pp : Nat → V → Hp → Prop) (hp : J H1) (hD : H1 D = none) (hn : n < 100000)
    (gm : ∀ x σ H (k k' : L2.St → Hp → Prop), (∀ σ2 H2, k σ2 H2 → k' σ2 H2) → g x σ H k → g x σ H k')
    (hS : ∀ H, J H → R H1 H → G H)
    (mono : ∀ i v H H', Pp i v H → Stay H H' → Pp i v H')
    (turn : ∀ (i : Nat) x H H', i < n → J H → R H1 H → Y i H x H' → g x (wipe σ vs) H' (fun σ2 H2 => wipe σ2 vs = wipe σ vs ∧ te σ2 H2 (fun y H4 => J H4 ∧ R H H4 ∧ Pp i y H4)))
    (hd : ∀ H ys, J H → R H1 H → ys.length = n → H D = some (.lst ys) → (∀ (i : Nat) (y : V), ys[i]? = some y → Pp i y H) → Qd H) :
    ∃ W : Nat → Nat → Hp → Prop, (∃ m, W 0 m (upd H1 D (.lst []))) ∧ ∀ i m H, W i m H →
      (Jt.stop i H ∧ Qd H) ∨ (Jt.go i H ∧ ∃ Nx : Hp → Prop, (∀ H', Nx H' → ∃ m', m' < m ∧ W (i + 1) m' H') ∧ ∀ x H', Jt.yld i H x H' → g x (wipe σ vs) H' fun σ2 H2 => wipe σ2 vs = wipe σ vs ∧ tYes σ2 H2 fun b H3 =>
        if b = true then upE te σ2 H3 fun y H4 => ∃ acc, H4 D = some (.lst acc) ∧ acc.length < sizeLine ∧ Nx (upd H4 D (.lst (acc ++ [y]))) else Nx H3) := by
  refine lc_it w (accP R J Pp D H1) (acc_start F hp hD) (fun i H _ hv => hS H hv.1 hv.2.1) (fun i x H H' hi hv y => ?_) (fun H hv => ?_)
  · refine gm x _ _ _ _ (fun σ2 H2 z => ⟨z.1, ?_⟩) (turn i x H H' hi hv.1 hv.2.1 y)
    dsimp only [tYes]
    rw [if_pos rfl]
    exact ⟨_, fun y H4 z => acc_turn F hD mono (by omega) hv z, z.2⟩
  · obtain ⟨p1, k1, ys, l1, e1, q1⟩ := hv
    exact hd H ys p1 k1 l1 e1 q1
theorem gm_name {j : Nat} : ∀ x σ H (k k' : L2.St → Hp → Prop), (∀ σ2 H2, k σ2 H2 → k' σ2 H2) → gName j x σ H k → gName j x σ H k' := fun _ _ _ _ _ h q => h _ _ q
end
theorem strs_ofP {P : Str → Prop} {ys : List V} (h : ∀ (i : Nat) (y : V), ys[i]? = some y → ∃ z, y = V.str z ∧ P z) : ∃ zs : List Str, ys = zs.map V.str ∧ ∀ z ∈ zs, P z := by
  induction ys with
  | nil => exact ⟨[], rfl, fun z hz => by cases hz⟩
  | cons y r ih =>
    obtain ⟨z, e, hz⟩ := h 0 y rfl
    obtain ⟨zs, e2, h2⟩ := ih fun i y hy => h (i + 1) y (by simpa using hy)
    refine ⟨z :: zs, by rw [e, e2]; rfl, fun x hx => ?_⟩
    rcases List.mem_cons.mp hx with q | q
    · rw [q]; exact hz
    · exact h2 x q
/-! ### the literal of a value -/
def rep4 (z : Str) : Str := Txt.replace (Txt.replace (Txt.replace (Txt.replace z "\\" "\\\\") "\"" "\\\"") "\n" "\\n") "<" "\\l"
def litF : V → Str
  | .non => "null"
  | .bl b => if b then "true" else "false"
  | .int i => Str.ofString (toString i)
  | .str z => "\"" ++ rep4 z ++ "\""
  | _ => ""
def rowL (w z : Str) : Str := "\"" ++ w ++ "\":" ++ z
def nms (kvs : List (Key × V)) : List Str := kvs.filterMap fun p => match p.1 with | .inr w => some w | _ => none
def litH (H : Hp) : Nat → V → Str
  | 0, v => litF v
  | n + 1, v => match v with
    | .ref a => match H a with
      | some (.tup vs) => "[" ++ Txt.join "," (vs.map (litH H n)) ++ "]"
      | some (.dK kvs) => "{" ++ Txt.join "," ((sortN (nms kvs)).map fun w => rowL w (litH H n ((valV kvs (.inr w)).getD .non))) ++ "}"
      | _ => ""
    | v => litF v
theorem lit_flat {H : Hp} {v : V} (h : FlatOk v) : ∀ n, litH H n v = litF v
  | 0 => rfl
  | _ + 1 => by cases v <;> first | rfl | exact h.elim
theorem lit_tup {H : Hp} {n : Nat} {a : Addr} {vs : List V} (h : H a = some (.tup vs)) : litH H (n + 1) (.ref a) = "[" ++ Txt.join "," (vs.map (litH H n)) ++ "]" := by
  show (match H a with | some (.tup vs) => _ | some (.dK kvs) => _ | _ => _) = _
  rw [h]
theorem lit_dict {H : Hp} {n : Nat} {a : Addr} {kvs : List (Key × V)} (h : H a = some (.dK kvs)) :
    litH H (n + 1) (.ref a) = "{" ++ Txt.join "," ((sortN (nms kvs)).map fun w => rowL w (litH H n ((valV kvs (.inr w)).getD .non))) ++ "}" := by
  show (match H a with | some (.tup vs) => _ | some (.dK kvs) => _ | _ => _) = _
  rw [h]
theorem nms_keys {kvs : List (Key × V)} (h : ∀ p ∈ kvs, ∃ w, p.1 = .inr w ∧ NameOk w) : kvs.map (·.1) = (nms kvs).map Sum.inr := by
  induction kvs with
  | nil => rfl
  | cons p r ih =>
    obtain ⟨w, e, _⟩ := h p (List.mem_cons_self ..)
    obtain ⟨k, v⟩ := p
    have e : k = .inr w := e
    subst e
    show Sum.inr w :: r.map (·.1) = Sum.inr w :: (nms r).map Sum.inr
    rw [ih fun p hp => h p (List.mem_cons_of_mem _ hp)]
theorem nms_len {kvs : List (Key × V)} (h : ∀ p ∈ kvs, ∃ w, p.1 = .inr w ∧ NameOk w) : (nms kvs).length = kvs.length := by
  have := congrArg List.length (nms_keys h)
  rw [List.length_map, List.length_map] at this
  exact this.symm
theorem val_in {kvs : List (Key × V)} {w : Str} (h : w ∈ nms kvs) : ∃ p ∈ kvs, p.1 = .inr w := by
  unfold nms at h
  obtain ⟨p, hp, e⟩ := List.mem_filterMap.mp h
  refine ⟨p, hp, ?_⟩
  split at e
  · rename_i e2
    cases e
    exact e2
  · cases e
theorem val_mem {kvs : List (Key × V)} {k : Key} {v : V} (h : valV kvs k = some v) : ∃ p ∈ kvs, p.2 = v := by
  unfold valV at h
  obtain ⟨p, hp, e⟩ := Option.map_eq_some_iff.mp h
  exact ⟨p, List.mem_of_find?_eq_some hp, e⟩
theorem val_some {kvs : List (Key × V)} {w : Str} (h : w ∈ nms kvs) : ∃ v, valV kvs (.inr w) = some v ∧ ∃ p ∈ kvs, p.2 = v := by
  obtain ⟨p, hp, e⟩ := val_in h
  cases q : valV kvs (.inr w) with
  | none =>
    have : kvs.any (fun p => decide (p.1 = .inr w)) = false := by rw [valV_any, q]; rfl
    have h2 := List.any_eq_false.mp this p hp
    rw [e] at h2
    simp at h2
  | some v => exact ⟨v, rfl, val_mem q⟩
theorem mem_sort {w : Str} {l : List Str} : w ∈ sortN l ↔ w ∈ l := (sort_perm l).mem_iff
theorem val_get {kvs : List (Key × V)} {w : Str} {P : V → Prop} (h : w ∈ sortN (nms kvs)) (hp : ∀ p ∈ kvs, P p.2) : P ((valV kvs (.inr w)).getD .non) := by
  obtain ⟨v, e, p, hp', e2⟩ := val_some (mem_sort.mp h)
  rw [e]
  show P v
  rw [← e2]
  exact hp p hp'
theorem lit_stay {H H' : Hp} (s : Stay H H') : ∀ (n : Nat) (v : V), GoodV H n v → litH H' n v = litH H n v
  | 0, _, _ => rfl
  | n + 1, v, h => by
    rcases h with h | ⟨a, vs, e, h1, h2, h3⟩ | ⟨a, kvs, e, h1, h2, h3⟩
    · rw [lit_flat h, lit_flat h]
    · subst e
      rw [lit_tup h1, lit_tup (s _ _ rfl h1), List.map_congr_left fun x hx => lit_stay s n x (h3 x hx)]
    · subst e
      rw [lit_dict h1, lit_dict (s _ _ rfl h1)]
      congr 3
      refine List.map_congr_left fun w hw => ?_
      rw [val_get (P := fun v => litH H' n v = litH H n v) hw fun p hp => lit_stay s n p.2 (h3 p hp)]
theorem lit_up {H : Hp} : ∀ (n : Nat) (v : V), GoodV H n v → litH H (n + 1) v = litH H n v
  | 0, v, h => by rw [lit_flat (show FlatOk v from h), lit_flat (show FlatOk v from h)]
  | n + 1, v, h => by
    rcases h with h | ⟨a, vs, e, h1, h2, h3⟩ | ⟨a, kvs, e, h1, h2, h3⟩
    · rw [lit_flat h, lit_flat h]
    · subst e
      rw [lit_tup h1, lit_tup h1, List.map_congr_left fun x hx => lit_up n x (h3 x hx)]
    · subst e
      rw [lit_dict h1, lit_dict h1]
      congr 3
      refine List.map_congr_left fun w hw => ?_
      rw [val_get (P := fun v => litH H (n + 1) v = litH H n v) hw fun p hp => lit_up n p.2 (h3 p hp)]
/-! ### nothing contains itself -/
theorem GoodV.le {H : Hp} {v : V} {m n : Nat} (h : m ≤ n) (g : GoodV H m v) : GoodV H n v := by
  induction h with
  | refl => exact g
  | step _ ih => exact GoodV.up _ _ ih
theorem good_hide {H : Hp} {d : Addr} {m : Nat} (hm : ∀ k, k < m → ¬ GoodV H k (.ref d)) : ∀ (k : Nat) (v : V), k < m → GoodV H k v → GoodV (hide d H) k v
  | 0, _, _, h => h
  | k + 1, v, hk, h => by
    have ne : v ≠ .ref d := fun e => hm (k + 1) hk (e ▸ h)
    rcases h with h | ⟨a, vs, e, h1, h2, h3⟩ | ⟨a, kvs, e, h1, h2, h3⟩
    · exact .inl h
    · have na : a ≠ d := fun z => ne (by rw [e, z])
      exact .inr (.inl ⟨a, vs, e, by rw [hide_ne na]; exact h1, h2, fun x hx => good_hide hm k x (by omega) (h3 x hx)⟩)
    · have na : a ≠ d := fun z => ne (by rw [e, z])
      exact .inr (.inr ⟨a, kvs, e, by rw [hide_ne na]; exact h1, h2, fun p hp => good_hide hm k p.2 (by omega) (h3 p hp)⟩)
theorem good_part {H : Hp} {d : Addr} {kvs : List (Key × V)} (hd : H d = some (.dK kvs)) : ∀ n, GoodV H (n + 1) (.ref d) → ∀ p ∈ kvs, GoodV (hide d H) n p.2 := by
  intro n
  induction n with
  | zero =>
    intro h p hp
    rcases h with h | ⟨a, vs, e, h1, h2, h3⟩ | ⟨a, ws, e, h1, h2, h3⟩
    · exact h.elim
    · cases e; rw [hd] at h1; cases h1
    · cases e; rw [hd] at h1; cases h1; exact h3 p hp
  | succ n ih =>
    intro h p hp
    by_cases q : GoodV H (n + 1) (.ref d)
    · exact GoodV.up _ _ (ih q p hp)
    · have hm : ∀ k, k < n + 2 → ¬ GoodV H k (.ref d) := fun k hk g => q (GoodV.le (by omega) g)
      rcases h with h | ⟨a, vs, e, h1, h2, h3⟩ | ⟨a, ws, e, h1, h2, h3⟩
      · exact h.elim
      · cases e; rw [hd] at h1; cases h1
      · cases e; rw [hd] at h1; cases h1; exact good_hide hm _ _ (by omega) (h3 p hp)
/-! ### how long a literal is -/
def litS : Nat → Nat
  | 0 => 2100
  | n + 1 => 3 * litS n + 60
theorem litS_le : ∀ n, litS n ≤ litS (n + 1) := fun n => by show litS n ≤ 3 * litS n + 60; omega
theorem litS_mono {m n : Nat} (h : m ≤ n) : litS m ≤ litS n := by
  induction h with
  | refl => exact Nat.le_refl _
  | step _ ih => exact Nat.le_trans ih (litS_le _)
theorem rep_le {z a b : Str} {m k : Nat} (hz : z.length ≤ m) (hb : b.length ≤ k) : (Txt.replace z a b).length ≤ m + (m + 1) * k :=
  Nat.le_trans (TK.replace_len z a b) (Nat.add_le_add hz (Nat.mul_le_mul (Nat.succ_le_succ hz) hb))
theorem rep4_len {z : Str} (h : z.length ≤ 24) : (rep4 z).length ≤ 2024 := rep_le (m := 674) (k := 2) (rep_le (m := 224) (k := 2) (rep_le (m := 74) (k := 2) (rep_le (m := 24) (k := 2) h (by decide)) (by decide)) (by decide)) (by decide)
theorem int_log {i : Int} (h : i.natAbs ≤ 10 ^ 30) : i.natAbs.log2 < 1920 := by
  by_cases z : i.natAbs = 0
  · rw [z]; decide
  · exact (Nat.log2_lt z).mpr (Nat.lt_of_le_of_lt h (by decide +kernel))
theorem litF_len {v : V} (h : FlatOk v) : (litF v).length ≤ 2100 := by
  cases v with
  | non => show (Str.ofString "null").length ≤ 2100; decide
  | bl b => cases b <;> decide
  | int i => exact Nat.le_trans (int_text_len_1921 (int_log h)) (by decide)
  | str z =>
    show (("\"" : Str) ++ rep4 z ++ "\"").length ≤ 2100
    have := rep4_len h.1
    rw [app_len, app_len]
    show 1 + (rep4 z).length + 1 ≤ 2100
    omega
  | _ => exact h.elim
theorem join_le (y : Str) (zs : List Str) : (Txt.join y zs).length ≤ (zs.map (·.length)).sum + zs.length * y.length := by rw [TL.join_eq]; exact StrLaws.join_length_le y zs
theorem sum_le {α : Type} {l : List α} {f : α → Nat} {m : Nat} (h : ∀ x ∈ l, f x ≤ m) : (l.map f).sum ≤ l.length * m := by
  induction l with
  | nil => exact Nat.zero_le _
  | cons a r ih =>
    rw [List.map_cons, List.sum_cons, List.length_cons, Nat.succ_mul]
    have := ih fun x hx => h x (List.mem_cons_of_mem _ hx)
    have := h a (List.mem_cons_self ..)
    omega
theorem row_len {w z : Str} {m : Nat} (hw : w.length ≤ 12) (hz : z.length ≤ m) : (rowL w z).length ≤ m + 15 := by
  unfold rowL
  rw [app_len, app_len, app_len]
  show 1 + w.length + 2 + z.length ≤ m + 15
  omega
theorem lit_len {H : Hp} : ∀ (n : Nat) (v : V), GoodV H n v → (litH H n v).length ≤ litS n
  | 0, _, h => litF_len h
  | n + 1, v, h => by
    have low := litS_mono (Nat.zero_le n)
    rcases h with h | ⟨a, vs, e, h1, h2, h3⟩ | ⟨a, kvs, e, h1, h2, h3⟩
    · rw [lit_flat h]
      exact Nat.le_trans (litF_len h) (litS_mono (Nat.zero_le (n + 1)))
    · subst e
      rw [lit_tup h1, app_len, app_len]
      have a1 := join_le "," (vs.map (litH H n))
      rw [List.map_map, List.length_map] at a1
      have a2 : (vs.map ((fun z : Str => z.length) ∘ litH H n)).sum ≤ vs.length * litS n := sum_le fun x hx => lit_len n x (h3 x hx)
      have a3 : vs.length * litS n ≤ 3 * litS n := Nat.mul_le_mul_right _ h2
      have e1 : ("," : Str).length = 1 := rfl
      rw [e1] at a1
      show 1 + (Txt.join "," (vs.map (litH H n))).length + 1 ≤ 3 * litS n + 60
      omega
    · subst e
      rw [lit_dict h1, app_len, app_len]
      have nl := nms_len h2.2.2
      have sl : (sortN (nms kvs)).length = kvs.length := (sort_perm _).length_eq.trans nl
      have a1 := join_le "," ((sortN (nms kvs)).map fun w => rowL w (litH H n ((valV kvs (.inr w)).getD .non)))
      rw [List.map_map, List.length_map, sl] at a1
      have a2 : ((sortN (nms kvs)).map ((fun z : Str => z.length) ∘ fun w => rowL w (litH H n ((valV kvs (.inr w)).getD .non)))).sum ≤ (sortN (nms kvs)).length * (litS n + 15) := sum_le fun w hw => by
        refine row_len ?_ (val_get (P := fun v => (litH H n v).length ≤ litS n) hw fun p hp => lit_len n p.2 (h3 p hp))
        obtain ⟨p, hp, e⟩ := val_in (mem_sort.mp hw)
        obtain ⟨w', e', ok⟩ := h2.2.2 p hp
        rw [e] at e'
        cases e'
        exact ok.2.1
      rw [sl] at a2
      have a3 : kvs.length * (litS n + 15) ≤ 3 * (litS n + 15) := Nat.mul_le_mul_right _ h2.1
      have e1 : ("," : Str).length = 1 := rfl
      rw [e1] at a1
      have l3 := h2.1
      show 1 + (Txt.join "," ((sortN (nms kvs)).map fun w => rowL w (litH H n ((valV kvs (.inr w)).getD .non)))).length + 1 ≤ 3 * litS n + 60
      omega
theorem litS6 {n : Nat} (h : n ≤ 6) : litS n ≤ 2000000 := Nat.le_trans (litS_mono h) (by decide)
end Sk
namespace Sk
open PySem PySem.Spec PyProof.Rows L2
def uIfT (t ta tb : TT) : TT := fun σ H Q => t σ H fun c H1 => br c (ta σ H1 Q) (tb σ H1 Q)
section
variable {X : Cx}
/-- a if c else b, as a test -/
theorem tif {c a b : Expr} {tc ta tb : TT} {pos : Pos} (hc : PT X c tc) (ha : PT X a ta) (hb : PT X b tb) : PT X (.IfExp c a b pos) (uIfT tc ta tb) := by
  refine ⟨fun pins s σ H Q I h => isTrue_IfExp (thn (hc.run pins s σ H _ I h) fun d s1 z => ?_)⟩
  obtain ⟨H1, I1, q1⟩ := z
  cases d with
  | true => exact ha.run pins s1 σ H1 Q I1 q1
  | false => exact hb.run pins s1 σ H1 Q I1 q1
end
theorem map_of {α : Type} {ys : List V} {xs : List α} {f : α → V} (hl : ys.length = xs.length) (h : ∀ (i : Nat) (y : V), ys[i]? = some y → ∃ x, xs[i]? = some x ∧ y = f x) : ys = xs.map f := by
  refine List.ext_getElem? fun i => ?_
  rw [List.getElem?_map]
  cases e : ys[i]? with
  | none =>
    have : xs[i]? = none := by
      rw [List.getElem?_eq_none_iff] at e ⊢
      omega
    rw [this]
    rfl
  | some y =>
    obtain ⟨x, hx, rfl⟩ := h i y e
    rw [hx]
    rfl
theorem emp_app (x : Str) : Str.empty ++ x = x := str_ext (by rw [app_list]; rfl)
theorem keys_str {kvs : List (Key × V)} (h : ∀ p ∈ kvs, ∃ w, p.1 = .inr w ∧ NameOk w) : kvs.map (fun p => kV p.1) = (nms kvs).map V.str := by
  have e := congrArg (List.map kV) (nms_keys h)
  rw [List.map_map, List.map_map] at e
  exact e
/-- sorted([k for k in d]) -/
theorem sort_keys {K : PySem.W.Frag} {σ : L2.St} {H : Hp} {a : Addr} {kvs : List (Key × V)} {i j : Nat} {Q : VK} (h0 : H a = some (.dK kvs)) (dk : DictOk kvs)
    (hv : ∀ Hx (k : VK), k (.ref a) Hx → uVar i σ Hx k) (hx : ∀ x Hx (k : VK), k x Hx → uVar j ((wipe σ [j]).set j (some x)) Hx k) (hw : ∀ x, wipe ((wipe σ [j]).set j (some x)) [j] = wipe σ [j])
    (q : ∀ p H', Same H H' → H' p = some (.lst ((sortN (nms kvs)).map V.str)) → Q (.ref p) H') :
    tCB (rSortedS K) (tCons (tLockE (tLc (iKeys (uVar i)) (gName j) tYes (upE (uVar j)) [j])) tNil) σ H Q := by
  refine ⟨a, _, h0, trivial, fun od => ?_⟩
  dsimp only [tLc, iKeys]
  refine hv _ _ ?_
  refine ⟨a, od, rfl, .inl ⟨kvs, upd_same, fun D nD => ?_⟩⟩
  have nDa := (upd_none nD).1
  have lk := dk.1
  have hf : upd H a (.frz od (.dK kvs)) a = some (.frz od (.dK kvs)) := upd_same
  refine lcw walk_keys fr_same (fun i v _ => ∃ p, kvs[i]? = some p ∧ v = kV p.1) trivial nD (by omega) gm_name (fun H1 _ s1 => s1 _ _ hf) (fun _ _ _ _ h _ => h) (fun i x H1 H1' hi _ s1 hy => ?_) (fun H1 ys _ s1 l1 e1 q1 => ?_)
  · obtain ⟨rfl, k0, v0, hk, rfl⟩ := hy
    refine ⟨hw _, hx _ _ _ ?_⟩
    exact ⟨trivial, Same.refl _, (k0, v0), hk, rfl⟩
  · have e := map_of (f := fun p : Key × V => kV p.1) l1 q1
    rw [keys_str dk.2.2] at e
    subst e
    have f1 := s1 _ _ hf
    have nl := nms_len dk.2.2
    refine ⟨f1, D, nms kvs, rfl, sqL_of ((upd_ne nDa).trans e1), by omega, fun ys p perm srt np => ?_⟩
    rw [sorted_is perm srt]
    refine q _ _ (Same.trans ?_ (same_new np)) upd_same
    intro b o hb
    by_cases z : b = a
    · subst z
      rw [upd_same, ← h0]
      exact hb
    · rw [upd_ne z]
      refine s1 b o ?_
      rw [upd_ne z]
      exact hb
end Sk
/-! Sk: repr of data; defs that are called where no repr is under way -/
namespace Sk
open PySem PySem.Spec PyProof.Rows L2
/-- a def keeps its promise, called where no repr is under way -/
structure FnG (P : Program) (w : World) (K : PySem.W.Frag) (mg : Str → Option Value) (base : Heap) (k : Nat) (f : Addr) (fd : FuncData) (ps : List Str) (sp : Sp) : Prop where
  len : ∀ vs H Q E, sp vs H Q E → vs.length = ps.length
  run : ∀ (A : Around) (outer : List Env) (s : Shared) (H : Hp) (args : Args) (us : List Value) (vs : List V) (Q : VK) (E : XK), A.guards = some [] → Room k A → Env0 P w K mg base A outer s H → BindsTo s fd args (ps.zip us) → Vals vs us → sp vs H Q E →
    codeAny (model P w) A (.call (.ref f) args) (CR CX0 outer P w H s Q E) s
section
variable {P : Program} {w : World} {K : PySem.W.Frag} {mg : Str → Option Value} {base : Heap} {x qual : Str} {params : Arguments} {body : List Stmt} {scope : Scope} {dvs : List V} {kws : List (Str × V)} {f : Addr} {fd : FuncData}
theorem FnG.of {k : Nat} {ps : List Str} {sp : Sp} (F : FnOk P w K mg base CX0 k f fd ps sp) : FnG P w K mg base k f fd ps sp := ⟨F.len, fun A outer s H args us vs Q E _ => F.run A outer s H args us vs Q E⟩
theorem fnG_of {N ps : List Str} {k : Nat} {sp : Sp} (F : FunD K x qual params body scope dvs kws f fd) (S : FnScope N ps scope) (len : ∀ vs H Q E, sp vs H Q E → vs.length = ps.length)
    (hb : ∀ (cdv : Value) (A : Around) (outer : List Env) (s : Shared) (H : Hp) (vs : List V) (Q : VK) (E : XK), (A.deeper (envOfC qual scope s.heap.objs.size f cdv)).guards = some [] → Room k (A.deeper (envOfC qual scope s.heap.objs.size f cdv)) → sp vs H Q E →
      ∃ t, PSs (cxOf CX0 P w K mg base N qual scope f cdv A outer s H E).nox body t ∧ t { nx := fun _ H' => Q .non H', rt := Q } (start N vs) H) : FnG P w K mg base (k + 1) f fd ps sp := by
  obtain ⟨oc, od, dV, kV, doc, pm, an, cdv, ct, osl, efd, look, code, _, _⟩ := F.ex
  subst efd
  refine ⟨len, fun A outer s H args us vs Q E gd room env bind rel want => ?_⟩
  have size := len _ _ _ _ want
  have inK : K.In s.heap := env.mod.kin.keeps fun b o e => (env.bs b o e).1
  have calm : s.heap.NoLimit := env.mod.nolimit.keeps fun b o e => (env.bs b o e).1
  have kinds : ∀ y ∈ ps.zip us, scope.names.lookup y.1 = some .local ∨ (scope.names.lookup y.1 = some .cell ∧ ((cellsFrom (s.heap.objs.size + 1) scope.names []).lookup y.1).isSome = true) := by
    rintro ⟨n, v⟩ hy
    cases S.par n (List.of_mem_zip hy).1 with
    | inl q => exact .inl q
    | inr q => exact .inr ⟨q, PySem.W.cellsFrom_some _ _ _ (.inl q)⟩
  refine codeAny_call_function room.depth (inK _ _ look) rfl S.co S.gen rfl (PySem.W.codeRec_of inK code) (bind _ _ _ _ ?_)
  refine wpAny_newFunctionEnv_cells S.kind kinds fun e1 he1 s1 inC => ?_
  subst he1
  obtain ⟨t, der, red⟩ := hb cdv A outer s H vs Q E gd (room.deeper _) want
  have inv : Inv (cxOf CX0 P w K mg base N qual scope f cdv A outer s H E) [] (start N vs) H s1 := inv_start S room.hd env size rel inC
  refine ⟨calm.keeps inC.toInCall.keep, codeAny_func (wpAny_mono (der.run [] s1 _ H _ (inv_nox inv) red) (fun fl s2 h2 => ?_) fun _ _ z => z.elim)⟩
  have back : ∀ {σ2 : L2.St} {H2 : Hp} {v : V} {u : Value}, Inv (cxOf CX0 P w K mg base N qual scope f cdv A outer s H E).nox [] σ2 H2 s2 → RelV v u → Q v H2 → CE outer P w H s Q u s2 := fun J r q => ⟨_, _, J.os, J.bare, J.base, J.hok, r, q⟩
  cases fl with
  | ret u => obtain ⟨v, σ2, H2, J, r, q⟩ := h2; exact back J r q
  | next => obtain ⟨σ2, H2, J, q⟩ := h2; exact back (u := Value.none) (v := V.non) J rfl q
  | brk => obtain ⟨_, _, _, q⟩ := h2; exact q.elim
  | cont => obtain ⟨_, _, _, q⟩ := h2; exact q.elim
end
section
variable {X : Cx}
/-- f(e, ..) -/
theorem pecallG {k : Nat} {f : Addr} {fd : FuncData} {ps : List Str} {sp : Sp} {y : Str} {e : Expr} {es : List Expr} {t : TA} {p pos : Pos} (F : FnG X.prog X.w X.K X.mg X.base k f fd ps sp) (gd : X.A.guards = some []) (hr : Room k X.A) (hg : Gl X y) (hm : X.mg y = some (.ref f)) (hk : PySem.W.keepIn X.K (.ref f) = true)
    (hb : Binds X.K fd ps []) (ha : PA X (e :: es) t) (hdb : (y == ("__debug__" : Str)) = false := by decide) (he : starEach (e :: es) X.env = (false, eval e X.env) :: starEach es X.env := by rfl) (hpl : (backTo pos (starEach es X.env)).any (·.1) = false := by rfl) :
    PE X (.Call (.Name y p) (e :: es) [] pos) (fun σ H Q => t σ H fun vs H1 => sp vs H1 Q E0) := by
  refine ⟨fun pins s σ H Q I h => ?_⟩
  refine wpAny_Call_Name_kw (ld_glob I hg hm ?_ hdb)
  refine PySem.W.callWith_K (h₀ := X.base) I.ok.mod.kin hk (thn (ha.run pos pins s σ H _ I h) fun us s1 z => ?_) he hpl
  obtain ⟨vs, H1, I1, r, q⟩ := z
  refine ⟨I1.kIn, ?_⟩
  have r2 : Vals vs (us ++ []) := by rw [List.append_nil]; exact r
  have size : (us ++ []).length = ps.length := by rw [← r2.length]; exact F.len _ _ _ _ q
  refine wpAny_call (codeAny_mono (F.run X.A X.stack s1 H1 ⟨us, []⟩ (us ++ []) vs Q E0 gd hr I1.env0 (hb s1 us I1.kIn size) r2 q) fun r s2 hq => ?_)
  cases r with
  | error e => exact hq.elim
  | ok fl =>
    cases fl with
    | ret u => exact I1.after hq
    | next => exact hq.elim
    | brk => exact hq.elim
    | cont => exact hq.elim
end
/-! ### data with dicts -/
mutual
inductive Dr (H : Hp) : V → PyData → Prop
  | non : Dr H .non .none
  | bl (b : Bool) : Dr H (.bl b) (.bool b)
  | int (i : Int) : Dr H (.int i) (.int i)
  | str (x : Str) : Dr H (.str x) (.str x)
  | tup {a : Addr} {xs : List V} {ds : List PyData} : H a = some (.tup xs) → DrAll H xs ds → Dr H (.ref a) (.tuple ds)
  | dic {a : Addr} {kvs : List (Key × V)} {ds : List (PyData × PyData)} : H a = some (.dK kvs) → DrAll H (kvs.map fun p => kV p.1) (ds.map (·.1)) → DrAll H (kvs.map (·.2)) (ds.map (·.2)) → Dr H (.ref a) (.dict ds)
inductive DrAll (H : Hp) : List V → List PyData → Prop
  | nil : DrAll H [] []
  | cons {v : V} {vs : List V} {d : PyData} {ds : List PyData} : Dr H v d → DrAll H vs ds → DrAll H (v :: vs) (d :: ds)
end
section
variable {X : Cx} {pins : List (Addr × Obj)} {σ : L2.St} {H : Hp} {s : Shared}
theorem key_rel {k : Key} {u : Value} (h : keyIs k u = true) : RelV (kV k) u := by
  rcases keyIs_shape h with ⟨i, t, rfl, rfl⟩ | ⟨x, t, rfl, rfl⟩
  · exact ⟨t, rfl⟩
  · exact ⟨t, rfl⟩
theorem pairs_vals {P : Program} {w : World} : ∀ {es : List DictEntry} {vs : List (Key × Value)} {kvs : List (Key × V)}, Pairs (mixKind P w) es vs → KV kvs vs → Vals (kvs.map fun p => kV p.1) (es.map (·.key)) ∧ Vals (kvs.map (·.2)) (es.map (·.val)) := by
  intro es vs kvs hp hk
  induction hp generalizing kvs with
  | nil =>
    cases hk
    exact ⟨.nil, .nil⟩
  | @cons e q es vs h1 h2 h3 ih =>
    cases hk with
    | cons r rs =>
      obtain ⟨i1, i2⟩ := ih rs
      refine ⟨.cons ?_ i1, .cons ?_ i2⟩
      · show RelV (kV _) _
        rw [r.1]
        exact key_rel h1
      · have e2 := r.2
        rw [← h2] at e2
        exact e2
mutual
theorem Dr.reads (I : Inv X pins σ H s) : ∀ {v : V} {d : PyData}, Dr H v d → ∀ u, RelV v u → ∃ as, Reads s.heap u d as ∧ sysModules ∉ as
  | _, _, .non, u, r => by
    cases r
    exact ⟨[], .none, by simp⟩
  | _, _, .bl b, u, r => by
    cases r
    exact ⟨[], .bool b, by simp⟩
  | _, _, .int i, u, r => by
    obtain ⟨t, rfl⟩ := r
    exact ⟨[], .int i t, by simp⟩
  | _, _, .str x, u, r => by
    obtain ⟨t, rfl⟩ := r
    exact ⟨[], .str x t, by simp⟩
  | _, _, .tup hs ha, u, r => by
    cases r
    obtain ⟨its, rv, ⟨o, ho, hc, n, hd⟩, _⟩ := I.tuple (sqT_of hs)
    obtain ⟨as, hr, hn⟩ := Dr.readsAll I ha its rv
    exact ⟨as, .tuple ho hc hd hr, hn⟩
  | _, _, .dic (a := a) hs hk hv, u, r => by
    cases r
    obtain ⟨_, ne, vs, kv, o, es, ep, ho, hx, hd, _, hp, _⟩ := dk_of I.hok hs
    obtain ⟨r1, r2⟩ := pairs_vals hp kv
    obtain ⟨as, q1, n1⟩ := Dr.readsAll I hk _ r1
    obtain ⟨bs, q2, n2⟩ := Dr.readsAll I hv _ r2
    refine ⟨a :: as ++ bs, .dict ho hx.1 hd q1 q2, fun z => ?_⟩
    have ne := beq_eq_false_iff_ne.mp ne
    rcases List.mem_append.mp z with z | z
    · rcases List.mem_cons.mp z with z | z
      · exact ne z.symm
      · exact n1 z
    · exact n2 z
theorem Dr.readsAll (I : Inv X pins σ H s) : ∀ {vs : List V} {ds : List PyData}, DrAll H vs ds → ∀ us, Vals vs us → ∃ as, ReadsAll s.heap us ds as ∧ sysModules ∉ as
  | _, _, .nil, us, r => by
    cases r
    exact ⟨[], .nil, by simp⟩
  | _, _, .cons h1 h2, us, r => by
    cases r with
    | cons r1 r2 =>
      obtain ⟨as, q1, n1⟩ := Dr.reads I h1 _ r1
      obtain ⟨bs, q2, n2⟩ := Dr.readsAll I h2 _ r2
      refine ⟨as ++ bs, .cons q1 q2, fun z => ?_⟩
      rcases List.mem_append.mp z with z | z
      · exact n1 z
      · exact n2 z
end
end
section
variable {X : Cx}
/-- repr(x): data of tuples and dicts; data of lists and tuples; numbers, texts -/
def rRepr (K : PySem.W.Frag) : List V → Hp → VK → Prop := fun xs H Q => match xs with
  | [.ref a] => ∃ d, (Dr H (.ref a) d ∨ (Dp K H (.ref a) d ∧ d.hasDict = false)) ∧ d.showable = true ∧ d.shown.length ≤ sizeLine ∧ d.depth ≤ 60 ∧ Q (.str d.shown) H
  | [.int i] => i.natAbs.log2 < 1920 ∧ Q (.str (toString i)) H
  | _ => False
theorem krepr (K : PySem.W.Frag) (gd : X.A.guards = some []) (hu : X.A.units + 64 < cLine) (h : X.K = K := by rfl) : CallR X (.builtin "repr") (rRepr K) := by
  subst h
  intro pins s σ H xs us Q I r q
  unfold rRepr at q
  split at q
  · rename_i a
    obtain ⟨d, hd, h1, h2, h3, q⟩ := q
    cases r with
    | @cons _ u _ us ru rs =>
    cases rs
    have e : u = Value.ref a := ru
    subst e
    have key : ∃ as, Reads s.heap (.ref a) d as ∧ (d.hasDict = true → sysModules ∉ as) := by
      rcases hd with hd | ⟨hd, hn⟩
      · obtain ⟨as, r1, n1⟩ := Dr.reads I hd _ (show RelV (.ref a) (.ref a) from rfl)
        exact ⟨as, r1, fun _ => n1⟩
      · obtain ⟨as, r1⟩ := Dp.reads I d _ _ hd (show RelV (.ref a) (.ref a) from rfl)
        exact ⟨as, r1, fun z => by rw [hn] at z; cases z⟩
    obtain ⟨as, r1, n1⟩ := key
    refine repr_of_reads' r1 h1 n1 gd (by omega) (fun _ _ e => e) (fun h' u tk k => ?_) h2
    exact ⟨.str d.shown, H, I.kept (t' := tk) k, ⟨u, rfl⟩, q⟩
  · exact SkE.call_repr_int pins s σ H _ us Q I r ⟨_, rfl, q⟩
  · exact q.elim
end
end Sk
/-! Sk: a law's end where no repr is under way -/
namespace Sk
open PySem PySem.Spec PyProof.Rows L2
/-- the heap in which the script alone is tracked, unless it is the module's own -/
theorem script_heap {K : PySem.W.Frag} {h : Heap} {a : Addr} {vs : List Value} {ns : List Int} (KX : K.In h) (ha : h.get? a = some { cls := .type "list", data := .seq vs.toArray }) (hi : IntsAre vs ns) (hl : ns.length ≤ sizeLine) :
    ∃ H : Hp, (∀ b, H b = none ∨ (b = a ∧ K.lookup a = none ∧ H b = some (.frz { cls := .type "list", data := .seq vs.toArray } (.lst (ns.map V.int))))) ∧ SqL K H a (ns.map V.int) := by
  have rv := vals_ints hi
  cases hk : K.lookup a with
  | none =>
    refine ⟨upd (fun _ => none) a (.frz { cls := .type "list", data := .seq vs.toArray } (.lst (ns.map V.int))), fun b => ?_, .inl (.inr ⟨_, upd_same⟩)⟩
    by_cases z : b = a
    · subst z
      exact .inr ⟨rfl, rfl, upd_same⟩
    · exact .inl (upd_ne z)
  | some o =>
    have e := KX a o hk
    rw [ha] at e
    cases e
    refine ⟨fun _ => none, fun b => .inl rfl, .inr ⟨_, vs.toArray, _, hk, rfl, rfl, rfl, ?_, by simpa using rv⟩⟩
    rw [List.size_toArray, hi.length]
    exact hl
theorem endG {P : Program} {w : World} {K : PySem.W.Frag} {mg mb : Str → Option Value} {k : Nat} {fa a : Addr} {fd : FuncData} {x : Str} {sp : Sp} {s : Shared} {vs : List Value} {ns : List Int}
    (KX : K.In s.heap) (gs : s.heap.Ns mainGlobals mg) (bs : s.heap.Ns builtinsNs mb) (boot : ∀ x : Str, x ≠ "__name__" → mb x = bootBuiltins x) (lim : s.heap.NoLimit) (gens : s.gens = #[])
    (ha : s.heap.get? a = some { cls := .type "list", data := .seq vs.toArray }) (hi : IntsAre vs ns) (hl : ns.length ≤ sizeLine) (room : Room k callerA)
    (F : ∀ base : Heap, K.In base → base.Ns mainGlobals mg → FnG P w K mg base k fa fd [x] sp) (bind : ∀ (s : Shared) (u : Value), BindsTo s fd ⟨[u], []⟩ [(x, u)])
    (want : ∀ H : Hp, SqL K H a (ns.map V.int) → sp [.ref a] H (fun v _ => v = .bl true) fun _ _ _ => False) :
    codeAny (model P w) callerA (.call (.ref fa) ⟨[.ref a], []⟩) (fun r s' => r = .ok (.ret (.bool true)) ∧ OldK s.heap s'.heap ∧ s'.os = s.os ∧ AllBare s'.gens) s := by
  obtain ⟨H, pH, pS⟩ := script_heap KX ha hi hl
  have free : ∀ {b : Addr} {o : Obj} {es : Array DictEntry} {ep : Nat}, s.heap.get? b = some o → o.data = .dict es ep → H b = none := by
    intro b o es ep e d
    rcases pH b with z | ⟨z, _, _⟩
    · exact z
    · rw [z, ha] at e
      cases e
      have d' : Data.seq vs.toArray _ = Data.dict es ep := d
      cases d'
  have ns_on : ∀ {b : Addr} {m : Str → Option Value}, s.heap.Ns b m → (hidT s.heap H).Ns b m := by
    rintro b m ⟨o, es, ep, e, d, r⟩
    exact ⟨o, es, ep, hidT_get e (free e d), d, r⟩
  have kin : K.In (hidT s.heap H) := by
    intro b o e
    refine hidT_get (KX b o e) ?_
    rcases pH b with z | ⟨z, z2, _⟩
    · exact z
    · rw [z, z2] at e
      cases e
  have hok : HOk P w H s.heap := by
    intro b u e
    rcases pH b with z | ⟨z, _, z3⟩
    · rw [z] at e
      cases e
    · rw [z3] at e
      cases e
      subst z
      exact ⟨ha, by rw [List.length_map]; exact hl, vs, _, vals_ints hi, ha⟩
  have limK : (hidT s.heap H).NoLimit := by
    obtain ⟨mc, l1, l2⟩ := lim
    exact ⟨mc, ns_on l1, l2⟩
  have env : Env0 P w K mg (hidT s.heap H) callerA [] s H :=
    { frames := rfl, mod := ⟨kin, ns_on gs, ⟨mb, ns_on bs, boot⟩, limK⟩, bs := fun b o e => of_hidT e, bsz := Nat.le_of_eq (hidT_size _ _), funs := trivial, frf := (fun b hb => nomatch (show b ∈ ([] : List Addr) from hb)), hok := hok, bare := .of_eq gens }
  have go := (F _ kin (ns_on gs)).run callerA [] s H ⟨[.ref a], []⟩ [.ref a] [.ref a] _ _ rfl room env (bind s (.ref a)) (.cons rfl .nil) (want H pS)
  refine codeAny_mono go fun r s' z => ?_
  match r, z with
  | .error e, z => exact z.elim
  | .ok .next, z => exact z.elim
  | .ok .brk, z => exact z.elim
  | .ok .cont, z => exact z.elim
  | .ok (.ret u), z =>
    obtain ⟨v, H', os, bare, un, hok', rel, q⟩ := z
    have q : v = .bl true := q
    subst q
    have eu : u = Value.bool true := rel
    subst eu
    refine ⟨rfl, OldK.of_keep fun b o e => ?_, os, bare⟩
    rcases pH b with z | ⟨z, _, z3⟩
    · exact un.keep b o e z (fun hm => nomatch (show b ∈ ([] : List Addr) from hm)) (by simp)
    · have e2 := (hok' b _ (un.frzs b _ _ z3)).1
      rw [z, ha] at e
      cases e
      exact e2
/-- a law whose def is promised where no repr is under way -/
theorem walk_G {l : PySem.W.OpenLaw} {n k : Nat} {q : Program} {loose : List Str} {XP : (Str → Option Value) → Heap → Prop} {YP : World → Heap → Prop} {d : DefRec} {x : Str}
    (hn : l.most = some n) (hn2 : n ≤ sizeLine) (hdf : d.params.defaults = []) (room : Room k callerA)
    (F : ∀ (w : World) (mg : Str → Option Value) (fa : Addr) (h : Heap), YP w h → h.Ns mainGlobals mg → mg d.name = some (.ref fa) →
      ∃ (K : PySem.W.Frag) (fd : FuncData) (sp : Sp), K.In h ∧ (∀ (s : Shared) (u : Value), BindsTo s fd ⟨[u], []⟩ [(x, u)]) ∧
        (∀ (H : Hp) (a : Addr) (ns : List Int), ns.length ≤ n → SqL K H a (ns.map V.int) → sp [.ref a] H (fun v _ => v = .bl true) fun _ _ _ => False) ∧
        ∀ base : Heap, K.In base → base.Ns mainGlobals mg → FnG l.prog w K mg base k fa fd [x] sp) :
    PySem.W.WalkO q loose XP YP l.row.toRowW d [] (fun f vs => PySem.call f vs) := by
  refine Att.attach_call hn hdf ?_
  intro w s₀ s₁ mg mb fa o pm cd doc a vs ns G Y _ _ _ named ha hi hlen gens
  obtain ⟨K, fd, sp, KX, hb, hsp, hF⟩ := F w mg fa _ Y G.T.g named
  exact endG KX G.T.g G.T.b G.T.builtins G.T.nolimit gens ha hi (Nat.le_trans hlen hn2) room hF hb fun H hS => hsp H a ns hlen hS
end Sk
/-! Sk: a walk over a list or a tuple; trees of markup as they stand in a heap -/
namespace Sk
open PySem PySem.Spec PyProof.Rows L2
/-- x in a list or in a tuple -/
def iAny (K : PySem.W.Frag) (te : TE) : TI := fun σ H R => te σ H fun v H1 => match v with
  | .ref a => ∃ xs, (SqL K H1 a xs ∨ SqT K H1 a xs) ∧ ∀ (J : It) (G : Hp → Prop), Walk J xs.length G (YAt xs) → (∀ H', (∀ o, H1 a = some o → H' a = some o) → G H') → R J H1
  | _ => False
theorem at_seq {K : PySem.W.Frag} {H H' : Hp} {a : Addr} {xs : List V} (e : ∀ o, H a = some o → H' a = some o) (h : SqL K H a xs) : SqL K H' a xs := by
  rcases h with (h | ⟨o, h⟩) | h
  · exact .inl (.inl (e _ h))
  · exact .inl (.inr ⟨o, e _ h⟩)
  · exact .inr h
theorem at_tup {K : PySem.W.Frag} {H H' : Hp} {a : Addr} {xs : List V} (e : ∀ o, H a = some o → H' a = some o) (h : SqT K H a xs) : SqT K H' a xs := by
  rcases h with (h | ⟨o, h⟩) | h
  · exact .inl (.inl (e _ h))
  · exact .inl (.inr ⟨o, e _ h⟩)
  · exact .inr h
section
variable {X : Cx}
theorem iany (K : PySem.W.Frag) {tg e : Expr} {te : TE} (he : PE X e te) (hK : X.K = K := by rfl) : PI X tg e (iAny K te) := by
  subst hK
  refine ⟨fun pins s σ H R I h => thn (he.run pins s σ H _ I h) fun v s1 z => ?_⟩
  obtain ⟨y, G, J, rel, q⟩ := z
  cases y with
  | ref a =>
    have ev : v = Value.ref a := rel
    subst ev
    have fp : ∀ b ∈ [s1.heap.objs.size], FpOk X pins G b := by
      intro b hb
      have eb : b = s1.heap.objs.size := by simpa using hb
      rw [eb]
      exact J.fpOk (Nat.le_refl _) (J.hok.fresh (Nat.le_refl _))
    obtain ⟨xs, hs | hs, q⟩ := q
    · have q := q _ _ walk_list fun H' e => at_seq e hs
      obtain ⟨its, _, pl, _⟩ := J.list hs
      refine wpAny_pyIter_list pl.isList ⟨s1.heap.objs.size, [s1.heap.objs.size], _, _, G, rfl, ?_, turn_list a _, ?_, fp, q⟩
      · exact J.kept (t' := s1.toks) fun b o eo => Heap.get?_push_of_some _ eo
      · exact ⟨_, Heap.get?_push_size _ rfl, rfl, rfl⟩
    · have q := q _ _ walk_tup fun H' e => at_tup e hs
      obtain ⟨its, _, pt, _⟩ := J.tuple hs
      refine wpAny_pyIter_tuple (show s1.heap.IsTuple a its.toArray from pt) ⟨s1.heap.objs.size, [s1.heap.objs.size], _, _, G, rfl, ?_, turn_tuple a _, ?_, fp, q⟩
      · exact J.kept (t' := s1.toks) fun b o eo => Heap.get?_push_of_some _ eo
      · exact ⟨_, Heap.get?_push_size _ rfl, rfl, rfl⟩
  | _ => exact q.elim
end
/-! ### trees -/
def TxtN (H : Hp) (v : V) : Prop := ∃ a z, v = .ref a ∧ H a = some (.tup [.str "text", .str z]) ∧ TextOk 24 z ∧ 1 ≤ z.length
def DataN (H : Hp) (v : V) : Prop := ∃ a x, v = .ref a ∧ H a = some (.tup [.str "data", x]) ∧ GoodV H 6 x
def TextsV (H : Hp) (v : V) (zs : List Str) : Prop := ∃ a, v = .ref a ∧ H a = some (.tup (zs.map V.str)) ∧ ∀ z ∈ zs, TextOk 24 z
def PairsV (H : Hp) (v : V) (ps : List (Str × Str)) : Prop := ∃ a vs, v = .ref a ∧ H a = some (.tup vs) ∧ vs.length = ps.length ∧
  ∀ (i : Nat) x p, vs[i]? = some x → ps[i]? = some p → ∃ b, x = .ref b ∧ H b = some (.tup [.str p.1, .str p.2]) ∧ NameOk p.1 ∧ TextOk 24 p.2
inductive Att where
  | plain (n z : Str)
  | addr (ws : List Str) (ps : List (Str × Str))
def AttV (H : Hp) (v : V) : Att → Prop
  | .plain n z => ∃ a, v = .ref a ∧ H a = some (.tup [.str n, .str z]) ∧ NameOk n ∧ n ≠ "href" ∧ TextOk 24 z
  | .addr ws ps => ∃ a p x y, v = .ref a ∧ H a = some (.tup [.str "href", .ref p]) ∧ H p = some (.tup [x, y]) ∧ TextsV H x ws ∧ 1 ≤ ws.length ∧ ws.length ≤ 3 ∧ PairsV H y ps ∧ ps.length ≤ 3
end Sk
/-! Sk: trees of markup, their sheets -/
namespace Sk
open PySem PySem.Spec PyProof.Rows L2
inductive Nd where
  | text (z : Str)
  | data (l : Str)
  | elem (nm : Str) (as : List Att) (ns : List Nd)
def Nd.isT : Nd → Bool
  | .text _ => true
  | _ => false
/-- no two texts one behind the other -/
def noTwo : List Nd → Bool
  | [] => true
  | [_] => true
  | x :: y :: r => !(x.isT && y.isT) && noTwo (y :: r)
mutual
def Nd.lev : Nd → Nat
  | .elem _ _ ns => 1 + levs ns
  | _ => 0
def levs : List Nd → Nat
  | [] => 0
  | x :: r => max x.lev (levs r)
end
inductive AttsV (H : Hp) : List V → List Att → Prop
  | nil : AttsV H [] []
  | cons {v : V} {vs : List V} {a : Att} {as : List Att} : AttV H v a → AttsV H vs as → AttsV H (v :: vs) (a :: as)
mutual
inductive NdV (H : Hp) : V → Nd → Prop
  | text {a : Addr} {z : Str} : H a = some (.tup [.str "text", .str z]) → TextOk 24 z → 1 ≤ z.length → NdV H (.ref a) (.text z)
  | data {a : Addr} {x : V} : H a = some (.tup [.str "data", x]) → GoodV H 6 x → NdV H (.ref a) (.data (litH H 6 x))
  | elem {a p q : Addr} {nm : Str} {vs ws : List V} {as : List Att} {ns : List Nd} : H a = some (.tup [.str "element", .str nm, .ref p, .ref q]) → NameOk nm → nm ≠ "data" → H p = some (.tup vs) → AttsV H vs as → as.length ≤ 3 →
      H q = some (.tup ws) → NdsV H ws ns → ns.length ≤ 4 → noTwo ns = true → NdV H (.ref a) (.elem nm as ns)
inductive NdsV (H : Hp) : List V → List Nd → Prop
  | nil : NdsV H [] []
  | cons {v : V} {vs : List V} {n : Nd} {ns : List Nd} : NdV H v n → NdsV H vs ns → NdsV H (v :: vs) (n :: ns)
end
theorem AttV.stay {H H' : Hp} (s : Stay H H') {v : V} : ∀ {a : Att}, AttV H v a → AttV H' v a
  | .plain _ _, h => by
    obtain ⟨a, e, h1, h2⟩ := h
    exact ⟨a, e, s _ _ rfl h1, h2⟩
  | .addr _ _, h => by
    obtain ⟨a, p, x, y, e, h1, h2, ⟨b, e3, h3, h4⟩, h5, h6, ⟨c, vs, e7, h7, h8, h9⟩, h10⟩ := h
    refine ⟨a, p, x, y, e, s _ _ rfl h1, s _ _ rfl h2, ⟨b, e3, s _ _ rfl h3, h4⟩, h5, h6, ⟨c, vs, e7, s _ _ rfl h7, h8, fun i x p hx hp => ?_⟩, h10⟩
    obtain ⟨d, e, k1, k2⟩ := h9 i x p hx hp
    exact ⟨d, e, s _ _ rfl k1, k2⟩
theorem AttsV.stay {H H' : Hp} (s : Stay H H') {vs : List V} {as : List Att} (h : AttsV H vs as) : AttsV H' vs as := by
  induction h with
  | nil => exact .nil
  | cons h _ ih => exact .cons (h.stay s) ih
mutual
theorem NdV.stay {H H' : Hp} (s : Stay H H') : ∀ {v : V} {n : Nd}, NdV H v n → NdV H' v n
  | _, _, .text h1 h2 h3 => .text (s _ _ rfl h1) h2 h3
  | _, _, .data h1 h2 => by
    rw [← lit_stay s _ _ h2]
    exact .data (s _ _ rfl h1) (GoodV.mono s _ _ h2)
  | _, _, .elem h1 h2 h3 h4 h5 h6 h7 h8 h9 h10 => .elem (s _ _ rfl h1) h2 h3 (s _ _ rfl h4) (h5.stay s) h6 (s _ _ rfl h7) (NdsV.stay s h8) h9 h10
theorem NdsV.stay {H H' : Hp} (s : Stay H H') : ∀ {vs : List V} {ns : List Nd}, NdsV H vs ns → NdsV H' vs ns
  | _, _, .nil => .nil
  | _, _, .cons h1 h2 => .cons (NdV.stay s h1) (NdsV.stay s h2)
end
end Sk
/-! Sk: f(x[1]): the written number gives out a token, so f may want one; a value's truth as a test -/
namespace Sk
open PySem PySem.Spec PyProof.Rows L2
section
variable {X : Cx}
/-- f(o[c]), f called where a token is out -/
theorem pecall_tok {k : Nat} {f : Addr} {fd : FuncData} {ps : List Str} {sp : Sp} {y : Str} {o : Expr} {to : TE} {r : R2} {c : Int} {j : Nat} {p pos cp sp' : Pos} (F : FnT X.prog X.w X.K X.mg X.base k f fd ps sp) (hr : Room k X.A) (hg : Gl X y) (hm : X.mg y = some (.ref f)) (hk : PySem.W.keepIn X.K (.ref f) = true)
    (hb : Binds X.K fd ps []) (hi : IxR X r) (ho : PE X o to) (hs : PlainIx (.Constant (.int c) j cp) := by exact fun _ _ => rfl) (hdb : (y == ("__debug__" : Str)) = false := by decide)
    (he : starEach [.Subscript o (.Constant (.int c) j cp) sp'] X.env = (false, eval (.Subscript o (.Constant (.int c) j cp) sp') X.env) :: starEach [] X.env := by rfl) (hpl : (backTo pos (starEach [] X.env)).any (·.1) = false := by rfl) :
    PE X (.Call (.Name y p) [.Subscript o (.Constant (.int c) j cp) sp'] [] pos) (fun σ H Q => tOp r to (tC (.int c)) σ H fun v H1 => sp [v] H1 Q E0) := by
  refine ⟨fun pins s σ H Q I h => ?_⟩
  refine wpAny_Call_Name_kw (ld_glob I hg hm ?_ hdb)
  refine PySem.W.callWith_K (h₀ := X.base) I.ok.mod.kin hk ?_ he hpl
  rw [he]
  show wpAny _ _ (spliced ((false, eval (.Subscript o (.Constant (.int c) j cp) sp') X.env) :: backTo pos (starEach [] X.env))) _ _ s
  refine Calls.spliced_cons (Subscript_ (thn (ho.run pins s σ H _ I h) fun v s1 z => ?_))
  obtain ⟨x, H1, I1, r1, q1⟩ := z
  refine wpAny_Constant_int ?_
  have out : 1 ≤ ({ s1 with toks := s1.toks + 1 } : Shared).toks := Nat.succ_le_succ (Nat.zero_le _)
  refine wpAny_mono (PySem.wpAny_toks_of out (hi o _ pins { s1 with toks := s1.toks + 1 } σ H1 x (.int c) v _ _ (I1.tok _) r1 ⟨_, rfl⟩ q1 (hs _ _))) (fun u s2 z => ?_) fun _ _ z => z.2
  obtain ⟨tok, x2, H2, I2, r2, q2⟩ := z
  refine Calls.spliced_nil ⟨I2.kIn, ?_⟩
  have size : ([u] ++ ([] : List Value)).length = ps.length := F.len _ _ _ _ q2
  refine wpAny_call (codeAny_mono (F.run X.A X.stack s2 H2 ⟨[u], []⟩ [u] [x2] Q E0 tok hr I2.env0 (hb s2 [u] I2.kIn size) (.cons r2 .nil) q2) fun r s3 hq => ?_)
  cases r with
  | error e => exact hq.elim
  | ok fl =>
    cases fl with
    | ret u => exact I2.after hq
    | next => exact hq.elim
    | brk => exact hq.elim
    | cont => exact hq.elim
/-- one parameter, given by name -/
theorem kb_one {K : PySem.W.Frag} {x qual : Str} {params : Arguments} {body : List Stmt} {scope : Scope} {f : Addr} {fd : FuncData} {p0 : Str} (F : FunD K x qual params body scope [] [] f fd)
    (h : ∀ (kV doc pm : Value) (an : Option Addr) (cdv ct : Value) (w0 : Value), bindArgs (PySem.W.fnOf x qual params body scope .none kV doc pm an cdv ct) ⟨[], [(p0, w0)]⟩ = pure [(p0, w0)]) :
    KBn K fd [p0] 0 [p0] (fun _ ws => ws) (fun _ zs => zs) := by
  obtain ⟨oc, od, dV, kV, doc, pm, an, cdv, ct, osl, rfl, lk, hcd, hD, hK⟩ := F.ex
  rcases hD with ⟨_, rfl⟩ | ⟨e, _⟩
  · refine ⟨fun s us ws _ l1 l2 => ?_, fun r rz => rz⟩
    match us, ws, l1, l2 with
    | [], [w0], _, _ => exact .of_eq (h kV doc pm an cdv ct w0)
  · exact absurd rfl e
/-- a list's, a tuple's truth -/
def uTru (K : PySem.W.Frag) (te : TE) : TT := fun σ H Q => te σ H fun v H1 => match v with
  | .ref a => ∃ xs, (SqL K H1 a xs ∨ SqT K H1 a xs) ∧ Q (!xs.isEmpty) H1
  | .bl b => Q b H1
  | _ => False
theorem ttru (K : PySem.W.Frag) {e : Expr} {te : TE} (h : PE X e te) (hK : X.K = K := by rfl) (he : ∀ whole, isTrue e X.env whole = (do let v ← whole; standAt e.pos; holding [v] (truthy v)) := by intro _; rfl) : PT X e (uTru K te) := by
  subst hK
  refine PTw (pt_truth (up h) he) fun σ H Q q => ⟨_, fun v H1 z => ?_, q⟩
  cases v with
  | ref a =>
    obtain ⟨xs, hs, z⟩ := z
    rcases hs with hs | hs
    · exact ⟨_, .inl ⟨xs, hs, rfl⟩, z⟩
    · exact ⟨_, .inr (.inl ⟨xs, hs, rfl⟩), z⟩
  | bl b => exact ⟨b, rfl, z⟩
  | _ => exact z.elim
/-- zip of two lists, of two tuples -/
theorem izip (K : PySem.W.Frag) {e e2 : Expr} {ta : TA} {p pos tpos : Pos} {elts : List Expr} {kk : Nat} (hg : Gl X "zip") (hm : X.mg "zip" = none) (ha : PA X [e, e2] ta) (hK : X.K = K := by rfl)
    (hs : starEach [e, e2] X.env = (false, eval e X.env) :: starEach [e2] X.env := by rfl) (hpl : (backTo pos (starEach [e2] X.env)).any (·.1) = false := by rfl) :
    PI X (.Tuple elts kk tpos) (.Call (.Name "zip" p) [e, e2] [] pos) (RZ.iZipA K ta) := by subst hK; exact RZ.pi_zipA hg hm ha hs hpl
end
end Sk
/-! Sk: a hook for heads with classes, tables of texts, tables of code objects and one more Bool -/
namespace Sk
open PySem PySem.Spec PyProof.Rows L2
abbrev Fg := PySem.W.Frag
/-- the part of the heap that is looked at -/
def fragU (n : Nat) (g : Addr → Option Obj) : Fg := He.frT g (He5.asA g n ++ [sysModules])
/-- the table of modules is no list -/
def SysD (K : Fg) : Prop := He.dictB K sysModules = true
/-- what the head tells of the part K of the heap h -/
structure SaysU (fa : List He.Fa) (fn : List He5.DefA) (ts : List He.Tab) (tf : List He.Defn) (ex : Fg → Bool) (w : World) (h : Heap) (K : Fg) : Prop where
  defs : He5.SaysA fa fn K
  tabs : (ts.map fun t => He.dicW K (t.1 K)) = ts.map fun t => some (He.keysIn w.params t.2)
  also : ex K = true
  made : ∀ p ∈ tf, PySem.W.codeHdIn K (He.cT K p).1 (He.cT K p).2 = true ∧ K.lookup (He.cT K p).2 = none ∧ h.get? (He.cT K p).2 = some { cls := .none, data := .fields #[] }
abbrev AlU : Type := (He.AlD × List (Option (List (Option (Str × Int))))) × Bool
def seenU (n : Nat) (fa : List He.Fa) (fn : List He5.DefA) (ts : List He.Tab) (tf : List He.Defn) (ex : Fg → Bool) (g : Addr → Option Obj) : AlU :=
  ((He5.obsA fa fn (fragU n g), ts.map fun t => He.dicW (fragU n g) (t.1 (fragU n g))), ex (fragU n g) && He.tabsB g tf (fragU n g))
def wantU (fn : List He5.DefA) (ts : List He.Tab) (w : World) : AlU := ((He5.valA fn, ts.map fun t => some (He.keysIn w.params t.2)), true)
theorem saysU_of {n : Nat} {fa : List He.Fa} {fn : List He5.DefA} {ts : List He.Tab} {tf : List He.Defn} {ex : Fg → Bool} {w : World} {h : Heap} (e : seenU n fa fn ts tf ex h.get? = wantU fn ts w) : SaysU fa fn ts tf ex w h (fragU n h.get?) := by
  have a1 : He5.SaysA fa fn (fragU n h.get?) := congrArg (fun z : AlU => z.1.1) e
  have a2 : (ts.map fun t => He.dicW (fragU n h.get?) (t.1 (fragU n h.get?))) = ts.map fun t => some (He.keysIn w.params t.2) := congrArg (fun z : AlU => z.1.2) e
  have a3 : (ex (fragU n h.get?) && He.tabsB h.get? tf (fragU n h.get?)) = true := congrArg (fun z : AlU => z.2) e
  obtain ⟨b1, b2⟩ := Bool.and_eq_true_iff.mp a3
  refine ⟨a1, a2, b1, fun p hp => ?_⟩
  obtain ⟨c1, c2⟩ := Bool.and_eq_true_iff.mp (List.all_eq_true.mp b2 p hp)
  refine ⟨c1, ?_⟩
  cases q : h.get? (He.cT (fragU n h.get?) p).2 with
  | none =>
    rw [q] at c2
    cases c2
  | some o =>
    rw [q] at c2
    exact ⟨He.frT_none q c2, by rw [He.emptyTab_eq c2]⟩
def hookU (n : Nat) (fa : List He.Fa) (fn : List He5.DefA) (ts : List He.Tab) (tf : List He.Defn) (ex : Fg → Bool) : PySem.W.Hook where
  α := AlU
  obs := fun s => seenU n fa fn ts tf ex s.heap.get?
  val := fun w => wantU fn ts w
  says := fun w h => ∃ K : Fg, K.In h ∧ SaysU fa fn ts tf ex w h K
  of := fun _ _ e => ⟨_, He.frT_in, saysU_of e⟩
  keeps := fun _ _ _ z k => by
    obtain ⟨K, i, c⟩ := z
    exact ⟨K, i.keeps k, c.defs, c.tabs, c.also, fun p hp => ⟨(c.made p hp).1, (c.made p hp).2.1, k _ _ (c.made p hp).2.2⟩⟩
theorem seenU_eq {n : Nat} {fa : List He.Fa} {fn : List He5.DefA} {ts : List He.Tab} {tf : List He.Defn} {ex : Fg → Bool} {g : Addr → Option Obj} {s : Shared} (h : ∀ a, g a = s.heap.get? a) : seenU n fa fn ts tf ex g = (hookU n fa fn ts tf ex).obs s := by
  have : g = s.heap.get? := funext h
  subst this
  rfl
/-! ### a dict of the module: its keys in order, its values -/
structure KDic (K : Fg) (w : World) (a : Addr) (kvs : List (Str × V)) : Prop where
  keys : He.dicW K a = some (He.keysIn w.params (kvs.map (·.1)))
  vals : ∀ q ∈ kvs, ∃ u, PySem.W.nsIn K a q.1 = some (some u) ∧ RelV q.2 u
theorem KDic.obj {K : Fg} {w : World} {a : Addr} {kvs : List (Str × V)} (d : KDic K w a kvs) : ∃ es n, K.lookup a = some ⟨.type "dict", none, .dict es n, #[]⟩ ∧ (a == sysModules) = false ∧ es.toList.map He.keyOf = He.keysIn w.params (kvs.map (·.1)) := by
  have h := d.keys
  unfold He.dicW at h
  split at h
  · rename_i c es n sl q
    split at h
    · rename_i z
      obtain ⟨z1, z2⟩ := Bool.and_eq_true_iff.mp z
      obtain ⟨z3, z4⟩ := Bool.and_eq_true_iff.mp z2
      have e1 : c = "dict" := of_decide_eq_true z1
      have e2 : sl = #[] := Array.isEmpty_iff.mp z3
      subst e1 e2
      refine ⟨es, n, q, ?_, Option.some.inj h⟩
      cases y : a == sysModules with
      | false => rfl
      | true =>
        rw [y] at z4
        cases z4
    · cases h
  · cases h
theorem kdic_of {K : Fg} {w : World} {ts : List He.Tab} (h : (ts.map fun t => He.dicW K (t.1 K)) = ts.map fun t => some (He.keysIn w.params t.2)) (i : Nat) {at_ : Fg → Addr} {kvs : List (Str × He.Dv)} (e : ts[i]? = some (at_, kvs.map (·.1))) (hv : He.valsB K (at_ K) kvs = true) :
    KDic K w (at_ K) (kvs.map fun q => (q.1, q.2.v K)) := by
  refine ⟨?_, fun q hq => ?_⟩
  · have e2 := congrArg (fun l => l[i]?) h
    simp only [List.getElem?_map, e, Option.map_some] at e2
    have e3 := Option.some.inj e2
    rw [List.map_map]
    exact e3
  · obtain ⟨p, hp, rfl⟩ := List.mem_map.mp hq
    exact He.valsB_ok hv hp
theorem key_at {P : Params} : ∀ {l : List DictEntry} {ks : List Str}, l.map He.keyOf = He.keysIn P ks → ∀ (i : Nat) k, ks[i]? = some k → ∃ en, l[i]? = some en ∧ RelV (.str k) en.key
  | [], [], _, i, k, h => by simp at h
  | [], _ :: _, h, _, _, _ => by cases h
  | _ :: _, [], h, _, _, _ => by cases h
  | en :: r, x :: ks, h, i, k, hk => by
    have h : He.keyOf en :: r.map He.keyOf = some (x, PyData.keyHash P x) :: He.keysIn P ks := h
    injection h with h1 h2
    cases i with
    | zero =>
      cases hk
      refine ⟨en, rfl, ?_⟩
      unfold He.keyOf at h1
      split at h1
      · rename_i y t q
        have := (Prod.mk.inj (Option.some.inj h1)).1
        exact ⟨t, by rw [q, this]⟩
      · cases h1
    | succ i =>
      obtain ⟨e, e1, e2⟩ := key_at h2 i k (by simpa using hk)
      exact ⟨e, by simpa using e1, e2⟩
theorem keys_len {P : Params} {l : List DictEntry} {ks : List Str} (h : l.map He.keyOf = He.keysIn P ks) : l.length = ks.length := by
  have e := congrArg List.length h
  rw [List.length_map] at e
  rw [e]
  unfold He.keysIn
  rw [List.length_map]
theorem KDic.get {K : Fg} {w : World} {a : Addr} {kvs : List (Str × V)} (d : KDic K w a kvs) {x : Str} {v : V} (h : (x, v) ∈ kvs) : KDct K w a x v := by
  obtain ⟨es, n, h1, _, h3⟩ := d.obj
  obtain ⟨u, h4, h5⟩ := d.vals _ h
  exact ⟨es, n, u, h1, He.keysLit_of h3, h4, h5⟩
/-- d[k], d a dict of the module -/
def rKd (K : Fg) (w : World) : R2 := fun x y H Q => match x, y with
  | .ref p, .str z => ∃ kvs v, KDic K w p kvs ∧ (z, v) ∈ kvs ∧ Q v H
  | _, _ => False
/-- the keys of a dict of the module -/
def iKeysK (K : Fg) (w : World) (te : TE) : TI := fun σ H R => te σ H fun v H1 => match v with
  | .ref a => ∃ kvs, KDic K w a kvs ∧ ∀ (J : It), Walk J kvs.length (fun _ => True) (YAt (kvs.map fun q => V.str q.1)) → R J H1
  | _ => False
section
variable {X : Cx}
theorem kdget (K : Fg) (w : World) (h : X.K = K := by rfl) (h2 : X.w = w := by rfl) : IxR X (rKd K w) := by
  subst h h2
  intro va sl pins s σ H x y v u Q I rx ry q
  unfold rKd at q
  split at q
  · obtain ⟨kvs, r, d, m, q⟩ := q
    exact ix_kdict va sl pins s σ H _ _ v u Q I rx ry ⟨_, _, r, rfl, rfl, d.get m, q⟩
  · exact q.elim
/-- the walk over the keys of a dict of the module -/
def Itkk (kvs : List (Str × V)) : It where
  go := fun i _ => i < kvs.length
  stop := fun i _ => kvs.length ≤ i
  yld := fun i H x H' => H' = H ∧ ∃ k v, kvs[i]? = some (k, v) ∧ x = V.str k
theorem walk_kk {kvs : List (Str × V)} : Walk (Itkk kvs) kvs.length (fun _ => True) (YAt (kvs.map fun q => V.str q.1)) :=
  ⟨fun _ _ hi _ => hi, fun _ _ => Nat.le_refl _, fun i H x H' hi _ y => by
    obtain ⟨e, k, v, h1, rfl⟩ := y
    exact ⟨e, by rw [List.getElem?_map, h1]; rfl⟩⟩
theorem turn_kk {P : Program} {w : World} {K : Fg} {tg : Expr} {d it : Addr} {kvs : List (Str × V)} {es : Array DictEntry} {ep : Nat} (hl : K.lookup d = some ⟨.type "dict", none, .dict es ep, #[]⟩) (hk : es.toList.map He.keyOf = He.keysIn w.params (kvs.map (·.1))) :
    Turn P w K tg (Itkk kvs) [it] it (fun i h => h.IsKeyIter it d i kvs.length ep) := by
  have sz : es.size = kvs.length := by
    have := keys_len hk
    rw [List.length_map, Array.length_toList] at this
    exact this
  constructor
  · simp
  · intro i h st b hb
    obtain rfl : b = it := by simpa using hb
    obtain ⟨oi, e, c, dd⟩ := st
    exact ⟨oi, e, fun v z => by rw [dd] at z; cases z⟩
  · intro i h h' st k
    exact st.at fun oi e => k it (by simp) oi e
  · intro X hP hw hK hc i pins s σ H E I hf st hg
    subst hP hw hK
    obtain ⟨f0, f1, f2, f3, f4, f5⟩ := hf it (by simp)
    have hi : i < kvs.length := hg
    obtain ⟨⟨k, v⟩, hkv⟩ : ∃ p, kvs[i]? = some p := ⟨kvs[i], List.getElem?_eq_getElem hi⟩
    obtain ⟨en, h1, h2⟩ := key_at hk i k (by rw [List.getElem?_map, hkv]; rfl)
    refine next_key_item st (I.kIn _ _ hl) rfl sz (by rw [← Array.getElem?_toList]; exact h1) fun h' st' sb => ?_
    have I1 : Inv X pins σ H { s with heap := h' } := I.turned (t' := s.toks) (fun b ob hb e => (sb.2 b hb).trans e) f0 f1 f3 f4 f5
    obtain ⟨oi, e, c, dd⟩ := id st'
    exact ⟨en.key, rfl, go_of (s := { s with heap := h' }) e c dd (by decide) ⟨.str k, H, I1, h2, ⟨rfl, k, v, hkv, rfl⟩, st', fun b hb => (hf b hb).1⟩⟩
  · intro X hP hw hK hc i pins s σ H E I hf st hg
    subst hP hw hK
    obtain ⟨f0, f1, f2, f3, f4, f5⟩ := hf it (by simp)
    exact next_key_end (I.ok.hd hc) st (I.kIn _ _ hl) rfl sz hg fun h' eb => ⟨rfl, I.turned (t' := s.toks) (fun b ob hb e => eb b ob hb e) f0 f1 f3 f4 f5⟩
  · intro A i s Q E st h
    exact wpAny_pyIter_keyiter st h
theorem ikeysK (K : Fg) (w : World) {tg e : Expr} {te : TE} (he : PE X e te) (h : X.K = K := by rfl) (h2 : X.w = w := by rfl) : PI X tg e (iKeysK K w te) := by
  subst h h2
  refine ⟨fun pins s σ H R I q => thn (he.run pins s σ H _ I q) fun u s1 z => ?_⟩
  obtain ⟨v, H1, I1, rv, z⟩ := z
  cases v with
  | ref a =>
    obtain ⟨kvs, d, q⟩ := z
    obtain rfl : u = Value.ref a := rv
    obtain ⟨es, ep, h1, h2, h3⟩ := d.obj
    have sz : es.size = kvs.length := by
      have := keys_len h3
      rw [List.length_map, Array.length_toList] at this
      exact this
    refine iter_keys h2 (I1.kIn _ _ h1) ⟨rfl, rfl, rfl⟩ rfl (pi_one (tk := s1.toks) I1 _ (turn_kk h1 h3) ⟨_, Heap.get?_push_size _ rfl, rfl, ?_⟩ (q _ walk_kk))
    rw [sz]
    rfl
  | _ => exact z.elim
end
end Sk
/-! Sk: int(text); objects of own classes; repr of data with lists and dicts -/
namespace Sk
open PySem PySem.Spec PyProof.Rows L2
section
variable {X : Cx}
/-- int(x) -/
def rIntT : List V → Hp → VK → Prop := fun xs H Q => match xs with
  | [.int i] => Q (.int i) H
  | [.bl k] => Q (.int (if k then 1 else 0)) H
  | [.str a] => ∃ n, PySem.intText? a = some n ∧ a.length ≤ 640 ∧ Q (.int n) H
  | _ => False
theorem call_intT : CallR X (.type "int") rIntT := CallRw (CallR.or call_intU call_int_str) fun xs H Q q => by
  unfold rIntT at q
  split at q
  · exact .inl q
  · exact .inl q
  · obtain ⟨n, h⟩ := q
    exact .inr ⟨_, n, rfl, h⟩
  · exact q.elim
/-- x(e, ..), x a name of the def that holds a class -/
theorem pe_makeL {CX : CXT} {k i : Nat} {f C : Addr} {sp : Sp} {E : XK} {x : Str} {e : Expr} {es : List Expr} {t : TA} {p pos : Pos} (hN : X.N[i]? = some x) (hv : Vis X.env.scope x) (M : Mk X.K C f) (F : FnR X.prog X.w X.K X.mg X.base CX k f sp) (hr : Room (k + 1) X.A) (hx : Passes CX X E) (ha : PA X (e :: es) t)
    (hd : (x == ("__debug__" : Str)) = false := by decide) (hcd : (x == ("__classdict__" : Str)) = false := by decide) (he : starEach (e :: es) X.env = (false, eval e X.env) :: starEach es X.env := by rfl) (hpl : (backTo pos (starEach es X.env)).any (·.1) = false := by rfl) :
    PE X (.Call (.Name x p) (e :: es) [] pos) (fun σ H Q => uVar i σ H fun v H1 => v = .ref C ∧ StX.tMakeR C sp E t σ H1 Q) := by
  refine ⟨fun pins s σ H Q I h => ?_⟩
  refine wpAny_Call_Name_kw (thn ((vr i (pos := p) hN hv hd hcd).run pins s σ H _ I h) fun u s1 z => ?_)
  obtain ⟨v, H1, I1, rv, ev, q⟩ := z
  subst ev
  obtain rfl : u = Value.ref C := rv
  refine PySem.W.callWith_K (h₀ := X.base) I1.ok.mod.kin M.kp (thn (ha.run pos pins s1 σ H1 _ I1 q) fun us s2 z => ?_) he hpl
  obtain ⟨vs, H2, I2, r, q2⟩ := z
  exact ⟨I2.kIn, StX.run_makeR M F hr hx I2 r q2⟩
end
theorem fnR_of {P : Program} {w : World} {K : Fg} {mg : Str → Option Value} {base : Heap} {CX : CXT} {k : Nat} {f : Addr} {fd : FuncData} {ps : List Str} {sp : Sp} (F : FnOk P w K mg base CX k f fd ps sp) (hb : Binds K fd ps []) : FnR P w K mg base CX k f sp :=
  (F.raw hb .nil).imp fun vs H Q E h => by rw [List.append_nil]; exact h
/-! ### what the head tells of a class -/
def creadB (K : Fg) (C : Str) : Bool := PySem.W.readsIn K (He.ga K C) (.type "type") && decide (PySem.W.specialIn K (.ref (He.ga K C)) "__getattribute__" = some (some (.builtin "type.__getattribute__")))
theorem creadB_ok {K : Fg} {C : Str} (h : creadB K C = true) : ClX.CRead K (He.ga K C) (.type "type") := by
  obtain ⟨a, b⟩ := Bool.and_eq_true_iff.mp h
  exact ⟨a, of_decide_eq_true b⟩
abbrev cmA (K : Fg) (C m : Str) : Addr := He5.wf K (He.ga K C) "classmethod" m
def cmetB (K : Fg) (C m : Str) : Bool := He5.wrapB K (He.ga K C) "classmethod" "classmethod.__get__" m && PySem.W.fnIn K (cmA K C m)
theorem cmetB_ok {K : Fg} {C m : Str} (h : cmetB K C m = true) : ClX.CMet K (He.ga K C) (.type "type") m (He.ma K (He.ga K C) m) (cmA K C m) := by
  obtain ⟨a, b⟩ := Bool.and_eq_true_iff.mp h
  exact He5.cmet_of a b
def callB (K : Fg) (C : Str) : Bool := decide (PySem.W.findIn K (.ref (He.ga K C)) "__call__" = some (some (.ref (He.ma K (He.ga K C) "__call__")))) && (PySem.W.isFn K (.ref (He.ma K (He.ga K C) "__call__")) && PySem.W.fnIn K (He.ma K (He.ga K C) "__call__"))
theorem callB_ok {K : Fg} {C : Str} (h : callB K C = true) : StX.CallO K (He.ga K C) (He.ma K (He.ga K C) "__call__") := by
  obtain ⟨a, b⟩ := Bool.and_eq_true_iff.mp h
  obtain ⟨b, c⟩ := Bool.and_eq_true_iff.mp b
  exact ⟨of_decide_eq_true a, b, c⟩
/-! ### data with lists, tuples and dicts -/
mutual
inductive DL (H : Hp) : V → PyData → Prop
  | non : DL H .non .none
  | bl (b : Bool) : DL H (.bl b) (.bool b)
  | int (i : Int) : DL H (.int i) (.int i)
  | str (x : Str) : DL H (.str x) (.str x)
  | lst {a : Addr} {xs : List V} {ds : List PyData} : H a = some (.lst xs) → DLs H xs ds → DL H (.ref a) (.list ds)
  | tup {a : Addr} {xs : List V} {ds : List PyData} : H a = some (.tup xs) → DLs H xs ds → DL H (.ref a) (.tuple ds)
  | dic {a : Addr} {kvs : List (Key × V)} {ds : List (PyData × PyData)} : H a = some (.dK kvs) → DLs H (kvs.map fun p => kV p.1) (ds.map (·.1)) → DLs H (kvs.map (·.2)) (ds.map (·.2)) → DL H (.ref a) (.dict ds)
inductive DLs (H : Hp) : List V → List PyData → Prop
  | nil : DLs H [] []
  | cons {v : V} {vs : List V} {d : PyData} {ds : List PyData} : DL H v d → DLs H vs ds → DLs H (v :: vs) (d :: ds)
end
mutual
theorem DL.same {H H' : Hp} (s : Same H H') : ∀ {v : V} {d : PyData}, DL H v d → DL H' v d
  | _, _, .non => .non
  | _, _, .bl b => .bl b
  | _, _, .int i => .int i
  | _, _, .str x => .str x
  | _, _, .lst h a => .lst (s _ _ h) (DLs.same s a)
  | _, _, .tup h a => .tup (s _ _ h) (DLs.same s a)
  | _, _, .dic h a b => .dic (s _ _ h) (DLs.same s a) (DLs.same s b)
theorem DLs.same {H H' : Hp} (s : Same H H') : ∀ {vs : List V} {ds : List PyData}, DLs H vs ds → DLs H' vs ds
  | _, _, .nil => .nil
  | _, _, .cons a b => .cons (DL.same s a) (DLs.same s b)
end
theorem DLs.len {H : Hp} : ∀ {vs : List V} {ds : List PyData}, DLs H vs ds → vs.length = ds.length
  | _, _, .nil => rfl
  | _, _, .cons _ b => congrArg (· + 1) b.len
theorem DLs.app {H : Hp} : ∀ {vs : List V} {ds : List PyData} {us : List V} {es : List PyData}, DLs H vs ds → DLs H us es → DLs H (vs ++ us) (ds ++ es)
  | _, _, _, _, .nil, r => r
  | _, _, _, _, .cons a b, r => .cons a (b.app r)
theorem DLs.at {H : Hp} : ∀ {vs : List V} {ds : List PyData}, DLs H vs ds → ∀ (i : Nat) v, vs[i]? = some v → ∃ d, ds[i]? = some d ∧ DL H v d
  | _, _, .nil, i, v, h => by simp at h
  | _, _, .cons h _, 0, v, e => by
    cases e
    exact ⟨_, rfl, h⟩
  | _, _, .cons _ h, i + 1, v, e => by
    obtain ⟨n, e1, e2⟩ := h.at i v (by simpa using e)
    exact ⟨n, by simpa using e1, e2⟩
section
variable {X : Cx} {pins : List (Addr × Obj)} {σ : L2.St} {H : Hp} {s : Shared}
theorem sys_no {a : Addr} {o : Obj} (I : Inv X pins σ H s) (y : SysD X.K) (h : s.heap.get? a = some o) (c : o.cls = .type "list") : a ≠ sysModules := fun z => by
  obtain ⟨es, n, sl, e⟩ := He.dictB_ok y
  have e2 := I.kIn _ _ e
  rw [z, e2] at h
  cases h
  have c2 : (Value.type "dict") = .type "list" := c
  injection c2 with c3
  exact absurd c3 (by decide)
mutual
theorem DL.reads (I : Inv X pins σ H s) (y : SysD X.K) : ∀ {v : V} {d : PyData}, DL H v d → ∀ u, RelV v u → ∃ as, Reads s.heap u d as ∧ sysModules ∉ as
  | _, _, .non, u, r => by
    cases r
    exact ⟨[], .none, by simp⟩
  | _, _, .bl b, u, r => by
    cases r
    exact ⟨[], .bool b, by simp⟩
  | _, _, .int i, u, r => by
    obtain ⟨t, rfl⟩ := r
    exact ⟨[], .int i t, by simp⟩
  | _, _, .str x, u, r => by
    obtain ⟨t, rfl⟩ := r
    exact ⟨[], .str x t, by simp⟩
  | _, _, .lst hs ha, u, r => by
    cases r
    obtain ⟨its, rv, ⟨o, n, ho, hc, _, hd⟩, _⟩ := I.list (sqL_of hs)
    obtain ⟨as, hr, hn⟩ := DL.readsAll I y ha its rv
    refine ⟨_ :: as, .list ho hc hd hr, fun z => ?_⟩
    rcases List.mem_cons.mp z with z | z
    · exact sys_no I y ho hc z.symm
    · exact hn z
  | _, _, .tup hs ha, u, r => by
    cases r
    obtain ⟨its, rv, ⟨o, ho, hc, n, hd⟩, _⟩ := I.tuple (sqT_of hs)
    obtain ⟨as, hr, hn⟩ := DL.readsAll I y ha its rv
    exact ⟨as, .tuple ho hc hd hr, hn⟩
  | _, _, .dic (a := a) hs hk hv, u, r => by
    cases r
    obtain ⟨_, ne, vs, kv, o, es, ep, ho, hx, hd, _, hp, _⟩ := dk_of I.hok hs
    obtain ⟨r1, r2⟩ := pairs_vals hp kv
    obtain ⟨as, q1, n1⟩ := DL.readsAll I y hk _ r1
    obtain ⟨bs, q2, n2⟩ := DL.readsAll I y hv _ r2
    refine ⟨a :: as ++ bs, .dict ho hx.1 hd q1 q2, fun z => ?_⟩
    have ne := beq_eq_false_iff_ne.mp ne
    rcases List.mem_append.mp z with z | z
    · rcases List.mem_cons.mp z with z | z
      · exact ne z.symm
      · exact n1 z
    · exact n2 z
theorem DL.readsAll (I : Inv X pins σ H s) (y : SysD X.K) : ∀ {vs : List V} {ds : List PyData}, DLs H vs ds → ∀ us, Vals vs us → ∃ as, ReadsAll s.heap us ds as ∧ sysModules ∉ as
  | _, _, .nil, us, r => by
    cases r
    exact ⟨[], .nil, by simp⟩
  | _, _, .cons h1 h2, us, r => by
    cases r with
    | cons r1 r2 =>
      obtain ⟨as, q1, n1⟩ := DL.reads I y h1 _ r1
      obtain ⟨bs, q2, n2⟩ := DL.readsAll I y h2 _ r2
      refine ⟨as ++ bs, .cons q1 q2, fun z => ?_⟩
      rcases List.mem_append.mp z with z | z
      · exact n1 z
      · exact n2 z
end
end
section
variable {X : Cx}
/-- repr(x) of data -/
def rReprL : List V → Hp → VK → Prop := fun xs H Q => match xs with
  | [.ref a] => ∃ d, DL H (.ref a) d ∧ d.showable = true ∧ d.shown.length ≤ sizeLine ∧ d.depth ≤ 60 ∧ Q (.str d.shown) H
  | [.int i] => i.natAbs.log2 < 1920 ∧ Q (.str (toString i)) H
  | _ => False
theorem kreprL (y : SysD X.K) (gd : X.A.guards = some []) (hu : X.A.units + 64 < cLine) : CallR X (.builtin "repr") rReprL := by
  intro pins s σ H xs us Q I r q
  unfold rReprL at q
  split at q
  · rename_i a
    obtain ⟨d, hd, h1, h2, h3, q⟩ := q
    cases r with
    | @cons _ u _ us ru rs =>
    cases rs
    have e : u = Value.ref a := ru
    subst e
    obtain ⟨as, r1, n1⟩ := DL.reads I y hd _ (show RelV (.ref a) (.ref a) from rfl)
    refine repr_of_reads' r1 h1 (fun _ => n1) gd (by omega) (fun _ _ e => e) (fun h' u tk k => ?_) h2
    exact ⟨.str d.shown, H, I.kept (t' := tk) k, ⟨u, rfl⟩, q⟩
  · exact SkE.call_repr_int pins s σ H _ us Q I r ⟨_, rfl, q⟩
  · exact q.elim
end
end Sk
/-! Sk: expressions: how they are read, what they are in a heap, their values -/
namespace Sk
open PySem PySem.Spec PyProof.Rows L2
def mkS (l : List Nat) : Str := ⟨l.toArray⟩
theorem mk_list (l : List Nat) : (mkS l).cps.toList = l := rfl
theorem mk_sl (z : Str) : mkS z.cps.toList = z := str_ext rfl
theorem mk_len (l : List Nat) : (mkS l).length = l.length := by rw [len_list]; rfl
theorem mk_eq {z : Str} {l : List Nat} (h : z.cps.toList = l) : z = mkS l := str_ext h
theorem cut_nat (z : Str) (i j : Nat) : cutS z (some (i : Int)) (some (j : Int)) = mkS ((z.cps.toList.drop i).take (j - i)) := by
  refine str_ext ?_
  have l := len_list z
  unfold cutS
  rw [HT.sIx_nat, HT.sIx_nat, mk_list]
  show (z.cps.toList.drop (min i z.length)).take (min j z.length - min i z.length) = _
  rcases Nat.le_total i z.length with h | h
  · rw [Nat.min_eq_left h]
    rcases Nat.le_total j z.length with h2 | h2
    · rw [Nat.min_eq_left h2]
    · rw [Nat.min_eq_right h2, List.take_of_length_le (by rw [List.length_drop]; omega), List.take_of_length_le (by rw [List.length_drop]; omega)]
  · rw [Nat.min_eq_right h, List.drop_eq_nil_of_le (by omega), List.drop_eq_nil_of_le (by omega)]
    simp
theorem cut_from (z : Str) (i : Nat) : cutS z (some (i : Int)) none = mkS (z.cps.toList.drop i) := by
  refine str_ext ?_
  have l := len_list z
  unfold cutS
  rw [HT.sIx_nat, HT.sIx_none, mk_list]
  show (z.cps.toList.drop (min i z.length)).take (z.length - min i z.length) = _
  rcases Nat.le_total i z.length with h | h
  · rw [Nat.min_eq_left h, List.take_of_length_le (by rw [List.length_drop]; omega)]
  · rw [Nat.min_eq_right h, List.drop_eq_nil_of_le (by omega), List.drop_eq_nil_of_le (by omega)]
    simp
/-! ### reading -/
def dgt (c : Nat) : Bool := Nat.ble 48 c && Nat.ble c 57
inductive Ex where
  | text (z : List Nat)
  | num (i : Int)
  | flag (b : Bool)
  | get (ns : List (List Nat))
  | call (w : Str) (xs : List Ex)
def nameAt (cs : List Nat) : List Nat := cs.takeWhile low
def nmOk (l : List Nat) : Bool := Nat.ble 1 l.length && Nat.ble l.length 12
def quo (c : Nat) : Bool := !(c == 34 || c == 123 || c == 125 || c == 10)
/-- behind the opening quote -/
def rQuoted (cs : List Nat) : Option (Ex × List Nat) := match cs.drop (cs.takeWhile quo).length with
  | [] => none
  | c :: r => if c == 34 && Nat.ble (cs.takeWhile quo).length 60 then some (.text (cs.takeWhile quo), r) else none
def numOf (neg : Bool) (d : List Nat) : Int := if neg then -((NumText.digitsVal d : Nat) : Int) else ((NumText.digitsVal d : Nat) : Int)
/-- neg: a minus ahead -/
def rDig (neg : Bool) (cs : List Nat) : Option (Ex × List Nat) :=
  if (cs.takeWhile dgt).length == 0 || (Nat.blt 15 (cs.takeWhile dgt).length || (cs.head? == some 48 && (Nat.blt 1 (cs.takeWhile dgt).length || neg))) then none
  else some (.num (numOf neg (cs.takeWhile dgt)), cs.drop (cs.takeWhile dgt).length)
def rFields : Nat → List Nat → Option (List (List Nat) × List Nat)
  | 0, cs => some ([], cs)
  | _ + 1, [] => some ([], [])
  | n + 1, c :: t => if c == 46 then (if nmOk (nameAt t) then (rFields n (t.drop (nameAt t).length)).map fun p => (nameAt t :: p.1, p.2) else none) else some ([], c :: t)
def notVar : List (List Nat) := [(Str.ofString "true").cps.toList, (Str.ofString "false").cps.toList, (Str.ofString "self").cps.toList]
def rVar (cs : List Nat) : Option (Ex × List Nat) :=
  if nmOk (nameAt cs) && !notVar.contains (nameAt cs) then (rFields (cs.drop (nameAt cs).length).length (cs.drop (nameAt cs).length)).map fun p => (.get (nameAt cs :: p.1), p.2) else none
def leastE : List (Str × Nat) := [("equal", 2), ("less", 2), ("not", 1), ("both", 2), ("either", 2), ("sum", 1), ("joined", 1), ("size", 1), ("has", 1), ("or_else", 2)]
def wordAt (cs : List Nat) : List (Str × Nat) → Option ((Str × Nat) × List Nat)
  | [] => none
  | w :: r => if (w.1.cps.toList ++ [40]).isPrefixOf cs then some (w, cs.drop (w.1.length + 1)) else wordAt cs r
def rArgs (f : List Nat → Option (Ex × List Nat)) : Nat → List Nat → Option (List Ex × List Nat)
  | 0, _ => none
  | n + 1, cs => match f cs with
    | none => none
    | some (e, r) => if r.take 1 == [41] then some ([e], r.drop 1) else if r.take 2 == [44, 32] then (rArgs f n (r.drop 2)).map fun p => (e :: p.1, p.2) else none
def isOpen (w : Str) : Bool := w.cps.toList == (Str.ofString "sum").cps.toList || w.cps.toList == (Str.ofString "joined").cps.toList
def arOk (w : Str × Nat) (n : Nat) : Bool := !(Nat.blt n w.2 || (Nat.blt w.2 n && !isOpen w.1))
def rCall (f : List Nat → Option (Ex × List Nat)) (w : Str × Nat) (cs : List Nat) : Option (Ex × List Nat) := match rArgs f (cs.length + 1) cs with
  | none => none
  | some (xs, u) => if arOk w xs.length then some (.call w.1 xs, u) else none
/-- n levels are left -/
def rTree : Nat → List Nat → Option (Ex × List Nat)
  | 0, _ => none
  | _ + 1, [] => none
  | n + 1, c :: r => if c == 34 then rQuoted r else if c == 45 then rDig true r else if dgt c then rDig false (c :: r) else match wordAt (c :: r) leastE with
    | some (w, t) => rCall (rTree n) w t
    | none => if nameAt (c :: r) == (Str.ofString "true").cps.toList then some (.flag true, (c :: r).drop 4) else if nameAt (c :: r) == (Str.ofString "false").cps.toList then some (.flag false, (c :: r).drop 5) else rVar (c :: r)
def parseE (cs : List Nat) : Option Ex := match rTree 8 cs with
  | some (e, []) => some e
  | _ => none
/-! ### what is left is an end of the text -/
def Tail (r cs : List Nat) : Prop := ∃ p, cs = p ++ r
theorem Tail.refl (cs : List Nat) : Tail cs cs := ⟨[], rfl⟩
theorem Tail.trans {a b c : List Nat} (h : Tail a b) (k : Tail b c) : Tail a c := by
  obtain ⟨p, rfl⟩ := h
  obtain ⟨q, rfl⟩ := k
  exact ⟨q ++ p, by simp⟩
theorem tail_drop (n : Nat) (cs : List Nat) : Tail (cs.drop n) cs := ⟨cs.take n, (List.take_append_drop n cs).symm⟩
theorem Tail.len {a b : List Nat} (h : Tail a b) : a.length ≤ b.length := by
  obtain ⟨p, rfl⟩ := h
  rw [List.length_append]
  omega
theorem tail_cons {a : List Nat} {c : Nat} {b : List Nat} (h : Tail a b) : Tail a (c :: b) := h.trans ⟨[c], rfl⟩
theorem quoted_tail {cs r : List Nat} {e : Ex} (h : rQuoted cs = some (e, r)) : Tail r cs := by
  unfold rQuoted at h
  split at h
  · cases h
  · rename_i c t q
    split at h
    · cases h
      exact (tail_cons (Tail.refl _)).trans (q ▸ tail_drop _ cs)
    · cases h
theorem dig_tail {cs r : List Nat} {e : Ex} {neg : Bool} (h : rDig neg cs = some (e, r)) : Tail r cs := by
  unfold rDig at h
  split at h
  · cases h
  · cases h
    exact tail_drop _ cs
theorem fields_tail : ∀ (n : Nat) {cs r : List Nat} {l : List (List Nat)}, rFields n cs = some (l, r) → Tail r cs
  | 0, cs, r, l, h => by
    cases h
    exact Tail.refl _
  | n + 1, [], r, l, h => by
    cases h
    exact Tail.refl _
  | n + 1, c :: t, r, l, h => by
    unfold rFields at h
    split at h
    · split at h
      · obtain ⟨p, h1, h2⟩ := Option.map_eq_some_iff.mp h
        obtain ⟨p1, p2⟩ := p
        cases h2
        exact tail_cons ((fields_tail n h1).trans (tail_drop _ _))
      · cases h
    · cases h
      exact Tail.refl _
theorem var_tail {cs r : List Nat} {e : Ex} (h : rVar cs = some (e, r)) : Tail r cs := by
  unfold rVar at h
  split at h
  · obtain ⟨⟨p1, p2⟩, h1, h2⟩ := Option.map_eq_some_iff.mp h
    cases h2
    exact (fields_tail _ h1).trans (tail_drop _ _)
  · cases h
theorem word_tail {cs : List Nat} {w : Str × Nat} {t : List Nat} : ∀ {ws : List (Str × Nat)}, wordAt cs ws = some (w, t) → Tail t cs
  | [], h => by cases h
  | x :: r, h => by
    unfold wordAt at h
    split at h
    · cases h
      exact tail_drop _ _
    · exact word_tail h
theorem args_tail {f : List Nat → Option (Ex × List Nat)} (hf : ∀ cs e r, f cs = some (e, r) → Tail r cs) : ∀ (n : Nat) {cs r : List Nat} {l : List Ex}, rArgs f n cs = some (l, r) → Tail r cs
  | 0, cs, r, l, h => by cases h
  | n + 1, cs, r, l, h => by
    unfold rArgs at h
    split at h
    · cases h
    · rename_i e t q
      have ht := hf _ _ _ q
      split at h
      · cases h
        exact (tail_drop _ _).trans ht
      · split at h
        · obtain ⟨⟨p1, p2⟩, h1, h2⟩ := Option.map_eq_some_iff.mp h
          cases h2
          exact ((args_tail hf n h1).trans (tail_drop _ _)).trans ht
        · cases h
theorem call_tail {f : List Nat → Option (Ex × List Nat)} (hf : ∀ cs e r, f cs = some (e, r) → Tail r cs) {w : Str × Nat} {cs r : List Nat} {e : Ex} (h : rCall f w cs = some (e, r)) : Tail r cs := by
  unfold rCall at h
  split at h
  · cases h
  · rename_i xs u q
    split at h
    · cases h
      exact args_tail hf _ q
    · cases h
theorem tree_tail : ∀ (n : Nat) (cs : List Nat) (e : Ex) (r : List Nat), rTree n cs = some (e, r) → Tail r cs
  | 0, _, _, _, h => by cases h
  | n + 1, [], _, _, h => by cases h
  | n + 1, c :: t, e, r, h => by
    unfold rTree at h
    split at h
    · exact tail_cons (quoted_tail h)
    split at h
    · exact tail_cons (dig_tail h)
    split at h
    · exact dig_tail h
    split at h
    · rename_i w t' q
      exact (call_tail (tree_tail n) h).trans (word_tail q)
    split at h
    · cases h
      exact tail_drop _ _
    split at h
    · cases h
      exact tail_drop _ _
    exact var_tail h
/-! ### as they stand in a heap -/
mutual
inductive ExV (H : Hp) : V → Ex → Prop
  | text {a : Addr} {z : List Nat} : H a = some (.tup [.str "text", .str (mkS z)]) → ExV H (.ref a) (.text z)
  | num {a : Addr} {i : Int} : H a = some (.tup [.str "number", .int i]) → ExV H (.ref a) (.num i)
  | flag {a : Addr} {b : Bool} : H a = some (.tup [.str "flag", .bl b]) → ExV H (.ref a) (.flag b)
  | get {a q : Addr} {ns : List (List Nat)} : H a = some (.tup [.str "get", .ref q]) → H q = some (.tup (ns.map fun n => .str (mkS n))) → ns ≠ [] → ExV H (.ref a) (.get ns)
  | call {a q : Addr} {w : Str} {vs : List V} {xs : List Ex} : H a = some (.tup [.str "call", .str w, .ref q]) → H q = some (.tup vs) → ExVs H vs xs → ExV H (.ref a) (.call w xs)
inductive ExVs (H : Hp) : List V → List Ex → Prop
  | nil : ExVs H [] []
  | cons {v : V} {vs : List V} {x : Ex} {xs : List Ex} : ExV H v x → ExVs H vs xs → ExVs H (v :: vs) (x :: xs)
end
def TupS (H H' : Hp) : Prop := ∀ b xs, H b = some (.tup xs) → H' b = some (.tup xs)
theorem tupS_of {H H' : Hp} (s : Same H H') : TupS H H' := fun b xs h => s b _ h
mutual
theorem ExV.on {H H' : Hp} (s : TupS H H') : ∀ {v : V} {e : Ex}, ExV H v e → ExV H' v e
  | _, _, .text h => .text (s _ _ h)
  | _, _, .num h => .num (s _ _ h)
  | _, _, .flag h => .flag (s _ _ h)
  | _, _, .get h1 h2 h3 => .get (s _ _ h1) (s _ _ h2) h3
  | _, _, .call h1 h2 h3 => .call (s _ _ h1) (s _ _ h2) (ExVs.on s h3)
theorem ExVs.on {H H' : Hp} (s : TupS H H') : ∀ {vs : List V} {es : List Ex}, ExVs H vs es → ExVs H' vs es
  | _, _, .nil => .nil
  | _, _, .cons h1 h2 => .cons (ExV.on s h1) (ExVs.on s h2)
end
theorem ExVs.length {H : Hp} : ∀ {vs : List V} {es : List Ex}, ExVs H vs es → vs.length = es.length
  | _, _, .nil => rfl
  | _, _, .cons _ h => congrArg (· + 1) h.length
theorem ExVs.app {H : Hp} : ∀ {vs : List V} {es : List Ex} {v : V} {e : Ex}, ExVs H vs es → ExV H v e → ExVs H (vs ++ [v]) (es ++ [e])
  | _, _, _, _, .nil, h => .cons h .nil
  | _, _, _, _, .cons a b, h => .cons a (b.app h)
theorem ExVs.at {H : Hp} : ∀ {vs : List V} {es : List Ex}, ExVs H vs es → ∀ (i : Nat) v, vs[i]? = some v → ∃ e, es[i]? = some e ∧ ExV H v e
  | _, _, .nil, i, v, h => by simp at h
  | _, _, .cons h _, 0, v, e => by
    cases e
    exact ⟨_, rfl, h⟩
  | _, _, .cons _ h, i + 1, v, e => by
    obtain ⟨n, e1, e2⟩ := h.at i v (by simpa using e)
    exact ⟨n, by simpa using e1, e2⟩
end Sk
/-! Sk: while by an invariant; places in a text -/
namespace Sk
open PySem PySem.Spec PyProof.Rows L2
theorem while_up {t : TT} {tb : TS} {D : Ends} {σ : L2.St} {H : Hp} (Pv : L2.St → Hp → Prop) (μ : L2.St → Hp → Nat) (h0 : Pv σ H)
    (hs : ∀ σ H, Pv σ H → t σ H fun b H1 => br b (tb { D with nx := fun σ' H' => Pv σ' H' ∧ μ σ' H' < μ σ H, ct := fun σ' H' => Pv σ' H' ∧ μ σ' H' < μ σ H, bk := D.nx } σ H1) (D.nx σ H1)) : tWhile (upT t) tb D σ H := by
  refine while_by Pv μ h0 (fun σ H p => ⟨_, fun b H1 z => br_if z, hs σ H p⟩) fun σ H Q Q' m z => ?_
  obtain ⟨Q2, a, b⟩ := z
  exact ⟨Q2, fun b H1 q => m _ _ (a _ _ q), b⟩
theorem fn_no {P : Program} {w : World} {K : Fg} {mg : Str → Option Value} {base : Heap} {CX : CXT} {k : Nat} {f : Addr} {fd : FuncData} {ps : List Str} : FnOk P w K mg base CX k f fd ps (fun _ _ _ _ => False) := ⟨fun _ _ _ _ h => h.elim, fun _ _ _ _ _ _ _ _ _ _ _ _ _ h => h.elim⟩
/-! ### the first signs that p takes -/
theorem tw_go {p : Nat → Bool} : ∀ {cs : List Nat} {j c : Nat}, j ≤ (cs.takeWhile p).length → cs[j]? = some c → p c = true → j + 1 ≤ (cs.takeWhile p).length
  | [], _, _, _, h, _ => by simp at h
  | x :: r, 0, c, _, h, hp => by
    have : x = c := by simpa using h
    rw [List.takeWhile_cons, this, hp]
    simp
  | x :: r, j + 1, c, l, h, hp => by
    rw [List.takeWhile_cons] at l ⊢
    split at l
    · rename_i q
      rw [if_pos q]
      have := tw_go (cs := r) (j := j) (by simpa using l) (by simpa using h) hp
      simpa using this
    · simp at l
theorem tw_stop {p : Nat → Bool} : ∀ {cs : List Nat} {j : Nat}, j ≤ (cs.takeWhile p).length → (∀ c, cs[j]? = some c → p c = false) → j = (cs.takeWhile p).length
  | [], j, h, _ => by simpa using h
  | x :: r, 0, _, h => by
    have := h x rfl
    rw [List.takeWhile_cons, this]
    rfl
  | x :: r, j + 1, l, h => by
    rw [List.takeWhile_cons] at l ⊢
    split at l
    · rename_i q
      rw [if_pos q]
      have := tw_stop (cs := r) (j := j) (by simpa using l) fun c hc => h c (by simpa using hc)
      simp [← this]
    · simp at l
theorem tw_take {p : Nat → Bool} (cs : List Nat) : cs.take (cs.takeWhile p).length = cs.takeWhile p := by
  induction cs with
  | nil => rfl
  | cons x r ih =>
    rw [List.takeWhile_cons]
    split
    · simp [ih]
    · rfl
theorem tw_len {p : Nat → Bool} (cs : List Nat) : (cs.takeWhile p).length ≤ cs.length := (List.takeWhile_sublist p).length_le
theorem tw_all {p : Nat → Bool} (cs : List Nat) : ∀ c ∈ cs.takeWhile p, p c = true := fun c hc => by
  induction cs with
  | nil => cases hc
  | cons x r ih =>
    rw [List.takeWhile_cons] at hc
    split at hc
    · rcases List.mem_cons.mp hc with e | e
      · rw [e]; assumption
      · exact ih e
    · cases hc
/-! ### z from its n-th sign on -/
structure TxtAt (z : Str) (n : Nat) (cs : List Nat) : Prop where
  len : z.length ≤ 100000
  at_ : z.cps.toList.drop n = cs
  le : n ≤ z.length
theorem TxtAt.size {z : Str} {n : Nat} {cs : List Nat} (t : TxtAt z n cs) : z.length ≤ sizeLine := size_le t.len
theorem TxtAt.cs {z : Str} {n : Nat} {cs : List Nat} (t : TxtAt z n cs) : cs.length = z.length - n := by rw [← t.at_, List.length_drop, len_list]
theorem TxtAt.on {z : Str} {n : Nat} {cs : List Nat} (t : TxtAt z n cs) {j : Nat} (h : j ≤ cs.length) : TxtAt z (n + j) (cs.drop j) := ⟨t.len, by rw [← t.at_, List.drop_drop], by have := t.cs; have := t.le; omega⟩
theorem TxtAt.tail {z : Str} {n : Nat} {cs r : List Nat} (t : TxtAt z n cs) (h : Tail r cs) : TxtAt z (z.length - r.length) r := by
  obtain ⟨p, rfl⟩ := h
  have a := t.cs
  have b := t.le
  rw [List.length_append] at a
  have e := t.on (j := p.length) (by rw [List.length_append]; omega)
  rw [List.drop_left] at e
  have e2 : n + p.length = z.length - r.length := by omega
  rw [e2] at e
  exact e
theorem TxtAt.back {z : Str} {n j : Nat} {cs : List Nat} (t : TxtAt z n cs) (h : j ≤ cs.length) : z.length - (cs.drop j).length = n + j := by
  have a := t.cs
  have b := t.le
  rw [List.length_drop]
  omega
theorem TxtAt.get {z : Str} {n : Nat} {cs : List Nat} (t : TxtAt z n cs) {j c : Nat} (h : cs[j]? = some c) : atI z.cps.toList ((n + j : Nat) : Int) = some c := by
  have hj := (List.getElem?_eq_some_iff.mp h).1
  have a := t.cs
  have l := len_list z
  unfold atI ixN
  rw [if_pos (by omega), if_pos (by rw [← l]; omega)]
  show z.cps.toList[n + j]? = some c
  rw [← t.at_, List.getElem?_drop] at h
  exact h
theorem TxtAt.cut {z : Str} {n : Nat} {cs : List Nat} (t : TxtAt z n cs) (j k : Nat) : cutS z (some ((n + j : Nat) : Int)) (some ((n + k : Nat) : Int)) = mkS ((cs.drop j).take (k - j)) := by
  rw [cut_nat, ← List.drop_drop, t.at_, show n + k - (n + j) = k - j by omega]
theorem mk_inj {a b : List Nat} (h : mkS a = mkS b) : a = b := by
  have := congrArg (fun z : Str => z.cps.toList) h
  exact this
theorem str_dec {z : Str} {l : List Nat} (hz : z = mkS l) (y : Str) : decide (V.str z = V.str y) = (l == y.cps.toList) := by
  subst hz
  by_cases e : l = y.cps.toList
  · subst e
    rw [mk_sl]
    simp
  · rw [decide_eq_false (fun h => e (by cases h; rfl))]
    symm
    simpa using e
theorem pre_take {w cs : List Nat} : w.isPrefixOf cs = (cs.take w.length == w) := by
  induction w generalizing cs with
  | nil => simp
  | cons x r ih =>
    cases cs with
    | nil => rfl
    | cons c t =>
      show (x == c && r.isPrefixOf t) = (List.take (r.length + 1) (c :: t) == x :: r)
      rw [List.take_succ_cons, ih]
      show _ = (c == x && (t.take r.length == r))
      rw [show (x == c) = (c == x) from Bool.eq_iff_iff.mpr ⟨fun h => by simpa using (by simpa using h : x = c).symm, fun h => by simpa using (by simpa using h : c = x).symm⟩]
theorem bls_true {ys : List V} (h : ∀ (i : Nat) (y : V), ys[i]? = some y → y = .bl true) : ∃ bs : List Bool, ys = bs.map V.bl ∧ bs.all id = true := by
  refine ⟨ys.map fun _ => true, ?_, by simp⟩
  refine List.ext_getElem? fun i => ?_
  rw [List.getElem?_map, List.getElem?_map]
  cases e : ys[i]? with
  | none => rfl
  | some y => rw [h i y e]; rfl
theorem low_mem {c : Nat} : decide (c ∈ (Str.ofString "abcdefghijklmnopqrstuvwxyz").cps.toList) = low c := by
  have a : ∀ c, c < 123 → decide (c ∈ (Str.ofString "abcdefghijklmnopqrstuvwxyz").cps.toList) = low c := by decide +kernel
  have b : ∀ x ∈ (Str.ofString "abcdefghijklmnopqrstuvwxyz").cps.toList, x < 123 := by decide +kernel
  by_cases h : c < 123
  · exact a c h
  · rw [decide_eq_false (fun m => h (b c m))]
    unfold low
    rw [show Nat.ble c 122 = false from by
      cases q : Nat.ble c 122 with
      | false => rfl
      | true => exact absurd (Nat.le_of_ble_eq_true q) (by omega)]
    simp
theorem dgt_mem {c : Nat} : decide (c ∈ (Str.ofString "0123456789").cps.toList) = dgt c := by
  have a : ∀ c, c < 58 → decide (c ∈ (Str.ofString "0123456789").cps.toList) = dgt c := by decide +kernel
  have b : ∀ x ∈ (Str.ofString "0123456789").cps.toList, x < 58 := by decide +kernel
  by_cases h : c < 58
  · exact a c h
  · rw [decide_eq_false (fun m => h (b c m))]
    unfold dgt
    rw [show Nat.ble c 57 = false from by
      cases q : Nat.ble c 57 with
      | false => rfl
      | true => exact absurd (Nat.le_of_ble_eq_true q) (by omega)]
    simp
theorem quo_mem {c : Nat} : (!decide (c ∈ (Str.ofString "\"{}\n").cps.toList)) = quo c := by
  have e : (Str.ofString "\"{}\n").cps.toList = [34, 123, 125, 10] := by decide +kernel
  rw [e]
  unfold quo
  simp [Bool.or_assoc]
  have h : ∀ n : Nat, decide (c = n) = (c == n) := fun n => by
    by_cases e : c = n
    · rw [decide_eq_true e]
      simp [e]
    · rw [decide_eq_false e]
      simp [e]
  rw [h, h, h, h]
/-! ### what a reader gives -/
def ResV (z : Str) (H : Hp) (v : V) : Option (Ex × List Nat) → Prop
  | none => v = .non
  | some (e, r) => ∃ p x, v = .ref p ∧ H p = some (.tup [x, .int ((z.length - r.length : Nat) : Int)]) ∧ ExV H x e
end Sk
/-! Sk: values of expressions -/
namespace Sk
open PySem PySem.Spec PyProof.Rows L2
/-- along the fields -/
def getV (H : Hp) : List (List Nat) → V → Option V
  | [], v => some v
  | n :: r, .ref a => match H a with
    | some (.dK kvs) => match valV kvs (.inr (mkS n)) with
      | some v => getV H r v
      | none => none
    | _ => none
  | _ :: _, _ => none
def isW (w x : Str) : Bool := decide (V.str w = V.str x)
def intsOf : List V → Option (List Int)
  | [] => some []
  | .int i :: r => (intsOf r).map (i :: ·)
  | _ => none
def textOf : V → Option Str
  | .str z => some z
  | .int i => if Nat.ble i.natAbs.log2 1919 then some (toString i) else none
  | _ => none
def textsOf : List V → Option (List Str)
  | [] => some []
  | v :: r => match textOf v, textsOf r with
    | some z, some zs => some (z :: zs)
    | _, _ => none
def eq0 : V → V → Option V
  | .bl a, .bl b => some (.bl (decide (a = b)))
  | .int a, .int b => some (.bl (decide (a = b)))
  | .str a, .str b => some (.bl (decide (a = b)))
  | _, _ => none
def apply2 (H : Hp) (w : Str) : List V → Option V
  | [.bl a, .bl b] => if isW w "equal" then some (.bl (decide (a = b))) else if isW w "less" then none else if isW w "both" then some (.bl (a && b)) else some (.bl (a || b))
  | [a, b] => if isW w "equal" then eq0 a b else if isW w "less" then (match a, b with | .int i, .int j => some (.bl (decide (i < j))) | _, _ => none) else none
  | _ => none
def applyV (H : Hp) (w : Str) (vs : List V) : Option V :=
  if isW w "sum" then (intsOf vs).map fun l => .int l.sum
  else if isW w "joined" then (match textsOf vs with | some zs => if Nat.ble ((zs.map (·.length)).sum + zs.length) 99999 then some (.str (Txt.join "" zs)) else none | none => none)
  else if isW w "size" then (match vs with | .ref a :: _ => (match H a with | some (.tup xs) => some (.int xs.length) | _ => none) | _ => none)
  else if isW w "has" then (match vs with | v :: _ => some (.bl (!decide (v = .non))) | _ => none)
  else if isW w "or_else" then (match vs with | [a, b] => some (if a = .non then b else a) | _ => none)
  else if isW w "not" then (match vs with | .bl b :: _ => some (.bl (!b)) | _ => none)
  else apply2 H w vs
mutual
def evV (H : Hp) (env : V) : Ex → Option V
  | .text z => some (.str (mkS z))
  | .num i => some (.int i)
  | .flag b => some (.bl b)
  | .get ns => getV H ns env
  | .call w xs => match evVs H env xs with
    | some vs => applyV H w vs
    | none => none
def evVs (H : Hp) (env : V) : List Ex → Option (List V)
  | [] => some []
  | e :: r => match evV H env e with
    | some v => match evVs H env r with
      | some vs => some (v :: vs)
      | none => none
    | none => none
end
mutual
def Ex.lev : Ex → Nat
  | .call _ xs => 1 + levE xs
  | _ => 0
def levE : List Ex → Nat
  | [] => 0
  | e :: r => max e.lev (levE r)
end
mutual
/-- the greatest number of parts -/
def Ex.wid : Ex → Nat
  | .call _ xs => max xs.length (widE xs)
  | _ => 0
def widE : List Ex → Nat
  | [] => 0
  | e :: r => max e.wid (widE r)
end
theorem widE_at : ∀ {es : List Ex} {i : Nat} {e : Ex}, es[i]? = some e → e.wid ≤ widE es
  | [], i, e, h => by simp at h
  | x :: r, 0, e, h => by
    cases h
    unfold widE
    omega
  | x :: r, i + 1, e, h => by
    have := widE_at (es := r) (i := i) (by simpa using h)
    unfold widE
    omega
theorem getV_same {H H' : Hp} (s : Same H H') : ∀ (ns : List (List Nat)) (x v : V), getV H ns x = some v → getV H' ns x = some v
  | [], _, _, h => h
  | n :: r, x, v, h => by
    cases x with
    | ref a =>
      unfold getV at h ⊢
      cases e : H a with
      | none => rw [e] at h; cases h
      | some o =>
        rw [e] at h
        rw [s _ _ e]
        cases o with
        | dK kvs =>
          cases e2 : valV kvs (.inr (mkS n)) with
          | none => simp only [e2] at h; cases h
          | some u =>
            simp only [e2] at h ⊢
            exact getV_same s r u v h
        | _ => cases h
    | _ => cases h
theorem applyV_same {H H' : Hp} (s : Same H H') {w : Str} {vs : List V} {v : V} (h : applyV H w vs = some v) : applyV H' w vs = some v := by
  unfold applyV at h ⊢
  split at h
  · rename_i e
    rw [if_pos e]
    exact h
  rename_i e
  rw [if_neg e]
  split at h
  · rename_i e
    rw [if_pos e]
    exact h
  rename_i e
  rw [if_neg e]
  split at h
  · rename_i e
    rw [if_pos e]
    cases vs with
    | nil => cases h
    | cons x r =>
      cases x with
      | ref a =>
        cases q : H a with
        | none => simp only [q] at h; cases h
        | some o =>
          simp only [q] at h
          simp only [s _ _ q]
          exact h
      | _ => cases h
  · rename_i e
    rw [if_neg e]
    exact h
mutual
theorem evV_same {H H' : Hp} (s : Same H H') {env : V} : ∀ (e : Ex) (v : V), evV H env e = some v → evV H' env e = some v
  | .text _, _, h => h
  | .num _, _, h => h
  | .flag _, _, h => h
  | .get ns, v, h => getV_same s ns env v h
  | .call w xs, v, h => by
    unfold evV at h ⊢
    cases q : evVs H env xs with
    | none => rw [q] at h; cases h
    | some vs =>
      rw [q] at h
      rw [evVs_same s xs vs q]
      exact applyV_same s h
theorem evVs_same {H H' : Hp} (s : Same H H') {env : V} : ∀ (es : List Ex) (vs : List V), evVs H env es = some vs → evVs H' env es = some vs
  | [], _, h => h
  | e :: r, vs, h => by
    unfold evVs at h ⊢
    cases q : evV H env e with
    | none => rw [q] at h; cases h
    | some u =>
      rw [q] at h
      simp only at h
      cases q2 : evVs H env r with
      | none => rw [q2] at h; cases h
      | some us =>
        rw [q2] at h
        rw [evV_same s e u q, evVs_same s r us q2]
        exact h
end
theorem evVs_len {H : Hp} {env : V} : ∀ {es : List Ex} {vs : List V}, evVs H env es = some vs → vs.length = es.length
  | [], _, h => by cases h; rfl
  | e :: r, vs, h => by
    unfold evVs at h
    split at h
    · split at h
      · rename_i us q
        cases h
        rw [List.length_cons, List.length_cons, evVs_len q]
      · cases h
    · cases h
theorem evVs_at {H : Hp} {env : V} : ∀ {es : List Ex} {vs : List V}, evVs H env es = some vs → ∀ (i : Nat) e, es[i]? = some e → ∃ v, vs[i]? = some v ∧ evV H env e = some v
  | [], _, h, i, e, k => by simp at k
  | x :: r, vs, h, i, e, k => by
    unfold evVs at h
    split at h
    · rename_i v qv
      split at h
      · rename_i us q
        cases h
        cases i with
        | zero =>
          cases k
          exact ⟨v, rfl, qv⟩
        | succ i =>
          obtain ⟨u, h1, h2⟩ := evVs_at q i e (by simpa using k)
          exact ⟨u, by simpa using h1, h2⟩
      · cases h
    · cases h
theorem levE_at : ∀ {es : List Ex} {i : Nat} {e : Ex}, es[i]? = some e → e.lev ≤ levE es
  | [], i, e, h => by simp at h
  | x :: r, 0, e, h => by
    cases h
    unfold levE
    omega
  | x :: r, i + 1, e, h => by
    have := levE_at (es := r) (i := i) (by simpa using h)
    unfold levE
    omega
theorem texts_map : ∀ {vs : List V} {zs : List Str}, textsOf vs = some zs → vs.length = zs.length ∧ ∀ (i : Nat) v, vs[i]? = some v → ∃ z, zs[i]? = some z ∧ textOf v = some z
  | [], _, h => by
    cases h
    exact ⟨rfl, fun i v k => by simp at k⟩
  | x :: r, zs, h => by
    unfold textsOf at h
    split at h
    · rename_i z us q1 q2
      cases h
      obtain ⟨l, f⟩ := texts_map q2
      refine ⟨by rw [List.length_cons, List.length_cons, l], fun i v k => ?_⟩
      cases i with
      | zero =>
        cases k
        exact ⟨z, rfl, q1⟩
      | succ i =>
        obtain ⟨y, h1, h2⟩ := f i v (by simpa using k)
        exact ⟨y, by simpa using h1, h2⟩
    · cases h
theorem ints_map : ∀ {vs : List V} {l : List Int}, intsOf vs = some l → vs = l.map V.int
  | [], _, h => by cases h; rfl
  | x :: r, l, h => by
    cases x with
    | int i =>
      unfold intsOf at h
      obtain ⟨m, h1, h2⟩ := Option.map_eq_some_iff.mp h
      subst h2
      rw [ints_map h1]
      rfl
    | _ => cases h
end Sk
/-! Sk: texts as lists of signs; bounds of texts put together -/
namespace Sk
open PySem PySem.Spec PyProof.Rows L2
abbrev sl (z : Str) : List Nat := z.cps.toList
theorem emp_l : Str.empty.cps.toList = [] := rfl
theorem sl_len (z : Str) : (sl z).length = z.length := (len_list z).symm
/-- at most n signs -/
def Ln (n : Nat) (z : Str) : Prop := z.length ≤ n
theorem Ln.app {m n : Nat} {x y : Str} (hx : Ln m x) (hy : Ln n y) : Ln (m + n) (x ++ y) := by
  unfold Ln at *
  rw [app_len]
  omega
theorem Ln.emp {y : Str} {n : Nat} (h : Ln n y) : Ln n (Str.empty ++ y) := by rw [emp_app]; exact h
theorem Ln.ok {m : Nat} {z : Str} (h : Ln m z) (hm : m ≤ 16777216 := by decide) : z.length ≤ sizeLine := Nat.le_trans h hm
instance lnDec (n : Nat) (z : Str) : Decidable (Ln n z) := Nat.decLe z.length n
theorem Ln.plus {m n : Nat} {x y : Str} (hx : Ln m x) (hy : Ln n y) (hm : m + n ≤ 16777216 := by decide) : x.length + y.length ≤ sizeLine := Nat.le_trans (Nat.add_le_add hx hy) hm
theorem Ln.of {n : Nat} {z : Str} {l : List Nat} (e : sl z = l) (h : l.length ≤ n) : Ln n z := by
  unfold Ln
  rw [len_list]
  show (sl z).length ≤ n
  rw [e]
  exact h
theorem Ln.mono {m n : Nat} {z : Str} (h : Ln m z) (hm : m ≤ n) : Ln n z := Nat.le_trans h hm
theorem strs_map {α : Type} {f : α → List Nat} : ∀ {xs : List α} {ys : List V}, ys.length = xs.length → (∀ (i : Nat) (y : V), ys[i]? = some y → ∃ x z, xs[i]? = some x ∧ y = .str z ∧ sl z = f x) → ∃ zs : List Str, ys = zs.map V.str ∧ zs.map sl = xs.map f
  | [], [], _, _ => ⟨[], rfl, rfl⟩
  | [], _ :: _, h, _ => by cases h
  | _ :: _, [], h, _ => by cases h
  | x :: xs, y :: ys, h, k => by
    obtain ⟨x', z, e1, e2, e3⟩ := k 0 y rfl
    have e1 : x = x' := by simpa using e1
    subst e1
    obtain ⟨zs, e4, e5⟩ := strs_map (f := f) (xs := xs) (ys := ys) (by simpa using h) fun i y hy => by
      obtain ⟨x, z, a, b⟩ := k (i + 1) y (by simpa using hy)
      exact ⟨x, z, by simpa using a, b⟩
    exact ⟨z :: zs, by rw [e2, e4]; rfl, by rw [List.map_cons, List.map_cons, e3, e5]⟩
theorem sum_flat (zs : List Str) : (zs.map (·.length)).sum = (zs.map sl).flatten.length := by
  rw [List.length_flatten, List.map_map]
  rw [List.map_congr_left (g := List.length ∘ sl) fun z _ => len_list z]
theorem join_flat {α : Type} {f : α → List Nat} {xs : List α} {zs : List Str} {y : Str} (hy : y.cps.toList = []) (h : zs.map sl = xs.map f) : sl (Txt.join y zs) = (xs.map f).flatten := by
  rw [← h]
  exact join_empty hy zs
theorem join_with {α : Type} {f : α → List Nat} {xs : List α} {zs : List Str} {y : Str} (h : zs.map sl = xs.map f) : sl (Txt.join y zs) = TL.joinL y.cps.toList (xs.map f) := by
  rw [← h]
  exact join_list y zs
theorem len_mem_sum {l : List (List Nat)} {m : Nat} (h : ∀ x ∈ l, x.length ≤ m) : l.flatten.length ≤ l.length * m := by
  rw [List.length_flatten]
  have := sum_le (l := l) (f := List.length) (m := m) h
  simpa using this
theorem joinL_len (s : List Nat) : ∀ l : List (List Nat), (TL.joinL s l).length ≤ l.flatten.length + l.length * s.length
  | [] => by simp [TL.joinL]
  | [p] => by
    show p.length ≤ _
    simp
  | p :: q :: r => by
    have ih := joinL_len s (q :: r)
    show (p ++ (s ++ TL.joinL s (q :: r))).length ≤ _
    rw [List.length_append, List.length_append, List.flatten_cons, List.length_append, List.length_cons, Nat.succ_mul]
    omega
end Sk
/-! Sk: xs == []; how much a repr of data takes -/
namespace Sk
open PySem PySem.Spec PyProof.Rows L2
/-- a list against the empty one, whatever its items are -/
def rEqE (K : PySem.W.Frag) : R2 := fun x y H Q => match x, y with
  | .ref a, .ref b => ∃ xs, SqL K H a xs ∧ SqL K H b [] ∧ Q (.bl xs.isEmpty) H
  | _, _ => False
section
variable {X : Cx}
theorem keqE (K : PySem.W.Frag) (hu : X.A.units + 64 < cLine) (h : X.K = K := by rfl) : OpR X (compareOp .Eq) (rEqE K) := by
  subst h
  intro pins s σ H x y v u Q I rx ry q
  unfold rEqE at q
  split at q
  · rename_i a b
    obtain ⟨xs, h1, h2, q⟩ := q
    have e1 : v = Value.ref a := rx
    have e2 : u = Value.ref b := ry
    subst e1 e2
    obtain ⟨i1, r1, p1, _⟩ := I.list h1
    obtain ⟨i2, r2, p2, _⟩ := I.list h2
    cases r2
    cases xs with
    | nil =>
      cases r1
      exact SeqAt.eq_listAt (e := fun _ => true) p1.isList p2.isList rfl (by omega) (fun j h1 => absurd h1 (Nat.not_lt_zero _)) ⟨.bl true, H, I, rfl, q⟩
    | cons x r =>
      cases r1
      exact SeqAt.eq_list_lengthsAt p1.isList p2.isList (by simp) (by omega) ⟨.bl false, H, I, rfl, q⟩
  · exact q.elim
end
mutual
theorem Dr.stay {H H' : Hp} (s : Stay H H') : ∀ {v : V} {d : PyData}, Dr H v d → Dr H' v d
  | _, _, .non => .non
  | _, _, .bl b => .bl b
  | _, _, .int i => .int i
  | _, _, .str x => .str x
  | _, _, .tup h a => .tup (s _ _ rfl h) (DrAll.stay s a)
  | _, _, .dic h a b => .dic (s _ _ rfl h) (DrAll.stay s a) (DrAll.stay s b)
theorem DrAll.stay {H H' : Hp} (s : Stay H H') : ∀ {vs : List V} {ds : List PyData}, DrAll H vs ds → DrAll H' vs ds
  | _, _, .nil => .nil
  | _, _, .cons a b => .cons (Dr.stay s a) (DrAll.stay s b)
end
/-- data whose repr is not too long -/
def Sm (H : Hp) (v : V) (w k : Nat) : Prop := ∃ d : PyData, Dr H v d ∧ d.showable = true ∧ d.shown.length ≤ w ∧ d.depth ≤ k
def SmL (H : Hp) (vs : List V) (w k : Nat) : Prop := ∃ ds : List PyData, DrAll H vs ds ∧ PyData.showableAll ds = true ∧ ((PyData.shownAll ds).map (·.length)).sum + 2 * (PyData.shownAll ds).length ≤ w ∧ PyData.depthAll ds ≤ k
theorem Sm.stay {H H' : Hp} {v : V} {w k : Nat} (s : Stay H H') (h : Sm H v w k) : Sm H' v w k := by
  obtain ⟨d, h1, h2⟩ := h
  exact ⟨d, Dr.stay s h1, h2⟩
theorem Sm.mono {H : Hp} {v : V} {w k w' k' : Nat} (h : Sm H v w k) (hw : w ≤ w') (hk : k ≤ k') : Sm H v w' k' := by
  obtain ⟨d, h1, h2, h4, h5⟩ := h
  exact ⟨d, h1, h2, Nat.le_trans h4 hw, Nat.le_trans h5 hk⟩
theorem SmL.nil {H : Hp} {k : Nat} : SmL H [] 0 k := ⟨[], .nil, rfl, Nat.le_refl _, Nat.zero_le _⟩
theorem SmL.cons {H : Hp} {v : V} {vs : List V} {w w' k : Nat} (h : Sm H v w k) (t : SmL H vs w' k) : SmL H (v :: vs) (w + 2 + w') k := by
  obtain ⟨d, h1, h2, h4, h5⟩ := h
  obtain ⟨ds, t1, t2, t4, t5⟩ := t
  refine ⟨d :: ds, .cons h1 t1, ?_, ?_, ?_⟩
  · show (d.showable && PyData.showableAll ds) = true
    rw [h2, t2]
    rfl
  · show ((d.shown :: PyData.shownAll ds).map (·.length)).sum + 2 * (d.shown :: PyData.shownAll ds).length ≤ _
    rw [List.map_cons, List.sum_cons, List.length_cons]
    omega
  · show max d.depth (PyData.depthAll ds) ≤ _
    omega
theorem SmL.of {H : Hp} {w k : Nat} : ∀ {vs : List V}, (∀ x ∈ vs, Sm H x w k) → SmL H vs (vs.length * (w + 2)) k
  | [], _ => by
    rw [List.length_nil, Nat.zero_mul]
    exact .nil
  | v :: vs, h => by
    have := SmL.cons (h v (List.mem_cons_self ..)) (SmL.of fun x hx => h x (List.mem_cons_of_mem _ hx))
    rw [List.length_cons, Nat.succ_mul, Nat.add_comm]
    exact this
theorem SmL.mono {H : Hp} {vs : List V} {w k w' k' : Nat} (h : SmL H vs w k) (hw : w ≤ w') (hk : k ≤ k') : SmL H vs w' k' := by
  obtain ⟨d, h1, h2, h4, h5⟩ := h
  exact ⟨d, h1, h2, Nat.le_trans h4 hw, Nat.le_trans h5 hk⟩
theorem Sm.tup {H : Hp} {a : Addr} {vs : List V} {w k : Nat} (h : H a = some (.tup vs)) (t : SmL H vs w k) : Sm H (.ref a) (w + 3) (k + 1) := by
  obtain ⟨ds, t1, t2, t4, t5⟩ := t
  refine ⟨.tuple ds, .tup h t1, t2, ?_, Nat.succ_le_succ t5⟩
  have := tupleText_len_le (PyData.shownAll ds)
  show (tupleText (PyData.shownAll ds)).length ≤ _
  omega
theorem okc_small {c : Nat} (h : okc c = true) : c < 16 ^ 8 := by
  unfold okc at h
  rw [Bool.or_eq_true] at h
  rcases h with h | h
  · have : c = 10 := by simpa using h
    omega
  · rw [Bool.and_eq_true, Bool.and_eq_true] at h
    have := Nat.le_of_ble_eq_true h.1.2
    omega
theorem Sm.str {H : Hp} {n k : Nat} {z : Str} (h : TextOk n z) : Sm H (.str z) (10 * n + 2) k := by
  refine ⟨.str z, .str z, rfl, ?_, Nat.zero_le _⟩
  have := StrLaws.reprText_len z fun c hc => okc_small (h.2 c hc)
  have := h.1
  show (reprText z).length ≤ _
  omega
theorem flat_sm {H : Hp} {v : V} (k : Nat) (h : FlatOk v) : Sm H v 242 k := by
  cases v with
  | non => exact ⟨.none, .non, rfl, by decide, Nat.zero_le _⟩
  | bl b => exact ⟨.bool b, .bl b, rfl, by cases b <;> decide, Nat.zero_le _⟩
  | int i =>
    have h : i.natAbs ≤ 10 ^ 30 := h
    refine ⟨.int i, .int i, ?_, ?_, Nat.zero_le _⟩
    · exact decide_eq_true (int_log h)
    · show (Str.ofString (toString i)).length ≤ 242
      have e := int_text_length_le10 (a := i) (k := 31) (by decide) (Nat.lt_of_le_of_lt h (by decide +kernel))
      have e2 : (Str.ofString (toString i)).length = (toString i).length := PySem.ofString_length _
      rw [e2]
      omega
  | str z => exact Sm.str h
  | _ => exact h.elim
def wG : Nat → Nat
  | 0 => 242
  | n + 1 => 3 * (wG n + 126) + 3
theorem wG_up : ∀ n, 242 ≤ wG n
  | 0 => Nat.le_refl _
  | n + 1 => by
    have := wG_up n
    show 242 ≤ 3 * (wG n + 126) + 3
    omega
theorem Sm.dict {H : Hp} {a : Addr} {kvs : List (Key × V)} {w k : Nat} (h : H a = some (.dK kvs)) (hn : ∀ p ∈ kvs, ∃ z, p.1 = .inr z ∧ NameOk z) (hv : ∀ p ∈ kvs, Sm H p.2 w k) : Sm H (.ref a) (kvs.length * (w + 126) + 3) (k + 1) := by
  have key : ∀ l : List (Key × V), (∀ p ∈ l, ∃ z, p.1 = .inr z ∧ NameOk z) → (∀ p ∈ l, Sm H p.2 w k) → ∃ ds : List (PyData × PyData), DrAll H (l.map fun p => kV p.1) (ds.map (·.1)) ∧ DrAll H (l.map (·.2)) (ds.map (·.2)) ∧ PyData.showableKv ds = true ∧ ((PyData.shownKv ds).map (·.length)).sum + 2 * (PyData.shownKv ds).length ≤ l.length * (w + 126) ∧ PyData.depthKv ds ≤ k := by
    intro l
    induction l with
    | nil => intro _ _; exact ⟨[], .nil, .nil, rfl, Nat.zero_le _, Nat.zero_le _⟩
    | cons p r ih =>
      intro hn hv
      obtain ⟨ds, a1, a2, a3, a5, a6⟩ := ih (fun q hq => hn q (List.mem_cons_of_mem _ hq)) fun q hq => hv q (List.mem_cons_of_mem _ hq)
      obtain ⟨z, e, nk⟩ := hn p (List.mem_cons_self ..)
      obtain ⟨d, b1, b2, b4, b5⟩ := hv p (List.mem_cons_self ..)
      obtain ⟨kd, c1, c2, c4, c5⟩ := Sm.str (H := H) (k := 0) nk.text
      have ek : kV p.1 = V.str z := by rw [e]; rfl
      refine ⟨(kd, d) :: ds, .cons (show Dr H (kV p.1) kd by rw [ek]; exact c1) a1, .cons b1 a2, ?_, ?_, ?_⟩
      · show (kd.showable && d.showable && PyData.showableKv ds) = true
        rw [c2, b2, a3]
        rfl
      · show (((kd.shown ++ ": " ++ d.shown) :: PyData.shownKv ds).map (·.length)).sum + 2 * ((kd.shown ++ ": " ++ d.shown) :: PyData.shownKv ds).length ≤ _
        rw [List.map_cons, List.sum_cons, List.length_cons, app_len, app_len]
        have e3 : (p :: r).length * (w + 126) = r.length * (w + 126) + (w + 126) := by rw [List.length_cons, Nat.succ_mul]
        rw [e3]
        have e2 : (": " : Str).length = 2 := rfl
        rw [e2]
        omega
      · show max (max kd.depth d.depth) (PyData.depthKv ds) ≤ _
        omega
  obtain ⟨ds, a1, a2, a3, a5, a6⟩ := key kvs hn hv
  refine ⟨.dict ds, .dic h a1 a2, a3, ?_, Nat.succ_le_succ a6⟩
  have := dictText_len_le (PyData.shownKv ds)
  show (dictText (PyData.shownKv ds)).length ≤ _
  omega
theorem good_sm {H : Hp} : ∀ (n : Nat) (v : V), GoodV H n v → Sm H v (wG n) n
  | 0, v, h => flat_sm 0 h
  | n + 1, v, h => by
    rcases h with h | ⟨a, vs, rfl, h1, h2, h3⟩ | ⟨a, kvs, rfl, h1, h2, h3⟩
    · exact (flat_sm _ h).mono (wG_up _) (Nat.le_refl _)
    · refine (Sm.tup h1 (SmL.of fun x hx => good_sm n x (h3 x hx))).mono ?_ (Nat.le_refl _)
      show _ ≤ 3 * (wG n + 126) + 3
      exact Nat.add_le_add_right (Nat.mul_le_mul h2 (by omega)) 3
    · refine (Sm.dict h1 h2.2.2 fun p hp => good_sm n p.2 (h3 p hp)).mono ?_ (Nat.le_refl _)
      exact Nat.add_le_add_right (Nat.mul_le_mul_right _ h2.1) 3
theorem att_sm {H : Hp} {v : V} {t : Att} (h : AttV H v t) : Sm H v 2000 4 := by
  cases t with
  | plain n z =>
    obtain ⟨a, rfl, ha, hn, _, hz⟩ := h
    exact (Sm.tup (k := 3) ha (.cons (.str hn.text) (.cons (.str hz) .nil))).mono (by decide) (by decide)
  | addr ws ps =>
    obtain ⟨a, p, x, y, rfl, ha, hp, ⟨b, rfl, hb, hz⟩, _, h5, ⟨c, vs, rfl, hc, lv, hv⟩, h7⟩ := h
    have s1 : Sm H (.ref b) 740 1 := (Sm.tup (k := 0) hb (SmL.of (w := 242) fun x hx => by
      obtain ⟨z, hz', rfl⟩ := List.mem_map.mp hx
      exact .str (hz z hz'))).mono (by rw [List.length_map]; omega) (by decide)
    have s2 : Sm H (.ref c) 1130 2 := (Sm.tup (k := 1) hc (SmL.of (w := 371) fun x hx => by
      obtain ⟨i, hi, e⟩ := List.mem_iff_getElem.mp hx
      have hi2 : i < ps.length := by omega
      obtain ⟨b2, rfl, h2, n2, t2⟩ := hv i x ps[i] (by rw [List.getElem?_eq_getElem hi, e]) (List.getElem?_eq_getElem hi2)
      exact (Sm.tup (k := 0) h2 (.cons (.str n2.text) (.cons (.str t2) .nil))).mono (by decide) (by decide))).mono (by omega) (by decide)
    have s3 : Sm H (.ref p) 1880 3 := (Sm.tup (k := 2) hp (.cons (s1.mono (Nat.le_refl _) (by decide)) (.cons s2 .nil))).mono (by decide) (by decide)
    have th : TextOk 4 "href" := ⟨by decide, List.all_eq_true.mp (by decide +kernel)⟩
    exact (Sm.tup (k := 3) ha (.cons (.str th) (.cons s3 .nil))).mono (by decide) (by decide)
end Sk
/-! Sk: displays of pairs; how much a repr takes -/
namespace Sk
open PySem PySem.Spec PyProof.Rows L2
/-- the values are pairs of these -/
inductive PairsIn (H : Hp) : List V → List (V × V) → Prop
  | nil : PairsIn H [] []
  | cons {a : Addr} {vs : List V} {p : V × V} {ps : List (V × V)} : H a = some (.tup [p.1, p.2]) → PairsIn H vs ps → PairsIn H (.ref a :: vs) (p :: ps)
theorem PairsIn.same {H H' : Hp} (s : Same H H') : ∀ {vs : List V} {ps : List (V × V)}, PairsIn H vs ps → PairsIn H' vs ps
  | _, _, .nil => .nil
  | _, _, .cons h r => .cons (s _ _ h) (r.same s)
theorem PairsIn.app {H : Hp} : ∀ {vs us : List V} {ps qs : List (V × V)}, PairsIn H vs ps → PairsIn H us qs → PairsIn H (vs ++ us) (ps ++ qs)
  | _, _, _, _, .nil, r => r
  | _, _, _, _, .cons h t, r => .cons h (t.app r)
theorem PairsIn.len {H : Hp} : ∀ {vs : List V} {ps : List (V × V)}, PairsIn H vs ps → vs.length = ps.length
  | _, _, .nil => rfl
  | _, _, .cons _ r => congrArg (· + 1) r.len
theorem PairsIn.at {H : Hp} : ∀ {vs : List V} {ps : List (V × V)}, PairsIn H vs ps → ∀ (i : Nat) x, vs[i]? = some x → ∃ a p, x = .ref a ∧ ps[i]? = some p ∧ H a = some (.tup [p.1, p.2])
  | _, _, .nil, i, x, h => by simp at h
  | _, _, .cons h _, 0, x, e => by
    cases e
    exact ⟨_, _, rfl, rfl, h⟩
  | _, _, .cons _ r, i + 1, x, e => by
    obtain ⟨a, p, e1, e2, e3⟩ := r.at i x (by simpa using e)
    exact ⟨a, p, e1, by simpa using e2, e3⟩
/-- [(a, b), ..]: what is made stands in some heap -/
def tPrs : List (TE × TE) → List (V × V) → TA
  | [], acc => fun _ H Q => ∀ vs, PairsIn H vs acc → Q vs H
  | (a, b) :: r, acc => fun σ H Q => a σ H fun x H1 => b σ H1 fun y H2 => Same H H2 ∧ ∀ H3, Same H2 H3 → tPrs r (acc ++ [(x, y)]) σ H3 Q
inductive PPr (X : Cx) : List Expr → List (TE × TE) → Prop
  | nil : PPr X [] []
  | cons {a b : Expr} {ta tb : TE} {k : Nat} {pos : Pos} {es : List Expr} {ts : List (TE × TE)} : PE X a ta → PE X b tb → PPr X es ts → starEach [a, b] X.env = (false, eval a X.env) :: starEach [b] X.env → starEach [b] X.env = (false, eval b X.env) :: starEach [] X.env →
      starEach (.Tuple [a, b] k pos :: es) X.env = (false, eval (.Tuple [a, b] k pos) X.env) :: starEach es X.env → PPr X (.Tuple [a, b] k pos :: es) ((ta, tb) :: ts)
section
variable {X : Cx}
theorem ppr_cons {a b : Expr} {ta tb : TE} {k : Nat} {pos : Pos} {es : List Expr} {ts : List (TE × TE)} (ha : PE X a ta) (hb : PE X b tb) (r : PPr X es ts) (h1 : starEach [a, b] X.env = (false, eval a X.env) :: starEach [b] X.env := by rfl) (h3 : starEach [b] X.env = (false, eval b X.env) :: starEach [] X.env := by rfl)
    (h2 : starEach (.Tuple [a, b] k pos :: es) X.env = (false, eval (.Tuple [a, b] k pos) X.env) :: starEach es X.env := by rfl) : PPr X (.Tuple [a, b] k pos :: es) ((ta, tb) :: ts) := .cons ha hb r h1 h3 h2
theorem prs_run {es : List Expr} {ts : List (TE × TE)} (h : PPr X es ts) : ∀ (acc : List (V × V)) (vs0 : List V) (pos : Pos) (pins : List (Addr × Obj)) (s : Shared) (σ : L2.St) (H : Hp) (Q : List V → Hp → Prop), Inv X pins σ H s → PairsIn H vs0 acc → tPrs ts acc σ H Q →
    wpAny (model X.prog X.w) X.A (spliced (backTo pos (starEach es X.env))) (AP X pins σ fun vs H' => Q (vs0 ++ vs) H') X.xe s := by
  induction h with
  | nil =>
    intro acc vs0 pos pins s σ H Q I p q
    have e : backTo pos (starEach [] X.env) = [] := by simp [starEach, backTo]
    rw [e]
    exact Calls.spliced_nil ⟨[], H, I, .nil, by show Q (vs0 ++ []) H; rw [List.append_nil]; exact q vs0 p⟩
  | @cons a b ta tb k tpos es ts ha hb r h1 h3 h2 ih =>
    intro acc vs0 pos pins s σ H Q I p q
    rw [h2]
    show wpAny _ _ (spliced ((false, eval (.Tuple [a, b] k tpos) X.env) :: backTo pos (starEach es X.env))) _ _ s
    have one : PA X [a, b] (tCons (upE ta) (tCons (upE tb) tNil)) := pa_cons (up ha) (pa_cons (up hb) pa_nil h3) h1
    refine Calls.spliced_cons (thn ((pe_tup (pos := tpos) (x1 := k) one).run pins s σ H (fun v H' => ∃ t x y, v = .ref t ∧ H' t = some (.tup [x, y]) ∧ Same H H' ∧ tPrs ts (acc ++ [(x, y)]) σ H' Q) I ?_) fun u s1 z => ?_)
    · refine ⟨_, fun x H1 z => ?_, q⟩
      refine ⟨_, fun y H2 z2 => ?_, z⟩
      obtain ⟨s2, z2⟩ := z2
      exact ⟨Nat.le_of_ble_eq_true rfl, fun t nt => ⟨t, x, y, rfl, upd_same, s2.trans (same_new nt), z2 _ (same_new nt)⟩⟩
    · obtain ⟨v, H', I', rv, t, x, y, rfl, ht, s', q'⟩ := z
      have nx := ih (acc ++ [(x, y)]) (vs0 ++ [.ref t]) pos pins s1 σ H' Q I' ((p.same s').app (.cons (p := (x, y)) ht .nil)) q'
      refine thn nx fun us s2 z => ?_
      obtain ⟨vs, H2, I2, r2, q2⟩ := z
      refine ⟨.ref t :: vs, H2, I2, .cons rv r2, ?_⟩
      rw [List.append_assoc] at q2
      exact q2
theorem pa_prs {es : List Expr} {ts : List (TE × TE)} (h : PPr X es ts) : PA X es (tPrs ts []) := ⟨fun pos pins s σ H Q I q => prs_run h [] [] pos pins s σ H Q I .nil q⟩
end
/-- f(e, ..), f an object of the class at C -/
def uCallO (C : Addr) (sp : Sp) (tf : TE) (t : TA) : TE := fun σ H Q => tf σ H fun y H1 => match y with
  | .ref a => t σ H1 fun vs H2 => (∃ dx fs, H2 a = some (.ins C dx fs)) ∧ sp (.ref a :: vs) H2 Q E0
  | _ => False
def upA (t : TA) : TA := fun σ H Q => ∃ Q' : List V → Hp → Prop, (∀ vs H', Q' vs H' → Q vs H') ∧ t σ H Q'
theorem upa {X : Cx} {es : List Expr} {t : TA} (h : PA X es t) : PA X es (upA t) := ⟨fun pos pins s σ H Q I q => by
  obtain ⟨Q', w, q⟩ := q
  exact thn (h.run pos pins s σ H Q' I q) fun v s1 ⟨x, H1, I1, r1, q1⟩ => ⟨x, H1, I1, r1, w _ _ q1⟩⟩
theorem pe_callOU {X : Cx} {k : Nat} {C g : Addr} {sp : Sp} {fe e : Expr} {es : List Expr} {tf : TE} {t : TA} {pos : Pos} (hf : PE X fe tf) (c : StX.CallO X.K C g) (F : FnR X.prog X.w X.K X.mg X.base CX0 k g sp) (hr : Room k X.A) (ha : PA X (e :: es) t)
    (ht : eval (.Call fe (e :: es) [] pos) X.env = (do callWith pos (← eval fe X.env) [] (backTo pos (starEach (e :: es) X.env)) (backToKw pos (keywordEach [] X.env))) := by rfl)
    (he : starEach (e :: es) X.env = (false, eval e X.env) :: starEach es X.env := by rfl) (hpl : (backTo pos (starEach es X.env)).any (·.1) = false := by rfl) : PE X (.Call fe (e :: es) [] pos) (uCallO C sp tf t) :=
  PEw (StX.pe_callO (E := E0) (up hf) c F hr pass0 (upa ha) ht he hpl) fun σ H Q q => by
    refine ⟨_, fun y H1 z => ?_, q⟩
    cases y with
    | ref a => exact ⟨a, rfl, _, fun vs H2 z2 => ⟨.inr z2.1, z2.2⟩, z⟩
    | _ => exact z.elim
/-! ### how much a repr takes -/
def ShD (d : PyData) (w k : Nat) : Prop := d.showable = true ∧ d.shown.length ≤ w ∧ d.depth ≤ k
theorem ShD.mono {d : PyData} {w k w' k' : Nat} (h : ShD d w k) (hw : w ≤ w') (hk : k ≤ k') : ShD d w' k' := ⟨h.1, Nat.le_trans h.2.1 hw, Nat.le_trans h.2.2 hk⟩
def ShL (ds : List PyData) (w k : Nat) : Prop := PyData.showableAll ds = true ∧ ((PyData.shownAll ds).map (·.length)).sum + 2 * (PyData.shownAll ds).length ≤ w ∧ PyData.depthAll ds ≤ k
theorem ShL.of {w k : Nat} : ∀ {ds : List PyData}, (∀ d ∈ ds, ShD d w k) → ShL ds (ds.length * (w + 2)) k
  | [], _ => ⟨rfl, Nat.zero_le _, Nat.zero_le _⟩
  | d :: ds, h => by
    obtain ⟨a1, a2, a3⟩ := h d (List.mem_cons_self ..)
    obtain ⟨b1, b2, b3⟩ := ShL.of fun x hx => h x (List.mem_cons_of_mem _ hx)
    refine ⟨?_, ?_, ?_⟩
    · show (d.showable && PyData.showableAll ds) = true
      rw [a1, b1]
      rfl
    · show ((d.shown :: PyData.shownAll ds).map (·.length)).sum + 2 * (d.shown :: PyData.shownAll ds).length ≤ _
      have e : (d :: ds).length * (w + 2) = ds.length * (w + 2) + (w + 2) := by rw [List.length_cons, Nat.succ_mul]
      rw [List.map_cons, List.sum_cons, List.length_cons, e]
      omega
    · show max d.depth (PyData.depthAll ds) ≤ _
      omega
theorem ShD.list {ds : List PyData} {w k : Nat} (h : ShL ds w k) : ShD (.list ds) (w + 3) (k + 1) := by
  refine ⟨h.1, ?_, Nat.succ_le_succ h.2.2⟩
  have := listText_len_le (PyData.shownAll ds)
  have := h.2.1
  show (listText (PyData.shownAll ds)).length ≤ _
  omega
theorem ShD.tuple {ds : List PyData} {w k : Nat} (h : ShL ds w k) : ShD (.tuple ds) (w + 3) (k + 1) := by
  refine ⟨h.1, ?_, Nat.succ_le_succ h.2.2⟩
  have := tupleText_len_le (PyData.shownAll ds)
  have := h.2.1
  show (tupleText (PyData.shownAll ds)).length ≤ _
  omega
theorem okc_lo {c : Nat} (h : okc c = true) : c < 16 ^ 8 := by
  unfold okc at h
  rw [Bool.or_eq_true] at h
  rcases h with h | h
  · have : c = 10 := by simpa using h
    omega
  · rw [Bool.and_eq_true, Bool.and_eq_true] at h
    have := Nat.le_of_ble_eq_true h.1.2
    omega
theorem ShD.str {n k : Nat} {z : Str} (h : TextOk n z) : ShD (.str z) (10 * n + 2) k := by
  refine ⟨rfl, ?_, Nat.zero_le _⟩
  have := StrLaws.reprText_len z fun c hc => okc_lo (h.2 c hc)
  have := h.1
  show (reprText z).length ≤ _
  omega
theorem ShD.bool (b : Bool) {k : Nat} : ShD (.bool b) 5 k := ⟨rfl, by cases b <;> decide, Nat.zero_le _⟩
theorem ShD.non {k : Nat} : ShD .none 4 k := ⟨rfl, by decide, Nat.zero_le _⟩
mutual
theorem Dr.dl {H : Hp} : ∀ {v : V} {d : PyData}, Dr H v d → DL H v d
  | _, _, .non => .non
  | _, _, .bl b => .bl b
  | _, _, .int i => .int i
  | _, _, .str x => .str x
  | _, _, .tup h a => .tup h (DrAll.dl a)
  | _, _, .dic h a b => .dic h (DrAll.dl a) (DrAll.dl b)
theorem DrAll.dl {H : Hp} : ∀ {vs : List V} {ds : List PyData}, DrAll H vs ds → DLs H vs ds
  | _, _, .nil => .nil
  | _, _, .cons a b => .cons (Dr.dl a) (DrAll.dl b)
end
theorem dls_of {H : Hp} : ∀ {vs : List V} {ds : List PyData}, vs.length = ds.length → (∀ (i : Nat) v, vs[i]? = some v → ∃ d, ds[i]? = some d ∧ Dr H v d) → DLs H vs ds
  | [], [], _, _ => .nil
  | [], _ :: _, h, _ => by cases h
  | _ :: _, [], h, _ => by cases h
  | v :: vs, d :: ds, h, f => by
    obtain ⟨d', e, r⟩ := f 0 v rfl
    cases e
    exact .cons r.dl (dls_of (by simpa using h) fun i u hu => f (i + 1) u (by simpa using hu))
def RowsIn (H : Hp) (L : Addr) (rs : List (V × V)) : Prop := ∃ vs, H L = some (.lst vs) ∧ PairsIn H vs rs
theorem rows_first {H H' : Hp} {L : Addr} {vs : List V} {rs : List (V × V)} (s : Same H H') (p : PairsIn H' vs rs) (n : H' L = none) : Same H (upd H' L (.lst vs)) ∧ RowsIn (upd H' L (.lst vs)) L rs := ⟨s.trans (same_new n), vs, upd_same, p.same (same_new n)⟩
theorem rows_cat {H H' : Hp} {L q : Addr} {vs : List V} {rs ps : List (V × V)} (R : RowsIn H L rs) (s : Same H H') (p : PairsIn H' vs ps) (nq : H' q = none) (hl : rs.length + ps.length ≤ 1000) :
    ∃ xs, upd H' q (.lst vs) L = some (.lst xs) ∧ upd H' q (.lst vs) q = some (.lst vs) ∧ xs.length + vs.length ≤ sizeLine ∧ ∀ N, upd H' q (.lst vs) N = none → Same H (upd (upd H' q (.lst vs)) N (.lst (xs ++ vs))) ∧ RowsIn (upd (upd H' q (.lst vs)) N (.lst (xs ++ vs))) N (rs ++ ps) := by
  obtain ⟨xs, hL, px⟩ := R
  have s2 : Same H (upd H' q (.lst vs)) := s.trans (same_new nq)
  have l1 := px.len
  have l2 := p.len
  refine ⟨xs, s2 _ _ hL, upd_same, size_le (by omega), fun N nN => ⟨s2.trans (same_new nN), _, upd_same, ((px.same s2).app (p.same (same_new nq))).same (same_new nN)⟩⟩
/-- a row: an expression's text and what is due -/
def RowOk (H : Hp) (env : V) (p : V × V) (d : PyData) : Prop := ∃ z e v, p.1 = .str z ∧ z.length ≤ 100000 ∧ parseE z.cps.toList = some e ∧ e.lev ≤ 8 ∧ e.wid ≤ 1000 ∧ evV H env e = some v ∧ Dr H v d ∧ Dr H p.2 d ∧ ShD d 2000 20
theorem RowOk.same {H H' : Hp} {env : V} {p : V × V} {d : PyData} (h : RowOk H env p d) (s : Same H H') : RowOk H' env p d := by
  obtain ⟨z, e, v, h1, h2, h3, h4, h5, h6, h7, h8, h9⟩ := h
  exact ⟨z, e, v, h1, h2, h3, h4, h5, evV_same s e v h6, Dr.stay (stay_of s) h7, Dr.stay (stay_of s) h8, h9⟩
inductive RowsOk (H : Hp) (env : V) : List (V × V) → List PyData → Prop
  | nil : RowsOk H env [] []
  | cons {p : V × V} {ps : List (V × V)} {d : PyData} {ds : List PyData} : RowOk H env p d → RowsOk H env ps ds → RowsOk H env (p :: ps) (d :: ds)
theorem RowsOk.len {H : Hp} {env : V} : ∀ {ps : List (V × V)} {ds : List PyData}, RowsOk H env ps ds → ps.length = ds.length
  | _, _, .nil => rfl
  | _, _, .cons _ r => congrArg (· + 1) r.len
theorem RowsOk.at {H : Hp} {env : V} : ∀ {ps : List (V × V)} {ds : List PyData}, RowsOk H env ps ds → ∀ (i : Nat) p, ps[i]? = some p → ∃ d, ds[i]? = some d ∧ RowOk H env p d
  | _, _, .nil, i, p, h => by simp at h
  | _, _, .cons h _, 0, p, e => by
    cases e
    exact ⟨_, rfl, h⟩
  | _, _, .cons _ r, i + 1, p, e => by
    obtain ⟨d, e1, e2⟩ := r.at i p (by simpa using e)
    exact ⟨d, by simpa using e1, e2⟩
theorem RowsOk.sh {H : Hp} {env : V} : ∀ {ps : List (V × V)} {ds : List PyData}, RowsOk H env ps ds → ∀ d ∈ ds, ShD d 2000 20
  | _, _, .nil, d, h => by cases h
  | _, _, .cons h r, d, m => by
    rcases List.mem_cons.mp m with e | e
    · rw [e]
      obtain ⟨_, _, _, _, _, _, _, _, _, _, _, h9⟩ := h
      exact h9
    · exact r.sh d e
theorem gm_tup2 {K : PySem.W.Frag} {i j : Nat} : ∀ x σ H (q q' : L2.St → Hp → Prop), (∀ σ2 H2, q σ2 H2 → q' σ2 H2) → gTup K 2 (uCons (gName i) (uCons (gName j) uNil)) x σ H q → gTup K 2 (uCons (gName i) (uCons (gName j) uNil)) x σ H q' := by
  intro x σ H q q' h z
  obtain ⟨a, xs, e1, e2, e3, t⟩ := z
  refine ⟨a, xs, e1, e2, e3, ?_⟩
  match xs, e3 with
  | [x1, x2], _ => exact h _ _ t
theorem ShD.int {i : Int} {k : Nat} (h : i.natAbs ≤ 10 ^ 30) : ShD (.int i) 242 k := by
  refine ⟨decide_eq_true (int_log h), ?_, Nat.zero_le _⟩
  show (Str.ofString (toString i)).length ≤ 242
  have e := int_text_length_le10 (a := i) (k := 31) (by decide) (Nat.lt_of_le_of_lt h (by decide +kernel))
  have e2 : (Str.ofString (toString i)).length = (toString i).length := PySem.ofString_length _
  rw [e2]
  omega
end Sk
/-! Sk: an exception in the hand of an except suite; defs that are called with it -/
namespace Sk
open PySem PySem.Spec PyProof.Rows L2
/-- the exception at a, of the class C, its dict d: the context holds it -/
def Held (X : Cx) (a C : Addr) (d : Option Addr) : Prop := ∃ (oe : Obj) (vs : Array Value), (a, oe) ∈ X.pn ∧ Zc (.ref C) d oe ∧ oe.data = .fields vs
/-- its dict stands in the heap -/
def XdAt (d : Option Addr) (H : Hp) : Prop := ∃ p fs, d = some p ∧ H p = some (.xd fs)
theorem XdAt.up {d : Option Addr} {H : Hp} {p : Addr} {o : HO} (h : XdAt d H) (hp : H p = none) : XdAt d (upd H p o) := by
  obtain ⟨q, fs, e, h⟩ := h
  exact ⟨q, fs, e, by rw [upd_ne (ne_of_none h hp)]; exact h⟩
section
variable {X : Cx} {a C : Addr} {d : Option Addr}
theorem Held.inst (Z : Held X a C d) {pins : List (Addr × Obj)} {σ : L2.St} {H : Hp} {s : Shared} (I : Inv X pins σ H s) (h : XdAt d H) : ∃ oe od, PySem.W.InstAt s.heap a oe C (some od) := by
  obtain ⟨oe, vs, hp, hz, hd⟩ := Z
  obtain ⟨q, fs, e, h⟩ := h
  obtain ⟨ha, _⟩ := I.pin (a, oe) (List.mem_append_left _ hp)
  have hx : ObjOk X.prog X.w H s.heap q (.xd fs) := I.hok q _ h
  obtain ⟨mA, hns, hr⟩ := hx
  obtain ⟨od, ho, hl⟩ := lookIn_ns hns
  refine ⟨oe, od, ha, hz.1, by unfold PySem.W.notCls; rw [hd] <;> rfl, ?_⟩
  rw [hz.2, e]
  exact ho
theorem excKit {K : Fg} (E : L2.ExcC K C) {ox : Obj} {od : Option Obj} : PySem.W.KitX K (.ref a) (.ref C) (fun h => PySem.W.InstAt h a ox C od) :=
  PySem.W.kitx_exc (by obtain ⟨cd, hc, _⟩ := PySem.W.any_some E.hd; rw [hc]; rfl) E.hg E.hk E.hs E.ha E.hn E.ht E.hm
/-- is the exception of the class v -/
def kitV (K : Fg) (C : Addr) (v : V) : Option Bool := match v with
  | .ref p => PySem.W.kitOne K (.ref C) (.ref p)
  | .ty n => PySem.W.kitOne K (.ref C) (.type n)
  | _ => none
/-- of one of the classes vs -/
def kitVs (K : Fg) (C : Addr) : List V → Option Bool
  | [] => some false
  | v :: r => match kitV K C v with
    | some true => some true
    | some false => kitVs K C r
    | none => none
/-- isinstance(e, c) -/
def uIs1 (a : Addr) (d : Option Addr) (c : V) (ok : Bool) (te tc : TE) : TE := fun σ H Q => te σ H fun x H1 => tc σ H1 fun y H2 => x = .ref a ∧ y = c ∧ XdAt d H2 ∧ Q (.bl ok) H2
theorem is1 {c : V} {ok : Bool} (Z : Held X a C d) (E : L2.ExcC X.K C) (hk : kitV X.K C c = some ok) {e f : Expr} {te tc : TE} {p pos : Pos} (hg : Gl X "isinstance") (hm : X.mg "isinstance" = none) (he : PE X e te) (hf : PE X f tc)
    (h1 : starEach (e :: [f]) X.env = (false, eval e X.env) :: starEach [f] X.env := by rfl) (h2 : (backTo pos (starEach [f] X.env)).any (·.1) = false := by rfl) (h3 : starEach (f :: []) X.env = (false, eval f X.env) :: starEach [] X.env := by rfl) : PE X (.Call (.Name "isinstance" p) [e, f] [] pos) (uIs1 a d c ok te tc) := by
  have cr : CallR X (.builtin "isinstance") (fun xs H Q => xs = [.ref a, c] ∧ XdAt d H ∧ Q (.bl ok) H) := by
    intro pins s σ H xs us Q I r h
    obtain ⟨rfl, hx, q⟩ := h
    obtain ⟨oe, od, J⟩ := Z.inst I hx
    cases r with
    | cons rx rr =>
      cases rr with
      | cons rt rr =>
        cases rr
        cases rx
        have fin : ∀ {cv : Value}, PySem.W.kitOne X.K (.ref C) cv = some ok → wpAny (model X.prog X.w) X.A (call (.builtin "isinstance") [.ref a, cv]) (EP X pins σ Q) X.xe s := fun {cv} e =>
          PySem.W.kia_one (excKit E) I.kIn J e (fun z => nomatch z) fun tk => ⟨.bl ok, H, I.kept (t' := tk) fun _ _ z => z, rfl, q⟩
        cases c with
        | ref p =>
          cases rt
          exact fin hk
        | ty n =>
          cases rt
          exact fin hk
        | _ => cases hk
  exact PEw (pe_callB cr hg hm (by decide +kernel) (pa_cons (up he) (pa_cons (up hf) pa_nil (hs := h3)) (hs := h1)) (by decide) (by decide) h1 h2) fun σ H Q q =>
    ⟨_, fun x H1 z => ⟨_, fun y H2 z2 => ⟨by rw [z2.1, z2.2.1], z2.2.2⟩, z⟩, q⟩
theorem kitVs_any {K : Fg} : ∀ {vs : List V} {us : List Value} {ok : Bool}, Vals vs us → kitVs K C vs = some ok → PySem.W.kitAny K (.ref C) us = some ok
  | [], _, ok, r, h => by
    cases r
    exact h
  | v :: vs, _, ok, r, h => by
    cases r with
    | @cons _ u _ us r rs =>
      have e : ∀ b, kitV K C v = some b → PySem.W.kitOne K (.ref C) u = some b := fun b hb => by
        cases v with
        | ref p =>
          cases r
          exact hb
        | ty n =>
          cases r
          exact hb
        | _ => cases hb
      unfold kitVs at h
      unfold PySem.W.kitAny
      split at h
      · rename_i q
        rw [e _ q]
        exact h
      · rename_i q
        rw [e _ q]
        exact kitVs_any rs h
      · cases h
/-- isinstance(e, (A, B, ..)) -/
def uIsT (a : Addr) (d : Option Addr) (cs : List V) (ok : Bool) (te tc : TE) : TE := fun σ H Q => te σ H fun x H1 => tc σ H1 fun y H2 => x = .ref a ∧ (∃ q, y = .ref q ∧ H2 q = some (.tup cs)) ∧ XdAt d H2 ∧ Q (.bl ok) H2
theorem isT {cs : List V} {ok : Bool} (Z : Held X a C d) (E : L2.ExcC X.K C) (hk : kitVs X.K C cs = some ok) {e f : Expr} {te tc : TE} {p pos : Pos} (hg : Gl X "isinstance") (hm : X.mg "isinstance" = none) (he : PE X e te) (hf : PE X f tc)
    (h1 : starEach (e :: [f]) X.env = (false, eval e X.env) :: starEach [f] X.env := by rfl) (h2 : (backTo pos (starEach [f] X.env)).any (·.1) = false := by rfl) (h3 : starEach (f :: []) X.env = (false, eval f X.env) :: starEach [] X.env := by rfl) : PE X (.Call (.Name "isinstance" p) [e, f] [] pos) (uIsT a d cs ok te tc) := by
  have cr : CallR X (.builtin "isinstance") (fun xs H Q => ∃ q, xs = [.ref a, .ref q] ∧ H q = some (.tup cs) ∧ XdAt d H ∧ Q (.bl ok) H) := by
    intro pins s σ H xs us Q I r h
    obtain ⟨q, rfl, hq, hx, z⟩ := h
    obtain ⟨oe, od, J⟩ := Z.inst I hx
    cases r with
    | cons rx rr =>
      cases rr with
      | cons rt rr =>
        cases rr
        cases rx
        cases rt
        obtain ⟨its, rv, ⟨⟨oc, odd, odt, osl⟩, ho, hc, m, hd⟩, _⟩ := I.tuple (sqT_of hq)
        dsimp only at hc hd
        subst hc hd
        exact PySem.W.kia_tup (excKit E) I.kIn J ho (kitVs_any rv hk) (fun z => nomatch z) fun tk => ⟨.bl ok, H, I.kept (t' := tk) fun _ _ z => z, rfl, z⟩
  exact PEw (pe_callB cr hg hm (by decide +kernel) (pa_cons (up he) (pa_cons (up hf) pa_nil (hs := h3)) (hs := h1)) (by decide) (by decide) h1 h2) fun σ H Q q =>
    ⟨_, fun x H1 z => ⟨_, fun y H2 z2 => by obtain ⟨e1, ⟨q, e2, h⟩, h3⟩ := z2; exact ⟨q, by rw [e1, e2], h, h3⟩, z⟩, q⟩
/-- e.f -/
def uXf (a : Addr) (d : Option Addr) (f : Str) (te : TE) : TE := fun σ H Q => te σ H fun x H1 => x = .ref a ∧ ∃ (p : Addr) (fs : List (Str × V)) (v : V), d = some p ∧ H1 p = some (.xd fs) ∧ fs.lookup f = some v ∧ Q v H1
theorem xfld (Z : Held X a C d) (T : XfC X.K C) {f : Str} (hno : PySem.W.findIn X.K (.ref C) f = some none) {e : Expr} {te : TE} {pos : Pos} (he : PE X e te) (hb : attributeBase e f X.env (eval e X.env) = eval e X.env := by rfl) : PE X (.Attribute e f pos) (uXf a d f te) := by
  refine ⟨fun pins s σ H Q I h => attr_of hb (thn (he.run pins s σ H _ I h) fun u s1 hh => ?_)⟩
  obtain ⟨x, H1, I1, rx, rfl, p, fs, v, ed, ea, l, q⟩ := hh
  obtain rfl : u = Value.ref a := rx
  obtain ⟨oe, vs, hp, hz, hd⟩ := Z
  obtain ⟨ha, _⟩ := I1.pin (a, oe) (List.mem_append_left _ hp)
  have hx : ObjOk X.prog X.w H1 s1.heap p (.xd fs) := I1.hok p _ ea
  obtain ⟨mA, hns, hr⟩ := hx
  obtain ⟨od, ho, hl⟩ := lookIn_ns hns
  obtain ⟨u, hu, ru⟩ := RelO.some_of (v := v) (o := mA f) (by rw [← l]; exact hr f)
  have J : PySem.W.InstAt s1.heap a oe C (some od) := ⟨ha, hz.1, by unfold PySem.W.notCls; rw [hd] <;> rfl, by rw [hz.2, ed]; exact ho⟩
  exact HandSPX.exc_get I1.kIn J T.ga T.gg T.exC (PySem.W.findObj_own T.hdC hno rfl (by rw [hl, hu])) (handed_of ru) ⟨v, H1, I1.tok _, ru, q⟩
end
/-! ### defs called with the exception that is handled -/
abbrev SpE := Addr → Addr → Option Addr → Sp
structure FnE (P : Program) (w : World) (K : Fg) (mg : Str → Option Value) (base : Heap) (k : Nat) (f : Addr) (fd : FuncData) (ps : List Str) (sp : SpE) : Prop where
  len : ∀ a C d vs H Q E, sp a C d vs H Q E → vs.length = ps.length
  run : ∀ (A : Around) (outer : List Env) (s : Shared) (H : Hp) (args : Args) (us : List Value) (vs : List V) (Q : VK) (E : XK) (p : Addr × Obj) (C : Addr) (d : Option Addr), L2H.RoomH k A → L2H.PinOk outer H s p → Zc (.ref C) d p.2 → (∃ vs, p.2.data = .fields vs) →
    Env0 P w K mg base A outer s H → BindsTo s fd args (ps.zip us) → Vals vs us → sp p.1 C d vs H Q E → codeAny (model P w) A (.call (.ref f) args) (CR CX0 outer P w H s Q E) s
section
variable {P : Program} {w : World} {K : Fg} {mg : Str → Option Value} {base : Heap} {x qual : Str} {params : Arguments} {body : List Stmt} {scope : Scope} {dvs : List V} {kws : List (Str × V)} {f : Addr} {fd : FuncData}
theorem fnE_of {N ps : List Str} {k : Nat} {sp : SpE} (F : FunD K x qual params body scope dvs kws f fd) (S : FnScope N ps scope) (len : ∀ a C d vs H Q E, sp a C d vs H Q E → vs.length = ps.length)
    (hb : ∀ (cdv : Value) (A : Around) (outer : List Env) (s : Shared) (H : Hp) (vs : List V) (Q : VK) (E : XK) (p : Addr × Obj) (C : Addr) (d : Option Addr), L2H.RoomH k (A.deeper (envOfC qual scope s.heap.objs.size f cdv)) →
      Held (L2H.cxH CX0 P w K mg base N qual scope f cdv A outer s H E p).nox p.1 C d → sp p.1 C d vs H Q E →
      ∃ t, PSs (L2H.cxH CX0 P w K mg base N qual scope f cdv A outer s H E p).nox body t ∧ t { nx := fun _ H' => Q .non H', rt := Q } (start N vs) H) : FnE P w K mg base (k + 1) f fd ps sp := by
  obtain ⟨oc, od, dV, kV, doc, pm, an, cdv, ct, osl, efd, look, code, _, _⟩ := F.ex
  subst efd
  refine ⟨len, fun A outer s H args us vs Q E p C d room pin hz hf env bind rel want => ?_⟩
  have size := len _ _ _ _ _ _ _ want
  have inK : K.In s.heap := env.mod.kin.keeps fun b o e => (env.bs b o e).1
  have calm : s.heap.NoLimit := env.mod.nolimit.keeps fun b o e => (env.bs b o e).1
  have kinds : ∀ y ∈ ps.zip us, scope.names.lookup y.1 = some .local ∨ (scope.names.lookup y.1 = some .cell ∧ ((cellsFrom (s.heap.objs.size + 1) scope.names []).lookup y.1).isSome = true) := by
    rintro ⟨n, v⟩ hy
    cases S.par n (List.of_mem_zip hy).1 with
    | inl q => exact .inl q
    | inr q => exact .inr ⟨q, PySem.W.cellsFrom_some _ _ _ (.inl q)⟩
  refine codeAny_call_function room.depth (inK _ _ look) rfl S.co S.gen rfl (PySem.W.codeRec_of inK code) (bind _ _ _ _ ?_)
  refine wpAny_newFunctionEnv_cells S.kind kinds fun e1 he1 s1 inC => ?_
  subst he1
  obtain ⟨pv, hpv⟩ := hf
  obtain ⟨t, der, red⟩ := hb cdv A outer s H vs Q E p C d (room.deeper _) ⟨p.2, pv, List.mem_cons_self, hz, hpv⟩ want
  have inv : Inv (L2H.cxH CX0 P w K mg base N qual scope f cdv A outer s H E p) [] (start N vs) H s1 := L2H.inv_startH S pin env size rel inC
  refine ⟨calm.keeps inC.toInCall.keep, codeAny_func (wpAny_mono (der.run [] s1 _ H _ (inv_nox inv) red) (fun fl s2 h2 => ?_) fun _ _ z => z.elim)⟩
  have back : ∀ {σ2 : L2.St} {H2 : Hp} {v : V} {u : Value}, Inv (L2H.cxH CX0 P w K mg base N qual scope f cdv A outer s H E p).nox [] σ2 H2 s2 → RelV v u → Q v H2 → CE outer P w H s Q u s2 := fun J r q => ⟨_, _, J.os, J.bare, J.base, J.hok, r, q⟩
  cases fl with
  | ret u => obtain ⟨v, σ2, H2, J, r, q⟩ := h2; exact back J r q
  | next => obtain ⟨σ2, H2, J, q⟩ := h2; exact back (u := Value.none) (v := V.non) J rfl q
  | brk => obtain ⟨_, _, _, q⟩ := h2; exact q.elim
  | cont => obtain ⟨_, _, _, q⟩ := h2; exact q.elim
end
section
variable {X : Cx} {a C : Addr} {d : Option Addr}
/-- f(e, ..) with the exception that is handled -/
theorem pecallE {k : Nat} {f : Addr} {fd : FuncData} {ps : List Str} {sp : SpE} {y : Str} {e : Expr} {es : List Expr} {t : TA} {p pos : Pos} (F : FnE X.prog X.w X.K X.mg X.base k f fd ps sp) (Z : Held X a C d) (hr : L2H.RoomH k X.A) (hg : Gl X y) (hm : X.mg y = some (.ref f)) (hk : PySem.W.keepIn X.K (.ref f) = true)
    (hb : Binds X.K fd ps []) (ha : PA X (e :: es) t) (hdb : (y == ("__debug__" : Str)) = false := by decide) (he : starEach (e :: es) X.env = (false, eval e X.env) :: starEach es X.env := by rfl) (hpl : (backTo pos (starEach es X.env)).any (·.1) = false := by rfl) :
    PE X (.Call (.Name y p) (e :: es) [] pos) (fun σ H Q => t σ H fun vs H1 => sp a C d vs H1 Q E0) := by
  refine ⟨fun pins s σ H Q I h => ?_⟩
  refine wpAny_Call_Name_kw (ld_glob I hg hm ?_ hdb)
  refine PySem.W.callWith_K (h₀ := X.base) I.ok.mod.kin hk (thn (ha.run pos pins s σ H _ I h) fun us s1 z => ?_) he hpl
  obtain ⟨vs, H1, I1, r, q⟩ := z
  refine ⟨I1.kIn, ?_⟩
  have r2 : Vals vs (us ++ []) := by rw [List.append_nil]; exact r
  have size : (us ++ []).length = ps.length := by rw [← r2.length]; exact F.len _ _ _ _ _ _ _ q
  obtain ⟨oe, pv, hp, hz, hd⟩ := Z
  have P1 := I1.pin (a, oe) (List.mem_append_left _ hp)
  have pin : L2H.PinOk X.stack H1 s1 (a, oe) := ⟨P1.1, P1.2.1, fun hm => (List.mem_cons.mp (I1.stkSub a hm)).elim P1.2.2.1 P1.2.2.2.1, P1.2.2.2.2⟩
  refine wpAny_call (codeAny_mono (F.run X.A X.stack s1 H1 ⟨us, []⟩ (us ++ []) vs Q E0 (a, oe) C d hr pin hz ⟨pv, hd⟩ I1.env0 (hb s1 us I1.kIn size) r2 q) fun r s2 hq => ?_)
  cases r with
  | error e => exact hq.elim
  | ok fl =>
    cases fl with
    | ret u => exact I1.after hq
    | next => exact hq.elim
    | brk => exact hq.elim
    | cont => exact hq.elim
end
end Sk
/-! Sk: try: body, except (A, B, C) as e: suite -/
namespace Sk
open PySem PySem.Spec PyProof.Rows L2
theorem flying_on {base h h' : Heap} {l : List Env} {e : Addr} {Z : Obj → Prop} (x : HandSPX.FlyingZ base l e Z h) (k : ∀ b o, h.get? b = some o → h'.get? b = some o) : HandSPX.FlyingZ base l e Z h' := by
  obtain ⟨f1, f2, f3, oe, vs, T, oT, ts, he, hz, hd, h1, hn, hne, hT, hdT, h3⟩ := x
  exact ⟨fun b o q => k b o (f1 b o q), f2, f3.of_keeps fun b o q _ => ⟨o, k b o q, rfl⟩, oe, vs, T, oT, ts, k _ _ he, hz, hd, h1, hn, hne, k _ _ hT, hdT, h3⟩
/-- what the clause wishes of an exception of the body -/
def wAs3 (K : Fg) (n : Nat) (cs : List Value) (i : Nat) (ts : Addr → Value → Option Addr → TS) (Wout : WX) (D : Ends) : WX := fun cls d σ H =>
  ∃ b, PySem.W.exmAny K cls cs = some b ∧ (b = true → σ.length = n → ∀ a, H a = none → ts a cls d { nx := fun σ' H' => D.nx (σ'.set i none) H', rt := D.rt, bk := fun σ' H' => D.bk (σ'.set i none) H', ct := fun σ' H' => D.ct (σ'.set i none) H' } (σ.set i (some (.ref a))) H) ∧
    (b = false → Wout cls d σ H)
section
variable {X : Cx} {x1 x2 x3 n : Str} {c1 c2 c3 : Value} {i tn : Nat} {body suite : List Stmt} {b₀ : Stmt} {p1 p2 p3 np pos pos' : Pos} {tb : WX → TS} {ts : Addr → Value → Option Addr → TS} {Wout : WX}
theorem try3 (hs : X.stack = X.env :: X.outer) (hf : X.env.frame = some X.env.locals) (hN : X.N.Nodup) (hi : X.N[i]? = some n) (hln : X.env.kindOf n = some .local) (n1 : Names X x1 c1) (n2 : Names X x2 c2) (n3 : Names X x3 c3) (tk : Takes X Wout)
    (hb : ∀ (W : WX) (pn : List (Addr × Obj)) (xe : Value → Shared → Prop), Takes (X.tr pn xe) W → PassesOwn (model X.prog X.w) X.A X.env xe → PSs (X.tr pn xe) body (tb W))
    (hsu : ∀ (a : Addr) (oe : Obj) (cls : Value) (d : Option Addr) (pn : List (Addr × Obj)), Zc cls d oe → (∃ vs, oe.data = .fields vs) → PSs (X.suite a ((a, oe) :: pn)) (b₀ :: suite) (ts a cls d)) :
    PS X (.Try body [.ExceptHandler (some (.Tuple [.Name x1 p1, .Name x2 p2, .Name x3 p3] tn np)) (some n) (b₀ :: suite) pos'] [] [] pos) (fun D σ H => tb (wAs3 X.K X.N.length [c1, c2, c3] i ts Wout D) D σ H) := by
  refine ⟨fun pins s σ H D I h => ?_⟩
  have ok := I.ok
  have hfr : X.A.frames = some (X.env :: X.outer) := by rw [ok.frames, hs]
  have hloc : Loc X.env.scope n := .inl hln
  refine wpAny_Try_except ?_
  refine wpAny_mono ((hb (wAs3 X.K X.N.length [c1, c2, c3] i ts Wout D) (X.pn ++ pins) (fun e s₁ => wpAny (model X.prog X.w) X.A (noteFrame e X.env) (fun _ s₂ => wpAny (model X.prog X.w) X.A (setFlight e none) (fun _ s₃ =>
    wpAny (model X.prog X.w) X.A (handleBy e X.env [.ExceptHandler (some (.Tuple [.Name x1 p1, .Name x2 p2, .Name x3 p3] tn np)) (some n) (b₀ :: suite) pos']) (SP X pins D) X.xe s₃) X.xe s₂) X.xe s₁) (fun u s' xx => ?_) PassesOwn.looking).run [] s σ H D (I.toTry _) h) (fun f s1 hsp => ?_) (fun e s1 he => he)
  · -- caught
    obtain ⟨a, B, sI, pins', σ', H', cls, d, rfl, J', nb, up, sky, na, os, ag, b, hb1, hyes, hno⟩ := xx
    have J : Inv X pins σ' H' sI := J'.ofTry ok
    have sky' : Sky B (X.env :: X.outer) a (Zc cls d) X.env.locals s'.heap := by rw [← hs]; exact sky
    show wpAny (model X.prog X.w) X.A (noteFrame (.ref a) X.env) _ _ _
    refine Sky.land Zc.steady hfr hf sky' fun h2 fl2 up2 => ?_
    have J2 : Inv X pins σ' H' { s' with heap := h2 } := J.landed nb fl2.1 (up.trans up2) os ag
    obtain ⟨oe2, vs2, he2, hz2, hd2⟩ := fl2.there
    have notFr : ∀ {h : Heap} {o : Obj} {vs : Array Value}, h.FunFrames B (X.env :: X.outer) → h.get? a = some o → o.data = .fields vs → a ∉ frs (X.env :: X.outer) := fun {h o vs} ff e dd hm => by
      obtain ⟨_, o', e', hnf⟩ := ff.mem hm
      rw [e] at e'; cases e'
      exact hnf _ dd
    have nfr := notFr fl2.2.2.1 he2 hd2
    have nL : a ≠ X.env.locals := fun z => nfr (List.mem_filterMap.mpr ⟨X.env, List.mem_cons_self, by rw [hf, z]⟩)
    have nF : a ∉ X.fs := fun hm => by
      obtain ⟨e, he, q⟩ := List.mem_filterMap.mp hm
      exact nfr (List.mem_filterMap.mpr ⟨e, List.mem_cons_of_mem _ he, q⟩)
    have S2 := J2.suite he2 hd2 na nL nF
    refine wpAny_handleBy_cons (codeAny_handlers_test ?_) (by intro q; cases q)
    have test : ∀ {x : Str} {c : Value} {p : Pos} {Q : Value → Shared → Prop} {E : Value → Shared → Prop}, Names X x c → Q c { s' with heap := h2 } → wpAny (model X.prog X.w) (X.A.mark (some (.ref a))) (eval (.Name x p) X.env) Q E { s' with heap := h2 } := fun {x c p Q E} hc q => by
      obtain ⟨hg, hdbg, hm | ⟨hm, hv, hnn⟩⟩ := hc
      · exact ld_glob (X := X.suite a ((a, oe2) :: (X.pn ++ pins))) S2 hg hm q hdbg
      · exact ld_blt (X := X.suite a ((a, oe2) :: (X.pn ++ pins))) S2 hg hm hv q hnn hdbg
    refine wpAny_Tuple ?_
    refine wpAny_items_cons (test n1 ?_)
    refine wpAny_items_cons (test n2 ?_)
    refine wpAny_items_cons (test n3 ?_)
    refine wpAny_items_nil ⟨by size_fits, ?_⟩
    have kp : ∀ q o, h2.get? q = some o → (h2.push { cls := .type "tuple", data := .seq [c1, c2, c3].toArray }).get? q = some o := fun _ _ z => Heap.get?_push_of_some _ z
    have fl3 := flying_on fl2 kp
    have up3 : h2.UpToSlots (h2.push { cls := .type "tuple", data := .seq [c1, c2, c3].toArray }) := Heap.UpToSlots.of_keeps kp
    have hp3 := Heap.get?_push_size h2 (o := ({ cls := .type "tuple", data := .seq [c1, c2, c3].toArray } : Obj)) rfl
    have J3 : Inv X pins σ' H' { s' with heap := h2.push { cls := .type "tuple", data := .seq [c1, c2, c3].toArray } } := J.landed nb fl3.1 ((up.trans up2).trans up3) os ag
    have LT : PySem.W.Looks (model X.prog X.w) (h2.push { cls := .type "tuple", data := .seq [c1, c2, c3].toArray }) (typeOf (.ref a)) cls := fun A Q E s k q => wpAny_typeOf_ref (k _ _ (kp _ _ he2)) (by rw [hz2.1]; exact q)
    refine (PySem.W.exm_tup3 (M := model X.prog X.w) J3.kIn LT hp3 hb1).here ?_
    cases b with
    | true =>
      refine codeAny_handlers_suite_as ?_
      refine HandSPX.lands_againZ fl3 fun h4 fl4 up4 => ?_
      have J4 : Inv X pins σ' H' { s' with heap := h4 } := J.landed nb fl4.1 (((up.trans up2).trans up3).trans up4) os ag
      obtain ⟨oe4, vs4, he4, hz4, hd4⟩ := fl4.there
      have S4 := J4.suite he4 hd4 na nL nF
      refine store_ok (X := X.suite a ((a, oe4) :: (X.pn ++ pins))) (v := .ref a) S4 hN hi hloc rfl (fun s5 S5 => ?_) (.inr hln)
      refine wpAny_mono ((hsu a oe4 cls d (X.pn ++ pins) hz4 ⟨_, hd4⟩).run [] s5 _ H' _ S5 (hyes rfl J'.len a na)) (fun f s6 hsp => ?_) (fun _ _ z => False.elim z)
      have end_ : ∀ {σ6 : L2.St} {H6 : Hp} {Q : Shared → Prop}, Inv (X.suite a ((a, oe4) :: (X.pn ++ pins))) [] σ6 H6 s6 → (∀ s7, Inv X pins (σ6.set i none) H6 s7 → Q s7) →
          wpAny (model X.prog X.w) X.A (do bindName X.env n .none; unbindBehindTheSuite X.env n pos') (fun _ s7 => Q s7) X.xe s6 := fun {σ6 H6 Q} S6 hq => gone_ok (S6.unsuite ok) hN hi hln hq
      cases f with
      | next =>
        obtain ⟨σ6, H6, S6, q6⟩ := hsp
        exact end_ S6 fun s7 J7 => ⟨_, _, J7, q6⟩
      | brk =>
        obtain ⟨σ6, H6, S6, q6⟩ := hsp
        exact end_ S6 fun s7 J7 => ⟨_, _, J7, q6⟩
      | cont =>
        obtain ⟨σ6, H6, S6, q6⟩ := hsp
        exact end_ S6 fun s7 J7 => ⟨_, _, J7, q6⟩
      | ret u =>
        obtain ⟨v6, σ6, H6, S6, r6, q6⟩ := hsp
        exact end_ S6 fun s7 J7 => ⟨_, _, _, J7, r6, q6⟩
    | false =>
      show wpAny _ X.A (handleBy (.ref a) X.env []) _ _ _
      refine wpAny_handleBy_nil ?_
      obtain ⟨k1, k2, k3, oe, vs, T, oT, ts', he, hz, hd, h1, hr⟩ := id fl3
      unfold PySem.passOn
      refine wpAny_bind (wpAny_field he hd h1 ?_)
      rw [if_neg (show ¬ ((Value.ref T == Value.none) = true) from by simp)]
      have fin : wpAny (model X.prog X.w) X.A (setFlight (.ref a) X.env.frame) (fun _ s4 => wpAny (model X.prog X.w) X.A (throw (.ref a) : Sem Flow) (SP X pins D) X.xe s4) X.xe { s' with heap := h2.push { cls := .type "tuple", data := .seq [c1, c2, c3].toArray } } := by
        rw [hf]
        refine HandSPX.setFlight_upZ fl3 fun h4 hh4 up4 => wpAny_throw (tk _ _ ?_)
        exact ⟨a, B, sI, pins, σ', H', cls, d, rfl, J, nb, ((up.trans up2).trans up3).trans up4, .inr (.inr (by rw [hs]; exact hh4)), na, os, ag, hno rfl⟩
      first
        | exact wpAny_bind (wpAny_pure (wpAny_bind fin))
        | exact wpAny_bind fin
  · cases f with
    | next =>
      obtain ⟨σ', H', J', q⟩ := hsp
      exact wpAny_execs_nil ⟨σ', H', J'.ofTry ok, q⟩
    | brk =>
      obtain ⟨σ', H', J', q⟩ := hsp
      exact ⟨σ', H', J'.ofTry ok, q⟩
    | cont =>
      obtain ⟨σ', H', J', q⟩ := hsp
      exact ⟨σ', H', J'.ofTry ok, q⟩
    | ret u =>
      obtain ⟨v, σ', H', J', r, q⟩ := hsp
      exact ⟨v, σ', H', J'.ofTry ok, r, q⟩
end
end Sk
/-! Sk: list.count, list.index; the kinds of errors; defs that raise -/
namespace Sk
open PySem PySem.Spec PyProof.Rows L2
section
variable {X : Cx}
theorem count_rel {y : V} : ∀ {ys : List V} {us : List Value}, Vals ys us → ys.all flatV = true → us.countP (eqU y) = ys.countP fun z => eqV z y
  | _, _, .nil, _ => rfl
  | z :: ys, u :: us, .cons r t, f => by
    rw [List.all_cons, Bool.and_eq_true] at f
    rw [List.countP_cons, List.countP_cons, count_rel t f.2, eqU_of r f.1]
theorem mt_countV : MtR X "list.count" (fun x xs H Q => ∃ (a : Addr) (ys : List V) (y : V), x = V.ref a ∧ xs = [y] ∧ SqL X.K H a ys ∧ flatV y = true ∧ ys.all flatV = true ∧ Q (.int ((ys.countP fun z => eqV z y : Nat) : Int)) H) := by
  intro pins s σ H x xs v us Q I rx rxs h
  obtain ⟨p, ys, y, rfl, rfl, hs, fy, fys, q⟩ := h
  cases rx
  obtain ⟨u, rfl, ru⟩ := rxs.one
  obtain ⟨its, rv, ⟨⟨cls, dd, data, sl⟩, n, ho, hc, hdn, hd⟩, hlen⟩ := I.list hs
  simp only at hc hd
  subst hc hd
  refine call_meets PySem.F.slot_list_count ⟨_, ho, rfl⟩ PySem.F.entry_list_count (PySem.F.args_list_count_2 _ _)
    (SeqAt.list_countAt p its.toArray n dd sl u (eqU y)) ⟨ho, fun u' hu' => mem_eqAt ru fy rv fys u' (by simpa using hu'), ?_⟩
  have ec : its.toArray.toList.countP (eqU y) = ys.countP fun z => eqV z y := count_rel rv fys
  refine ⟨.int ((ys.countP fun z => eqV z y : Nat) : Int), H, I.tok _, ⟨s.toks, ?_⟩, q⟩
  show Value.int ((its.toArray.toList.countP (eqU y) : Nat) : Int) s.toks = _
  rw [ec]
/-- xs.count(y), xs.index(y) of flat things -/
def uCnt (K : Fg) (to te : TE) : TE := fun σ H Q => to σ H fun x H1 => match x with
  | .ref p => (∃ xs, SqL K H1 p xs) ∧ te σ H1 fun y H2 => ∃ ys, SqL K H2 p ys ∧ flatV y = true ∧ ys.all flatV = true ∧ Q (.int ((ys.countP fun z => eqV z y : Nat) : Int)) H2
  | _ => False
def uIdx (K : Fg) (to te : TE) : TE := fun σ H Q => to σ H fun x H1 => match x with
  | .ref p => (∃ xs, SqL K H1 p xs) ∧ te σ H1 fun y H2 => ∃ ys j z, SqL K H2 p ys ∧ flatV y = true ∧ ys.all flatV = true ∧ ys[j]? = some z ∧ eqV z y = true ∧ (∀ (m : Nat) (z' : V), m < j → ys[m]? = some z' → eqV z' y = false) ∧ Q (.int ((j : Nat) : Int)) H2
  | _ => False
theorem kcnt (K : Fg) {o e : Expr} {to te : TE} {apos cpos : Pos} (ho : PE X o to) (he : PE X e te) (hK : X.K = K := by rfl) (hbase : attributeBase o "count" X.env (eval o X.env) = eval o X.env := by rfl)
    (hfew : ((backTo cpos (starEach [e] X.env)).all (fun x => !x.1) && (backToKw cpos (keywordEach [] X.env)).all (fun x => x.1.isSome) && decide ([e].length + ([] : List Keyword).length + (if ([] : List Keyword).isEmpty then 0 else 1) < 30)) = true := by rfl)
    (hline : (apos.endLine == cpos.line) = true := by rfl) (hs : starEach [e] X.env = (false, eval e X.env) :: starEach [] X.env := by rfl) : PE X (.Call (.Attribute o "count" apos) [e] [] cpos) (uCnt K to te) := by
  subst hK
  refine PEw (pe_bm PySem.F.plainAttrs_list PySem.F.slot_list_count PySem.F.type_list_count mt_countV (up ho) (pa_cons (up he) pa_nil (hs := hs)) hbase hfew hline hs (by rfl)) fun σ H Q q => ⟨_, fun x H1 z => ?_, q⟩
  cases x with
  | ref p =>
    obtain ⟨⟨xs, hx⟩, z⟩ := z
    refine ⟨.inl ⟨rfl, xs, hx⟩, _, fun y H2 z2 => ?_, z⟩
    obtain ⟨ys, h1, h2, h3, h4⟩ := z2
    exact ⟨p, ys, y, rfl, rfl, h1, h2, h3, h4⟩
  | _ => exact z.elim
theorem kidx (K : Fg) {o e : Expr} {to te : TE} {apos cpos : Pos} (ho : PE X o to) (he : PE X e te) (hK : X.K = K := by rfl) (hbase : attributeBase o "index" X.env (eval o X.env) = eval o X.env := by rfl)
    (hfew : ((backTo cpos (starEach [e] X.env)).all (fun x => !x.1) && (backToKw cpos (keywordEach [] X.env)).all (fun x => x.1.isSome) && decide ([e].length + ([] : List Keyword).length + (if ([] : List Keyword).isEmpty then 0 else 1) < 30)) = true := by rfl)
    (hline : (apos.endLine == cpos.line) = true := by rfl) (hs : starEach [e] X.env = (false, eval e X.env) :: starEach [] X.env := by rfl) : PE X (.Call (.Attribute o "index" apos) [e] [] cpos) (uIdx K to te) := by
  subst hK
  refine PEw (pe_bm PySem.F.plainAttrs_list PySem.F.slot_list_index PySem.F.type_list_index mt_index (up ho) (pa_cons (up he) pa_nil (hs := hs)) hbase hfew hline hs (by rfl)) fun σ H Q q => ⟨_, fun x H1 z => ?_, q⟩
  cases x with
  | ref p =>
    obtain ⟨⟨xs, hx⟩, z⟩ := z
    refine ⟨.inl ⟨rfl, xs, hx⟩, _, fun y H2 z2 => ?_, z⟩
    obtain ⟨ys, j, w, h1, h2, h3, h4⟩ := z2
    exact ⟨p, ys, y, j, w, rfl, rfl, h1, h2, h3, h4⟩
  | _ => exact z.elim
/-- x.split(y) of texts -/
def uSplit (to te : TE) : TE := fun σ H Q => to σ H fun x H1 => (∃ a, x = .str a) ∧ te σ H1 fun y H2 => ∃ a b, x = .str a ∧ y = .str b ∧ (b.length == 0) = false ∧ a.length + 2 ≤ sizeLine ∧ ∀ p, H2 p = none → Q (.ref p) (upd H2 p (.lst ((Txt.split a b).map V.str)))
theorem ksplit {o e : Expr} {to te : TE} {apos pos : Pos} (h : PE X (.Call (.Attribute o "split" apos) [e] [] pos) (tM1 (fun x xs H Q => ∃ a b, x = .str a ∧ xs = [.str b] ∧ (b.length == 0) = false ∧ a.length + 2 ≤ sizeLine ∧ rNewStrs (Txt.split a b) H Q) (upE to) (upE te))) : PE X (.Call (.Attribute o "split" apos) [e] [] pos) (uSplit to te) :=
  PEw h fun σ H Q q => ⟨_, fun x H1 z => ⟨z.1, _, fun y H2 z2 => by obtain ⟨a, b, h1, h2, h3⟩ := z2; exact ⟨a, b, h1, by rw [h2], h3⟩, z.2⟩, q⟩
end
/-! ### the kinds of errors -/
def errA : List Str := ["InvalidName", "InvalidText", "InvalidValue", "InvalidTree", "InvalidContext", "InvalidPage", "InvalidBody", "InvalidTag", "Misplaced", "InvalidPlan", "InvalidPass", "InvalidPatches", "InvalidSize", "InvalidAction", "InvalidCommand", "NotALibrary", "TypeTrouble"]
def errB : List Str := ["NameTaken", "MissingTemplate", "InUse", "Ring", "Unfit", "NoSuchPath", "NotLate", "NotDone", "Busy", "NothingToUndo"]
def errC : List Str := ["TooManyTemplates", "TooManyLevels", "TooManyNodes", "TooManyElements", "TooManyEntries", "TooDeep"]
def errN : List Str := errA ++ errB ++ errC
def errF : List Str := ["called", "value", "position", "index", "path", "found", "reason", "written", "context", "size", "part", "command"]
/-- the class C is the error j -/
def kindB (K : Fg) (C : Addr) (j : Nat) : Bool :=
  decide (j < 33) && (xfB K C && ((decide (PySem.W.findIn K (.ref C) "__class__" = some (some (.builtin "object.__class__"))) && (decide (PySem.W.specialIn K (.builtin "object.__class__") "__get__" = some (some (.builtin "getset_descriptor.__get__"))) && (decide (PySem.W.takesIn K (.builtin "object.__class__") = some true) && decide (PySem.W.mroIn K C (.type "object") = some true))))
    && (errF.all (fun f => decide (PySem.W.findIn K (.ref C) f = some none)) && ((List.range 33).all (fun i => decide (PySem.W.kitOne K (.ref C) (.ref (He.ga K (errN.getD i ""))) = some (decide (i = j))))
    && ((decide (PySem.W.kitOne K (.ref C) (.ref (He.ga K "ShapeError")) = some (decide (j < 17))) && (decide (PySem.W.kitOne K (.ref C) (.ref (He.ga K "StateError")) = some (decide (16 < j ∧ j < 27))) && decide (PySem.W.kitOne K (.ref C) (.ref (He.ga K "SizeError")) = some (decide (26 < j)))))
    && ((decide (PySem.W.kitOne K (.ref C) (.type "ValueError") = some (decide (j < 17))) && (decide (PySem.W.kitOne K (.ref C) (.type "LookupError") = some (decide (16 < j ∧ j < 27))) && decide (PySem.W.kitOne K (.ref C) (.type "ArithmeticError") = some (decide (26 < j)))))
    && decide (PySem.W.exmAny K (.ref C) [.ref (He.ga K "ShapeError"), .ref (He.ga K "StateError"), .ref (He.ga K "SizeError")] = some true)))))))
structure KindAt (K : Fg) (C : Addr) (j : Nat) : Prop where
  lt : j < 33
  xf : XfC K C
  exc : L2.ExcC K C
  no : ∀ f ∈ errF, PySem.W.findIn K (.ref C) f = some none
  kit : ∀ i < 33, PySem.W.kitOne K (.ref C) (.ref (He.ga K (errN.getD i ""))) = some (decide (i = j))
  b0 : PySem.W.kitOne K (.ref C) (.ref (He.ga K "ShapeError")) = some (decide (j < 17))
  b1 : PySem.W.kitOne K (.ref C) (.ref (He.ga K "StateError")) = some (decide (16 < j ∧ j < 27))
  b2 : PySem.W.kitOne K (.ref C) (.ref (He.ga K "SizeError")) = some (decide (26 < j))
  o0 : PySem.W.kitOne K (.ref C) (.type "ValueError") = some (decide (j < 17))
  o1 : PySem.W.kitOne K (.ref C) (.type "LookupError") = some (decide (16 < j ∧ j < 27))
  o2 : PySem.W.kitOne K (.ref C) (.type "ArithmeticError") = some (decide (26 < j))
  exm : PySem.W.exmAny K (.ref C) [.ref (He.ga K "ShapeError"), .ref (He.ga K "StateError"), .ref (He.ga K "SizeError")] = some true
theorem kindB_ok {K : Fg} {C : Addr} {j : Nat} (h : kindB K C j = true) : KindAt K C j := by
  unfold kindB at h
  obtain ⟨h1, h⟩ := He.ba h
  obtain ⟨h2, h⟩ := He.ba h
  obtain ⟨h3, h⟩ := He.ba h
  obtain ⟨a1, h3⟩ := He.ba h3
  obtain ⟨a2, h3⟩ := He.ba h3
  obtain ⟨a3, a4⟩ := He.ba h3
  obtain ⟨h4, h⟩ := He.ba h
  obtain ⟨h5, h⟩ := He.ba h
  obtain ⟨h6, h⟩ := He.ba h
  obtain ⟨c1, h6⟩ := He.ba h6
  obtain ⟨c2, c3⟩ := He.ba h6
  obtain ⟨h7, h8⟩ := He.ba h
  obtain ⟨e1, h7⟩ := He.ba h7
  obtain ⟨e2, e3⟩ := He.ba h7
  have X := xfB_ok h2
  exact ⟨of_decide_eq_true h1, X, ⟨X.ga, X.gg, X.exC, X.hdC, of_decide_eq_true a1, of_decide_eq_true a2, of_decide_eq_true a3, of_decide_eq_true a4⟩, fun f hf => of_decide_eq_true (List.all_eq_true.mp h4 f hf),
    fun i hi => of_decide_eq_true (List.all_eq_true.mp h5 i (List.mem_range.mpr hi)), of_decide_eq_true c1, of_decide_eq_true c2, of_decide_eq_true c3, of_decide_eq_true e1, of_decide_eq_true e2, of_decide_eq_true e3, of_decide_eq_true h8⟩
theorem KindAt.one {K : Fg} {C : Addr} {j : Nat} (k : KindAt K C j) (i : Nat) (h : i < 33 := by decide) : kitV K C (.ref (He.ga K (errN.getD i ""))) = some (decide (i = j)) := k.kit i h
theorem KindAt.any {K : Fg} {C : Addr} {j : Nat} (k : KindAt K C j) : ∀ (is : List Nat), (∀ i ∈ is, i < 33) → kitVs K C (is.map fun i => .ref (He.ga K (errN.getD i ""))) = some (is.any fun i => decide (i = j))
  | [], _ => rfl
  | i :: is, h => by
    rw [List.map_cons]
    unfold kitVs
    rw [k.one i (h i (List.mem_cons_self ..)), List.any_cons]
    cases e : decide (i = j) with
    | true => rfl
    | false =>
      rw [Bool.false_or]
      exact k.any is fun q hq => h q (List.mem_cons_of_mem _ hq)
/-! ### a def that may raise, called where it does not -/
theorem fnok_calm {P : Program} {w : World} {K : Fg} {mg : Str → Option Value} {base : Heap} {k : Nat} {f : Addr} {fd : FuncData} {ps : List Str} {sp : Sp} (F : FnOk P w K mg base (L2.CX P w) k f fd ps sp) : FnOk P w K mg base CX0 k f fd ps (fun vs H Q _ => sp vs H Q fun _ _ _ => False) :=
  ⟨fun vs H Q E h => F.len vs H Q _ h, fun A outer s H args us vs Q E hr e0 hb rv h => codeAny_mono (F.run A outer s H args us vs Q _ hr e0 hb rv h) fun r s' z => by
    cases r with
    | error e =>
      obtain ⟨_, _, _, _, _, _, _, _, _, _, _, _, z⟩ := (show L2.CX P w outer H s (fun _ _ _ => False) e s' from z)
      exact z.elim
    | ok fl => cases fl <;> exact z⟩
end Sk
/-! Sk: enumerate over a tuple -/
namespace Sk
open PySem PySem.Spec PyProof.Rows L2
theorem meets_enum1 {v : Value} {o : Obj} {H : Heap → Prop} (B : Begins v o H) :
    Meets (Builtin.«enumerate.__new__» ⟨[.type "enumerate", v], []⟩) (fun _ R s => H s.heap ∧
      R (.ok (.ret (.ref (s.heap.push o).objs.size))) { s with heap := (s.heap.push o).push { cls := .type "enumerate", data := .fields #[.none, .bool false, .ref s.heap.objs.size, rawInt 0, .none, .none] } }) :=
  .of_wp fun prog w A R s h => by
    obtain ⟨hp, g, d, tk, os⟩ := s; obtain ⟨h1, h⟩ := h
    have hsub := sub_enumerate
    have q1 : ∀ {A' : Around} {E : Value → Shared → Prop} {Q : Value → Shared → Prop}, Q (.ref hp.objs.size) ⟨hp.push o, g, d, tk, os⟩ → wpAny (model prog w) A' (pyIter v) Q E ⟨hp, g, d, tk, os⟩ :=
      fun q => B.iter prog w _ _ ⟨hp, g, d, tk, os⟩ _ h1 q
    wp_walk using q1
    refine wpAny_stack_any fun st => wpAny_pure ?_
    split
    · rename_i c _ _ _ _ _
      cases (c == Value.type "enumerate")
      · wp_walk using q1
        exact ⟨_, rfl, h⟩
      · wp_walk using q1
        exact ⟨_, rfl, h⟩
    · wp_walk using q1
      exact ⟨_, rfl, h⟩
theorem call_enum1 {prog : Program} {w : World} {A : Around} {E : Value → Shared → Prop} {s : Shared} {v : Value} {o : Obj} {H : Heap → Prop} {Q : Value → Shared → Prop} (B : Begins v o H) (h1 : H s.heap)
    (h : ∀ h', IsEnum h' (s.heap.objs.size + 1) s.heap.objs.size 0 .none → h'.get? s.heap.objs.size = some o → h'.objs.size = s.heap.objs.size + 2 →
      (∀ b o, s.heap.get? b = some o → h'.get? b = some o) → Q (.ref (s.heap.objs.size + 1)) { s with heap := h' }) :
    wpAny (model prog w) A (call (.type "enumerate") [v]) Q E s := by
  refine callType_new PySem.F.called_enumerate (by decide) (PySem.F.typeCall_enumerate_1 _) (PySem.F.newCall_enumerate_1 _) (fun obj => PySem.F.args_object_init_2 obj _) PySem.F.entry_enumerate_new (meets_enum1 B) ⟨h1, ?_⟩
  have hz : (s.heap.push o).objs.size = s.heap.objs.size + 1 := Heap.size_push ..
  show _ ∧ _
  rw [hz]
  have he : IsEnum ((s.heap.push o).push { cls := .type "enumerate", data := .fields #[.none, .bool false, .ref s.heap.objs.size, rawInt 0, .none, .none] }) (s.heap.objs.size + 1) s.heap.objs.size 0 .none := by
    have := Heap.get?_push_size (s.heap.push o) (o := { cls := .type "enumerate", data := .fields #[.none, .bool false, .ref s.heap.objs.size, rawInt 0, .none, .none] }) rfl
    rw [hz] at this; exact this
  refine ⟨⟨_, he, rfl⟩, h _ he (Heap.get?_push_of_some _ (Heap.get?_push_size _ B.free)) (by rw [Heap.size_push, hz]) fun b o x => Heap.get?_push_of_some _ (Heap.get?_push_of_some _ x)⟩
theorem enum_end_tuple {prog : Program} {w : World} {A : Around} {E : Value → Shared → Prop} {s : Shared} {e it l : Addr} {i : Nat} {items : Array Value} {old : Value} {Q : Option Value → Shared → Prop} (hh : A.handled = none)
    (he : IsEnum s.heap e it i old) (hit : s.heap.IsTupleIter it l i) (hl : s.heap.IsTuple l items) (hx : items[i]? = none)
    (hQ : ∀ h', Heap.ExtBut it s.heap h' → Q none { s with heap := h' }) : wpAny (model prog w) A (pyNext (.ref e)) Q E s := by
  have hT : s.TypeIs (.ref e) "enumerate" := ⟨_, he, rfl⟩
  unfold pyNext
  refine wpAny_bind (wpAny_attempt (wpAny_callSpecial?_slot (name := Str.ofString "__next__") hT PySem.F.slot_enumerate_next
    (wpAny_call_entry PySem.F.slot_enumerate_next hT PySem.F.entry_enumerate_next ?_ (PySem.F.args_enumerate_next_1 _))))
  show wpAny _ _ (field (.ref e) 2 >>= _) _ _ _
  refine wpAny_bind (wpAny_field he rfl (x := .ref it) rfl ?_)
  refine wpAny_bind (wpAny_nextOf_tuple_end hh hit hl hx fun h' x he' hx' => ?_)
  obtain ⟨o, ho, hc⟩ := hx'
  refine wpAny_bind (wpAny_isInstance (T := "StopIteration") (b := true) ⟨o, ho, hc⟩ isSubtype_stop ?_)
  exact wpAny_pure (hQ _ he')
/-- a tuple's items, each in a new pair -/
def Iten (K : Fg) (a : Addr) : It :=
  ⟨fun i H => ∃ (xs : List V) (x : V), SqT K H a xs ∧ xs[i]? = some x, fun i H v H' => ∃ T x, v = .ref T ∧ H T = none ∧ H' = upd H T (.tup [.int (i : Nat), x]) ∧ ∀ xs, SqT K H a xs → xs[i]? = some x, fun i H => ∃ xs : List V, SqT K H a xs ∧ xs.length ≤ i⟩
theorem walk_iten {K : Fg} {a : Addr} {xs : List V} : Walk (Iten K a) xs.length (fun H => SqT K H a xs) (YPair (fun i => some (.int (i : Nat))) (fun i => xs[i]?)) := by
  refine ⟨fun i H hi g => ⟨xs, xs[i], g, List.getElem?_eq_getElem hi⟩, fun H g => ⟨xs, g, Nat.le_refl _⟩, fun i H x H' hi g y => ?_⟩
  obtain ⟨T, z, e1, e2, e3, e4⟩ := y
  exact ⟨T, .int (i : Nat), z, e1, e2, e3, rfl, e4 xs g⟩
theorem turn_iten {P : Program} {w : World} {K : Fg} {elts : List Expr} {kk : Nat} {tpos : Pos} (a e it : Addr) (hae : a ≠ e) (hai : a ≠ it) :
    Turn P w K (.Tuple elts kk tpos) (Iten K a) [e, it] e (fun i h => (∃ old, IsEnum h e it ((i : Nat) : Int) old) ∧ h.IsTupleIter it a i ∧ e ≠ it) where
  mem := by simp
  obj := fun i h st b hb => by
    obtain ⟨⟨old, he⟩, ⟨o, ho, hc, hd⟩, _⟩ := st
    have e' : b = e ∨ b = it := by simpa using hb
    rcases e' with z | z
    · rw [z]; exact ⟨_, he, fun v q => nomatch q⟩
    · rw [z]; exact ⟨o, ho, fun v q => by rw [hd] at q; cases q⟩
  keep := fun i h h' st k => let ⟨⟨old, he⟩, hi, hne⟩ := st; ⟨⟨old, k e (by simp) _ he⟩, hi.at fun o q => k it (by simp) o q, hne⟩
  item := by
    intro X hP hw hK hc i pins s σ H E I hf st hg
    subst hP hw hK
    obtain ⟨⟨old, he⟩, hit, hne⟩ := st
    obtain ⟨xs, x, hq, hx⟩ := hg
    obtain ⟨its, rv, p, hz⟩ := I.tuple hq
    obtain ⟨u, hu, ru⟩ := rv.get hx
    have hel : e < s.heap.objs.size := Heap.lt_size he
    have hil : it < s.heap.objs.size := by obtain ⟨_, q, _⟩ := hit; exact Heap.lt_size q
    have hin : i < its.length := (List.getElem?_eq_some_iff.mp hu).1
    have D := Draws.tuple (prog := X.prog) (w := X.w) (A := X.A.in1) (I.ok.hd hc) it a hai its.toArray
    refine wpAny_pyNext_enum_itemD D he ⟨hit, show s.heap.IsTuple a its.toArray from p⟩ (by simpa using hin) hne (by simp [Ne.symm hae, hne]) fun v h' tk hv ho hit' hT hsz hk => ?_
    have ev : v = u := by
      have z : its[i]? = some v := by simpa using hv
      rw [hu] at z
      exact (Option.some.inj z).symm
    subst ev
    refine ⟨_, rfl, wpAny_letOwnedTupleGo_enum (s := { s with heap := h', toks := tk + 1 }) ho fun h'' he' sb => ?_⟩
    have hT2 : h''.get? s.heap.objs.size = some { cls := .type "tuple", data := .seq #[.int i tk, v] } := (sb.2 _ (Nat.ne_of_gt hel)).trans hT
    have new : ObjOk X.prog X.w (upd H s.heap.objs.size (.tup [.int (i : Nat), x])) h'' s.heap.objs.size (.tup [.int (i : Nat), x]) :=
      ⟨by show 2 ≤ sizeLine; decide, [.int i tk, v], .cons ⟨_, rfl⟩ (.cons ru .nil), ⟨_, hT2, rfl, _, rfl⟩⟩
    have I1 : Inv X pins σ (upd H s.heap.objs.size (.tup [.int (i : Nat), x])) { s with heap := h'', toks := tk + 1 } :=
      I.turnedNew (ch := [e, it]) (fun b ob hb q => (sb.2 b (fun z => hb (by simp [z]))).trans (hk b ob (fun z => hb (by simp [z])) (fun z => hb (by simp [z])) q)) hf (Nat.le_refl _) new
    refine ⟨.ref s.heap.objs.size, _, I1, rfl, ⟨_, x, rfl, I.hok.fresh (Nat.le_refl _), rfl, fun ys hy => by rw [I.tuple_inj hy hq]; exact hx⟩, ⟨⟨v, ?_⟩, hit'.1.at fun o q => (sb.2 it (Ne.symm hne)).trans q, hne⟩, fun b hb => ?_⟩
    · have e1 : ((i + 1 : Nat) : Int) = (i : Int) + 1 := by omega
      rw [e1]; exact he'
    · have hb' : b < s.heap.objs.size := by
        have e' : b = e ∨ b = it := by simpa using hb
        rcases e' with z | z
        · rw [z]; exact hel
        · rw [z]; exact hil
      rw [upd_ne (Nat.ne_of_lt hb')]
      exact (hf b hb).1
  done := by
    intro X hP hw hK hc i pins s σ H E I hf st hg
    subst hP hw hK
    obtain ⟨⟨old, he⟩, hit, hne⟩ := st
    obtain ⟨xs, hq, hx⟩ := hg
    obtain ⟨its, rv, p, hz⟩ := I.tuple hq
    obtain ⟨f0, f1, f2, f3, f4, f5⟩ := hf it (by simp)
    have hl := rv.length
    have fin : ∀ h', Heap.ExtBut it s.heap h' → (none : Option Value) = none ∧ Inv X pins σ H { s with heap := h' } := fun h' eb => ⟨rfl, I.turned (t' := s.toks) (fun b o hb q => eb b o hb q) f0 f1 f3 f4 f5⟩
    exact enum_end_tuple (I.ok.hd hc) he hit (show s.heap.IsTuple a its.toArray from p) (by simp; omega) fin
  self := fun A i s Q E st h => let ⟨⟨_, he⟩, _⟩ := st; wpAny_pyIter_enum he h
/-- for i, x in enumerate(t), t a tuple -/
def iEnumT (K : Fg) (te : TE) : TI := fun σ H R => te σ H fun v H1 => match v with
  | .ref a => ∃ xs, SqT K H1 a xs ∧ ∀ (J : It), Walk J xs.length (fun H => SqT K H a xs) (YPair (fun i => some (.int (i : Nat))) (fun i => xs[i]?)) → R J H1
  | _ => False
theorem ienumT {X : Cx} (K : Fg) {e : Expr} {te : TE} {p pos tpos : Pos} {elts : List Expr} {kk : Nat} (hg : Gl X "enumerate") (hm : X.mg "enumerate" = none) (he : PE X e te) (hK : X.K = K := by rfl) (hs : starEach [e] X.env = [(false, eval e X.env)] := by rfl) :
    PI X (.Tuple elts kk tpos) (.Call (.Name "enumerate" p) [e] [] pos) (iEnumT K te) := by
  subst hK
  refine ⟨fun pins s σ H R I h => ?_⟩
  refine Call_ (ld_blt I hg hm boot_enumerate (PyProof.Rows.callWith_type1 (thn ((pa_cons (up he) pa_nil (hs := hs)).run pos pins s σ H (fun vs H1 => ∃ a xs, vs = [.ref a] ∧ SqT X.K H1 a xs ∧ ∀ (J : It), Walk J xs.length (fun H => SqT X.K H a xs) (YPair (fun i => some (.int (i : Nat))) (fun i => xs[i]?)) → R J H1) I ⟨_, fun v H1 z => ?_, h⟩) fun us s1 ⟨vs, H1, I1, r1, q1⟩ => ?_) hs rfl))
  · cases v with
    | ref a =>
      obtain ⟨xs, h1, h2⟩ := z
      exact ⟨a, xs, rfl, h1, h2⟩
    | _ => exact z.elim
  obtain ⟨a, xs, ex, hq, q⟩ := q1
  subst ex
  cases r1 with
  | cons r rr =>
    cases rr
    cases r
    obtain ⟨its, rv, p', hz⟩ := I1.tuple hq
    have ht : s1.heap.IsTuple a its.toArray := p'
    have hal : a < s1.heap.objs.size := by obtain ⟨o, ho, _⟩ := ht; exact Heap.lt_size ho
    refine call_enum1 (begins_tuple a its.toArray) ht fun h' he hit hsz hk => wpAny_pyIter_enum he ?_
    have I2 : Inv X pins σ H1 { s1 with heap := h' } := I1.kept (t' := s1.toks) hk
    refine ⟨s1.heap.objs.size + 1, [s1.heap.objs.size + 1, s1.heap.objs.size], _, _, H1, rfl, I2, turn_iten a (s1.heap.objs.size + 1) s1.heap.objs.size (Nat.ne_of_lt (Nat.lt_succ_of_lt hal)) (Nat.ne_of_lt hal), ⟨⟨.none, he⟩, ⟨_, hit, rfl, rfl⟩, Nat.succ_ne_self _⟩, fun b hb => ?_, q _ walk_iten⟩
    have e' : b = s1.heap.objs.size + 1 ∨ b = s1.heap.objs.size := by simpa using hb
    have hle : s1.heap.objs.size ≤ b := by
      rcases e' with z | z
      · rw [z]; exact Nat.le_add_right _ _
      · rw [z]; exact Nat.le_refl _
    exact I1.fpOk hle (I1.hok.fresh hle)
end Sk
/-! Sk: a law's end with tables of code objects, where no repr is under way; a comprehension with any invariant -/
namespace Sk
open PySem PySem.Spec PyProof.Rows L2
abbrev tab0 : Obj := { cls := .none, data := .fields #[] }
/-- the tables are tracked too -/
theorem tabs_heap {K : Fg} {h : Heap} {a : Addr} {vs : List Value} {ns : List Int} {ts : List Addr} (KX : K.In h) (ha : h.get? a = some { cls := .type "list", data := .seq vs.toArray }) (hi : IntsAre vs ns) (hl : ns.length ≤ sizeLine) (hT : ∀ p ∈ ts, h.get? p = some tab0) :
    ∃ H : Hp, (∀ p ∈ ts, H p = some (.tbl #[])) ∧ (∀ b, b ∉ ts → H b = none ∨ (b = a ∧ K.lookup a = none ∧ H b = some (.frz { cls := .type "list", data := .seq vs.toArray } (.lst (ns.map V.int))))) ∧ SqL K H a (ns.map V.int) := by
  obtain ⟨G, g1, g2⟩ := script_heap KX ha hi hl
  have na : a ∉ ts := fun z => by
    have e := hT a z
    rw [ha] at e
    have e2 : Data.seq vs.toArray _ = Data.fields #[] := congrArg Obj.data (Option.some.inj e)
    cases e2
  refine ⟨fun b => if b ∈ ts then some (.tbl #[]) else G b, fun p hp => if_pos hp, fun b hb => ?_, ?_⟩
  · have e : (if b ∈ ts then some (HO.tbl #[]) else G b) = G b := if_neg hb
    simp only [e]
    exact g1 b
  · have e : (if a ∈ ts then some (HO.tbl #[]) else G a) = G a := if_neg na
    rcases g2 with (z | ⟨o, z⟩) | z
    · exact .inl (.inl (e.trans z))
    · exact .inl (.inr ⟨o, e.trans z⟩)
    · exact .inr z
theorem endGT {P : Program} {w : World} {K : Fg} {mg mb : Str → Option Value} {k : Nat} {fa a : Addr} {fd : FuncData} {x : Str} {sp : Sp} {s : Shared} {vs : List Value} {ns : List Int} {cs : List (Addr × Addr)}
    (KX : K.In s.heap) (gs : s.heap.Ns mainGlobals mg) (bs : s.heap.Ns builtinsNs mb) (boot : ∀ x : Str, x ≠ "__name__" → mb x = bootBuiltins x) (lim : s.heap.NoLimit) (gens : s.gens = #[])
    (hT : ∀ p ∈ cs, s.heap.get? p.2 = some tab0) (nT : ∀ p ∈ cs, K.lookup p.2 = none) (hC : ∀ p ∈ cs, PySem.W.CodeHd s.heap p.1 p.2)
    (bmod : ∃ (bm : Addr) (ob : Obj), mg "__builtins__" = some (.ref bm) ∧ bm ≠ builtinsNs ∧ s.heap.get? bm = some ob ∧ ob.cls = .type "module" ∧ ob.dict = some builtinsNs ∧ ob.data = .plain)
    (ha : s.heap.get? a = some { cls := .type "list", data := .seq vs.toArray }) (hi : IntsAre vs ns) (hl : ns.length ≤ sizeLine) (room : Room k callerA)
    (F : ∀ base : Heap, K.In base → base.Ns mainGlobals mg → (∀ p ∈ cs, LamX.TabB base mg p.1 p.2) → FnG P w K mg base k fa fd [x] sp) (bind : ∀ (s : Shared) (u : Value), BindsTo s fd ⟨[u], []⟩ [(x, u)])
    (want : ∀ H : Hp, (∀ p ∈ cs, H p.2 = some (.tbl #[])) → SqL K H a (ns.map V.int) → sp [.ref a] H (fun v _ => v = .bl true) fun _ _ _ => False) :
    codeAny (model P w) callerA (.call (.ref fa) ⟨[.ref a], []⟩) (fun r s' => r = .ok (.ret (.bool true)) ∧ OldK s.heap s'.heap ∧ s'.os = s.os ∧ AllBare s'.gens) s := by
  have inT : ∀ {b : Addr}, b ∈ cs.map (·.2) → ∃ p ∈ cs, p.2 = b := fun hb => by
    obtain ⟨p, hp, e⟩ := List.mem_map.mp hb
    exact ⟨p, hp, e⟩
  have isT : ∀ b ∈ cs.map (·.2), s.heap.get? b = some tab0 := fun b hb => by
    obtain ⟨p, hp, rfl⟩ := inT hb
    exact hT p hp
  obtain ⟨H, hH, pH, pS⟩ := tabs_heap KX ha hi hl isT
  have hH2 : ∀ p ∈ cs, H p.2 = some (.tbl #[]) := fun p hp => hH _ (List.mem_map.mpr ⟨p, hp, rfl⟩)
  -- what is neither a list nor a table is not tracked
  have free : ∀ {b : Addr} {o : Obj}, s.heap.get? b = some o → (∀ us n, o.data ≠ .seq us n) → o.data ≠ .fields #[] → H b = none := by
    intro b o e d1 d2
    by_cases hb : b ∈ cs.map (·.2)
    · rw [isT b hb] at e
      cases e
      exact (d2 rfl).elim
    · rcases pH b hb with z | ⟨z, _, _⟩
      · exact z
      · rw [z, ha] at e
        cases e
        exact (d1 _ _ rfl).elim
  have hold : ∀ {b : Addr} {o : Obj}, s.heap.get? b = some o → (∀ us n, o.data ≠ .seq us n) → o.data ≠ .fields #[] → (hidT s.heap H).get? b = some o := fun e d1 d2 => hidT_get e (free e d1 d2)
  have ns_on : ∀ {b : Addr} {m : Str → Option Value}, s.heap.Ns b m → (hidT s.heap H).Ns b m := by
    rintro b m ⟨o, es, ep, e, d, r⟩
    exact ⟨o, es, ep, hold e (fun us n z => by rw [d] at z; cases z) (fun z => by rw [d] at z; cases z), d, r⟩
  have kin : K.In (hidT s.heap H) := by
    intro b o e
    refine hidT_get (KX b o e) ?_
    by_cases hb : b ∈ cs.map (·.2)
    · obtain ⟨p, hp, rfl⟩ := inT hb
      rw [nT p hp] at e
      cases e
    · rcases pH b hb with z | ⟨z, z2, _⟩
      · exact z
      · rw [z, z2] at e
        cases e
  have hok : HOk P w H s.heap := by
    intro b u e
    by_cases hb : b ∈ cs.map (·.2)
    · rw [hH b hb] at e
      cases e
      exact isT b hb
    · rcases pH b hb with z | ⟨z, _, z3⟩
      · rw [z] at e
        cases e
      · rw [z3] at e
        cases e
        subst z
        exact ⟨ha, by rw [List.length_map]; exact hl, vs, _, vals_ints hi, ha⟩
  have limK : (hidT s.heap H).NoLimit := by
    obtain ⟨mc, l1, l2⟩ := lim
    exact ⟨mc, ns_on l1, l2⟩
  have TB : ∀ p ∈ cs, LamX.TabB (hidT s.heap H) mg p.1 p.2 := fun p hp => by
    have neG : mainGlobals ≠ p.2 := fun z => by
      obtain ⟨o, es, ep, e, d, _⟩ := gs
      rw [z, hT p hp] at e
      cases e
      cases d
    refine ⟨?_, ?_, neG⟩
    · obtain ⟨o, us, file, tf, flags, tg, inF, text, tt, e1, r1, r2, r3, rest⟩ := hC p hp
      refine ⟨o, us, file, tf, flags, tg, inF, text, tt, hold e1 (fun vs n z => by rw [r2] at z; cases z) (fun z => ?_), r1, r2, r3, rest⟩
      rw [r2] at z
      cases z
      simp at r3
    · obtain ⟨bm, ob, b1, b2, b3, b4, b5, b6⟩ := bmod
      refine ⟨bm, ob, b1, b2, fun q => ?_, fun q => ?_, hold b3 (fun us n z => by rw [b6] at z; cases z) (fun z => by rw [b6] at z; cases z), b4, b5, b6⟩
      · obtain ⟨o, es, ep, e, hd, _⟩ := gs
        rw [q, e] at b3
        cases b3
        rw [hd] at b6
        cases b6
      · rw [q, hT p hp] at b3
        cases b3
        cases b6
  have env : Env0 P w K mg (hidT s.heap H) callerA [] s H :=
    { frames := rfl, mod := ⟨kin, ns_on gs, ⟨mb, ns_on bs, boot⟩, limK⟩, bs := fun b o e => of_hidT e, bsz := Nat.le_of_eq (hidT_size _ _), funs := trivial, frf := (fun b hb => nomatch (show b ∈ ([] : List Addr) from hb)), hok := hok, bare := .of_eq gens }
  have go := (F _ kin (ns_on gs) TB).run callerA [] s H ⟨[.ref a], []⟩ [.ref a] [.ref a] _ _ rfl room env (bind s (.ref a)) (.cons rfl .nil) (want H hH2 pS)
  refine codeAny_mono go fun r s' z => ?_
  match r, z with
  | .error e, z => exact z.elim
  | .ok .next, z => exact z.elim
  | .ok .brk, z => exact z.elim
  | .ok .cont, z => exact z.elim
  | .ok (.ret u), z =>
    obtain ⟨v, H', os, bare, un, hok', rel, q⟩ := z
    have q : v = .bl true := q
    subst q
    have eu : u = Value.bool true := rel
    subst eu
    have others : ∀ b o, b ∉ cs.map (·.2) → s.heap.get? b = some o → s'.heap.get? b = some o := fun b o nb e => by
      rcases pH b nb with z | ⟨z, _, z3⟩
      · exact un.keep b o e z (fun hm => nomatch (show b ∈ ([] : List Addr) from hm)) (by simp)
      · have e2 := (hok' b _ (un.frzs b _ _ z3)).1
        rw [z, ha] at e
        cases e
        exact e2
    have grown : ∀ p ∈ cs, ∃ more : Array Value, s'.heap.get? p.2 = some { cls := .none, data := .fields more } := fun p hp => by
      obtain ⟨more, z⟩ := un.tbls p.2 #[] (hH2 p hp)
      exact ⟨_, hok' p.2 _ z⟩
    refine ⟨rfl, ⟨fun b o e => ?_, fun b o e => ?_⟩, os, bare⟩
    · by_cases hb : b ∈ cs.map (·.2)
      · obtain ⟨p, hp, rfl⟩ := inT hb
        obtain ⟨more, hm⟩ := grown p hp
        rw [hT p hp] at e
        cases e
        exact .inr (.inl ⟨((hC p hp).tab (hT p hp)).isCodeTable, rfl, #[], more, rfl, by rw [Array.empty_append]; exact hm⟩)
      · exact .inl (others b o hb e)
    · by_cases hb : b ∈ cs.map (·.2)
      · obtain ⟨p, hp, rfl⟩ := inT hb
        obtain ⟨more, hm⟩ := grown p hp
        exact ⟨_, hm⟩
      · exact ⟨o, others b o hb e⟩
/-- a law with tables of code objects -/
theorem walk_GT {l : PySem.W.OpenLaw} {n k : Nat} {q : Program} {loose : List Str} {XP : (Str → Option Value) → Heap → Prop} {YP : World → Heap → Prop} {d : DefRec} {x : Str}
    (hn : l.most = some n) (hn2 : n ≤ sizeLine) (hdf : d.params.defaults = []) (room : Room k callerA)
    (F : ∀ (w : World) (mg : Str → Option Value) (fa : Addr) (h : Heap), YP w h → h.Ns mainGlobals mg → mg d.name = some (.ref fa) →
      ∃ (K : Fg) (fd : FuncData) (cs : List (Addr × Addr)) (sp : Sp), K.In h ∧ (∀ p ∈ cs, h.get? p.2 = some tab0) ∧ (∀ p ∈ cs, K.lookup p.2 = none) ∧ (∀ p ∈ cs, PySem.W.CodeHd h p.1 p.2) ∧ (∀ (s : Shared) (u : Value), BindsTo s fd ⟨[u], []⟩ [(x, u)]) ∧
        (∀ (H : Hp) (a : Addr) (ns : List Int), ns.length ≤ n → (∀ p ∈ cs, H p.2 = some (.tbl #[])) → SqL K H a (ns.map V.int) → sp [.ref a] H (fun v _ => v = .bl true) fun _ _ _ => False) ∧
        ∀ base : Heap, K.In base → base.Ns mainGlobals mg → (∀ p ∈ cs, LamX.TabB base mg p.1 p.2) → FnG l.prog w K mg base k fa fd [x] sp) :
    PySem.W.WalkO q loose XP YP l.row.toRowW d [] (fun f vs => PySem.call f vs) := by
  refine Att.attach_call hn hdf ?_
  intro w s₀ s₁ mg mb fa o pm cd doc a vs ns G Y _ _ _ named ha hi hlen gens
  obtain ⟨K, fd, cs, sp, KX, hT, nT, hC, hb, hsp, hF⟩ := F w mg fa _ Y G.T.g named
  exact endGT KX G.T.g G.T.b G.T.builtins G.T.nolimit gens hT nT hC G.T.bmain ha hi (Nat.le_trans hlen hn2) room hF hb fun H hH hS => hsp H a ns hlen hH hS
/-! ### [e for k in range(..)], any invariant -/
section
variable {D : Addr} {H1 : Hp}
theorem lcrV {n j : Nat} {lo : Int} {te : TE} {vs : List Nat} {σ : L2.St} {Qd : Hp → Prop} (J : Hp → Prop) (Pp : Nat → V → Prop) (hp : J (upd H1 D (.lst []))) (hn : n < 100000) (jup : ∀ H l, J H → J (upd H D (.lst l)))
    (hw : ∀ x, wipe ((wipe σ vs).set j (some x)) vs = wipe σ vs)
    (turn : ∀ i H ys, i < n → J H → H D = some (.lst ys) → te ((wipe σ vs).set j (some (.int (lo + i)))) H (fun y H4 => J H4 ∧ H4 D = some (.lst ys) ∧ Pp i y))
    (hd : ∀ H ys, J H → ys.length = n → H D = some (.lst ys) → (∀ (i : Nat) (y : V), ys[i]? = some y → Pp i y) → Qd H) :
    ∃ W : Nat → Nat → Hp → Prop, (∃ m, W 0 m (upd H1 D (.lst []))) ∧ ∀ i m H, W i m H →
      ((Itr lo n).stop i H ∧ Qd H) ∨ ((Itr lo n).go i H ∧ ∃ Nx : Hp → Prop, (∀ H', Nx H' → ∃ m', m' < m ∧ W (i + 1) m' H') ∧ ∀ x H', (Itr lo n).yld i H x H' → gName j x (wipe σ vs) H' fun σ2 H2 => wipe σ2 vs = wipe σ vs ∧ tYes σ2 H2 fun b H3 =>
        if b = true then upE te σ2 H3 fun y H4 => ∃ acc, H4 D = some (.lst acc) ∧ acc.length < sizeLine ∧ Nx (upd H4 D (.lst (acc ++ [y]))) else Nx H3) := by
  refine lc_range (fun i H => J H ∧ ∃ ys : List V, ys.length = i ∧ H D = some (.lst ys) ∧ ∀ (i : Nat) (y : V), ys[i]? = some y → Pp i y) ⟨hp, [], rfl, upd_same, fun i y e => by simp at e⟩ (fun i H hi hv => ?_) (fun H hv => ?_)
  · obtain ⟨j1, ys, l1, e1, q1⟩ := hv
    refine ⟨hw _, ?_⟩
    dsimp only [tYes]
    rw [if_pos rfl]
    refine ⟨_, fun y H4 z => ?_, turn i H ys hi j1 e1⟩
    obtain ⟨j4, e4, p4⟩ := z
    refine ⟨ys, e4, by rw [sizeLine_eq]; omega, jup _ _ j4, ys ++ [y], by rw [List.length_append, l1]; rfl, upd_same, fun m z hz => ?_⟩
    by_cases hm : m < ys.length
    · rw [List.getElem?_append_left hm] at hz
      exact q1 m z hz
    · rw [List.getElem?_append_right (by omega)] at hz
      have h0 : m - ys.length = 0 := by
        cases h : m - ys.length with
        | zero => rfl
        | succ q =>
          rw [h] at hz
          simp at hz
      rw [h0] at hz
      have ez : y = z := by simpa using hz
      have em : m = i := by omega
      rw [← ez, em]
      exact p4
  · obtain ⟨j1, ys, l1, e1, q1⟩ := hv
    exact hd H ys j1 l1 e1 q1
end
end Sk
/-! Sk: errors with an own __init__; what a caught call gives; a def's code object -/
namespace Sk
open PySem PySem.Spec PyProof.Rows L2
/-- the class C is an own error class over ValueError with an own __init__ -/
def oexB (K : Fg) (C fI : Addr) : Bool :=
  (match K.lookup C with
    | some ⟨.type "type", _, .cls cd, sl⟩ => (match cd.mro, sl.toList with
      | .ref C' :: bm, [_, _, _, _, some (.builtin n), _] => decide (C' = C) && (decide (n = "ValueError.__new__") && (!cd.hasDel && (cd.hasDict && PySem.HandSPX.refsVE bm)))
      | _, _ => false)
    | _ => false)
  && (decide (PySem.W.findIn K (.ref C) "__setattr__" = some (some (.builtin "object.__setattr__"))) && (decide (PySem.W.subIn K (.ref C) (.type "BaseException") = some true) && (decide (PySem.W.typeIn K (.ref C) = some (.type "type")) && (PySem.W.keepIn K (.ref C)
  && (decide (PySem.W.findIn K (.ref C) "__init__" = some (some (.ref fI))) && decide (PySem.W.typeIn K (.ref fI) = some (.type "function")))))))
structure Oex (K : Fg) (C fI : Addr) : Prop where
  oex : OexC K C
  ini : PySem.W.findIn K (.ref C) "__init__" = some (some (.ref fI))
  typ : PySem.W.typeIn K (.ref fI) = some (.type "function")
theorem oexB_ok {K : Fg} {C fI : Addr} (h : oexB K C fI = true) : Oex K C fI := by
  obtain ⟨h0, h⟩ := He.ba h
  obtain ⟨h1, h⟩ := He.ba h
  obtain ⟨h2, h⟩ := He.ba h
  obtain ⟨h3, h⟩ := He.ba h
  obtain ⟨h4, h⟩ := He.ba h
  obtain ⟨h5, h6⟩ := He.ba h
  refine ⟨⟨?_, of_decide_eq_true h1, of_decide_eq_true h2, of_decide_eq_true h3, h4⟩, of_decide_eq_true h5, of_decide_eq_true h6⟩
  split at h0
  · rename_i dd cd sl ho
    split at h0
    · rename_i C' bm k0 k1 k2 k3 n k5 hm hs
      obtain ⟨a1, h0⟩ := He.ba h0
      obtain ⟨a2, h0⟩ := He.ba h0
      obtain ⟨a3, h0⟩ := He.ba h0
      obtain ⟨a4, a5⟩ := He.ba h0
      have e1 : C' = C := of_decide_eq_true a1
      have e2 : n = "ValueError.__new__" := of_decide_eq_true a2
      subst e1 e2
      obtain ⟨nm, bs, mro, ns, qn, hd, sn, sub, ab, col, del⟩ := cd
      have e3 : del = false := by
        cases del with
        | false => rfl
        | true => cases a3
      have e4 : hd = true := a4
      have hm : mro = .ref C' :: bm := hm
      subst e3 e4 hm
      have hsl : sl = #[k0, k1, k2, k3, some (.builtin "ValueError.__new__"), k5] := by
        obtain ⟨l⟩ := sl
        have hs : l = _ := hs
        rw [hs]
      subst hsl
      exact ⟨nm, qn, ns, bs, bm, sn, sub, ab, col, dd, k0, k1, k2, k3, k5, ho, a5⟩
    · cases h0
  · cases h0
/-! ### an own __init__: self.f = x -/
def spIni (K : Fg) (C : Addr) (f : Str) : Sp := fun vs H Q _ => match vs with
  | [.ref a, x] => H a = some (exo a C none) ∧ ∀ dx, H dx = none → dx ≠ a → Q .non (upd (upd H dx (exd dx [(f, x)])) a (exo a C (some dx)))
  | _ => False
/-- what is raised: an error of the class C with the field f -/
def xUpd (H : Hp) (d : Addr) (f : Str) (v : V) : Hp := upd H d (.xd [(f, v)])
theorem del_upd {H : Hp} {a dx : Addr} {o o' o'' q : HO} (ha : H a = none) (hd : dx ≠ a) : upd (del (upd (upd (upd H a q) dx o) a o') a) dx o'' = upd H dx o'' := by
  funext b
  by_cases hb : b = dx
  · rw [hb, upd_same, upd_same]
  · rw [upd_ne hb, upd_ne hb]
    by_cases hb2 : b = a
    · rw [hb2, del_same, ha]
    · rw [del_ne hb2, upd_ne hb2, upd_ne hb, upd_ne hb2]
/-- C(e), told plainly -/
theorem mkO1 {X : Cx} {C : Addr} {K : Fg} {f : Str} {te : TE} {e : Expr} (h : PMk X e (tMkO C (spIni K C f) [] (tCons (upE te) tNil))) : PMk X e (fun σ H Q => te σ H fun v H1 => ∀ d, H1 d = none → Q (.ref C) (some d) (xUpd H1 d f v)) := by
  intro pins s σ H Q I q
  refine h pins s σ H Q I ⟨_, fun v H1 z => ?_, q⟩
  refine ⟨by show 1 ≤ 1000; decide, fun a ha => ⟨upd_same, fun dx hdx ne => ?_⟩⟩
  rw [upd_ne ne] at hdx
  refine ⟨rfl, dx, [(f, v)], upd_same, by rw [upd_ne ne, upd_same], hdx, ?_⟩
  rw [del_upd ha ne]
  exact z dx hdx
/-! ### words and fields of an error -/
def errWa : List Str := ["name", "text", "value", "tree", "context", "page", "body", "tag", "misplaced", "plan", "pass", "patches", "size", "action", "command", "notlibrary", "trouble"]
def errWb : List Str := ["taken", "missing", "inuse", "ring", "unfit", "nopath", "notlate", "notdone", "busy", "undo", "templates", "levels", "nodes", "elements", "entries", "deep"]
def errW (j : Nat) : Str := (errWa ++ errWb).getD j ""
def errFo (j : Nat) : List Str := if decide (8 = j) = true then ["position", "reason"] else if decide (1 = j) = true then ["written"] else if decide (4 = j) = true then ["context"] else if decide (12 = j) = true then ["size"] else if decide (16 = j) = true then ["part"] else if decide (14 = j) = true then ["command"] else []
def errFs (j : Nat) : List Str :=
  if ([0, 17, 18, 19, 20, 23].any fun i => decide (i = j)) = true then ["called"] else if ([2, 3, 9, 15].any fun i => decide (i = j)) = true then ["value"] else if ([5, 6, 7].any fun i => decide (i = j)) = true then ["position"]
  else if ([10, 11, 13].any fun i => decide (i = j)) = true then ["index"] else if ([21, 22].any fun i => decide (i = j)) = true then ["path"] else if ([27, 28, 29, 30, 31, 32].any fun i => decide (i = j)) = true then ["found"] else errFo j
def valsOf (fs : List (Str × V)) : List Str → Option (List V)
  | [] => some []
  | f :: r => match fs.lookup f, valsOf fs r with
    | some v, some vs => some (v :: vs)
    | _, _ => none
theorem vals1 {fs : List (Str × V)} {f : Str} {ys : List V} (h : valsOf fs [f] = some ys) : ∃ v, fs.lookup f = some v ∧ ys = [v] := by
  unfold valsOf at h
  split at h
  · rename_i v vs h1 h2
    have e : [] = vs := Option.some.inj h2
    subst e
    exact ⟨v, h1, (Option.some.inj h).symm⟩
  · cases h
theorem vals2 {fs : List (Str × V)} {f g : Str} {ys : List V} (h : valsOf fs [f, g] = some ys) : ∃ u v, fs.lookup f = some u ∧ fs.lookup g = some v ∧ ys = [u, v] := by
  unfold valsOf at h
  split at h
  · rename_i v vs h1 h2
    obtain ⟨u, h3, rfl⟩ := vals1 h2
    exact ⟨v, u, h1, h3, (Option.some.inj h).symm⟩
  · cases h
def spOther (K : Fg) : SpE := fun a C d vs H Q _ => vs = [.ref a] ∧ ∃ j dd fs ys, KindAt K C j ∧ d = some dd ∧ H dd = some (.xd fs) ∧ valsOf fs (errFo j) = some ys ∧ ∀ p H', Same H H' → H p = none → H' p = some (.lst ys) → Q (.ref p) H'
def spKind (K : Fg) : SpE := fun a C d vs H Q _ => vs = [.ref a] ∧ XdAt d H ∧ ∃ j, KindAt K C j ∧ ∀ H', Same H H' → Q (.str (errW j)) H'
def spFields (K : Fg) : SpE := fun a C d vs H Q _ => vs = [.ref a] ∧ ∃ j dd fs ys, KindAt K C j ∧ d = some dd ∧ H dd = some (.xd fs) ∧ valsOf fs (errFs j) = some ys ∧ ∀ p H', Same H H' → H p = none → H' p = some (.lst ys) → Q (.ref p) H'
theorem vals_len {fs : List (Str × V)} : ∀ {l : List Str} {ys : List V}, valsOf fs l = some ys → ys.length = l.length
  | [], ys, h => by
    have e : [] = ys := Option.some.inj h
    rw [← e]
    rfl
  | f :: r, ys, h => by
    unfold valsOf at h
    split at h
    · rename_i v vs h1 h2
      have e : v :: vs = ys := Option.some.inj h
      rw [← e, List.length_cons, List.length_cons, vals_len h2]
    · cases h
theorem errFo_len (j : Nat) : (errFo j).length ≤ 2 := by
  unfold errFo
  repeat' split
  all_goals decide
theorem errFs_len (j : Nat) : (errFs j).length ≤ 2 := by
  unfold errFs
  repeat' split
  all_goals first | decide | exact errFo_len j
/-- what _law_caught makes of a call -/
def eCaught (K : Fg) (Q : VK) : XK := fun cls d H => ∃ C j dd fs ys, cls = .ref C ∧ KindAt K C j ∧ d = some dd ∧ H dd = some (.xd fs) ∧ valsOf fs (errFs j) = some ys ∧ ∀ p H', Same H H' → H p = none → H' p = some (.lst (.str (errW j) :: ys)) → Q (.ref p) H'
def TCaught (K : Fg) : (XK → Hp → VK → Prop) → Hp → VK → Prop := fun tl H Q => tl (eCaught K Q) H fun v H' => [V.str "returned", v].length ≤ sizeLine ∧ ∀ p, H' p = none → Q (.ref p) (upd H' p (.lst [.str "returned", v]))
/-! ### a def with its code object -/
section
variable {P : Program} {w : World} {K : Fg} {mg : Str → Option Value} {base : Heap} {x qual : Str} {params : Arguments} {body : List Stmt} {scope : Scope} {dvs : List V} {kws : List (Str × V)} {f : Addr} {fd : FuncData}
theorem code_at {g : Str} (F : FunD K x qual params body scope dvs kws (He.ga K g) fd) : fd.code = .ref (He.cT K (g, none)).1 := by
  obtain ⟨oc, od, dV, kV, doc, pm, an, cdv, ct, osl, efd, look, code, _, _⟩ := F.ex
  obtain ⟨c, rfl⟩ := He.codeIn_ref code
  have e : fd.code = .ref c := by rw [efd]
  rw [e, show (He.cT K (g, none)).1 = c from He.codeOf_eq (p := (g, none)) look e]
theorem fnGc_of {N ps : List Str} {k : Nat} {sp : Sp} (F : FunD K x qual params body scope dvs kws f fd) (S : FnScope N ps scope) (len : ∀ vs H Q E, sp vs H Q E → vs.length = ps.length)
    (hb : ∀ (A : Around) (outer : List Env) (s : Shared) (H : Hp) (vs : List V) (Q : VK) (E : XK), (A.deeper (envOfC qual scope s.heap.objs.size f fd.code)).guards = some [] → Room k (A.deeper (envOfC qual scope s.heap.objs.size f fd.code)) → sp vs H Q E →
      ∃ t, PSs (cxOf CX0 P w K mg base N qual scope f fd.code A outer s H E).nox body t ∧ t { nx := fun _ H' => Q .non H', rt := Q } (start N vs) H) : FnG P w K mg base (k + 1) f fd ps sp := by
  obtain ⟨oc, od, dV, kV, doc, pm, an, cdv, ct, osl, efd, look, code, _, _⟩ := F.ex
  subst efd
  refine ⟨len, fun A outer s H args us vs Q E gd room env bind rel want => ?_⟩
  have size := len _ _ _ _ want
  have inK : K.In s.heap := env.mod.kin.keeps fun b o e => (env.bs b o e).1
  have calm : s.heap.NoLimit := env.mod.nolimit.keeps fun b o e => (env.bs b o e).1
  have kinds : ∀ y ∈ ps.zip us, scope.names.lookup y.1 = some .local ∨ (scope.names.lookup y.1 = some .cell ∧ ((cellsFrom (s.heap.objs.size + 1) scope.names []).lookup y.1).isSome = true) := by
    rintro ⟨n, v⟩ hy
    cases S.par n (List.of_mem_zip hy).1 with
    | inl q => exact .inl q
    | inr q => exact .inr ⟨q, PySem.W.cellsFrom_some _ _ _ (.inl q)⟩
  refine codeAny_call_function room.depth (inK _ _ look) rfl S.co S.gen rfl (PySem.W.codeRec_of inK code) (bind _ _ _ _ ?_)
  refine wpAny_newFunctionEnv_cells S.kind kinds fun e1 he1 s1 inC => ?_
  subst he1
  obtain ⟨t, der, red⟩ := hb A outer s H vs Q E gd (room.deeper _) want
  have inv : Inv (cxOf CX0 P w K mg base N qual scope f cdv A outer s H E) [] (start N vs) H s1 := inv_start S room.hd env size rel inC
  refine ⟨calm.keeps inC.toInCall.keep, codeAny_func (wpAny_mono (der.run [] s1 _ H _ (inv_nox inv) red) (fun fl s2 h2 => ?_) fun _ _ z => z.elim)⟩
  have back : ∀ {σ2 : L2.St} {H2 : Hp} {v : V} {u : Value}, Inv (cxOf CX0 P w K mg base N qual scope f cdv A outer s H E).nox [] σ2 H2 s2 → RelV v u → Q v H2 → CE outer P w H s Q u s2 := fun J r q => ⟨_, _, J.os, J.bare, J.base, J.hok, r, q⟩
  cases fl with
  | ret u => obtain ⟨v, σ2, H2, J, r, q⟩ := h2; exact back J r q
  | next => obtain ⟨σ2, H2, J, q⟩ := h2; exact back (u := Value.none) (v := V.non) J rfl q
  | brk => obtain ⟨_, _, _, q⟩ := h2; exact q.elim
  | cont => obtain ⟨_, _, _, q⟩ := h2; exact q.elim
end
end Sk
namespace Sk
open PySem PySem.Spec PyProof.Rows L2
theorem _root_.L2H.RoomH.units {k : Nat} {A : Around} (r : L2H.RoomH k A) : A.units + 64 < cLine := by have := r.un; omega
abbrev fbK (j : Nat) : Nat → V := fun i => V.bl (decide (i = j))
theorem cnt33 : ∀ j : Nat, j < 33 → (((List.range 33).map (fbK j)).countP fun z => eqV z (.bl true)) = 1 := by decide +kernel
theorem idx33 {j : Nat} (hj : j < 33) : ((List.range 33).map (fbK j))[j]? = some (V.bl true) := by
  rw [List.getElem?_map, List.getElem?_range hj]
  simp
theorem idx33n {j m : Nat} {z : V} (hm : m < j) (h : ((List.range 33).map (fbK j))[m]? = some z) : eqV z (.bl true) = false := by
  rw [List.getElem?_map] at h
  cases e : (List.range 33)[m]? with
  | none => rw [e] at h; cases h
  | some q =>
    rw [e] at h
    have hq : q = m := by
      obtain ⟨h1, h2⟩ := List.getElem?_eq_some_iff.mp e
      rw [← h2]
      simp
    have e2 : V.bl (decide (q = j)) = z := Option.some.inj h
    rw [← e2, hq]
    have : decide (m = j) = false := decide_eq_false (by omega)
    rw [this]
    rfl
theorem flat33 (j : Nat) : ((List.range 33).map (fbK j)).all flatV = true := by
  rw [List.all_eq_true]
  intro v hv
  obtain ⟨i, _, rfl⟩ := List.mem_map.mp hv
  rfl
end Sk
/-! Sk: a chain of three comparisons; the kinds of plain values -/
namespace Sk
open PySem PySem.Spec PyProof.Rows L2
section
variable {X : Cx}
def uChain3 (r r' r'' : R2) (ta tb tc td : TE) : TT := fun σ H Q => ta σ H fun x H1 => tb σ H1 fun y H2 => r x y H2 fun z H3 => onB z fun k => br k (tc σ H3 fun y' H4 => r' y y' H4 fun z' H5 => onB z' fun k' => br k' (td σ H5 fun y'' H6 => r'' y' y'' H6 fun z'' H7 => onB z'' fun k'' => Q k'' H7) (Q false H5)) (Q false H3)
theorem tchain3 {op op' op'' : CmpOp} {r r' r'' : R2} {a b c d : Expr} {ta tb tc td : TE} {pos : Pos} (ho : OpR X (compareOp op) r) (ho' : OpR X (compareOp op') r') (ho'' : OpR X (compareOp op'') r'') (ha : PE X a ta) (hb : PE X b tb) (hc : PE X c tc) (hd : PE X d td)
    (hm : lastMarks [op, op', op''] [b, c, d] = false := by with_unfolding_all rfl) : PT X (.Compare a [op, op', op''] [b, c, d] pos) (uChain3 r r' r'' ta tb tc td) := by
  refine ⟨fun pins s σ H Q I h => ?_⟩
  refine isTrue_chain (thn (ha.run pins s σ H _ I h) fun v s1 ⟨x, H1, I1, r1, q1⟩ => test_link (thn (hb.run pins s1 σ H1 _ I1 q1) fun u s2 ⟨y, H2, I2, r2, q2⟩ =>
    thn (ho pins s2 σ H2 x y v u _ I2 r1 r2 q2) fun d1 s3 ⟨z, H3, I3, r3, q3⟩ => ?_)) hm
  obtain ⟨k, rfl, q3⟩ := onB_ex q3
  cases r3
  refine wpAny_truthy_bool ?_
  cases k with
  | false => exact ite_ff ⟨H3, I3, q3⟩
  | true =>
    refine ite_tt (test_link (thn (hc.run pins s3 σ H3 _ I3 q3) fun u' s4 ⟨y', H4, I4, r4, q4⟩ => thn (ho' pins s4 σ H4 y y' u u' _ I4 r2 r4 q4) fun d2 s5 ⟨z', H5, I5, r5, q5⟩ => ?_))
    obtain ⟨k', rfl, q5⟩ := onB_ex q5
    cases r5
    refine wpAny_truthy_bool ?_
    cases k' with
    | false => exact ite_ff ⟨H5, I5, q5⟩
    | true =>
      refine ite_tt (test_last (thn (hd.run pins s5 σ H5 _ I5 q5) fun u'' s6 ⟨y'', H6, I6, r6, q6⟩ => thn (ho'' pins s6 σ H6 y' y'' u' u'' _ I6 r4 r6 q6) fun d3 s7 ⟨z'', H7, I7, r7, q7⟩ => ?_))
      obtain ⟨k'', rfl, q7⟩ := onB_ex q7
      cases r7
      exact wpAny_truthy_bool ⟨H7, I7, q7⟩
end
/-- the seven kinds of plain values -/
inductive Ty7 | non | bl | int | str | lst | tup | dic
  deriving DecidableEq
def Ty7.nm : Ty7 → String
  | .non => "NoneType" | .bl => "bool" | .int => "int" | .str => "str" | .lst => "list" | .tup => "tuple" | .dic => "dict"
/-- v is of the kind t -/
def Kn (H : Hp) (v : V) (t : Ty7) : Prop := match t with
  | .non => v = .non
  | .bl => ∃ b, v = .bl b
  | .int => ∃ i, v = .int i
  | .str => ∃ x, v = .str x
  | .lst => ∃ p xs, v = .ref p ∧ H p = some (.lst xs)
  | .tup => ∃ p xs, v = .ref p ∧ H p = some (.tup xs)
  | .dic => ∃ p kvs, v = .ref p ∧ H p = some (.dK kvs)
theorem Kn.ty {K : Fg} {H : Hp} {v : V} {t : Ty7} (h : Kn H v t) : TyX K H v (.type t.nm) := by
  cases t with
  | non => cases h; exact .base .non
  | bl => obtain ⟨b, rfl⟩ := h; exact .base (.bl b)
  | int => obtain ⟨b, rfl⟩ := h; exact .base (.int b)
  | str => obtain ⟨b, rfl⟩ := h; exact .base (.str b)
  | lst => obtain ⟨p, xs, rfl, h⟩ := h; exact .base (.lst h)
  | tup => obtain ⟨p, xs, rfl, h⟩ := h; exact .base (.tup h)
  | dic => obtain ⟨p, xs, rfl, h⟩ := h; exact .base (.dK h)
theorem Kn.on {H H' : Hp} {v : V} {t : Ty7} (h : Kn H v t) (s : Same H H') : Kn H' v t := by
  cases t with
  | lst => obtain ⟨p, xs, rfl, h⟩ := h; exact ⟨p, xs, rfl, s _ _ h⟩
  | tup => obtain ⟨p, xs, rfl, h⟩ := h; exact ⟨p, xs, rfl, s _ _ h⟩
  | dic => obtain ⟨p, xs, rfl, h⟩ := h; exact ⟨p, xs, rfl, s _ _ h⟩
  | _ => exact h
theorem kit7 (K : Fg) (n : String) (f : Ty7 → Bool) (h : ∀ t : Ty7, PySem.W.kitOne K (.type t.nm) (.type n) = some (f t)) : True := trivial
end Sk
namespace Sk
open PySem PySem.Spec PyProof.Rows L2
def topS (i : Nat) : Stmt := PySem.Challenge.pw_shapekeep_k20_what_is_a_tree.main.body.getD i (.Pass ⟨0, 0, 0, 0⟩)
def clsS (s : Stmt) (j : Nat) : Stmt := match s with | .ClassDef _ _ _ b _ _ _ _ _ _ _ => b.getD j (.Pass ⟨0, 0, 0, 0⟩) | _ => s
abbrev s_is_name : Stmt := topS 5
theorem sc_is_name : FnScope ["thing", "letter"] ["thing"] (defScope s_is_name) := ⟨rfl, rfl, rfl, by decide +kernel, rfl, by decide +kernel, by decide +kernel⟩
def d_is_name : He5.DefA := ⟨fun K => He.ga K "is_name", "is_name", "is_name", defArgs s_is_name, defBody s_is_name, defScope s_is_name, [], []⟩
abbrev s_has_level : Stmt := topS 6
theorem sc_has_level : FnScope ["thing", "most", "name", "part"] ["thing", "most"] (defScope s_has_level) := ⟨rfl, rfl, rfl, by decide +kernel, rfl, by decide +kernel, by decide +kernel⟩
def d_has_level : He5.DefA := ⟨fun K => He.ga K "has_level", "has_level", "has_level", defArgs s_has_level, defBody s_has_level, defScope s_has_level, [], []⟩
abbrev s_write_text : Stmt := topS 13
theorem sc_write_text : FnScope ["text"] ["text"] (defScope s_write_text) := ⟨rfl, rfl, rfl, by decide +kernel, rfl, by decide +kernel, by decide +kernel⟩
def d_write_text : He5.DefA := ⟨fun K => He.ga K "write_text", "write_text", "write_text", defArgs s_write_text, defBody s_write_text, defScope s_write_text, [], []⟩
abbrev s_write_attribute : Stmt := topS 14
theorem sc_write_attribute : FnScope ["text"] ["text"] (defScope s_write_attribute) := ⟨rfl, rfl, rfl, by decide +kernel, rfl, by decide +kernel, by decide +kernel⟩
def d_write_attribute : He5.DefA := ⟨fun K => He.ga K "write_attribute", "write_attribute", "write_attribute", defArgs s_write_attribute, defBody s_write_attribute, defScope s_write_attribute, [], []⟩
abbrev s_write_sign : Stmt := topS 15
theorem sc_write_sign : FnScope ["sign", "high", "low"] ["sign"] (defScope s_write_sign) := ⟨rfl, rfl, rfl, by decide +kernel, rfl, by decide +kernel, by decide +kernel⟩
def d_write_sign : He5.DefA := ⟨fun K => He.ga K "write_sign", "write_sign", "write_sign", defArgs s_write_sign, defBody s_write_sign, defScope s_write_sign, [], []⟩
abbrev s_write_code : Stmt := topS 16
theorem sc_write_code : FnScope ["text", "sign"] ["text"] (defScope s_write_code) := ⟨rfl, rfl, rfl, by decide +kernel, rfl, by decide +kernel, by decide +kernel⟩
def d_write_code : He5.DefA := ⟨fun K => He.ga K "write_code", "write_code", "write_code", defArgs s_write_code, defBody s_write_code, defScope s_write_code, [], []⟩
abbrev s_write_literal : Stmt := topS 55
theorem sc_write_literal : FnScope ["value", "inner", "rows", "name", "part"] ["value"] (defScope s_write_literal) := ⟨rfl, rfl, rfl, by decide +kernel, rfl, by decide +kernel, by decide +kernel⟩
def d_write_literal : He5.DefA := ⟨fun K => He.ga K "write_literal", "write_literal", "write_literal", defArgs s_write_literal, defBody s_write_literal, defScope s_write_literal, [], []⟩
abbrev s_is_value : Stmt := topS 57
theorem sc_is_value : FnScope ["thing"] ["thing"] (defScope s_is_value) := ⟨rfl, rfl, rfl, by decide +kernel, rfl, by decide +kernel, by decide +kernel⟩
def d_is_value : He5.DefA := ⟨fun K => He.ga K "is_value", "is_value", "is_value", defArgs s_is_value, defBody s_is_value, defScope s_is_value, [], []⟩
abbrev s_are_texts : Stmt := topS 60
theorem sc_are_texts : FnScope ["thing", "part"] ["thing"] (defScope s_are_texts) := ⟨rfl, rfl, rfl, by decide +kernel, rfl, by decide +kernel, by decide +kernel⟩
def d_are_texts : He5.DefA := ⟨fun K => He.ga K "are_texts", "are_texts", "are_texts", defArgs s_are_texts, defBody s_are_texts, defScope s_are_texts, [], []⟩
abbrev s_is_pair : Stmt := topS 61
theorem sc_is_pair : FnScope ["thing"] ["thing"] (defScope s_is_pair) := ⟨rfl, rfl, rfl, by decide +kernel, rfl, by decide +kernel, by decide +kernel⟩
def d_is_pair : He5.DefA := ⟨fun K => He.ga K "is_pair", "is_pair", "is_pair", defArgs s_is_pair, defBody s_is_pair, defScope s_is_pair, [], []⟩
abbrev s_is_address : Stmt := topS 62
theorem sc_is_address : FnScope ["thing", "pair"] ["thing"] (defScope s_is_address) := ⟨rfl, rfl, rfl, by decide +kernel, rfl, by decide +kernel, by decide +kernel⟩
def d_is_address : He5.DefA := ⟨fun K => He.ga K "is_address", "is_address", "is_address", defArgs s_is_address, defBody s_is_address, defScope s_is_address, [], []⟩
abbrev s_is_attribute : Stmt := topS 63
theorem sc_is_attribute : FnScope ["thing"] ["thing"] (defScope s_is_attribute) := ⟨rfl, rfl, rfl, by decide +kernel, rfl, by decide +kernel, by decide +kernel⟩
def d_is_attribute : He5.DefA := ⟨fun K => He.ga K "is_attribute", "is_attribute", "is_attribute", defArgs s_is_attribute, defBody s_is_attribute, defScope s_is_attribute, [], []⟩
abbrev s_is_text_node : Stmt := topS 64
theorem sc_is_text_node : FnScope ["thing"] ["thing"] (defScope s_is_text_node) := ⟨rfl, rfl, rfl, by decide +kernel, rfl, by decide +kernel, by decide +kernel⟩
def d_is_text_node : He5.DefA := ⟨fun K => He.ga K "is_text_node", "is_text_node", "is_text_node", defArgs s_is_text_node, defBody s_is_text_node, defScope s_is_text_node, [], []⟩
abbrev s_is_node : Stmt := topS 65
theorem sc_is_node : FnScope ["thing", "most", "part"] ["thing", "most"] (defScope s_is_node) := ⟨rfl, rfl, rfl, by decide +kernel, rfl, by decide +kernel, by decide +kernel⟩
def d_is_node : He5.DefA := ⟨fun K => He.ga K "is_node", "is_node", "is_node", defArgs s_is_node, defBody s_is_node, defScope s_is_node, [], []⟩
abbrev s_are_nodes : Stmt := topS 66
theorem sc_are_nodes : FnScope ["thing", "most", "node", "after"] ["thing", "most"] (defScope s_are_nodes) := ⟨rfl, rfl, rfl, by decide +kernel, rfl, by decide +kernel, by decide +kernel⟩
def d_are_nodes : He5.DefA := ⟨fun K => He.ga K "are_nodes", "are_nodes", "are_nodes", defArgs s_are_nodes, defBody s_are_nodes, defScope s_are_nodes, [], []⟩
abbrev s_is_tree : Stmt := topS 67
theorem sc_is_tree : FnScope ["thing"] ["thing"] (defScope s_is_tree) := ⟨rfl, rfl, rfl, by decide +kernel, rfl, by decide +kernel, by decide +kernel⟩
def d_is_tree : He5.DefA := ⟨fun K => He.ga K "is_tree", "is_tree", "is_tree", defArgs s_is_tree, defBody s_is_tree, defScope s_is_tree, [], []⟩
abbrev s_written_attribute : Stmt := topS 68
theorem sc_written_attribute : FnScope ["attribute", "name", "value", "parts", "pairs", "path", "query", "part", "word", "text"] ["attribute"] (defScope s_written_attribute) := ⟨rfl, rfl, rfl, by decide +kernel, rfl, by decide +kernel, by decide +kernel⟩
def d_written_attribute : He5.DefA := ⟨fun K => He.ga K "written_attribute", "written_attribute", "written_attribute", defArgs s_written_attribute, defBody s_written_attribute, defScope s_written_attribute, [], []⟩
abbrev s_written_node : Stmt := topS 69
theorem sc_written_node : FnScope ["node", "kind", "name", "attributes", "nodes", "front", "attribute"] ["node"] (defScope s_written_node) := ⟨rfl, rfl, rfl, by decide +kernel, rfl, by decide +kernel, by decide +kernel⟩
def d_written_node : He5.DefA := ⟨fun K => He.ga K "written_node", "written_node", "written_node", defArgs s_written_node, defBody s_written_node, defScope s_written_node, [], []⟩
abbrev s_written : Stmt := topS 70
theorem sc_written : FnScope ["nodes", "node"] ["nodes"] (defScope s_written) := ⟨rfl, rfl, rfl, by decide +kernel, rfl, by decide +kernel, by decide +kernel⟩
def d_written : He5.DefA := ⟨fun K => He.ga K "written", "written", "written", defArgs s_written, defBody s_written, defScope s_written, [], []⟩
abbrev s_write : Stmt := topS 71
theorem sc_write : FnScope ["tree"] ["tree"] (defScope s_write) := ⟨rfl, rfl, rfl, by decide +kernel, rfl, by decide +kernel, by decide +kernel⟩
def d_write : He5.DefA := ⟨fun K => He.ga K "write", "write", "write", defArgs s_write, defBody s_write, defScope s_write, [], []⟩
abbrev s__law_cell : Stmt := topS 73
theorem sc__law_cell : FnScope ["_law_script", "_law_k", "_law_state", "_law_cell_here"] ["_law_script", "_law_k"] (defScope s__law_cell) := ⟨rfl, rfl, rfl, by decide +kernel, rfl, by decide +kernel, by decide +kernel⟩
def d__law_cell : He5.DefA := ⟨fun K => He.ga K "_law_cell", "_law_cell", "_law_cell", defArgs s__law_cell, defBody s__law_cell, defScope s__law_cell, [], []⟩
abbrev s__law_pool : Stmt := topS 74
theorem sc__law_pool : FnScope ["_law_cell_here", "_law_digits"] ["_law_cell_here"] (defScope s__law_pool) := ⟨rfl, rfl, rfl, by decide +kernel, rfl, by decide +kernel, by decide +kernel⟩
def d__law_pool : He5.DefA := ⟨fun K => He.ga K "_law_pool", "_law_pool", "_law_pool", defArgs s__law_pool, defBody s__law_pool, defScope s__law_pool, [], []⟩
abbrev s__law_draw : Stmt := topS 75
theorem sc__law_draw : FnScope ["_law_pool_here", "_law_many", "_law_state", "_law_digit"] ["_law_pool_here", "_law_many"] (defScope s__law_draw) := ⟨rfl, rfl, rfl, by decide +kernel, rfl, by decide +kernel, by decide +kernel⟩
def d__law_draw : He5.DefA := ⟨fun K => He.ga K "_law_draw", "_law_draw", "_law_draw", defArgs s__law_draw, defBody s__law_draw, defScope s__law_draw, [], []⟩
abbrev s__law_words : Stmt := topS 76
theorem sc__law_words : FnScope ["_law_pool_here", "_law_many", "_law_letters", "_law_menu", "_law_way", "_law_begin", "_law_stem", "_law_at", "_law_found", "_law_k", "_law_word"] ["_law_pool_here", "_law_many"] (defScope s__law_words) := ⟨rfl, rfl, rfl, by decide +kernel, rfl, by decide +kernel, by decide +kernel⟩
def d__law_words : He5.DefA := ⟨fun K => He.ga K "_law_words", "_law_words", "_law_words", defArgs s__law_words, defBody s__law_words, defScope s__law_words, [], []⟩
abbrev s__law_chars : Stmt := topS 77
theorem sc__law_chars : FnScope ["_law_pool_here", "_law_menu", "_law_way", "_law_signs", "_law_k"] ["_law_pool_here"] (defScope s__law_chars) := ⟨rfl, rfl, rfl, by decide +kernel, rfl, by decide +kernel, by decide +kernel⟩
def d__law_chars : He5.DefA := ⟨fun K => He.ga K "_law_chars", "_law_chars", "_law_chars", defArgs s__law_chars, defBody s__law_chars, defScope s__law_chars, [], []⟩
abbrev s__law_form : Stmt := topS 78
theorem sc__law_form : FnScope ["_law_pool_here", "_law_deep", "_law_way", "_law_words_here", "_law_fields", "_law_key", "_law_inner", "_law_word"] ["_law_pool_here", "_law_deep"] (defScope s__law_form) := ⟨rfl, rfl, rfl, by decide +kernel, rfl, by decide +kernel, by decide +kernel⟩
def d__law_form : He5.DefA := ⟨fun K => He.ga K "_law_form", "_law_form", "_law_form", defArgs s__law_form, defBody s__law_form, defScope s__law_form, [], []⟩
abbrev s__law_thing_of : Stmt := topS 79
theorem sc__law_thing_of : FnScope ["_law_pool_here", "_law_form_here", "_law_found", "_law_word", "_law_inner", "_law_k", "_law_numbers"] ["_law_pool_here", "_law_form_here"] (defScope s__law_thing_of) := ⟨rfl, rfl, rfl, by decide +kernel, rfl, by decide +kernel, by decide +kernel⟩
def d__law_thing_of : He5.DefA := ⟨fun K => He.ga K "_law_thing_of", "_law_thing_of", "_law_thing_of", defArgs s__law_thing_of, defBody s__law_thing_of, defScope s__law_thing_of, [], []⟩
abbrev s__law_code : Stmt := topS 80
theorem sc__law_code : FnScope ["_law_chars_here", "_law_found", "_law_sign", "_law_plain", "_law_low", "_law_high"] ["_law_chars_here"] (defScope s__law_code) := ⟨rfl, rfl, rfl, by decide +kernel, rfl, by decide +kernel, by decide +kernel⟩
def d__law_code : He5.DefA := ⟨fun K => He.ga K "_law_code", "_law_code", "_law_code", defArgs s__law_code, defBody s__law_code, defScope s__law_code, [], []⟩
abbrev s__law_literal : Stmt := topS 81
theorem sc__law_literal : FnScope ["_law_thing_here", "_law_chars_here", "_law_names", "_law_rows", "_law_word", "_law_each"] ["_law_thing_here"] (defScope s__law_literal) := ⟨rfl, rfl, rfl, by decide +kernel, rfl, by decide +kernel, by decide +kernel⟩
def d__law_literal : He5.DefA := ⟨fun K => He.ga K "_law_literal", "_law_literal", "_law_literal", defArgs s__law_literal, defBody s__law_literal, defScope s__law_literal, [], []⟩
abbrev s__law_escaped : Stmt := topS 82
theorem sc__law_escaped : FnScope ["_law_where", "_law_thing_here", "_law_chars_here"] ["_law_where", "_law_thing_here"] (defScope s__law_escaped) := ⟨rfl, rfl, rfl, by decide +kernel, rfl, by decide +kernel, by decide +kernel⟩
def d__law_escaped : He5.DefA := ⟨fun K => He.ga K "_law_escaped", "_law_escaped", "_law_escaped", defArgs s__law_escaped, defBody s__law_escaped, defScope s__law_escaped, [], []⟩
abbrev s__law_kind : Stmt := topS 83
theorem sc__law_kind : FnScope ["_law_e", "_law_kinds", "_law_bases", "_law_own", "_law_at", "_law_words_here"] ["_law_e"] (defScope s__law_kind) := ⟨rfl, rfl, rfl, by decide +kernel, rfl, by decide +kernel, by decide +kernel⟩
def d__law_kind : He5.DefA := ⟨fun K => He.ga K "_law_kind", "_law_kind", "_law_kind", defArgs s__law_kind, defBody s__law_kind, defScope s__law_kind, [], []⟩
abbrev s__law_fields_of : Stmt := topS 84
theorem sc__law_fields_of : FnScope ["_law_e"] ["_law_e"] (defScope s__law_fields_of) := ⟨rfl, rfl, rfl, by decide +kernel, rfl, by decide +kernel, by decide +kernel⟩
def d__law_fields_of : He5.DefA := ⟨fun K => He.ga K "_law_fields_of", "_law_fields_of", "_law_fields_of", defArgs s__law_fields_of, defBody s__law_fields_of, defScope s__law_fields_of, [], []⟩
abbrev s__law_other_fields : Stmt := topS 85
theorem sc__law_other_fields : FnScope ["_law_e"] ["_law_e"] (defScope s__law_other_fields) := ⟨rfl, rfl, rfl, by decide +kernel, rfl, by decide +kernel, by decide +kernel⟩
def d__law_other_fields : He5.DefA := ⟨fun K => He.ga K "_law_other_fields", "_law_other_fields", "_law_other_fields", defArgs s__law_other_fields, defBody s__law_other_fields, defScope s__law_other_fields, [], []⟩
abbrev s__law_caught : Stmt := topS 86
theorem sc__law_caught : FnScope ["_law_call", "_law_e"] ["_law_call"] (defScope s__law_caught) := ⟨rfl, rfl, rfl, by decide +kernel, rfl, by decide +kernel, by decide +kernel⟩
def d__law_caught : He5.DefA := ⟨fun K => He.ga K "_law_caught", "_law_caught", "_law_caught", defArgs s__law_caught, defBody s__law_caught, defScope s__law_caught, [], []⟩
abbrev s__law_attribute : Stmt := topS 87
theorem sc__law_attribute : FnScope ["_law_pool_here", "_law_word", "_law_ways", "_law_words_here", "_law_k", "_law_each"] ["_law_pool_here", "_law_word"] (defScope s__law_attribute) := ⟨rfl, rfl, rfl, by decide +kernel, rfl, by decide +kernel, by decide +kernel⟩
def d__law_attribute : He5.DefA := ⟨fun K => He.ga K "_law_attribute", "_law_attribute", "_law_attribute", defArgs s__law_attribute, defBody s__law_attribute, defScope s__law_attribute, [], []⟩
abbrev s__law_trunk : Stmt := topS 88
theorem sc__law_trunk : FnScope ["_law_pool_here", "_law_deep", "_law_found", "_law_many", "_law_word", "_law_way", "_law_chars_here", "_law_rows", "_law_each"] ["_law_pool_here", "_law_deep"] (defScope s__law_trunk) := ⟨rfl, rfl, rfl, by decide +kernel, rfl, by decide +kernel, by decide +kernel⟩
def d__law_trunk : He5.DefA := ⟨fun K => He.ga K "_law_trunk", "_law_trunk", "_law_trunk", defArgs s__law_trunk, defBody s__law_trunk, defScope s__law_trunk, [], []⟩
abbrev s__law_sheet : Stmt := topS 89
theorem sc__law_sheet : FnScope ["_law_trunk_here", "_law_found", "_law_node", "_law_front", "_law_each"] ["_law_trunk_here"] (defScope s__law_sheet) := ⟨rfl, rfl, rfl, by decide +kernel, rfl, by decide +kernel, by decide +kernel⟩
def d__law_sheet : He5.DefA := ⟨fun K => He.ga K "_law_sheet", "_law_sheet", "_law_sheet", defArgs s__law_sheet, defBody s__law_sheet, defScope s__law_sheet, [], []⟩
abbrev s__law_attribute_text : Stmt := topS 90
theorem sc__law_attribute_text : FnScope ["_law_each", "_law_ways", "_law_rows", "_law_chars_here", "_law_word"] ["_law_each"] (defScope s__law_attribute_text) := ⟨rfl, rfl, rfl, by decide +kernel, rfl, by decide +kernel, by decide +kernel⟩
def d__law_attribute_text : He5.DefA := ⟨fun K => He.ga K "_law_attribute_text", "_law_attribute_text", "_law_attribute_text", defArgs s__law_attribute_text, defBody s__law_attribute_text, defScope s__law_attribute_text, [], []⟩
abbrev s__law_odd_nodes : Stmt := topS 91
theorem sc__law_odd_nodes : FnScope ["_law_some", "_law_row"] [] (defScope s__law_odd_nodes) := ⟨rfl, rfl, rfl, by decide +kernel, rfl, by decide +kernel, by decide +kernel⟩
def d__law_odd_nodes : He5.DefA := ⟨fun K => He.ga K "_law_odd_nodes", "_law_odd_nodes", "_law_odd_nodes", defArgs s__law_odd_nodes, defBody s__law_odd_nodes, defScope s__law_odd_nodes, [], []⟩
abbrev s__law_odd_attributes : Stmt := topS 92
theorem sc__law_odd_attributes : FnScope ["_law_some"] [] (defScope s__law_odd_attributes) := ⟨rfl, rfl, rfl, by decide +kernel, rfl, by decide +kernel, by decide +kernel⟩
def d__law_odd_attributes : He5.DefA := ⟨fun K => He.ga K "_law_odd_attributes", "_law_odd_attributes", "_law_odd_attributes", defArgs s__law_odd_attributes, defBody s__law_odd_attributes, defScope s__law_odd_attributes, [], []⟩
abbrev s__law_bent : Stmt := topS 93
theorem sc__law_bent : FnScope ["_law_pool_here", "_law_trunk_here", "_law_odd", "_law_k", "_law_at", "_law_inner", "_law_node"] ["_law_pool_here", "_law_trunk_here", "_law_odd"] (defScope s__law_bent) := ⟨rfl, rfl, rfl, by decide +kernel, rfl, by decide +kernel, by decide +kernel⟩
def d__law_bent : He5.DefA := ⟨fun K => He.ga K "_law_bent", "_law_bent", "_law_bent", defArgs s__law_bent, defBody s__law_bent, defScope s__law_bent, [], []⟩
abbrev s__law_refused : Stmt := topS 94
theorem sc__law_refused : FnScope ["_law_thing_here", "_law_told", "_law_found", "_law_each"] ["_law_thing_here"] (defScope s__law_refused) := ⟨rfl, rfl, rfl, by decide +kernel, rfl, by decide +kernel, by decide +kernel⟩
def d__law_refused : He5.DefA := ⟨fun K => He.ga K "_law_refused", "_law_refused", "_law_refused", defArgs s__law_refused, defBody s__law_refused, defScope s__law_refused, [], []⟩
abbrev s__law_right : Stmt := topS 95
theorem sc__law_right : FnScope ["_law_pool_here", "_law_odds", "_law_turn", "_law_trunk_here", "_law_bent_here", "_law_twins", "_law_each"] ["_law_pool_here"] (defScope s__law_right) := ⟨rfl, rfl, rfl, by decide +kernel, rfl, by decide +kernel, by decide +kernel⟩
def d__law_right : He5.DefA := ⟨fun K => He.ga K "_law_right", "_law_right", "_law_right", defArgs s__law_right, defBody s__law_right, defScope s__law_right, [], []⟩
abbrev s_law : Stmt := topS 96
theorem sc_law : FnScope ["_law_script", "_law_some", "_law_k", "_law_each", "_law_odd"] ["_law_script"] (defScope s_law) := ⟨rfl, rfl, rfl, by decide +kernel, rfl, by decide +kernel, by decide +kernel⟩
def d_law : He5.DefA := ⟨fun K => He.ga K "law", "law", "law", defArgs s_law, defBody s_law, defScope s_law, [], []⟩
abbrev s_InvalidTree___init__ : Stmt := clsS (topS 22) 0
theorem sc_InvalidTree___init__ : FnScope ["self", "value"] ["self", "value"] (defScope s_InvalidTree___init__) := ⟨rfl, rfl, rfl, by decide +kernel, rfl, by decide +kernel, by decide +kernel⟩
def d_InvalidTree___init__ : He5.DefA := ⟨fun K => He.ma K (He.ga K "InvalidTree") "__init__", "__init__", "InvalidTree.__init__", defArgs s_InvalidTree___init__, defBody s_InvalidTree___init__, defScope s_InvalidTree___init__, [], []⟩
structure Top (K : PySem.W.Frag) (mg : Str → Option Value) where
  sys : SysD K
  fd_is_name : FuncData
  F_is_name : FunD K "is_name" "is_name" (defArgs s_is_name) (defBody s_is_name) (defScope s_is_name) [] [] (He.ga K "is_name") fd_is_name
  g_is_name : mg "is_name" = some (.ref (He.ga K "is_name"))
  fd_has_level : FuncData
  F_has_level : FunD K "has_level" "has_level" (defArgs s_has_level) (defBody s_has_level) (defScope s_has_level) [] [] (He.ga K "has_level") fd_has_level
  g_has_level : mg "has_level" = some (.ref (He.ga K "has_level"))
  fd_write_text : FuncData
  F_write_text : FunD K "write_text" "write_text" (defArgs s_write_text) (defBody s_write_text) (defScope s_write_text) [] [] (He.ga K "write_text") fd_write_text
  g_write_text : mg "write_text" = some (.ref (He.ga K "write_text"))
  fd_write_attribute : FuncData
  F_write_attribute : FunD K "write_attribute" "write_attribute" (defArgs s_write_attribute) (defBody s_write_attribute) (defScope s_write_attribute) [] [] (He.ga K "write_attribute") fd_write_attribute
  g_write_attribute : mg "write_attribute" = some (.ref (He.ga K "write_attribute"))
  fd_write_sign : FuncData
  F_write_sign : FunD K "write_sign" "write_sign" (defArgs s_write_sign) (defBody s_write_sign) (defScope s_write_sign) [] [] (He.ga K "write_sign") fd_write_sign
  g_write_sign : mg "write_sign" = some (.ref (He.ga K "write_sign"))
  fd_write_code : FuncData
  F_write_code : FunD K "write_code" "write_code" (defArgs s_write_code) (defBody s_write_code) (defScope s_write_code) [] [] (He.ga K "write_code") fd_write_code
  g_write_code : mg "write_code" = some (.ref (He.ga K "write_code"))
  fd_write_literal : FuncData
  F_write_literal : FunD K "write_literal" "write_literal" (defArgs s_write_literal) (defBody s_write_literal) (defScope s_write_literal) [] [] (He.ga K "write_literal") fd_write_literal
  g_write_literal : mg "write_literal" = some (.ref (He.ga K "write_literal"))
  fd_is_value : FuncData
  F_is_value : FunD K "is_value" "is_value" (defArgs s_is_value) (defBody s_is_value) (defScope s_is_value) [] [] (He.ga K "is_value") fd_is_value
  g_is_value : mg "is_value" = some (.ref (He.ga K "is_value"))
  fd_are_texts : FuncData
  F_are_texts : FunD K "are_texts" "are_texts" (defArgs s_are_texts) (defBody s_are_texts) (defScope s_are_texts) [] [] (He.ga K "are_texts") fd_are_texts
  g_are_texts : mg "are_texts" = some (.ref (He.ga K "are_texts"))
  fd_is_pair : FuncData
  F_is_pair : FunD K "is_pair" "is_pair" (defArgs s_is_pair) (defBody s_is_pair) (defScope s_is_pair) [] [] (He.ga K "is_pair") fd_is_pair
  g_is_pair : mg "is_pair" = some (.ref (He.ga K "is_pair"))
  fd_is_address : FuncData
  F_is_address : FunD K "is_address" "is_address" (defArgs s_is_address) (defBody s_is_address) (defScope s_is_address) [] [] (He.ga K "is_address") fd_is_address
  g_is_address : mg "is_address" = some (.ref (He.ga K "is_address"))
  fd_is_attribute : FuncData
  F_is_attribute : FunD K "is_attribute" "is_attribute" (defArgs s_is_attribute) (defBody s_is_attribute) (defScope s_is_attribute) [] [] (He.ga K "is_attribute") fd_is_attribute
  g_is_attribute : mg "is_attribute" = some (.ref (He.ga K "is_attribute"))
  fd_is_text_node : FuncData
  F_is_text_node : FunD K "is_text_node" "is_text_node" (defArgs s_is_text_node) (defBody s_is_text_node) (defScope s_is_text_node) [] [] (He.ga K "is_text_node") fd_is_text_node
  g_is_text_node : mg "is_text_node" = some (.ref (He.ga K "is_text_node"))
  fd_is_node : FuncData
  F_is_node : FunD K "is_node" "is_node" (defArgs s_is_node) (defBody s_is_node) (defScope s_is_node) [] [] (He.ga K "is_node") fd_is_node
  g_is_node : mg "is_node" = some (.ref (He.ga K "is_node"))
  fd_are_nodes : FuncData
  F_are_nodes : FunD K "are_nodes" "are_nodes" (defArgs s_are_nodes) (defBody s_are_nodes) (defScope s_are_nodes) [] [] (He.ga K "are_nodes") fd_are_nodes
  g_are_nodes : mg "are_nodes" = some (.ref (He.ga K "are_nodes"))
  fd_is_tree : FuncData
  F_is_tree : FunD K "is_tree" "is_tree" (defArgs s_is_tree) (defBody s_is_tree) (defScope s_is_tree) [] [] (He.ga K "is_tree") fd_is_tree
  g_is_tree : mg "is_tree" = some (.ref (He.ga K "is_tree"))
  fd_written_attribute : FuncData
  F_written_attribute : FunD K "written_attribute" "written_attribute" (defArgs s_written_attribute) (defBody s_written_attribute) (defScope s_written_attribute) [] [] (He.ga K "written_attribute") fd_written_attribute
  g_written_attribute : mg "written_attribute" = some (.ref (He.ga K "written_attribute"))
  fd_written_node : FuncData
  F_written_node : FunD K "written_node" "written_node" (defArgs s_written_node) (defBody s_written_node) (defScope s_written_node) [] [] (He.ga K "written_node") fd_written_node
  g_written_node : mg "written_node" = some (.ref (He.ga K "written_node"))
  fd_written : FuncData
  F_written : FunD K "written" "written" (defArgs s_written) (defBody s_written) (defScope s_written) [] [] (He.ga K "written") fd_written
  g_written : mg "written" = some (.ref (He.ga K "written"))
  fd_write : FuncData
  F_write : FunD K "write" "write" (defArgs s_write) (defBody s_write) (defScope s_write) [] [] (He.ga K "write") fd_write
  g_write : mg "write" = some (.ref (He.ga K "write"))
  fd__law_cell : FuncData
  F__law_cell : FunD K "_law_cell" "_law_cell" (defArgs s__law_cell) (defBody s__law_cell) (defScope s__law_cell) [] [] (He.ga K "_law_cell") fd__law_cell
  g__law_cell : mg "_law_cell" = some (.ref (He.ga K "_law_cell"))
  fd__law_pool : FuncData
  F__law_pool : FunD K "_law_pool" "_law_pool" (defArgs s__law_pool) (defBody s__law_pool) (defScope s__law_pool) [] [] (He.ga K "_law_pool") fd__law_pool
  g__law_pool : mg "_law_pool" = some (.ref (He.ga K "_law_pool"))
  fd__law_draw : FuncData
  F__law_draw : FunD K "_law_draw" "_law_draw" (defArgs s__law_draw) (defBody s__law_draw) (defScope s__law_draw) [] [] (He.ga K "_law_draw") fd__law_draw
  g__law_draw : mg "_law_draw" = some (.ref (He.ga K "_law_draw"))
  fd__law_words : FuncData
  F__law_words : FunD K "_law_words" "_law_words" (defArgs s__law_words) (defBody s__law_words) (defScope s__law_words) [] [] (He.ga K "_law_words") fd__law_words
  g__law_words : mg "_law_words" = some (.ref (He.ga K "_law_words"))
  fd__law_chars : FuncData
  F__law_chars : FunD K "_law_chars" "_law_chars" (defArgs s__law_chars) (defBody s__law_chars) (defScope s__law_chars) [] [] (He.ga K "_law_chars") fd__law_chars
  g__law_chars : mg "_law_chars" = some (.ref (He.ga K "_law_chars"))
  fd__law_form : FuncData
  F__law_form : FunD K "_law_form" "_law_form" (defArgs s__law_form) (defBody s__law_form) (defScope s__law_form) [] [] (He.ga K "_law_form") fd__law_form
  g__law_form : mg "_law_form" = some (.ref (He.ga K "_law_form"))
  fd__law_thing_of : FuncData
  F__law_thing_of : FunD K "_law_thing_of" "_law_thing_of" (defArgs s__law_thing_of) (defBody s__law_thing_of) (defScope s__law_thing_of) [] [] (He.ga K "_law_thing_of") fd__law_thing_of
  g__law_thing_of : mg "_law_thing_of" = some (.ref (He.ga K "_law_thing_of"))
  fd__law_code : FuncData
  F__law_code : FunD K "_law_code" "_law_code" (defArgs s__law_code) (defBody s__law_code) (defScope s__law_code) [] [] (He.ga K "_law_code") fd__law_code
  g__law_code : mg "_law_code" = some (.ref (He.ga K "_law_code"))
  fd__law_literal : FuncData
  F__law_literal : FunD K "_law_literal" "_law_literal" (defArgs s__law_literal) (defBody s__law_literal) (defScope s__law_literal) [] [] (He.ga K "_law_literal") fd__law_literal
  g__law_literal : mg "_law_literal" = some (.ref (He.ga K "_law_literal"))
  fd__law_escaped : FuncData
  F__law_escaped : FunD K "_law_escaped" "_law_escaped" (defArgs s__law_escaped) (defBody s__law_escaped) (defScope s__law_escaped) [] [] (He.ga K "_law_escaped") fd__law_escaped
  g__law_escaped : mg "_law_escaped" = some (.ref (He.ga K "_law_escaped"))
  fd__law_kind : FuncData
  F__law_kind : FunD K "_law_kind" "_law_kind" (defArgs s__law_kind) (defBody s__law_kind) (defScope s__law_kind) [] [] (He.ga K "_law_kind") fd__law_kind
  g__law_kind : mg "_law_kind" = some (.ref (He.ga K "_law_kind"))
  fd__law_fields_of : FuncData
  F__law_fields_of : FunD K "_law_fields_of" "_law_fields_of" (defArgs s__law_fields_of) (defBody s__law_fields_of) (defScope s__law_fields_of) [] [] (He.ga K "_law_fields_of") fd__law_fields_of
  g__law_fields_of : mg "_law_fields_of" = some (.ref (He.ga K "_law_fields_of"))
  fd__law_other_fields : FuncData
  F__law_other_fields : FunD K "_law_other_fields" "_law_other_fields" (defArgs s__law_other_fields) (defBody s__law_other_fields) (defScope s__law_other_fields) [] [] (He.ga K "_law_other_fields") fd__law_other_fields
  g__law_other_fields : mg "_law_other_fields" = some (.ref (He.ga K "_law_other_fields"))
  fd__law_caught : FuncData
  F__law_caught : FunD K "_law_caught" "_law_caught" (defArgs s__law_caught) (defBody s__law_caught) (defScope s__law_caught) [] [] (He.ga K "_law_caught") fd__law_caught
  g__law_caught : mg "_law_caught" = some (.ref (He.ga K "_law_caught"))
  fd__law_attribute : FuncData
  F__law_attribute : FunD K "_law_attribute" "_law_attribute" (defArgs s__law_attribute) (defBody s__law_attribute) (defScope s__law_attribute) [] [] (He.ga K "_law_attribute") fd__law_attribute
  g__law_attribute : mg "_law_attribute" = some (.ref (He.ga K "_law_attribute"))
  fd__law_trunk : FuncData
  F__law_trunk : FunD K "_law_trunk" "_law_trunk" (defArgs s__law_trunk) (defBody s__law_trunk) (defScope s__law_trunk) [] [] (He.ga K "_law_trunk") fd__law_trunk
  g__law_trunk : mg "_law_trunk" = some (.ref (He.ga K "_law_trunk"))
  fd__law_sheet : FuncData
  F__law_sheet : FunD K "_law_sheet" "_law_sheet" (defArgs s__law_sheet) (defBody s__law_sheet) (defScope s__law_sheet) [] [] (He.ga K "_law_sheet") fd__law_sheet
  g__law_sheet : mg "_law_sheet" = some (.ref (He.ga K "_law_sheet"))
  fd__law_attribute_text : FuncData
  F__law_attribute_text : FunD K "_law_attribute_text" "_law_attribute_text" (defArgs s__law_attribute_text) (defBody s__law_attribute_text) (defScope s__law_attribute_text) [] [] (He.ga K "_law_attribute_text") fd__law_attribute_text
  g__law_attribute_text : mg "_law_attribute_text" = some (.ref (He.ga K "_law_attribute_text"))
  fd__law_odd_nodes : FuncData
  F__law_odd_nodes : FunD K "_law_odd_nodes" "_law_odd_nodes" (defArgs s__law_odd_nodes) (defBody s__law_odd_nodes) (defScope s__law_odd_nodes) [] [] (He.ga K "_law_odd_nodes") fd__law_odd_nodes
  g__law_odd_nodes : mg "_law_odd_nodes" = some (.ref (He.ga K "_law_odd_nodes"))
  fd__law_odd_attributes : FuncData
  F__law_odd_attributes : FunD K "_law_odd_attributes" "_law_odd_attributes" (defArgs s__law_odd_attributes) (defBody s__law_odd_attributes) (defScope s__law_odd_attributes) [] [] (He.ga K "_law_odd_attributes") fd__law_odd_attributes
  g__law_odd_attributes : mg "_law_odd_attributes" = some (.ref (He.ga K "_law_odd_attributes"))
  fd__law_bent : FuncData
  F__law_bent : FunD K "_law_bent" "_law_bent" (defArgs s__law_bent) (defBody s__law_bent) (defScope s__law_bent) [] [] (He.ga K "_law_bent") fd__law_bent
  g__law_bent : mg "_law_bent" = some (.ref (He.ga K "_law_bent"))
  fd__law_refused : FuncData
  F__law_refused : FunD K "_law_refused" "_law_refused" (defArgs s__law_refused) (defBody s__law_refused) (defScope s__law_refused) [] [] (He.ga K "_law_refused") fd__law_refused
  g__law_refused : mg "_law_refused" = some (.ref (He.ga K "_law_refused"))
  fd__law_right : FuncData
  F__law_right : FunD K "_law_right" "_law_right" (defArgs s__law_right) (defBody s__law_right) (defScope s__law_right) [] [] (He.ga K "_law_right") fd__law_right
  g__law_right : mg "_law_right" = some (.ref (He.ga K "_law_right"))
  fd_law : FuncData
  F_law : FunD K "law" "law" (defArgs s_law) (defBody s_law) (defScope s_law) [] [] (He.ga K "law") fd_law
  g_law : mg "law" = some (.ref (He.ga K "law"))
  fd_InvalidTree___init__ : FuncData
  F_InvalidTree___init__ : FunD K "__init__" "InvalidTree.__init__" (defArgs s_InvalidTree___init__) (defBody s_InvalidTree___init__) (defScope s_InvalidTree___init__) [] [] (He.ma K (He.ga K "InvalidTree") "__init__") fd_InvalidTree___init__
  kind_InvalidTree : KindAt K (He.ga K "InvalidTree") 3
  oex_InvalidTree : Oex K (He.ga K "InvalidTree") (He.ma K (He.ga K "InvalidTree") "__init__")
  t_MAX_ELEMENTS : Tok
  c_MAX_ELEMENTS : mg "MAX_ELEMENTS" = some (.int 60 t_MAX_ELEMENTS)
  t_MAX_LEVELS : Tok
  c_MAX_LEVELS : mg "MAX_LEVELS" = some (.int 6 t_MAX_LEVELS)
  t_MAX_NESTED : Tok
  c_MAX_NESTED : mg "MAX_NESTED" = some (.int 30 t_MAX_NESTED)
  t_LETTERS : Tok
  c_LETTERS : mg "LETTERS" = some (.str "abcdefghijklmnopqrstuvwxyz" t_LETTERS)
  t_END_OF_DATA : Tok
  c_END_OF_DATA : mg "END_OF_DATA" = some (.str "</data>" t_END_OF_DATA)
  t_ADDRESS : Tok
  c_ADDRESS : mg "ADDRESS" = some (.str "href" t_ADDRESS)
  t_DATA : Tok
  c_DATA : mg "DATA" = some (.str "data" t_DATA)
  t_HEX : Tok
  c_HEX : mg "HEX" = some (.str "0123456789abcdef" t_HEX)
  t_CODED : Tok
  c_CODED : mg "CODED" = some (.str (Str.ofString ("\n !\"#$&'()*+,/:;<=>?@" ++ "[\\]^`{|}~")) t_CODED)
  t_START_OF_DATA : Tok
  c_START_OF_DATA : mg "START_OF_DATA" = some (.str "<data>" t_START_OF_DATA)
  g_ShapeError : mg "ShapeError" = some (.ref (He.ga K "ShapeError"))
  g_InvalidName : mg "InvalidName" = some (.ref (He.ga K "InvalidName"))
  g_InvalidText : mg "InvalidText" = some (.ref (He.ga K "InvalidText"))
  g_InvalidValue : mg "InvalidValue" = some (.ref (He.ga K "InvalidValue"))
  g_InvalidTree : mg "InvalidTree" = some (.ref (He.ga K "InvalidTree"))
  g_InvalidContext : mg "InvalidContext" = some (.ref (He.ga K "InvalidContext"))
  g_InvalidPage : mg "InvalidPage" = some (.ref (He.ga K "InvalidPage"))
  g_InvalidBody : mg "InvalidBody" = some (.ref (He.ga K "InvalidBody"))
  g_InvalidTag : mg "InvalidTag" = some (.ref (He.ga K "InvalidTag"))
  g_Misplaced : mg "Misplaced" = some (.ref (He.ga K "Misplaced"))
  g_InvalidPlan : mg "InvalidPlan" = some (.ref (He.ga K "InvalidPlan"))
  g_InvalidPass : mg "InvalidPass" = some (.ref (He.ga K "InvalidPass"))
  g_InvalidPatches : mg "InvalidPatches" = some (.ref (He.ga K "InvalidPatches"))
  g_InvalidSize : mg "InvalidSize" = some (.ref (He.ga K "InvalidSize"))
  g_InvalidAction : mg "InvalidAction" = some (.ref (He.ga K "InvalidAction"))
  g_InvalidCommand : mg "InvalidCommand" = some (.ref (He.ga K "InvalidCommand"))
  g_NotALibrary : mg "NotALibrary" = some (.ref (He.ga K "NotALibrary"))
  g_TypeTrouble : mg "TypeTrouble" = some (.ref (He.ga K "TypeTrouble"))
  g_StateError : mg "StateError" = some (.ref (He.ga K "StateError"))
  g_NameTaken : mg "NameTaken" = some (.ref (He.ga K "NameTaken"))
  g_MissingTemplate : mg "MissingTemplate" = some (.ref (He.ga K "MissingTemplate"))
  g_InUse : mg "InUse" = some (.ref (He.ga K "InUse"))
  g_Ring : mg "Ring" = some (.ref (He.ga K "Ring"))
  g_Unfit : mg "Unfit" = some (.ref (He.ga K "Unfit"))
  g_NoSuchPath : mg "NoSuchPath" = some (.ref (He.ga K "NoSuchPath"))
  g_NotLate : mg "NotLate" = some (.ref (He.ga K "NotLate"))
  g_NotDone : mg "NotDone" = some (.ref (He.ga K "NotDone"))
  g_Busy : mg "Busy" = some (.ref (He.ga K "Busy"))
  g_NothingToUndo : mg "NothingToUndo" = some (.ref (He.ga K "NothingToUndo"))
  g_SizeError : mg "SizeError" = some (.ref (He.ga K "SizeError"))
  g_TooManyTemplates : mg "TooManyTemplates" = some (.ref (He.ga K "TooManyTemplates"))
  g_TooManyLevels : mg "TooManyLevels" = some (.ref (He.ga K "TooManyLevels"))
  g_TooManyNodes : mg "TooManyNodes" = some (.ref (He.ga K "TooManyNodes"))
  g_TooManyElements : mg "TooManyElements" = some (.ref (He.ga K "TooManyElements"))
  g_TooManyEntries : mg "TooManyEntries" = some (.ref (He.ga K "TooManyEntries"))
  g_TooDeep : mg "TooDeep" = some (.ref (He.ga K "TooDeep"))
  n_ArithmeticError : mg "ArithmeticError" = none
  n_LookupError : mg "LookupError" = none
  n_ValueError : mg "ValueError" = none
  n_abs : mg "abs" = none
  n_all : mg "all" = none
  n_any : mg "any" = none
  n_bool : mg "bool" = none
  n_dict : mg "dict" = none
  n_divmod : mg "divmod" = none
  n_int : mg "int" = none
  n_isinstance : mg "isinstance" = none
  n_len : mg "len" = none
  n_list : mg "list" = none
  n_max : mg "max" = none
  n_min : mg "min" = none
  n_ord : mg "ord" = none
  n_range : mg "range" = none
  n_repr : mg "repr" = none
  n_sorted : mg "sorted" = none
  n_str : mg "str" = none
  n_tuple : mg "tuple" = none
  n_zip : mg "zip" = none
section
variable {K : PySem.W.Frag} {mg : Str → Option Value}
theorem b_is_name (T : Top K mg) : Binds K T.fd_is_name ["thing"] [] := T.F_is_name.bindsN fun _ _ _ _ _ _ us hl => match us, hl with | [_], _ => rfl
theorem st_is_name (v0 : V) : start ["thing", "letter"] [v0] = [some v0, none] := rfl
abbrev Ok_is_name (P : Program) (w : World) (base : Heap) (T : Top K mg) (k : Nat) (sp : Sp) : Prop := FnOk P w K mg base CX0 k (He.ga K "is_name") T.fd_is_name ["thing"] sp
theorem b_has_level (T : Top K mg) : Binds K T.fd_has_level ["thing", "most"] [] := T.F_has_level.bindsN fun _ _ _ _ _ _ us hl => match us, hl with | [_, _], _ => rfl
theorem st_has_level (v0 v1 : V) : start ["thing", "most", "name", "part"] [v0, v1] = [some v0, some v1, none, none] := rfl
abbrev Ok_has_level (P : Program) (w : World) (base : Heap) (T : Top K mg) (k : Nat) (sp : Sp) : Prop := FnOk P w K mg base CX0 k (He.ga K "has_level") T.fd_has_level ["thing", "most"] sp
theorem b_write_text (T : Top K mg) : Binds K T.fd_write_text ["text"] [] := T.F_write_text.bindsN fun _ _ _ _ _ _ us hl => match us, hl with | [_], _ => rfl
theorem st_write_text (v0 : V) : start ["text"] [v0] = [some v0] := rfl
abbrev Ok_write_text (P : Program) (w : World) (base : Heap) (T : Top K mg) (k : Nat) (sp : Sp) : Prop := FnOk P w K mg base CX0 k (He.ga K "write_text") T.fd_write_text ["text"] sp
theorem b_write_attribute (T : Top K mg) : Binds K T.fd_write_attribute ["text"] [] := T.F_write_attribute.bindsN fun _ _ _ _ _ _ us hl => match us, hl with | [_], _ => rfl
theorem st_write_attribute (v0 : V) : start ["text"] [v0] = [some v0] := rfl
abbrev Ok_write_attribute (P : Program) (w : World) (base : Heap) (T : Top K mg) (k : Nat) (sp : Sp) : Prop := FnOk P w K mg base CX0 k (He.ga K "write_attribute") T.fd_write_attribute ["text"] sp
theorem b_write_sign (T : Top K mg) : Binds K T.fd_write_sign ["sign"] [] := T.F_write_sign.bindsN fun _ _ _ _ _ _ us hl => match us, hl with | [_], _ => rfl
theorem st_write_sign (v0 : V) : start ["sign", "high", "low"] [v0] = [some v0, none, none] := rfl
abbrev Ok_write_sign (P : Program) (w : World) (base : Heap) (T : Top K mg) (k : Nat) (sp : Sp) : Prop := FnOk P w K mg base CX0 k (He.ga K "write_sign") T.fd_write_sign ["sign"] sp
theorem b_write_code (T : Top K mg) : Binds K T.fd_write_code ["text"] [] := T.F_write_code.bindsN fun _ _ _ _ _ _ us hl => match us, hl with | [_], _ => rfl
theorem st_write_code (v0 : V) : start ["text", "sign"] [v0] = [some v0, none] := rfl
abbrev Ok_write_code (P : Program) (w : World) (base : Heap) (T : Top K mg) (k : Nat) (sp : Sp) : Prop := FnOk P w K mg base CX0 k (He.ga K "write_code") T.fd_write_code ["text"] sp
theorem b_write_literal (T : Top K mg) : Binds K T.fd_write_literal ["value"] [] := T.F_write_literal.bindsN fun _ _ _ _ _ _ us hl => match us, hl with | [_], _ => rfl
theorem st_write_literal (v0 : V) : start ["value", "inner", "rows", "name", "part"] [v0] = [some v0, none, none, none, none] := rfl
abbrev Ok_write_literal (P : Program) (w : World) (base : Heap) (T : Top K mg) (k : Nat) (sp : Sp) : Prop := FnOk P w K mg base CX0 k (He.ga K "write_literal") T.fd_write_literal ["value"] sp
theorem b_is_value (T : Top K mg) : Binds K T.fd_is_value ["thing"] [] := T.F_is_value.bindsN fun _ _ _ _ _ _ us hl => match us, hl with | [_], _ => rfl
theorem st_is_value (v0 : V) : start ["thing"] [v0] = [some v0] := rfl
abbrev Ok_is_value (P : Program) (w : World) (base : Heap) (T : Top K mg) (k : Nat) (sp : Sp) : Prop := FnOk P w K mg base CX0 k (He.ga K "is_value") T.fd_is_value ["thing"] sp
theorem b_are_texts (T : Top K mg) : Binds K T.fd_are_texts ["thing"] [] := T.F_are_texts.bindsN fun _ _ _ _ _ _ us hl => match us, hl with | [_], _ => rfl
theorem st_are_texts (v0 : V) : start ["thing", "part"] [v0] = [some v0, none] := rfl
abbrev Ok_are_texts (P : Program) (w : World) (base : Heap) (T : Top K mg) (k : Nat) (sp : Sp) : Prop := FnOk P w K mg base CX0 k (He.ga K "are_texts") T.fd_are_texts ["thing"] sp
theorem b_is_pair (T : Top K mg) : Binds K T.fd_is_pair ["thing"] [] := T.F_is_pair.bindsN fun _ _ _ _ _ _ us hl => match us, hl with | [_], _ => rfl
theorem st_is_pair (v0 : V) : start ["thing"] [v0] = [some v0] := rfl
abbrev Ok_is_pair (P : Program) (w : World) (base : Heap) (T : Top K mg) (k : Nat) (sp : Sp) : Prop := FnOk P w K mg base CX0 k (He.ga K "is_pair") T.fd_is_pair ["thing"] sp
theorem b_is_address (T : Top K mg) : Binds K T.fd_is_address ["thing"] [] := T.F_is_address.bindsN fun _ _ _ _ _ _ us hl => match us, hl with | [_], _ => rfl
theorem st_is_address (v0 : V) : start ["thing", "pair"] [v0] = [some v0, none] := rfl
abbrev Ok_is_address (P : Program) (w : World) (base : Heap) (T : Top K mg) (k : Nat) (sp : Sp) : Prop := FnOk P w K mg base CX0 k (He.ga K "is_address") T.fd_is_address ["thing"] sp
theorem b_is_attribute (T : Top K mg) : Binds K T.fd_is_attribute ["thing"] [] := T.F_is_attribute.bindsN fun _ _ _ _ _ _ us hl => match us, hl with | [_], _ => rfl
theorem st_is_attribute (v0 : V) : start ["thing"] [v0] = [some v0] := rfl
abbrev Ok_is_attribute (P : Program) (w : World) (base : Heap) (T : Top K mg) (k : Nat) (sp : Sp) : Prop := FnOk P w K mg base CX0 k (He.ga K "is_attribute") T.fd_is_attribute ["thing"] sp
theorem b_is_text_node (T : Top K mg) : Binds K T.fd_is_text_node ["thing"] [] := T.F_is_text_node.bindsN fun _ _ _ _ _ _ us hl => match us, hl with | [_], _ => rfl
theorem st_is_text_node (v0 : V) : start ["thing"] [v0] = [some v0] := rfl
abbrev Ok_is_text_node (P : Program) (w : World) (base : Heap) (T : Top K mg) (k : Nat) (sp : Sp) : Prop := FnOk P w K mg base CX0 k (He.ga K "is_text_node") T.fd_is_text_node ["thing"] sp
theorem b_is_node (T : Top K mg) : Binds K T.fd_is_node ["thing", "most"] [] := T.F_is_node.bindsN fun _ _ _ _ _ _ us hl => match us, hl with | [_, _], _ => rfl
theorem st_is_node (v0 v1 : V) : start ["thing", "most", "part"] [v0, v1] = [some v0, some v1, none] := rfl
abbrev Ok_is_node (P : Program) (w : World) (base : Heap) (T : Top K mg) (k : Nat) (sp : Sp) : Prop := FnOk P w K mg base CX0 k (He.ga K "is_node") T.fd_is_node ["thing", "most"] sp
theorem b_are_nodes (T : Top K mg) : Binds K T.fd_are_nodes ["thing", "most"] [] := T.F_are_nodes.bindsN fun _ _ _ _ _ _ us hl => match us, hl with | [_, _], _ => rfl
theorem st_are_nodes (v0 v1 : V) : start ["thing", "most", "node", "after"] [v0, v1] = [some v0, some v1, none, none] := rfl
abbrev Ok_are_nodes (P : Program) (w : World) (base : Heap) (T : Top K mg) (k : Nat) (sp : Sp) : Prop := FnOk P w K mg base CX0 k (He.ga K "are_nodes") T.fd_are_nodes ["thing", "most"] sp
theorem b_is_tree (T : Top K mg) : Binds K T.fd_is_tree ["thing"] [] := T.F_is_tree.bindsN fun _ _ _ _ _ _ us hl => match us, hl with | [_], _ => rfl
theorem st_is_tree (v0 : V) : start ["thing"] [v0] = [some v0] := rfl
abbrev Ok_is_tree (P : Program) (w : World) (base : Heap) (T : Top K mg) (k : Nat) (sp : Sp) : Prop := FnOk P w K mg base CX0 k (He.ga K "is_tree") T.fd_is_tree ["thing"] sp
theorem b_written_attribute (T : Top K mg) : Binds K T.fd_written_attribute ["attribute"] [] := T.F_written_attribute.bindsN fun _ _ _ _ _ _ us hl => match us, hl with | [_], _ => rfl
theorem st_written_attribute (v0 : V) : start ["attribute", "name", "value", "parts", "pairs", "path", "query", "part", "word", "text"] [v0] = [some v0, none, none, none, none, none, none, none, none, none] := rfl
abbrev Ok_written_attribute (P : Program) (w : World) (base : Heap) (T : Top K mg) (k : Nat) (sp : Sp) : Prop := FnOk P w K mg base CX0 k (He.ga K "written_attribute") T.fd_written_attribute ["attribute"] sp
theorem b_written_node (T : Top K mg) : Binds K T.fd_written_node ["node"] [] := T.F_written_node.bindsN fun _ _ _ _ _ _ us hl => match us, hl with | [_], _ => rfl
theorem st_written_node (v0 : V) : start ["node", "kind", "name", "attributes", "nodes", "front", "attribute"] [v0] = [some v0, none, none, none, none, none, none] := rfl
abbrev Ok_written_node (P : Program) (w : World) (base : Heap) (T : Top K mg) (k : Nat) (sp : Sp) : Prop := FnOk P w K mg base CX0 k (He.ga K "written_node") T.fd_written_node ["node"] sp
theorem b_written (T : Top K mg) : Binds K T.fd_written ["nodes"] [] := T.F_written.bindsN fun _ _ _ _ _ _ us hl => match us, hl with | [_], _ => rfl
theorem st_written (v0 : V) : start ["nodes", "node"] [v0] = [some v0, none] := rfl
abbrev Ok_written (P : Program) (w : World) (base : Heap) (T : Top K mg) (k : Nat) (sp : Sp) : Prop := FnOk P w K mg base CX0 k (He.ga K "written") T.fd_written ["nodes"] sp
theorem b_write (T : Top K mg) : Binds K T.fd_write ["tree"] [] := T.F_write.bindsN fun _ _ _ _ _ _ us hl => match us, hl with | [_], _ => rfl
theorem st_write (v0 : V) : start ["tree"] [v0] = [some v0] := rfl
abbrev Ok_write (P : Program) (w : World) (base : Heap) (T : Top K mg) (k : Nat) (sp : Sp) : Prop := FnOk P w K mg base CX0 k (He.ga K "write") T.fd_write ["tree"] sp
theorem b__law_cell (T : Top K mg) : Binds K T.fd__law_cell ["_law_script", "_law_k"] [] := T.F__law_cell.bindsN fun _ _ _ _ _ _ us hl => match us, hl with | [_, _], _ => rfl
theorem st__law_cell (v0 v1 : V) : start ["_law_script", "_law_k", "_law_state", "_law_cell_here"] [v0, v1] = [some v0, some v1, none, none] := rfl
abbrev Ok__law_cell (P : Program) (w : World) (base : Heap) (T : Top K mg) (k : Nat) (sp : Sp) : Prop := FnOk P w K mg base CX0 k (He.ga K "_law_cell") T.fd__law_cell ["_law_script", "_law_k"] sp
theorem b__law_pool (T : Top K mg) : Binds K T.fd__law_pool ["_law_cell_here"] [] := T.F__law_pool.bindsN fun _ _ _ _ _ _ us hl => match us, hl with | [_], _ => rfl
theorem st__law_pool (v0 : V) : start ["_law_cell_here", "_law_digits"] [v0] = [some v0, none] := rfl
abbrev Ok__law_pool (P : Program) (w : World) (base : Heap) (T : Top K mg) (k : Nat) (sp : Sp) : Prop := FnOk P w K mg base CX0 k (He.ga K "_law_pool") T.fd__law_pool ["_law_cell_here"] sp
theorem b__law_draw (T : Top K mg) : Binds K T.fd__law_draw ["_law_pool_here", "_law_many"] [] := T.F__law_draw.bindsN fun _ _ _ _ _ _ us hl => match us, hl with | [_, _], _ => rfl
theorem st__law_draw (v0 v1 : V) : start ["_law_pool_here", "_law_many", "_law_state", "_law_digit"] [v0, v1] = [some v0, some v1, none, none] := rfl
abbrev Ok__law_draw (P : Program) (w : World) (base : Heap) (T : Top K mg) (k : Nat) (sp : Sp) : Prop := FnOk P w K mg base CX0 k (He.ga K "_law_draw") T.fd__law_draw ["_law_pool_here", "_law_many"] sp
theorem b__law_words (T : Top K mg) : Binds K T.fd__law_words ["_law_pool_here", "_law_many"] [] := T.F__law_words.bindsN fun _ _ _ _ _ _ us hl => match us, hl with | [_, _], _ => rfl
theorem st__law_words (v0 v1 : V) : start ["_law_pool_here", "_law_many", "_law_letters", "_law_menu", "_law_way", "_law_begin", "_law_stem", "_law_at", "_law_found", "_law_k", "_law_word"] [v0, v1] = [some v0, some v1, none, none, none, none, none, none, none, none, none] := rfl
abbrev Ok__law_words (P : Program) (w : World) (base : Heap) (T : Top K mg) (k : Nat) (sp : Sp) : Prop := FnOk P w K mg base CX0 k (He.ga K "_law_words") T.fd__law_words ["_law_pool_here", "_law_many"] sp
theorem b__law_chars (T : Top K mg) : Binds K T.fd__law_chars ["_law_pool_here"] [] := T.F__law_chars.bindsN fun _ _ _ _ _ _ us hl => match us, hl with | [_], _ => rfl
theorem st__law_chars (v0 : V) : start ["_law_pool_here", "_law_menu", "_law_way", "_law_signs", "_law_k"] [v0] = [some v0, none, none, none, none] := rfl
abbrev Ok__law_chars (P : Program) (w : World) (base : Heap) (T : Top K mg) (k : Nat) (sp : Sp) : Prop := FnOk P w K mg base CX0 k (He.ga K "_law_chars") T.fd__law_chars ["_law_pool_here"] sp
theorem b__law_form (T : Top K mg) : Binds K T.fd__law_form ["_law_pool_here", "_law_deep"] [] := T.F__law_form.bindsN fun _ _ _ _ _ _ us hl => match us, hl with | [_, _], _ => rfl
theorem st__law_form (v0 v1 : V) : start ["_law_pool_here", "_law_deep", "_law_way", "_law_words_here", "_law_fields", "_law_key", "_law_inner", "_law_word"] [v0, v1] = [some v0, some v1, none, none, none, none, none, none] := rfl
abbrev Ok__law_form (P : Program) (w : World) (base : Heap) (T : Top K mg) (k : Nat) (sp : Sp) : Prop := FnOk P w K mg base CX0 k (He.ga K "_law_form") T.fd__law_form ["_law_pool_here", "_law_deep"] sp
theorem b__law_thing_of (T : Top K mg) : Binds K T.fd__law_thing_of ["_law_pool_here", "_law_form_here"] [] := T.F__law_thing_of.bindsN fun _ _ _ _ _ _ us hl => match us, hl with | [_, _], _ => rfl
theorem st__law_thing_of (v0 v1 : V) : start ["_law_pool_here", "_law_form_here", "_law_found", "_law_word", "_law_inner", "_law_k", "_law_numbers"] [v0, v1] = [some v0, some v1, none, none, none, none, none] := rfl
abbrev Ok__law_thing_of (P : Program) (w : World) (base : Heap) (T : Top K mg) (k : Nat) (sp : Sp) : Prop := FnOk P w K mg base CX0 k (He.ga K "_law_thing_of") T.fd__law_thing_of ["_law_pool_here", "_law_form_here"] sp
theorem b__law_code (T : Top K mg) : Binds K T.fd__law_code ["_law_chars_here"] [] := T.F__law_code.bindsN fun _ _ _ _ _ _ us hl => match us, hl with | [_], _ => rfl
theorem st__law_code (v0 : V) : start ["_law_chars_here", "_law_found", "_law_sign", "_law_plain", "_law_low", "_law_high"] [v0] = [some v0, none, none, none, none, none] := rfl
abbrev Ok__law_code (P : Program) (w : World) (base : Heap) (T : Top K mg) (k : Nat) (sp : Sp) : Prop := FnOk P w K mg base CX0 k (He.ga K "_law_code") T.fd__law_code ["_law_chars_here"] sp
theorem b__law_literal (T : Top K mg) : Binds K T.fd__law_literal ["_law_thing_here"] [] := T.F__law_literal.bindsN fun _ _ _ _ _ _ us hl => match us, hl with | [_], _ => rfl
theorem st__law_literal (v0 : V) : start ["_law_thing_here", "_law_chars_here", "_law_names", "_law_rows", "_law_word", "_law_each"] [v0] = [some v0, none, none, none, none, none] := rfl
abbrev Ok__law_literal (P : Program) (w : World) (base : Heap) (T : Top K mg) (k : Nat) (sp : Sp) : Prop := FnOk P w K mg base CX0 k (He.ga K "_law_literal") T.fd__law_literal ["_law_thing_here"] sp
theorem b__law_escaped (T : Top K mg) : Binds K T.fd__law_escaped ["_law_where", "_law_thing_here"] [] := T.F__law_escaped.bindsN fun _ _ _ _ _ _ us hl => match us, hl with | [_, _], _ => rfl
theorem st__law_escaped (v0 v1 : V) : start ["_law_where", "_law_thing_here", "_law_chars_here"] [v0, v1] = [some v0, some v1, none] := rfl
abbrev Ok__law_escaped (P : Program) (w : World) (base : Heap) (T : Top K mg) (k : Nat) (sp : Sp) : Prop := FnOk P w K mg base CX0 k (He.ga K "_law_escaped") T.fd__law_escaped ["_law_where", "_law_thing_here"] sp
theorem b__law_kind (T : Top K mg) : Binds K T.fd__law_kind ["_law_e"] [] := T.F__law_kind.bindsN fun _ _ _ _ _ _ us hl => match us, hl with | [_], _ => rfl
theorem st__law_kind (v0 : V) : start ["_law_e", "_law_kinds", "_law_bases", "_law_own", "_law_at", "_law_words_here"] [v0] = [some v0, none, none, none, none, none] := rfl
abbrev Ok__law_kind (P : Program) (w : World) (base : Heap) (T : Top K mg) (k : Nat) (sp : Sp) : Prop := FnOk P w K mg base CX0 k (He.ga K "_law_kind") T.fd__law_kind ["_law_e"] sp
theorem b__law_fields_of (T : Top K mg) : Binds K T.fd__law_fields_of ["_law_e"] [] := T.F__law_fields_of.bindsN fun _ _ _ _ _ _ us hl => match us, hl with | [_], _ => rfl
theorem st__law_fields_of (v0 : V) : start ["_law_e"] [v0] = [some v0] := rfl
abbrev Ok__law_fields_of (P : Program) (w : World) (base : Heap) (T : Top K mg) (k : Nat) (sp : Sp) : Prop := FnOk P w K mg base CX0 k (He.ga K "_law_fields_of") T.fd__law_fields_of ["_law_e"] sp
theorem b__law_other_fields (T : Top K mg) : Binds K T.fd__law_other_fields ["_law_e"] [] := T.F__law_other_fields.bindsN fun _ _ _ _ _ _ us hl => match us, hl with | [_], _ => rfl
theorem st__law_other_fields (v0 : V) : start ["_law_e"] [v0] = [some v0] := rfl
abbrev Ok__law_other_fields (P : Program) (w : World) (base : Heap) (T : Top K mg) (k : Nat) (sp : Sp) : Prop := FnOk P w K mg base CX0 k (He.ga K "_law_other_fields") T.fd__law_other_fields ["_law_e"] sp
theorem b__law_caught (T : Top K mg) : Binds K T.fd__law_caught ["_law_call"] [] := T.F__law_caught.bindsN fun _ _ _ _ _ _ us hl => match us, hl with | [_], _ => rfl
theorem st__law_caught (v0 : V) : start ["_law_call", "_law_e"] [v0] = [some v0, none] := rfl
abbrev Ok__law_caught (P : Program) (w : World) (base : Heap) (T : Top K mg) (k : Nat) (sp : Sp) : Prop := FnOk P w K mg base CX0 k (He.ga K "_law_caught") T.fd__law_caught ["_law_call"] sp
theorem b__law_attribute (T : Top K mg) : Binds K T.fd__law_attribute ["_law_pool_here", "_law_word"] [] := T.F__law_attribute.bindsN fun _ _ _ _ _ _ us hl => match us, hl with | [_, _], _ => rfl
theorem st__law_attribute (v0 v1 : V) : start ["_law_pool_here", "_law_word", "_law_ways", "_law_words_here", "_law_k", "_law_each"] [v0, v1] = [some v0, some v1, none, none, none, none] := rfl
abbrev Ok__law_attribute (P : Program) (w : World) (base : Heap) (T : Top K mg) (k : Nat) (sp : Sp) : Prop := FnOk P w K mg base CX0 k (He.ga K "_law_attribute") T.fd__law_attribute ["_law_pool_here", "_law_word"] sp
theorem b__law_trunk (T : Top K mg) : Binds K T.fd__law_trunk ["_law_pool_here", "_law_deep"] [] := T.F__law_trunk.bindsN fun _ _ _ _ _ _ us hl => match us, hl with | [_, _], _ => rfl
theorem st__law_trunk (v0 v1 : V) : start ["_law_pool_here", "_law_deep", "_law_found", "_law_many", "_law_word", "_law_way", "_law_chars_here", "_law_rows", "_law_each"] [v0, v1] = [some v0, some v1, none, none, none, none, none, none, none] := rfl
abbrev Ok__law_trunk (P : Program) (w : World) (base : Heap) (T : Top K mg) (k : Nat) (sp : Sp) : Prop := FnOk P w K mg base CX0 k (He.ga K "_law_trunk") T.fd__law_trunk ["_law_pool_here", "_law_deep"] sp
theorem b__law_sheet (T : Top K mg) : Binds K T.fd__law_sheet ["_law_trunk_here"] [] := T.F__law_sheet.bindsN fun _ _ _ _ _ _ us hl => match us, hl with | [_], _ => rfl
theorem st__law_sheet (v0 : V) : start ["_law_trunk_here", "_law_found", "_law_node", "_law_front", "_law_each"] [v0] = [some v0, none, none, none, none] := rfl
abbrev Ok__law_sheet (P : Program) (w : World) (base : Heap) (T : Top K mg) (k : Nat) (sp : Sp) : Prop := FnOk P w K mg base CX0 k (He.ga K "_law_sheet") T.fd__law_sheet ["_law_trunk_here"] sp
theorem b__law_attribute_text (T : Top K mg) : Binds K T.fd__law_attribute_text ["_law_each"] [] := T.F__law_attribute_text.bindsN fun _ _ _ _ _ _ us hl => match us, hl with | [_], _ => rfl
theorem st__law_attribute_text (v0 : V) : start ["_law_each", "_law_ways", "_law_rows", "_law_chars_here", "_law_word"] [v0] = [some v0, none, none, none, none] := rfl
abbrev Ok__law_attribute_text (P : Program) (w : World) (base : Heap) (T : Top K mg) (k : Nat) (sp : Sp) : Prop := FnOk P w K mg base CX0 k (He.ga K "_law_attribute_text") T.fd__law_attribute_text ["_law_each"] sp
theorem b__law_odd_nodes (T : Top K mg) : Binds K T.fd__law_odd_nodes [] [] := T.F__law_odd_nodes.bindsN fun _ _ _ _ _ _ us hl => match us, hl with | [], _ => rfl
theorem st__law_odd_nodes : start ["_law_some", "_law_row"] [] = [none, none] := rfl
abbrev Ok__law_odd_nodes (P : Program) (w : World) (base : Heap) (T : Top K mg) (k : Nat) (sp : Sp) : Prop := FnOk P w K mg base CX0 k (He.ga K "_law_odd_nodes") T.fd__law_odd_nodes [] sp
theorem b__law_odd_attributes (T : Top K mg) : Binds K T.fd__law_odd_attributes [] [] := T.F__law_odd_attributes.bindsN fun _ _ _ _ _ _ us hl => match us, hl with | [], _ => rfl
theorem st__law_odd_attributes : start ["_law_some"] [] = [none] := rfl
abbrev Ok__law_odd_attributes (P : Program) (w : World) (base : Heap) (T : Top K mg) (k : Nat) (sp : Sp) : Prop := FnOk P w K mg base CX0 k (He.ga K "_law_odd_attributes") T.fd__law_odd_attributes [] sp
theorem b__law_bent (T : Top K mg) : Binds K T.fd__law_bent ["_law_pool_here", "_law_trunk_here", "_law_odd"] [] := T.F__law_bent.bindsN fun _ _ _ _ _ _ us hl => match us, hl with | [_, _, _], _ => rfl
theorem st__law_bent (v0 v1 v2 : V) : start ["_law_pool_here", "_law_trunk_here", "_law_odd", "_law_k", "_law_at", "_law_inner", "_law_node"] [v0, v1, v2] = [some v0, some v1, some v2, none, none, none, none] := rfl
abbrev Ok__law_bent (P : Program) (w : World) (base : Heap) (T : Top K mg) (k : Nat) (sp : Sp) : Prop := FnOk P w K mg base CX0 k (He.ga K "_law_bent") T.fd__law_bent ["_law_pool_here", "_law_trunk_here", "_law_odd"] sp
theorem b__law_refused (T : Top K mg) : Binds K T.fd__law_refused ["_law_thing_here"] [] := T.F__law_refused.bindsN fun _ _ _ _ _ _ us hl => match us, hl with | [_], _ => rfl
theorem st__law_refused (v0 : V) : start ["_law_thing_here", "_law_told", "_law_found", "_law_each"] [v0] = [some v0, none, none, none] := rfl
abbrev Ok__law_refused (P : Program) (w : World) (base : Heap) (T : Top K mg) (k : Nat) (sp : Sp) : Prop := FnOk P w K mg base CX0 k (He.ga K "_law_refused") T.fd__law_refused ["_law_thing_here"] sp
theorem b__law_right (T : Top K mg) : Binds K T.fd__law_right ["_law_pool_here"] [] := T.F__law_right.bindsN fun _ _ _ _ _ _ us hl => match us, hl with | [_], _ => rfl
theorem st__law_right (v0 : V) : start ["_law_pool_here", "_law_odds", "_law_turn", "_law_trunk_here", "_law_bent_here", "_law_twins", "_law_each"] [v0] = [some v0, none, none, none, none, none, none] := rfl
abbrev Ok__law_right (P : Program) (w : World) (base : Heap) (T : Top K mg) (k : Nat) (sp : Sp) : Prop := FnOk P w K mg base CX0 k (He.ga K "_law_right") T.fd__law_right ["_law_pool_here"] sp
theorem b_law (T : Top K mg) : Binds K T.fd_law ["_law_script"] [] := T.F_law.bindsN fun _ _ _ _ _ _ us hl => match us, hl with | [_], _ => rfl
theorem st_law (v0 : V) : start ["_law_script", "_law_some", "_law_k", "_law_each", "_law_odd"] [v0] = [some v0, none, none, none, none] := rfl
abbrev Ok_law (P : Program) (w : World) (base : Heap) (T : Top K mg) (k : Nat) (sp : Sp) : Prop := FnOk P w K mg base CX0 k (He.ga K "law") T.fd_law ["_law_script"] sp
theorem b_InvalidTree___init__ (T : Top K mg) : Binds K T.fd_InvalidTree___init__ ["self", "value"] [] := T.F_InvalidTree___init__.bindsN fun _ _ _ _ _ _ us hl => match us, hl with | [_, _], _ => rfl
theorem st_InvalidTree___init__ (v0 v1 : V) : start ["self", "value"] [v0, v1] = [some v0, some v1] := rfl
abbrev Ok_InvalidTree___init__ (P : Program) (w : World) (base : Heap) (T : Top K mg) (k : Nat) (sp : Sp) : Prop := FnOk P w K mg base CX0 k (He.ma K (He.ga K "InvalidTree") "__init__") T.fd_InvalidTree___init__ ["self", "value"] sp
end
end Sk
namespace Sk
open PySem PySem.Spec PyProof.Rows L2
section
variable {P : Program} {w : World} {K : PySem.W.Frag} {mg : Str → Option Value} {base : Heap}
/-! ### _law_draw -/
def sp_draw : Sp := fun vs H Q _ => match vs with
  | [.ref a, .int m] => Pool H a ∧ 0 < m ∧ m < 1073741824 ∧ ∀ (i : Int) (H' : Hp), 0 ≤ i → i < m → Pool H' a → Keep a H H' → Q (.int i) H'
  | _ => False
theorem ok_draw (T : Top K mg) (k : Nat) : Ok__law_draw P w base T (k + 1) sp_draw := by
  refine T.F__law_draw.ok sc__law_draw (fun vs H Q E h => ?_) (fun cdv A outer s H vs Q E hr h => ⟨_, PSs.nox (pss_cons (ps_asg (pe_op (kplus K) (pe_ix (kget K) (vr 0) pe_int (fun _ _ => rfl)) pe_int) (pg_sub (vr 0) pe_int set_list))
      (pss_cons (ps_set (i := 2) sc__law_draw.nd rfl (by first | exact .inl rfl | exact .inr rfl) (pe_ix (kget K) (vr 0) pe_int (fun _ _ => rfl)))
      (pss_cons (ps_asg (pe_op op_modI (pe_op (kplus K) (pe_op (kplus K) (pe_op op_mulU (vr 2) (pe_op (kplus K) (pe_op op_modI (vr 2) pe_int) pe_int)) (pe_op op_mulU pe_int (pe_ix (kget K) (vr 0) pe_int (fun _ _ => rfl)))) pe_int) pe_int) (pg_sub (vr 0) pe_int set_list))
      (pss_cons (sif (tcmp op_gtI (pe_ix (kget K) (vr 0) pe_int (fun _ _ => rfl)) pe_int (nomark _)) (pss_cons (ps_asg (pe_callB call_dm (by rfl) T.n_divmod (by decide +kernel) (pa_cons (pe_ix (kget K) (vr 0) pe_int (fun _ _ => rfl)) (pa_cons (vr 1) pa_nil))) (gtup K 2 rfl (gs_cons (pg_sub (vr 0) pe_int set_list) (gs_cons (pg_name (i := 3) sc__law_draw.nd rfl (by first | exact .inl rfl | exact .inr rfl)) gs_nil))))
      (pss_one (ps_ret (vr 3)))) pss_nil)
      (pss_one (ps_ret (pe_op op_modI (pe_op op_divI (pe_ix (kget K) (vr 0) pe_int (fun _ _ => rfl)) pe_int) (vr 1)))))))), ?_⟩)
  · unfold sp_draw at h
    split at h
    · rfl
    · exact h.elim
  · unfold sp_draw at h
    split at h
    · obtain ⟨⟨s, d, n, hp, h0, h1, h2⟩, hm, hm2, q⟩ := h
      rename_i a m
      refine ⟨_, _, .inl (sqL_of hp), rfl, ?_⟩
      refine ⟨_, _, _, _, rfl, rfl, hp, rfl, ?_⟩
      refine ⟨_, _, .inl (sqL_of upd_same), rfl, ?_⟩
      refine ⟨by decide, .inl ⟨by omega, by omega⟩, _, _, .inl (sqL_of upd_same), rfl, .inl ⟨by decide, by decide⟩, by decide, _, _, _, _, rfl, rfl, upd_same, rfl, ?_⟩
      refine ⟨_, _, .inl (sqL_of upd_same), rfl, ?_⟩
      refine br2 (fun e => ?_) (fun e => ?_)
      · have e := of_decide_eq_true e
        refine ⟨_, _, .inl (sqL_of upd_same), rfl, ⟨hm, hm2⟩, fun p np => ?_⟩
        have npa := (upd_none np).1
        refine ⟨_, _, rfl, sqT_of upd_same, rfl, ?_⟩
        refine ⟨_, _, _, _, rfl, rfl, (upd_ne npa.symm).trans upd_same, rfl, ?_⟩
        refine q _ _ (Int.emod_nonneg _ (by omega)) (Int.emod_lt_of_pos _ hm) ⟨_, _, _, upd_same, Int.emod_nonneg _ (by decide), Int.emod_lt_of_pos _ (by decide), Int.ediv_nonneg h2 (by omega)⟩ ?_
        exact ((Keep.refl a H).upd.upd.trans (keep_of (same_new np))).upd
      · refine ⟨_, _, .inl (sqL_of upd_same), rfl, ⟨by decide, by decide⟩, hm, ?_⟩
        refine q _ _ (Int.emod_nonneg _ (by omega)) (Int.emod_lt_of_pos _ hm) ⟨_, _, _, upd_same, Int.emod_nonneg _ (by decide), Int.emod_lt_of_pos _ (by decide), h2⟩ ?_
        exact (Keep.refl a H).upd.upd
    · exact h.elim
/-! ### _law_cell, _law_pool -/
def sp_cell (K : PySem.W.Frag) : Sp := fun vs H Q _ => match vs with
  | [.ref a, .int k] => (∃ ns : List Int, SqL K H a (ns.map V.int)) ∧ 0 ≤ k ∧ k < 64 ∧ ∀ (i : Int) (H' : Hp), Same H H' → Q (.int i) H'
  | _ => False
theorem ok_cell (T : Top K mg) (k : Nat) : Ok__law_cell P w base T (k + 1) (sp_cell K) := by
  refine T.F__law_cell.ok sc__law_cell (fun vs H Q E h => ?_) (fun cdv A outer s H vs Q E hr h => ⟨_, PSs.nox (pss_cons (sif (tcmp op_ltI (vr 1) (pe_callB (klen K) (by rfl) T.n_len (by decide +kernel) (pa_cons (vr 0) pa_nil)) (nomark _)) (pss_one (ps_ret (pe_ix (kget K) (vr 0) (vr 1) (fun _ _ => rfl)))) pss_nil)
      (pss_cons (ps_set (i := 2) sc__law_cell.nd rfl (by first | exact .inl rfl | exact .inr rfl) (pe_op op_modI (pe_op op_mulU pe_int (pe_op (kplus K) (pe_op (kplus K) (pe_op op_mulU (vr 1) (vr 1)) (pe_op op_mulU pe_int (vr 1))) pe_int)) pe_int))
      (pss_cons (ps_for PassesOwn.never rfl (ilist K (pe_slice (kcut K) (vr 0) po_none (po_u pe_int))) (pg_name (i := 3) sc__law_cell.nd rfl (by first | exact .inl rfl | exact .inr rfl)) (pss_one (ps_set (i := 2) sc__law_cell.nd rfl (by first | exact .inl rfl | exact .inr rfl) (pe_op op_modI (pe_op (kplus K) (pe_op op_mulU (vr 2) pe_int) (vr 3)) pe_int))))
      (pss_one (ps_ret (vr 2)))))), ?_⟩)
  · unfold sp_cell at h
    split at h
    · rfl
    · exact h.elim
  · unfold sp_cell at h
    split at h
    · obtain ⟨⟨ns, hS⟩, h0, h1, q⟩ := h
      rename_i a m
      refine ⟨_, .inl hS, br2 (fun e => ?_) (fun e => ?_)⟩
      · have e := of_decide_eq_true e
        rw [List.length_map] at e
        have hl : m.toNat < ns.length := by omega
        refine ⟨_, .int ns[m.toNat], .inl hS, ?_, q _ _ (Same.refl H)⟩
        unfold atI ixN
        rw [if_pos h0, List.length_map, if_pos e]
        show (ns.map V.int)[m.toNat]? = _
        rw [List.getElem?_map, List.getElem?_eq_getElem hl]
        rfl
      · refine ⟨.inl ⟨by omega, by omega⟩, .inl ⟨by decide, by decide⟩, .inl ⟨by decide, by decide⟩, by decide, ?_⟩
        refine .inl ⟨_, _, rfl, hS, fun p np => ?_⟩
        refine ⟨p, rfl, ⟨_, sqL_of upd_same⟩, for_list (xs := cutV (ns.map V.int) none (some 3)) (fun i σ H' => H' = upd H p (.lst (cutV (ns.map V.int) none (some 3))) ∧ ∃ (st : Int) (y : Option V), σ = [some (.ref a), some (.int m), some (.int st), y]) ⟨rfl, _, _, rfl⟩
          (fun i σ H' _ hv => ?_) (fun i x σ H' hx hv => ?_) (fun σ H' hv => ?_)⟩
        · rw [hv.1]
          exact sqL_of upd_same
        · obtain ⟨rfl, st, y, rfl⟩ := hv
          have hx' : ∃ n : Int, x = .int n := by
            have hm : x ∈ ns.map V.int := List.drop_subset _ _ (List.take_subset _ _ (List.mem_of_getElem? hx))
            obtain ⟨n, _, e⟩ := List.mem_map.mp hm
            exact ⟨n, e.symm⟩
          obtain ⟨n, rfl⟩ := hx'
          exact ⟨.inr ⟨by decide, by decide⟩, by decide, rfl, _, _, rfl⟩
        · obtain ⟨rfl, st, y, rfl⟩ := hv
          exact q _ _ (same_new np)
    · exact h.elim
def sp_pool : Sp := fun vs H Q _ => match vs with
  | [.int k] => ∀ (a : Addr) (H' : Hp), Same H H' → H a = none → Pool H' a → Q (.ref a) H'
  | _ => False
theorem ok_pool (T : Top K mg) (k : Nat) : Ok__law_pool P w base T (k + 1) sp_pool := by
  refine T.F__law_pool.ok sc__law_pool (fun vs H Q E h => ?_) (fun cdv A outer s H vs Q E hr h => ⟨_, PSs.nox (pss_cons (ps_set (i := 1) sc__law_pool.nd rfl (by first | exact .inl rfl | exact .inr rfl) pe_int)
      (pss_cons (sif (PW.pt (wor (tcmp op_ltI (vr 0) pe_int (nomark _)) (pw_or1 (tcmp op_geI (vr 0) (pe_op op_powI pe_int pe_int) (nomark _))))) (pss_one (ps_set (i := 1) sc__law_pool.nd rfl (by first | exact .inl rfl | exact .inr rfl) (pe_callB call_absU (by rfl) T.n_abs (by decide +kernel) (pa_cons (vr 0) pa_nil)))) pss_nil)
      (pss_one (ps_ret (pe_lst (pa_cons (pe_op op_modI (vr 0) pe_int) (pa_cons (vr 1) (pa_cons pe_int pa_nil)))))))), ?_⟩)
  · unfold sp_pool at h
    split at h
    · rfl
    · exact h.elim
  · unfold sp_pool at h
    split at h
    · rename_i m
      have fin : ∀ d : Int, 0 ≤ d → (([V.int (m % 1000000007), .int d, .int 0].length ≤ sizeLine) ∧ ∀ p, H p = none → Q (.ref p) (upd H p (.lst [.int (m % 1000000007), .int d, .int 0]))) := fun d hd =>
        ⟨by show 3 ≤ sizeLine; decide, fun p np => h p _ (same_new np) np ⟨_, _, _, upd_same, Int.emod_nonneg _ (by decide), Int.emod_lt_of_pos _ (by decide), hd⟩⟩
      refine br2 (fun e => ?_) (fun e => ?_)
      · refine ⟨by decide, fin _ ?_⟩
        have e := of_decide_eq_true e
        rw [if_pos e]
        omega
      · refine ⟨⟨by decide, by decide, by decide⟩, br2 (fun e2 => ?_) (fun e2 => ?_)⟩
        · refine ⟨by decide, fin _ ?_⟩
          split <;> omega
        · exact ⟨by decide, fin _ (by decide)⟩
    · exact h.elim
end
end Sk
namespace Sk
open PySem PySem.Spec PyProof.Rows L2
section
variable {P : Program} {w : World} {K : PySem.W.Frag} {mg : Str → Option Value} {base : Heap}
/-! ### _law_chars -/
def menuC : List V := [.str "", .str "a", .str "A b", .str "<", .str "&", .str "&lt;", .str "\"", .str "~", .str "/", .str "?a=1;", .str "\\", .str "\n", .str "{x}", .str "}"] ++ [.str "</p>", .str "'", .str "data", .str "0", .str "-7"]
theorem menuC_ok : ∀ x ∈ menuC, ∃ z, x = .str z ∧ TextOk 5 z := all_okT (by decide +kernel)
theorem signs_ok : ∀ c ∈ (Str.ofString "ab <>&\"~/;=.-_Z9{}\\\n").cps.toList, okc c = true := List.all_eq_true.mp (by decide +kernel)
theorem signs_len : (Str.ofString "ab <>&\"~/;=.-_Z9{}\\\n").cps.toList.length = 20 := by decide +kernel
def sp_chars : Sp := fun vs H Q _ => match vs with
  | [.ref a] => Pool H a ∧ ∀ (z : Str) (H' : Hp), TextOk 10 z → Pool H' a → Keep a H H' → Q (.str z) H'
  | _ => False
theorem ok_chars (T : Top K mg) (k : Nat) : Ok__law_chars P w base T (k + 2) sp_chars := by
  have G__law_draw : Ok__law_draw P w base T 1 sp_draw := ok_draw T 0
  refine T.F__law_chars.ok sc__law_chars (fun vs H Q E h => ?_) (fun cdv A outer s H vs Q E hr h => ⟨_, PSs.nox (pss_cons (ps_set (i := 1) sc__law_chars.nd rfl (by first | exact .inl rfl | exact .inr rfl) (pe_lst (pa_cons pe_str (pa_cons pe_str (pa_cons pe_str (pa_cons pe_str (pa_cons pe_str (pa_cons pe_str (pa_cons pe_str (pa_cons pe_str (pa_cons pe_str (pa_cons pe_str (pa_cons pe_str (pa_cons pe_str (pa_cons pe_str (pa_cons pe_str pa_nil))))))))))))))))
      (pss_cons (ps_set (i := 1) sc__law_chars.nd rfl (by first | exact .inl rfl | exact .inr rfl) (pe_op (kplus K) (vr 1) (pe_lst (pa_cons pe_str (pa_cons pe_str (pa_cons pe_str (pa_cons pe_str (pa_cons pe_str pa_nil))))))))
      (pss_cons (ps_set (i := 2) sc__law_chars.nd rfl (by first | exact .inl rfl | exact .inr rfl) (pe_call G__law_draw (hr.mono (by omega)) (by rfl) T.g__law_draw T.F__law_draw.kp (b__law_draw T) .nil pass0 (pa_cons (vr 0) (pa_cons pe_int pa_nil))))
      (pss_cons (sif (tcmp (ksame K hr.units) (vr 2) pe_int (nomark _)) (pss_one (ps_ret (pe_ix (kget K) (vr 1) (pe_call G__law_draw (hr.mono (by omega)) (by rfl) T.g__law_draw T.F__law_draw.kp (b__law_draw T) .nil pass0 (pa_cons (vr 0) (pa_cons pe_int pa_nil))) (fun _ _ => rfl)))) pss_nil)
      (pss_cons (sif (tcmp (ksame K hr.units) (vr 2) pe_int (nomark _)) (pss_one (ps_ret (pe_op (kplus K) (pe_ix (kget K) (vr 1) (pe_call G__law_draw (hr.mono (by omega)) (by rfl) T.g__law_draw T.F__law_draw.kp (b__law_draw T) .nil pass0 (pa_cons (vr 0) (pa_cons pe_int pa_nil))) (fun _ _ => rfl)) (pe_ix (kget K) (vr 1) (pe_call G__law_draw (hr.mono (by omega)) (by rfl) T.g__law_draw T.F__law_draw.kp (b__law_draw T) .nil pass0 (pa_cons (vr 0) (pa_cons pe_int pa_nil))) (fun _ _ => rfl))))) pss_nil)
      (pss_cons (ps_set (i := 3) sc__law_chars.nd rfl (by first | exact .inl rfl | exact .inr rfl) pe_str)
      (pss_one (ps_ret (kjoin K pe_str (pe_lc (own := [("_law_k", 4)])  rfl sc__law_chars.nd (pi_range1 (by rfl) T.n_range (pa_cons (pe_call G__law_draw (hr.mono (by omega)) (by rfl) T.g__law_draw T.F__law_draw.kp (b__law_draw T) .nil pass0 (pa_cons (vr 0) (pa_cons pe_int pa_nil))) pa_nil)) (blkOk_by (own := [("_law_k", 4)]) (N := ["_law_pool_here", "_law_menu", "_law_way", "_law_signs", "_law_k"]) (sc := defScope s__law_chars) (by decide +kernel)) (fun _ _ _ _ _ => (pg_name (i := 4) sc__law_chars.nd rfl (by first | exact .inl rfl | exact .inr rfl))) (fun _ _ _ _ _ => pts_nil) (fun _ _ _ _ _ => up (pe_ix (kget K) (vr 3) (pe_call G__law_draw (hr.mono (by omega)) (by rfl) T.g__law_draw T.F__law_draw.kp (b__law_draw T) .nil pass0 (pa_cons (vr 0) (pa_cons pe_int pa_nil))) (fun _ _ => rfl))))))))))))), ?_⟩)
  · unfold sp_chars at h
    split at h
    · rfl
    · exact h.elim
  · unfold sp_chars at h
    split at h
    · obtain ⟨hp, q⟩ := h
      rename_i a
      refine ⟨Nat.le_of_ble_eq_true rfl, fun p np => ?_⟩
      have nea := hp.ne np
      refine ⟨Nat.le_of_ble_eq_true rfl, fun p2 np2 => ?_⟩
      have ne2 := (upd_none np2).1
      refine .inl ⟨p, p2, _, _, rfl, rfl, (upd_ne ne2.symm).trans upd_same, upd_same, Nat.le_of_ble_eq_true rfl, fun m nm => ?_⟩
      have nem : m ≠ a := fun z => by
        have := (upd_none (upd_none nm).2).2
        rw [z] at this
        exact hp.ne this rfl
      have s0 : Same H (upd (upd (upd H p _) p2 _) m (.lst menuC)) := ((same_new np).trans (same_new np2)).trans (same_new nm)
      have item : ∀ (H2 : Hp) (i : Int) (R : V → Prop), H2 m = some (.lst menuC) → 0 ≤ i → i < 19 → (∀ z, TextOk 5 z → R (.str z)) → ∃ xs v, (SqL K H2 m xs ∨ SqT K H2 m xs) ∧ atI xs i = some v ∧ R v := fun H2 i R hm h0 h1 hR => by
        obtain ⟨v, ev, z, rfl, tz⟩ := atI_all (xs := menuC) _ h0 h1 menuC_ok
        exact ⟨_, _, .inl (sqL_of hm), ev, hR z tz⟩
      refine ⟨hp.same s0, by decide, by decide, fun i1 H1 h0 h1 p1 k1 => ?_⟩
      have m1 : H1 m = some (.lst menuC) := k1 m _ nem upd_same
      have k1 : Keep a H H1 := (keep_of s0).trans k1
      refine br2 (fun e => ?_) (fun e => ?_)
      · refine ⟨p1, by decide, by decide, fun i2 H2 h2 h3 p2 k2 => ?_⟩
        exact item H2 i2 (fun v => Q v H2) (k2 m _ nem m1) h2 h3 fun z tz => q z H2 (tz.mono (by decide)) p2 (k1.trans k2)
      refine br2 (fun e => ?_) (fun e => ?_)
      · refine ⟨p1, by decide, by decide, fun i2 H2 h2 h3 p2 k2 => ?_⟩
        have m2 := k2 m _ nem m1
        refine item H2 i2 _ m2 h2 h3 fun z tz => ?_
        refine ⟨p2, by decide, by decide, fun i3 H3 h4 h5 p3 k3 => ?_⟩
        refine item H3 i3 _ (k3 m _ nem m2) h4 h5 fun y ty => ?_
        have t := tz.app ty
        exact ⟨by have := tz.1; have := ty.1; exact size_le (by omega), q _ _ t p3 ((k1.trans k2).trans k3)⟩
      · refine ⟨p1, by decide, by decide, fun i2 H2 h2 h3 p2 k2 => ?_⟩
        refine ⟨i2, rfl, by omega, by omega, fun D nD => ?_⟩
        refine lcr (fr_keep (p2.ne nD)) (fun _ v _ => ∃ z, v = .str z ∧ TextOk 1 z) p2 nD (by omega) (fun _ _ _ _ h _ => h) (fun _ => rfl) (fun i H3 hi p3 k3 => ?_) (fun H3 ys p3 k3 l3 e3 q3 => ?_)
        · refine ⟨p3, by decide, by decide, fun i4 H4 h6 h7 p4 k4 => ?_⟩
          obtain ⟨c, ec, oc⟩ := atI_all (xs := (Str.ofString "ab <>&\"~/;=.-_Z9{}\\\n").cps.toList) (i := i4) _ h6 (by rw [signs_len]; exact h7) signs_ok
          refine ⟨by decide +kernel, c, ec, p4, k4, _, rfl, Nat.le_refl 1, fun c' hc' => ?_⟩
          have : c' = c := by simpa using hc'
          rw [this]
          exact oc
        · obtain ⟨zs, hz, tz⟩ := strs_of q3
          subst hz
          have hs : ((zs.map (·.length)).sum) ≤ zs.length := sum_le1 fun z hz => (tz z hz).1
          have hl : zs.length ≤ 8 := by
            rw [List.length_map] at l3
            omega
          refine ⟨zs, .inl (sqL_of e3), ?_, ?_⟩
          · show _ + zs.length * 0 ≤ 16777216
            omega
          · refine q _ _ ?_ p3 ((k1.trans k2).trans k3)
            exact (join_ok (by rfl) tz).mono (by omega)
    · exact h.elim
end
end Sk
namespace Sk
open PySem PySem.Spec PyProof.Rows L2
section
variable {P : Program} {w : World} {K : PySem.W.Frag} {mg : Str → Option Value} {base : Heap}
/-! ### _law_words -/
def letters : Str := Str.ofString "abcdefghijklmnopqrstuvwxyz"
theorem letters_low : ∀ c ∈ letters.cps.toList, low c = true := List.all_eq_true.mp (by decide +kernel)
theorem letters_len : letters.cps.toList.length = 26 := by decide +kernel
theorem letters_size : letters.length ≤ sizeLine := by decide +kernel
def menuW : List V := [.str "data", .str "href", .str "text", .str "part", .str "page", .str "use", .str "for", .str "end", .str "else", .str "slot", .str "size", .str "has"] ++ [.str "sum", .str "equal", .str "name", .str "x", .str "y", .str "items", .str "id", .str "link", .str "null", .str "by", .str "let", .str "if"]
theorem menuW_ok : ∀ x ∈ menuW, ∃ z, x = .str z ∧ NameOk z := all_okN (by decide +kernel)
/-- some letter -/
theorem letter_at {i : Int} (h0 : 0 ≤ i) (h1 : i < 26) : ∃ c, atI letters.cps.toList i = some c ∧ low c = true :=
  atI_all (xs := letters.cps.toList) (i := i) _ h0 (by rw [letters_len]; exact h1) letters_low
theorem names_of {ys : List V} (h : ∀ (i : Nat) (y : V), ys[i]? = some y → ∃ z, y = V.str z ∧ NameOk z) : ∃ zs : List Str, ys = zs.map V.str ∧ ∀ z ∈ zs, NameOk z := by
  induction ys with
  | nil => exact ⟨[], rfl, fun z hz => by cases hz⟩
  | cons y r ih =>
    obtain ⟨z, rfl, tz⟩ := h 0 y rfl
    obtain ⟨zs, rfl, tzs⟩ := ih fun i y e => h (i + 1) y e
    refine ⟨z :: zs, rfl, fun x hx => ?_⟩
    rcases List.mem_cons.mp hx with e | e
    · rw [e]; exact tz
    · exact tzs x e
/-- n times the letter c -/
theorem name_rep {c n : Nat} {z : Str} (hc : low c = true) (h1 : 1 ≤ n) (h2 : n ≤ 12) (e : z.cps.toList = (List.replicate n [c]).flatten) : NameOk z := by
  have l : z.length = n := by
    rw [len_list, e]
    simp
  refine ⟨by omega, by omega, fun x hx => ?_⟩
  rw [e] at hx
  obtain ⟨l, hl, hx⟩ := List.mem_flatten.mp hx
  rw [List.eq_of_mem_replicate hl] at hx
  have : x = c := by simpa using hx
  rw [this]
  exact hc
/-- at most n small letters -/
def LowN (n : Nat) (z : Str) : Prop := z.length ≤ n ∧ ∀ c ∈ z.cps.toList, low c = true
theorem low_one {c : Nat} (h : low c = true) : LowN 1 ⟨#[c]⟩ := ⟨Nat.le_refl 1, fun x hx => by
  have e : x = c := by simpa using hx
  rw [e]
  exact h⟩
theorem lows_of {n : Nat} {ys : List V} (h : ∀ (i : Nat) (y : V), ys[i]? = some y → ∃ z, y = V.str z ∧ LowN n z) : ∃ zs : List Str, ys = zs.map V.str ∧ ∀ z ∈ zs, LowN n z := by
  induction ys with
  | nil => exact ⟨[], rfl, fun z hz => by cases hz⟩
  | cons y r ih =>
    obtain ⟨z, rfl, tz⟩ := h 0 y rfl
    obtain ⟨zs, rfl, tzs⟩ := ih fun i y e => h (i + 1) y e
    refine ⟨z :: zs, rfl, fun x hx => ?_⟩
    rcases List.mem_cons.mp hx with e | e
    · rw [e]; exact tz
    · exact tzs x e
theorem low_join {y : Str} (hy : y.cps.toList = []) {zs : List Str} (h : ∀ z ∈ zs, LowN 1 z) : LowN zs.length (Txt.join y zs) := by
  have e := join_empty hy zs
  refine ⟨?_, fun c hc => ?_⟩
  · rw [len_list, e, List.length_flatten, List.map_map]
    have := sum_le1 fun z hz => (h z hz).1
    have e2 : (List.length ∘ fun z : Str => z.cps.toList) = fun z => z.length := funext fun z => (len_list z).symm
    rw [e2]
    exact this
  · rw [e] at hc
    obtain ⟨l, hl, hc⟩ := List.mem_flatten.mp hc
    obtain ⟨z, hz, rfl⟩ := List.mem_map.mp hl
    exact (h z hz).2 c hc
theorem cut_mem {z : Str} {lo hi : Option Int} {c : Nat} (h : c ∈ (cutS z lo hi).cps.toList) : c ∈ z.cps.toList := by
  unfold cutS at h
  exact List.drop_subset _ _ (List.take_subset _ _ (by simpa using h))
theorem cut_two (z : Str) {n : Nat} (h : n ≤ z.length) : (cutS z none (some (n : Int))).length = n ∧ (cutS z (some (n : Int)) none).length = z.length - n := by
  have l := len_list z
  constructor
  · rw [len_list]
    unfold cutS
    rw [HT.sIx_none, HT.sIx_nat, Nat.min_eq_left h]
    simp
    rw [← Array.length_toList, ← l]
    omega
  · rw [len_list]
    unfold cutS
    rw [HT.sIx_none, HT.sIx_nat, Nat.min_eq_left h]
    simp
    rw [← Array.length_toList, ← l]
    omega
theorem in_three {z : Str} (h : inV (.str z) [.str "true", .str "false", .str "self"] = true) : z.length ≤ 5 := by
  unfold inV at h
  simp only [List.any_cons, List.any_nil, eqV, Bool.or_false, Bool.or_eq_true] at h
  rcases h with h | h | h
  · have e : Str.ofString "true" = z := by simpa using h
    rw [← e]
    decide +kernel
  · have e : Str.ofString "false" = z := by simpa using h
    rw [← e]
    decide +kernel
  · have e : Str.ofString "self" = z := by simpa using h
    rw [← e]
    decide +kernel
theorem x_low : ∀ c ∈ (Str.ofString "x").cps.toList, low c = true := List.all_eq_true.mp (by decide +kernel)
def sp_words : Sp := fun vs H Q _ => match vs with
  | [.ref a, .int m] => Pool H a ∧ 0 ≤ m ∧ m ≤ 24 ∧ ∀ (D : Addr) (zs : List Str) (H' : Hp), zs.length = m.toNat → (∀ z ∈ zs, NameOk z) → Pool H' a → Keep a H H' → H D = none → H' D = some (.lst (zs.map V.str)) → Q (.ref D) H'
  | _ => False
theorem ok_words (T : Top K mg) (k : Nat) : Ok__law_words P w base T (k + 2) sp_words := by
  have G__law_draw : Ok__law_draw P w base T 1 sp_draw := ok_draw T 0
  refine T.F__law_words.ok sc__law_words (fun vs H Q E h => ?_) (fun cdv A outer s H vs Q E hr h => ⟨_, PSs.nox (pss_cons (ps_set (i := 2) sc__law_words.nd rfl (by first | exact .inl rfl | exact .inr rfl) pe_str)
      (pss_cons (ps_set (i := 3) sc__law_words.nd rfl (by first | exact .inl rfl | exact .inr rfl) (pe_lst (pa_cons pe_str (pa_cons pe_str (pa_cons pe_str (pa_cons pe_str (pa_cons pe_str (pa_cons pe_str (pa_cons pe_str (pa_cons pe_str (pa_cons pe_str (pa_cons pe_str (pa_cons pe_str (pa_cons pe_str pa_nil))))))))))))))
      (pss_cons (ps_set (i := 3) sc__law_words.nd rfl (by first | exact .inl rfl | exact .inr rfl) (pe_op (kplus K) (vr 3) (pe_lst (pa_cons pe_str (pa_cons pe_str (pa_cons pe_str (pa_cons pe_str (pa_cons pe_str (pa_cons pe_str (pa_cons pe_str (pa_cons pe_str (pa_cons pe_str (pa_cons pe_str (pa_cons pe_str (pa_cons pe_str pa_nil)))))))))))))))
      (pss_cons (ps_asg (pe_tup (pa_cons (pe_call G__law_draw (hr.mono (by omega)) (by rfl) T.g__law_draw T.F__law_draw.kp (b__law_draw T) .nil pass0 (pa_cons (vr 0) (pa_cons pe_int pa_nil))) (pa_cons (pe_call G__law_draw (hr.mono (by omega)) (by rfl) T.g__law_draw T.F__law_draw.kp (b__law_draw T) .nil pass0 (pa_cons (vr 0) (pa_cons pe_int pa_nil))) pa_nil))) (gtup K 2 rfl (gs_cons (pg_name (i := 4) sc__law_words.nd rfl (by first | exact .inl rfl | exact .inr rfl)) (gs_cons (pg_name (i := 5) sc__law_words.nd rfl (by first | exact .inl rfl | exact .inr rfl)) gs_nil))))
      (pss_cons (sif (tcmp (ksame K hr.units) (vr 4) pe_int (nomark _)) (pss_one (ps_ret (pe_lc (own := [("_law_k", 9)])  rfl sc__law_words.nd (pi_range1 (by rfl) T.n_range (pa_cons (vr 1) pa_nil)) (blkOk_by (own := [("_law_k", 9)]) (N := ["_law_pool_here", "_law_many", "_law_letters", "_law_menu", "_law_way", "_law_begin", "_law_stem", "_law_at", "_law_found", "_law_k", "_law_word"]) (sc := defScope s__law_words) (by decide +kernel)) (fun _ _ _ _ _ => (pg_name (i := 9) sc__law_words.nd rfl (by first | exact .inl rfl | exact .inr rfl))) (fun _ _ _ _ _ => pts_nil) (fun _ _ _ _ _ => up (pe_ix (kget K) (vr 3) (pe_op op_modI (pe_op (kplus K) (vr 5) (pe_op op_mulU pe_int (vr 9))) pe_int) (fun _ _ => rfl)))))) pss_nil)
      (pss_cons (sif (tcmp (ksame K hr.units) (vr 4) pe_int (nomark _)) (pss_one (ps_ret (pe_lc (own := [("_law_k", 9)])  rfl sc__law_words.nd (pi_range1 (by rfl) T.n_range (pa_cons (vr 1) pa_nil)) (blkOk_by (own := [("_law_k", 9)]) (N := ["_law_pool_here", "_law_many", "_law_letters", "_law_menu", "_law_way", "_law_begin", "_law_stem", "_law_at", "_law_found", "_law_k", "_law_word"]) (sc := defScope s__law_words) (by decide +kernel)) (fun _ _ _ _ _ => (pg_name (i := 9) sc__law_words.nd rfl (by first | exact .inl rfl | exact .inr rfl))) (fun _ _ _ _ _ => pts_nil) (fun _ _ _ _ _ => up (pe_op op_mulU (pe_ix (kget K) (vr 2) (pe_op op_modI (pe_op (kplus K) (vr 5) (pe_op op_mulU pe_int (vr 9))) pe_int) (fun _ _ => rfl)) (pe_op (kplus K) pe_int (pe_op op_modI (vr 9) pe_int))))))) pss_nil)
      (pss_cons (ps_set (i := 6) sc__law_words.nd rfl (by first | exact .inl rfl | exact .inr rfl) (kjoin K pe_str (pe_lc (own := [("_law_k", 9)])  rfl sc__law_words.nd (pi_range1 (by rfl) T.n_range (pa_cons (pe_call G__law_draw (hr.mono (by omega)) (by rfl) T.g__law_draw T.F__law_draw.kp (b__law_draw T) .nil pass0 (pa_cons (vr 0) (pa_cons pe_int pa_nil))) pa_nil)) (blkOk_by (own := [("_law_k", 9)]) (N := ["_law_pool_here", "_law_many", "_law_letters", "_law_menu", "_law_way", "_law_begin", "_law_stem", "_law_at", "_law_found", "_law_k", "_law_word"]) (sc := defScope s__law_words) (by decide +kernel)) (fun _ _ _ _ _ => (pg_name (i := 9) sc__law_words.nd rfl (by first | exact .inl rfl | exact .inr rfl))) (fun _ _ _ _ _ => pts_nil) (fun _ _ _ _ _ => up (pe_ix (kget K) (vr 2) (pe_call G__law_draw (hr.mono (by omega)) (by rfl) T.g__law_draw T.F__law_draw.kp (b__law_draw T) .nil pass0 (pa_cons (vr 0) (pa_cons pe_int pa_nil))) (fun _ _ => rfl))))))
      (pss_cons (ps_set (i := 7) sc__law_words.nd rfl (by first | exact .inl rfl | exact .inr rfl) (pe_call G__law_draw (hr.mono (by omega)) (by rfl) T.g__law_draw T.F__law_draw.kp (b__law_draw T) .nil pass0 (pa_cons (vr 0) (pa_cons (pe_op (kplus K) (pe_callB (klen K) (by rfl) T.n_len (by decide +kernel) (pa_cons (vr 6) pa_nil)) pe_int) pa_nil))))
      (pss_cons (ps_setLc (i := 8) (own := [("_law_k", 9)])  rfl sc__law_words.nd rfl rfl (sw_true rfl rfl rfl (by decide +kernel)) (pi_range1 (by rfl) T.n_range (pa_cons (vr 1) pa_nil)) (blkOk_by (own := [("_law_k", 9)]) (N := ["_law_pool_here", "_law_many", "_law_letters", "_law_menu", "_law_way", "_law_begin", "_law_stem", "_law_at", "_law_found", "_law_k", "_law_word"]) (sc := defScope s__law_words) (by decide +kernel)) (fun _ _ _ _ _ => (pg_name (i := 9) sc__law_words.nd rfl (by first | exact .inl rfl | exact .inr rfl))) (fun _ _ _ _ _ => pts_nil) (fun _ _ _ _ _ => up (pe_op (kplus K) (pe_op (kplus K) (pe_slice (kcut K) (vr 6) po_none (po_u (vr 7))) (pe_ix (kget K) (vr 2) (pe_op op_modI (pe_op (kplus K) (vr 5) (pe_op op_mulU pe_int (vr 9))) pe_int) (fun _ _ => rfl))) (pe_slice (kcut K) (vr 6) (po_u (vr 7)) po_none))))
      (pss_one (ps_ret (pe_lc (own := [("_law_word", 10)])  rfl sc__law_words.nd (ilist K (vr 8)) (blkOk_by (own := [("_law_word", 10)]) (N := ["_law_pool_here", "_law_many", "_law_letters", "_law_menu", "_law_way", "_law_begin", "_law_stem", "_law_at", "_law_found", "_law_k", "_law_word"]) (sc := defScope s__law_words) (by decide +kernel)) (fun _ _ _ _ _ => (pg_name (i := 10) sc__law_words.nd rfl (by first | exact .inl rfl | exact .inr rfl))) (fun _ _ _ _ _ => pts_nil) (fun _ _ _ _ _ => up (vif (tcmp (kin K) (vr 10) (pe_lst (pa_cons pe_str (pa_cons pe_str (pa_cons pe_str pa_nil)))) (by rfl)) (pe_op (kplus K) (vr 10) pe_str) (vr 10))))))))))))))), ?_⟩)
  · unfold sp_words at h
    split at h
    · rfl
    · exact h.elim
  · unfold sp_words at h
    split at h
    · obtain ⟨hp, hm0, hm1, q⟩ := h
      rename_i a m
      rw [st__law_words]
      refine ⟨Nat.le_of_ble_eq_true rfl, fun p np => ?_⟩
      refine ⟨Nat.le_of_ble_eq_true rfl, fun p2 np2 => ?_⟩
      have ne2 := (upd_none np2).1
      refine .inl ⟨p, p2, _, _, rfl, rfl, (upd_ne ne2.symm).trans upd_same, upd_same, Nat.le_of_ble_eq_true rfl, fun t nt => ?_⟩
      have net : t ≠ a := fun z => by
        have := (upd_none (upd_none nt).2).2
        rw [z] at this
        exact hp.ne this rfl
      have s0 : Same H (upd (upd (upd H p _) p2 _) t (.lst menuW)) := ((same_new np).trans (same_new np2)).trans (same_new nt)
      refine ⟨hp.same s0, by decide, by decide, fun i1 H1 h0 h1 p1 k1 => ?_⟩
      refine ⟨p1, by decide, by decide, fun i2 H2 h2 h3 p2 k2 => ?_⟩
      have t2 : H2 t = some (.lst menuW) := k2 t _ net (k1 t _ net upd_same)
      have k2 : Keep a H H2 := ((keep_of s0).trans k1).trans k2
      refine ⟨Nat.le_of_ble_eq_true rfl, fun u nu => ?_⟩
      refine ⟨_, _, rfl, sqT_of upd_same, rfl, ?_⟩
      have p3 : Pool (upd H2 u (.tup [.int i1, .int i2])) a := p2.new (p2.ne nu)
      have k3 : Keep a H (upd H2 u (.tup [.int i1, .int i2])) := k2.trans (keep_of (same_new nu))
      have t3 : upd H2 u (.tup [.int i1, .int i2]) t = some (.lst menuW) := same_new nu _ _ t2
      have fin : ∀ (D : Addr) (H4 : Hp) (ys : List V), upd H2 u (.tup [.int i1, .int i2]) D = none → Pool H4 a → Keep a (upd H2 u (.tup [.int i1, .int i2])) H4 → ys.length = m.toNat → H4 D = some (.lst ys) → (∀ (i : Nat) (y : V), ys[i]? = some y → ∃ z, y = V.str z ∧ NameOk z) → Q (.ref D) H4 := fun D H4 ys nD p4 k4 l4 e4 q4 => by
        obtain ⟨zs, rfl, hz⟩ := names_of q4
        have hD : H D = none := k3.free nD (p3.ne nD)
        exact q D zs H4 (by rw [← l4, List.length_map]) hz p4 (k3.trans k4) hD e4
      revert p3 k3 t3 fin
      generalize upd H2 u (.tup [.int i1, .int i2]) = H3
      intro p3 k3 t3 fin
      simp only [List.set_cons_succ, List.set_cons_zero]
      refine br2 (fun e => ?_) (fun e => ?_)
      · refine ⟨m, rfl, by omega, by omega, fun D nD => ?_⟩
        refine lcr (fr_keep (p3.ne nD)) (fun _ v _ => ∃ z, v = .str z ∧ NameOk z) p3 nD (by omega) (fun _ _ _ _ h _ => h) (fun _ => rfl) (fun i H4 hi p4 k4 => ?_) (fun H4 ys p4 k4 l4 e4 q4 => fin D H4 ys nD p4 k4 l4 e4 q4)
        obtain ⟨v, ev, z, rfl, tz⟩ := atI_all (xs := menuW) (i := (i2 + 5 * (0 + (i : Int))) % 24) _ (Int.emod_nonneg _ (by decide)) (Int.emod_lt_of_pos _ (by decide)) menuW_ok
        exact ⟨.inl ⟨by decide, by decide⟩, by decide, _, _, .inl (sqL_of (k4 t _ net t3)), ev, p4, Keep.refl _ _, z, rfl, tz⟩
      refine br2 (fun e => ?_) (fun e => ?_)
      · refine ⟨m, rfl, by omega, by omega, fun D nD => ?_⟩
        refine lcr (fr_keep (p3.ne nD)) (fun _ v _ => ∃ z, v = .str z ∧ NameOk z) p3 nD (by omega) (fun _ _ _ _ h _ => h) (fun _ => rfl) (fun i H4 hi p4 k4 => ?_) (fun H4 ys p4 k4 l4 e4 q4 => fin D H4 ys nD p4 k4 l4 e4 q4)
        obtain ⟨c, ec, lc⟩ := letter_at (i := (i2 + 7 * (0 + (i : Int))) % 26) (Int.emod_nonneg _ (by decide)) (Int.emod_lt_of_pos _ (by decide))
        have hj0 : 0 ≤ (0 + (i : Int)) % 12 := Int.emod_nonneg _ (by decide)
        have hj1 : (0 + (i : Int)) % 12 < 12 := Int.emod_lt_of_pos _ (by decide)
        refine ⟨.inl ⟨by decide, by decide⟩, by decide, letters_size, c, ec, by decide, by omega, by omega, by show 1 ≤ 1000; decide, fun z ez => ?_⟩
        exact ⟨p4, Keep.refl _ _, z, rfl, name_rep lc (by omega) (by omega) ez⟩
      · refine ⟨p3, by decide, by decide, fun i4 H4 h4 h5 p4 k4 => ?_⟩
        refine ⟨i4, rfl, by omega, by omega, fun D nD => ?_⟩
        refine lcr (fr_keep (p4.ne nD)) (fun _ v _ => ∃ z, v = .str z ∧ LowN 1 z) p4 nD (by omega) (fun _ _ _ _ h _ => h) (fun _ => rfl) (fun i H5 hi p5 k5 => ?_) (fun H5 ys p5 k5 l5 e5 q5 => ?_)
        · refine ⟨p5, by decide, by decide, fun i6 H6 h6 h7 p6 k6 => ?_⟩
          obtain ⟨c, ec, lc⟩ := letter_at h6 h7
          exact ⟨letters_size, c, ec, p6, k6, _, rfl, low_one lc⟩
        · obtain ⟨zs, rfl, hz⟩ := lows_of q5
          rw [List.length_map] at l5
          have st := low_join (y := "") rfl hz
          have hs : ((zs.map (·.length)).sum) ≤ zs.length := sum_le1 fun z hz' => (hz z hz').1
          refine ⟨zs, .inl (sqL_of e5), by show _ + zs.length * 0 ≤ 16777216; omega, ?_⟩
          generalize hst : Txt.join "" zs = stem at st ⊢
          have lst : stem.length ≤ 11 := by have := st.1; omega
          refine ⟨size_le (by omega), p5, by omega, by omega, fun i6 H6 h6 h7 p6 k6 => ?_⟩
          have k6 : Keep a H3 H6 := (k4.trans k5).trans k6
          refine ⟨m, rfl, by omega, by omega, fun D2 nD2 => ?_⟩
          refine lcr (fr_keep (p6.ne nD2)) (fun _ v _ => ∃ z, v = .str z ∧ NameOk z) p6 nD2 (by omega) (fun _ _ _ _ h _ => h) (fun _ => rfl) (fun i H7 hi p7 k7 => ?_) (fun H7 ys p7 k7 l7 e7 q7 => ?_)
          · obtain ⟨c, ec, lc⟩ := letter_at (i := (i2 + 5 * (0 + (i : Int))) % 26) (Int.emod_nonneg _ (by decide)) (Int.emod_lt_of_pos _ (by decide))
            have hcut := cut_two stem (n := i6.toNat) (by omega)
            rw [show ((i6.toNat : Nat) : Int) = i6 from by omega] at hcut
            have e1 : (Str.mk #[c]).length = 1 := rfl
            refine ⟨size_le (by omega), .inl ⟨by decide, by decide⟩, by decide, letters_size, c, ec, size_le (by rw [e1]; omega), size_le (by omega), size_le (by rw [app_len, e1]; omega), p7, Keep.refl _ _, _, rfl, ?_⟩
            refine ⟨by rw [app_len, app_len, e1]; omega, by rw [app_len, app_len, e1]; omega, fun x hx => ?_⟩
            rw [app_list, app_list] at hx
            rcases List.mem_append.mp hx with hx | hx
            · rcases List.mem_append.mp hx with hx | hx
              · exact st.2 x (cut_mem hx)
              · have : x = c := by simpa using hx
                rw [this]
                exact lc
            · exact st.2 x (cut_mem hx)
          · obtain ⟨ws, rfl, hws⟩ := names_of q7
            rw [List.length_map] at l7
            have neD2 := p6.ne nD2
            refine ⟨D2, rfl, ⟨_, sqL_of e7⟩, fun D3 nD3 => ?_⟩
            refine lcl (xs := ws.map V.str) (fr_keep (p7.ne nD3)) (fun _ v _ => ∃ z, v = .str z ∧ NameOk z) p7 nD3 (by rw [List.length_map]; omega) (fun H8 p8 k8 => sqL_of (k8 D2 _ neD2 e7)) (fun _ _ _ _ h _ => h) (fun _ => rfl) (fun i x H8 hx p8 k8 => ?_) (fun H8 ys p8 k8 l8 e8 q8 => ?_)
            · obtain ⟨z, hz, rfl⟩ := List.mem_map.mp (List.mem_of_getElem? hx)
              have nz := hws z hz
              refine ⟨Nat.le_of_ble_eq_true rfl, fun p9 np9 => ⟨_, .inl (sqL_of upd_same), rfl, rfl, br2 (fun e => ?_) (fun e => ?_)⟩⟩
              · have h5 := in_three e
                have ex : (Str.ofString "x").length = 1 := by decide +kernel
                refine ⟨size_le (by rw [ex]; omega), p8.new (p8.ne np9), keep_of (same_new np9), _, rfl, by rw [app_len]; omega, by rw [app_len, ex]; omega, fun c hc => ?_⟩
                rw [app_list] at hc
                rcases List.mem_append.mp hc with hc | hc
                · exact nz.2.2 c hc
                · exact x_low c hc
              · exact ⟨p8.new (p8.ne np9), keep_of (same_new np9), z, rfl, nz⟩
            · rw [List.length_map] at l8
              refine fin D3 H8 ys ?_ p8 ((k6.trans k7).trans k8) (by omega) e8 q8
              exact (k6.trans k7).free nD3 (p7.ne nD3)
    · exact h.elim
end
end Sk
namespace Sk
open PySem PySem.Spec PyProof.Rows L2
/-! ### kinds as tuples -/
def Tups (H H' : Hp) : Prop := ∀ b xs, H b = some (.tup xs) → H' b = some (.tup xs)
theorem tups_of {H H' : Hp} (s : Stay H H') : Tups H H' := fun b xs h => s b _ rfl h
def Form0 (H : Hp) (v : V) : Prop := ∃ a s, v = .ref a ∧ H a = some (.tup [.str s]) ∧ (s = "text" ∨ s = "number" ∨ s = "flag")
def RecF (F : V → Prop) (H : Hp) (v : V) : Prop := ∃ a r ps, v = .ref a ∧ H a = some (.tup [.str "record", .ref r]) ∧ H r = some (.tup ps) ∧ ps.length ≤ 3 ∧ ∀ p ∈ ps, ∃ b w g, p = .ref b ∧ H b = some (.tup [.str w, g]) ∧ NameOk w ∧ F g
def KeyR (F : V → Prop) (H : Hp) (v : V) (w : Str) : Prop := ∃ a q b0 g0 s0 b1 w1 g1, v = .ref a ∧ H a = some (.tup [.str "record", .ref q]) ∧ H q = some (.tup [.ref b0, .ref b1]) ∧ H b0 = some (.tup [.str w, .ref g0]) ∧
  H g0 = some (.tup [.str s0]) ∧ (s0 = "text" ∨ s0 = "number") ∧ H b1 = some (.tup [.str w1, g1]) ∧ NameOk w ∧ NameOk w1 ∧ F g1
def FormV (H : Hp) : Nat → V → Prop
  | 0, v => Form0 H v
  | n + 1, v => Form0 H v ∨ (∃ a u, v = .ref a ∧ H a = some (.tup [.str "list", u]) ∧ FormV H n u) ∨ RecF (FormV H n) H v ∨
      (∃ a r w, v = .ref a ∧ H a = some (.tup [.str "keyed", r, .str w]) ∧ KeyR (FormV H n) H r w) ∨ (∃ a u, v = .ref a ∧ H a = some (.tup [.str "optional", u]) ∧ FormV H n u)
theorem atI_zero {α : Type} (x : α) (r : List α) : atI (x :: r) 0 = some x := by
  unfold atI ixN
  rw [if_pos (Int.le_refl 0), if_pos (by rw [List.length_cons]; omega)]
  rfl
theorem Form0.up {H : Hp} {v : V} (h : Form0 H v) : ∀ n, FormV H n v
  | 0 => h
  | _ + 1 => .inl h
theorem KeyR.rec_ {H : Hp} {n : Nat} {v : V} {w : Str} (h : KeyR (FormV H n) H v w) : RecF (FormV H n) H v := by
  obtain ⟨a, q, b0, g0, s0, b1, w1, g1, e, h1, h2, h3, h4, h5, h6, h7, h8, h9⟩ := h
  refine ⟨a, q, _, e, h1, h2, Nat.le_of_ble_eq_true rfl, fun p hp => ?_⟩
  rcases List.mem_cons.mp hp with rfl | hp
  · refine ⟨b0, w, _, rfl, h3, h7, Form0.up ⟨g0, s0, rfl, h4, ?_⟩ n⟩
    rcases h5 with h5 | h5
    · exact .inl h5
    · exact .inr (.inl h5)
  · have : p = .ref b1 := by simpa using hp
    exact ⟨b1, w1, g1, this, h6, h8, h9⟩
theorem Form0.mono {H H' : Hp} {v : V} (t : Tups H H') (h : Form0 H v) : Form0 H' v := by
  obtain ⟨a, s, e, h1, h2⟩ := h
  exact ⟨a, s, e, t _ _ h1, h2⟩
theorem FormV.mono {H H' : Hp} (t : Tups H H') : ∀ (n : Nat) (v : V), FormV H n v → FormV H' n v
  | 0, _, h => Form0.mono t h
  | n + 1, v, h => by
    rcases h with h | ⟨a, u, e, h1, h2⟩ | ⟨a, r, ps, e, h1, h2, h3, h4⟩ | ⟨a, r, w, e, h1, a2, q, b0, g0, s0, b1, w1, g1, e2, k1, k2, k3, k4, k5, k6, k7, k8, k9⟩ | ⟨a, u, e, h1, h2⟩
    · exact .inl (Form0.mono t h)
    · exact .inr (.inl ⟨a, u, e, t _ _ h1, FormV.mono t n u h2⟩)
    · refine .inr (.inr (.inl ⟨a, r, ps, e, t _ _ h1, t _ _ h2, h3, fun p hp => ?_⟩))
      obtain ⟨b, w, g, ep, k1, k2, k3⟩ := h4 p hp
      exact ⟨b, w, g, ep, t _ _ k1, k2, FormV.mono t n g k3⟩
    · exact .inr (.inr (.inr (.inl ⟨a, r, w, e, t _ _ h1, a2, q, b0, g0, s0, b1, w1, g1, e2, t _ _ k1, t _ _ k2, t _ _ k3, t _ _ k4, k5, t _ _ k6, k7, k8, FormV.mono t n g1 k9⟩)))
    · exact .inr (.inr (.inr (.inr ⟨a, u, e, t _ _ h1, FormV.mono t n u h2⟩)))
theorem FormV.up {H : Hp} : ∀ (n : Nat) (v : V), FormV H n v → FormV H (n + 1) v
  | 0, _, h => .inl h
  | n + 1, v, h => by
    rcases h with h | ⟨a, u, e, h1, h2⟩ | ⟨a, r, ps, e, h1, h2, h3, h4⟩ | ⟨a, r, w, e, h1, a2, q, b0, g0, s0, b1, w1, g1, e2, k1, k2, k3, k4, k5, k6, k7, k8, k9⟩ | ⟨a, u, e, h1, h2⟩
    · exact .inl h
    · exact .inr (.inl ⟨a, u, e, h1, FormV.up n u h2⟩)
    · refine .inr (.inr (.inl ⟨a, r, ps, e, h1, h2, h3, fun p hp => ?_⟩))
      obtain ⟨b, w, g, ep, k1, k2, k3⟩ := h4 p hp
      exact ⟨b, w, g, ep, k1, k2, FormV.up n g k3⟩
    · exact .inr (.inr (.inr (.inl ⟨a, r, w, e, h1, a2, q, b0, g0, s0, b1, w1, g1, e2, k1, k2, k3, k4, k5, k6, k7, k8, FormV.up n g1 k9⟩)))
    · exact .inr (.inr (.inr (.inr ⟨a, u, e, h1, FormV.up n u h2⟩)))
theorem FormV.head {H : Hp} : ∀ (n : Nat) (v : V), FormV H n v → ∃ a s rest, v = .ref a ∧ H a = some (.tup (.str s :: rest))
  | 0, _, ⟨a, s, e, h, _⟩ => ⟨a, s, [], e, h⟩
  | n + 1, v, h => by
    rcases h with ⟨a, s, e, h, _⟩ | ⟨a, u, e, h1, h2⟩ | ⟨a, r, ps, e, h1, h2, h3, h4⟩ | ⟨a, r, w, e, h1, h2⟩ | ⟨a, u, e, h1, h2⟩
    · exact ⟨a, s, [], e, h⟩
    · exact ⟨a, _, _, e, h1⟩
    · exact ⟨a, _, _, e, h1⟩
    · exact ⟨a, _, _, e, h1⟩
    · exact ⟨a, _, _, e, h1⟩
local macro_rules | `(tactic| walk_at "up") => `(tactic| first | assumption | exact upd_same | (refine same_new (by assumption) _ _ ?_; walk_at "up"))
section
variable {P : Program} {w : World} {K : PySem.W.Frag} {mg : Str → Option Value} {base : Heap}
def sp_form (n : Nat) : Sp := fun vs H Q _ => match vs with
  | [.ref a, .int d] => d = (n : Int) ∧ Pool H a ∧ ∀ (v : V) (H' : Hp), FormV H' n v → Pool H' a → Keep a H H' → Q v H'
  | _ => False
theorem step_form (T : Top K mg) (n k : Nat) (hk : 2 ≤ k) (spI : Sp) (G__law_form : Ok__law_form P w base T k spI) (hI : ∀ m, n = m + 1 → spI = sp_form m) : Ok__law_form P w base T (k + 1) (sp_form n) := by
  have G__law_draw : Ok__law_draw P w base T 1 sp_draw := ok_draw T 0
  have G__law_words : Ok__law_words P w base T 2 sp_words := ok_words T 0
  refine T.F__law_form.ok sc__law_form (fun vs H Q E h => ?_) (fun cdv A outer s H vs Q E hr h => ⟨_, PSs.nox (pss_cons (ps_set (i := 2) sc__law_form.nd rfl (by first | exact .inl rfl | exact .inr rfl) (pe_call G__law_draw (hr.mono (by omega)) (by rfl) T.g__law_draw T.F__law_draw.kp (b__law_draw T) .nil pass0 (pa_cons (vr 0) (pa_cons pe_int pa_nil))))
      (pss_cons (sif (PW.pt (wor (tcmp (ksame K hr.units) (vr 1) pe_int (nomark _)) (pw_or1 (tcmp op_ltI (vr 2) pe_int (nomark _))))) (pss_one (ps_ret (pe_ix (kget K) (pe_lst (pa_cons (pe_tup (pa_cons pe_str pa_nil)) (pa_cons (pe_tup (pa_cons pe_str pa_nil)) (pa_cons (pe_tup (pa_cons pe_str pa_nil)) (pa_cons (pe_tup (pa_cons pe_str pa_nil)) pa_nil))))) (pe_op op_modI (vr 2) pe_int) (fun _ _ => rfl)))) pss_nil)
      (pss_cons (sif (tcmp (ksame K hr.units) (vr 2) pe_int (nomark _)) (pss_one (ps_ret (pe_tup (pa_cons pe_str (pa_cons (pe_call G__law_form (hr.mono (by omega)) (by rfl) T.g__law_form T.F__law_form.kp (b__law_form T) .nil pass0 (pa_cons (vr 0) (pa_cons (pe_op op_minus (vr 1) pe_int) pa_nil))) pa_nil))))) pss_nil)
      (pss_cons (sif (tcmp (kin K) (vr 2) (pe_lst (pa_cons pe_int (pa_cons pe_int pa_nil))) (by rfl)) (pss_cons (ps_set (i := 3) sc__law_form.nd rfl (by first | exact .inl rfl | exact .inr rfl) (pe_callB (ksorted K) (by rfl) T.n_sorted (by decide +kernel) (pa_cons (pe_call G__law_words (hr.mono (by omega)) (by rfl) T.g__law_words T.F__law_words.kp (b__law_words T) .nil pass0 (pa_cons (vr 0) (pa_cons (pe_op (kplus K) pe_int (pe_call G__law_draw (hr.mono (by omega)) (by rfl) T.g__law_draw T.F__law_draw.kp (b__law_draw T) .nil pass0 (pa_cons (vr 0) (pa_cons pe_int pa_nil)))) pa_nil))) pa_nil)))
      (pss_cons (ps_setLc (i := 4) (own := [("_law_word", 7)])  rfl sc__law_form.nd rfl rfl (sw_true rfl rfl rfl (by decide +kernel)) (ilist K (vr 3)) (blkOk_by (own := [("_law_word", 7)]) (N := ["_law_pool_here", "_law_deep", "_law_way", "_law_words_here", "_law_fields", "_law_key", "_law_inner", "_law_word"]) (sc := defScope s__law_form) (by decide +kernel)) (fun _ _ _ _ _ => (pg_name (i := 7) sc__law_form.nd rfl (by first | exact .inl rfl | exact .inr rfl))) (fun _ _ _ _ _ => pts_nil) (fun _ _ _ _ _ => up (pe_tup (pa_cons (vr 7) (pa_cons (pe_call G__law_form (hr.mono (by omega)) (by rfl) T.g__law_form T.F__law_form.kp (b__law_form T) .nil pass0 (pa_cons (vr 0) (pa_cons (pe_op op_minus (vr 1) pe_int) pa_nil))) pa_nil)))))
      (pss_one (ps_ret (pe_tup (pa_cons pe_str (pa_cons (pe_callTy (ktup K) (by rfl) T.n_tuple (by decide +kernel) (pa_cons (vr 4) pa_nil)) pa_nil))))))) pss_nil)
      (pss_cons (sif (tcmp (ksame K hr.units) (vr 2) pe_int (nomark _)) (pss_cons (ps_set (i := 3) sc__law_form.nd rfl (by first | exact .inl rfl | exact .inr rfl) (pe_callB (ksorted K) (by rfl) T.n_sorted (by decide +kernel) (pa_cons (pe_call G__law_words (hr.mono (by omega)) (by rfl) T.g__law_words T.F__law_words.kp (b__law_words T) .nil pass0 (pa_cons (vr 0) (pa_cons pe_int pa_nil))) pa_nil)))
      (pss_cons (ps_set (i := 5) sc__law_form.nd rfl (by first | exact .inl rfl | exact .inr rfl) (pe_ix (kget K) (pe_lst (pa_cons pe_str (pa_cons pe_str pa_nil))) (pe_call G__law_draw (hr.mono (by omega)) (by rfl) T.g__law_draw T.F__law_draw.kp (b__law_draw T) .nil pass0 (pa_cons (vr 0) (pa_cons pe_int pa_nil))) (fun _ _ => rfl)))
      (pss_one (ps_ret (pe_tup (pa_cons pe_str (pa_cons (pe_tup (pa_cons pe_str (pa_cons (pe_tup (pa_cons (pe_tup (pa_cons (pe_ix (kget K) (vr 3) pe_int (fun _ _ => rfl)) (pa_cons (pe_tup (pa_cons (vr 5) pa_nil)) pa_nil))) (pa_cons (pe_tup (pa_cons (pe_ix (kget K) (vr 3) pe_int (fun _ _ => rfl)) (pa_cons (pe_call G__law_form (hr.mono (by omega)) (by rfl) T.g__law_form T.F__law_form.kp (b__law_form T) .nil pass0 (pa_cons (vr 0) (pa_cons (pe_op op_minus (vr 1) pe_int) pa_nil))) pa_nil))) pa_nil))) pa_nil))) (pa_cons (pe_ix (kget K) (vr 3) pe_int (fun _ _ => rfl)) pa_nil)))))))) pss_nil)
      (pss_cons (ps_set (i := 6) sc__law_form.nd rfl (by first | exact .inl rfl | exact .inr rfl) (pe_call G__law_form (hr.mono (by omega)) (by rfl) T.g__law_form T.F__law_form.kp (b__law_form T) .nil pass0 (pa_cons (vr 0) (pa_cons (pe_op op_minus (vr 1) pe_int) pa_nil))))
      (pss_one (ps_ret (vif (tcmp (ksame K hr.units) (pe_ix (kget K) (vr 6) pe_int (fun _ _ => rfl)) pe_str (nomark _)) (vr 6) (pe_tup (pa_cons pe_str (pa_cons (vr 6) pa_nil)))))))))))), ?_⟩)
  · unfold sp_form at h
    split at h
    · rfl
    · exact h.elim
  · unfold sp_form at h
    split at h
    · obtain ⟨rfl, hp, q⟩ := h
      rename_i a
      rw [st__law_form]
      refine ⟨hp, by decide, by decide, fun way H1 h0 h1 p1 k1 => ?_⟩
      have fin : ∀ v H2, FormV H2 n v → Pool H2 a → Keep a H1 H2 → Q v H2 := fun v H2 f p k => q v H2 f p (k1.trans k)
      simp only [List.set_cons_succ, List.set_cons_zero]
      have flat : ∀ (σ : L2.St), σ[2]? = some (some (.int way)) → (tRet (tOp (rGet K) (tLst (tCons (tTup (tCons (tC (.str "text")) tNil)) (tCons (tTup (tCons (tC (.str "text")) tNil)) (tCons (tTup (tCons (tC (.str "number")) tNil)) (tCons (tTup (tCons (tC (.str "flag")) tNil)) tNil))))) (tOp rMod (uVar 2) (tC (.int 4))))) { nx := fun _ H' => Q .non H', rt := Q } σ H1 := fun σ hs => by
        refine ⟨Nat.le_of_ble_eq_true rfl, fun a1 n1 => ⟨Nat.le_of_ble_eq_true rfl, fun a2 n2 => ⟨Nat.le_of_ble_eq_true rfl, fun a3 n3 => ⟨Nat.le_of_ble_eq_true rfl, fun a4 n4 => ⟨Nat.le_of_ble_eq_true rfl, fun l nl => ?_⟩⟩⟩⟩⟩
        show uVar 2 σ _ _
        unfold uVar
        rw [hs]
        obtain ⟨v, ev, mv⟩ := atI_in (xs := [V.ref a1, .ref a2, .ref a3, .ref a4]) (i := way % 4) (Int.emod_nonneg _ (by decide)) (Int.emod_lt_of_pos _ (by decide))
        refine ⟨by decide, _, v, .inl (sqL_of upd_same), ev, fin v _ (Form0.up ?_ n) ?_ ?_⟩
        · simp only [List.mem_cons, List.mem_nil_iff, or_false] at mv
          rcases mv with rfl | rfl | rfl | rfl
          · exact ⟨a1, "text", rfl, by walk_at "up", .inl rfl⟩
          · exact ⟨a2, "text", rfl, by walk_at "up", .inl rfl⟩
          · exact ⟨a3, "number", rfl, by walk_at "up", .inr (.inl rfl)⟩
          · exact ⟨a4, "flag", rfl, by walk_at "up", .inr (.inr rfl)⟩
        · obtain ⟨s, d, m, e1, e2⟩ := p1
          exact ⟨s, d, m, by walk_at "up", e2⟩
        · exact keep_of ((((same_new n1).trans (same_new n2)).trans (same_new n3)).trans (same_new n4) |>.trans (same_new nl))
      refine br2 (fun e => ?_) (fun e => ?_)
      · exact flat _ rfl
      refine br2 (fun e2 => ?_) (fun e2 => ?_)
      · exact flat _ rfl
      obtain ⟨m, rfl⟩ : ∃ m, n = m + 1 := by
        cases n with
        | zero => cases e
        | succ m => exact ⟨m, rfl⟩
      have hI := hI m rfl
      subst hI
      have dm : ((m + 1 : Nat) : Int) - 1 = (m : Int) := by omega
      -- a list
      refine br2 (fun e3 => ?_) (fun e3 => ?_)
      · refine ⟨dm, p1, fun u H2 f2 p2 k2 => ?_⟩
        exact ⟨Nat.le_of_ble_eq_true rfl, fun t nt => fin _ _ (.inr (.inl ⟨t, u, rfl, upd_same, FormV.mono (tups_of (stay_new nt)) _ _ f2⟩)) (p2.new (p2.ne nt)) (k2.trans (keep_of (same_new nt)))⟩
      -- a record
      refine ⟨Nat.le_of_ble_eq_true rfl, fun l nl => ⟨_, .inl (sqL_of upd_same), rfl, rfl, br2 (fun e4 => ?_) (fun e4 => ?_)⟩⟩
      · refine ⟨p1.new (p1.ne nl), by decide, by decide, fun i3 H3 g0 g1 p3 k3 => ?_⟩
        refine ⟨p3, by omega, by omega, fun D zs H4 l4 hz p4 k4 nD e4 => ?_⟩
        refine ⟨D, zs, rfl, sqL_of e4, by omega, fun ys t perm srt nt => ?_⟩
        have ly : ys.length = zs.length := perm.length_eq
        have hy : ∀ z ∈ ys, NameOk z := fun z h => hz z (perm.subset h)
        have p5 : Pool (upd H4 t (.lst (ys.map V.str))) a := p4.new (p4.ne nt)
        have k5 : Keep a H1 (upd H4 t (.lst (ys.map V.str))) := (((keep_of (same_new nl)).trans k3).trans k4).trans (keep_of (same_new nt))
        have net := p4.ne nt
        have e5 : upd H4 t (.lst (ys.map V.str)) t = some (.lst (ys.map V.str)) := upd_same
        revert p5 k5 e5
        generalize upd H4 t (.lst (ys.map V.str)) = H5
        intro p5 k5 e5
        simp only [List.set_cons_succ, List.set_cons_zero]
        refine ⟨t, rfl, ⟨_, sqL_of e5⟩, fun D2 nD2 => ?_⟩
        refine lcl (xs := ys.map V.str) (fr_keep (p5.ne nD2)) (fun _ v H => ∃ b w g, v = .ref b ∧ H b = some (.tup [.str w, g]) ∧ NameOk w ∧ FormV H m g) p5 nD2 (by rw [List.length_map]; omega) (fun H6 p6 k6 => sqL_of (k6 t _ net e5))
          (fun _ v H H' h st => by obtain ⟨b, w, g, h1, h2, h3, h4⟩ := h; exact ⟨b, w, g, h1, st _ _ rfl h2, h3, FormV.mono (tups_of st) _ _ h4⟩) (fun _ => rfl) (fun i x H6 hx p6 k6 => ?_) (fun H6 vs p6 k6 l6 e6 q6 => ?_)
        · obtain ⟨w, hw, rfl⟩ := List.mem_map.mp (List.mem_of_getElem? hx)
          refine ⟨dm, p6, fun g H7 f7 p7 k7 => ⟨Nat.le_of_ble_eq_true rfl, fun b nb => ?_⟩⟩
          exact ⟨p7.new (p7.ne nb), k7.trans (keep_of (same_new nb)), b, w, g, rfl, upd_same, hy w hw, FormV.mono (tups_of (stay_new nb)) _ _ f7⟩
        · rw [List.length_map] at l6
          refine ⟨vs, .inl ⟨sqL_of e6, fun r nr => ⟨Nat.le_of_ble_eq_true rfl, fun t2 nt2 => ?_⟩⟩⟩
          have st : Same H6 (upd (upd H6 r (.tup vs)) t2 (.tup [.str "record", .ref r])) := (same_new nr).trans (same_new nt2)
          refine fin _ _ (.inr (.inr (.inl ⟨t2, r, vs, rfl, upd_same, same_new nt2 _ _ upd_same, by omega, fun p hp => ?_⟩))) (p6.same st) ((k5.trans k6).trans (keep_of st))
          obtain ⟨i, hi⟩ := List.getElem?_of_mem hp
          obtain ⟨b, w, g, h1, h2, h3, h4⟩ := q6 i p hi
          exact ⟨b, w, g, h1, st _ _ h2, h3, FormV.mono (tups_of (stay_of st)) _ _ h4⟩
      -- a keyed list
      refine br2 (fun e5 => ?_) (fun e5 => ?_)
      · refine ⟨p1.new (p1.ne nl), by decide, by decide, fun D zs H4 l4 hz p4 k4 nD e4 => ?_⟩
        refine ⟨D, zs, rfl, sqL_of e4, by omega, fun ys t perm srt nt => ?_⟩
        have ly : ys.length = zs.length := perm.length_eq
        have hy : ∀ z ∈ ys, NameOk z := fun z h => hz z (perm.subset h)
        obtain ⟨w0, w1, rfl⟩ : ∃ w0 w1, ys = [w0, w1] := by
          match ys, ly.trans l4 with
          | [w0, w1], _ => exact ⟨w0, w1, rfl⟩
        have n0 := hy w0 (List.mem_cons_self ..)
        have n1 := hy w1 (List.mem_cons_of_mem _ (List.mem_cons_self ..))
        have p5 : Pool (upd H4 t (.lst ([w0, w1].map V.str))) a := p4.new (p4.ne nt)
        have k5 : Keep a H1 (upd H4 t (.lst ([w0, w1].map V.str))) := ((keep_of (same_new nl)).trans k4).trans (keep_of (same_new nt))
        have net := p4.ne nt
        have e5 : upd H4 t (.lst ([w0, w1].map V.str)) t = some (.lst [.str w0, .str w1]) := upd_same
        revert p5 k5 e5
        generalize upd H4 t (.lst ([w0, w1].map V.str)) = H5
        intro p5 k5 e5
        simp only [List.set_cons_succ, List.set_cons_zero]
        refine ⟨Nat.le_of_ble_eq_true rfl, fun l2 nl2 => ?_⟩
        refine ⟨p5.new (p5.ne nl2), by decide, by decide, fun i6 H6 g0 g1 p6 k6 => ?_⟩
        have ne2 := p5.ne nl2
        have e6 : H6 t = some (.lst [.str w0, .str w1]) := k6 t _ net (same_new nl2 _ _ e5)
        obtain ⟨v, ev, mv⟩ := atI_in (xs := [V.str "text", .str "number"]) (i := i6) g0 g1
        refine ⟨_, v, .inl (sqL_of (k6 l2 _ ne2 upd_same)), ev, ?_⟩
        obtain ⟨key, rfl, hkey⟩ : ∃ key, v = .str key ∧ (key = "text" ∨ key = "number") := by
          simp only [List.mem_cons, List.mem_nil_iff, or_false] at mv
          rcases mv with rfl | rfl
          · exact ⟨_, rfl, .inl rfl⟩
          · exact ⟨_, rfl, .inr rfl⟩
        have k6 : Keep a H1 H6 := (k5.trans (keep_of (same_new nl2))).trans k6
        simp only [List.set_cons_succ, List.set_cons_zero]
        refine ⟨_, _, .inl (sqL_of e6), rfl, Nat.le_of_ble_eq_true rfl, fun t0 nt0 => ⟨Nat.le_of_ble_eq_true rfl, fun t1 nt1 => ?_⟩⟩
        have s7 : Same H6 (upd (upd H6 t0 (.tup [.str key])) t1 (.tup [.str w0, .ref t0])) := (same_new nt0).trans (same_new nt1)
        refine ⟨_, _, .inl (sqL_of (s7 _ _ e6)), rfl, dm, p6.same s7, fun g H8 f8 p8 k8 => ?_⟩
        have a1 : H8 t1 = some (.tup [.str w0, .ref t0]) := k8.stay (p6.same s7) _ _ rfl upd_same
        have a0 : H8 t0 = some (.tup [.str key]) := k8.stay (p6.same s7) _ _ rfl (same_new nt1 _ _ upd_same)
        have e8 : H8 t = some (.lst [.str w0, .str w1]) := k8 t _ net (s7 _ _ e6)
        refine ⟨Nat.le_of_ble_eq_true rfl, fun t2 nt2 => ⟨Nat.le_of_ble_eq_true rfl, fun t3 nt3 => ⟨Nat.le_of_ble_eq_true rfl, fun t4 nt4 => ?_⟩⟩⟩
        refine ⟨_, _, .inl (sqL_of (by walk_at "up")), rfl, Nat.le_of_ble_eq_true rfl, fun t5 nt5 => ?_⟩
        refine fin _ _ (.inr (.inr (.inr (.inl ⟨t5, .ref t4, w0, rfl, upd_same, t4, t3, t1, t0, key, t2, w1, g, rfl, by walk_at "up", by walk_at "up", by walk_at "up", by walk_at "up", hkey, by walk_at "up", n0, n1, ?_⟩)))) ?_ ?_
        · exact FormV.mono (tups_of (stay_of ((((same_new nt2).trans (same_new nt3)).trans (same_new nt4)).trans (same_new nt5)))) _ _ f8
        · obtain ⟨s, d, m, e1, e2⟩ := p8
          exact ⟨s, d, m, by walk_at "up", e2⟩
        · exact ((k6.trans (keep_of s7)).trans k8).trans (keep_of ((((same_new nt2).trans (same_new nt3)).trans (same_new nt4)).trans (same_new nt5)))
      -- an optional one
      refine ⟨dm, p1.new (p1.ne nl), fun u H2 f2 p2 k2 => ?_⟩
      have k2 : Keep a H1 H2 := (keep_of (same_new nl)).trans k2
      obtain ⟨b, s, rest, rfl, hb⟩ := FormV.head _ _ f2
      simp only [List.set_cons_succ, List.set_cons_zero]
      refine ⟨_, _, .inr (sqT_of hb), atI_zero _ _, br2 (fun e6 => ?_) (fun e6 => ?_)⟩
      · exact fin _ _ (FormV.up _ _ f2) p2 k2
      · exact ⟨Nat.le_of_ble_eq_true rfl, fun t nt => fin _ _ (.inr (.inr (.inr (.inr ⟨t, _, rfl, upd_same, FormV.mono (tups_of (stay_new nt)) _ _ f2⟩)))) (p2.new (p2.ne nt)) (k2.trans (keep_of (same_new nt)))⟩
    · exact h.elim
theorem no_form (T : Top K mg) : Ok__law_form P w base T 2 (fun _ _ _ _ => False) := ⟨fun _ _ _ _ h => h.elim, fun _ _ _ _ _ _ _ _ _ _ _ _ _ h => h.elim⟩
theorem ok_form (T : Top K mg) : ∀ n, Ok__law_form P w base T (n + 3) (sp_form n)
  | 0 => step_form T 0 2 (by decide) _ (no_form T) fun m e => by cases e
  | n + 1 => step_form T (n + 1) (n + 3) (by omega) _ (ok_form T n) fun m e => by cases e; rfl
end
end Sk
namespace Sk
open PySem PySem.Spec PyProof.Rows L2
/-! ### kinds by the depth of their values -/
def KeyI (H : Hp) (v : V) (w : Str) : Prop := ∃ a q b0 g0 s0 b1, v = .ref a ∧ H a = some (.tup [.str "record", .ref q]) ∧ H q = some (.tup [.ref b0, b1]) ∧ H b0 = some (.tup [.str w, .ref g0]) ∧ H g0 = some (.tup [.str s0]) ∧ (s0 = "text" ∨ s0 = "number")
def FW (H : Hp) : Nat → V → Prop
  | 0, v => Form0 H v
  | n + 1, v => Form0 H v ∨ (∃ a u, v = .ref a ∧ H a = some (.tup [.str "list", u]) ∧ FW H n u) ∨ RecF (FW H n) H v ∨
      (∃ a r w, v = .ref a ∧ H a = some (.tup [.str "keyed", r, .str w]) ∧ FW H n r ∧ KeyI H r w) ∨ (∃ a u, v = .ref a ∧ H a = some (.tup [.str "optional", u]) ∧ FW H n u)
theorem Form0.fw {H : Hp} {v : V} (h : Form0 H v) : ∀ n, FW H n v
  | 0 => h
  | _ + 1 => .inl h
theorem FW.mono {H H' : Hp} (t : Tups H H') : ∀ (n : Nat) (v : V), FW H n v → FW H' n v
  | 0, _, h => Form0.mono t h
  | n + 1, v, h => by
    rcases h with h | ⟨a, u, e, h1, h2⟩ | ⟨a, r, ps, e, h1, h2, h3, h4⟩ | ⟨a, r, w, e, h1, h2, a2, q, b0, g0, s0, b1, e2, k1, k2, k3, k4, k5⟩ | ⟨a, u, e, h1, h2⟩
    · exact .inl (Form0.mono t h)
    · exact .inr (.inl ⟨a, u, e, t _ _ h1, FW.mono t n u h2⟩)
    · refine .inr (.inr (.inl ⟨a, r, ps, e, t _ _ h1, t _ _ h2, h3, fun p hp => ?_⟩))
      obtain ⟨b, w, g, ep, k1, k2, k3⟩ := h4 p hp
      exact ⟨b, w, g, ep, t _ _ k1, k2, FW.mono t n g k3⟩
    · exact .inr (.inr (.inr (.inl ⟨a, r, w, e, t _ _ h1, FW.mono t n r h2, a2, q, b0, g0, s0, b1, e2, t _ _ k1, t _ _ k2, t _ _ k3, t _ _ k4, k5⟩)))
    · exact .inr (.inr (.inr (.inr ⟨a, u, e, t _ _ h1, FW.mono t n u h2⟩)))
theorem FW.up {H : Hp} : ∀ (n : Nat) (v : V), FW H n v → FW H (n + 1) v
  | 0, _, h => .inl h
  | n + 1, v, h => by
    rcases h with h | ⟨a, u, e, h1, h2⟩ | ⟨a, r, ps, e, h1, h2, h3, h4⟩ | ⟨a, r, w, e, h1, h2, h3⟩ | ⟨a, u, e, h1, h2⟩
    · exact .inl h
    · exact .inr (.inl ⟨a, u, e, h1, FW.up n u h2⟩)
    · refine .inr (.inr (.inl ⟨a, r, ps, e, h1, h2, h3, fun p hp => ?_⟩))
      obtain ⟨b, w, g, ep, k1, k2, k3⟩ := h4 p hp
      exact ⟨b, w, g, ep, k1, k2, FW.up n g k3⟩
    · exact .inr (.inr (.inr (.inl ⟨a, r, w, e, h1, FW.up n r h2, h3⟩)))
    · exact .inr (.inr (.inr (.inr ⟨a, u, e, h1, FW.up n u h2⟩)))
theorem FormV.fw {H : Hp} : ∀ (n : Nat) (v : V), FormV H n v → FW H (2 * n) v
  | 0, _, h => h
  | n + 1, v, h => by
    have two : 2 * (n + 1) = (2 * n + 1) + 1 := by omega
    rw [two]
    have go : ∀ u, FormV H n u → FW H (2 * n + 1) u := fun u hu => FW.up _ _ (FormV.fw n u hu)
    rcases h with h | ⟨a, u, e, h1, h2⟩ | ⟨a, r, ps, e, h1, h2, h3, h4⟩ | ⟨a, r, w, e, h1, h2⟩ | ⟨a, u, e, h1, h2⟩
    · exact .inl h
    · exact .inr (.inl ⟨a, u, e, h1, go u h2⟩)
    · refine .inr (.inr (.inl ⟨a, r, ps, e, h1, h2, h3, fun p hp => ?_⟩))
      obtain ⟨b, w, g, ep, k1, k2, k3⟩ := h4 p hp
      exact ⟨b, w, g, ep, k1, k2, go g k3⟩
    · refine .inr (.inr (.inr (.inl ⟨a, r, w, e, h1, ?_, ?_⟩)))
      · obtain ⟨a, r, ps, e, h1, h2, h3, h4⟩ := h2.rec_
        refine .inr (.inr (.inl ⟨a, r, ps, e, h1, h2, h3, fun p hp => ?_⟩))
        obtain ⟨b, w, g, ep, k1, k2, k3⟩ := h4 p hp
        exact ⟨b, w, g, ep, k1, k2, FormV.fw n g k3⟩
      · obtain ⟨a, q, b0, g0, s0, b1, w1, g1, e, h1, h2, h3, h4, h5, _⟩ := h2
        exact ⟨a, q, b0, g0, s0, _, e, h1, h2, h3, h4, h5⟩
    · exact .inr (.inr (.inr (.inr ⟨a, u, e, h1, go u h2⟩)))
local macro_rules | `(tactic| walk_at "up") => `(tactic| first | assumption | exact upd_same | (refine same_new (by assumption) _ _ ?_; walk_at "up"))
/-- of a record kind: a new record with its fields -/
def RecInfo (H : Hp) (f v : V) (H' : Hp) : Prop := ∀ b r ps, f = .ref b → H b = some (.tup [.str "record", .ref r]) → H r = some (.tup ps) → ∃ c kvs, v = .ref c ∧ H c = none ∧ H' c = some (.dK kvs) ∧ DictOk kvs ∧
  ∀ p ∈ ps, ∀ x w g, p = .ref x → H x = some (.tup [.str w, g]) → (valV kvs (.inr w)).isSome = true
theorem atI_get {α : Type} {xs : List α} {i : Nat} (h : i < xs.length) : atI xs (0 + (i : Int)) = some xs[i] := by
  unfold atI ixN
  rw [if_pos (by omega), if_pos (by omega)]
  show xs[(0 + (i : Int)).toNat]? = _
  rw [show (0 + (i : Int)).toNat = i by omega]
  exact List.getElem?_eq_getElem h
theorem no_info {H H' : Hp} {b : Addr} {v : V} {s : Str} {r : List V} (h : H b = some (.tup (.str s :: r))) (hs : s ≠ "record") : RecInfo H (.ref b) v H' := fun c q ps e h1 _ => by
  cases e
  rw [h] at h1
  cases h1
  exact absurd rfl hs
section
variable {P : Program} {w : World} {K : PySem.W.Frag} {mg : Str → Option Value} {base : Heap}
def sp_thing (n : Nat) : Sp := fun vs H Q _ => match vs with
  | [.ref a, f] => Pool H a ∧ FW H n f ∧ ∀ (v : V) (H' : Hp), GoodV (newP H H') n v → RecInfo H f v H' → Pool H' a → Keep a H H' → Q v H'
  | _ => False
theorem step_thing (T : Top K mg) (n k : Nat) (hk : 2 ≤ k) (spI : Sp) (G__law_thing_of : Ok__law_thing_of P w base T k spI) (hI : ∀ m, n = m + 1 → spI = sp_thing m) : Ok__law_thing_of P w base T (k + 1) (sp_thing n) := by
  have G__law_draw : Ok__law_draw P w base T 1 sp_draw := ok_draw T 0
  have G__law_chars : Ok__law_chars P w base T 2 sp_chars := ok_chars T 0
  refine T.F__law_thing_of.ok sc__law_thing_of (fun vs H Q E h => ?_) (fun cdv A outer s H vs Q E hr h => ⟨_, PSs.nox (pss_cons (sif (tcmp (ksame K hr.units) (pe_ix (kget K) (vr 1) pe_int (fun _ _ => rfl)) pe_str (nomark _)) (pss_one (ps_ret (pe_call G__law_chars (hr.mono (by omega)) (by rfl) T.g__law_chars T.F__law_chars.kp (b__law_chars T) .nil pass0 (pa_cons (vr 0) pa_nil)))) pss_nil)
      (pss_cons (sif (tcmp (ksame K hr.units) (pe_ix (kget K) (vr 1) pe_int (fun _ _ => rfl)) pe_str (nomark _)) (pss_one (ps_ret (pe_ix (kget K) (pe_lst (pa_cons (pe_call G__law_draw (hr.mono (by omega)) (by rfl) T.g__law_draw T.F__law_draw.kp (b__law_draw T) .nil pass0 (pa_cons (vr 0) (pa_cons pe_int pa_nil))) (pa_cons (pe_un un_negU (pe_call G__law_draw (hr.mono (by omega)) (by rfl) T.g__law_draw T.F__law_draw.kp (b__law_draw T) .nil pass0 (pa_cons (vr 0) (pa_cons pe_int pa_nil)))) (pa_cons (pe_op op_minus (pe_op op_powI pe_int pe_int) (pe_call G__law_draw (hr.mono (by omega)) (by rfl) T.g__law_draw T.F__law_draw.kp (b__law_draw T) .nil pass0 (pa_cons (vr 0) (pa_cons pe_int pa_nil)))) pa_nil)))) (pe_call G__law_draw (hr.mono (by omega)) (by rfl) T.g__law_draw T.F__law_draw.kp (b__law_draw T) .nil pass0 (pa_cons (vr 0) (pa_cons pe_int pa_nil))) (fun _ _ => rfl)))) pss_nil)
      (pss_cons (sif (tcmp (ksame K hr.units) (pe_ix (kget K) (vr 1) pe_int (fun _ _ => rfl)) pe_str (nomark _)) (pss_one (ps_ret (pe_cmpR (ksame K hr.units) (pe_call G__law_draw (hr.mono (by omega)) (by rfl) T.g__law_draw T.F__law_draw.kp (b__law_draw T) .nil pass0 (pa_cons (vr 0) (pa_cons pe_int pa_nil))) pe_int (nomark _)))) pss_nil)
      (pss_cons (sif (tcmp (ksame K hr.units) (pe_ix (kget K) (vr 1) pe_int (fun _ _ => rfl)) pe_str (nomark _)) (pss_one (ps_ret (vif (tcmp op_gtI (pe_call G__law_draw (hr.mono (by omega)) (by rfl) T.g__law_draw T.F__law_draw.kp (b__law_draw T) .nil pass0 (pa_cons (vr 0) (pa_cons pe_int pa_nil))) pe_int (nomark _)) (pe_call G__law_thing_of (hr.mono (by omega)) (by rfl) T.g__law_thing_of T.F__law_thing_of.kp (b__law_thing_of T) .nil pass0 (pa_cons (vr 0) (pa_cons (pe_ix (kget K) (vr 1) pe_int (fun _ _ => rfl)) pa_nil))) pe_non))) pss_nil)
      (pss_cons (sif (tcmp (ksame K hr.units) (pe_ix (kget K) (vr 1) pe_int (fun _ _ => rfl)) pe_str (nomark _)) (pss_cons (ps_set (i := 2) sc__law_thing_of.nd rfl (by first | exact .inl rfl | exact .inr rfl) pe_dnewK)
      (pss_cons (ps_for PassesOwn.never rfl (itup K (pe_ix (kget K) (vr 1) pe_int (fun _ _ => rfl))) (gtup K 2 rfl (gs_cons (pg_name (i := 3) sc__law_thing_of.nd rfl (by first | exact .inl rfl | exact .inr rfl)) (gs_cons (pg_name (i := 4) sc__law_thing_of.nd rfl (by first | exact .inl rfl | exact .inr rfl)) gs_nil))) (pss_one (ps_asg (pe_call G__law_thing_of (hr.mono (by omega)) (by rfl) T.g__law_thing_of T.F__law_thing_of.kp (b__law_thing_of T) .nil pass0 (pa_cons (vr 0) (pa_cons (vr 4) pa_nil))) (pg_sub (vr 2) (vr 3) (set_dict (hu_of hr))))))
      (pss_one (ps_ret (vr 2))))) pss_nil)
      (pss_cons (ps_setLc (i := 2) (own := [("_law_k", 5)])  rfl sc__law_thing_of.nd rfl rfl (sw_true rfl rfl rfl (by decide +kernel)) (pi_range1 (by rfl) T.n_range (pa_cons (pe_call G__law_draw (hr.mono (by omega)) (by rfl) T.g__law_draw T.F__law_draw.kp (b__law_draw T) .nil pass0 (pa_cons (vr 0) (pa_cons pe_int pa_nil))) pa_nil)) (blkOk_by (own := [("_law_k", 5)]) (N := ["_law_pool_here", "_law_form_here", "_law_found", "_law_word", "_law_inner", "_law_k", "_law_numbers"]) (sc := defScope s__law_thing_of) (by decide +kernel)) (fun _ _ _ _ _ => (pg_name (i := 5) sc__law_thing_of.nd rfl (by first | exact .inl rfl | exact .inr rfl))) (fun _ _ _ _ _ => pts_nil) (fun _ _ _ _ _ => up (pe_call G__law_thing_of (hr.mono (by omega)) (by rfl) T.g__law_thing_of T.F__law_thing_of.kp (b__law_thing_of T) .nil pass0 (pa_cons (vr 0) (pa_cons (pe_ix (kget K) (vr 1) pe_int (fun _ _ => rfl)) pa_nil)))))
      (pss_cons (sif (tcmp (ksame K hr.units) (pe_ix (kget K) (vr 1) pe_int (fun _ _ => rfl)) pe_str (nomark _)) (pss_one (ps_for PassesOwn.never rfl (pi_range1 (by rfl) T.n_range (pa_cons (pe_callB (klen K) (by rfl) T.n_len (by decide +kernel) (pa_cons (vr 2) pa_nil)) pa_nil)) (pg_name (i := 5) sc__law_thing_of.nd rfl (by first | exact .inl rfl | exact .inr rfl)) (pss_cons (ps_set (i := 6) sc__law_thing_of.nd rfl (by first | exact .inl rfl | exact .inr rfl) (pe_cmpR (ksame K hr.units) (pe_ix (kget K) (pe_ix (kget K) (pe_ix (kget K) (pe_ix (kget K) (vr 1) pe_int (fun _ _ => rfl)) pe_int (fun _ _ => rfl)) pe_int (fun _ _ => rfl)) pe_int (fun _ _ => rfl)) (pe_tup (pa_cons pe_str pa_nil)) (nomark _)))
      (pss_one (ps_asg (vif (tst (vr 6)) (pe_op (kplus K) (pe_op op_mulU (vr 5) pe_int) (pe_call G__law_draw (hr.mono (by omega)) (by rfl) T.g__law_draw T.F__law_draw.kp (b__law_draw T) .nil pass0 (pa_cons (vr 0) (pa_cons pe_int pa_nil)))) (pe_op op_mulU pe_str (pe_op (kplus K) (vr 5) pe_int))) (pg_sub (pe_ix (kget K) (vr 2) (vr 5) (fun _ _ => rfl)) (pe_ix (kget K) (vr 1) pe_int (fun _ _ => rfl)) (set_dict (hu_of hr)))))))) pss_nil)
      (pss_one (ps_ret (pe_callTy (ktup K) (by rfl) T.n_tuple (by decide +kernel) (pa_cons (vr 2) pa_nil))))))))))), ?_⟩)
  · unfold sp_thing at h
    split at h
    · rfl
    · exact h.elim
  · unfold sp_thing at h
    split at h
    · obtain ⟨hp, hf, q⟩ := h
      rename_i a f
      rw [st__law_thing_of]
      have flat0 : ∀ b s, f = .ref b → H b = some (.tup [.str s]) → (s = "text" ∨ s = "number" ∨ s = "flag") → ∀ (v : V) (H' : Hp), FlatOk v → Pool H' a → Keep a H H' → Q v H' := fun b s e hb hs v H' fv p k => by
        refine q v H' (fv.good n) ?_ p k
        rw [e]
        refine no_info hb ?_
        rcases hs with rfl | rfl | rfl <;> decide +kernel
      have hf' : Form0 H f ∨ ∃ m, n = m + 1 ∧ ((∃ a u, f = .ref a ∧ H a = some (.tup [.str "list", u]) ∧ FW H m u) ∨ RecF (FW H m) H f ∨
          (∃ a r w, f = .ref a ∧ H a = some (.tup [.str "keyed", r, .str w]) ∧ FW H m r ∧ KeyI H r w) ∨ (∃ a u, f = .ref a ∧ H a = some (.tup [.str "optional", u]) ∧ FW H m u)) := by
        cases n with
        | zero => exact .inl hf
        | succ m =>
          rcases hf with h | h
          · exact .inl h
          · exact .inr ⟨m, rfl, h⟩
      rcases hf' with ⟨b, s, rfl, hb, hs⟩ | ⟨m, rfl, hf'⟩
      · have fl := flat0 b s rfl hb hs
        rcases hs with rfl | rfl | rfl
        · refine ⟨_, _, .inr (sqT_of hb), rfl, ?_⟩
          exact ⟨hp, fun z H1 tz p1 k1 => fl _ H1 (tz.mono (by decide)) p1 k1⟩
        · refine ⟨_, _, .inr (sqT_of hb), rfl, ?_⟩
          refine ⟨_, _, .inr (sqT_of hb), rfl, ?_⟩
          refine ⟨hp, by decide, by decide, fun i1 H1 a0 a1 p1 k1 => ⟨p1, by decide, by decide, fun i2 H2 b0 b1 p2 k2 => ⟨⟨by decide, by decide, by decide⟩, p2, by decide, by decide, fun i3 H3 c0 c1 p3 k3 => ⟨Nat.le_of_ble_eq_true rfl, fun l nl => ⟨p3.new (p3.ne nl), by decide, by decide, fun i4 H4 d0 d1 p4 k4 => ?_⟩⟩⟩⟩⟩
          obtain ⟨v, ev, mv⟩ := atI_in (xs := [V.int i1, .int (-i2), .int (10 ^ Int.toNat 20 - i3)]) (i := i4) d0 d1
          refine ⟨_, v, .inl (sqL_of (k4 l _ (p3.ne nl) upd_same)), ev, fl v H4 ?_ p4 ((((k1.trans k2).trans k3).trans (keep_of (same_new nl))).trans k4)⟩
          have e20 : (10 : Int) ^ Int.toNat 20 = 100000000000000000000 := by decide
          rw [e20] at mv
          simp only [List.mem_cons, List.mem_nil_iff, or_false] at mv
          rcases mv with rfl | rfl | rfl
          · show i1.natAbs ≤ 10 ^ 30
            omega
          · show (-i2).natAbs ≤ 10 ^ 30
            omega
          · show (100000000000000000000 - i3).natAbs ≤ 10 ^ 30
            omega
        · refine ⟨_, _, .inr (sqT_of hb), rfl, ?_⟩
          refine ⟨_, _, .inr (sqT_of hb), rfl, ?_⟩
          refine ⟨_, _, .inr (sqT_of hb), rfl, ?_⟩
          exact ⟨hp, by decide, by decide, fun i1 H1 a0 a1 p1 k1 => fl _ H1 trivial p1 k1⟩
      have hI := hI m rfl
      subst hI
      rcases hf' with ⟨b, u, rfl, hb, hu⟩ | ⟨b, r, ps, rfl, hb, hr2, hl, hps⟩ | ⟨b, r, kw, rfl, hb, hu, hk2⟩ | ⟨b, u, rfl, hb, hu⟩
      · -- a list
        refine ⟨_, _, .inr (sqT_of hb), rfl, ?_⟩
        refine ⟨_, _, .inr (sqT_of hb), rfl, ?_⟩
        refine ⟨_, _, .inr (sqT_of hb), rfl, ?_⟩
        refine ⟨_, _, .inr (sqT_of hb), rfl, ?_⟩
        refine ⟨_, _, .inr (sqT_of hb), rfl, ?_⟩
        refine ⟨hp, by decide, by decide, fun i1 H1 a0 a1 p1 k1 => ⟨i1, rfl, by omega, by omega, fun D nD => ?_⟩⟩
        refine lcr (fr_keep (p1.ne nD)) (fun _ v H' => GoodV (newP H H') m v) p1 nD (by omega) (fun _ v H' H2 g st => GoodV.mono (newP_on st) _ _ g) (fun _ => rfl) (fun i H2 hi p2 k2 => ?_) (fun H2 ys p2 k2 l2 e2 q2 => ?_)
        · have st : Stay H H2 := (k1.trans k2).stay hp
          refine ⟨_, _, .inr (sqT_of (st _ _ rfl hb)), rfl, p2, FW.mono (tups_of st) _ _ hu, fun v H3 gv ri p3 k3 => ?_⟩
          exact ⟨p3, k3, GoodV.mono (newP_less ((k1.trans k2).dom p2)) _ _ gv⟩
        · have st : Stay H H2 := (k1.trans k2).stay hp
          refine ⟨_, _, .inr (sqT_of (st _ _ rfl hb)), rfl, ?_⟩
          refine ⟨ys, .inl ⟨sqL_of e2, fun t nt => ?_⟩⟩
          have nH : H t = none := (k1.trans k2).dom p2 t nt
          refine q _ _ (.inr (.inl ⟨t, ys, rfl, by rw [newP_at nH]; exact upd_same, by omega, fun x hx => ?_⟩)) (no_info hb (by decide +kernel)) (p2.new (p2.ne nt)) ((k1.trans k2).trans (keep_of (same_new nt)))
          obtain ⟨i, hi⟩ := List.getElem?_of_mem hx
          exact GoodV.mono (newP_on (stay_new nt)) _ _ (q2 i x hi)
      · -- a record
        refine ⟨_, _, .inr (sqT_of hb), rfl, ?_⟩
        refine ⟨_, _, .inr (sqT_of hb), rfl, ?_⟩
        refine ⟨_, _, .inr (sqT_of hb), rfl, ?_⟩
        refine ⟨_, _, .inr (sqT_of hb), rfl, ?_⟩
        refine ⟨_, _, .inr (sqT_of hb), rfl, ?_⟩
        intro d nd
        simp only [List.set_cons_succ, List.set_cons_zero]
        have ned := hp.ne nd
        refine ⟨_, _, .inr (sqT_of (same_new nd _ _ hb)), rfl, r, rfl, ⟨_, sqT_of (same_new nd _ _ hr2)⟩, ?_⟩
        refine for_tup (xs := ps) (fun i σ H' => (∃ y3 y4, σ = [some (.ref a), some (.ref b), some (.ref d), y3, y4, none, none]) ∧ Pool H' a ∧ Keep a H H' ∧ ∃ kvs, H' d = some (.dK kvs) ∧ kvs.length ≤ i ∧ (kvs.map (·.1)).Nodup ∧
          (∀ p ∈ kvs, ∃ w, p.1 = .inr w ∧ NameOk w) ∧ (∀ p ∈ kvs, GoodV (hide d (newP H H')) m p.2) ∧ ∀ (j : Nat) p, j < i → ps[j]? = some p → ∀ x w g, p = .ref x → H x = some (.tup [.str w, g]) → (valV kvs (.inr w)).isSome = true)
          ⟨⟨_, _, rfl⟩, hp.new ned, keep_of (same_new nd), [], upd_same, Nat.le_refl _, List.nodup_nil, (fun p hp => by cases hp), (fun p hp => by cases hp), fun j p hj => absurd hj (Nat.not_lt_zero j)⟩ (fun i σ H' _ hv => ?_) (fun i x σ H' hx hv => ?_) (fun σ H' hv => ?_)
        · exact sqT_of ((hv.2.2.1).stay hp _ _ rfl hr2)
        · obtain ⟨⟨y3, y4, rfl⟩, p1, k1, kvs, e1, l1, nd1, nm1, g1, in1⟩ := hv
          obtain ⟨c, w, g, rfl, hc, hw, fg⟩ := hps x (List.mem_of_getElem? hx)
          have st : Stay H H' := k1.stay hp
          refine ⟨c, _, rfl, sqT_of (st _ _ rfl hc), rfl, ?_⟩
          refine ⟨p1, FW.mono (tups_of st) _ _ fg, fun v H2 gv ri p2 k2 => ?_⟩
          have e2 : H2 d = some (.dK kvs) := k2 d _ ned e1
          have hi : i < ps.length := (List.getElem?_eq_some_iff.mp hx).1
          refine ⟨d, _, rfl, DPut.k (k := .inr w) e2 (size_lt (by omega)), ⟨_, _, rfl⟩, p2.new ned, ?_, _, upd_same, ?_, ?_, ?_, ?_, ?_⟩
          · intro b o nb hb'
            rw [upd_ne (ne_of_none hb' nd)]
            exact k2 b o nb (k1 b o nb hb')
          · have := length_putK kvs (Sum.inr w) v
            omega
          · cases hq : valV kvs (Sum.inr w) with
            | none => exact nd_putK v nd1 hq
            | some z => rw [put_keys (by rw [hq]; rfl)]; exact nd1
          · intro p hp'
            rcases put_mem hp' with h | ⟨h, _⟩
            · exact nm1 p h
            · exact ⟨w, h, hw⟩
          · have same : Stay (hide d (newP H H2)) (hide d (newP H (upd H2 d (.dK (putK kvs (Sum.inr w) v))))) := fun b o l e => by
              obtain ⟨h1, h2⟩ := hide_some e
              obtain ⟨h3, h4⟩ := newP_some h2
              rw [hide_ne h1, newP_at h3, upd_ne h1]
              exact h4
            intro p hp'
            rcases put_mem hp' with h | ⟨_, h⟩
            · exact GoodV.mono ((hide_on (newP_on (k2.stay p1))).trans same) _ _ (g1 p h)
            · rw [h]
              refine GoodV.mono ((stay_hide (newP_less (k1.dom p1)) ?_).trans same) _ _ gv
              unfold newP
              rw [e1]
          · intro j p hj hpj x' w' g' ex hx'
            rw [valV_put]
            split
            · rfl
            · rcases Nat.lt_or_ge j i with hji | hji
              · exact in1 j p hji hpj x' w' g' ex hx'
              · have : j = i := by omega
                subst this
                rw [hx] at hpj
                cases hpj
                cases ex
                rw [hc] at hx'
                cases hx'
                rename_i hne
                exact absurd rfl hne
        · obtain ⟨⟨y3, y4, rfl⟩, p1, k1, kvs, e1, l1, nd1, nm1, g1, in1⟩ := hv
          have dok : DictOk kvs := ⟨by omega, nd1, nm1⟩
          refine q _ _ (.inr (.inr ⟨d, kvs, rfl, by rw [newP_at nd]; exact e1, dok, fun p hp' => GoodV.mono hide_stay _ _ (g1 p hp')⟩)) ?_ p1 k1
          intro b' r' ps' eb h1 h2
          cases eb
          rw [hb] at h1
          cases h1
          rw [hr2] at h2
          cases h2
          refine ⟨d, kvs, rfl, nd, e1, dok, fun p hp' x w g ex hx => ?_⟩
          obtain ⟨j, hj⟩ := List.getElem?_of_mem hp'
          exact in1 j p (List.getElem?_eq_some_iff.mp hj).1 hj x w g ex hx
      · -- a keyed list
        obtain ⟨b2, q0, b0, g0, s0, b1, rfl, w1, w2, w3, w4, w5⟩ := hk2
        have sh : shp (.tuple [.str s0]) = true := rfl
        refine ⟨_, _, .inr (sqT_of hb), rfl, ?_⟩
        refine ⟨_, _, .inr (sqT_of hb), rfl, ?_⟩
        refine ⟨_, _, .inr (sqT_of hb), rfl, ?_⟩
        refine ⟨_, _, .inr (sqT_of hb), rfl, ?_⟩
        refine ⟨_, _, .inr (sqT_of hb), rfl, ?_⟩
        refine ⟨hp, by decide, by decide, fun i1 H1 a0 a1 p1 k1 => ⟨i1, rfl, by omega, by omega, fun D nD => ?_⟩⟩
        have neD := p1.ne nD
        refine lcr (fr_keep neD) (fun _ v H' => GoodV (newP H H') m v ∧ ∃ c kvs, v = .ref c ∧ H c = none ∧ H' c = some (.dK kvs) ∧ DictOk kvs ∧ (valV kvs (.inr kw)).isSome = true) p1 nD (by omega)
          (fun _ v H' H2 g st => ⟨GoodV.mono (newP_on st) _ _ g.1, by obtain ⟨c, kvs, h1, h2, h3, h4⟩ := g.2; exact ⟨c, kvs, h1, h2, st _ _ rfl h3, h4⟩⟩) (fun _ => rfl) (fun i H2 hi p2 k2 => ?_) (fun H2 ys p2 k2 l2 e2 q2 => ?_)
        · have st : Stay H H2 := (k1.trans k2).stay hp
          refine ⟨_, _, .inr (sqT_of (st _ _ rfl hb)), rfl, p2, FW.mono (tups_of st) _ _ hu, fun v H3 gv ri p3 k3 => ?_⟩
          refine ⟨p3, k3, GoodV.mono (newP_less ((k1.trans k2).dom p2)) _ _ gv, ?_⟩
          obtain ⟨c, kvs, h1, h2, h3, h4, h5⟩ := ri b2 q0 _ rfl (st _ _ rfl w1) (st _ _ rfl w2)
          exact ⟨c, kvs, h1, (k1.trans k2).dom p2 c h2, h3, h4, h5 _ (List.mem_cons_self ..) b0 kw _ rfl (st _ _ rfl w3)⟩
        · have st : Stay H H2 := (k1.trans k2).stay hp
          simp only [List.set_cons_succ, List.set_cons_zero]
          refine ⟨_, _, .inr (sqT_of (st _ _ rfl hb)), rfl, ?_⟩
          refine ⟨ys, .inl (sqL_of e2), _, rfl, by omega, by omega, ?_⟩
          have hDn : H D = none := k1.dom p1 D nD
          refine for_range (n := ys.length) (fun i σ H' => (∃ y5 y6, σ = [some (.ref a), some (.ref b), some (.ref D), none, none, y5, y6]) ∧ Pool H' a ∧ Keep a H H' ∧ H' D = some (.lst ys) ∧
            ∀ y ∈ ys, GoodV (newP H H') m y ∧ ∃ c kvs, y = .ref c ∧ H c = none ∧ H' c = some (.dK kvs) ∧ DictOk kvs ∧ (valV kvs (.inr kw)).isSome = true) ⟨⟨_, _, rfl⟩, p2, k1.trans k2, e2, fun y hy => ?_⟩ (fun i σ H' hi hv => ?_) (fun σ H' hv => ?_)
          · obtain ⟨i, hi⟩ := List.getElem?_of_mem hy
            exact q2 i y hi
          · obtain ⟨⟨y5, y6, rfl⟩, p3, k3, e3, g3⟩ := hv
            have st3 : Stay H H' := k3.stay hp
            refine ⟨_, _, .inr (sqT_of (st3 _ _ rfl hb)), rfl, _, _, .inr (sqT_of (st3 _ _ rfl w1)), rfl, _, _, .inr (sqT_of (st3 _ _ rfl w2)), rfl, _, _, .inr (sqT_of (st3 _ _ rfl w3)), rfl, Nat.le_of_ble_eq_true rfl, fun t nt => ?_⟩
            have s4 : Same H' (upd H' t (.tup [.str "number"])) := same_new nt
            refine ⟨.tuple [.str s0], .tuple [.str "number"], .tup (sqT_of (s4 _ _ (st3 _ _ rfl w4))) (.cons (.str _) .nil), .tup (sqT_of upd_same) (.cons (.str _) .nil), sh, by decide +kernel, ?_⟩
            simp only [List.set_cons_succ, List.set_cons_zero]
            have p4 := p3.same s4
            have k4 : Keep a H' (upd H' t (.tup [.str "number"])) := keep_of s4
            have hfin : ∀ (x : V) (H5 : Hp) (z6 : Option V), FlatOk x → Pool H5 a → Keep a H' H5 → gSub (tOp (rGet K) (uVar 2) (uVar 5)) (tOp (rGet K) (uVar 1) (tC (.int 2))) rSetD x [some (.ref a), some (.ref b), some (.ref D), none, none, some (.int (0 + (i : Int))), z6] H5
                (fun σ H' => (∃ y5 y6, σ = [some (.ref a), some (.ref b), some (.ref D), none, none, y5, y6]) ∧ Pool H' a ∧ Keep a H H' ∧ H' D = some (.lst ys) ∧
                  ∀ y ∈ ys, GoodV (newP H H') m y ∧ ∃ c kvs, y = .ref c ∧ H c = none ∧ H' c = some (.dK kvs) ∧ DictOk kvs ∧ (valV kvs (.inr kw)).isSome = true) := fun x H5 z6 fx p5 k5 => by
              have e5 : H5 D = some (.lst ys) := k5 D _ neD e3
              have st5 : Stay H' H5 := k5.stay p3
              obtain ⟨gy, c, kvs, hy, hc, hc3, dok, hkw⟩ := g3 ys[i] (List.getElem_mem hi)
              have hc5 : H5 c = some (.dK kvs) := st5 _ _ rfl hc3
              refine ⟨_, ys[i], .inl (sqL_of e5), atI_get hi, _, _, .inr (sqT_of (st5 _ _ rfl (st3 _ _ rfl hb))), rfl, c, _, hy, DPut.k (k := .inr kw) hc5 (size_lt (by have := dok.1; omega)), ⟨_, _, rfl⟩, p5.new (fun z => by rw [z] at hc5; obtain ⟨_, _, _, h1, _⟩ := p5; rw [h1] at hc5; cases hc5), ?_, ?_, ?_⟩
              · intro b' o nb hb'
                rw [upd_ne (ne_of_none hb' hc)]
                exact k5 b' o nb (k3 b' o nb hb')
              · rw [upd_ne (fun z => by rw [z, hc5] at e5; cases e5)]
                exact e5
              · intro y hy'
                obtain ⟨gy', c', kvs', ey', hc', hc3', dok', hkw'⟩ := g3 y hy'
                have eN : newP H (upd H5 c (.dK (putK kvs (.inr kw) x))) = upd (newP H H5) c (.dK (putK kvs (.inr kw) x)) := by
                  funext z
                  by_cases hz : z = c
                  · subst hz
                    rw [newP_at hc, upd_same, upd_same]
                  · rw [upd_ne hz]
                    unfold newP
                    rw [upd_ne hz]
                refine ⟨?_, ?_⟩
                · rw [eN]
                  exact GoodV.put (by rw [newP_at hc]; exact hc5) hkw fx m y (GoodV.mono (newP_on st5) _ _ gy')
                · by_cases hz : c' = c
                  · subst hz
                    have ek : kvs' = kvs := by rw [hc3] at hc3'; cases hc3'; rfl
                    subst ek
                    refine ⟨c', _, ey', hc', upd_same, dok.put hkw, ?_⟩
                    rw [valV_put, if_pos rfl]
                    rfl
                  · exact ⟨c', kvs', ey', hc', by rw [upd_ne hz]; exact st5 _ _ rfl hc3', dok', hkw'⟩
            have hi3 : i < 3 := by omega
            refine br2 (fun e => ?_) (fun e => ?_)
            · refine ⟨.inr ⟨by decide, by decide⟩, p4, by decide, by decide, fun j H5 c0 c1 p5 k5 => ?_⟩
              refine hfin _ H5 _ ?_ p5 (k4.trans k5)
              show ((0 + (i : Int)) * 3 + j).natAbs ≤ 10 ^ 30
              omega
            · refine ⟨by omega, by omega, by show 1 ≤ 1000; decide, fun z ez => hfin _ _ _ ?_ p4 k4⟩
              exact ((name_rep (c := 107) (n := i + 1) rfl (by omega) (by omega) (by rw [ez]; congr 2; omega)).text).mono (by decide)
          · obtain ⟨⟨y5, y6, rfl⟩, p3, k3, e3, g3⟩ := hv
            refine ⟨ys, .inl ⟨sqL_of e3, fun t nt => ?_⟩⟩
            have nH : H t = none := k3.dom p3 t nt
            exact q _ _ (.inr (.inl ⟨t, ys, rfl, by rw [newP_at nH]; exact upd_same, by omega, fun x hx => GoodV.mono (newP_on (stay_new nt)) _ _ (g3 x hx).1⟩)) (no_info hb (by decide +kernel)) (p3.new (p3.ne nt)) (k3.trans (keep_of (same_new nt)))
      · -- an optional one
        refine ⟨_, _, .inr (sqT_of hb), rfl, ?_⟩
        refine ⟨_, _, .inr (sqT_of hb), rfl, ?_⟩
        refine ⟨_, _, .inr (sqT_of hb), rfl, ?_⟩
        refine ⟨_, _, .inr (sqT_of hb), rfl, ?_⟩
        refine ⟨hp, by decide, by decide, fun i1 H1 a0 a1 p1 k1 => br2 (fun e => ?_) (fun e => ?_)⟩
        · have st : Stay H H1 := k1.stay hp
          refine ⟨_, _, .inr (sqT_of (st _ _ rfl hb)), rfl, p1, FW.mono (tups_of st) _ _ hu, fun v H2 gv ri p2 k2 => ?_⟩
          exact q v H2 (GoodV.mono (newP_less (k1.dom p1)) _ _ (GoodV.up _ _ gv)) (no_info hb (by decide +kernel)) p2 (k1.trans k2)
        · exact q .non H1 (.inl trivial) (no_info hb (by decide +kernel)) p1 k1
    · exact h.elim
theorem no_thing (T : Top K mg) : Ok__law_thing_of P w base T 2 (fun _ _ _ _ => False) := ⟨fun _ _ _ _ h => h.elim, fun _ _ _ _ _ _ _ _ _ _ _ _ _ h => h.elim⟩
theorem ok_thing (T : Top K mg) : ∀ n, Ok__law_thing_of P w base T (n + 3) (sp_thing n)
  | 0 => step_thing T 0 2 (by decide) _ (no_thing T) fun m e => by cases e
  | n + 1 => step_thing T (n + 1) (n + 3) (by omega) _ (ok_thing T n) fun m e => by cases e; rfl
end
end Sk
namespace Sk
open PySem PySem.Spec PyProof.Rows L2
section
variable {P : Program} {w : World} {K : PySem.W.Frag} {mg : Str → Option Value} {base : Heap}
/-! ### kinds -/
theorem kit_same {K : PySem.W.Frag} {t : Value} : PySem.W.kitOne K t t = some true := by
  unfold PySem.W.kitOne
  rw [if_pos (beq_self_eq_true t)]
theorem kit_nb : PySem.W.kitOne K (.type "NoneType") (.type "bool") = some false := rfl
theorem kit_sb : PySem.W.kitOne K (.type "str") (.type "bool") = some false := rfl
theorem kit_ib : PySem.W.kitOne K (.type "int") (.type "bool") = some false := rfl
theorem kit_bi : PySem.W.kitOne K (.type "bool") (.type "int") = some true := rfl
theorem kit_ss : PySem.W.kitOne K (.type "str") (.type "str") = some true := rfl
theorem kit_td : PySem.W.kitOne K (.type "tuple") (.type "dict") = some false := rfl
theorem bls_of {ys : List V} (h : ∀ (i : Nat) (y : V), ys[i]? = some y → y = .bl true) : ∃ bs : List Bool, ys = bs.map V.bl ∧ bs.all id = true := by
  refine ⟨List.replicate ys.length true, ?_, by simp⟩
  refine List.ext_getElem? fun i => ?_
  rw [List.map_replicate]
  cases e : ys[i]? with
  | none =>
    rw [List.getElem?_eq_none_iff] at e
    rw [List.getElem?_eq_none (by simpa using e)]
  | some y =>
    have hi := (List.getElem?_eq_some_iff.mp e).1
    rw [h i y e, List.getElem?_replicate, if_pos hi]
theorem low_in {c : Nat} (h : low c = true) : c ∈ (Str.ofString "abcdefghijklmnopqrstuvwxyz").cps.toList := by
  have : ∀ c, c < 123 → low c = true → c ∈ (Str.ofString "abcdefghijklmnopqrstuvwxyz").cps.toList := by decide +kernel
  refine this c ?_ h
  unfold low at h
  rw [Bool.and_eq_true] at h
  have := Nat.le_of_ble_eq_true h.2
  omega
def sp_name : Sp := fun vs H Q _ => match vs with
  | [.str z] => NameOk z ∧ ∀ H', Same H H' → Q (.bl true) H'
  | _ => False
theorem ok_name (T : Top K mg) (k : Nat) : Ok_is_name P w base T (k + 1) sp_name := by
  refine T.F_is_name.ok sc_is_name (fun vs H Q E h => ?_) (fun cdv A outer s H vs Q E hr h => ⟨_, PSs.nox (pss_one (ps_ret (vand (pe_callB (kis K) (by rfl) T.n_isinstance (by decide +kernel) (pa_cons (vr 0) (pa_cons (pe_bltn (v := .ty "str") (by rfl) T.n_str (by decide +kernel) rfl) pa_nil))) (vand (vchain op_ltI op_ltI pe_int (pe_callB (klen K) (by rfl) T.n_len (by decide +kernel) (pa_cons (vr 0) pa_nil)) pe_int) (pe_one (pe_callB (kall K rfl) (by rfl) T.n_all (by decide +kernel) (pa_cons (pe_lc (own := [("letter", 1)])  rfl sc_is_name.nd (pi_str (vr 0)) (blkOk_by (own := [("letter", 1)]) (N := ["thing", "letter"]) (sc := defScope s_is_name) (by decide +kernel)) (fun _ _ _ _ _ => (pg_name (i := 1) sc_is_name.nd rfl (by first | exact .inl rfl | exact .inr rfl))) (fun _ _ _ _ _ => pts_nil) (fun _ _ _ _ _ => up (pe_cmpR (kin K) (vr 1) (pe_glob (v := .str ("abcdefghijklmnopqrstuvwxyz")) (by rfl) T.c_LETTERS ⟨_, rfl⟩) (by rfl)))) pa_nil))))))), ?_⟩)
  · unfold sp_name at h
    split at h
    · rfl
    · exact h.elim
  · unfold sp_name at h
    split at h
    · obtain ⟨⟨h1, h2, h3⟩, q⟩ := h
      rename_i z
      rw [st_is_name]
      refine ⟨_, _, .base (.str _), rfl, ?_⟩
      refine ⟨size_le (by omega), br2 (fun e => ?_) (fun e => ?_)⟩
      · refine br2 (fun e2 => ?_) (fun e2 => ?_)
        · refine ⟨z, rfl, fun D nD => ?_⟩
          refine lcw walk_str fr_same (fun _ v _ => v = .bl true) trivial nD (by have : z.cps.size ≤ 12 := h2; omega) gm_name (fun _ _ _ => trivial) (fun _ _ _ _ h _ => h) (fun i x H1 H1' hi _ s1 hy => ?_) (fun H1 ys _ s1 l1 e1 q1 => ?_)
          · obtain ⟨rfl, c, hc, rfl⟩ := hy
            refine ⟨rfl, trivial, Same.refl _, ?_⟩
            have hm : c ∈ z.cps.toList := by
              rw [← Array.getElem?_toList] at hc
              exact List.mem_of_getElem? hc
            show V.bl (subS ⟨#[c]⟩ _) = .bl true
            rw [subS_one, decide_eq_true (low_in (h3 c hm))]
          · obtain ⟨bs, rfl, hb⟩ := bls_of q1
            refine ⟨_, bs, rfl, sqL_of e1, ?_⟩
            rw [hb]
            exact q _ s1
        · have e2 := of_decide_eq_false e2
          omega
      · have e := of_decide_eq_false e
        omega
    · exact h.elim
/-! ### write_text, write_attribute -/
def txtE (z : Str) : Str := Txt.replace (Txt.replace z "&" "&amp;") "<" "&lt;"
def attE (z : Str) : Str := Txt.replace (txtE z) "\"" "&quot;"
theorem txt_len {z : Str} (h : z.length ≤ 2000) : (txtE z).length ≤ 60029 := rep_le (m := 12005) (k := 4) (rep_le (m := 2000) (k := 5) h (by decide)) (by decide)
def sp_text : Sp := fun vs H Q _ => match vs with
  | [.str z] => z.length ≤ 2000 ∧ Q (.str (txtE z)) H
  | _ => False
theorem ok_text (T : Top K mg) (k : Nat) : Ok_write_text P w base T (k + 1) sp_text := by
  refine fnok_T T.F_write_text sc_write_text (by decide +kernel) (by decide) (fun vs H Q E h => ?_) (fun cdv A outer s H vs Q E hr h => ⟨_, (CwR.psst_one (CwR.pst_ret (CwR.pet_replT (CwR.pet_replC (vr 0))))), ?_⟩)
  · unfold sp_text at h
    split at h
    · rfl
    · exact h.elim
  · unfold sp_text at h
    split at h
    · obtain ⟨h1, q⟩ := h
      rw [st_write_text]
      refine ⟨_, rfl, ?_, _, rfl, ?_, q⟩
      · show _ + (_ + 1) * 5 ≤ _
        omega
      · have := rep_le (a := "&") (b := "&amp;") (k := 5) h1 (by decide)
        show _ + (_ + 1) * 4 ≤ _
        omega
    · exact h.elim
theorem ok_attribute (T : Top K mg) (k : Nat) : Ok_write_attribute P w base T (k + 2) (fun vs H Q _ => match vs with | [.str z] => z.length ≤ 2000 ∧ Q (.str (attE z)) H | _ => False) := by
  have G_write_text : Ok_write_text P w base T 1 sp_text := ok_text T 0
  refine fnok_T T.F_write_attribute sc_write_attribute (by decide +kernel) (by decide) (fun vs H Q E h => ?_) (fun cdv A outer s H vs Q E hr h => ⟨_, (CwR.psst_one (CwR.pst_ret (CwR.pet_replC (pe_call G_write_text (hr.mono (by omega)) (by rfl) T.g_write_text T.F_write_text.kp (b_write_text T) .nil pass0 (pa_cons (vr 0) pa_nil))))), ?_⟩)
  · split at h
    · rfl
    · exact h.elim
  · split at h
    · obtain ⟨h1, q⟩ := h
      rw [st_write_attribute]
      refine ⟨h1, _, rfl, ?_, q⟩
      have := txt_len h1
      show _ + (_ + 1) * 6 ≤ _
      omega
    · exact h.elim
end
end Sk
namespace Sk
open PySem PySem.Spec PyProof.Rows L2
section
variable {P : Program} {w : World} {K : PySem.W.Frag} {mg : Str → Option Value} {base : Heap}
/-! ### has_level, is_value -/
theorem valV_at : ∀ {kvs : List (Key × V)} {i : Nat} {k : Key} {v : V}, (kvs.map (·.1)).Nodup → kvs[i]? = some (k, v) → valV kvs k = some v
  | [], _, _, _, _, h => by simp at h
  | p :: r, 0, k, v, _, h => by
    have e : p = (k, v) := by simpa using h
    subst e
    exact valV_pos rfl
  | p :: r, i + 1, k, v, nd, h => by
    have h : r[i]? = some (k, v) := by simpa using h
    have nd' := List.nodup_cons.mp (show (p.1 :: r.map (·.1)).Nodup from nd)
    rw [valV_neg (fun e => nd'.1 (by rw [e]; exact List.mem_map_of_mem (f := (·.1)) (List.mem_of_getElem? h)))]
    exact valV_at nd'.2 h
def sp_level (n : Nat) : Sp := fun vs H Q _ => match vs with
  | [v, .int m] => m = (n : Int) ∧ GoodV H n v ∧ ∀ H', Same H H' → Q (.bl true) H'
  | _ => False
theorem step_level (T : Top K mg) (n k : Nat) (hk : 1 ≤ k) (spI : Sp) (G_has_level : Ok_has_level P w base T k spI) (hI : ∀ m, n = m + 1 → spI = sp_level m) : Ok_has_level P w base T (k + 1) (sp_level n) := by
  have G_is_name : Ok_is_name P w base T 1 sp_name := ok_name T 0
  refine T.F_has_level.ok sc_has_level (fun vs H Q E h => ?_) (fun cdv A outer s H vs Q E hr h => ⟨_, PSs.nox (pss_cons (sif (PW.pt (wor (tcmp op_isNo (vr 0) pe_non (nomark _)) (pw_or1 (tst (pe_callB (kis K) (by rfl) T.n_isinstance (by decide +kernel) (pa_cons (vr 0) (pa_cons (pe_tup (pa_cons (pe_bltn (v := .ty "str") (by rfl) T.n_str (by decide +kernel) rfl) (pa_cons (pe_bltn (v := .ty "int") (by rfl) T.n_int (by decide +kernel) rfl) pa_nil))) pa_nil))))))) (pss_one (ps_ret pe_bl)) pss_nil)
      (pss_cons (sif (tst (pe_callB (kis K) (by rfl) T.n_isinstance (by decide +kernel) (pa_cons (vr 0) (pa_cons (pe_bltn (v := .ty "tuple") (by rfl) T.n_tuple (by decide +kernel) rfl) pa_nil)))) (pss_one (ps_ret (vand (pe_cmpR op_gtI (vr 1) pe_int (nomark _)) (vand (pe_cmpR op_leI (pe_callB (klen K) (by rfl) T.n_len (by decide +kernel) (pa_cons (vr 0) pa_nil)) (pe_glob (v := .int (60)) (by rfl) T.c_MAX_ELEMENTS ⟨_, rfl⟩) (nomark _)) (pe_one (pe_callB (kall K rfl) (by rfl) T.n_all (by decide +kernel) (pa_cons (pe_lc (own := [("part", 3)])  rfl sc_has_level.nd (itup K (vr 0)) (blkOk_by (own := [("part", 3)]) (N := ["thing", "most", "name", "part"]) (sc := defScope s_has_level) (by decide +kernel)) (fun _ _ _ _ _ => (pg_name (i := 3) sc_has_level.nd rfl (by first | exact .inl rfl | exact .inr rfl))) (fun _ _ _ _ _ => pts_nil) (fun _ _ _ _ _ => up (pe_call G_has_level (hr.mono (by omega)) (by rfl) T.g_has_level T.F_has_level.kp (b_has_level T) .nil pass0 (pa_cons (vr 3) (pa_cons (pe_op op_minus (vr 1) pe_int) pa_nil))))) pa_nil))))))) pss_nil)
      (pss_cons (sif (PW.pt (wor (pt_not (tst (pe_callB (kis K) (by rfl) T.n_isinstance (by decide +kernel) (pa_cons (vr 0) (pa_cons (pe_bltn (v := .ty "dict") (by rfl) T.n_dict (by decide +kernel) rfl) pa_nil))))) (pw_or1 (tcmp (ksame K hr.units) (vr 1) pe_int (nomark _))))) (pss_one (ps_ret pe_bl)) pss_nil)
      (pss_one (ps_ret (pe_callB (kall K rfl) (by rfl) T.n_all (by decide +kernel) (pa_cons (pe_lock (pe_lc (own := [("name", 2)])  rfl sc_has_level.nd (pi_keys (vr 0)) (blkOk_by (own := [("name", 2)]) (N := ["thing", "most", "name", "part"]) (sc := defScope s_has_level) (by decide +kernel)) (fun _ _ _ _ _ => (pg_name (i := 2) sc_has_level.nd rfl (by first | exact .inl rfl | exact .inr rfl))) (fun _ _ _ _ _ => pts_nil) (fun _ _ _ _ _ => up (vand (pe_call G_is_name (hr.mono (by omega)) (by rfl) T.g_is_name T.F_is_name.kp (b_is_name T) .nil pass0 (pa_cons (vr 2) pa_nil)) (pe_one (pe_call G_has_level (hr.mono (by omega)) (by rfl) T.g_has_level T.F_has_level.kp (b_has_level T) .nil pass0 (pa_cons (pe_dget (hu_of hr) (vr 0) (vr 2) (fun _ _ => rfl)) (pa_cons (pe_op op_minus (vr 1) pe_int) pa_nil)))))))) pa_nil))))))), ?_⟩)
  · unfold sp_level at h
    split at h
    · rfl
    · exact h.elim
  · unfold sp_level at h
    split at h
    · obtain ⟨rfl, g, q⟩ := h
      rename_i v
      rw [st_has_level]
      have flat : FlatOk v → v = .non ∨ (∃ b, v = .bl b) ∨ (∃ i, v = .int i) ∨ ∃ z, v = .str z := fun f => by
        cases v with
        | non => exact .inl rfl
        | bl b => exact .inr (.inl ⟨b, rfl⟩)
        | int i => exact .inr (.inr (.inl ⟨i, rfl⟩))
        | str z => exact .inr (.inr (.inr ⟨z, rfl⟩))
        | _ => exact f.elim
      have two : ∀ _ : Addr, Paired ClsV [V.ty "str", .ty "int"] [Value.type "str", .type "int"] := fun _ => .cons (.ty _) (.cons (.ty _) .nil)
      have first : FlatOk v ∨ ∃ m, n = m + 1 ∧ ((∃ a vs, v = .ref a ∧ H a = some (.tup vs) ∧ vs.length ≤ 3 ∧ ∀ x ∈ vs, GoodV H m x) ∨ (∃ a kvs, v = .ref a ∧ H a = some (.dK kvs) ∧ DictOk kvs ∧ ∀ p ∈ kvs, GoodV (hide a H) m p.2)) := by
        cases n with
        | zero => exact .inl g
        | succ m =>
          rcases id g with g | g | ⟨a, kvs, e, h1, h2, h3⟩
          · exact .inl g
          · exact .inr ⟨m, rfl, .inl g⟩
          · subst e
            exact .inr ⟨m, rfl, .inr ⟨a, kvs, rfl, h1, h2, good_part h1 m g⟩⟩
      rcases first with f | ⟨m, rfl, ⟨a, vs, rfl, h1, h2, h3⟩ | ⟨a, kvs, rfl, h1, h2, h3⟩⟩
      · rcases flat f with rfl | ⟨b, rfl⟩ | ⟨i, rfl⟩ | ⟨z, rfl⟩
        · exact q _ (Same.refl H)
        · refine ⟨Nat.le_of_ble_eq_true rfl, fun p np => .inr ⟨_, p, _, _, _, _, rfl, upd_same, two p, .base (.bl _), rfl, ?_⟩⟩
          exact q _ (same_new np)
        · refine ⟨Nat.le_of_ble_eq_true rfl, fun p np => .inr ⟨_, p, _, _, _, _, rfl, upd_same, two p, .base (.int _), rfl, ?_⟩⟩
          exact q _ (same_new np)
        · refine ⟨Nat.le_of_ble_eq_true rfl, fun p np => .inr ⟨_, p, _, _, _, _, rfl, upd_same, two p, .base (.str _), rfl, ?_⟩⟩
          exact q _ (same_new np)
      · have hI := hI m rfl
        subst hI
        refine ⟨Nat.le_of_ble_eq_true rfl, fun p np => .inr ⟨_, p, _, _, _, _, rfl, upd_same, two p, .base (.tup (same_new np _ _ h1)), rfl, ?_⟩⟩
        have s0 : Same H (upd H p (.tup [.ty "str", .ty "int"])) := same_new np
        revert s0
        generalize upd H p (.tup [.ty "str", .ty "int"]) = H0
        intro s0
        have h0 := s0 _ _ h1
        refine ⟨_, _, .base (.tup h0), rfl, br2 (fun e => ?_) (fun e => ?_)⟩
        · refine ⟨_, .inr (sqT_of h0), br2 (fun e2 => ?_) (fun e2 => ?_)⟩
          · refine ⟨a, rfl, ⟨_, sqT_of h0⟩, fun D nD => ?_⟩
            refine lct (xs := vs) fr_same (fun _ v _ => v = .bl true) trivial nD (by omega) (fun H1 _ s1 => sqT_of (s1 _ _ h0)) (fun _ _ _ _ h _ => h) (fun _ => rfl) (fun i x H1 hx _ s1 => ?_) (fun H1 ys _ s1 l1 e1 q1 => ?_)
            · refine ⟨by omega, GoodV.mono (stay_of (s0.trans s1)) _ _ (h3 x (List.mem_of_getElem? hx)), fun H2 s2 => ⟨trivial, s2, rfl⟩⟩
            · obtain ⟨bs, rfl, hb⟩ := bls_of q1
              refine ⟨_, bs, rfl, sqL_of e1, ?_⟩
              rw [hb]
              exact q _ (s0.trans s1)
          · have e2 := of_decide_eq_false e2
            omega
        · have e := of_decide_eq_false e
          omega
      · have hI := hI m rfl
        subst hI
        refine ⟨Nat.le_of_ble_eq_true rfl, fun p np => .inr ⟨_, p, _, _, _, _, rfl, upd_same, two p, .base (.dK (same_new np _ _ h1)), rfl, ?_⟩⟩
        have s0 : Same H (upd H p (.tup [.ty "str", .ty "int"])) := same_new np
        revert s0
        generalize upd H p (.tup [.ty "str", .ty "int"]) = H0
        intro s0
        have h0 := s0 _ _ h1
        refine ⟨_, _, .base (.dK h0), rfl, ?_⟩
        refine ⟨_, _, .base (.dK h0), rfl, ?_⟩
        · refine ⟨a, _, h0, trivial, fun od => ?_⟩
          refine ⟨a, od, rfl, .inl ⟨kvs, upd_same, fun D nD => ?_⟩⟩
          have nDa := (upd_none nD).1
          have lk := h2.1
          have gd : ∀ p ∈ kvs, GoodV (upd H0 a (.frz od (.dK kvs))) m p.2 := fun p hp => by
            refine GoodV.mono (fun b o l e => ?_) _ _ (h3 p hp)
            obtain ⟨n1, e1⟩ := hide_some e
            rw [upd_ne n1]
            exact s0 _ _ e1
          have hf : upd H0 a (.frz od (.dK kvs)) a = some (.frz od (.dK kvs)) := upd_same
          have hback : upd (upd H0 a (.frz od (.dK kvs))) a (.dK kvs) = H0 := by
            funext b
            by_cases z : b = a
            · subst z
              rw [upd_same]
              exact h0.symm
            · rw [upd_ne z, upd_ne z]
          revert gd hf hback nD
          generalize upd H0 a (.frz od (.dK kvs)) = HF
          intro nD gd hf hback
          refine lcw walk_keys fr_same (fun _ v _ => v = .bl true) trivial nD (by omega) gm_name (fun H1 _ s1 => s1 _ _ hf) (fun _ _ _ _ h _ => h) (fun i x H1 H1' hi _ s1 hy => ?_) (fun H1 ys _ s1 l1 e1 q1 => ?_)
          · obtain ⟨rfl, k0, v0, hx, rfl⟩ := hy
            obtain ⟨w0, ew, ok⟩ := h2.2.2 _ (List.mem_of_getElem? hx)
            have ew : k0 = .inr w0 := ew
            subst ew
            have hv : valV kvs (.inr w0) = some v0 := valV_at h2.2.1 hx
            refine ⟨rfl, ok, fun H2 s2 => ?_⟩
            have f2 := s2 _ _ (s1 _ _ hf)
            refine ⟨a, v0, rfl, ?_, by omega, GoodV.mono (stay_of (s1.trans s2)) _ _ (gd _ (List.mem_of_getElem? hx)), fun H3 s3 => ⟨trivial, s2.trans s3, rfl⟩⟩
            exact .inl ⟨kvs, .inr w0, .inr ⟨od, f2⟩, rfl, hv.symm⟩
          · obtain ⟨bs, rfl, hb⟩ := bls_of q1
            have f1 := s1 _ _ hf
            refine ⟨f1, _, bs, rfl, ?_, ?_⟩
            · exact sqL_of ((upd_ne nDa).trans e1)
            · rw [hb]
              refine q _ (s0.trans ?_)
              intro b o hb'
              by_cases z : b = a
              · subst z
                rw [upd_same, ← h0]
                exact hb'
              · rw [upd_ne z]
                refine s1 b o ?_
                rw [← hback, upd_ne z] at hb'
                exact hb'
    · exact h.elim
theorem no_level (T : Top K mg) : Ok_has_level P w base T 1 (fun _ _ _ _ => False) := ⟨fun _ _ _ _ h => h.elim, fun _ _ _ _ _ _ _ _ _ _ _ _ _ h => h.elim⟩
theorem ok_level (T : Top K mg) : ∀ n, Ok_has_level P w base T (n + 2) (sp_level n)
  | 0 => step_level T 0 1 (by decide) _ (no_level T) fun m e => by cases e
  | n + 1 => step_level T (n + 1) (n + 2) (by omega) _ (ok_level T n) fun m e => by cases e; rfl
end
end Sk
namespace Sk
open PySem PySem.Spec PyProof.Rows L2
theorem ofS_app (a b : String) : (Str.ofString (a ++ b)).cps.toList = (Str.ofString a).cps.toList ++ (Str.ofString b).cps.toList := by
  rw [Str.ofString_eq_toList, Str.ofString_eq_toList, Str.ofString_eq_toList]
  simp
theorem num_ok (n : Nat) : ∀ c ∈ (Str.ofString (toString ((n : Nat) : Int))).cps.toList, okc c = true := fun c hc => by
  have e : (Str.ofString (toString ((n : Nat) : Int))).cps.toList = TL.numL n := TL.tl_num n
  rw [e] at hc
  have h1 : ¬ (c < 48 ∨ 57 < c) := fun z => TL.numL_free z hc
  have all : ∀ c, c < 58 → 48 ≤ c → okc c = true := by decide +kernel
  exact all c (by omega) (by omega)
theorem int_ok' (i : Int) : ∀ c ∈ (Str.ofString (toString i)).cps.toList, okc c = true := fun c hc => by
  cases i with
  | ofNat m => exact num_ok m c hc
  | negSucc m =>
    have e : toString (Int.negSucc m) = "-" ++ Nat.repr (m + 1) := rfl
    rw [e, ofS_app] at hc
    rcases List.mem_append.mp hc with h | h
    · have : c = 45 := by
        have e : (Str.ofString "-").cps.toList = [45] := by decide +kernel
        rw [e] at h
        simpa using h
      subst this
      decide
    · exact num_ok (m + 1) c h
theorem int_text {i : Int} (h : i.natAbs ≤ 10 ^ 30) : TextOk 2000 (Str.ofString (toString i)) := ⟨Nat.le_trans (int_text_len_1921 (int_log h)) (by decide), int_ok' i⟩
/-! ### signs as codes -/
def codedS : Str := (Str.ofString ("\n !\"#$&'()*+,/:;<=>?@" ++ "[\\]^`{|}~"))
def hx (i : Int) : Nat := (atI (Str.ofString "0123456789abcdef").cps.toList i).getD 0
theorem hx_at {i : Int} (h0 : 0 ≤ i) (h1 : i < 16) : atI (Str.ofString "0123456789abcdef").cps.toList i = some (hx i) := by
  obtain ⟨v, e, _⟩ := atI_in (xs := (Str.ofString "0123456789abcdef").cps.toList) (i := i) h0 (by
    have : (Str.ofString "0123456789abcdef").cps.toList.length = 16 := by decide +kernel
    omega)
  unfold hx
  rw [e]
  rfl
def sgnC (c : Nat) : List Nat := if c ∈ codedS.cps.toList then [126, hx ((c : Int) / 16), hx ((c : Int) % 16)] else [c]
theorem sgn_len (c : Nat) : (sgnC c).length ≤ 3 := by
  unfold sgnC
  split
  · exact Nat.le_refl 3
  · exact Nat.le_succ_of_le (Nat.le_succ 1)
def codE (z : Str) : Str := ⟨(z.cps.toList.flatMap sgnC).toArray⟩
theorem cod_list (z : Str) : (codE z).cps.toList = z.cps.toList.flatMap sgnC := rfl
theorem flat_len : ∀ l : List Nat, (l.flatMap sgnC).length ≤ 3 * l.length
  | [] => Nat.le_refl _
  | c :: r => by
    rw [List.flatMap_cons, List.length_append, List.length_cons]
    have := flat_len r
    have := sgn_len c
    omega
theorem okc_lt {c : Nat} (h : okc c = true) : c < 127 := by
  unfold okc at h
  rw [Bool.or_eq_true] at h
  rcases h with h | h
  · have : c = 10 := by simpa using h
    omega
  · rw [Bool.and_eq_true, Bool.and_eq_true] at h
    have := Nat.le_of_ble_eq_true h.1.2
    omega
def plainS : Str := "abcdefghijklmnopqrstuvwxyzABCDEFGHIJKLMNOPQRSTUVWXYZ0123456789-_."
theorem plain_coded {c : Nat} (h : okc c = true) : decide (c ∈ plainS.cps.toList) = !decide (c ∈ codedS.cps.toList) := by
  have all : ∀ c, c < 127 → okc c = true → decide (c ∈ plainS.cps.toList) = !decide (c ∈ codedS.cps.toList) := by decide +kernel
  exact all c (okc_lt h) h
section
variable {P : Program} {w : World} {K : PySem.W.Frag} {mg : Str → Option Value} {base : Heap}
def sp_value : Sp := fun vs H Q _ => match vs with
  | [v] => GoodV H 6 v ∧ ∀ H', Same H H' → Q (.bl true) H'
  | _ => False
theorem ok_value (T : Top K mg) (k : Nat) : Ok_is_value P w base T (k + 9) sp_value := by
  have G_has_level : Ok_has_level P w base T 8 (sp_level 6) := ok_level T 6
  refine T.F_is_value.ok sc_is_value (fun vs H Q E h => ?_) (fun cdv A outer s H vs Q E hr h => ⟨_, PSs.nox (pss_one (ps_ret (pe_call G_has_level (hr.mono (by omega)) (by rfl) T.g_has_level T.F_has_level.kp (b_has_level T) .nil pass0 (pa_cons (vr 0) (pa_cons (pe_glob (v := .int (6)) (by rfl) T.c_MAX_LEVELS ⟨_, rfl⟩) pa_nil))))), ?_⟩)
  · unfold sp_value at h
    split at h
    · rfl
    · exact h.elim
  · unfold sp_value at h
    split at h
    · rw [st_is_value]
      exact ⟨rfl, h.1, h.2⟩
    · exact h.elim
def sp_sign : Sp := fun vs H Q _ => match vs with
  | [.str z] => ∃ c, z = ⟨#[c]⟩ ∧ okc c = true ∧ ∀ H', Same H H' → Q (.str ⟨(sgnC c).toArray⟩) H'
  | _ => False
theorem ok_sign (T : Top K mg) (k : Nat) : Ok_write_sign P w base T (k + 1) sp_sign := by
  refine T.F_write_sign.ok sc_write_sign (fun vs H Q E h => ?_) (fun cdv A outer s H vs Q E hr h => ⟨_, PSs.nox (pss_cons (sif (tcmp (knotin K) (vr 0) (pe_glob (v := .str ((Str.ofString ("\n !\"#$&'()*+,/:;<=>?@" ++ "[\\]^`{|}~")))) (by rfl) T.c_CODED ⟨_, rfl⟩) (by rfl)) (pss_one (ps_ret (vr 0))) pss_nil)
      (pss_cons (ps_asg (pe_callB call_dm (by rfl) T.n_divmod (by decide +kernel) (pa_cons (pe_callB call_ordU (by rfl) T.n_ord (by decide +kernel) (pa_cons (vr 0) pa_nil)) (pa_cons pe_int pa_nil))) (gtup K 2 rfl (gs_cons (pg_name (i := 1) sc_write_sign.nd rfl (by first | exact .inl rfl | exact .inr rfl)) (gs_cons (pg_name (i := 2) sc_write_sign.nd rfl (by first | exact .inl rfl | exact .inr rfl)) gs_nil))))
      (pss_one (ps_ret (pe_joined (.cons pe_str (.cons (vfmt (pe_ix (kget K) (pe_glob (v := .str ("0123456789abcdef")) (by rfl) T.c_HEX ⟨_, rfl⟩) (vr 1) (fun _ _ => rfl))) (.cons (vfmt (pe_ix (kget K) (pe_glob (v := .str ("0123456789abcdef")) (by rfl) T.c_HEX ⟨_, rfl⟩) (vr 2) (fun _ _ => rfl))) .nil)))))))), ?_⟩)
  · unfold sp_sign at h
    split at h
    · rfl
    · exact h.elim
  · unfold sp_sign at h
    split at h
    · obtain ⟨c, rfl, oc, q⟩ := h
      have lt := okc_lt oc
      rw [st_write_sign]
      refine br2 (fun e => ?_) (fun e => ?_)
      · have e : (!subS ⟨#[c]⟩ codedS) = true := e
        rw [subS_one] at e
        have e : ¬ c ∈ codedS.cps.toList := by simpa using e
        have r : sgnC c = [c] := by unfold sgnC; rw [if_neg e]
        have q := q H (Same.refl H)
        rw [r] at q
        exact q
      · have e : (!subS ⟨#[c]⟩ codedS) = false := e
        rw [subS_one] at e
        have e : c ∈ codedS.cps.toList := by simpa using e
        refine ⟨rfl, ⟨by decide, by decide⟩, fun p np => ⟨p, _, rfl, sqT_of upd_same, rfl, ?_⟩⟩
        have h1 := hx_at (i := (c : Int) / 16) (by omega) (by omega)
        have h2 := hx_at (i := (c : Int) % 16) (by omega) (by omega)
        refine ⟨_, rfl, by decide, by decide, _, h1, by show 1 ≤ sizeLine; decide, _, rfl, by rw [app_len, app_len]; exact Nat.le_of_ble_eq_true rfl, by decide, _, h2, by show 1 ≤ sizeLine; decide, _, rfl, by rw [app_len, app_len, app_len]; exact Nat.le_of_ble_eq_true rfl, ?_⟩
        have r : sgnC c = [126, hx ((c : Int) / 16), hx ((c : Int) % 16)] := by unfold sgnC; rw [if_pos e]
        rw [r] at q
        exact q _ (same_new np)
    · exact h.elim
theorem join_map {zs : List Str} {l : List Nat} (hl : zs.length = l.length) (h : ∀ (i : Nat) c z, l[i]? = some c → zs[i]? = some z → z = ⟨(sgnC c).toArray⟩) : (zs.map fun z => z.cps.toList).flatten = l.flatMap sgnC := by
  induction l generalizing zs with
  | nil =>
    cases zs with
    | nil => rfl
    | cons z r => cases hl
  | cons c l ih =>
    cases zs with
    | nil => cases hl
    | cons z r =>
      have e := h 0 c z rfl rfl
      rw [List.map_cons, List.flatten_cons, List.flatMap_cons, ih (by simpa using hl) fun i c z h1 h2 => h (i + 1) c z (by simpa using h1) (by simpa using h2), e]
def sp_code : Sp := fun vs H Q _ => match vs with
  | [.str z] => TextOk 2000 z ∧ ∀ H', Same H H' → Q (.str (codE z)) H'
  | _ => False
theorem ok_code (T : Top K mg) (k : Nat) : Ok_write_code P w base T (k + 2) sp_code := by
  have G_write_sign : Ok_write_sign P w base T 1 sp_sign := ok_sign T 0
  refine T.F_write_code.ok sc_write_code (fun vs H Q E h => ?_) (fun cdv A outer s H vs Q E hr h => ⟨_, PSs.nox (pss_one (ps_ret (kjoin K pe_str (pe_lc (own := [("sign", 1)])  rfl sc_write_code.nd (pi_str (vr 0)) (blkOk_by (own := [("sign", 1)]) (N := ["text", "sign"]) (sc := defScope s_write_code) (by decide +kernel)) (fun _ _ _ _ _ => (pg_name (i := 1) sc_write_code.nd rfl (by first | exact .inl rfl | exact .inr rfl))) (fun _ _ _ _ _ => pts_nil) (fun _ _ _ _ _ => up (pe_call G_write_sign (hr.mono (by omega)) (by rfl) T.g_write_sign T.F_write_sign.kp (b_write_sign T) .nil pass0 (pa_cons (vr 1) pa_nil))))))), ?_⟩)
  · unfold sp_code at h
    split at h
    · rfl
    · exact h.elim
  · unfold sp_code at h
    split at h
    · obtain ⟨⟨h1, h2⟩, q⟩ := h
      rename_i z
      have hz : z.cps.size ≤ 2000 := h1
      rw [st_write_code]
      refine ⟨z, rfl, fun D nD => ?_⟩
      refine lcw walk_str fr_same (fun i v _ => ∃ c, z.cps.toList[i]? = some c ∧ v = .str ⟨(sgnC c).toArray⟩) trivial nD (by omega) gm_name (fun _ _ _ => trivial) (fun _ _ _ _ h _ => h) (fun i x H1 H1' hi _ s1 hy => ?_) (fun H1 ys _ s1 l1 e1 q1 => ?_)
      · obtain ⟨rfl, c, hc, rfl⟩ := hy
        have hc : z.cps.toList[i]? = some c := by rw [Array.getElem?_toList]; exact hc
        refine ⟨rfl, c, rfl, h2 c (List.mem_of_getElem? hc), fun H2 s2 => ⟨trivial, s2, c, hc, rfl⟩⟩
      · obtain ⟨zs, rfl, tz⟩ := strs_ofP (P := fun z' => z'.length ≤ 3) (ys := ys) (fun i y hy => by
          obtain ⟨c, _, e⟩ := q1 i y hy
          exact ⟨_, e, by rw [len_list]; exact sgn_len c⟩)
        rw [List.length_map] at l1
        have hs := sum_le (l := zs) (f := fun z => z.length) (m := 3) tz
        refine ⟨zs, .inl (sqL_of e1), ?_, ?_⟩
        · show _ + zs.length * 0 ≤ 16777216
          omega
        · have e : Txt.join "" zs = codE z := by
            refine str_ext ?_
            rw [join_empty rfl, cod_list]
            refine join_map (by rw [l1, Array.length_toList]) fun i c z' hc hz' => ?_
            obtain ⟨c', hc', e⟩ := q1 i (.str z') (by rw [List.getElem?_map, hz']; rfl)
            rw [hc] at hc'
            cases hc'
            cases e
            rfl
          rw [← e] at q
          exact q _ s1
    · exact h.elim
/-! ### _law_code -/
theorem ok_lawcode (T : Top K mg) (k : Nat) : Ok__law_code P w base T (k + 1) sp_code := by
  refine T.F__law_code.ok sc__law_code (fun vs H Q E h => ?_) (fun cdv A outer s H vs Q E hr h => ⟨_, PSs.nox (pss_cons (ps_set (i := 1) sc__law_code.nd rfl (by first | exact .inl rfl | exact .inr rfl) pe_str)
      (pss_cons (ps_for PassesOwn.never rfl (pi_str (vr 0)) (pg_name (i := 2) sc__law_code.nd rfl (by first | exact .inl rfl | exact .inr rfl)) (pss_cons (ps_set (i := 3) sc__law_code.nd rfl (by first | exact .inl rfl | exact .inr rfl) (pe_cmpR (kin K) (vr 2) pe_str (by rfl)))
      (pss_cons (ps_par (by rfl) sc__law_code.nd (i := 4) (j := 5) rfl rfl (by decide) rfl rfl (pa_cons (pe_op op_modI (pe_callB call_ordU (by rfl) T.n_ord (by decide +kernel) (pa_cons (vr 2) pa_nil)) pe_int) (pa_cons (pe_op op_divI (pe_callB call_ordU (by rfl) T.n_ord (by decide +kernel) (pa_cons (vr 2) pa_nil)) pe_int) pa_nil)) (by rfl))
      (pss_one (ps_set (i := 1) sc__law_code.nd rfl (by first | exact .inl rfl | exact .inr rfl) (pe_op (kplus K) (vr 1) (vif (tst (vr 3)) (vr 2) (pe_op (kplus K) (pe_op (kplus K) pe_str (pe_ix (kget K) pe_str (vr 5) (fun _ _ => rfl))) (pe_ix (kget K) pe_str (vr 4) (fun _ _ => rfl))))))))))
      (pss_one (ps_ret (vr 1))))), ?_⟩)
  · unfold sp_code at h
    split at h
    · rfl
    · exact h.elim
  · unfold sp_code at h
    split at h
    · obtain ⟨⟨h1, h2⟩, q⟩ := h
      rename_i z
      have hz : z.cps.toList.length ≤ 2000 := by rw [Array.length_toList]; exact h1
      rw [st__law_code]
      refine ⟨z, rfl, ?_⟩
      refine for_it walk_str (fun i σ H' => H' = H ∧ ∃ (f : Str) (y2 y3 y4 y5 : Option V), σ = [some (.str z), some (.str f), y2, y3, y4, y5] ∧ f.cps.toList = (z.cps.toList.take i).flatMap sgnC) ⟨rfl, _, _, _, _, _, rfl, rfl⟩ (fun _ _ _ _ _ => trivial) (fun i x σ H1 H1' hi hv hy => ?_) (fun σ H1 hv => ?_)
      · obtain ⟨rfl, f, y2, y3, y4, y5, rfl, ef⟩ := hv
        obtain ⟨rfl, c, hc, rfl⟩ := hy
        have hc : z.cps.toList[i]? = some c := by rw [Array.getElem?_toList]; exact hc
        have oc := h2 c (List.mem_of_getElem? hc)
        have lt := okc_lt oc
        have lf : f.length ≤ 6000 := by
          rw [len_list, ef]
          have := flat_len (z.cps.toList.take i)
          have := List.length_take_le' i z.cps.toList
          omega
        have il : i < z.cps.toList.length := (List.getElem?_eq_some_iff.mp hc).1
        have step : (z.cps.toList.take (i + 1)).flatMap sgnC = (z.cps.toList.take i).flatMap sgnC ++ sgnC c := by
          rw [List.take_succ, hc, List.flatMap_append]
          simp
        refine ⟨rfl, by decide, rfl, ⟨by decide, by decide⟩, _, _, rfl, ?_⟩
        simp only [List.set_cons_succ, List.set_cons_zero]
        have pc := plain_coded oc
        refine br2 (fun e => ?_) (fun e => ?_)
        · have e : subS ⟨#[c]⟩ plainS = true := e
          rw [subS_one, pc] at e
          have e : ¬ c ∈ codedS.cps.toList := by simpa using e
          have r : sgnC c = [c] := by unfold sgnC; rw [if_neg e]
          refine ⟨size_le (by show f.length + 1 ≤ _; omega), rfl, _, _, _, _, _, rfl, ?_⟩
          rw [step, app_list, ef, r]
        · have e : subS ⟨#[c]⟩ plainS = false := e
          rw [subS_one, pc] at e
          have e : c ∈ codedS.cps.toList := by simpa using e
          have r : sgnC c = [126, hx ((c : Int) / 16), hx ((c : Int) % 16)] := by unfold sgnC; rw [if_pos e]
          have a1 := hx_at (i := (c : Int) / 16) (by omega) (by omega)
          have a2 := hx_at (i := (c : Int) % 16) (by omega) (by omega)
          refine ⟨by decide, _, a1, by show 1 + 1 ≤ sizeLine; decide, by decide, _, a2, ?_, ?_⟩
          · rw [app_len]
            show 1 + 1 + 1 ≤ sizeLine
            decide
          · refine ⟨?_, rfl, _, _, _, _, _, rfl, ?_⟩
            · rw [app_len, app_len]
              exact size_le (by show f.length + (1 + 1 + 1) ≤ _; omega)
            · rw [step, app_list, ef, r]
              rfl
      · obtain ⟨rfl, f, y2, y3, y4, y5, rfl, ef⟩ := hv
        have e : f = codE z := by
          refine str_ext ?_
          rw [ef, cod_list, ← Array.length_toList, List.take_length]
        subst e
        exact q _ (Same.refl _)
    · exact h.elim
end
end Sk
namespace Sk
open PySem PySem.Spec PyProof.Rows L2
section
variable {P : Program} {w : World} {K : PySem.W.Frag} {mg : Str → Option Value} {base : Heap}
def sp_lit (n : Nat) : Sp := fun vs H Q _ => match vs with
  | [v] => GoodV H n v ∧ n ≤ 6 ∧ ∀ H', Same H H' → Q (.str (litH H n v)) H'
  | _ => False
theorem good_cases {H : Hp} {n : Nat} {v : V} (g : GoodV H n v) : FlatOk v ∨ ∃ m, n = m + 1 ∧ ((∃ a vs, v = .ref a ∧ H a = some (.tup vs) ∧ vs.length ≤ 3 ∧ ∀ x ∈ vs, GoodV H m x) ∨ (∃ a kvs, v = .ref a ∧ H a = some (.dK kvs) ∧ DictOk kvs ∧ ∀ p ∈ kvs, GoodV H m p.2)) := by
  cases n with
  | zero => exact .inl g
  | succ m =>
    rcases g with g | g | g
    · exact .inl g
    · exact .inr ⟨m, rfl, .inl g⟩
    · exact .inr ⟨m, rfl, .inr g⟩
theorem flat_cases {v : V} (f : FlatOk v) : v = .non ∨ (∃ b, v = .bl b) ∨ (∃ i, v = .int i ∧ i.natAbs ≤ 10 ^ 30) ∨ ∃ z, v = .str z ∧ TextOk 24 z := by
  cases v with
  | non => exact .inl rfl
  | bl b => exact .inr (.inl ⟨b, rfl⟩)
  | int i => exact .inr (.inr (.inl ⟨i, rfl, f⟩))
  | str z => exact .inr (.inr (.inr ⟨z, rfl, f⟩))
  | _ => exact f.elim
theorem names_ok {kvs : List (Key × V)} (dk : DictOk kvs) {w : Str} (h : w ∈ sortN (nms kvs)) : NameOk w := by
  obtain ⟨p, hp, e⟩ := val_in (mem_sort.mp h)
  obtain ⟨w', e', ok⟩ := dk.2.2 p hp
  rw [e] at e'
  cases e'
  exact ok
/-- the bound of a join of parts -/
theorem join_room {zs : List Str} {m : Nat} (hl : zs.length ≤ 3) (hm : m ≤ 3000000) (h : ∀ z ∈ zs, z.length ≤ m) : (zs.map (·.length)).sum + zs.length * 1 ≤ 16777216 ∧ (Txt.join "," zs).length ≤ 9000003 := by
  have a1 := sum_le (l := zs) (f := fun z => z.length) (m := m) h
  have a2 : zs.length * m ≤ 3 * m := Nat.mul_le_mul_right _ hl
  have a3 := join_le "," zs
  have e1 : ("," : Str).length = 1 := rfl
  rw [e1] at a3
  constructor <;> omega
abbrev OkT_wl (P : Program) (w : World) (base : Heap) (T : Top K mg) (k : Nat) (sp : Sp) : Prop := FnT P w K mg base k (He.ga K "write_literal") T.fd_write_literal ["value"] sp
theorem step_wl (T : Top K mg) (n k : Nat) (spI : Sp) (G_write_literal : OkT_wl P w base T k spI) (hI : ∀ m, n = m + 1 → spI = sp_lit m) : OkT_wl P w base T (k + 1) (sp_lit n) := by
  refine fnT_of T.F_write_literal sc_write_literal (fun vs H Q E h => ?_) (fun cdv A outer s H vs Q E hr h => ⟨_, (psst_cons (PST.of (sif (PW.pt (wor (tcmp op_isNo (vr 0) pe_non (nomark _)) (pw_or1 (tst (pe_callB (kis K) (by rfl) T.n_isinstance (by decide +kernel) (pa_cons (vr 0) (pa_cons (pe_bltn (v := .ty "bool") (by rfl) T.n_bool (by decide +kernel) rfl) pa_nil))))))) (pss_one (ps_ret (pe_nb (vr 0) (fun _ _ => rfl)))) pss_nil))
      (psst_cons (pstif (tst (pe_callB (kis K) (by rfl) T.n_isinstance (by decide +kernel) (pa_cons (vr 0) (pa_cons (pe_bltn (v := .ty "str") (by rfl) T.n_str (by decide +kernel) rfl) pa_nil)))) (psst_cons (pstset (i := 1) sc_write_literal.nd rfl (by first | exact .inl rfl | exact .inr rfl) (CwR.pet_replT (CwR.pet_replT (CwR.pet_replT (CwR.pet_replC (vr 0))))))
      (PSsT.of (pss_one (ps_ret (pe_joined (.cons pe_str (.cons (vfmt (vr 1)) (.cons pe_str .nil)))))))) CwR.psst_nil)
      (psst_cons (pstif (tst (pe_callB (kis K) (by rfl) T.n_isinstance (by decide +kernel) (pa_cons (vr 0) (pa_cons (pe_bltn (v := .ty "tuple") (by rfl) T.n_tuple (by decide +kernel) rfl) pa_nil)))) (CwR.psst_one (CwR.pst_ret (petjoined (.cons (CwR.PET.of pe_str) (.cons (petfmt (petjoin K pe_str (petlc (own := [("part", 4)]) rfl sc_write_literal.nd (itup K (vr 0)) (blkOk_by (own := [("part", 4)]) (N := ["value", "inner", "rows", "name", "part"]) (sc := defScope s_write_literal) (by decide +kernel)) (fun _ _ _ _ _ => (pg_name (i := 4) sc_write_literal.nd rfl (by first | exact .inl rfl | exact .inr rfl))) (fun _ _ _ _ _ => upT' (petcall G_write_literal (hr.mono (by omega)) (by rfl) T.g_write_literal T.F_write_literal.kp (b_write_literal T) (pa_cons (vr 4) pa_nil)))))) (.cons (CwR.PET.of pe_str) .nil)))))) CwR.psst_nil)
      (psst_cons (pstif (tst (pe_callB (kis K) (by rfl) T.n_isinstance (by decide +kernel) (pa_cons (vr 0) (pa_cons (pe_bltn (v := .ty "dict") (by rfl) T.n_dict (by decide +kernel) rfl) pa_nil)))) (psst_cons (pstsetLc (i := 2) (own := [("name", 3)]) rfl sc_write_literal.nd rfl rfl (sw_true rfl rfl rfl (by decide +kernel)) (ilist K (pe_callB (ksorted K) (by rfl) T.n_sorted (by decide +kernel) (pa_cons (pe_lock (pe_lc (own := [("name", 3)])  rfl sc_write_literal.nd (pi_keys (vr 0)) (blkOk_by (own := [("name", 3)]) (N := ["value", "inner", "rows", "name", "part"]) (sc := defScope s_write_literal) (by decide +kernel)) (fun _ _ _ _ _ => (pg_name (i := 3) sc_write_literal.nd rfl (by first | exact .inl rfl | exact .inr rfl))) (fun _ _ _ _ _ => pts_nil) (fun _ _ _ _ _ => up (vr 3)))) pa_nil))) (blkOk_by (own := [("name", 3)]) (N := ["value", "inner", "rows", "name", "part"]) (sc := defScope s_write_literal) (by decide +kernel)) (fun _ _ _ _ _ => (pg_name (i := 3) sc_write_literal.nd rfl (by first | exact .inl rfl | exact .inr rfl))) (fun _ _ _ _ _ => upT' (petjoined (.cons (CwR.PET.of pe_str) (.cons (petfmt (CwR.PET.of (vr 3))) (.cons (CwR.PET.of pe_str) (.cons (petfmt (petcall G_write_literal (hr.mono (by omega)) (by rfl) T.g_write_literal T.F_write_literal.kp (b_write_literal T) (pa_cons (pe_dget (hu_of hr) (vr 0) (vr 3) (fun _ _ => rfl)) pa_nil))) .nil)))))))
      (PSsT.of (pss_one (ps_ret (pe_op (kplus K) (pe_op (kplus K) pe_str (kjoin K pe_str (vr 2))) pe_str))))) CwR.psst_nil)
      (PSsT.of (pss_one (ps_ret (pe_callTy call_strU (by rfl) T.n_str (by decide +kernel) (pa_cons (vr 0) pa_nil))))))))), ?_⟩)
  · unfold sp_lit at h
    split at h
    · rfl
    · exact h.elim
  · unfold sp_lit at h
    split at h
    · obtain ⟨g, n6, q⟩ := h
      rename_i v
      rw [st_write_literal]
      have room : ∀ m, n = m + 1 → litS m ≤ 3000000 := fun m e => Nat.le_trans (litS6 (by omega)) (by decide)
      rcases good_cases g with f | ⟨m, rfl, ⟨a, vs, rfl, h1, h2, h3⟩ | ⟨a, kvs, rfl, h1, h2, h3⟩⟩
      · rw [lit_flat f] at q
        rcases flat_cases f with rfl | ⟨b, rfl⟩ | ⟨i, rfl, hi⟩ | ⟨z, rfl, hz⟩
        · exact fun p o np => ⟨upd_same, q _ (same_new np)⟩
        · refine ⟨_, _, .base (.bl _), rfl, fun p o np => ⟨upd_same, q _ (same_new np)⟩⟩
        · refine ⟨_, _, .base (.int _), rfl, _, _, .base (.int _), rfl, _, _, .base (.int _), rfl, _, _, .base (.int _), rfl, int_log hi, q _ (Same.refl H)⟩
        · have l0 := hz.1
          have l1 := rep_le (a := "\\") (b := "\\\\") (k := 2) l0 (by decide)
          have l2 := rep_le (a := "\"") (b := "\\\"") (k := 2) l1 (by decide)
          have l3 := rep_le (a := "\n") (b := "\\n") (k := 2) l2 (by decide)
          have l4 := rep4_len l0
          refine ⟨_, _, .base (.str _), rfl, _, _, .base (.str _), rfl, _, rfl, ?_, _, rfl, ?_, _, rfl, ?_, _, rfl, ?_, ?_⟩
          · show _ + (_ + 1) * 2 ≤ _
            omega
          · show _ + (_ + 1) * 2 ≤ _
            omega
          · show _ + (_ + 1) * 2 ≤ _
            omega
          · show _ + (_ + 1) * 2 ≤ _
            omega
          · refine ⟨_, rfl, by decide, size_le (by show (rep4 z).length ≤ _; omega), _, rfl, ?_, _, rfl, ?_, ?_⟩
            · rw [app_len, app_len]
              exact size_le (by show 0 + 1 + (rep4 z).length ≤ _; omega)
            · rw [app_len, app_len, app_len]
              exact size_le (by show 0 + 1 + (rep4 z).length + 1 ≤ _; omega)
            · rw [emp_app]
              exact q _ (Same.refl H)
      · have hI := hI m rfl
        subst hI
        have rm := room m rfl
        rw [lit_tup h1] at q
        refine ⟨_, _, .base (.tup h1), rfl, _, _, .base (.tup h1), rfl, _, _, .base (.tup h1), rfl, _, rfl, by decide, a, rfl, ⟨_, sqT_of h1⟩, fun D nD => ?_⟩
        refine lct (xs := vs) fr_same (fun i v _ => ∃ x, vs[i]? = some x ∧ v = .str (litH H m x)) trivial nD (by omega) (fun H1 _ s1 => sqT_of (s1 _ _ h1)) (fun _ _ _ _ h _ => h) (fun _ => rfl) (fun i x H1 hx _ s1 => ?_) (fun H1 ys _ s1 l1 e1 q1 => ?_)
        · have gx := h3 x (List.mem_of_getElem? hx)
          refine ⟨GoodV.mono (stay_of s1) _ _ gx, by omega, fun H2 s2 => ⟨trivial, s2, x, hx, ?_⟩⟩
          rw [lit_stay (stay_of s1) _ _ gx]
        · have e := map_of (f := fun x => V.str (litH H m x)) l1 q1
          have e : ys = (vs.map (litH H m)).map V.str := by rw [e, List.map_map]; rfl
          subst e
          obtain ⟨b1, b2⟩ := join_room (zs := vs.map (litH H m)) (m := litS m) (by rw [List.length_map]; exact h2) rm (fun z hz => by
            obtain ⟨x, hx, rfl⟩ := List.mem_map.mp hz
            exact lit_len m x (h3 x hx))
          refine ⟨_, .inl (sqL_of e1), b1, Nat.le_trans b2 (by decide), _, rfl, ?_, _, rfl, ?_, ?_⟩
          · rw [app_len, app_len]
            exact Nat.le_trans (by show 0 + 1 + _ ≤ 9000004; omega) (show 9000004 ≤ sizeLine by decide)
          · rw [app_len, app_len, app_len]
            exact Nat.le_trans (by show 0 + 1 + _ + 1 ≤ 9000005; omega) (show 9000005 ≤ sizeLine by decide)
          · rw [emp_app]
            exact q _ s1
      · have hI := hI m rfl
        subst hI
        have rm := room m rfl
        rw [lit_dict h1] at q
        have nl := nms_len h2.2.2
        have sl : (sortN (nms kvs)).length = kvs.length := (sort_perm _).length_eq.trans nl
        have l3 := h2.1
        refine ⟨_, _, .base (.dK h1), rfl, _, _, .base (.dK h1), rfl, _, _, .base (.dK h1), rfl, _, _, .base (.dK h1), rfl, ?_⟩
        refine sort_keys h1 h2 (fun _ _ h => h) (fun _ _ _ h => h) (fun _ => rfl) (fun p H1 s1 e1 => ?_)
        refine ⟨p, rfl, ⟨_, sqL_of e1⟩, fun D nD => ?_⟩
        refine lcl (xs := (sortN (nms kvs)).map V.str) fr_same (fun i v _ => ∃ w0, (sortN (nms kvs))[i]? = some w0 ∧ v = .str (rowL w0 (litH H m ((valV kvs (.inr w0)).getD .non)))) trivial nD (by rw [List.length_map]; omega) (fun H2 _ s2 => sqL_of (s2 _ _ e1)) (fun _ _ _ _ h _ => h) (fun _ => rfl) (fun i x H2 hx _ s2 => ?_) (fun H2 ys _ s2 l2 e2 q2 => ?_)
        · rw [List.getElem?_map] at hx
          obtain ⟨w0, hw0, rfl⟩ := Option.map_eq_some_iff.mp hx
          have hm := List.mem_of_getElem? hw0
          have nok := names_ok h2 hm
          obtain ⟨v0, ev, p0, hp0, e0⟩ := val_some (mem_sort.mp hm)
          have g0 : GoodV H m v0 := by rw [← e0]; exact h3 p0 hp0
          have st : Stay H H2 := stay_of (s1.trans s2)
          have ll := lit_len m v0 g0
          have w12 := nok.2.1
          refine ⟨_, rfl, by decide, size_le (by omega), _, rfl, ?_, _, rfl, ?_, a, v0, rfl, ?_, GoodV.mono st _ _ g0, by omega, fun H3 s3 => ?_⟩
          · rw [app_len, app_len]
            exact size_le (by show 0 + 1 + w0.length ≤ _; omega)
          · rw [app_len, app_len, app_len]
            exact size_le (by show 0 + 1 + w0.length + 2 ≤ _; omega)
          · exact .inl ⟨kvs, .inr w0, .inl (s2 _ _ (s1 _ _ h1)), rfl, ev.symm⟩
          · rw [lit_stay st _ _ g0]
            refine ⟨Nat.le_trans ll (Nat.le_trans rm (by decide)), _, rfl, ?_, trivial, s3, w0, hw0, ?_⟩
            · rw [app_len, app_len, app_len, app_len]
              exact Nat.le_trans (by show 0 + 1 + w0.length + 2 + _ ≤ 3000015; omega) (show 3000015 ≤ sizeLine by decide)
            · rw [ev, emp_app]
              rfl
        · rw [List.length_map] at l2
          have e := map_of (f := fun w0 => V.str (rowL w0 (litH H m ((valV kvs (.inr w0)).getD .non)))) l2 q2
          have e : ys = ((sortN (nms kvs)).map fun w0 => rowL w0 (litH H m ((valV kvs (.inr w0)).getD .non))).map V.str := by rw [e, List.map_map]; rfl
          subst e
          obtain ⟨b1, b2⟩ := join_room (zs := (sortN (nms kvs)).map fun w0 => rowL w0 (litH H m ((valV kvs (.inr w0)).getD .non))) (m := litS m + 15) (by rw [List.length_map]; omega) (by
              have := litS6 (n := m) (by omega)
              omega) (fun z hz => by
            obtain ⟨w0, hw0, rfl⟩ := List.mem_map.mp hz
            exact row_len (names_ok h2 hw0).2.1 (val_get (P := fun v => (litH H m v).length ≤ litS m) hw0 fun p hp => lit_len m p.2 (h3 p hp)))
          refine ⟨_, .inl (sqL_of e2), b1, ?_, ?_, ?_⟩
          · exact Nat.le_trans (by show 1 + _ ≤ 9000004; omega) (show 9000004 ≤ sizeLine by decide)
          · rw [app_len]
            exact Nat.le_trans (by show 1 + _ + 1 ≤ 9000005; omega) (show 9000005 ≤ sizeLine by decide)
          · exact q _ (s1.trans s2)
    · exact h.elim
theorem no_wl (T : Top K mg) : OkT_wl P w base T 1 (fun _ _ _ _ => False) := ⟨fun _ _ _ _ h => h.elim, fun _ _ _ _ _ _ _ _ _ _ _ _ _ _ h => h.elim⟩
theorem ok_wl (T : Top K mg) : ∀ n, OkT_wl P w base T (n + 2) (sp_lit n)
  | 0 => step_wl T 0 1 _ (no_wl T) fun m e => by cases e
  | n + 1 => step_wl T (n + 1) (n + 2) _ (ok_wl T n) fun m e => by cases e; rfl
end
end Sk
namespace Sk
open PySem PySem.Spec PyProof.Rows L2
section
variable {P : Program} {w : World} {K : PySem.W.Frag} {mg : Str → Option Value} {base : Heap}
abbrev OkT_ll (P : Program) (w : World) (base : Heap) (T : Top K mg) (k : Nat) (sp : Sp) : Prop := FnT P w K mg base k (He.ga K "_law_literal") T.fd__law_literal ["_law_thing_here"] sp
theorem step_ll (T : Top K mg) (n k : Nat) (spI : Sp) (G__law_literal : OkT_ll P w base T k spI) (hI : ∀ m, n = m + 1 → spI = sp_lit m) : OkT_ll P w base T (k + 1) (sp_lit n) := by
  refine fnT_of T.F__law_literal sc__law_literal (fun vs H Q E h => ?_) (fun cdv A outer s H vs Q E hr h => ⟨_, (psst_cons (PST.of (sif (PW.pt (wor (tcmp op_isNo (vr 0) pe_non (nomark _)) (pw_or1 (tst (pe_callB (kis K) (by rfl) T.n_isinstance (by decide +kernel) (pa_cons (vr 0) (pa_cons (pe_bltn (v := .ty "bool") (by rfl) T.n_bool (by decide +kernel) rfl) pa_nil))))))) (pss_one (ps_ret (vif (tcmp op_isNo (vr 0) pe_non (nomark _)) pe_str (pe_ix (kget K) (pe_lst (pa_cons pe_str (pa_cons pe_str pa_nil))) (pe_callTy call_intT (by rfl) T.n_int (by decide +kernel) (pa_cons (vr 0) pa_nil)) (fun _ _ => rfl))))) pss_nil))
      (psst_cons (pstif (tst (pe_callB (kis K) (by rfl) T.n_isinstance (by decide +kernel) (pa_cons (vr 0) (pa_cons (pe_bltn (v := .ty "str") (by rfl) T.n_str (by decide +kernel) rfl) pa_nil)))) (psst_cons (pstset (i := 1) sc__law_literal.nd rfl (by first | exact .inl rfl | exact .inr rfl) (CwR.pet_replT (CwR.pet_replT (CwR.pet_replT (CwR.pet_replC (vr 0))))))
      (PSsT.of (pss_one (ps_ret (pe_op (kplus K) (pe_op (kplus K) pe_str (vr 1)) pe_str))))) CwR.psst_nil)
      (psst_cons (pstif (tst (pe_callB (kis K) (by rfl) T.n_isinstance (by decide +kernel) (pa_cons (vr 0) (pa_cons (pe_bltn (v := .ty "tuple") (by rfl) T.n_tuple (by decide +kernel) rfl) pa_nil)))) (CwR.psst_one (CwR.pst_ret (CwR.pet_op (kplus K) (CwR.pet_op (kplus K) (CwR.PET.of pe_str) (petjoin K pe_str (petlc (own := [("_law_each", 5)]) rfl sc__law_literal.nd (itup K (vr 0)) (blkOk_by (own := [("_law_each", 5)]) (N := ["_law_thing_here", "_law_chars_here", "_law_names", "_law_rows", "_law_word", "_law_each"]) (sc := defScope s__law_literal) (by decide +kernel)) (fun _ _ _ _ _ => (pg_name (i := 5) sc__law_literal.nd rfl (by first | exact .inl rfl | exact .inr rfl))) (fun _ _ _ _ _ => upT' (petcall G__law_literal (hr.mono (by omega)) (by rfl) T.g__law_literal T.F__law_literal.kp (b__law_literal T) (pa_cons (vr 5) pa_nil)))))) (CwR.PET.of pe_str)))) CwR.psst_nil)
      (psst_cons (pstif (tst (pe_callB (kis K) (by rfl) T.n_isinstance (by decide +kernel) (pa_cons (vr 0) (pa_cons (pe_bltn (v := .ty "dict") (by rfl) T.n_dict (by decide +kernel) rfl) pa_nil)))) (psst_cons (PST.of (ps_set (i := 2) sc__law_literal.nd rfl (by first | exact .inl rfl | exact .inr rfl) (pe_callB (ksorted K) (by rfl) T.n_sorted (by decide +kernel) (pa_cons (pe_lock (pe_lc (own := [("_law_word", 4)])  rfl sc__law_literal.nd (pi_keys (vr 0)) (blkOk_by (own := [("_law_word", 4)]) (N := ["_law_thing_here", "_law_chars_here", "_law_names", "_law_rows", "_law_word", "_law_each"]) (sc := defScope s__law_literal) (by decide +kernel)) (fun _ _ _ _ _ => (pg_name (i := 4) sc__law_literal.nd rfl (by first | exact .inl rfl | exact .inr rfl))) (fun _ _ _ _ _ => pts_nil) (fun _ _ _ _ _ => up (vr 4)))) pa_nil))))
      (psst_cons (pstsetLc (i := 3) (own := [("_law_word", 4)]) rfl sc__law_literal.nd rfl rfl (sw_true rfl rfl rfl (by decide +kernel)) (ilist K (vr 2)) (blkOk_by (own := [("_law_word", 4)]) (N := ["_law_thing_here", "_law_chars_here", "_law_names", "_law_rows", "_law_word", "_law_each"]) (sc := defScope s__law_literal) (by decide +kernel)) (fun _ _ _ _ _ => (pg_name (i := 4) sc__law_literal.nd rfl (by first | exact .inl rfl | exact .inr rfl))) (fun _ _ _ _ _ => upT' (CwR.pet_op (kplus K) (CwR.PET.of (pe_op (kplus K) (pe_op (kplus K) pe_str (vr 4)) pe_str)) (petcall G__law_literal (hr.mono (by omega)) (by rfl) T.g__law_literal T.F__law_literal.kp (b__law_literal T) (pa_cons (pe_dget (hu_of hr) (vr 0) (vr 4) (fun _ _ => rfl)) pa_nil)))))
      (PSsT.of (pss_one (ps_ret (pe_op (kplus K) (pe_op (kplus K) pe_str (kjoin K pe_str (vr 3))) pe_str)))))) CwR.psst_nil)
      (PSsT.of (pss_one (ps_ret (pe_callTy call_strU (by rfl) T.n_str (by decide +kernel) (pa_cons (vr 0) pa_nil))))))))), ?_⟩)
  · unfold sp_lit at h
    split at h
    · rfl
    · exact h.elim
  · unfold sp_lit at h
    split at h
    · obtain ⟨g, n6, q⟩ := h
      rename_i v
      rw [st__law_literal]
      have room : ∀ m, n = m + 1 → litS m ≤ 3000000 := fun m e => Nat.le_trans (litS6 (by omega)) (by decide)
      rcases good_cases g with f | ⟨m, rfl, ⟨a, vs, rfl, h1, h2, h3⟩ | ⟨a, kvs, rfl, h1, h2, h3⟩⟩
      · rw [lit_flat f] at q
        rcases flat_cases f with rfl | ⟨b, rfl⟩ | ⟨i, rfl, hi⟩ | ⟨z, rfl, hz⟩
        · exact q _ (Same.refl H)
        · refine ⟨_, _, .base (.bl _), rfl, Nat.le_of_ble_eq_true rfl, fun p np => ?_⟩
          cases b
          · exact ⟨_, _, .inl (sqL_of upd_same), rfl, q _ (same_new np)⟩
          · exact ⟨_, _, .inl (sqL_of upd_same), rfl, q _ (same_new np)⟩
        · refine ⟨_, _, .base (.int _), rfl, _, _, .base (.int _), rfl, _, _, .base (.int _), rfl, _, _, .base (.int _), rfl, int_log hi, q _ (Same.refl H)⟩
        · have l0 := hz.1
          have l1 := rep_le (a := "\\") (b := "\\\\") (k := 2) l0 (by decide)
          have l2 := rep_le (a := "\"") (b := "\\\"") (k := 2) l1 (by decide)
          have l3 := rep_le (a := "\n") (b := "\\n") (k := 2) l2 (by decide)
          have l4 := rep4_len l0
          refine ⟨_, _, .base (.str _), rfl, _, _, .base (.str _), rfl, _, rfl, ?_, _, rfl, ?_, _, rfl, ?_, _, rfl, ?_, ?_⟩
          · show _ + (_ + 1) * 2 ≤ _
            omega
          · show _ + (_ + 1) * 2 ≤ _
            omega
          · show _ + (_ + 1) * 2 ≤ _
            omega
          · show _ + (_ + 1) * 2 ≤ _
            omega
          · refine ⟨size_le (by show 1 + (rep4 z).length ≤ _; omega), ?_, ?_⟩
            · rw [app_len]
              exact size_le (by show 1 + (rep4 z).length + 1 ≤ _; omega)
            · exact q _ (Same.refl H)
      · have hI := hI m rfl
        subst hI
        have rm := room m rfl
        rw [lit_tup h1] at q
        refine ⟨_, _, .base (.tup h1), rfl, _, _, .base (.tup h1), rfl, _, _, .base (.tup h1), rfl, a, rfl, ⟨_, sqT_of h1⟩, fun D nD => ?_⟩
        refine lct (xs := vs) fr_same (fun i v _ => ∃ x, vs[i]? = some x ∧ v = .str (litH H m x)) trivial nD (by omega) (fun H1 _ s1 => sqT_of (s1 _ _ h1)) (fun _ _ _ _ h _ => h) (fun _ => rfl) (fun i x H1 hx _ s1 => ?_) (fun H1 ys _ s1 l1 e1 q1 => ?_)
        · have gx := h3 x (List.mem_of_getElem? hx)
          refine ⟨GoodV.mono (stay_of s1) _ _ gx, by omega, fun H2 s2 => ⟨trivial, s2, x, hx, ?_⟩⟩
          rw [lit_stay (stay_of s1) _ _ gx]
        · have e := map_of (f := fun x => V.str (litH H m x)) l1 q1
          have e : ys = (vs.map (litH H m)).map V.str := by rw [e, List.map_map]; rfl
          subst e
          obtain ⟨b1, b2⟩ := join_room (zs := vs.map (litH H m)) (m := litS m) (by rw [List.length_map]; exact h2) rm (fun z hz => by
            obtain ⟨x, hx, rfl⟩ := List.mem_map.mp hz
            exact lit_len m x (h3 x hx))
          refine ⟨_, .inl (sqL_of e1), b1, ?_, ?_, ?_⟩
          · exact Nat.le_trans (by show 1 + _ ≤ 9000004; omega) (show 9000004 ≤ sizeLine by decide)
          · rw [app_len]
            exact Nat.le_trans (by show 1 + _ + 1 ≤ 9000005; omega) (show 9000005 ≤ sizeLine by decide)
          · exact q _ s1
      · have hI := hI m rfl
        subst hI
        have rm := room m rfl
        rw [lit_dict h1] at q
        have nl := nms_len h2.2.2
        have sl : (sortN (nms kvs)).length = kvs.length := (sort_perm _).length_eq.trans nl
        have l3 := h2.1
        refine ⟨_, _, .base (.dK h1), rfl, _, _, .base (.dK h1), rfl, _, _, .base (.dK h1), rfl, _, _, .base (.dK h1), rfl, ?_⟩
        refine sort_keys h1 h2 (fun _ _ h => h) (fun _ _ _ h => h) (fun _ => rfl) (fun p H1 s1 e1 => ?_)
        refine ⟨p, rfl, ⟨_, sqL_of e1⟩, fun D nD => ?_⟩
        refine lcl (xs := (sortN (nms kvs)).map V.str) fr_same (fun i v _ => ∃ w0, (sortN (nms kvs))[i]? = some w0 ∧ v = .str (rowL w0 (litH H m ((valV kvs (.inr w0)).getD .non)))) trivial nD (by rw [List.length_map]; omega) (fun H2 _ s2 => sqL_of (s2 _ _ e1)) (fun _ _ _ _ h _ => h) (fun _ => rfl) (fun i x H2 hx _ s2 => ?_) (fun H2 ys _ s2 l2 e2 q2 => ?_)
        · rw [List.getElem?_map] at hx
          obtain ⟨w0, hw0, rfl⟩ := Option.map_eq_some_iff.mp hx
          have hm := List.mem_of_getElem? hw0
          have nok := names_ok h2 hm
          obtain ⟨v0, ev, p0, hp0, e0⟩ := val_some (mem_sort.mp hm)
          have g0 : GoodV H m v0 := by rw [← e0]; exact h3 p0 hp0
          have st : Stay H H2 := stay_of (s1.trans s2)
          have ll := lit_len m v0 g0
          have w12 := nok.2.1
          refine ⟨?_, ?_, a, v0, rfl, ?_, GoodV.mono st _ _ g0, by omega, fun H3 s3 => ?_⟩
          · exact size_le (by show 1 + w0.length ≤ _; omega)
          · rw [app_len]
            exact size_le (by show 1 + w0.length + 2 ≤ _; omega)
          · exact .inl ⟨kvs, .inr w0, .inl (s2 _ _ (s1 _ _ h1)), rfl, ev.symm⟩
          · rw [lit_stay st _ _ g0]
            refine ⟨?_, trivial, s3, w0, hw0, ?_⟩
            · rw [app_len, app_len]
              exact Nat.le_trans (by show 1 + w0.length + 2 + _ ≤ 3000015; omega) (show 3000015 ≤ sizeLine by decide)
            · rw [ev]
              rfl
        · rw [List.length_map] at l2
          have e := map_of (f := fun w0 => V.str (rowL w0 (litH H m ((valV kvs (.inr w0)).getD .non)))) l2 q2
          have e : ys = ((sortN (nms kvs)).map fun w0 => rowL w0 (litH H m ((valV kvs (.inr w0)).getD .non))).map V.str := by rw [e, List.map_map]; rfl
          subst e
          obtain ⟨b1, b2⟩ := join_room (zs := (sortN (nms kvs)).map fun w0 => rowL w0 (litH H m ((valV kvs (.inr w0)).getD .non))) (m := litS m + 15) (by rw [List.length_map]; omega) (by
              have := litS6 (n := m) (by omega)
              omega) (fun z hz => by
            obtain ⟨w0, hw0, rfl⟩ := List.mem_map.mp hz
            exact row_len (names_ok h2 hw0).2.1 (val_get (P := fun v => (litH H m v).length ≤ litS m) hw0 fun p hp => lit_len m p.2 (h3 p hp)))
          refine ⟨_, .inl (sqL_of e2), b1, ?_, ?_, ?_⟩
          · exact Nat.le_trans (by show 1 + _ ≤ 9000004; omega) (show 9000004 ≤ sizeLine by decide)
          · rw [app_len]
            exact Nat.le_trans (by show 1 + _ + 1 ≤ 9000005; omega) (show 9000005 ≤ sizeLine by decide)
          · exact q _ (s1.trans s2)
    · exact h.elim
theorem no_ll (T : Top K mg) : OkT_ll P w base T 1 (fun _ _ _ _ => False) := ⟨fun _ _ _ _ h => h.elim, fun _ _ _ _ _ _ _ _ _ _ _ _ _ _ h => h.elim⟩
theorem ok_ll (T : Top K mg) : ∀ n, OkT_ll P w base T (n + 2) (sp_lit n)
  | 0 => step_ll T 0 1 _ (no_ll T) fun m e => by cases e
  | n + 1 => step_ll T (n + 1) (n + 2) _ (ok_ll T n) fun m e => by cases e; rfl
end
end Sk
namespace Sk
open PySem PySem.Spec PyProof.Rows L2
/-! ### what escape is to return -/
def strV : V → Str
  | .str z => z
  | .int i => Str.ofString (toString i)
  | _ => ""
def Flat1 (v : V) : Prop := (∃ z, v = .str z ∧ TextOk 24 z) ∨ ∃ i, v = .int i ∧ i.natAbs ≤ 10 ^ 30
theorem Flat1.ok {v : V} (h : Flat1 v) : TextOk 2000 (strV v) := by
  rcases h with ⟨z, rfl, hz⟩ | ⟨i, rfl, hi⟩
  · exact hz.mono (by decide)
  · exact int_text hi
def EscIs (H : Hp) (c : Str) (v : V) (z : Str) : Prop :=
  (c = "data" ∧ GoodV H 6 v ∧ z = litH H 6 v) ∨ (c = "part" ∧ Flat1 v ∧ z = codE (strV v)) ∨ (c = "query" ∧ Flat1 v ∧ z = codE (strV v)) ∨ (c = "attribute" ∧ Flat1 v ∧ z = attE (strV v)) ∨ (c = "text" ∧ Flat1 v ∧ z = txtE (strV v))
theorem EscIs.same {H H' : Hp} {c : Str} {v : V} {z : Str} (s : Same H H') (h : EscIs H c v z) : EscIs H' c v z := by
  rcases h with ⟨a, b, e⟩ | h
  · exact .inl ⟨a, GoodV.mono (stay_of s) _ _ b, by rw [e, lit_stay (stay_of s) _ _ b]⟩
  · exact .inr h
section
variable {P : Program} {w : World} {K : PySem.W.Frag} {mg : Str → Option Value} {base : Heap}
def sp_esc : Sp := fun vs H Q _ => match vs with
  | [.str c, v] => ∃ z, EscIs H c v z ∧ ∀ H', Same H H' → Q (.str z) H'
  | _ => False
def Ctx5 (c : Str) : Prop := c = "data" ∨ c = "part" ∨ c = "query" ∨ c = "attribute" ∨ c = "text"
theorem EscIs.ctx {H : Hp} {c : Str} {v : V} {z : Str} (h : EscIs H c v z) : Ctx5 c := by
  rcases h with ⟨e, _⟩ | ⟨e, _⟩ | ⟨e, _⟩ | ⟨e, _⟩ | ⟨e, _⟩
  · exact .inl e
  · exact .inr (.inl e)
  · exact .inr (.inr (.inl e))
  · exact .inr (.inr (.inr (.inl e)))
  · exact .inr (.inr (.inr (.inr e)))
theorem ok_escaped (T : Top K mg) (k : Nat) : Ok__law_escaped P w base T (k + 9) sp_esc := by
  have G__law_literal : OkT_ll P w base T 8 (sp_lit 6) := ok_ll T 6
  have G__law_code : Ok__law_code P w base T 1 sp_code := ok_lawcode T 0
  refine fnok_T T.F__law_escaped sc__law_escaped (by decide +kernel) (by decide) (fun vs H Q E h => ?_) (fun cdv A outer s H vs Q E hr h => ⟨_, (psst_cons (pstif (tcmp (ksame K hr.units) (vr 0) pe_str (nomark _)) (CwR.psst_one (CwR.pst_ret (petcall G__law_literal (hr.mono (by omega)) (by rfl) T.g__law_literal T.F__law_literal.kp (b__law_literal T) (pa_cons (vr 1) pa_nil)))) CwR.psst_nil)
      (psst_cons (PST.of (ps_set (i := 2) sc__law_escaped.nd rfl (by first | exact .inl rfl | exact .inr rfl) (pe_callTy call_strU (by rfl) T.n_str (by decide +kernel) (pa_cons (vr 1) pa_nil))))
      (psst_cons (PST.of (sif (tcmp (kin K) (vr 0) (pe_lst (pa_cons pe_str (pa_cons pe_str pa_nil))) (by rfl)) (pss_one (ps_ret (pe_call G__law_code (hr.mono (by omega)) (by rfl) T.g__law_code T.F__law_code.kp (b__law_code T) .nil pass0 (pa_cons (vr 2) pa_nil)))) pss_nil))
      (psst_cons (pstset (i := 2) sc__law_escaped.nd rfl (by first | exact .inl rfl | exact .inr rfl) (CwR.pet_replT (CwR.pet_replC (vr 2))))
      (CwR.psst_one (CwR.pst_ret (petif (tcmp (ksame K hr.units) (vr 0) pe_str (nomark _)) (CwR.pet_replC (vr 2)) (CwR.PET.of (vr 2))))))))), ?_⟩)
  · unfold sp_esc at h
    split at h
    · rfl
    · exact h.elim
  · unfold sp_esc at h
    split at h
    · obtain ⟨z, h, q⟩ := h
      rw [st__law_escaped]
      have len : ∀ {t : Str}, t.length ≤ 2000 → t.length + (t.length + 1) * 5 ≤ 16777216 ∧ (Txt.replace t "&" "&amp;").length + ((Txt.replace t "&" "&amp;").length + 1) * 4 ≤ 16777216 ∧ (txtE t).length + ((txtE t).length + 1) * 6 ≤ 16777216 := fun {t} ht => by
        have l1 := rep_le (a := "&") (b := "&amp;") (k := 5) ht (by decide)
        have l2 := txt_len ht
        refine ⟨?_, ?_, ?_⟩ <;> omega
      rcases h with ⟨rfl, g, rfl⟩ | ⟨rfl, f, rfl⟩ | ⟨rfl, f, rfl⟩ | ⟨rfl, f, rfl⟩ | ⟨rfl, f, rfl⟩
      · exact ⟨g, by decide, q⟩
      · have ok := f.ok
        rcases f with ⟨z, rfl, hz⟩ | ⟨i, rfl, hi⟩
        · refine ⟨Nat.le_of_ble_eq_true rfl, fun p np => ⟨_, .inl (sqL_of upd_same), rfl, rfl, ok, fun H' s => q _ ((same_new np).trans s)⟩⟩
        · refine ⟨int_log hi, Nat.le_of_ble_eq_true rfl, fun p np => ⟨_, .inl (sqL_of upd_same), rfl, rfl, ok, fun H' s => q _ ((same_new np).trans s)⟩⟩
      · have ok := f.ok
        rcases f with ⟨z, rfl, hz⟩ | ⟨i, rfl, hi⟩
        · refine ⟨Nat.le_of_ble_eq_true rfl, fun p np => ⟨_, .inl (sqL_of upd_same), rfl, rfl, ok, fun H' s => q _ ((same_new np).trans s)⟩⟩
        · refine ⟨int_log hi, Nat.le_of_ble_eq_true rfl, fun p np => ⟨_, .inl (sqL_of upd_same), rfl, rfl, ok, fun H' s => q _ ((same_new np).trans s)⟩⟩
      · obtain ⟨l1, l2, l3⟩ := len f.ok.1
        rcases f with ⟨z, rfl, hz⟩ | ⟨i, rfl, hi⟩
        · exact ⟨Nat.le_of_ble_eq_true rfl, fun p np => ⟨_, .inl (sqL_of upd_same), rfl, rfl, _, rfl, l1, _, rfl, l2, _, rfl, l3, q _ (same_new np)⟩⟩
        · exact ⟨int_log hi, Nat.le_of_ble_eq_true rfl, fun p np => ⟨_, .inl (sqL_of upd_same), rfl, rfl, _, rfl, l1, _, rfl, l2, _, rfl, l3, q _ (same_new np)⟩⟩
      · obtain ⟨l1, l2, l3⟩ := len f.ok.1
        rcases f with ⟨z, rfl, hz⟩ | ⟨i, rfl, hi⟩
        · exact ⟨Nat.le_of_ble_eq_true rfl, fun p np => ⟨_, .inl (sqL_of upd_same), rfl, rfl, _, rfl, l1, _, rfl, l2, q _ (same_new np)⟩⟩
        · exact ⟨int_log hi, Nat.le_of_ble_eq_true rfl, fun p np => ⟨_, .inl (sqL_of upd_same), rfl, rfl, _, rfl, l1, _, rfl, l2, q _ (same_new np)⟩⟩
    · exact h.elim
end
end Sk
namespace Sk
open PySem PySem.Spec PyProof.Rows L2
section
variable {P : Program} {w : World} {K : PySem.W.Frag} {mg : Str → Option Value} {base : Heap}
def sp_texts : Sp := fun vs H Q _ => match vs with
  | [v] => (∃ zs, TextsV H v zs ∧ zs.length ≤ 1000) ∧ ∀ H', Same H H' → Q (.bl true) H'
  | _ => False
theorem ok_texts (T : Top K mg) (k : Nat) : Ok_are_texts P w base T (k + 1) sp_texts := by
  refine T.F_are_texts.ok sc_are_texts (fun vs H Q E h => ?_) (fun cdv A outer s H vs Q E hr h => ⟨_, PSs.nox (pss_one (ps_ret (vand (pe_callB (kis K) (by rfl) T.n_isinstance (by decide +kernel) (pa_cons (vr 0) (pa_cons (pe_bltn (v := .ty "tuple") (by rfl) T.n_tuple (by decide +kernel) rfl) pa_nil))) (pe_one (pe_callB (kall K rfl) (by rfl) T.n_all (by decide +kernel) (pa_cons (pe_lc (own := [("part", 1)])  rfl sc_are_texts.nd (itup K (vr 0)) (blkOk_by (own := [("part", 1)]) (N := ["thing", "part"]) (sc := defScope s_are_texts) (by decide +kernel)) (fun _ _ _ _ _ => (pg_name (i := 1) sc_are_texts.nd rfl (by first | exact .inl rfl | exact .inr rfl))) (fun _ _ _ _ _ => pts_nil) (fun _ _ _ _ _ => up (pe_callB (kis K) (by rfl) T.n_isinstance (by decide +kernel) (pa_cons (vr 1) (pa_cons (pe_bltn (v := .ty "str") (by rfl) T.n_str (by decide +kernel) rfl) pa_nil))))) pa_nil)))))), ?_⟩)
  · unfold sp_texts at h
    split at h
    · rfl
    · exact h.elim
  · unfold sp_texts at h
    split at h
    · obtain ⟨⟨zs, ⟨a, rfl, ha, hz⟩, hl⟩, q⟩ := h
      rw [st_are_texts]
      refine ⟨_, _, .base (.tup ha), rfl, a, rfl, ⟨_, sqT_of ha⟩, fun D nD => ?_⟩
      refine lct (xs := zs.map V.str) fr_same (fun _ v _ => v = .bl true) trivial nD (by rw [List.length_map]; omega) (fun H1 _ s1 => sqT_of (s1 _ _ ha)) (fun _ _ _ _ h _ => h) (fun _ => rfl) (fun i x H1 hx _ s1 => ?_) (fun H1 ys _ s1 l1 e1 q1 => ?_)
      · rw [List.getElem?_map] at hx
        obtain ⟨z, _, rfl⟩ := Option.map_eq_some_iff.mp hx
        exact ⟨_, _, .base (.str _), rfl, trivial, Same.refl _, rfl⟩
      · obtain ⟨bs, rfl, hb⟩ := bls_of q1
        refine ⟨_, bs, rfl, sqL_of e1, ?_⟩
        rw [hb]
        exact q _ s1
    · exact h.elim
def sp_pair : Sp := fun vs H Q _ => match vs with
  | [v] => (∃ a w0 z, v = .ref a ∧ H a = some (.tup [.str w0, .str z]) ∧ NameOk w0) ∧ ∀ H', Same H H' → Q (.bl true) H'
  | _ => False
theorem ok_pair (T : Top K mg) (k : Nat) : Ok_is_pair P w base T (k + 2) sp_pair := by
  have G_is_name : Ok_is_name P w base T 1 sp_name := ok_name T 0
  refine T.F_is_pair.ok sc_is_pair (fun vs H Q E h => ?_) (fun cdv A outer s H vs Q E hr h => ⟨_, PSs.nox (pss_one (ps_ret (vand (pe_callB (kis K) (by rfl) T.n_isinstance (by decide +kernel) (pa_cons (vr 0) (pa_cons (pe_bltn (v := .ty "tuple") (by rfl) T.n_tuple (by decide +kernel) rfl) pa_nil))) (vand (pe_cmpR (ksame K hr.units) (pe_callB (klen K) (by rfl) T.n_len (by decide +kernel) (pa_cons (vr 0) pa_nil)) pe_int (nomark _)) (vand (pe_call G_is_name (hr.mono (by omega)) (by rfl) T.g_is_name T.F_is_name.kp (b_is_name T) .nil pass0 (pa_cons (pe_ix (kget K) (vr 0) pe_int (fun _ _ => rfl)) pa_nil)) (pe_one (pe_callB (kis K) (by rfl) T.n_isinstance (by decide +kernel) (pa_cons (pe_ix (kget K) (vr 0) pe_int (fun _ _ => rfl)) (pa_cons (pe_bltn (v := .ty "str") (by rfl) T.n_str (by decide +kernel) rfl) pa_nil))))))))), ?_⟩)
  · unfold sp_pair at h
    split at h
    · rfl
    · exact h.elim
  · unfold sp_pair at h
    split at h
    · obtain ⟨⟨a, w0, z, rfl, ha, hw⟩, q⟩ := h
      rw [st_is_pair]
      refine ⟨_, _, .base (.tup ha), rfl, _, .inr (sqT_of ha), ?_⟩
      refine ⟨_, _, .inr (sqT_of ha), rfl, hw, fun H1 s1 => ?_⟩
      exact ⟨_, _, .inr (sqT_of (s1 _ _ ha)), rfl, _, _, .base (.str _), rfl, q _ s1⟩
    · exact h.elim
def AddrV (H : Hp) (v : V) : Prop := ∃ p x y ws ps, v = .ref p ∧ H p = some (.tup [x, y]) ∧ TextsV H x ws ∧ 1 ≤ ws.length ∧ ws.length ≤ 3 ∧ PairsV H y ps ∧ ps.length ≤ 3
def sp_address : Sp := fun vs H Q _ => match vs with
  | [v] => AddrV H v ∧ ∀ H', Same H H' → Q (.bl true) H'
  | _ => False
theorem dp_texts {K : PySem.W.Frag} {H : Hp} : ∀ zs : List Str, DpAll K H (zs.map V.str) (zs.map PyData.str)
  | [] => .nil
  | z :: r => .cons (.str z) (dp_texts r)
theorem shp_texts (zs : List Str) : shp (.tuple (zs.map PyData.str)) = true := by
  have h1 : ∀ zs : List Str, PyData.plainAll (zs.map PyData.str) = true ∧ PyData.depthAll (zs.map PyData.str) = 0 := by
    intro zs
    induction zs with
    | nil => exact ⟨rfl, rfl⟩
    | cons z r ih =>
      refine ⟨?_, ?_⟩
      · show (PyData.plain (.str z) && PyData.plainAll (r.map PyData.str)) = true
        rw [ih.1]
        rfl
      · show max (PyData.depth (.str z)) (PyData.depthAll (r.map PyData.str)) = 0
        rw [ih.2]
        rfl
  unfold shp
  show (PyData.plainAll (zs.map PyData.str) && decide (PyData.depthAll (zs.map PyData.str) + 1 ≤ 64)) = true
  rw [(h1 zs).1, (h1 zs).2]
  rfl
theorem ok_address (T : Top K mg) (k : Nat) : Ok_is_address P w base T (k + 3) sp_address := by
  have G_are_texts : Ok_are_texts P w base T 1 sp_texts := ok_texts T 0
  have G_is_pair : Ok_is_pair P w base T 2 sp_pair := ok_pair T 0
  refine T.F_is_address.ok sc_is_address (fun vs H Q E h => ?_) (fun cdv A outer s H vs Q E hr h => ⟨_, PSs.nox (pss_cons (sif (PW.pt (wor (pt_not (tst (pe_callB (kis K) (by rfl) T.n_isinstance (by decide +kernel) (pa_cons (vr 0) (pa_cons (pe_bltn (v := .ty "tuple") (by rfl) T.n_tuple (by decide +kernel) rfl) pa_nil))))) (wor (tcmp (kother K hr.units) (pe_callB (klen K) (by rfl) T.n_len (by decide +kernel) (pa_cons (vr 0) pa_nil)) pe_int (nomark _)) (wor (pt_not (tst (pe_call G_are_texts (hr.mono (by omega)) (by rfl) T.g_are_texts T.F_are_texts.kp (b_are_texts T) .nil pass0 (pa_cons (pe_ix (kget K) (vr 0) pe_int (fun _ _ => rfl)) pa_nil)))) (pw_or1 (tcmp (ksame K hr.units) (pe_ix (kget K) (vr 0) pe_int (fun _ _ => rfl)) (pe_tup pa_nil) (nomark _))))))) (pss_one (ps_ret pe_bl)) pss_nil)
      (pss_one (ps_ret (vand (pe_callB (kis K) (by rfl) T.n_isinstance (by decide +kernel) (pa_cons (pe_ix (kget K) (vr 0) pe_int (fun _ _ => rfl)) (pa_cons (pe_bltn (v := .ty "tuple") (by rfl) T.n_tuple (by decide +kernel) rfl) pa_nil))) (pe_one (pe_callB (kall K rfl) (by rfl) T.n_all (by decide +kernel) (pa_cons (pe_lc (own := [("pair", 1)])  rfl sc_is_address.nd (itup K (pe_ix (kget K) (vr 0) pe_int (fun _ _ => rfl))) (blkOk_by (own := [("pair", 1)]) (N := ["thing", "pair"]) (sc := defScope s_is_address) (by decide +kernel)) (fun _ _ _ _ _ => (pg_name (i := 1) sc_is_address.nd rfl (by first | exact .inl rfl | exact .inr rfl))) (fun _ _ _ _ _ => pts_nil) (fun _ _ _ _ _ => up (pe_call G_is_pair (hr.mono (by omega)) (by rfl) T.g_is_pair T.F_is_pair.kp (b_is_pair T) .nil pass0 (pa_cons (vr 1) pa_nil)))) pa_nil))))))), ?_⟩)
  · unfold sp_address at h
    split at h
    · rfl
    · exact h.elim
  · unfold sp_address at h
    split at h
    · obtain ⟨⟨p, x, y, ws, ps, rfl, hp, tx, l1, l3, py, lp⟩, q⟩ := h
      obtain ⟨b, rfl, hb, hz⟩ := id tx
      obtain ⟨c, vs, rfl, hc, lv, hv⟩ := py
      rw [st_is_address]
      refine ⟨_, _, .base (.tup hp), rfl, _, .inr (sqT_of hp), ?_⟩
      refine ⟨_, _, .inr (sqT_of hp), rfl, ⟨ws, tx, by omega⟩, fun H1 s1 => ?_⟩
      have hp1 := s1 _ _ hp
      refine ⟨_, _, .inr (sqT_of hp1), rfl, Nat.le_of_ble_eq_true rfl, fun e ne => ?_⟩
      have s2 : Same H1 (upd H1 e (.tup [])) := same_new ne
      refine ⟨.tuple (ws.map PyData.str), .tuple [], .tup (sqT_of (s2 _ _ (s1 _ _ hb))) (dp_texts ws), .tup (sqT_of upd_same) .nil, shp_texts ws, rfl, ?_⟩
      have ev : PyData.eqv (.tuple (ws.map PyData.str)) (.tuple []) = false := by
        cases ws with
        | nil => cases l1
        | cons z r => rfl
      rw [ev]
      have s02 := s1.trans s2
      refine ⟨_, _, .inr (sqT_of (s02 _ _ hp)), rfl, _, _, .base (.tup (s02 _ _ hc)), rfl, _, _, .inr (sqT_of (s02 _ _ hp)), rfl, c, rfl, ⟨_, sqT_of (s02 _ _ hc)⟩, fun D nD => ?_⟩
      refine lct (xs := vs) fr_same (fun _ v _ => v = .bl true) trivial nD (by omega) (fun H3 _ s3 => sqT_of (s3 _ _ (s02 _ _ hc))) (fun _ _ _ _ h _ => h) (fun _ => rfl) (fun i x H3 hx _ s3 => ?_) (fun H3 ys _ s3 l1 e1 q1 => ?_)
      · have hi : i < ps.length := by rw [← lv]; exact (List.getElem?_eq_some_iff.mp hx).1
        obtain ⟨b2, e2, h2, n2, _⟩ := hv i x ps[i] hx (List.getElem?_eq_getElem hi)
        exact ⟨⟨b2, _, _, e2, s3 _ _ (s02 _ _ h2), n2⟩, fun H4 s4 => ⟨trivial, s4, rfl⟩⟩
      · obtain ⟨bs, rfl, hb⟩ := bls_of q1
        refine ⟨_, bs, rfl, sqL_of e1, ?_⟩
        rw [hb]
        exact q _ (s02.trans s3)
    · exact h.elim
def sp_attr : Sp := fun vs H Q _ => match vs with
  | [v] => (∃ t, AttV H v t) ∧ ∀ H', Same H H' → Q (.bl true) H'
  | _ => False
theorem ok_attr (T : Top K mg) (k : Nat) : Ok_is_attribute P w base T (k + 4) sp_attr := by
  have G_is_name : Ok_is_name P w base T 1 sp_name := ok_name T 0
  have G_is_address : Ok_is_address P w base T 3 sp_address := ok_address T 0
  refine T.F_is_attribute.ok sc_is_attribute (fun vs H Q E h => ?_) (fun cdv A outer s H vs Q E hr h => ⟨_, PSs.nox (pss_cons (sif (PW.pt (wor (pt_not (tst (pe_callB (kis K) (by rfl) T.n_isinstance (by decide +kernel) (pa_cons (vr 0) (pa_cons (pe_bltn (v := .ty "tuple") (by rfl) T.n_tuple (by decide +kernel) rfl) pa_nil))))) (wor (tcmp (kother K hr.units) (pe_callB (klen K) (by rfl) T.n_len (by decide +kernel) (pa_cons (vr 0) pa_nil)) pe_int (nomark _)) (pw_or1 (pt_not (tst (pe_call G_is_name (hr.mono (by omega)) (by rfl) T.g_is_name T.F_is_name.kp (b_is_name T) .nil pass0 (pa_cons (pe_ix (kget K) (vr 0) pe_int (fun _ _ => rfl)) pa_nil)))))))) (pss_one (ps_ret pe_bl)) pss_nil)
      (pss_one (ps_ret (vif (tcmp (ksame K hr.units) (pe_ix (kget K) (vr 0) pe_int (fun _ _ => rfl)) (pe_glob (v := .str ("href")) (by rfl) T.c_ADDRESS ⟨_, rfl⟩) (nomark _)) (pe_call G_is_address (hr.mono (by omega)) (by rfl) T.g_is_address T.F_is_address.kp (b_is_address T) .nil pass0 (pa_cons (pe_ix (kget K) (vr 0) pe_int (fun _ _ => rfl)) pa_nil)) (pe_callB (kis K) (by rfl) T.n_isinstance (by decide +kernel) (pa_cons (pe_ix (kget K) (vr 0) pe_int (fun _ _ => rfl)) (pa_cons (pe_bltn (v := .ty "str") (by rfl) T.n_str (by decide +kernel) rfl) pa_nil))))))), ?_⟩)
  · unfold sp_attr at h
    split at h
    · rfl
    · exact h.elim
  · unfold sp_attr at h
    split at h
    · obtain ⟨⟨t, ht⟩, q⟩ := h
      rw [st_is_attribute]
      cases t with
      | plain n z =>
        obtain ⟨a, rfl, ha, hn, ne, hz⟩ := ht
        refine ⟨_, _, .base (.tup ha), rfl, _, .inr (sqT_of ha), ?_⟩
        refine ⟨_, _, .inr (sqT_of ha), rfl, hn, fun H1 s1 => ?_⟩
        refine ⟨_, _, .inr (sqT_of (s1 _ _ ha)), rfl, ?_⟩
        refine br2 (fun e => ?_) (fun e => ?_)
        · have e := of_decide_eq_true e
          cases e
          exact absurd rfl ne
        · exact ⟨_, _, .inr (sqT_of (s1 _ _ ha)), rfl, _, _, .base (.str _), rfl, q _ s1⟩
      | addr ws ps =>
        obtain ⟨a, p, x, y, rfl, ha, hp, h3, h4, h5, h6, h7⟩ := ht
        refine ⟨_, _, .base (.tup ha), rfl, _, .inr (sqT_of ha), ?_⟩
        refine ⟨_, _, .inr (sqT_of ha), rfl, ⟨by decide, by decide, List.all_eq_true.mp (by decide +kernel)⟩, fun H1 s1 => ?_⟩
        refine ⟨_, _, .inr (sqT_of (s1 _ _ ha)), rfl, ?_⟩
        have ad : AddrV H1 (.ref p) := by
          obtain ⟨b, e3, k3, k4⟩ := h3
          obtain ⟨c, vs, e6, k6, k7, k8⟩ := h6
          refine ⟨p, x, y, ws, ps, rfl, s1 _ _ hp, ⟨b, e3, s1 _ _ k3, k4⟩, h4, h5, ⟨c, vs, e6, s1 _ _ k6, k7, fun i x p hx hp => ?_⟩, h7⟩
          obtain ⟨d, e, m1, m2⟩ := k8 i x p hx hp
          exact ⟨d, e, s1 _ _ m1, m2⟩
        exact ⟨_, _, .inr (sqT_of (s1 _ _ ha)), rfl, ad, fun H2 s2 => q _ (s1.trans s2)⟩
    · exact h.elim
end
end Sk
namespace Sk
open PySem PySem.Spec PyProof.Rows L2
theorem walk_zipT {K : PySem.W.Frag} {a b : Addr} {xs ys : List V} {n : Nat} (hn : n = min xs.length ys.length) : Walk (RZ.ItzT K a b) n (fun H => SqT K H a xs ∧ SqT K H b ys) (YPair (fun i => xs[i]?) (fun i => ys[i]?)) := by
  refine ⟨fun i H hi q => ?_, fun H q => ⟨xs, ys, q.1, q.2, by omega⟩, fun i H v H' _ q y => ?_⟩
  · have h1 : i < xs.length := by omega
    have h2 : i < ys.length := by omega
    exact ⟨xs, ys, xs[i], ys[i], q.1, q.2, List.getElem?_eq_getElem h1, List.getElem?_eq_getElem h2⟩
  · obtain ⟨t, x, z, e1, e2, e3, e4, e5⟩ := y
    exact ⟨t, x, z, e1, e2, e3, e4 xs q.1, e5 ys q.2⟩
theorem gm_pair {K : PySem.W.Frag} {i j : Nat} : ∀ x σ H (q q' : L2.St → Hp → Prop), (∀ σ2 H2, q σ2 H2 → q' σ2 H2) → gTup K 2 (uCons (gName i) (uCons (gName j) uNil)) x σ H q → gTup K 2 (uCons (gName i) (uCons (gName j) uNil)) x σ H q' := by
  intro x σ H q q' h z
  obtain ⟨a, xs, e1, e2, e3, t⟩ := z
  refine ⟨a, xs, e1, e2, e3, ?_⟩
  match xs, e3 with
  | [x1, x2], _ => exact h _ _ t
theorem NdsV.length {H : Hp} : ∀ {vs : List V} {ns : List Nd}, NdsV H vs ns → vs.length = ns.length
  | _, _, .nil => rfl
  | _, _, .cons _ h => congrArg (· + 1) h.length
theorem NdsV.at {H : Hp} : ∀ {vs : List V} {ns : List Nd}, NdsV H vs ns → ∀ (i : Nat) x, vs[i]? = some x → ∃ n, ns[i]? = some n ∧ NdV H x n
  | _, _, .nil, i, x, h => by simp at h
  | _, _, .cons h _, 0, x, e => by
    cases e
    exact ⟨_, rfl, h⟩
  | _, _, .cons _ h, i + 1, x, e => by
    obtain ⟨n, e1, e2⟩ := h.at i x (by simpa using e)
    exact ⟨n, by simpa using e1, e2⟩
theorem lev_le : ∀ {ns : List Nd} {i : Nat} {n : Nd}, ns[i]? = some n → n.lev ≤ levs ns
  | [], i, n, h => by simp at h
  | x :: r, 0, n, h => by
    cases h
    exact Nat.le_max_left _ _
  | x :: r, i + 1, n, h => Nat.le_trans (lev_le (ns := r) (by simpa using h)) (Nat.le_max_right _ _)
theorem no_two : ∀ {ns : List Nd}, noTwo ns = true → ∀ (i : Nat) x y, ns[i]? = some x → ns[i + 1]? = some y → (x.isT && y.isT) = false
  | [], _, i, x, y, h, _ => by simp at h
  | [_], _, 0, x, y, _, h => by simp at h
  | [_], _, i + 1, x, y, h, _ => by simp at h
  | a :: b :: r, h, 0, x, y, h1, h2 => by
    cases h1
    have e : b = y := by simpa using h2
    subst e
    have h : (!(a.isT && b.isT) && noTwo (b :: r)) = true := h
    have := (Bool.and_eq_true_iff.mp h).1
    cases q : (a.isT && b.isT) with
    | false => rfl
    | true => rw [q] at this; cases this
  | a :: b :: r, h, i + 1, x, y, h1, h2 => by
    have h : (!(a.isT && b.isT) && noTwo (b :: r)) = true := h
    exact no_two (Bool.and_eq_true_iff.mp h).2 i x y (by simpa using h1) (by simpa using h2)
section
variable {P : Program} {w : World} {K : PySem.W.Frag} {mg : Str → Option Value} {base : Heap}
def sp_tnode : Sp := fun vs H Q _ => match vs with
  | [v] => ∃ nd, NdV H v nd ∧ Q (.bl nd.isT) H
  | _ => False
theorem ok_tnode (T : Top K mg) (k : Nat) : Ok_is_text_node P w base T (k + 1) sp_tnode := by
  refine T.F_is_text_node.ok sc_is_text_node (fun vs H Q E h => ?_) (fun cdv A outer s H vs Q E hr h => ⟨_, PSs.nox (pss_cons (sif (PW.pt (wor (pt_not (tst (pe_callB (kis K) (by rfl) T.n_isinstance (by decide +kernel) (pa_cons (vr 0) (pa_cons (pe_bltn (v := .ty "tuple") (by rfl) T.n_tuple (by decide +kernel) rfl) pa_nil))))) (wor (tcmp (kother K hr.units) (pe_callB (klen K) (by rfl) T.n_len (by decide +kernel) (pa_cons (vr 0) pa_nil)) pe_int (nomark _)) (wor (pt_not (tst (pe_callB (kis K) (by rfl) T.n_isinstance (by decide +kernel) (pa_cons (pe_ix (kget K) (vr 0) pe_int (fun _ _ => rfl)) (pa_cons (pe_bltn (v := .ty "str") (by rfl) T.n_str (by decide +kernel) rfl) pa_nil))))) (pw_or1 (tcmp (kother K hr.units) (pe_ix (kget K) (vr 0) pe_int (fun _ _ => rfl)) pe_str (nomark _))))))) (pss_one (ps_ret pe_bl)) pss_nil)
      (pss_one (ps_ret (vand (pe_callB (kis K) (by rfl) T.n_isinstance (by decide +kernel) (pa_cons (pe_ix (kget K) (vr 0) pe_int (fun _ _ => rfl)) (pa_cons (pe_bltn (v := .ty "str") (by rfl) T.n_str (by decide +kernel) rfl) pa_nil))) (pe_one (pe_cmpR (kother K hr.units) (pe_ix (kget K) (vr 0) pe_int (fun _ _ => rfl)) pe_str (nomark _))))))), ?_⟩)
  · unfold sp_tnode at h
    split at h
    · rfl
    · exact h.elim
  · unfold sp_tnode at h
    split at h
    · obtain ⟨nd, hn, q⟩ := h
      rw [st_is_text_node]
      cases hn with
      | text ha hz l1 =>
        refine ⟨_, _, .base (.tup ha), rfl, _, .inr (sqT_of ha), ?_⟩
        refine ⟨_, _, .inr (sqT_of ha), rfl, _, _, .base (.str _), rfl, _, _, .inr (sqT_of ha), rfl, ?_⟩
        refine ⟨_, _, .inr (sqT_of ha), rfl, _, _, .base (.str _), rfl, _, _, .inr (sqT_of ha), rfl, ?_⟩
        rename_i a z
        have e : decide (V.str z = V.str "") = false := decide_eq_false fun e => by
          cases e
          cases l1
        show Q (.bl (!decide (V.str z = V.str ""))) H
        rw [e]
        exact q
      | data ha g =>
        refine ⟨_, _, .base (.tup ha), rfl, _, .inr (sqT_of ha), ?_⟩
        exact ⟨_, _, .inr (sqT_of ha), rfl, _, _, .base (.str _), rfl, _, _, .inr (sqT_of ha), rfl, q⟩
      | elem ha _ _ _ _ _ _ _ _ _ => exact ⟨_, _, .base (.tup ha), rfl, _, .inr (sqT_of ha), q⟩
    · exact h.elim
end
end Sk
namespace Sk
open PySem PySem.Spec PyProof.Rows L2
section
variable {P : Program} {w : World} {K : PySem.W.Frag} {mg : Str → Option Value} {base : Heap}
def sp_node (n : Nat) : Sp := fun vs H Q _ => match vs with
  | [v, .int m] => (∃ nd, NdV H v nd ∧ nd.lev ≤ n) ∧ (n : Int) ≤ m ∧ ∀ H', Same H H' → Q (.bl true) H'
  | _ => False
def NodesV (H : Hp) (v : V) (ns : List Nd) : Prop := ∃ a vs, v = .ref a ∧ H a = some (.tup vs) ∧ NdsV H vs ns
def sp_nodes (n : Nat) : Sp := fun vs H Q _ => match vs with
  | [v, .int m] => (∃ ns, NodesV H v ns ∧ ns.length ≤ 20 ∧ levs ns ≤ n ∧ noTwo ns = true) ∧ (n : Int) ≤ m ∧ ∀ H', Same H H' → Q (.bl true) H'
  | _ => False
theorem bls_false {ys : List V} (h : ∀ (i : Nat) (y : V), ys[i]? = some y → y = .bl false) : ∃ bs : List Bool, ys = bs.map V.bl ∧ bs.any id = false := by
  refine ⟨List.replicate ys.length false, ?_, by simp⟩
  refine List.ext_getElem? fun i => ?_
  rw [List.map_replicate]
  cases e : ys[i]? with
  | none =>
    rw [List.getElem?_eq_none_iff] at e
    rw [List.getElem?_eq_none (by simpa using e)]
  | some y =>
    have hi := (List.getElem?_eq_some_iff.mp e).1
    rw [h i y e, List.getElem?_replicate, if_pos hi]
theorem cut_tail (xs : List V) : cutV xs (some 1) none = xs.drop 1 := by
  unfold cutV
  cases xs with
  | nil => rfl
  | cons x r =>
    have e1 : HT.sIx (x :: r).length 0 (some 1) = 1 := by
      unfold HT.sIx
      simp
    have e2 : HT.sIx (x :: r).length (x :: r).length none = (x :: r).length := rfl
    rw [e1, e2]
    exact List.take_of_length_le (by simp)
theorem AttsV.length {H : Hp} : ∀ {vs : List V} {as : List Att}, AttsV H vs as → vs.length = as.length
  | _, _, .nil => rfl
  | _, _, .cons _ h => congrArg (· + 1) h.length
theorem AttsV.at {H : Hp} : ∀ {vs : List V} {as : List Att}, AttsV H vs as → ∀ (i : Nat) x, vs[i]? = some x → ∃ n, as[i]? = some n ∧ AttV H x n
  | _, _, .nil, i, x, h => by simp at h
  | _, _, .cons h _, 0, x, e => by
    cases e
    exact ⟨_, rfl, h⟩
  | _, _, .cons _ h, i + 1, x, e => by
    obtain ⟨n, e1, e2⟩ := h.at i x (by simpa using e)
    exact ⟨n, by simpa using e1, e2⟩
theorem step_nodes (T : Top K mg) (n k : Nat) (hk : 1 ≤ k) (G_is_node : Ok_is_node P w base T k (sp_node n)) : Ok_are_nodes P w base T (k + 1) (sp_nodes n) := by
  have G_is_text_node : Ok_is_text_node P w base T 1 sp_tnode := ok_tnode T 0
  refine T.F_are_nodes.ok sc_are_nodes (fun vs H Q E h => ?_) (fun cdv A outer s H vs Q E hr h => ⟨_, PSs.nox (pss_cons (sif (PW.pt (wor (pt_not (tst (pe_callB (kis K) (by rfl) T.n_isinstance (by decide +kernel) (pa_cons (vr 0) (pa_cons (pe_bltn (v := .ty "tuple") (by rfl) T.n_tuple (by decide +kernel) rfl) pa_nil))))) (pw_or1 (pt_not (tst (pe_callB (kall K rfl) (by rfl) T.n_all (by decide +kernel) (pa_cons (pe_lc (own := [("node", 2)])  rfl sc_are_nodes.nd (itup K (vr 0)) (blkOk_by (own := [("node", 2)]) (N := ["thing", "most", "node", "after"]) (sc := defScope s_are_nodes) (by decide +kernel)) (fun _ _ _ _ _ => (pg_name (i := 2) sc_are_nodes.nd rfl (by first | exact .inl rfl | exact .inr rfl))) (fun _ _ _ _ _ => pts_nil) (fun _ _ _ _ _ => up (pe_call G_is_node (hr.mono (by omega)) (by rfl) T.g_is_node T.F_is_node.kp (b_is_node T) .nil pass0 (pa_cons (vr 2) (pa_cons (vr 1) pa_nil))))) pa_nil))))))) (pss_one (ps_ret pe_bl)) pss_nil)
      (pss_one (ps_ret (vnot (pe_callB (kany K rfl) (by rfl) T.n_any (by decide +kernel) (pa_cons (pe_lc (own := [("node", 2), ("after", 3)])  rfl sc_are_nodes.nd (izip K (by rfl) T.n_zip (pa_cons (vr 0) (pa_cons (pe_slice (kcut K) (vr 0) (po_u pe_int) po_none) pa_nil))) (blkOk_by (own := [("node", 2), ("after", 3)]) (N := ["thing", "most", "node", "after"]) (sc := defScope s_are_nodes) (by decide +kernel)) (fun _ _ _ _ _ => (gtup K 2 rfl (gs_cons (pg_name (i := 2) sc_are_nodes.nd rfl (by first | exact .inl rfl | exact .inr rfl)) (gs_cons (pg_name (i := 3) sc_are_nodes.nd rfl (by first | exact .inl rfl | exact .inr rfl)) gs_nil)))) (fun _ _ _ _ _ => pts_nil) (fun _ _ _ _ _ => up (vand (pe_call G_is_text_node (hr.mono (by omega)) (by rfl) T.g_is_text_node T.F_is_text_node.kp (b_is_text_node T) .nil pass0 (pa_cons (vr 2) pa_nil)) (pe_one (pe_call G_is_text_node (hr.mono (by omega)) (by rfl) T.g_is_text_node T.F_is_text_node.kp (b_is_text_node T) .nil pass0 (pa_cons (vr 3) pa_nil)))))) pa_nil)))))), ?_⟩)
  · unfold sp_nodes at h
    split at h
    · rfl
    · exact h.elim
  · unfold sp_nodes at h
    split at h
    · obtain ⟨⟨ns, ⟨a, vs, rfl, ha, hv⟩, l20, lv, nt⟩, hm, q⟩ := h
      rename_i m
      have len := hv.length
      rw [st_are_nodes]
      refine ⟨_, _, .base (.tup ha), rfl, a, rfl, ⟨_, sqT_of ha⟩, fun D nD => ?_⟩
      refine lct (xs := vs) fr_same (fun _ v _ => v = .bl true) trivial nD (by omega) (fun H1 _ s1 => sqT_of (s1 _ _ ha)) (fun _ _ _ _ h _ => h) (fun _ => rfl) (fun i x H1 hx _ s1 => ?_) (fun H1 ys _ s1 l1 e1 q1 => ?_)
      · obtain ⟨nd, e2, h2⟩ := hv.at i x hx
        exact ⟨⟨nd, h2.stay (stay_of s1), Nat.le_trans (lev_le e2) lv⟩, hm, fun H2 s2 => ⟨trivial, s2, rfl⟩⟩
      · obtain ⟨bs, rfl, hb⟩ := bls_of q1
        refine ⟨_, bs, rfl, sqL_of e1, ?_⟩
        rw [hb]
        have a1 := s1 _ _ ha
        refine .inr ⟨a, vs, rfl, sqT_of a1, fun hw => ?_, fun hw p np => ?_⟩
        · have e0 : vs = [] := by
            cases vs with
            | nil => rfl
            | cons x r =>
              have e1 : HT.sIx (x :: r).length 0 (some 1) = 1 := by
                unfold HT.sIx
                simp
              rw [e1] at hw
              cases hw.1
          subst e0
          refine ⟨a, a, [], [], rfl, .inr ⟨sqT_of a1, sqT_of a1, fun D2 nD2 => ?_⟩⟩
          refine lcw (walk_zipT (n := 0) rfl) fr_same (fun _ v _ => v = .bl false) trivial nD2 (by decide) gm_pair (fun H3 _ s3 => ⟨sqT_of (s3 _ _ a1), sqT_of (s3 _ _ a1)⟩) (fun _ _ _ _ h _ => h) (fun i x H3 H4 hi => by cases hi) (fun H3 ys _ s3 l3 e3 q3 => ?_)
          obtain ⟨cs, rfl, hc⟩ := bls_false q3
          refine ⟨_, cs, rfl, sqL_of e3, ?_⟩
          rw [hc]
          exact q _ (s1.trans s3)
        · have a2 := same_new (o := .tup (cutV vs (some 1) none)) np _ _ a1
          refine ⟨a, p, vs, vs.drop 1, rfl, .inr ⟨sqT_of a2, by rw [cut_tail]; exact sqT_of upd_same, fun D2 nD2 => ?_⟩⟩
          have s2 : Same H1 (upd H1 p (.tup (cutV vs (some 1) none))) := same_new np
          have p2 : upd H1 p (.tup (cutV vs (some 1) none)) p = some (.tup (vs.drop 1)) := by rw [cut_tail]; exact upd_same
          revert nD2 a2 s2 p2
          generalize upd H1 p (.tup (cutV vs (some 1) none)) = H2
          intro a2 nD2 s2 p2
          refine lcw (walk_zipT (xs := vs) (ys := vs.drop 1) rfl) fr_same (fun _ v _ => v = .bl false) trivial nD2 (by omega) gm_pair (fun H3 _ s3 => ⟨sqT_of (s3 _ _ a2), sqT_of (s3 _ _ p2)⟩) (fun _ _ _ _ h _ => h) (fun i x H3 H4 hi _ s3 hy => ?_) (fun H3 ys _ s3 l3 e3 q3 => ?_)
          · obtain ⟨t, x1, x2, rfl, nt2, rfl, hx1, hx2⟩ := hy
            obtain ⟨d1, g1, n1⟩ := hv.at i x1 hx1
            have hx2 : vs[i + 1]? = some x2 := by
              have hx2 : (vs.drop 1)[i]? = some x2 := hx2
              rw [List.getElem?_drop, Nat.add_comm] at hx2
              exact hx2
            obtain ⟨d2, g2, n2⟩ := hv.at (i + 1) x2 hx2
            have two := no_two nt i d1 d2 g1 g2
            have st : Stay H (upd H3 t (.tup [x1, x2])) := stay_of (((s1.trans s2).trans s3).trans (same_new nt2))
            refine ⟨t, [x1, x2], rfl, sqT_of upd_same, rfl, rfl, d1, n1.stay st, ?_⟩
            refine br2 (fun e => ?_) (fun e => ?_)
            · refine ⟨d2, n2.stay st, trivial, same_new nt2, ?_⟩
              rw [e] at two
              have two : d2.isT = false := two
              rw [two]
            · exact ⟨trivial, same_new nt2, rfl⟩
          · obtain ⟨cs, rfl, hc⟩ := bls_false q3
            refine ⟨_, cs, rfl, sqL_of e3, ?_⟩
            rw [hc]
            exact q _ ((s1.trans s2).trans s3)
    · exact h.elim
theorem step_node (T : Top K mg) (n k : Nat) (hk : 9 ≤ k) (spI : Sp) (G_are_nodes : Ok_are_nodes P w base T k spI) (hI : ∀ m, n = m + 1 → spI = sp_nodes m) : Ok_is_node P w base T (k + 1) (sp_node n) := by
  have G_is_text_node : Ok_is_text_node P w base T 1 sp_tnode := ok_tnode T 0
  have G_is_name : Ok_is_name P w base T 1 sp_name := ok_name T 0
  have G_is_attribute : Ok_is_attribute P w base T 4 sp_attr := ok_attr T 0
  have G_is_value : Ok_is_value P w base T 9 sp_value := ok_value T 0
  refine T.F_is_node.ok sc_is_node (fun vs H Q E h => ?_) (fun cdv A outer s H vs Q E hr h => ⟨_, PSs.nox (pss_cons (sif (PW.pt (wor (pt_not (tst (pe_callB (kis K) (by rfl) T.n_isinstance (by decide +kernel) (pa_cons (vr 0) (pa_cons (pe_bltn (v := .ty "tuple") (by rfl) T.n_tuple (by decide +kernel) rfl) pa_nil))))) (wor (tcmp (ksame K hr.units) (pe_callB (klen K) (by rfl) T.n_len (by decide +kernel) (pa_cons (vr 0) pa_nil)) pe_int (nomark _)) (pw_or1 (pt_not (tst (pe_callB (kis K) (by rfl) T.n_isinstance (by decide +kernel) (pa_cons (pe_ix (kget K) (vr 0) pe_int (fun _ _ => rfl)) (pa_cons (pe_bltn (v := .ty "str") (by rfl) T.n_str (by decide +kernel) rfl) pa_nil))))))))) (pss_one (ps_ret pe_bl)) pss_nil)
      (pss_cons (sif (tcmp (ksame K hr.units) (pe_ix (kget K) (vr 0) pe_int (fun _ _ => rfl)) pe_str (nomark _)) (pss_cons (sif (PW.pt (wor (tcmp (kother K hr.units) (pe_callB (klen K) (by rfl) T.n_len (by decide +kernel) (pa_cons (vr 0) pa_nil)) pe_int (nomark _)) (wor (tcmp (ksame K hr.units) (vr 1) pe_int (nomark _)) (wor (pt_not (tst (pe_call G_is_name (hr.mono (by omega)) (by rfl) T.g_is_name T.F_is_name.kp (b_is_name T) .nil pass0 (pa_cons (pe_ix (kget K) (vr 0) pe_int (fun _ _ => rfl)) pa_nil)))) (wor (tcmp (ksame K hr.units) (pe_ix (kget K) (vr 0) pe_int (fun _ _ => rfl)) (pe_glob (v := .str ("data")) (by rfl) T.c_DATA ⟨_, rfl⟩) (nomark _)) (pw_or1 (pt_not (tst (pe_callB (kis K) (by rfl) T.n_isinstance (by decide +kernel) (pa_cons (pe_ix (kget K) (vr 0) pe_int (fun _ _ => rfl)) (pa_cons (pe_bltn (v := .ty "tuple") (by rfl) T.n_tuple (by decide +kernel) rfl) pa_nil))))))))))) (pss_one (ps_ret pe_bl)) pss_nil)
      (pss_one (ps_ret (vand (pe_callB (kall K rfl) (by rfl) T.n_all (by decide +kernel) (pa_cons (pe_lc (own := [("part", 2)])  rfl sc_is_node.nd (itup K (pe_ix (kget K) (vr 0) pe_int (fun _ _ => rfl))) (blkOk_by (own := [("part", 2)]) (N := ["thing", "most", "part"]) (sc := defScope s_is_node) (by decide +kernel)) (fun _ _ _ _ _ => (pg_name (i := 2) sc_is_node.nd rfl (by first | exact .inl rfl | exact .inr rfl))) (fun _ _ _ _ _ => pts_nil) (fun _ _ _ _ _ => up (pe_call G_is_attribute (hr.mono (by omega)) (by rfl) T.g_is_attribute T.F_is_attribute.kp (b_is_attribute T) .nil pass0 (pa_cons (vr 2) pa_nil)))) pa_nil)) (pe_one (pe_call G_are_nodes (hr.mono (by omega)) (by rfl) T.g_are_nodes T.F_are_nodes.kp (b_are_nodes T) .nil pass0 (pa_cons (pe_ix (kget K) (vr 0) pe_int (fun _ _ => rfl)) (pa_cons (pe_op op_minus (vr 1) pe_int) pa_nil)))))))) pss_nil)
      (pss_cons (sif (tcmp (ksame K hr.units) (pe_ix (kget K) (vr 0) pe_int (fun _ _ => rfl)) (pe_glob (v := .str ("data")) (by rfl) T.c_DATA ⟨_, rfl⟩) (nomark _)) (pss_one (ps_ret (vand (pe_cmpR (ksame K hr.units) (pe_callB (klen K) (by rfl) T.n_len (by decide +kernel) (pa_cons (vr 0) pa_nil)) pe_int (nomark _)) (pe_one (pe_call G_is_value (hr.mono (by omega)) (by rfl) T.g_is_value T.F_is_value.kp (b_is_value T) .nil pass0 (pa_cons (pe_ix (kget K) (vr 0) pe_int (fun _ _ => rfl)) pa_nil)))))) pss_nil)
      (pss_one (ps_ret (pe_call G_is_text_node (hr.mono (by omega)) (by rfl) T.g_is_text_node T.F_is_text_node.kp (b_is_text_node T) .nil pass0 (pa_cons (vr 0) pa_nil))))))), ?_⟩)
  · unfold sp_node at h
    split at h
    · rfl
    · exact h.elim
  · unfold sp_node at h
    split at h
    · obtain ⟨⟨nd, hn, lv⟩, hm, q⟩ := h
      rename_i m
      rw [st_is_node]
      cases hn with
      | text ha hz l1 =>
        refine ⟨_, _, .base (.tup ha), rfl, _, .inr (sqT_of ha), ?_⟩
        refine ⟨_, _, .inr (sqT_of ha), rfl, _, _, .base (.str _), rfl, _, _, .inr (sqT_of ha), rfl, ?_⟩
        exact ⟨_, _, .inr (sqT_of ha), rfl, _, .text ha hz l1, q _ (Same.refl H)⟩
      | data ha g =>
        refine ⟨_, _, .base (.tup ha), rfl, _, .inr (sqT_of ha), ?_⟩
        refine ⟨_, _, .inr (sqT_of ha), rfl, _, _, .base (.str _), rfl, _, _, .inr (sqT_of ha), rfl, ?_⟩
        refine ⟨_, _, .inr (sqT_of ha), rfl, _, .inr (sqT_of ha), ?_⟩
        exact ⟨_, _, .inr (sqT_of ha), rfl, g, q⟩
      | elem ha nok nd hp hat la hq hns ln nt =>
        rename_i a p q' nm vs ws as ns
        refine ⟨_, _, .base (.tup ha), rfl, _, .inr (sqT_of ha), ?_⟩
        refine ⟨_, _, .inr (sqT_of ha), rfl, _, _, .base (.str _), rfl, _, _, .inr (sqT_of ha), rfl, ?_⟩
        refine ⟨_, .inr (sqT_of ha), ?_⟩
        have lv : 1 + levs ns ≤ n := lv
        cases n with
        | zero => omega
        | succ n =>
        have hI := hI n rfl
        subst hI
        refine br2 (fun e => ?_) (fun e => ?_)
        · have e := of_decide_eq_true e
          cases e
          omega
        · refine ⟨_, _, .inr (sqT_of ha), rfl, nok, fun H1 s1 => ?_⟩
          refine ⟨_, _, .inr (sqT_of (s1 _ _ ha)), rfl, br2 (fun e => ?_) (fun e => ?_)⟩
          · have e := of_decide_eq_true e
            cases e
            exact absurd rfl nd
          · refine ⟨_, _, .inr (sqT_of (s1 _ _ ha)), rfl, _, _, .base (.tup (s1 _ _ hp)), rfl, ?_⟩
            refine ⟨_, _, .inr (sqT_of (s1 _ _ ha)), rfl, p, rfl, ⟨_, sqT_of (s1 _ _ hp)⟩, fun D nD => ?_⟩
            refine lct (xs := vs) fr_same (fun _ v _ => v = .bl true) trivial nD (by rw [hat.length]; omega) (fun H2 _ s2 => sqT_of (s2 _ _ (s1 _ _ hp))) (fun _ _ _ _ h _ => h) (fun _ => rfl) (fun i x H2 hx _ s2 => ?_) (fun H2 ys _ s2 l2 e2 q2 => ?_)
            · obtain ⟨t, _, ht⟩ := hat.at i x hx
              exact ⟨⟨t, ht.stay (stay_of (s1.trans s2))⟩, fun H3 s3 => ⟨trivial, s3, rfl⟩⟩
            · obtain ⟨bs, rfl, hb⟩ := bls_of q2
              refine ⟨_, bs, rfl, sqL_of e2, ?_⟩
              rw [hb]
              have s02 := s1.trans s2
              refine ⟨_, _, .inr (sqT_of (s02 _ _ ha)), rfl, ⟨ns, ⟨_, _, rfl, s02 _ _ hq, NdsV.stay (stay_of s02) hns⟩, by omega, by omega, nt⟩, by omega, fun H3 s3 => q _ (s02.trans s3)⟩
    · exact h.elim
theorem no_nodes (T : Top K mg) : Ok_are_nodes P w base T 9 (fun _ _ _ _ => False) := ⟨fun _ _ _ _ h => h.elim, fun _ _ _ _ _ _ _ _ _ _ _ _ _ h => h.elim⟩
theorem ok_node (T : Top K mg) : ∀ n, Ok_is_node P w base T (2 * n + 10) (sp_node n)
  | 0 => step_node T 0 9 (by decide) _ (no_nodes T) fun m e => by cases e
  | n + 1 => step_node T (n + 1) (2 * n + 11) (by omega) _ (step_nodes T n (2 * n + 10) (by omega) (ok_node T n)) fun m e => by cases e; rfl
theorem ok_nodes (T : Top K mg) (n : Nat) : Ok_are_nodes P w base T (2 * n + 11) (sp_nodes n) := step_nodes T n (2 * n + 10) (by omega) (ok_node T n)
def TreeV (H : Hp) (v : V) (ns : List Nd) : Prop := NodesV H v ns ∧ ns.length ≤ 4 ∧ levs ns ≤ 5 ∧ noTwo ns = true
def sp_tree : Sp := fun vs H Q _ => match vs with
  | [v] => (∃ ns, TreeV H v ns) ∧ ∀ H', Same H H' → Q (.bl true) H'
  | _ => False
theorem ok_tree (T : Top K mg) (k : Nat) : Ok_is_tree P w base T (k + 22) sp_tree := by
  have G_are_nodes : Ok_are_nodes P w base T 21 (sp_nodes 5) := ok_nodes T 5
  refine T.F_is_tree.ok sc_is_tree (fun vs H Q E h => ?_) (fun cdv A outer s H vs Q E hr h => ⟨_, PSs.nox (pss_one (ps_ret (pe_call G_are_nodes (hr.mono (by omega)) (by rfl) T.g_are_nodes T.F_are_nodes.kp (b_are_nodes T) .nil pass0 (pa_cons (vr 0) (pa_cons (pe_glob (v := .int (30)) (by rfl) T.c_MAX_NESTED ⟨_, rfl⟩) pa_nil))))), ?_⟩)
  · unfold sp_tree at h
    split at h
    · rfl
    · exact h.elim
  · unfold sp_tree at h
    split at h
    · obtain ⟨⟨ns, h1, h2, h3, h4⟩, q⟩ := h
      rw [st_is_tree]
      exact ⟨⟨ns, h1, by omega, h3, h4⟩, by decide, q⟩
    · exact h.elim
end
end Sk
namespace Sk
open PySem PySem.Spec PyProof.Rows L2
theorem txt24 {z : Str} (h : z.length ≤ 24) : Ln 749 (txtE z) := rep_le (m := 149) (k := 4) (rep_le (m := 24) (k := 5) h (by decide)) (by decide)
theorem att24 {z : Str} (h : z.length ≤ 24) : Ln 5249 (attE z) := rep_le (m := 749) (k := 6) (txt24 h) (by decide)
theorem cod_len {z : Str} {n : Nat} (h : z.length ≤ n) : Ln (3 * n) (codE z) := by
  show (codE z).length ≤ _
  rw [len_list, cod_list]
  have := flat_len z.cps.toList
  rw [← len_list] at this
  omega
def partL (w : Str) : List Nat := sl "/" ++ sl (codE w)
def pairL (p : Str × Str) : List Nat := sl p.1 ++ (sl "=" ++ sl (codE p.2))
def queryL (ps : List (Str × Str)) : List Nat := TL.joinL (sl ";") (ps.map pairL)
def attL : Att → List Nat
  | .plain n z => sl " " ++ (sl n ++ (sl "=\"" ++ (sl (attE z) ++ sl "\"")))
  | .addr ws ps => sl " " ++ (sl "href" ++ (sl "=\"" ++ ((ws.map partL).flatten ++ ((if ps.isEmpty then [] else sl "?" ++ queryL ps) ++ sl "\""))))
mutual
def ndL : Nd → List Nat
  | .text z => sl (txtE z)
  | .data l => sl "<data>" ++ (sl l ++ sl "</data>")
  | .elem nm as ns => sl "<" ++ (sl nm ++ ((as.map attL).flatten ++ (sl ">" ++ (ndsL ns ++ (sl "</" ++ (sl nm ++ sl ">"))))))
def ndsL : List Nd → List Nat
  | [] => []
  | x :: r => ndL x ++ ndsL r
end
theorem ndsL_eq : ∀ ns : List Nd, ndsL ns = (ns.map ndL).flatten
  | [] => rfl
  | x :: r => by
    show ndL x ++ ndsL r = _
    rw [ndsL_eq r]
    rfl
theorem nd_le : ∀ {ns : List Nd} {i : Nat} {n : Nd}, ns[i]? = some n → (ndL n).length ≤ (ndsL ns).length
  | [], i, n, h => by simp at h
  | x :: r, 0, n, h => by
    cases h
    show _ ≤ (ndL x ++ ndsL r).length
    rw [List.length_append]
    omega
  | x :: r, i + 1, n, h => by
    have := nd_le (ns := r) (i := i) (n := n) (by simpa using h)
    show _ ≤ (ndL x ++ ndsL r).length
    rw [List.length_append]
    omega
theorem partL_len {w : Str} (h : TextOk 24 w) : (partL w).length ≤ 73 := by
  have := cod_len h.1
  unfold Ln at this
  unfold partL
  rw [List.length_append, sl_len, sl_len]
  show 1 + _ ≤ _
  omega
theorem pairL_len {p : Str × Str} (h1 : NameOk p.1) (h : TextOk 24 p.2) : (pairL p).length ≤ 85 := by
  have := cod_len h.1
  unfold Ln at this
  have h2 := h1.2.1
  unfold pairL
  rw [List.length_append, List.length_append, sl_len, sl_len, sl_len]
  show _ + (1 + _) ≤ _
  omega
theorem PairsV.ok {H : Hp} {v : V} {ps : List (Str × Str)} (h : PairsV H v ps) : ∀ p ∈ ps, NameOk p.1 ∧ TextOk 24 p.2 := fun p hp => by
  obtain ⟨a, vs, _, _, l, k⟩ := h
  obtain ⟨i, hi, e⟩ := List.mem_iff_getElem.mp hp
  have hv : i < vs.length := by omega
  obtain ⟨b, _, _, k1, k2⟩ := k i vs[i] p (List.getElem?_eq_getElem hv) (by rw [List.getElem?_eq_getElem hi, e])
  exact ⟨k1, k2⟩
theorem parts_len {ws : List Str} (h : ∀ w ∈ ws, TextOk 24 w) (hl : ws.length ≤ 3) : ((ws.map partL).flatten).length ≤ 219 := by
  have := len_mem_sum (l := ws.map partL) (m := 73) fun x hx => by
    obtain ⟨w, hw, rfl⟩ := List.mem_map.mp hx
    exact partL_len (h w hw)
  rw [List.length_map] at this
  omega
theorem pairs_len {ps : List (Str × Str)} (h : ∀ p ∈ ps, NameOk p.1 ∧ TextOk 24 p.2) (hl : ps.length ≤ 3) : ((ps.map pairL).flatten).length ≤ 255 := by
  have := len_mem_sum (l := ps.map pairL) (m := 85) fun x hx => by
    obtain ⟨w, hw, rfl⟩ := List.mem_map.mp hx
    exact pairL_len (h w hw).1 (h w hw).2
  rw [List.length_map] at this
  omega
theorem query_len {ps : List (Str × Str)} (h : ∀ p ∈ ps, NameOk p.1 ∧ TextOk 24 p.2) (hl : ps.length ≤ 3) : (queryL ps).length ≤ 258 := by
  have a := pairs_len h hl
  have b := joinL_len (sl ";") (ps.map pairL)
  rw [List.length_map] at b
  have e : (sl ";").length = 1 := rfl
  rw [e] at b
  unfold queryL
  omega
section
variable {P : Program} {w : World} {K : PySem.W.Frag} {mg : Str → Option Value} {base : Heap}
def sp_watt : Sp := fun vs H Q _ => match vs with
  | [v] => ∃ t, AttV H v t ∧ ∀ z H', sl z = attL t → Same H H' → Q (.str z) H'
  | _ => False
theorem ok_watt (T : Top K mg) (k : Nat) : Ok_written_attribute P w base T (k + 3) sp_watt := by
  have G_write_code : Ok_write_code P w base T 2 sp_code := ok_code T 0
  have G_write_attribute := ok_attribute (P := P) (w := w) (base := base) T 0
  refine T.F_written_attribute.ok sc_written_attribute (fun vs H Q E h => ?_) (fun cdv A outer s H vs Q E hr h => ⟨_, PSs.nox (pss_cons (ps_asg (vr 0) (gtup K 2 rfl (gs_cons (pg_name (i := 1) sc_written_attribute.nd rfl (by first | exact .inl rfl | exact .inr rfl)) (gs_cons (pg_name (i := 2) sc_written_attribute.nd rfl (by first | exact .inl rfl | exact .inr rfl)) gs_nil))))
      (pss_cons (sif (tcmp (kother K hr.units) (vr 1) (pe_glob (v := .str ("href")) (by rfl) T.c_ADDRESS ⟨_, rfl⟩) (nomark _)) (pss_one (ps_ret (pe_joined (.cons pe_str (.cons (vfmt (vr 1)) (.cons pe_str (.cons (vfmt (pe_call G_write_attribute (hr.mono (by omega)) (by rfl) T.g_write_attribute T.F_write_attribute.kp (b_write_attribute T) .nil pass0 (pa_cons (vr 2) pa_nil))) (.cons pe_str .nil)))))))) pss_nil)
      (pss_cons (ps_asg (vr 2) (gtup K 2 rfl (gs_cons (pg_name (i := 3) sc_written_attribute.nd rfl (by first | exact .inl rfl | exact .inr rfl)) (gs_cons (pg_name (i := 4) sc_written_attribute.nd rfl (by first | exact .inl rfl | exact .inr rfl)) gs_nil))))
      (pss_cons (ps_set (i := 5) sc_written_attribute.nd rfl (by first | exact .inl rfl | exact .inr rfl) (kjoin K pe_str (pe_lc (own := [("part", 7)])  rfl sc_written_attribute.nd (itup K (vr 3)) (blkOk_by (own := [("part", 7)]) (N := ["attribute", "name", "value", "parts", "pairs", "path", "query", "part", "word", "text"]) (sc := defScope s_written_attribute) (by decide +kernel)) (fun _ _ _ _ _ => (pg_name (i := 7) sc_written_attribute.nd rfl (by first | exact .inl rfl | exact .inr rfl))) (fun _ _ _ _ _ => pts_nil) (fun _ _ _ _ _ => up (pe_op (kplus K) pe_str (pe_call G_write_code (hr.mono (by omega)) (by rfl) T.g_write_code T.F_write_code.kp (b_write_code T) .nil pass0 (pa_cons (vr 7) pa_nil)))))))
      (pss_cons (ps_set (i := 6) sc_written_attribute.nd rfl (by first | exact .inl rfl | exact .inr rfl) (kjoin K pe_str (pe_lc (own := [("word", 8), ("text", 9)])  rfl sc_written_attribute.nd (itup K (vr 4)) (blkOk_by (own := [("word", 8), ("text", 9)]) (N := ["attribute", "name", "value", "parts", "pairs", "path", "query", "part", "word", "text"]) (sc := defScope s_written_attribute) (by decide +kernel)) (fun _ _ _ _ _ => (gtup K 2 rfl (gs_cons (pg_name (i := 8) sc_written_attribute.nd rfl (by first | exact .inl rfl | exact .inr rfl)) (gs_cons (pg_name (i := 9) sc_written_attribute.nd rfl (by first | exact .inl rfl | exact .inr rfl)) gs_nil)))) (fun _ _ _ _ _ => pts_nil) (fun _ _ _ _ _ => up (pe_joined (.cons (vfmt (vr 8)) (.cons pe_str (.cons (vfmt (pe_call G_write_code (hr.mono (by omega)) (by rfl) T.g_write_code T.F_write_code.kp (b_write_code T) .nil pass0 (pa_cons (vr 9) pa_nil))) .nil))))))))
      (pss_one (ps_ret (vif (ttru K (vr 4)) (pe_joined (.cons pe_str (.cons (vfmt (vr 1)) (.cons pe_str (.cons (vfmt (vr 5)) (.cons pe_str (.cons (vfmt (vr 6)) (.cons pe_str .nil)))))))) (pe_joined (.cons pe_str (.cons (vfmt (vr 1)) (.cons pe_str (.cons (vfmt (vr 5)) (.cons pe_str .nil)))))))))))))), ?_⟩)
  · unfold sp_watt at h
    split at h
    · rfl
    · exact h.elim
  · unfold sp_watt at h
    split at h
    · obtain ⟨t, ht, q⟩ := h
      rw [st_written_attribute]
      cases t with
      | plain n z =>
        obtain ⟨a, rfl, ha, hn, ne, hz⟩ := ht
        refine ⟨a, _, rfl, sqT_of ha, rfl, ?_⟩
        refine br2 (fun e => ?_) (fun e => ?_)
        · have l1 : Ln 12 n := hn.2.1
          have l2 := att24 hz.1
          have b1 : Ln 1 (Str.empty ++ (" " : Str)) := by decide
          have b2 := b1.app l1
          have b3 := b2.app (show Ln 2 ("=\"" : Str) by decide)
          have b4 := b3.app l2
          have b5 := b4.app (show Ln 1 ("\"" : Str) by decide)
          refine ⟨_, rfl, b1.ok, l1.ok, _, rfl, b2.ok, _, rfl, b3.ok, Nat.le_trans hz.1 (by decide), l2.ok, _, rfl, b4.ok, _, rfl, b5.ok, ?_⟩
          refine q _ _ ?_ (Same.refl _)
          simp only [sl, app_list, emp_l, List.append_assoc, List.nil_append, attL]
        · have e : (!decide (V.str n = V.str "href")) = false := e
          have e : V.str n = V.str "href" := by simpa using e
          cases e
          exact absurd rfl ne
      | addr ws ps =>
        obtain ⟨a, p, x, y, rfl, ha, hp, tx, h4, h5, py, h7⟩ := ht
        have pok := py.ok
        obtain ⟨b, rfl, hb, hz⟩ := tx
        obtain ⟨c, vs, rfl, hc, lv, hv⟩ := py
        refine ⟨a, _, rfl, sqT_of ha, rfl, ?_⟩
        refine ⟨p, _, rfl, sqT_of hp, rfl, ?_⟩
        simp only [List.set_cons_succ, List.set_cons_zero]
        refine ⟨b, rfl, ⟨_, sqT_of hb⟩, fun D nD => ?_⟩
        refine lct (xs := ws.map V.str) fr_same (fun i v _ => ∃ x z, ws[i]? = some x ∧ v = .str z ∧ sl z = partL x) trivial nD (by rw [List.length_map]; omega) (fun H1 _ s1 => sqT_of (s1 _ _ hb)) (fun _ _ _ _ h _ => h) (fun _ => rfl) (fun i x H1 hx _ s1 => ?_) (fun H1 ys _ s1 l1 e1 q1 => ?_)
        · rw [List.getElem?_map] at hx
          obtain ⟨z, hz', rfl⟩ := Option.map_eq_some_iff.mp hx
          have tz := hz z (List.mem_of_getElem? hz')
          refine ⟨tz.mono (by decide), fun H2 s2 => ⟨(show Ln 1 ("/" : Str) by decide).plus (cod_len tz.1), trivial, s2, z, _, hz', rfl, app_list _ _⟩⟩
        · rw [List.length_map] at l1
          obtain ⟨zs, rfl, ez⟩ := strs_map l1 q1
          have pl := parts_len hz h5
          have pth := join_flat (y := "") rfl ez
          have pln : Ln 219 (Txt.join "" zs) := Ln.of pth pl
          refine ⟨zs, .inl (sqL_of e1), ?_, ?_⟩
          · rw [sum_flat, ez]
            show _ + _ * 0 ≤ _
            omega
          simp only [List.set_cons_succ, List.set_cons_zero]
          refine ⟨c, rfl, ⟨_, sqT_of (s1 _ _ hc)⟩, fun D2 nD2 => ?_⟩
          refine lcw (walk_tup (xs := vs)) fr_same (fun i v _ => ∃ x z, ps[i]? = some x ∧ v = .str z ∧ sl z = pairL x) trivial nD2 (by omega) gm_pair (fun H2 _ s2 => sqT_of (s2 _ _ (s1 _ _ hc))) (fun _ _ _ _ h _ => h) (fun i x H2 H2' hi _ s2 hy => ?_) (fun H2 ys2 _ s2 l2 e2 q2 => ?_)
          · obtain ⟨rfl, hx⟩ := hy
            have hi2 : i < ps.length := by omega
            obtain ⟨b2, rfl, h2, n2, t2⟩ := hv i x ps[i] hx (List.getElem?_eq_getElem hi2)
            refine ⟨b2, _, rfl, sqT_of (s2 _ _ (s1 _ _ h2)), rfl, rfl, ?_⟩
            have m1 : Ln 12 ps[i].1 := n2.2.1
            have m2 := cod_len t2.1
            refine ⟨m1.ok, _, rfl, m1.emp.ok, _, rfl, (m1.emp.app (show Ln 1 ("=" : Str) by decide)).ok, t2.mono (by decide), fun H3 s3 => ?_⟩
            refine ⟨m2.ok, _, rfl, ((m1.emp.app (show Ln 1 ("=" : Str) by decide)).app m2).ok, trivial, s3, ps[i], _, List.getElem?_eq_getElem hi2, rfl, ?_⟩
            simp only [sl, app_list, emp_l, List.append_assoc, List.nil_append, pairL]
          · rw [lv] at l2
            obtain ⟨zs2, rfl, ez2⟩ := strs_map l2 q2
            have ql := query_len pok h7
            have pl2 := pairs_len pok h7
            have qth := join_with (y := ";") ez2
            have qln : Ln 258 (Txt.join ";" zs2) := Ln.of qth ql
            have lz : zs2.length = ps.length := by
              have := congrArg List.length ez2
              rw [List.length_map, List.length_map] at this
              exact this
            refine ⟨zs2, .inl (sqL_of e2), ?_, ?_⟩
            · rw [sum_flat, ez2]
              show _ + _ * 1 ≤ _
              omega
            simp only [List.set_cons_succ, List.set_cons_zero]
            have s02 := s1.trans s2
            have b1 : Ln 1 (Str.empty ++ (" " : Str)) := by decide
            have b2 := b1.app (show Ln 4 ("href" : Str) by decide)
            have b3 := b2.app (show Ln 2 ("=\"" : Str) by decide)
            have b4 := b3.app pln
            refine ⟨vs, .inr (sqT_of (s02 _ _ hc)), br2 (fun e => ?_) (fun e => ?_)⟩
            · have b5 := b4.app (show Ln 1 ("?" : Str) by decide)
              have b6 := b5.app qln
              have b7 := b6.app (show Ln 1 ("\"" : Str) by decide)
              refine ⟨_, rfl, b1.ok, by decide, _, rfl, b2.ok, _, rfl, b3.ok, pln.ok, _, rfl, b4.ok, _, rfl, b5.ok, qln.ok, _, rfl, b6.ok, _, rfl, b7.ok, ?_⟩
              refine q _ _ ?_ s02
              have e0 : ps.isEmpty = false := by
                cases ps with
                | nil =>
                  cases vs with
                  | nil => cases e
                  | cons _ _ => cases lv
                | cons _ _ => rfl
              have qth : (Txt.join ";" zs2).cps.toList = queryL ps := qth
              have pth : (Txt.join "" zs).cps.toList = (ws.map partL).flatten := pth
              simp only [sl, app_list, emp_l, List.append_assoc, List.nil_append, attL, e0, qth, pth, Bool.false_eq_true, if_false]
            · have b5 := b4.app (show Ln 1 ("\"" : Str) by decide)
              refine ⟨_, rfl, b1.ok, by decide, _, rfl, b2.ok, _, rfl, b3.ok, pln.ok, _, rfl, b4.ok, _, rfl, b5.ok, ?_⟩
              refine q _ _ ?_ s02
              have e0 : ps.isEmpty = true := by
                cases ps with
                | nil => rfl
                | cons _ _ =>
                  cases vs with
                  | nil => cases lv
                  | cons _ _ => cases e
              have pth : (Txt.join "" zs).cps.toList = (ws.map partL).flatten := pth
              simp only [sl, app_list, emp_l, List.append_assoc, List.nil_append, attL, e0, pth, if_true]
    · exact h.elim
end
end Sk
namespace Sk
open PySem PySem.Spec PyProof.Rows L2
def maxS : Nat := 16000000
section
variable {P : Program} {w : World} {K : PySem.W.Frag} {mg : Str → Option Value} {base : Heap}
theorem attL_len {H : Hp} {v : V} {t : Att} (h : AttV H v t) : (attL t).length ≤ 6000 := by
  cases t with
  | plain n z =>
    obtain ⟨a, _, _, hn, _, hz⟩ := h
    have l1 := hn.2.1
    have l2 : (attE z).length ≤ 5249 := att24 hz.1
    unfold attL
    simp only [List.length_append, sl_len]
    show 1 + (_ + (2 + (_ + 1))) ≤ 6000
    omega
  | addr ws ps =>
    obtain ⟨a, p, x, y, _, _, _, ⟨b, _, _, hz⟩, _, h5, py, h7⟩ := h
    have l1 := parts_len hz h5
    have l2 := query_len py.ok h7
    unfold attL
    simp only [List.length_append, sl_len]
    cases ps.isEmpty with
    | true =>
      show 1 + (4 + (2 + (_ + (0 + 1)))) ≤ 6000
      omega
    | false =>
      simp only [Bool.false_eq_true, if_false, List.length_append, sl_len]
      show 1 + (4 + (2 + (_ + ((1 + _) + 1)))) ≤ 6000
      omega
theorem atts_len {H : Hp} {vs : List V} {as : List Att} (h : AttsV H vs as) : ((as.map attL).flatten).length ≤ as.length * 6000 := by
  induction h with
  | nil => exact Nat.le_refl _
  | cons h _ ih =>
    rw [List.map_cons, List.flatten_cons, List.length_append, List.length_cons, Nat.succ_mul]
    have := attL_len h
    omega
def sp_wnode (n : Nat) : Sp := fun vs H Q _ => match vs with
  | [v] => ∃ nd, NdV H v nd ∧ nd.lev ≤ n ∧ (ndL nd).length ≤ maxS ∧ ∀ z H', sl z = ndL nd → Same H H' → Q (.str z) H'
  | _ => False
def sp_wnodes (n : Nat) : Sp := fun vs H Q _ => match vs with
  | [v] => ∃ ns, NodesV H v ns ∧ ns.length ≤ 20 ∧ levs ns ≤ n ∧ (ndsL ns).length ≤ maxS ∧ ∀ z H', sl z = ndsL ns → Same H H' → Q (.str z) H'
  | _ => False
theorem step_wnodes (T : Top K mg) (n k : Nat) (G_written_node : Ok_written_node P w base T k (sp_wnode n)) : Ok_written P w base T (k + 1) (sp_wnodes n) := by
  refine T.F_written.ok sc_written (fun vs H Q E h => ?_) (fun cdv A outer s H vs Q E hr h => ⟨_, PSs.nox (pss_one (ps_ret (kjoin K pe_str (pe_lc (own := [("node", 1)])  rfl sc_written.nd (itup K (vr 0)) (blkOk_by (own := [("node", 1)]) (N := ["nodes", "node"]) (sc := defScope s_written) (by decide +kernel)) (fun _ _ _ _ _ => (pg_name (i := 1) sc_written.nd rfl (by first | exact .inl rfl | exact .inr rfl))) (fun _ _ _ _ _ => pts_nil) (fun _ _ _ _ _ => up (pe_call G_written_node (hr.mono (by omega)) (by rfl) T.g_written_node T.F_written_node.kp (b_written_node T) .nil pass0 (pa_cons (vr 1) pa_nil))))))), ?_⟩)
  · unfold sp_wnodes at h
    split at h
    · rfl
    · exact h.elim
  · unfold sp_wnodes at h
    split at h
    · obtain ⟨ns, ⟨a, vs, rfl, ha, hv⟩, l20, lv, lm, q⟩ := h
      have len := hv.length
      rw [st_written]
      refine ⟨a, rfl, ⟨_, sqT_of ha⟩, fun D nD => ?_⟩
      refine lct (xs := vs) fr_same (fun i v _ => ∃ x z, ns[i]? = some x ∧ v = .str z ∧ sl z = ndL x) trivial nD (by omega) (fun H1 _ s1 => sqT_of (s1 _ _ ha)) (fun _ _ _ _ h _ => h) (fun _ => rfl) (fun i x H1 hx _ s1 => ?_) (fun H1 ys _ s1 l1 e1 q1 => ?_)
      · obtain ⟨nd, e2, h2⟩ := hv.at i x hx
        exact ⟨nd, h2.stay (stay_of s1), Nat.le_trans (lev_le e2) lv, Nat.le_trans (nd_le e2) lm, fun z H2 ez s2 => ⟨trivial, s2, nd, z, e2, rfl, ez⟩⟩
      · obtain ⟨zs, rfl, ez⟩ := strs_map (l1.trans len) q1
        have pth := join_flat (y := "") rfl ez
        rw [← ndsL_eq] at pth
        refine ⟨zs, .inl (sqL_of e1), ?_, q _ _ pth s1⟩
        rw [sum_flat, ez, ← ndsL_eq]
        show _ + _ * 0 ≤ _
        unfold maxS at lm
        omega
    · exact h.elim
theorem step_wnode (T : Top K mg) (n k : Nat) (hk : 8 ≤ k) (spI : Sp) (G_written : Ok_written P w base T k spI) (hI : ∀ m, n = m + 1 → spI = sp_wnodes m) : Ok_written_node P w base T (k + 1) (sp_wnode n) := by
  have G_write_text : Ok_write_text P w base T 1 sp_text := ok_text T 0
  have G_write_literal : OkT_wl P w base T 8 (sp_lit 6) := ok_wl T 6
  have G_written_attribute : Ok_written_attribute P w base T 3 sp_watt := ok_watt T 0
  refine T.F_written_node.ok sc_written_node (fun vs H Q E h => ?_) (fun cdv A outer s H vs Q E hr h => ⟨_, PSs.nox (pss_cons (sif (tcmp (ksame K hr.units) (pe_ix (kget K) (vr 0) pe_int (fun _ _ => rfl)) pe_str (nomark _)) (pss_one (ps_ret (pe_call G_write_text (hr.mono (by omega)) (by rfl) T.g_write_text T.F_write_text.kp (b_write_text T) .nil pass0 (pa_cons (pe_ix (kget K) (vr 0) pe_int (fun _ _ => rfl)) pa_nil)))) pss_nil)
      (pss_cons (sif (tcmp (ksame K hr.units) (pe_ix (kget K) (vr 0) pe_int (fun _ _ => rfl)) (pe_glob (v := .str ("data")) (by rfl) T.c_DATA ⟨_, rfl⟩) (nomark _)) (pss_one (ps_ret (pe_op (kplus K) (pe_op (kplus K) (pe_glob (v := .str ("<data>")) (by rfl) T.c_START_OF_DATA ⟨_, rfl⟩) (pecall_tok G_write_literal (hr.mono (by omega)) (by rfl) T.g_write_literal T.F_write_literal.kp (b_write_literal T) (kget K) (vr 0))) (pe_glob (v := .str ("</data>")) (by rfl) T.c_END_OF_DATA ⟨_, rfl⟩)))) pss_nil)
      (pss_cons (ps_asg (vr 0) (gtup K 4 rfl (gs_cons (pg_name (i := 1) sc_written_node.nd rfl (by first | exact .inl rfl | exact .inr rfl)) (gs_cons (pg_name (i := 2) sc_written_node.nd rfl (by first | exact .inl rfl | exact .inr rfl)) (gs_cons (pg_name (i := 3) sc_written_node.nd rfl (by first | exact .inl rfl | exact .inr rfl)) (gs_cons (pg_name (i := 4) sc_written_node.nd rfl (by first | exact .inl rfl | exact .inr rfl)) gs_nil))))))
      (pss_cons (ps_set (i := 5) sc_written_node.nd rfl (by first | exact .inl rfl | exact .inr rfl) (pe_op (kplus K) (vr 2) (kjoin K pe_str (pe_lc (own := [("attribute", 6)])  rfl sc_written_node.nd (itup K (vr 3)) (blkOk_by (own := [("attribute", 6)]) (N := ["node", "kind", "name", "attributes", "nodes", "front", "attribute"]) (sc := defScope s_written_node) (by decide +kernel)) (fun _ _ _ _ _ => (pg_name (i := 6) sc_written_node.nd rfl (by first | exact .inl rfl | exact .inr rfl))) (fun _ _ _ _ _ => pts_nil) (fun _ _ _ _ _ => up (pe_call G_written_attribute (hr.mono (by omega)) (by rfl) T.g_written_attribute T.F_written_attribute.kp (b_written_attribute T) .nil pass0 (pa_cons (vr 6) pa_nil)))))))
      (pss_one (ps_ret (pe_joined (.cons pe_str (.cons (vfmt (vr 5)) (.cons pe_str (.cons (vfmt (pe_call G_written (hr.mono (by omega)) (by rfl) T.g_written T.F_written.kp (b_written T) .nil pass0 (pa_cons (vr 4) pa_nil))) (.cons pe_str (.cons (vfmt (vr 2)) (.cons pe_str .nil)))))))))))))), ?_⟩)
  · unfold sp_wnode at h
    split at h
    · rfl
    · exact h.elim
  · unfold sp_wnode at h
    split at h
    · obtain ⟨nd, hn, lv, lm, q⟩ := h
      unfold maxS at lm
      rw [st_written_node]
      cases hn with
      | text ha hz l1 =>
        refine ⟨_, _, .inr (sqT_of ha), rfl, ?_⟩
        exact ⟨_, _, .inr (sqT_of ha), rfl, Nat.le_trans hz.1 (by decide), q _ _ rfl (Same.refl H)⟩
      | data ha g =>
        have ll : Ln 2000000 (litH H 6 _) := Nat.le_trans (lit_len 6 _ g) (litS6 (Nat.le_refl 6))
        refine ⟨_, _, .inr (sqT_of ha), rfl, ?_⟩
        refine ⟨_, _, .inr (sqT_of ha), rfl, ?_⟩
        refine ⟨_, _, .inr (sqT_of ha), rfl, g, by decide, fun H1 s1 => ?_⟩
        have b1 : Ln 6 ("<data>" : Str) := by decide
        refine ⟨b1.plus ll, (b1.app ll).plus (show Ln 7 ("</data>" : Str) by decide), ?_⟩
        refine q _ _ ?_ s1
        simp only [sl, app_list, List.append_assoc, ndL]
      | elem ha nok nd hp hat la hq hns ln nt =>
        rename_i a p q' nm vs ws as ns
        have lv : 1 + levs ns ≤ n := lv
        cases n with
        | zero => omega
        | succ n =>
        have hI := hI n rfl
        subst hI
        refine ⟨_, _, .inr (sqT_of ha), rfl, ?_⟩
        refine ⟨_, _, .inr (sqT_of ha), rfl, ?_⟩
        refine ⟨a, _, rfl, sqT_of ha, rfl, ?_⟩
        simp only [List.set_cons_succ, List.set_cons_zero]
        refine ⟨p, rfl, ⟨_, sqT_of hp⟩, fun D nD => ?_⟩
        have lat := hat.length
        refine lct (xs := vs) fr_same (fun i v _ => ∃ x z, as[i]? = some x ∧ v = .str z ∧ sl z = attL x) trivial nD (by omega) (fun H1 _ s1 => sqT_of (s1 _ _ hp)) (fun _ _ _ _ h _ => h) (fun _ => rfl) (fun i x H1 hx _ s1 => ?_) (fun H1 ys _ s1 l1 e1 q1 => ?_)
        · obtain ⟨t, e2, ht⟩ := hat.at i x hx
          exact ⟨t, ht.stay (stay_of s1), fun z H2 ez s2 => ⟨trivial, s2, t, z, e2, rfl, ez⟩⟩
        · obtain ⟨zs, rfl, ez⟩ := strs_map (l1.trans lat) q1
          have pth := join_flat (y := "") rfl ez
          have al := atts_len hat
          have al : ((as.map attL).flatten).length ≤ 18000 := by omega
          have aln : Ln 18000 (Txt.join "" zs) := Ln.of pth al
          have nln : Ln 12 nm := nok.2.1
          have tot : (ndL (.elem nm as ns)).length = 1 + (nm.length + (((as.map attL).flatten).length + (1 + ((ndsL ns).length + (2 + (nm.length + 1)))))) := by
            unfold ndL
            simp only [List.length_append, sl_len]
            rfl
          have lns : (ndsL ns).length ≤ 16000000 := by omega
          refine ⟨zs, .inl (sqL_of e1), ?_, nln.plus aln, ?_⟩
          · rw [sum_flat, ez]
            show _ + _ * 0 ≤ _
            omega
          simp only [List.set_cons_succ, List.set_cons_zero]
          have b1 : Ln 1 (Str.empty ++ ("<" : Str)) := by decide
          have fln := nln.app aln
          have b2 := b1.app fln
          have b3 := b2.app (show Ln 1 (">" : Str) by decide)
          refine ⟨_, rfl, b1.ok, fln.ok, _, rfl, b2.ok, _, rfl, b3.ok, ns, ⟨_, _, rfl, s1 _ _ hq, NdsV.stay (stay_of s1) hns⟩, by omega, by omega, lns, fun z H2 ez2 s2 => ?_⟩
          have zln : Ln 16000000 z := Ln.of ez2 lns
          have b4 := b3.app zln
          have b5 := b4.app (show Ln 2 ("</" : Str) by decide)
          have b6 := b5.app nln
          have b7 := b6.app (show Ln 1 (">" : Str) by decide)
          refine ⟨zln.ok, _, rfl, b4.ok, _, rfl, b5.ok, nln.ok, _, rfl, b6.ok, _, rfl, b7.ok, ?_⟩
          refine q _ _ ?_ (s1.trans s2)
          have pth : (Txt.join "" zs).cps.toList = (as.map attL).flatten := pth
          have ez2 : z.cps.toList = ndsL ns := ez2
          simp only [sl, app_list, emp_l, List.append_assoc, List.nil_append, ndL, pth, ez2]
    · exact h.elim
theorem no_wnodes (T : Top K mg) : Ok_written P w base T 8 (fun _ _ _ _ => False) := ⟨fun _ _ _ _ h => h.elim, fun _ _ _ _ _ _ _ _ _ _ _ _ _ h => h.elim⟩
theorem ok_wnode (T : Top K mg) : ∀ n, Ok_written_node P w base T (2 * n + 9) (sp_wnode n)
  | 0 => step_wnode T 0 8 (by decide) _ (no_wnodes T) fun m e => by cases e
  | n + 1 => step_wnode T (n + 1) (2 * n + 10) (by omega) _ (step_wnodes T n (2 * n + 9) (ok_wnode T n)) fun m e => by cases e; rfl
theorem ok_wnodes (T : Top K mg) (n : Nat) : Ok_written P w base T (2 * n + 10) (sp_wnodes n) := step_wnodes T n (2 * n + 9) (ok_wnode T n)
def sp_write : Sp := fun vs H Q _ => match vs with
  | [v] => ∃ ns, TreeV H v ns ∧ (ndsL ns).length ≤ maxS ∧ ∀ z H', sl z = ndsL ns → Same H H' → Q (.str z) H'
  | _ => False
theorem TreeV.stay {H H' : Hp} {v : V} {ns : List Nd} (s : Stay H H') (h : TreeV H v ns) : TreeV H' v ns := by
  obtain ⟨⟨a, vs, e, h1, h2⟩, h3⟩ := h
  exact ⟨⟨a, vs, e, s _ _ rfl h1, NdsV.stay s h2⟩, h3⟩
theorem ok_write (T : Top K mg) (k : Nat) : Ok_write P w base T (k + 23) sp_write := by
  have G_is_tree : Ok_is_tree P w base T 22 sp_tree := ok_tree T 0
  have G_written : Ok_written P w base T 20 (sp_wnodes 5) := ok_wnodes T 5
  refine T.F_write.ok sc_write (fun vs H Q E h => ?_) (fun cdv A outer s H vs Q E hr h => ⟨_, PSs.nox (pss_cons (sif (pt_not (tst (pe_call G_is_tree (hr.mono (by omega)) (by rfl) T.g_is_tree T.F_is_tree.kp (b_is_tree T) .nil pass0 (pa_cons (vr 0) pa_nil)))) (pss_one ps_never) pss_nil)
      (pss_one (ps_ret (pe_call G_written (hr.mono (by omega)) (by rfl) T.g_written T.F_written.kp (b_written T) .nil pass0 (pa_cons (vr 0) pa_nil))))), ?_⟩)
  · unfold sp_write at h
    split at h
    · rfl
    · exact h.elim
  · unfold sp_write at h
    split at h
    · obtain ⟨ns, ht, lm, q⟩ := h
      rw [st_write]
      refine ⟨⟨ns, ht⟩, fun H1 s1 => ?_⟩
      obtain ⟨h1, h2, h3, h4⟩ := ht.stay (stay_of s1)
      exact ⟨ns, h1, by omega, h3, lm, fun z H2 ez s2 => q z H2 ez (s1.trans s2)⟩
    · exact h.elim
end
end Sk
/-! Sk: the word and the fields of an error; what _law_caught gives -/
namespace Sk
open PySem PySem.Spec PyProof.Rows L2
section
variable {P : Program} {w : World} {K : PySem.W.Frag} {mg : Str → Option Value} {base : Heap}
theorem ok_kind (T : Top K mg) (k : Nat) : FnE P w K mg base (k + 1) (He.ga K "_law_kind") T.fd__law_kind ["_law_e"] (spKind K) := by
  refine fnE_of T.F__law_kind sc__law_kind (fun a C d vs H Q E h => by rw [h.1]; rfl) (fun cdv A outer s H vs Q E p C d hr Z h => ?_)
  obtain ⟨rfl, hx, j, kd, q⟩ := h
  refine ⟨_, (pss_cons (ps_set (i := 1) sc__law_kind.nd rfl (by first | exact .inl rfl | exact .inr rfl) (pe_lst (pa_cons (is1 Z kd.exc (kd.one 0) (by rfl) T.n_isinstance (vr 0) (pe_glob (v := .ref (He.ga K "InvalidName")) (by rfl) T.g_InvalidName rfl)) (pa_cons (is1 Z kd.exc (kd.one 1) (by rfl) T.n_isinstance (vr 0) (pe_glob (v := .ref (He.ga K "InvalidText")) (by rfl) T.g_InvalidText rfl)) (pa_cons (is1 Z kd.exc (kd.one 2) (by rfl) T.n_isinstance (vr 0) (pe_glob (v := .ref (He.ga K "InvalidValue")) (by rfl) T.g_InvalidValue rfl)) pa_nil)))))
      (pss_cons (ps_set (i := 1) sc__law_kind.nd rfl (by first | exact .inl rfl | exact .inr rfl) (pe_op (kplus K) (vr 1) (pe_lst (pa_cons (is1 Z kd.exc (kd.one 3) (by rfl) T.n_isinstance (vr 0) (pe_glob (v := .ref (He.ga K "InvalidTree")) (by rfl) T.g_InvalidTree rfl)) (pa_cons (is1 Z kd.exc (kd.one 4) (by rfl) T.n_isinstance (vr 0) (pe_glob (v := .ref (He.ga K "InvalidContext")) (by rfl) T.g_InvalidContext rfl)) (pa_cons (is1 Z kd.exc (kd.one 5) (by rfl) T.n_isinstance (vr 0) (pe_glob (v := .ref (He.ga K "InvalidPage")) (by rfl) T.g_InvalidPage rfl)) pa_nil))))))
      (pss_cons (ps_set (i := 1) sc__law_kind.nd rfl (by first | exact .inl rfl | exact .inr rfl) (pe_op (kplus K) (vr 1) (pe_lst (pa_cons (is1 Z kd.exc (kd.one 6) (by rfl) T.n_isinstance (vr 0) (pe_glob (v := .ref (He.ga K "InvalidBody")) (by rfl) T.g_InvalidBody rfl)) (pa_cons (is1 Z kd.exc (kd.one 7) (by rfl) T.n_isinstance (vr 0) (pe_glob (v := .ref (He.ga K "InvalidTag")) (by rfl) T.g_InvalidTag rfl)) (pa_cons (is1 Z kd.exc (kd.one 8) (by rfl) T.n_isinstance (vr 0) (pe_glob (v := .ref (He.ga K "Misplaced")) (by rfl) T.g_Misplaced rfl)) pa_nil))))))
      (pss_cons (ps_set (i := 1) sc__law_kind.nd rfl (by first | exact .inl rfl | exact .inr rfl) (pe_op (kplus K) (vr 1) (pe_lst (pa_cons (is1 Z kd.exc (kd.one 9) (by rfl) T.n_isinstance (vr 0) (pe_glob (v := .ref (He.ga K "InvalidPlan")) (by rfl) T.g_InvalidPlan rfl)) (pa_cons (is1 Z kd.exc (kd.one 10) (by rfl) T.n_isinstance (vr 0) (pe_glob (v := .ref (He.ga K "InvalidPass")) (by rfl) T.g_InvalidPass rfl)) (pa_cons (is1 Z kd.exc (kd.one 11) (by rfl) T.n_isinstance (vr 0) (pe_glob (v := .ref (He.ga K "InvalidPatches")) (by rfl) T.g_InvalidPatches rfl)) pa_nil))))))
      (pss_cons (ps_set (i := 1) sc__law_kind.nd rfl (by first | exact .inl rfl | exact .inr rfl) (pe_op (kplus K) (vr 1) (pe_lst (pa_cons (is1 Z kd.exc (kd.one 12) (by rfl) T.n_isinstance (vr 0) (pe_glob (v := .ref (He.ga K "InvalidSize")) (by rfl) T.g_InvalidSize rfl)) (pa_cons (is1 Z kd.exc (kd.one 13) (by rfl) T.n_isinstance (vr 0) (pe_glob (v := .ref (He.ga K "InvalidAction")) (by rfl) T.g_InvalidAction rfl)) (pa_cons (is1 Z kd.exc (kd.one 14) (by rfl) T.n_isinstance (vr 0) (pe_glob (v := .ref (He.ga K "InvalidCommand")) (by rfl) T.g_InvalidCommand rfl)) pa_nil))))))
      (pss_cons (ps_set (i := 1) sc__law_kind.nd rfl (by first | exact .inl rfl | exact .inr rfl) (pe_op (kplus K) (vr 1) (pe_lst (pa_cons (is1 Z kd.exc (kd.one 15) (by rfl) T.n_isinstance (vr 0) (pe_glob (v := .ref (He.ga K "NotALibrary")) (by rfl) T.g_NotALibrary rfl)) (pa_cons (is1 Z kd.exc (kd.one 16) (by rfl) T.n_isinstance (vr 0) (pe_glob (v := .ref (He.ga K "TypeTrouble")) (by rfl) T.g_TypeTrouble rfl)) (pa_cons (is1 Z kd.exc (kd.one 17) (by rfl) T.n_isinstance (vr 0) (pe_glob (v := .ref (He.ga K "NameTaken")) (by rfl) T.g_NameTaken rfl)) pa_nil))))))
      (pss_cons (ps_set (i := 1) sc__law_kind.nd rfl (by first | exact .inl rfl | exact .inr rfl) (pe_op (kplus K) (vr 1) (pe_lst (pa_cons (is1 Z kd.exc (kd.one 18) (by rfl) T.n_isinstance (vr 0) (pe_glob (v := .ref (He.ga K "MissingTemplate")) (by rfl) T.g_MissingTemplate rfl)) (pa_cons (is1 Z kd.exc (kd.one 19) (by rfl) T.n_isinstance (vr 0) (pe_glob (v := .ref (He.ga K "InUse")) (by rfl) T.g_InUse rfl)) (pa_cons (is1 Z kd.exc (kd.one 20) (by rfl) T.n_isinstance (vr 0) (pe_glob (v := .ref (He.ga K "Ring")) (by rfl) T.g_Ring rfl)) pa_nil))))))
      (pss_cons (ps_set (i := 1) sc__law_kind.nd rfl (by first | exact .inl rfl | exact .inr rfl) (pe_op (kplus K) (vr 1) (pe_lst (pa_cons (is1 Z kd.exc (kd.one 21) (by rfl) T.n_isinstance (vr 0) (pe_glob (v := .ref (He.ga K "Unfit")) (by rfl) T.g_Unfit rfl)) (pa_cons (is1 Z kd.exc (kd.one 22) (by rfl) T.n_isinstance (vr 0) (pe_glob (v := .ref (He.ga K "NoSuchPath")) (by rfl) T.g_NoSuchPath rfl)) (pa_cons (is1 Z kd.exc (kd.one 23) (by rfl) T.n_isinstance (vr 0) (pe_glob (v := .ref (He.ga K "NotLate")) (by rfl) T.g_NotLate rfl)) pa_nil))))))
      (pss_cons (ps_set (i := 1) sc__law_kind.nd rfl (by first | exact .inl rfl | exact .inr rfl) (pe_op (kplus K) (vr 1) (pe_lst (pa_cons (is1 Z kd.exc (kd.one 24) (by rfl) T.n_isinstance (vr 0) (pe_glob (v := .ref (He.ga K "NotDone")) (by rfl) T.g_NotDone rfl)) (pa_cons (is1 Z kd.exc (kd.one 25) (by rfl) T.n_isinstance (vr 0) (pe_glob (v := .ref (He.ga K "Busy")) (by rfl) T.g_Busy rfl)) (pa_cons (is1 Z kd.exc (kd.one 26) (by rfl) T.n_isinstance (vr 0) (pe_glob (v := .ref (He.ga K "NothingToUndo")) (by rfl) T.g_NothingToUndo rfl)) pa_nil))))))
      (pss_cons (ps_set (i := 1) sc__law_kind.nd rfl (by first | exact .inl rfl | exact .inr rfl) (pe_op (kplus K) (vr 1) (pe_lst (pa_cons (is1 Z kd.exc (kd.one 27) (by rfl) T.n_isinstance (vr 0) (pe_glob (v := .ref (He.ga K "TooManyTemplates")) (by rfl) T.g_TooManyTemplates rfl)) (pa_cons (is1 Z kd.exc (kd.one 28) (by rfl) T.n_isinstance (vr 0) (pe_glob (v := .ref (He.ga K "TooManyLevels")) (by rfl) T.g_TooManyLevels rfl)) (pa_cons (is1 Z kd.exc (kd.one 29) (by rfl) T.n_isinstance (vr 0) (pe_glob (v := .ref (He.ga K "TooManyNodes")) (by rfl) T.g_TooManyNodes rfl)) pa_nil))))))
      (pss_cons (ps_set (i := 1) sc__law_kind.nd rfl (by first | exact .inl rfl | exact .inr rfl) (pe_op (kplus K) (vr 1) (pe_lst (pa_cons (is1 Z kd.exc (kd.one 30) (by rfl) T.n_isinstance (vr 0) (pe_glob (v := .ref (He.ga K "TooManyElements")) (by rfl) T.g_TooManyElements rfl)) (pa_cons (is1 Z kd.exc (kd.one 31) (by rfl) T.n_isinstance (vr 0) (pe_glob (v := .ref (He.ga K "TooManyEntries")) (by rfl) T.g_TooManyEntries rfl)) (pa_cons (is1 Z kd.exc (kd.one 32) (by rfl) T.n_isinstance (vr 0) (pe_glob (v := .ref (He.ga K "TooDeep")) (by rfl) T.g_TooDeep rfl)) pa_nil))))))
      (pss_cons (ps_set (i := 2) sc__law_kind.nd rfl (by first | exact .inl rfl | exact .inr rfl) (pe_lst (pa_cons (is1 (c := .ref (He.ga K "ShapeError")) Z kd.exc kd.b0 (by rfl) T.n_isinstance (vr 0) (pe_glob (v := .ref (He.ga K "ShapeError")) (by rfl) T.g_ShapeError rfl)) (pa_cons (is1 (c := .ref (He.ga K "StateError")) Z kd.exc kd.b1 (by rfl) T.n_isinstance (vr 0) (pe_glob (v := .ref (He.ga K "StateError")) (by rfl) T.g_StateError rfl)) (pa_cons (is1 (c := .ref (He.ga K "SizeError")) Z kd.exc kd.b2 (by rfl) T.n_isinstance (vr 0) (pe_glob (v := .ref (He.ga K "SizeError")) (by rfl) T.g_SizeError rfl)) pa_nil)))))
      (pss_cons (ps_set (i := 3) sc__law_kind.nd rfl (by first | exact .inl rfl | exact .inr rfl) (pe_lst (pa_cons (is1 (c := .ty "ValueError") Z kd.exc kd.o0 (by rfl) T.n_isinstance (vr 0) (pe_bltn (v := .ty "ValueError") (by rfl) T.n_ValueError (by decide +kernel) rfl)) (pa_cons (is1 (c := .ty "LookupError") Z kd.exc kd.o1 (by rfl) T.n_isinstance (vr 0) (pe_bltn (v := .ty "LookupError") (by rfl) T.n_LookupError (by decide +kernel) rfl)) (pa_cons (is1 (c := .ty "ArithmeticError") Z kd.exc kd.o2 (by rfl) T.n_isinstance (vr 0) (pe_bltn (v := .ty "ArithmeticError") (by rfl) T.n_ArithmeticError (by decide +kernel) rfl)) pa_nil)))))
      (pss_cons (sif (tcmp (kother K hr.units) (kcnt K (vr 1) pe_bl) pe_int (nomark _)) (pss_one (ps_ret pe_str)) pss_nil)
      (pss_cons (ps_set (i := 4) sc__law_kind.nd rfl (by first | exact .inl rfl | exact .inr rfl) (kidx K (vr 1) pe_bl))
      (pss_cons (sif (PW.pt (wor (tcmp (kother K hr.units) (vr 2) (pe_lst (pa_cons (pe_cmpR op_ltI (vr 4) pe_int (nomark _)) (pa_cons (vchain op_ltI op_ltI pe_int (vr 4) pe_int) (pa_cons (pe_cmpR op_gtI (vr 4) pe_int (nomark _)) pa_nil)))) (nomark _)) (pw_or1 (tcmp (kother K hr.units) (vr 3) (vr 2) (nomark _))))) (pss_one (ps_ret pe_str)) pss_nil)
      (pss_cons (ps_set (i := 5) sc__law_kind.nd rfl (by first | exact .inl rfl | exact .inr rfl) pe_str)
      (pss_cons (ps_set (i := 5) sc__law_kind.nd rfl (by first | exact .inl rfl | exact .inr rfl) (pe_op (kplus K) (vr 5) pe_str))
      (pss_cons (ps_set (i := 5) sc__law_kind.nd rfl (by first | exact .inl rfl | exact .inr rfl) (pe_op (kplus K) (vr 5) pe_str))
      (pss_one (ps_ret (pe_ix (kget K) (ksplit (pe_split (up (vr 5)) (up pe_str))) (vr 4) (fun _ _ => rfl))))))))))))))))))))))), ?_⟩
  rw [st__law_kind]
  have lt := kd.lt
  revert hx
  refine fun hx => ?_
  have sm : Same H H := Same.refl H
  refine ⟨rfl, rfl, hx, rfl, rfl, hx, rfl, rfl, hx, Nat.le_of_ble_eq_true rfl, fun p0 np => ?_⟩
  simp only [List.set_cons_succ, List.set_cons_zero]
  have hx1 := hx.up (o := .lst [V.bl (decide (0 = j)), V.bl (decide (1 = j)), V.bl (decide (2 = j))]) np
  have sm1 : Same H _ := same_new (o := .lst [V.bl (decide (0 = j)), V.bl (decide (1 = j)), V.bl (decide (2 = j))]) np
  have hl1 : upd H p0 (.lst [V.bl (decide (0 = j)), V.bl (decide (1 = j)), V.bl (decide (2 = j))]) p0 = some (.lst ((List.range 3).map (fbK j))) := upd_same
  revert hx1 sm1 hl1
  generalize upd H p0 _ = G0
  intro hx sm hl
  clear np
  refine ⟨rfl, rfl, hx, rfl, rfl, hx, rfl, rfl, hx, Nat.le_of_ble_eq_true rfl, fun r nr => .inl ⟨_, _, _, _, rfl, rfl, (upd_ne (ne_of_none hl nr)).trans hl, upd_same, Nat.le_of_ble_eq_true rfl, fun p1 np => ?_⟩⟩
  simp only [List.set_cons_succ, List.set_cons_zero]
  have hx1 := (hx.up (o := .lst [V.bl (decide (3 = j)), V.bl (decide (4 = j)), V.bl (decide (5 = j))]) nr).up (o := .lst ((List.range 3).map (fbK j) ++ [V.bl (decide (3 = j)), V.bl (decide (4 = j)), V.bl (decide (5 = j))])) np
  have sm1 := (sm.trans (same_new (o := .lst [V.bl (decide (3 = j)), V.bl (decide (4 = j)), V.bl (decide (5 = j))]) nr)).trans (same_new (o := .lst ((List.range 3).map (fbK j) ++ [V.bl (decide (3 = j)), V.bl (decide (4 = j)), V.bl (decide (5 = j))])) np)
  have hl1 : upd (upd G0 r (.lst [V.bl (decide (3 = j)), V.bl (decide (4 = j)), V.bl (decide (5 = j))])) p1 (.lst ((List.range 3).map (fbK j) ++ [V.bl (decide (3 = j)), V.bl (decide (4 = j)), V.bl (decide (5 = j))])) p1 = some (.lst ((List.range 6).map (fbK j))) := upd_same
  revert hx1 sm1 hl1
  generalize upd (upd G0 r _) p1 _ = G1
  clear hx sm hl np nr
  intro hx sm hl
  refine ⟨rfl, rfl, hx, rfl, rfl, hx, rfl, rfl, hx, Nat.le_of_ble_eq_true rfl, fun r nr => .inl ⟨_, _, _, _, rfl, rfl, (upd_ne (ne_of_none hl nr)).trans hl, upd_same, Nat.le_of_ble_eq_true rfl, fun p2 np => ?_⟩⟩
  simp only [List.set_cons_succ, List.set_cons_zero]
  have hx1 := (hx.up (o := .lst [V.bl (decide (6 = j)), V.bl (decide (7 = j)), V.bl (decide (8 = j))]) nr).up (o := .lst ((List.range 6).map (fbK j) ++ [V.bl (decide (6 = j)), V.bl (decide (7 = j)), V.bl (decide (8 = j))])) np
  have sm1 := (sm.trans (same_new (o := .lst [V.bl (decide (6 = j)), V.bl (decide (7 = j)), V.bl (decide (8 = j))]) nr)).trans (same_new (o := .lst ((List.range 6).map (fbK j) ++ [V.bl (decide (6 = j)), V.bl (decide (7 = j)), V.bl (decide (8 = j))])) np)
  have hl1 : upd (upd G1 r (.lst [V.bl (decide (6 = j)), V.bl (decide (7 = j)), V.bl (decide (8 = j))])) p2 (.lst ((List.range 6).map (fbK j) ++ [V.bl (decide (6 = j)), V.bl (decide (7 = j)), V.bl (decide (8 = j))])) p2 = some (.lst ((List.range 9).map (fbK j))) := upd_same
  revert hx1 sm1 hl1
  generalize upd (upd G1 r _) p2 _ = G2
  clear hx sm hl np nr
  intro hx sm hl
  refine ⟨rfl, rfl, hx, rfl, rfl, hx, rfl, rfl, hx, Nat.le_of_ble_eq_true rfl, fun r nr => .inl ⟨_, _, _, _, rfl, rfl, (upd_ne (ne_of_none hl nr)).trans hl, upd_same, Nat.le_of_ble_eq_true rfl, fun p3 np => ?_⟩⟩
  simp only [List.set_cons_succ, List.set_cons_zero]
  have hx1 := (hx.up (o := .lst [V.bl (decide (9 = j)), V.bl (decide (10 = j)), V.bl (decide (11 = j))]) nr).up (o := .lst ((List.range 9).map (fbK j) ++ [V.bl (decide (9 = j)), V.bl (decide (10 = j)), V.bl (decide (11 = j))])) np
  have sm1 := (sm.trans (same_new (o := .lst [V.bl (decide (9 = j)), V.bl (decide (10 = j)), V.bl (decide (11 = j))]) nr)).trans (same_new (o := .lst ((List.range 9).map (fbK j) ++ [V.bl (decide (9 = j)), V.bl (decide (10 = j)), V.bl (decide (11 = j))])) np)
  have hl1 : upd (upd G2 r (.lst [V.bl (decide (9 = j)), V.bl (decide (10 = j)), V.bl (decide (11 = j))])) p3 (.lst ((List.range 9).map (fbK j) ++ [V.bl (decide (9 = j)), V.bl (decide (10 = j)), V.bl (decide (11 = j))])) p3 = some (.lst ((List.range 12).map (fbK j))) := upd_same
  revert hx1 sm1 hl1
  generalize upd (upd G2 r _) p3 _ = G3
  clear hx sm hl np nr
  intro hx sm hl
  refine ⟨rfl, rfl, hx, rfl, rfl, hx, rfl, rfl, hx, Nat.le_of_ble_eq_true rfl, fun r nr => .inl ⟨_, _, _, _, rfl, rfl, (upd_ne (ne_of_none hl nr)).trans hl, upd_same, Nat.le_of_ble_eq_true rfl, fun p4 np => ?_⟩⟩
  simp only [List.set_cons_succ, List.set_cons_zero]
  have hx1 := (hx.up (o := .lst [V.bl (decide (12 = j)), V.bl (decide (13 = j)), V.bl (decide (14 = j))]) nr).up (o := .lst ((List.range 12).map (fbK j) ++ [V.bl (decide (12 = j)), V.bl (decide (13 = j)), V.bl (decide (14 = j))])) np
  have sm1 := (sm.trans (same_new (o := .lst [V.bl (decide (12 = j)), V.bl (decide (13 = j)), V.bl (decide (14 = j))]) nr)).trans (same_new (o := .lst ((List.range 12).map (fbK j) ++ [V.bl (decide (12 = j)), V.bl (decide (13 = j)), V.bl (decide (14 = j))])) np)
  have hl1 : upd (upd G3 r (.lst [V.bl (decide (12 = j)), V.bl (decide (13 = j)), V.bl (decide (14 = j))])) p4 (.lst ((List.range 12).map (fbK j) ++ [V.bl (decide (12 = j)), V.bl (decide (13 = j)), V.bl (decide (14 = j))])) p4 = some (.lst ((List.range 15).map (fbK j))) := upd_same
  revert hx1 sm1 hl1
  generalize upd (upd G3 r _) p4 _ = G4
  clear hx sm hl np nr
  intro hx sm hl
  refine ⟨rfl, rfl, hx, rfl, rfl, hx, rfl, rfl, hx, Nat.le_of_ble_eq_true rfl, fun r nr => .inl ⟨_, _, _, _, rfl, rfl, (upd_ne (ne_of_none hl nr)).trans hl, upd_same, Nat.le_of_ble_eq_true rfl, fun p5 np => ?_⟩⟩
  simp only [List.set_cons_succ, List.set_cons_zero]
  have hx1 := (hx.up (o := .lst [V.bl (decide (15 = j)), V.bl (decide (16 = j)), V.bl (decide (17 = j))]) nr).up (o := .lst ((List.range 15).map (fbK j) ++ [V.bl (decide (15 = j)), V.bl (decide (16 = j)), V.bl (decide (17 = j))])) np
  have sm1 := (sm.trans (same_new (o := .lst [V.bl (decide (15 = j)), V.bl (decide (16 = j)), V.bl (decide (17 = j))]) nr)).trans (same_new (o := .lst ((List.range 15).map (fbK j) ++ [V.bl (decide (15 = j)), V.bl (decide (16 = j)), V.bl (decide (17 = j))])) np)
  have hl1 : upd (upd G4 r (.lst [V.bl (decide (15 = j)), V.bl (decide (16 = j)), V.bl (decide (17 = j))])) p5 (.lst ((List.range 15).map (fbK j) ++ [V.bl (decide (15 = j)), V.bl (decide (16 = j)), V.bl (decide (17 = j))])) p5 = some (.lst ((List.range 18).map (fbK j))) := upd_same
  revert hx1 sm1 hl1
  generalize upd (upd G4 r _) p5 _ = G5
  clear hx sm hl np nr
  intro hx sm hl
  refine ⟨rfl, rfl, hx, rfl, rfl, hx, rfl, rfl, hx, Nat.le_of_ble_eq_true rfl, fun r nr => .inl ⟨_, _, _, _, rfl, rfl, (upd_ne (ne_of_none hl nr)).trans hl, upd_same, Nat.le_of_ble_eq_true rfl, fun p6 np => ?_⟩⟩
  simp only [List.set_cons_succ, List.set_cons_zero]
  have hx1 := (hx.up (o := .lst [V.bl (decide (18 = j)), V.bl (decide (19 = j)), V.bl (decide (20 = j))]) nr).up (o := .lst ((List.range 18).map (fbK j) ++ [V.bl (decide (18 = j)), V.bl (decide (19 = j)), V.bl (decide (20 = j))])) np
  have sm1 := (sm.trans (same_new (o := .lst [V.bl (decide (18 = j)), V.bl (decide (19 = j)), V.bl (decide (20 = j))]) nr)).trans (same_new (o := .lst ((List.range 18).map (fbK j) ++ [V.bl (decide (18 = j)), V.bl (decide (19 = j)), V.bl (decide (20 = j))])) np)
  have hl1 : upd (upd G5 r (.lst [V.bl (decide (18 = j)), V.bl (decide (19 = j)), V.bl (decide (20 = j))])) p6 (.lst ((List.range 18).map (fbK j) ++ [V.bl (decide (18 = j)), V.bl (decide (19 = j)), V.bl (decide (20 = j))])) p6 = some (.lst ((List.range 21).map (fbK j))) := upd_same
  revert hx1 sm1 hl1
  generalize upd (upd G5 r _) p6 _ = G6
  clear hx sm hl np nr
  intro hx sm hl
  refine ⟨rfl, rfl, hx, rfl, rfl, hx, rfl, rfl, hx, Nat.le_of_ble_eq_true rfl, fun r nr => .inl ⟨_, _, _, _, rfl, rfl, (upd_ne (ne_of_none hl nr)).trans hl, upd_same, Nat.le_of_ble_eq_true rfl, fun p7 np => ?_⟩⟩
  simp only [List.set_cons_succ, List.set_cons_zero]
  have hx1 := (hx.up (o := .lst [V.bl (decide (21 = j)), V.bl (decide (22 = j)), V.bl (decide (23 = j))]) nr).up (o := .lst ((List.range 21).map (fbK j) ++ [V.bl (decide (21 = j)), V.bl (decide (22 = j)), V.bl (decide (23 = j))])) np
  have sm1 := (sm.trans (same_new (o := .lst [V.bl (decide (21 = j)), V.bl (decide (22 = j)), V.bl (decide (23 = j))]) nr)).trans (same_new (o := .lst ((List.range 21).map (fbK j) ++ [V.bl (decide (21 = j)), V.bl (decide (22 = j)), V.bl (decide (23 = j))])) np)
  have hl1 : upd (upd G6 r (.lst [V.bl (decide (21 = j)), V.bl (decide (22 = j)), V.bl (decide (23 = j))])) p7 (.lst ((List.range 21).map (fbK j) ++ [V.bl (decide (21 = j)), V.bl (decide (22 = j)), V.bl (decide (23 = j))])) p7 = some (.lst ((List.range 24).map (fbK j))) := upd_same
  revert hx1 sm1 hl1
  generalize upd (upd G6 r _) p7 _ = G7
  clear hx sm hl np nr
  intro hx sm hl
  refine ⟨rfl, rfl, hx, rfl, rfl, hx, rfl, rfl, hx, Nat.le_of_ble_eq_true rfl, fun r nr => .inl ⟨_, _, _, _, rfl, rfl, (upd_ne (ne_of_none hl nr)).trans hl, upd_same, Nat.le_of_ble_eq_true rfl, fun p8 np => ?_⟩⟩
  simp only [List.set_cons_succ, List.set_cons_zero]
  have hx1 := (hx.up (o := .lst [V.bl (decide (24 = j)), V.bl (decide (25 = j)), V.bl (decide (26 = j))]) nr).up (o := .lst ((List.range 24).map (fbK j) ++ [V.bl (decide (24 = j)), V.bl (decide (25 = j)), V.bl (decide (26 = j))])) np
  have sm1 := (sm.trans (same_new (o := .lst [V.bl (decide (24 = j)), V.bl (decide (25 = j)), V.bl (decide (26 = j))]) nr)).trans (same_new (o := .lst ((List.range 24).map (fbK j) ++ [V.bl (decide (24 = j)), V.bl (decide (25 = j)), V.bl (decide (26 = j))])) np)
  have hl1 : upd (upd G7 r (.lst [V.bl (decide (24 = j)), V.bl (decide (25 = j)), V.bl (decide (26 = j))])) p8 (.lst ((List.range 24).map (fbK j) ++ [V.bl (decide (24 = j)), V.bl (decide (25 = j)), V.bl (decide (26 = j))])) p8 = some (.lst ((List.range 27).map (fbK j))) := upd_same
  revert hx1 sm1 hl1
  generalize upd (upd G7 r _) p8 _ = G8
  clear hx sm hl np nr
  intro hx sm hl
  refine ⟨rfl, rfl, hx, rfl, rfl, hx, rfl, rfl, hx, Nat.le_of_ble_eq_true rfl, fun r nr => .inl ⟨_, _, _, _, rfl, rfl, (upd_ne (ne_of_none hl nr)).trans hl, upd_same, Nat.le_of_ble_eq_true rfl, fun p9 np => ?_⟩⟩
  simp only [List.set_cons_succ, List.set_cons_zero]
  have hx1 := (hx.up (o := .lst [V.bl (decide (27 = j)), V.bl (decide (28 = j)), V.bl (decide (29 = j))]) nr).up (o := .lst ((List.range 27).map (fbK j) ++ [V.bl (decide (27 = j)), V.bl (decide (28 = j)), V.bl (decide (29 = j))])) np
  have sm1 := (sm.trans (same_new (o := .lst [V.bl (decide (27 = j)), V.bl (decide (28 = j)), V.bl (decide (29 = j))]) nr)).trans (same_new (o := .lst ((List.range 27).map (fbK j) ++ [V.bl (decide (27 = j)), V.bl (decide (28 = j)), V.bl (decide (29 = j))])) np)
  have hl1 : upd (upd G8 r (.lst [V.bl (decide (27 = j)), V.bl (decide (28 = j)), V.bl (decide (29 = j))])) p9 (.lst ((List.range 27).map (fbK j) ++ [V.bl (decide (27 = j)), V.bl (decide (28 = j)), V.bl (decide (29 = j))])) p9 = some (.lst ((List.range 30).map (fbK j))) := upd_same
  revert hx1 sm1 hl1
  generalize upd (upd G8 r _) p9 _ = G9
  clear hx sm hl np nr
  intro hx sm hl
  refine ⟨rfl, rfl, hx, rfl, rfl, hx, rfl, rfl, hx, Nat.le_of_ble_eq_true rfl, fun r nr => .inl ⟨_, _, _, _, rfl, rfl, (upd_ne (ne_of_none hl nr)).trans hl, upd_same, Nat.le_of_ble_eq_true rfl, fun p10 np => ?_⟩⟩
  simp only [List.set_cons_succ, List.set_cons_zero]
  have hx1 := (hx.up (o := .lst [V.bl (decide (30 = j)), V.bl (decide (31 = j)), V.bl (decide (32 = j))]) nr).up (o := .lst ((List.range 30).map (fbK j) ++ [V.bl (decide (30 = j)), V.bl (decide (31 = j)), V.bl (decide (32 = j))])) np
  have sm1 := (sm.trans (same_new (o := .lst [V.bl (decide (30 = j)), V.bl (decide (31 = j)), V.bl (decide (32 = j))]) nr)).trans (same_new (o := .lst ((List.range 30).map (fbK j) ++ [V.bl (decide (30 = j)), V.bl (decide (31 = j)), V.bl (decide (32 = j))])) np)
  have hl1 : upd (upd G9 r (.lst [V.bl (decide (30 = j)), V.bl (decide (31 = j)), V.bl (decide (32 = j))])) p10 (.lst ((List.range 30).map (fbK j) ++ [V.bl (decide (30 = j)), V.bl (decide (31 = j)), V.bl (decide (32 = j))])) p10 = some (.lst ((List.range 33).map (fbK j))) := upd_same
  revert hx1 sm1 hl1
  generalize upd (upd G9 r _) p10 _ = G10
  clear hx sm hl np nr
  intro hx sm hl
  refine ⟨rfl, rfl, hx, rfl, rfl, hx, rfl, rfl, hx, Nat.le_of_ble_eq_true rfl, fun pb nb => ?_⟩
  simp only [List.set_cons_succ, List.set_cons_zero]
  have hx2 := hx.up (o := .lst [V.bl (decide (j < 17)), V.bl (decide (16 < j ∧ j < 27)), V.bl (decide (26 < j))]) nb
  refine ⟨rfl, rfl, hx2, rfl, rfl, hx2, rfl, rfl, hx2, Nat.le_of_ble_eq_true rfl, fun po no => ?_⟩
  simp only [List.set_cons_succ, List.set_cons_zero]
  have hk : ∀ {o o' : HO}, upd (upd G10 pb o) po o' p10 = some (.lst ((List.range 33).map (fbK j))) := fun {o o'} => by
    rw [upd_ne (ne_of_none ((upd_ne (ne_of_none hl nb)).trans hl) no), upd_ne (ne_of_none hl nb)]
    exact hl
  have nop := upd_none no
  have hb : ∀ {o o' : HO}, upd (upd G10 pb o) po o' pb = some o := fun {o o'} => by rw [upd_ne nop.1.symm]; exact upd_same
  refine ⟨⟨_, sqL_of hk⟩, _, sqL_of hk, rfl, flat33 j, ?_⟩
  rw [cnt33 j lt]
  refine ⟨⟨_, sqL_of hk⟩, _, j, _, sqL_of hk, rfl, flat33 j, idx33 lt, rfl, fun m z hm hz => idx33n hm hz, ?_⟩
  simp only [List.set_cons_succ, List.set_cons_zero]
  have sm3 : ∀ {o o' : HO}, Same H (upd (upd G10 pb o) po o') := fun {o o'} => (sm.trans (same_new nb)).trans (same_new (by rw [upd_ne nop.1]; exact nop.2))
  have hb3 : ∀ {o o' o'' : HO} {p : Addr}, upd (upd G10 pb o) po o' p = none → upd (upd (upd G10 pb o) po o') p o'' pb = some o := fun {o o' o'' p} np => by
    rw [upd_ne (ne_of_none hb np)]
    exact hb
  have ho3 : ∀ {o o' o'' : HO} {p : Addr}, upd (upd G10 pb o) po o' p = none → upd (upd (upd G10 pb o) po o') p o'' po = some o' := fun {o o' o'' p} np => by
    rw [upd_ne (ne_of_none upd_same np)]
    exact upd_same
  have d3 : ∀ {H' : Hp} {p : Addr} (a b c : Bool), H' p = some (.lst [.bl a, .bl b, .bl c]) → Dp K H' (.ref p) (.list [.bool a, .bool b, .bool c]) := fun a b c h => .lst (sqL_of h) (.cons (.bl a) (.cons (.bl b) (.cons (.bl c) .nil)))
  have eqs : ∀ {c : Bool} {p q : Prop} (a b c' : Bool), c = (if true then !PyData.eqv (.list [.bool a, .bool b, .bool c']) (.list [.bool a, .bool b, .bool c']) else PyData.eqv (.list [.bool a, .bool b, .bool c']) (.list [.bool a, .bool b, .bool c'])) → q → br c p q := fun a b c' e h => brF (by rw [e]; cases a <;> cases b <;> cases c' <;> rfl) h
  rcases (show j < 17 ∨ (16 < j ∧ j < 27) ∨ 26 < j by omega) with h | h | h
  · have e0 : decide (j < 17) = true := decide_eq_true (by omega)
    have e1 : decide (16 < j ∧ j < 27) = false := decide_eq_false (by omega)
    have e2 : decide (26 < j) = false := decide_eq_false (by omega)
    have i0 : decide (((j : Nat) : Int) < 17) = true := decide_eq_true (by omega)
    have i1 : decide ((16 : Int) < ((j : Nat) : Int)) = false := decide_eq_false (by omega)
    have i3 : decide (((j : Nat) : Int) < 27) = true := decide_eq_true (by omega)
    have i2 : decide ((26 : Int) < ((j : Nat) : Int)) = false := decide_eq_false (by omega)
    rw [e0, e1, e2]
    refine brF i1 ?_
    refine ⟨Nat.le_of_ble_eq_true rfl, fun pc nc => ?_⟩
    refine ⟨_, _, d3 true false false (hb3 nc), d3 true false false (upd_same.trans (by show some (HO.lst [V.bl (decide (((j : Nat) : Int) < 17)), V.bl (false), V.bl (decide ((26 : Int) < ((j : Nat) : Int)))]) = _; rw [i0, i2])), rfl, rfl, ?_⟩
    refine ⟨_, _, d3 true false false (ho3 nc), d3 true false false (hb3 nc), rfl, rfl, ?_⟩
    refine ⟨by decide, by decide, ⟨_, rfl⟩, _, _, rfl, rfl, rfl, by decide, fun ps ns => ?_⟩
    exact ⟨_, _, .inl (sqL_of upd_same), (show ∀ j : Nat, j < 33 → atI (List.map V.str (Txt.split _ _)) ((j : Nat) : Int) = some (.str (errW j)) from by decide +kernel) j lt, q _ ((sm3.trans (same_new nc)).trans (same_new ns))⟩
  · have e0 : decide (j < 17) = false := decide_eq_false (by omega)
    have e1 : decide (16 < j ∧ j < 27) = true := decide_eq_true (by omega)
    have e2 : decide (26 < j) = false := decide_eq_false (by omega)
    have i0 : decide (((j : Nat) : Int) < 17) = false := decide_eq_false (by omega)
    have i1 : decide ((16 : Int) < ((j : Nat) : Int)) = true := decide_eq_true (by omega)
    have i3 : decide (((j : Nat) : Int) < 27) = true := decide_eq_true (by omega)
    have i2 : decide ((26 : Int) < ((j : Nat) : Int)) = false := decide_eq_false (by omega)
    rw [e0, e1, e2]
    refine brT i1 ?_
    refine ⟨Nat.le_of_ble_eq_true rfl, fun pc nc => ?_⟩
    refine ⟨_, _, d3 false true false (hb3 nc), d3 false true false (upd_same.trans (by show some (HO.lst [V.bl (decide (((j : Nat) : Int) < 17)), V.bl (decide (((j : Nat) : Int) < 27)), V.bl (decide ((26 : Int) < ((j : Nat) : Int)))]) = _; rw [i0, i2]; rw [i3])), rfl, rfl, ?_⟩
    refine ⟨_, _, d3 false true false (ho3 nc), d3 false true false (hb3 nc), rfl, rfl, ?_⟩
    refine ⟨by decide, by decide, ⟨_, rfl⟩, _, _, rfl, rfl, rfl, by decide, fun ps ns => ?_⟩
    exact ⟨_, _, .inl (sqL_of upd_same), (show ∀ j : Nat, j < 33 → atI (List.map V.str (Txt.split _ _)) ((j : Nat) : Int) = some (.str (errW j)) from by decide +kernel) j lt, q _ ((sm3.trans (same_new nc)).trans (same_new ns))⟩
  · have e0 : decide (j < 17) = false := decide_eq_false (by omega)
    have e1 : decide (16 < j ∧ j < 27) = false := decide_eq_false (by omega)
    have e2 : decide (26 < j) = true := decide_eq_true (by omega)
    have i0 : decide (((j : Nat) : Int) < 17) = false := decide_eq_false (by omega)
    have i1 : decide ((16 : Int) < ((j : Nat) : Int)) = true := decide_eq_true (by omega)
    have i3 : decide (((j : Nat) : Int) < 27) = false := decide_eq_false (by omega)
    have i2 : decide ((26 : Int) < ((j : Nat) : Int)) = true := decide_eq_true (by omega)
    rw [e0, e1, e2]
    refine brT i1 ?_
    refine ⟨Nat.le_of_ble_eq_true rfl, fun pc nc => ?_⟩
    refine ⟨_, _, d3 false false true (hb3 nc), d3 false false true (upd_same.trans (by show some (HO.lst [V.bl (decide (((j : Nat) : Int) < 17)), V.bl (decide (((j : Nat) : Int) < 27)), V.bl (decide ((26 : Int) < ((j : Nat) : Int)))]) = _; rw [i0, i2]; rw [i3])), rfl, rfl, ?_⟩
    refine ⟨_, _, d3 false false true (ho3 nc), d3 false false true (hb3 nc), rfl, rfl, ?_⟩
    refine ⟨by decide, by decide, ⟨_, rfl⟩, _, _, rfl, rfl, rfl, by decide, fun ps ns => ?_⟩
    exact ⟨_, _, .inl (sqL_of upd_same), (show ∀ j : Nat, j < 33 → atI (List.map V.str (Txt.split _ _)) ((j : Nat) : Int) = some (.str (errW j)) from by decide +kernel) j lt, q _ ((sm3.trans (same_new nc)).trans (same_new ns))⟩
end
end Sk
/-! Sk: the fields of an error -/
namespace Sk
open PySem PySem.Spec PyProof.Rows L2
section
variable {P : Program} {w : World} {K : PySem.W.Frag} {mg : Str → Option Value} {base : Heap}
theorem ok_other (T : Top K mg) (k : Nat) : FnE P w K mg base (k + 1) (He.ga K "_law_other_fields") T.fd__law_other_fields ["_law_e"] (spOther K) := by
  refine fnE_of T.F__law_other_fields sc__law_other_fields (fun a C d vs H Q E h => by rw [h.1]; rfl) (fun cdv A outer s H vs Q E p C d hr Z h => ?_)
  obtain ⟨rfl, j, dd, fs, ys, kd, rfl, hd, hv, q⟩ := h
  have xd : XdAt (some dd) H := ⟨dd, fs, rfl, hd⟩
  refine ⟨_, (pss_cons (sif (tst (is1 Z kd.exc (kd.one 8) (by rfl) T.n_isinstance (vr 0) (pe_glob (v := .ref (He.ga K "Misplaced")) (by rfl) T.g_Misplaced rfl))) (pss_one (ps_ret (pe_lst (pa_cons (xfld Z kd.xf (kd.no _ (by decide)) (vr 0)) (pa_cons (xfld Z kd.xf (kd.no _ (by decide)) (vr 0)) pa_nil))))) pss_nil)
      (pss_cons (sif (tst (is1 Z kd.exc (kd.one 1) (by rfl) T.n_isinstance (vr 0) (pe_glob (v := .ref (He.ga K "InvalidText")) (by rfl) T.g_InvalidText rfl))) (pss_one (ps_ret (pe_lst (pa_cons (xfld Z kd.xf (kd.no _ (by decide)) (vr 0)) pa_nil)))) pss_nil)
      (pss_cons (sif (tst (is1 Z kd.exc (kd.one 4) (by rfl) T.n_isinstance (vr 0) (pe_glob (v := .ref (He.ga K "InvalidContext")) (by rfl) T.g_InvalidContext rfl))) (pss_one (ps_ret (pe_lst (pa_cons (xfld Z kd.xf (kd.no _ (by decide)) (vr 0)) pa_nil)))) pss_nil)
      (pss_cons (sif (tst (is1 Z kd.exc (kd.one 12) (by rfl) T.n_isinstance (vr 0) (pe_glob (v := .ref (He.ga K "InvalidSize")) (by rfl) T.g_InvalidSize rfl))) (pss_one (ps_ret (pe_lst (pa_cons (xfld Z kd.xf (kd.no _ (by decide)) (vr 0)) pa_nil)))) pss_nil)
      (pss_cons (sif (tst (is1 Z kd.exc (kd.one 16) (by rfl) T.n_isinstance (vr 0) (pe_glob (v := .ref (He.ga K "TypeTrouble")) (by rfl) T.g_TypeTrouble rfl))) (pss_one (ps_ret (pe_lst (pa_cons (xfld Z kd.xf (kd.no _ (by decide)) (vr 0)) pa_nil)))) pss_nil)
      (pss_one (ps_ret (vif (tst (is1 Z kd.exc (kd.one 14) (by rfl) T.n_isinstance (vr 0) (pe_glob (v := .ref (He.ga K "InvalidCommand")) (by rfl) T.g_InvalidCommand rfl))) (pe_lst (pa_cons (xfld Z kd.xf (kd.no _ (by decide)) (vr 0)) pa_nil)) (pe_lst pa_nil))))))))), ?_⟩
  rw [st__law_other_fields]
  unfold errFo at hv
  refine ⟨rfl, rfl, xd, br2 (fun e0 => ?_) (fun e0 => ?_)⟩
  · rw [if_pos e0] at hv
    obtain ⟨u, v, h1, h2, rfl⟩ := vals2 hv
    exact ⟨rfl, dd, fs, u, rfl, hd, h1, rfl, dd, fs, v, rfl, hd, h2, Nat.le_of_ble_eq_true rfl, fun r nr => q r _ (same_new nr) nr upd_same⟩
  rw [if_neg (by rw [e0]; decide)] at hv
  refine ⟨rfl, rfl, xd, br2 (fun e1 => ?_) (fun e1 => ?_)⟩
  · rw [if_pos e1] at hv
    obtain ⟨v, h1, rfl⟩ := vals1 hv
    exact ⟨rfl, dd, fs, v, rfl, hd, h1, Nat.le_of_ble_eq_true rfl, fun r nr => q r _ (same_new nr) nr upd_same⟩
  rw [if_neg (by rw [e1]; decide)] at hv
  refine ⟨rfl, rfl, xd, br2 (fun e2 => ?_) (fun e2 => ?_)⟩
  · rw [if_pos e2] at hv
    obtain ⟨v, h1, rfl⟩ := vals1 hv
    exact ⟨rfl, dd, fs, v, rfl, hd, h1, Nat.le_of_ble_eq_true rfl, fun r nr => q r _ (same_new nr) nr upd_same⟩
  rw [if_neg (by rw [e2]; decide)] at hv
  refine ⟨rfl, rfl, xd, br2 (fun e3 => ?_) (fun e3 => ?_)⟩
  · rw [if_pos e3] at hv
    obtain ⟨v, h1, rfl⟩ := vals1 hv
    exact ⟨rfl, dd, fs, v, rfl, hd, h1, Nat.le_of_ble_eq_true rfl, fun r nr => q r _ (same_new nr) nr upd_same⟩
  rw [if_neg (by rw [e3]; decide)] at hv
  refine ⟨rfl, rfl, xd, br2 (fun e4 => ?_) (fun e4 => ?_)⟩
  · rw [if_pos e4] at hv
    obtain ⟨v, h1, rfl⟩ := vals1 hv
    exact ⟨rfl, dd, fs, v, rfl, hd, h1, Nat.le_of_ble_eq_true rfl, fun r nr => q r _ (same_new nr) nr upd_same⟩
  rw [if_neg (by rw [e4]; decide)] at hv
  refine ⟨rfl, rfl, xd, br2 (fun e5 => ?_) (fun e5 => ?_)⟩
  · rw [if_pos e5] at hv
    obtain ⟨v, h1, rfl⟩ := vals1 hv
    exact ⟨rfl, dd, fs, v, rfl, hd, h1, Nat.le_of_ble_eq_true rfl, fun r nr => q r _ (same_new nr) nr upd_same⟩
  · rw [if_neg (by rw [e5]; decide)] at hv
    have e : [] = ys := Option.some.inj hv
    subst e
    exact ⟨by decide, fun r nr => q r _ (same_new nr) nr upd_same⟩
theorem ok_fields (T : Top K mg) (k : Nat) : FnE P w K mg base (k + 2) (He.ga K "_law_fields_of") T.fd__law_fields_of ["_law_e"] (spFields K) := by
  have G__law_other_fields : FnE P w K mg base (k + 1) (He.ga K "_law_other_fields") T.fd__law_other_fields ["_law_e"] (spOther K) := ok_other T k
  refine fnE_of T.F__law_fields_of sc__law_fields_of (fun a C d vs H Q E h => by rw [h.1]; rfl) (fun cdv A outer s H vs Q E p C d hr Z h => ?_)
  obtain ⟨rfl, j, dd, fs, ys, kd, rfl, hd, hv, q⟩ := h
  refine ⟨_, (pss_cons (sif (tst (isT Z kd.exc (kd.any [0, 17, 18, 19, 20, 23] (by decide)) (by rfl) T.n_isinstance (vr 0) (pe_tup (pa_cons (pe_glob (v := .ref (He.ga K "InvalidName")) (by rfl) T.g_InvalidName rfl) (pa_cons (pe_glob (v := .ref (He.ga K "NameTaken")) (by rfl) T.g_NameTaken rfl) (pa_cons (pe_glob (v := .ref (He.ga K "MissingTemplate")) (by rfl) T.g_MissingTemplate rfl) (pa_cons (pe_glob (v := .ref (He.ga K "InUse")) (by rfl) T.g_InUse rfl) (pa_cons (pe_glob (v := .ref (He.ga K "Ring")) (by rfl) T.g_Ring rfl) (pa_cons (pe_glob (v := .ref (He.ga K "NotLate")) (by rfl) T.g_NotLate rfl) pa_nil))))))))) (pss_one (ps_ret (pe_lst (pa_cons (xfld Z kd.xf (kd.no _ (by decide)) (vr 0)) pa_nil)))) pss_nil)
      (pss_cons (sif (tst (isT Z kd.exc (kd.any [2, 3, 9, 15] (by decide)) (by rfl) T.n_isinstance (vr 0) (pe_tup (pa_cons (pe_glob (v := .ref (He.ga K "InvalidValue")) (by rfl) T.g_InvalidValue rfl) (pa_cons (pe_glob (v := .ref (He.ga K "InvalidTree")) (by rfl) T.g_InvalidTree rfl) (pa_cons (pe_glob (v := .ref (He.ga K "InvalidPlan")) (by rfl) T.g_InvalidPlan rfl) (pa_cons (pe_glob (v := .ref (He.ga K "NotALibrary")) (by rfl) T.g_NotALibrary rfl) pa_nil))))))) (pss_one (ps_ret (pe_lst (pa_cons (xfld Z kd.xf (kd.no _ (by decide)) (vr 0)) pa_nil)))) pss_nil)
      (pss_cons (sif (tst (isT Z kd.exc (kd.any [5, 6, 7] (by decide)) (by rfl) T.n_isinstance (vr 0) (pe_tup (pa_cons (pe_glob (v := .ref (He.ga K "InvalidPage")) (by rfl) T.g_InvalidPage rfl) (pa_cons (pe_glob (v := .ref (He.ga K "InvalidBody")) (by rfl) T.g_InvalidBody rfl) (pa_cons (pe_glob (v := .ref (He.ga K "InvalidTag")) (by rfl) T.g_InvalidTag rfl) pa_nil)))))) (pss_one (ps_ret (pe_lst (pa_cons (xfld Z kd.xf (kd.no _ (by decide)) (vr 0)) pa_nil)))) pss_nil)
      (pss_cons (sif (tst (isT Z kd.exc (kd.any [10, 11, 13] (by decide)) (by rfl) T.n_isinstance (vr 0) (pe_tup (pa_cons (pe_glob (v := .ref (He.ga K "InvalidPass")) (by rfl) T.g_InvalidPass rfl) (pa_cons (pe_glob (v := .ref (He.ga K "InvalidPatches")) (by rfl) T.g_InvalidPatches rfl) (pa_cons (pe_glob (v := .ref (He.ga K "InvalidAction")) (by rfl) T.g_InvalidAction rfl) pa_nil)))))) (pss_one (ps_ret (pe_lst (pa_cons (xfld Z kd.xf (kd.no _ (by decide)) (vr 0)) pa_nil)))) pss_nil)
      (pss_cons (sif (tst (isT Z kd.exc (kd.any [21, 22] (by decide)) (by rfl) T.n_isinstance (vr 0) (pe_tup (pa_cons (pe_glob (v := .ref (He.ga K "Unfit")) (by rfl) T.g_Unfit rfl) (pa_cons (pe_glob (v := .ref (He.ga K "NoSuchPath")) (by rfl) T.g_NoSuchPath rfl) pa_nil))))) (pss_one (ps_ret (pe_lst (pa_cons (xfld Z kd.xf (kd.no _ (by decide)) (vr 0)) pa_nil)))) pss_nil)
      (pss_cons (sif (tst (isT Z kd.exc (kd.any [27, 28, 29, 30, 31, 32] (by decide)) (by rfl) T.n_isinstance (vr 0) (pe_tup (pa_cons (pe_glob (v := .ref (He.ga K "TooManyTemplates")) (by rfl) T.g_TooManyTemplates rfl) (pa_cons (pe_glob (v := .ref (He.ga K "TooManyLevels")) (by rfl) T.g_TooManyLevels rfl) (pa_cons (pe_glob (v := .ref (He.ga K "TooManyNodes")) (by rfl) T.g_TooManyNodes rfl) (pa_cons (pe_glob (v := .ref (He.ga K "TooManyElements")) (by rfl) T.g_TooManyElements rfl) (pa_cons (pe_glob (v := .ref (He.ga K "TooManyEntries")) (by rfl) T.g_TooManyEntries rfl) (pa_cons (pe_glob (v := .ref (He.ga K "TooDeep")) (by rfl) T.g_TooDeep rfl) pa_nil))))))))) (pss_one (ps_ret (pe_lst (pa_cons (xfld Z kd.xf (kd.no _ (by decide)) (vr 0)) pa_nil)))) pss_nil)
      (pss_one (ps_ret (pecallE G__law_other_fields Z (hr.mono (by omega)) (by rfl) T.g__law_other_fields T.F__law_other_fields.kp (b__law_other_fields T) (pa_cons (vr 0) pa_nil)))))))))), ?_⟩
  rw [st__law_fields_of]
  unfold errFs at hv
  have sm : Same H H := Same.refl H
  refine ⟨Nat.le_of_ble_eq_true rfl, fun p0 n0 => ⟨rfl, ⟨p0, rfl, upd_same⟩, ⟨dd, fs, rfl, (upd_ne (ne_of_none (sm _ _ hd) n0)).trans (sm _ _ hd)⟩, ?_⟩⟩
  have sm1 : ∀ o, Same H (upd H p0 o) := fun o => sm.trans (same_new n0)
  generalize hG : upd H p0 _ = G0
  have sm2 : Same H G0 := hG ▸ sm1 _
  clear sm sm1 n0 hG
  rename Same H G0 => sm
  refine br2 (fun e0 => ?_) (fun e0 => ?_)
  · rw [if_pos e0] at hv
    obtain ⟨v, h1, rfl⟩ := vals1 hv
    exact ⟨rfl, dd, fs, v, rfl, sm _ _ hd, h1, Nat.le_of_ble_eq_true rfl, fun r nr => q r _ (sm.trans (same_new nr)) (sm.free nr) upd_same⟩
  rw [if_neg (by rw [e0]; decide)] at hv
  refine ⟨Nat.le_of_ble_eq_true rfl, fun p1 n1 => ⟨rfl, ⟨p1, rfl, upd_same⟩, ⟨dd, fs, rfl, (upd_ne (ne_of_none (sm _ _ hd) n1)).trans (sm _ _ hd)⟩, ?_⟩⟩
  have sm1 : ∀ o, Same H (upd G0 p1 o) := fun o => sm.trans (same_new n1)
  generalize hG : upd G0 p1 _ = G1
  have sm2 : Same H G1 := hG ▸ sm1 _
  clear sm sm1 n1 hG
  rename Same H G1 => sm
  refine br2 (fun e1 => ?_) (fun e1 => ?_)
  · rw [if_pos e1] at hv
    obtain ⟨v, h1, rfl⟩ := vals1 hv
    exact ⟨rfl, dd, fs, v, rfl, sm _ _ hd, h1, Nat.le_of_ble_eq_true rfl, fun r nr => q r _ (sm.trans (same_new nr)) (sm.free nr) upd_same⟩
  rw [if_neg (by rw [e1]; decide)] at hv
  refine ⟨Nat.le_of_ble_eq_true rfl, fun p2 n2 => ⟨rfl, ⟨p2, rfl, upd_same⟩, ⟨dd, fs, rfl, (upd_ne (ne_of_none (sm _ _ hd) n2)).trans (sm _ _ hd)⟩, ?_⟩⟩
  have sm1 : ∀ o, Same H (upd G1 p2 o) := fun o => sm.trans (same_new n2)
  generalize hG : upd G1 p2 _ = G2
  have sm2 : Same H G2 := hG ▸ sm1 _
  clear sm sm1 n2 hG
  rename Same H G2 => sm
  refine br2 (fun e2 => ?_) (fun e2 => ?_)
  · rw [if_pos e2] at hv
    obtain ⟨v, h1, rfl⟩ := vals1 hv
    exact ⟨rfl, dd, fs, v, rfl, sm _ _ hd, h1, Nat.le_of_ble_eq_true rfl, fun r nr => q r _ (sm.trans (same_new nr)) (sm.free nr) upd_same⟩
  rw [if_neg (by rw [e2]; decide)] at hv
  refine ⟨Nat.le_of_ble_eq_true rfl, fun p3 n3 => ⟨rfl, ⟨p3, rfl, upd_same⟩, ⟨dd, fs, rfl, (upd_ne (ne_of_none (sm _ _ hd) n3)).trans (sm _ _ hd)⟩, ?_⟩⟩
  have sm1 : ∀ o, Same H (upd G2 p3 o) := fun o => sm.trans (same_new n3)
  generalize hG : upd G2 p3 _ = G3
  have sm2 : Same H G3 := hG ▸ sm1 _
  clear sm sm1 n3 hG
  rename Same H G3 => sm
  refine br2 (fun e3 => ?_) (fun e3 => ?_)
  · rw [if_pos e3] at hv
    obtain ⟨v, h1, rfl⟩ := vals1 hv
    exact ⟨rfl, dd, fs, v, rfl, sm _ _ hd, h1, Nat.le_of_ble_eq_true rfl, fun r nr => q r _ (sm.trans (same_new nr)) (sm.free nr) upd_same⟩
  rw [if_neg (by rw [e3]; decide)] at hv
  refine ⟨Nat.le_of_ble_eq_true rfl, fun p4 n4 => ⟨rfl, ⟨p4, rfl, upd_same⟩, ⟨dd, fs, rfl, (upd_ne (ne_of_none (sm _ _ hd) n4)).trans (sm _ _ hd)⟩, ?_⟩⟩
  have sm1 : ∀ o, Same H (upd G3 p4 o) := fun o => sm.trans (same_new n4)
  generalize hG : upd G3 p4 _ = G4
  have sm2 : Same H G4 := hG ▸ sm1 _
  clear sm sm1 n4 hG
  rename Same H G4 => sm
  refine br2 (fun e4 => ?_) (fun e4 => ?_)
  · rw [if_pos e4] at hv
    obtain ⟨v, h1, rfl⟩ := vals1 hv
    exact ⟨rfl, dd, fs, v, rfl, sm _ _ hd, h1, Nat.le_of_ble_eq_true rfl, fun r nr => q r _ (sm.trans (same_new nr)) (sm.free nr) upd_same⟩
  rw [if_neg (by rw [e4]; decide)] at hv
  refine ⟨Nat.le_of_ble_eq_true rfl, fun p5 n5 => ⟨rfl, ⟨p5, rfl, upd_same⟩, ⟨dd, fs, rfl, (upd_ne (ne_of_none (sm _ _ hd) n5)).trans (sm _ _ hd)⟩, ?_⟩⟩
  have sm1 : ∀ o, Same H (upd G4 p5 o) := fun o => sm.trans (same_new n5)
  generalize hG : upd G4 p5 _ = G5
  have sm2 : Same H G5 := hG ▸ sm1 _
  clear sm sm1 n5 hG
  rename Same H G5 => sm
  refine br2 (fun e5 => ?_) (fun e5 => ?_)
  · rw [if_pos e5] at hv
    obtain ⟨v, h1, rfl⟩ := vals1 hv
    exact ⟨rfl, dd, fs, v, rfl, sm _ _ hd, h1, Nat.le_of_ble_eq_true rfl, fun r nr => q r _ (sm.trans (same_new nr)) (sm.free nr) upd_same⟩
  rw [if_neg (by rw [e5]; decide)] at hv
  exact ⟨rfl, j, dd, fs, ys, kd, rfl, sm _ _ hd, hv, fun r G s2 n2 h2 => q r G (sm.trans s2) (sm.free n2) h2⟩
end
end Sk
/-! Sk: what _law_caught gives -/
namespace Sk
open PySem PySem.Spec PyProof.Rows L2
theorem gives_caught {X : Cx} (T : Top X.K X.mg) {k : Nat} (hr : Room (k + 4) X.A) (cdv : Value) (q : Str) :
    LamX.GivesTo X ["_law_call", "_law_e"] "_law_caught" (defScope s__law_caught) (He.ga X.K "_law_caught") cdv (defBody s__law_caught) "_law_call" q (TCaught X.K) := by
  have G__law_kind : FnE X.prog X.w X.K X.mg X.base 1 (He.ga X.K "_law_kind") T.fd__law_kind ["_law_e"] (spKind X.K) := ok_kind T 0
  have G__law_fields_of : FnE X.prog X.w X.K X.mg X.base 2 (He.ga X.K "_law_fields_of") T.fd__law_fields_of ["_law_e"] (spFields X.K) := ok_fields T 0
  intro f c' s H Q tl act hc h
  have hr1 : Room (k + 3) (X.A.deeper (envOfC "_law_caught" (defScope s__law_caught) s.heap.objs.size (He.ga X.K "_law_caught") cdv)) := hr.deeper _
  refine ⟨_, pss_one (try3 (X := (cxOf C8.CX0 X.prog X.w X.K X.mg X.base ["_law_call", "_law_e"] "_law_caught" (defScope s__law_caught) (He.ga X.K "_law_caught") cdv X.A X.stack s H C8.E0).nox) (i := 1)
      (c1 := .ref (He.ga X.K "ShapeError")) (c2 := .ref (He.ga X.K "StateError")) (c3 := .ref (He.ga X.K "SizeError"))
      (tb := fun W D σ H => ∃ Ech : XK, (∀ cls d σ' H', Ech cls d H' → W cls d σ' H') ∧ σ[0]? = some (some (.ref f)) ∧ H c' = some (LamX.CodeO c' q) ∧ tl Ech H fun v H1 => [V.str "returned", v].length ≤ sizeLine ∧ ∀ p, H1 p = none → D.rt (.ref p) (upd H1 p (.lst [V.str "returned", v])))
      (ts := fun a cls d D σ H => ∃ C, cls = .ref C ∧ (tOp (rPlus X.K) (tLst (tCons (fun σ H Q => tCons (uVar 1) tNil σ H fun vs H1 => spKind X.K a C d vs H1 Q E0) tNil)) (fun σ H Q => tCons (uVar 1) tNil σ H fun vs H1 => spFields X.K a C d vs H1 Q E0)) σ H D.rt)
      rfl rfl sc__law_caught.nd rfl rfl ⟨rfl, by decide, .inl T.g_ShapeError⟩ ⟨rfl, by decide, .inl T.g_StateError⟩ ⟨rfl, by decide, .inl T.g_SizeError⟩ LamX.takes0 (fun W pn xe tk _ => ?_) (fun a oe cls d pn hz hf => ?_)), ?_⟩
  · refine ⟨fun pins s' σ H' D I h' => ?_⟩
    obtain ⟨Ech, hW, h1, h2, h3⟩ := h'
    exact (pss_one (ps_ret (pe_lst (pa_cons pe_str (pa_cons (act W pn xe Ech _ _ tk hW) pa_nil))))).run pins s' σ H' D I ⟨h1, h2, h3⟩
  · refine ⟨fun pins s' σ H' D I h' => ?_⟩
    obtain ⟨C, rfl, h'⟩ := h'
    obtain ⟨vs, hv⟩ := hf
    have Z : Held ((cxOf C8.CX0 X.prog X.w X.K X.mg X.base ["_law_call", "_law_e"] "_law_caught" (defScope s__law_caught) (He.ga X.K "_law_caught") cdv X.A X.stack s H C8.E0).nox.suite a ((a, oe) :: pn)) a C d := ⟨oe, vs, List.mem_cons_self, hz, hv⟩
    have rh : L2H.RoomH 2 ((X.A.deeper (envOfC "_law_caught" (defScope s__law_caught) s.heap.objs.size (He.ga X.K "_law_caught") cdv)).mark (some (.ref a))) := L2H.RoomH.mono (k := k + 3) ⟨hr1.dp, hr1.un⟩ (by omega)
    exact (pss_one (ps_ret (pe_op (kplus X.K) (pe_lst (pa_cons (pecallE (X := ((cxOf C8.CX0 X.prog X.w X.K X.mg X.base ["_law_call", "_law_e"] "_law_caught" (defScope s__law_caught) (He.ga X.K "_law_caught") cdv X.A X.stack s H C8.E0).nox.suite a ((a, oe) :: pn))) G__law_kind Z (rh.mono (by omega)) (by rfl) T.g__law_kind T.F__law_kind.kp (b__law_kind T) (pa_cons (vr 1) pa_nil)) pa_nil)) (pecallE (X := ((cxOf C8.CX0 X.prog X.w X.K X.mg X.base ["_law_call", "_law_e"] "_law_caught" (defScope s__law_caught) (He.ga X.K "_law_caught") cdv X.A X.stack s H C8.E0).nox.suite a ((a, oe) :: pn))) G__law_fields_of Z rh (by rfl) T.g__law_fields_of T.F__law_fields_of.kp (b__law_fields_of T) (pa_cons (vr 1) pa_nil))))).run pins s' σ H' D I h'
  · refine ⟨eCaught X.K Q, fun cls d σ' H' z => ?_, rfl, hc, h⟩
    obtain ⟨C, j, dd, fs, ys, rfl, kd, rfl, h1, hv, z⟩ := z
    refine ⟨true, kd.exm, fun _ hl a na => ⟨C, rfl, ?_⟩, fun y => nomatch y⟩
    match σ', hl with
    | [x, y], _ =>
      refine ⟨rfl, ⟨dd, fs, rfl, h1⟩, j, kd, fun H1 s1 => ⟨Nat.le_of_ble_eq_true rfl, fun p np => ⟨rfl, j, dd, fs, ys, kd, rfl, (upd_ne (ne_of_none (s1 _ _ h1) np)).trans (s1 _ _ h1), hv, fun p2 H2 s2 n2 h2 => .inl ⟨p, p2, _, ys, rfl, rfl, s2 _ _ upd_same, h2, ?_, fun p3 n3 => ?_⟩⟩⟩⟩
      · have e1 := vals_len hv
        have e2 := errFs_len j
        rw [sizeLine_eq]
        show 1 + ys.length ≤ _
        omega
      · have s3 := (s1.trans (same_new np)).trans s2
        exact z p3 _ (s3.trans (same_new n3)) (s3.free n3) upd_same
end Sk
/-! Sk: _law_caught(lambda: ..) -/
namespace Sk
open PySem PySem.Spec PyProof.Rows L2
theorem lam_caught {X : Cx} {K : PySem.W.Frag} {mg : Str → Option Value} (T : Top K mg) {k : Nat} {c P' : Addr} {Tt : List (Addr × Str)} {params : Arguments} {body : Expr} {scope : Scope} {t : XK → TE} {p lpos pos : Pos} (hg : Gl X "_law_caught")
    (TB : LamX.TabB X.base X.mg c P') (hcode : X.env.code = .ref c) (hmT : (P', X.env.qual ++ "<lambda>") ∈ Tt) (hu : ∀ p ∈ Tt, p.1 = P' → p.2 = X.env.qual ++ "<lambda>") (hr : Room (k + 4) X.A) (L : LamX.LamS X.env.scope scope) (hdef : defaultsOf params X.env = ([], []))
    (hbind : ∀ (q : Str) (cl : List (Str × Addr)) (pm cv ctv : Value), bindArgs (PySem.W.kla_fn "<lambda>" q params body scope cl pm cv ctv) ⟨[], []⟩ = pure [])
    (hbody : ∀ (A : Around) (outer : List Env) (s : Shared) (H : Hp) (E : XK) (f c' : Addr), Room (k + 2) (A.deeper (LamX.lamEnv X scope s.heap.objs.size f c')) → PE (LamX.lamCx X A outer s H E scope f c') body (t E))
    (hK : X.K = K := by rfl) (hM : X.mg = mg := by rfl) :
    PE X (.Call (.Name "_law_caught" p) [.Lambda params body scope lpos] [] pos) (LamX.tLam Tt (TCaught K) t) := by
  subst hK hM
  obtain ⟨oc, od, dV, kV, doc, pm, an, cdv, ct, osl, efd, look, code, _, _⟩ := T.F__law_caught.ex
  have bc := b__law_caught T
  rw [efd] at bc look
  exact LamX.pe_lamcall (k := k + 2) hg T.g__law_caught T.F__law_caught.kp look code bc sc__law_caught rfl (.inl rfl) (gives_caught T hr cdv _) TB hcode hmT hu hr L hdef hbind hbody
end Sk
/-! Sk: t[::-1] of a tuple -/
namespace Sk
open PySem PySem.Spec PyProof.Rows L2
theorem adjust_rev (n : Nat) : Builtin.Slice.sliceAdjust none none (-1) (n : Int) = ((n : Int) - 1, -1) := rfl
theorem places_rev (n : Nat) : Builtin.Slice.slicePlaces ((n : Int) - 1) (-1) (-1) = n := by
  unfold Builtin.Slice.slicePlaces
  rw [if_neg (by decide)]
  by_cases h : (n : Int) - 1 > -1
  · rw [if_pos h]
    have : (- (-1 : Int)) = 1 := rfl
    rw [this, Int.ediv_one]
    omega
  · rw [if_neg h]
    omega
theorem pick_rev (xs : Array Value) : ((List.range xs.size).filterMap fun (k : Nat) => xs[(((xs.size : Int) - 1) + (k : Int) * (-1)).toNat]?) = xs.toList.reverse := by
  have e : ((List.range xs.size).filterMap fun (k : Nat) => xs[(((xs.size : Int) - 1) + (k : Int) * (-1)).toNat]?) = ((List.range xs.size).map fun k => xs.size - 1 - k).filterMap (xs[·]?) := by
    rw [List.filterMap_map]
    congr 1
    funext k
    have : ((((xs.size : Int) - 1) + (k : Int) * (-1)).toNat) = xs.size - 1 - k := by omega
    rw [this]
    rfl
  rw [e, PySem.W.krv_range, List.filterMap_reverse, PySem.W.krv_all]
section
variable {prog : Program} {w : World} {A : Around} {E : Value → Shared → Prop} {s : Shared}
theorem getItem_tuple_rev {t sl : Addr} {items : Array Value} {vl vu vs : Value} {Q : Value → Shared → Prop} (ht : IsTup s.heap t items) (hs : s.heap.IsSliceOf sl vl vu vs) (pl : IsPart vl none) (pu : IsPart vu none) (ps : IsPart vs (some (-1)))
    (h : Q (.ref s.heap.objs.size) { s with heap := s.heap.push { cls := .type "tuple", data := .seq items.toList.reverse.toArray } })
    (hsz : items.size ≤ sizeLine) : wpAny (model prog w) A (getItem (.ref t) (.ref sl)) Q E s := by
  have htake : sizeOk (.seq items.toList.reverse.toArray) := by
    show items.toList.reverse.toArray.size ≤ sizeLine
    rw [List.size_toArray, List.length_reverse, Array.length_toList]
    exact hsz
  obtain ⟨os, hos, hcs, hds⟩ := id hs
  have hTs : s.TypeIs (.ref sl) "slice" := ⟨os, hos, hcs⟩
  unfold getItem
  try with_reducible refine wpAny_holding ?_
  first | refine wpAny_bind (wpAny_pure ?_) | skip
  refine wpAny_bind (wpAny_sequenceKey ht.typeIs (by decide) ?_)
  refine wpAny_bind (wpAny_callSpecial?_slot (name := Str.ofString "__getitem__") ht.typeIs PyProof.Rows.slot_tuple_getitem
    (wpAny_call_entry PyProof.Rows.slot_tuple_getitem ht.typeIs entry_tuple_getitem ?_ (args_tuple_getitem _ _)))
  show wpAny _ _ (Builtin.Tuple.tupleItemsOf (.ref t) >>= _) _ _ s
  refine wpAny_bind (tupleItemsOf_ ht ?_)
  refine wpAny_bind (wpAny_typeOf hTs ?_)
  rw [if_pos (by decide)]
  refine wpAny_bind ?_
  unfold Builtin.Slice.sliceApplied Builtin.Slice.sliceFields
  refine wpAny_bind (wpAny_bind (wpAny_field hos hds (x := vl) rfl (wpAny_bind (wpAny_field hos hds (x := vu) rfl (wpAny_bind (wpAny_field hos hds (x := vs) rfl (wpAny_pure ?_)))))))
  refine wpAny_bind (HT.slicePart_ ps ?_)
  show wpAny _ _ (if ((-1 : Int) == 0) = true then _ else _) _ _ s
  rw [if_neg (by decide)]
  refine wpAny_bind (HT.slicePart_ pl (wpAny_bind (HT.slicePart_ pu (wpAny_bind (wpAny_pure ?_)))))
  show wpAny _ _ (match Builtin.Slice.sliceAdjust none none (-1) ((items.size : Nat) : Int) with | (lo, hi) => pure (lo, (-1 : Int), Builtin.Slice.slicePlaces lo hi (-1))) _ _ s
  rw [adjust_rev]
  show wpAny _ _ (pure (((items.size : Nat) : Int) - 1, (-1 : Int), Builtin.Slice.slicePlaces (((items.size : Nat) : Int) - 1) (-1) (-1))) _ _ s
  rw [places_rev]
  refine wpAny_pure ?_
  have hno : ¬ (((((items.size : Nat) : Int) - 1) == 0 && (-1 : Int) == 1 && items.size == items.size) = true) := by
    intro q
    rw [Bool.and_eq_true, Bool.and_eq_true] at q
    exact absurd q.1.2 (by decide)
  show wpAny _ _ (if ((((items.size : Nat) : Int) - 1) == 0 && (-1 : Int) == 1 && items.size == items.size) = true then _ else _) _ _ s
  rw [if_neg hno, pick_rev]
  first
    | exact wpAny_bind (m := Builtin.Tuple.tupleExact _) (wpAny_newObj_type (wpAny_pure ⟨_, rfl, wpAny_pure h⟩) htake)
    | exact wpAny_bind (m := Builtin.Tuple.tupleExact _) (wpAny_newObj_type (wpAny_bind (wpAny_pure (wpAny_pure ⟨_, rfl, wpAny_pure h⟩))) htake)
    | exact wpAny_bind (wpAny_bind (m := Builtin.Tuple.tupleExact _) (wpAny_newObj_type (wpAny_pure (wpAny_pure ⟨_, rfl, wpAny_pure h⟩)) htake))
    | exact wpAny_bind (wpAny_bind (m := Builtin.Tuple.tupleExact _) (wpAny_newObj_type (wpAny_pure ⟨_, rfl, wpAny_pure h⟩) htake))
end
def uRevT (K : Fg) (te : TE) : TE := fun σ H Q => te σ H fun x H1 => match x with
  | .ref a => ∃ xs, SqT K H1 a xs ∧ ∀ p, H1 p = none → Q (.ref p) (upd H1 p (.tup xs.reverse))
  | _ => False
theorem krevT {X : Cx} (K : Fg) {e : Expr} {te : TE} {k : Nat} {p1 p2 p3 pos : Pos} (he : PE X e te) (hK : X.K = K := by rfl) : PE X (.Subscript e (.Slice none none (some (.UnaryOp .USub (.Constant (.int 1) k p1) p2)) p3) pos) (uRevT K te) := by
  subst hK
  refine ⟨fun pins s σ H Q I h => ?_⟩
  refine Subscript_ (thn (he.run pins s σ H _ I h) fun v s1 ⟨x, H1, I1, r1, q1⟩ => ?_)
  cases x with
  | ref a =>
    obtain ⟨xs, hx, q⟩ := q1
    cases r1
    have hst : PO X (some (.UnaryOp .USub (.Constant (.int 1) k p1) p2)) (tPart (tUn (rU fun i => .int (-i)) (tC (.int 1)))) := po_some (pe_un un_neg pe_int)
    refine wpAny_Slice (thn (po_none.run pins s1 σ H1 (fun o H2 => o = none ∧ H2 = H1) I1 ⟨rfl, rfl⟩) fun vl s2 ⟨l, H2, I2, pl, el, e2⟩ => ?_)
    subst el e2
    refine thn (po_none.run pins s2 σ H2 (fun o H3 => o = none ∧ H3 = H2) I2 ⟨rfl, rfl⟩) fun vu s3 ⟨u, H3, I3, pu, eu, e3⟩ => ?_
    subst eu e3
    refine thn (hst.run pins s3 σ H3 (fun o H4 => o = some (-1) ∧ H4 = H3) I3 ⟨1, rfl, -1, rfl, rfl, rfl⟩) fun vs s4 ⟨o, H4, I4, ps, eo, e4⟩ => ?_
    subst eo e4
    have I5 : Inv X pins σ H4 { s4 with heap := s4.heap.push { cls := .type "slice", data := .fields #[vl, vu, vs] } } := I4.kept (t' := s4.toks) fun b ob q => Heap.get?_push_of_some _ q
    obtain ⟨its, r, ht, hz⟩ := I5.tuple hx
    have hlen := r.length
    show wpAny (model X.prog X.w) X.A (subscriptTail e (.Slice none none (some (.UnaryOp .USub (.Constant (.int 1) k p1) p2)) p3) (.ref a) (.ref s4.heap.objs.size)) (EP X pins σ Q) X.xe { s4 with heap := s4.heap.push { cls := .type "slice", data := .fields #[vl, vu, vs] } }
    refine tail_any (ops := [.ref a, .ref s4.heap.objs.size]) ht.typeIs (PyProof.Rows.slot_tuple_getitem.lookup) ?_ (by with_unfolding_all rfl)
    refine getItem_tuple_rev ht (Heap.IsSliceOf.new _ vl vu vs) pl pu ps ?_ (by rw [List.size_toArray]; omega)
    refine ⟨.ref _, _, I5.laid (t' := s4.toks) (o := .tup xs.reverse) (fun b ob q => Heap.get?_push_of_some _ q) (Nat.le_refl _) ?_, rfl, q _ (I5.hok.fresh (Nat.le_refl _))⟩
    exact ⟨by rw [List.length_reverse]; exact hz, _, r.reverse, ⟨_, Heap.get?_push_size _ rfl, rfl, _, rfl⟩⟩
  | _ => exact q1.elim
end Sk
/-! Sk: patches of a text, in plain lists -/
namespace Sk
open PySem PySem.Spec PyProof.Rows L2
abbrev Pt := Nat × Nat × Str
def okP (len : Nat) : Nat → List Pt → Prop
  | d, [] => d ≤ len
  | d, (s, e, n) :: r => d ≤ s ∧ s ≤ e ∧ e ≤ len ∧ (s < e ∨ n ≠ "") ∧ n.length ≤ 1000 ∧ okP len e r
def endP : Nat → List Pt → Nat
  | d, [] => d
  | _, (_, e, _) :: r => endP e r
def pcs (cs : List Nat) : Nat → List Pt → List Str
  | _, [] => []
  | d, (s, e, n) :: r => (mkS ((cs.drop d).take (s - d)) ++ n) :: pcs cs e r
def fwdP (cs : List Nat) (d : Nat) (ps : List Pt) : List Nat := ((pcs cs d ps).map fun z => z.cps.toList).flatten ++ cs.drop (endP d ps)
def bwP (cs : List Nat) : List Pt → List Nat
  | [] => cs
  | (s, e, n) :: r => (bwP cs r).take s ++ n.cps.toList ++ (bwP cs r).drop e
theorem okP_le {len : Nat} : ∀ {ps : List Pt} {d : Nat}, okP len d ps → d ≤ len ∧ d ≤ endP d ps ∧ endP d ps ≤ len
  | [], d, h => ⟨h, Nat.le_refl _, h⟩
  | (s, e, n) :: r, d, h => by
    obtain ⟨h1, h2, h3, _, _, h5⟩ := h
    obtain ⟨a, b, c⟩ := okP_le h5
    refine ⟨by omega, ?_, c⟩
    show d ≤ endP e r
    omega
theorem app_cps (a b : Str) : (a ++ b).cps.toList = a.cps.toList ++ b.cps.toList := app_list a b
theorem fwd_bw {cs : List Nat} : ∀ {ps : List Pt} {d : Nat}, okP cs.length d ps → bwP cs ps = cs.take d ++ fwdP cs d ps
  | [], d, h => (List.take_append_drop d cs).symm
  | (s, e, n) :: r, d, h => by
    obtain ⟨h1, h2, h3, _, _, h5⟩ := h
    have ih := fwd_bw h5
    have l1 : (cs.take e).length = e := by rw [List.length_take]; omega
    show (bwP cs r).take s ++ n.cps.toList ++ (bwP cs r).drop e = _
    rw [ih]
    have t1 : (cs.take e ++ fwdP cs e r).take s = cs.take s := by
      rw [List.take_append_of_le_length (by omega), List.take_take, Nat.min_eq_left h2]
    have t2 : (cs.take e ++ fwdP cs e r).drop e = fwdP cs e r := by
      rw [List.drop_append_of_le_length (by omega), List.drop_of_length_le (by omega), List.nil_append]
    have t3 : cs.take s = cs.take d ++ (cs.drop d).take (s - d) := by
      have : s = d + (s - d) := by omega
      rw [this, List.take_add]
      congr 2
      omega
    rw [t1, t2, t3]
    show _ = cs.take d ++ (((mkS ((cs.drop d).take (s - d)) ++ n).cps.toList :: (pcs cs e r).map fun z => z.cps.toList).flatten ++ cs.drop (endP e r))
    rw [List.flatten_cons, app_cps, mk_list]
    unfold fwdP
    simp only [List.append_assoc]
theorem okP_app {len : Nat} : ∀ {l r : List Pt} {d : Nat}, okP len d (l ++ r) → okP len (endP d l) r
  | [], r, d, h => h
  | (s, e, n) :: l, r, d, h => okP_app (l := l) h.2.2.2.2.2
theorem endP_app : ∀ (l r : List Pt) (d : Nat), endP d (l ++ r) = endP (endP d l) r
  | [], _, _ => rfl
  | (_, e, _) :: l, r, _ => endP_app l r e
theorem pcs_app (cs : List Nat) : ∀ (l r : List Pt) (d : Nat), pcs cs d (l ++ r) = pcs cs d l ++ pcs cs (endP d l) r
  | [], _, _ => rfl
  | (s, e, n) :: l, r, d => by
    show _ :: pcs cs e (l ++ r) = _
    rw [pcs_app cs l r e]
    rfl
theorem pcs_sum {cs : List Nat} {len : Nat} : ∀ {ps : List Pt} {d : Nat}, okP len d ps → ((pcs cs d ps).map (·.length)).sum ≤ (cs.length + 1000) * ps.length
  | [], d, _ => Nat.le_refl _
  | (s, e, n) :: r, d, h => by
    have ih := pcs_sum (cs := cs) h.2.2.2.2.2
    have hn := h.2.2.2.2.1
    show (mkS ((cs.drop d).take (s - d)) ++ n).length + ((pcs cs e r).map (·.length)).sum ≤ (cs.length + 1000) * (r.length + 1)
    rw [app_len, mk_len, List.length_take, List.length_drop, Nat.mul_succ]
    omega
theorem join_pcs (cs : List Nat) (d : Nat) (ps : List Pt) (x : Str) (h : x.cps.toList = cs.drop (endP d ps)) : Txt.join "" (pcs cs d ps) ++ x = mkS (fwdP cs d ps) := by
  refine mk_eq ?_
  rw [app_list, join_empty rfl, h]
  rfl
theorem okP_snoc {len : Nat} {s e : Nat} {n : Str} : ∀ {ps : List Pt} {d : Nat}, okP len d ps → endP d ps ≤ s → s ≤ e → e ≤ len → (s < e ∨ n ≠ "") → n.length ≤ 1000 → okP len d (ps ++ [(s, e, n)])
  | [], d, h, h1, h2, h3, h4, h5 => ⟨h1, h2, h3, h4, h5, h3⟩
  | (s', e', n') :: r, d, h, h1, h2, h3, h4, h5 => ⟨h.1, h.2.1, h.2.2.1, h.2.2.2.1, h.2.2.2.2.1, okP_snoc h.2.2.2.2.2 h1 h2 h3 h4 h5⟩
theorem okP_mem {len : Nat} : ∀ {ps : List Pt} {d : Nat} {p : Pt}, okP len d ps → p ∈ ps → p.1 ≤ len ∧ p.2.1 ≤ len ∧ p.2.2.length ≤ 1000
  | (s, e, n) :: r, d, p, h, hm => by
    obtain ⟨h1, h2, h3, h4, h5, h6⟩ := h
    rcases List.mem_cons.mp hm with rfl | hm
    · exact ⟨by omega, h3, h5⟩
    · exact okP_mem h6 hm
theorem okP_at {len : Nat} : ∀ {ps : List Pt} {d i : Nat} {p : Pt}, okP len d ps → ps[i]? = some p → p.1 ≤ p.2.1 ∧ p.2.2.length ≤ 1000
  | (s, e, n) :: r, d, 0, p, h, hm => by
    have e1 : (s, e, n) = p := by simpa using hm
    rw [← e1]
    exact ⟨h.2.1, h.2.2.2.2.1⟩
  | (s, e, n) :: r, d, i + 1, p, h, hm => okP_at h.2.2.2.2.2 (by simpa using hm)
/-- a new object, the heap named anew -/
theorem lay_of {H G : Hp} {q : Addr} {o : HO} (hG : upd H q o = G) (n : H q = none) : Same H G ∧ G q = some o ∧ H q = none := by
  subst hG
  exact ⟨same_new n, upd_same, n⟩
/-- the patches in the heap -/
inductive PtsV (H : Hp) : List V → List Pt → Prop
  | nil : PtsV H [] []
  | cons {a : Addr} {s e : Nat} {n : Str} {vs : List V} {ps : List Pt} : H a = some (.tup [.int s, .int e, .str n]) → PtsV H vs ps → PtsV H (.ref a :: vs) ((s, e, n) :: ps)
theorem PtsV.on {H H' : Hp} (s : Same H H') : ∀ {vs : List V} {ps : List Pt}, PtsV H vs ps → PtsV H' vs ps
  | _, _, .nil => .nil
  | _, _, .cons h r => .cons (s _ _ h) (r.on s)
theorem PtsV.len {H : Hp} : ∀ {vs : List V} {ps : List Pt}, PtsV H vs ps → vs.length = ps.length
  | _, _, .nil => rfl
  | _, _, .cons _ r => by rw [List.length_cons, List.length_cons, r.len]
theorem PtsV.at {H : Hp} : ∀ {vs : List V} {ps : List Pt} {i : Nat} {x : V}, PtsV H vs ps → vs[i]? = some x → ∃ a s e n, x = .ref a ∧ H a = some (.tup [.int (s : Nat), .int (e : Nat), .str n]) ∧ ps[i]? = some (s, e, n)
  | _, _, i, x, .nil, h => by simp at h
  | _, _, 0, x, .cons (a := a) (s := s) (e := e) (n := n) h r, h2 => by
    have e1 : V.ref a = x := by simpa using h2
    exact ⟨a, s, e, n, e1.symm, h, rfl⟩
  | _, _, i + 1, x, .cons h r, h2 => r.at (by simpa using h2)
theorem PtsV.snoc {H : Hp} {a : Addr} {s e : Nat} {n : Str} (h : H a = some (.tup [.int s, .int e, .str n])) : ∀ {vs : List V} {ps : List Pt}, PtsV H vs ps → PtsV H (vs ++ [.ref a]) (ps ++ [(s, e, n)])
  | _, _, .nil => .cons h .nil
  | _, _, .cons h2 r => .cons h2 (r.snoc h)
theorem PtsV.dp {K : Fg} {H : Hp} : ∀ {vs : List V} {ps : List Pt}, PtsV H vs ps → DpAll K H vs (ps.map fun p => .tuple [.int (p.1 : Nat), .int (p.2.1 : Nat), .str p.2.2])
  | _, _, .nil => .nil
  | _, _, .cons h r => .cons (.tup (sqT_of h) (.cons (.int _) (.cons (.int _) (.cons (.str _) .nil)))) r.dp
/-! ### the promise of patched -/
def patchB (s e : Int) (n : Str) (lo hi : Int) : Bool := decide (lo ≤ s) && (decide (s ≤ e) && (decide (e ≤ hi) && (decide (s < e) || !decide (V.str n = V.str ""))))
/-- what is_patch tells of v -/
def PatB (H : Hp) (v : V) (lo hi : Int) (b : Bool) : Prop :=
  (∃ t, Kn H v t ∧ t ≠ .tup ∧ b = false) ∨ ∃ p xs, v = .ref p ∧ H p = some (.tup xs) ∧
    ((xs.length ≠ 3 ∧ b = false) ∨ ∃ x y z tx ty tz, xs = [x, y, z] ∧ Kn H x tx ∧ Kn H y ty ∧ Kn H z tz ∧
      ((tz ≠ .str ∧ b = false) ∨ (tz = .str ∧ tx ≠ .int ∧ b = false) ∨ (tz = .str ∧ tx = .int ∧ ty ≠ .int ∧ b = false) ∨ ∃ s e n, x = .int s ∧ y = .int e ∧ z = .str n ∧ b = patchB s e n lo hi))
theorem PatB.on {H H' : Hp} {v : V} {lo hi : Int} {b : Bool} (s : Same H H') (h : PatB H v lo hi b) : PatB H' v lo hi b := by
  rcases h with ⟨t, kn, r⟩ | ⟨p, xs, e, hp, h⟩
  · exact .inl ⟨t, kn.on s, r⟩
  · refine .inr ⟨p, xs, e, s _ _ hp, ?_⟩
    rcases h with h | ⟨x, y, z, tx, ty, tz, e2, k1, k2, k3, h⟩
    · exact .inl h
    · exact .inr ⟨x, y, z, tx, ty, tz, e2, k1.on s, k2.on s, k3.on s, h⟩
def spPd (CT CP : Addr) : Sp := fun vs H Q E =>
  (∃ t x ty, vs = [t, x] ∧ Kn H t ty ∧ ty ≠ .str ∧ ∀ d, H d = none → E (.ref CT) (some d) (xUpd H d "written" t)) ∨
  (∃ z x ty, vs = [.str z, x] ∧ Kn H x ty ∧ ty ≠ .tup ∧ ∀ d, H d = none → E (.ref CP) (some d) (xUpd H d "index" .non)) ∨
  ∃ z p us rest ps, vs = [.str z, .ref p] ∧ H p = some (.tup (us ++ rest)) ∧ PtsV H us ps ∧ okP z.length 0 ps ∧ z.length ≤ 1000 ∧ ps.length + rest.length ≤ 40 ∧
    ((rest = [] ∧ ∀ H', Same H H' → Q (.str (mkS (fwdP z.cps.toList 0 ps))) H') ∨
     ∃ b r, rest = b :: r ∧ PatB H b ((endP 0 ps : Nat) : Int) ((z.length : Nat) : Int) false ∧ ∀ H' d, Same H H' → H' d = none → E (.ref CP) (some d) (xUpd H' d "index" (.int ((ps.length : Nat) : Int))))
end Sk
/-! Sk: heaps without their tables -/
namespace Sk
open PySem PySem.Spec PyProof.Rows L2
/-- the heap without the tables of code objects -/
def noT (H : Hp) : Hp := fun b => match H b with
  | some (.tbl _) => none
  | o => o
theorem noT_sub {H : Hp} : Same (noT H) H := fun b o h => by
  unfold noT at h
  split at h
  · cases h
  · exact h
theorem noT_get {H : Hp} {b : Addr} {o : HO} (h : H b = some o) (n : ∀ ps, o ≠ .tbl ps) : noT H b = some o := by
  unfold noT
  split
  · rename_i ps e
    rw [h] at e
    exact (n ps (Option.some.inj e)).elim
  · exact h
/-- a heap without tables -/
def NoT (B : Hp) : Prop := ∀ b ps, B b ≠ some (.tbl ps)
theorem noT_no (H : Hp) : NoT (noT H) := fun b ps h => by
  unfold noT at h
  split at h
  · cases h
  · rename_i hh
    exact hh ps h
theorem NoT.ext {B H H1 : Hp} (n : NoT B) (s : Same B H) (e : LamX.ExtN H H1) : Same B H1 := fun b o h => e b o (s b o h) fun ps z => n b ps (by rw [h, z])
theorem NoT.up {B : Hp} (n : NoT B) {p : Addr} {o : HO} (h : ∀ ps, o ≠ .tbl ps) : NoT (upd B p o) := fun b ps e => by
  by_cases hb : b = p
  · rw [hb, upd_same] at e
    exact h ps (Option.some.inj e)
  · rw [upd_ne hb] at e
    exact n b ps e
/-- what is no table and not at a stays -/
def KeepN (a : Addr) (H H' : Hp) : Prop := ∀ b o, b ≠ a → (∀ ps, o ≠ .tbl ps) → H b = some o → H' b = some o
theorem KeepN.of {a : Addr} {H H3 H' : Hp} (k : Keep a H H3) (s : Same (noT H3) H') : KeepN a H H' := fun b o nb nt h => s b o (noT_get (k b o nb h) nt)
theorem tabs_keep {T : List (Addr × Str)} {a : Addr} {H H' : Hp} (pl : Pool H a) (k : Keep a H H') (t : LamX.Tabs T H) : LamX.Tabs T H' := by
  intro p hp
  obtain ⟨ps, h1, h2, h3⟩ := t p hp
  obtain ⟨s, d, n, hq, _⟩ := pl
  refine ⟨ps, k _ _ (fun z => by rw [z, hq] at h1; cases h1) h1, h2, fun pos cv hc => ?_⟩
  obtain ⟨c, e1, e2⟩ := h3 pos cv hc
  refine ⟨c, e1, k _ _ (fun z => ?_) e2⟩
  rw [z, hq] at e2
  have e3 : HO.lst _ = LamX.CodeO a p.2 := Option.some.inj e2
  unfold LamX.CodeO at e3
  cases e3
theorem strs_one : ∀ {ys : List V}, (∀ (i : Nat) (y : V), ys[i]? = some y → ∃ z : Str, y = .str z ∧ z.length = 1) → ∃ zs : List Str, ys = zs.map V.str ∧ (zs.map (·.length)).sum = ys.length
  | [], _ => ⟨[], rfl, rfl⟩
  | y :: ys, h => by
    obtain ⟨z, e, l⟩ := h 0 y rfl
    obtain ⟨zs, e2, l2⟩ := strs_one (ys := ys) fun i y hy => h (i + 1) y (by simpa using hy)
    refine ⟨z :: zs, by rw [e, e2]; rfl, ?_⟩
    rw [List.map_cons, List.sum_cons, l, l2, List.length_cons]
    omega
theorem atI_last {α : Type} (xs : List α) (x : α) : atI (xs ++ [x]) (-1) = some x := by
  unfold atI ixN
  rw [if_neg (by decide), List.length_append]
  rw [if_pos (by simp; omega)]
  show (xs ++ [x])[_]? = some x
  rw [show (-1 + ((xs.length + [x].length : Nat) : Int)).toNat = xs.length by simp; omega]
  simp
theorem PtsV.last {H : Hp} : ∀ {us : List V} {ps : List Pt}, PtsV H us ps → ps ≠ [] → ∃ us' a ps' s e n, us = us' ++ [.ref a] ∧ ps = ps' ++ [(s, e, n)] ∧ H a = some (.tup [.int (s : Nat), .int (e : Nat), .str n])
  | _, _, .nil, h => (h rfl).elim
  | _, _, .cons (a := a) (s := s) (e := e) (n := n) h .nil, _ => ⟨[], a, [], s, e, n, rfl, rfl, h⟩
  | _, _, .cons (a := a) (s := s) (e := e) (n := n) h (.cons h2 r), _ => by
    obtain ⟨us', b, ps', s', e', n', e1, e2, h3⟩ := PtsV.last (.cons h2 r) (by simp)
    exact ⟨.ref a :: us', b, (s, e, n) :: ps', s', e', n', by rw [e1]; rfl, by rw [e2]; rfl, h3⟩
theorem eqvP (ps : List Pt) : PyData.eqv (.tuple (ps.map fun p => .tuple [.int (p.1 : Nat), .int (p.2.1 : Nat), .str p.2.2])) (.tuple []) = ps.isEmpty := by
  cases ps with
  | nil => rfl
  | cons x r => rfl
theorem shpP (ps : List Pt) : shp (.tuple (ps.map fun p => .tuple [.int (p.1 : Nat), .int (p.2.1 : Nat), .str p.2.2])) = true := by
  have h1 : ∀ ps : List Pt, PyData.plainAll (ps.map fun p => .tuple [.int (p.1 : Nat), .int (p.2.1 : Nat), .str p.2.2]) = true := fun ps => by
    induction ps with
    | nil => rfl
    | cons x r ih => exact ih
  have h2 : ∀ ps : List Pt, PyData.depthAll (ps.map fun p => .tuple [.int (p.1 : Nat), .int (p.2.1 : Nat), .str p.2.2]) ≤ 2 := fun ps => by
    induction ps with
    | nil => exact Nat.zero_le _
    | cons x r ih => exact Nat.max_le.mpr ⟨Nat.le_of_ble_eq_true rfl, ih⟩
  unfold shp
  rw [Bool.and_eq_true]
  refine ⟨h1 ps, decide_eq_true ?_⟩
  have := h2 ps
  show _ + 1 ≤ 64
  omega
theorem pts_noT {H : Hp} : ∀ {vs : List V} {ps : List Pt}, PtsV H vs ps → PtsV (noT H) vs ps
  | _, _, .nil => .nil
  | _, _, .cons h r => .cons (noT_get h fun _ z => by cases z) (pts_noT r)
theorem kn_noT {H : Hp} {v : V} {t : Ty7} (h : Kn H v t) : Kn (noT H) v t := by
  cases t with
  | lst => obtain ⟨p, xs, rfl, h⟩ := h; exact ⟨p, xs, rfl, noT_get h fun _ z => by cases z⟩
  | tup => obtain ⟨p, xs, rfl, h⟩ := h; exact ⟨p, xs, rfl, noT_get h fun _ z => by cases z⟩
  | dic => obtain ⟨p, xs, rfl, h⟩ := h; exact ⟨p, xs, rfl, noT_get h fun _ z => by cases z⟩
  | _ => exact h
theorem patB_noT {H : Hp} {v : V} {lo hi : Int} {b : Bool} (h : PatB H v lo hi b) : PatB (noT H) v lo hi b := by
  rcases h with ⟨t, kn, r⟩ | ⟨p, xs, e, hp, h⟩
  · exact .inl ⟨t, kn_noT kn, r⟩
  · refine .inr ⟨p, xs, e, noT_get hp (fun _ z => by cases z), ?_⟩
    rcases h with h | ⟨x, y, z, tx, ty, tz, e2, k1, k2, k3, h⟩
    · exact .inl h
    · exact .inr ⟨x, y, z, tx, ty, tz, e2, kn_noT k1, kn_noT k2, kn_noT k3, h⟩
end Sk
/-! Sk: what _law_caught makes of wrong patches -/
namespace Sk
open PySem PySem.Spec PyProof.Rows L2
theorem uV {σ : L2.St} {i : Nat} {v : V} (h : σ[i]? = some (some v)) {H : Hp} {Q : VK} (q : Q v H) : uVar i σ H Q := by
  unfold uVar
  rw [h]
  exact q
section
variable {K : Fg} {CT CP : Addr} {σ : L2.St} {H1 : Hp} {Q0 : VK}
theorem xupd_same {H : Hp} {d : Addr} {f : Str} {v : V} (n : H d = none) : Same H (xUpd H d f v) := same_new n
/-- an error of patched, caught -/
theorem caughtE {C : Addr} {j : Nat} {f : Str} {v : V} {G : Hp} {d : Addr} (kd : KindAt K C j) (ef : errFs j = [f]) (n : G d = none) (hq : ∀ pz H', Same G H' → H' pz = some (.lst [.str (errW j), v]) → Q0 (.ref pz) H') : eCaught K Q0 (.ref C) (some d) (xUpd G d f v) := by
  refine ⟨C, j, d, [(f, v)], [v], rfl, kd, rfl, upd_same, ?_, fun p H' s _ h => hq p H' ((xupd_same n).trans s) h⟩
  rw [ef]
  unfold valsOf valsOf
  rw [show List.lookup f [(f, v)] = some v by simp [List.lookup]]
/-- row + (odd,) + more -/
theorem caughtA (kd : KindAt K CP 11) {z : Str} {p tm : Addr} {us r : List V} {ps : List Pt} {x : V} (h7 : σ[7]? = some (some (.str z))) (h6 : σ[6]? = some (some (.ref p))) (h5 : σ[5]? = some (some x)) (h4 : σ[4]? = some (some (.ref tm)))
    (hp : H1 p = some (.tup us)) (hm : H1 tm = some (.tup r)) (hv : PtsV H1 us ps) (ok : okP z.length 0 ps) (lz : z.length ≤ 1000) (ll : ps.length + r.length ≤ 30) (pb : PatB H1 x ((endP 0 ps : Nat) : Int) ((z.length : Nat) : Int) false)
    (hq : ∀ pz H', Same H1 H' → H' pz = some (.lst [.str (errW 11), .int ((ps.length : Nat) : Int)]) → Q0 (.ref pz) H') :
    TCaught K (fun E H' Q' => tCall (spPd CT CP) [] E (tCons (uVar 7) (tCons (tOp (rPlus K) (tOp (rPlus K) (uVar 6) (tTup (tCons (uVar 5) tNil))) (uVar 4)) tNil)) σ H' Q') H1 Q0 := by
  have leaf : ∀ {px : Addr} {G : Hp} {QR : VK}, Same H1 G → G px = some (.tup (us ++ (x :: r))) → spPd CT CP [.str z, .ref px] G QR (eCaught K Q0) := fun {px G QR} s h =>
    .inr (.inr ⟨z, px, us, x :: r, ps, rfl, h, hv.on s, ok, lz, by rw [List.length_cons]; omega, .inr ⟨x, r, rfl, pb.on s, fun H' d s2 nd => caughtE kd rfl nd fun pz H3 s3 h3 => hq pz H3 ((s.trans s2).trans s3) h3⟩⟩)
  have second : ∀ {v : Addr} {G : Hp} {QR : VK}, Same H1 G → G v = some (.tup (us ++ [x])) → rPlus K (.ref v) (.ref tm) G (fun w H' => spPd CT CP [.str z, w] H' QR (eCaught K Q0)) := fun {v G QR} s h => by
    refine .inr ⟨v, tm, us ++ [x], r, rfl, rfl, sqT_of h, sqT_of (s _ _ hm), ?_, fun e => ?_, fun _ e => ?_, fun _ _ q n => ?_⟩
    · rw [List.length_append, List.length_singleton, hv.len, sizeLine_eq]
      omega
    · exact absurd e (by simp)
    · subst e
      exact leaf s (by rw [h])
    · refine leaf (s.trans (same_new n)) ?_
      rw [upd_same, List.append_assoc]
      rfl
  dsimp only [TCaught, tCall, tCons, tOp, tTup, tNil]
  refine uV h7 ?_
  refine uV h6 ?_
  refine uV h5 ?_
  refine ⟨Nat.le_of_ble_eq_true rfl, fun t3 n3 => ?_⟩
  refine .inr ⟨p, t3, us, [x], rfl, rfl, sqT_of (same_new n3 _ _ hp), sqT_of upd_same, ?_, fun e => ?_, fun _ e => ?_, fun _ _ q n => ?_⟩
  · rw [List.length_singleton, hv.len, sizeLine_eq]
    omega
  · subst e
    exact uV h4 (second (same_new n3) upd_same)
  · cases e
  · exact uV h4 (second ((same_new n3).trans (same_new n)) upd_same)
/-- patched(word, odd), odd no tuple or a tuple of no patch -/
theorem caughtB (kd : KindAt K CP 11) {z : Str} {x : V} (h7 : σ[7]? = some (some (.str z))) (h5 : σ[5]? = some (some x)) (lz : z.length ≤ 1000) {i : V}
    (hx : (i = .non ∧ ∃ t, Kn H1 x t ∧ t ≠ .tup) ∨ (i = .int 0 ∧ ∃ p b r, x = .ref p ∧ H1 p = some (.tup (b :: r)) ∧ r.length ≤ 10 ∧ PatB H1 b 0 ((z.length : Nat) : Int) false))
    (hq : ∀ pz H', Same H1 H' → H' pz = some (.lst [.str (errW 11), i]) → Q0 (.ref pz) H') :
    TCaught K (fun E H' Q' => tCall (spPd CT CP) [] E (tCons (uVar 7) (tCons (uVar 5) tNil)) σ H' Q') H1 Q0 := by
  dsimp only [TCaught, tCall, tCons, tOp, tTup, tNil]
  refine uV h7 ?_
  refine uV h5 ?_
  rcases hx with ⟨rfl, t, kn, ne⟩ | ⟨rfl, p, b, r, rfl, hp, lr, pb⟩
  · exact .inr (.inl ⟨z, x, t, rfl, kn, ne, fun d nd => caughtE kd rfl nd hq⟩)
  · exact .inr (.inr ⟨z, p, [], b :: r, [], rfl, hp, .nil, Nat.zero_le _, lz, by rw [List.length_nil, List.length_cons]; omega, .inr ⟨b, r, rfl, pb, fun H' d s2 nd => caughtE kd rfl nd fun pz H3 s3 h3 => hq pz H3 (s2.trans s3) h3⟩⟩)
/-- patched(odd, y), odd no text -/
theorem caughtC (kd : KindAt K CT 1) {x y : V} {t : Ty7} {ty : TE} (h5 : σ[5]? = some (some x)) (hy : ∀ (H : Hp) (Q : VK), Q y H → ty σ H Q) (kn : Kn H1 x t) (ne : t ≠ .str)
    (hq : ∀ pz H', Same H1 H' → H' pz = some (.lst [.str (errW 1), x]) → Q0 (.ref pz) H') :
    TCaught K (fun E H' Q' => tCall (spPd CT CP) [] E (tCons (uVar 5) (tCons ty tNil)) σ H' Q') H1 Q0 := by
  dsimp only [TCaught, tCall, tCons, tNil]
  refine uV h5 ?_
  refine hy _ _ ?_
  exact .inl ⟨x, y, t, rfl, kn, ne, fun d nd => caughtE kd rfl nd hq⟩
end
end Sk
namespace Sk
open PySem PySem.Spec PyProof.Rows L2
theorem reprTwo {H' : Hp} {pz : Addr} {w0 : Str} {v : V} {d : PyData} {Q : VK} (h : H' pz = some (.lst [.str w0, v])) (dl : DL H' v d) (sh : ShD d 300 3) (hw : ShD (.str w0) 300 3) (q : Q (.str (PyData.shown (.list [.str w0, d]))) H') : rReprL [.ref pz] H' Q := by
  have s := ShD.list (ShL.of (ds := [.str w0, d]) (w := 300) (k := 3) fun x hx => by
    rcases List.mem_cons.mp hx with rfl | hx
    · exact hw
    · rcases List.mem_cons.mp hx with rfl | hx
      · exact sh
      · cases hx)
  refine ⟨.list [.str w0, d], .lst h (.cons (.str _) (.cons dl .nil)), s.1, Nat.le_trans s.2.1 ?_, Nat.le_trans s.2.2 (by decide), q⟩
  rw [sizeLine_eq]
  show 2 * (300 + 2) + 3 ≤ _
  decide
theorem errW11 : errW 11 = "patches" := rfl
theorem errW1 : errW 1 = "text" := rfl
theorem shW11 : ShD (.str "patches") 300 3 := ⟨rfl, by decide +kernel, by decide +kernel⟩
theorem shW1 : ShD (.str "text") 300 3 := ⟨rfl, by decide +kernel, by decide +kernel⟩
/-- things that are no patches of a text of that length, and the index that is told -/
def OddB (H : Hp) (len : Int) (v i : V) : Prop := (i = .non ∧ ∃ t, Kn H v t ∧ t ≠ .tup) ∨ (i = .int 0 ∧ ∃ p b r, v = .ref p ∧ H p = some (.tup (b :: r)) ∧ r.length ≤ 10 ∧ PatB H b 0 len false)
theorem OddB.on {H H' : Hp} {len : Int} {v i : V} (s : Same H H') (h : OddB H len v i) : OddB H' len v i := by
  rcases h with ⟨e, t, kn, ne⟩ | ⟨e, p, b, r, e2, hp, lr, pb⟩
  · exact .inl ⟨e, t, kn.on s, ne⟩
  · exact .inr ⟨e, p, b, r, e2, s _ _ hp, lr, pb.on s⟩
/-- things that are no texts, with their data -/
def OddT (H : Hp) (v : V) : Prop := ∃ t d, Kn H v t ∧ t ≠ .str ∧ DL H v d ∧ ShD d 300 3
theorem OddT.on {H H' : Hp} {v : V} (s : Same H H') (h : OddT H v) : OddT H' v := by
  obtain ⟨t, d, kn, ne, dl, sh⟩ := h
  exact ⟨t, d, kn.on s, ne, dl.same s, sh⟩
/-- the heap and the tables at a place of a loop -/
def At (T : List (Addr × Str)) (B H : Hp) : Prop := Same B H ∧ LamX.Tabs T H
theorem At.up {T : List (Addr × Str)} {B H H' : Hp} (h : At T B H) (s : Same H H') : At T B H' := ⟨h.1.trans s, h.2.ext s⟩
theorem At.lam {T : List (Addr × Str)} {B H H1 : Hp} (n : NoT B) (h : At T B H) (e : LamX.ExtN H H1) (t : LamX.Tabs T H1) : At T B H1 := ⟨n.ext h.1 e, t⟩
theorem At.base {T : List (Addr × Str)} {B H : Hp} (h : At T B H) : At T (noT H) H := ⟨noT_sub, h.2⟩
theorem At.sub {T : List (Addr × Str)} {B H H' : Hp} (n : NoT B) (h : At T B H) (k : At T (noT H) H') : At T B H' := ⟨fun b o hb => k.1 b o (noT_get (h.1 b o hb) fun ps z => n b ps (by rw [hb, z])), k.2⟩
end Sk
namespace Sk
open PySem PySem.Spec PyProof.Rows L2
theorem oddB_noT {H : Hp} {len : Int} {v i : V} (h : OddB H len v i) : OddB (noT H) len v i := by
  rcases h with ⟨e, t, kn, ne⟩ | ⟨e, p, b, r, e2, hp, lr, pb⟩
  · exact .inl ⟨e, t, kn_noT kn, ne⟩
  · exact .inr ⟨e, p, b, r, e2, noT_get hp (fun _ z => by cases z), lr, patB_noT pb⟩
mutual
theorem dl_noT {H : Hp} : ∀ {v : V} {d : PyData}, DL H v d → DL (noT H) v d
  | _, _, .non => .non
  | _, _, .bl b => .bl b
  | _, _, .int i => .int i
  | _, _, .str x => .str x
  | _, _, .lst h a => .lst (noT_get h fun _ z => by cases z) (dls_noT a)
  | _, _, .tup h a => .tup (noT_get h fun _ z => by cases z) (dls_noT a)
  | _, _, .dic h a b => .dic (noT_get h fun _ z => by cases z) (dls_noT a) (dls_noT b)
theorem dls_noT {H : Hp} : ∀ {v : List V} {d : List PyData}, DLs H v d → DLs (noT H) v d
  | _, _, .nil => .nil
  | _, _, .cons a b => .cons (dl_noT a) (dls_noT b)
end
theorem oddT_noT {H : Hp} {v : V} (h : OddT H v) : OddT (noT H) v := by
  obtain ⟨t, d, kn, ne, dl, sh⟩ := h
  exact ⟨t, d, kn_noT kn, ne, dl_noT dl, sh⟩
theorem kitT {K : Fg} {t : Ty7} (ne : t ≠ .tup) : PySem.W.kitOne K (.type t.nm) (.type "tuple") = some false := by
  cases t with
  | tup => exact (ne rfl).elim
  | _ => rfl
theorem shNon : ShD .none 300 3 := (ShD.non (k := 3)).mono (by decide) (Nat.le_refl _)
theorem shInt {i : Int} (h : i.natAbs ≤ 10) : ShD (.int i) 300 3 := (ShD.int (Nat.le_trans h (by decide))).mono (by decide) (Nat.le_refl _)
end Sk
/-! Sk: what the program's questions answer of any data (values, trees), in plain Lean -/
namespace Sk
open PySem PySem.Spec PyProof.Rows L2
/-- the kind of data -/
def tyD : PyData → Ty7
  | .none => .non
  | .bool _ => .bl
  | .int _ => .int
  | .str _ => .str
  | .list _ => .lst
  | .tuple _ => .tup
  | .dict _ => .dic
theorem DL.kn {H : Hp} {v : V} {d : PyData} (h : DL H v d) : Kn H v (tyD d) := by
  cases h with
  | non => exact rfl
  | bl b => exact ⟨b, rfl⟩
  | int i => exact ⟨i, rfl⟩
  | str x => exact ⟨x, rfl⟩
  | lst h _ => exact ⟨_, _, rfl, h⟩
  | tup h _ => exact ⟨_, _, rfl, h⟩
  | dic h _ _ => exact ⟨_, _, rfl, h⟩
def isStrD : PyData → Bool
  | .str _ => true
  | _ => false
def nameD : PyData → Bool
  | .str z => Nat.blt 0 z.length && (Nat.blt z.length 13 && z.cps.toList.all low)
  | _ => false
def textsD : PyData → Bool
  | .tuple ds => ds.all isStrD
  | _ => false
def pairD : PyData → Bool
  | .tuple [k, v] => nameD k && isStrD v
  | _ => false
def pairsD : PyData → Bool
  | .tuple ds => ds.all pairD
  | _ => false
def emptyT : PyData → Bool
  | .tuple [] => true
  | _ => false
def addrD : PyData → Bool
  | .tuple [a, b] => textsD a && (!emptyT a && pairsD b)
  | _ => false
def eqL (z w : Str) : Bool := z.cps.toList == w.cps.toList
theorem eqL_dec (z w : Str) : decide (V.str z = V.str w) = eqL z w := by
  unfold eqL
  cases h : z.cps.toList == w.cps.toList with
  | true =>
    have e : z = w := str_ext (by simpa using h)
    rw [e]
    simp
  | false =>
    refine decide_eq_false fun e => ?_
    cases e
    simp at h
def isS (w : Str) : PyData → Bool
  | .str z => eqL z w
  | _ => false
def attD : PyData → Bool
  | .tuple [k, v] => nameD k && (if isS "href" k then addrD v else isStrD v)
  | _ => false
def attsD : PyData → Bool
  | .tuple ds => ds.all attD
  | _ => false
def fullD : PyData → Bool
  | .str z => !eqL z ""
  | _ => false
def tnodeD : PyData → Bool
  | .tuple [k, v] => isS "text" k && fullD v
  | _ => false
def noTwoD : List PyData → Bool
  | [] => true
  | [_] => true
  | x :: y :: r => !(tnodeD x && tnodeD y) && noTwoD (y :: r)
/-- is it a value of at most n levels -/
def levD : Nat → PyData → Bool
  | 0, .none => true
  | 0, .bool _ => true
  | 0, .int _ => true
  | 0, .str _ => true
  | 0, _ => false
  | _ + 1, .none => true
  | _ + 1, .bool _ => true
  | _ + 1, .int _ => true
  | _ + 1, .str _ => true
  | _ + 1, .list _ => false
  | n + 1, .tuple ds => Nat.ble ds.length 60 && ds.all (levD n)
  | n + 1, .dict kvs => kvs.all fun p => nameD p.1 && levD n p.2
def dataD : List PyData → Bool
  | [v] => levD 6 v
  | _ => false
def restD (k : PyData) (r : List PyData) : Bool := if isS "data" k then dataD r else tnodeD (.tuple (k :: r))
def elemD (f : PyData → Bool) : List PyData → Bool
  | [a, b, c] => nameD a && (!isS "data" a && (attsD b && f c))
  | _ => false
def allD (f : PyData → Bool) : PyData → Bool
  | .tuple ds => ds.all f && noTwoD ds
  | _ => false
/-- is it a node with at most n elements in each other -/
def nodeD : Nat → PyData → Bool
  | 0, .tuple (k :: r) => if isS "element" k then false else restD k r
  | n + 1, .tuple (k :: r) => if isS "element" k then elemD (allD (nodeD n)) r else restD k r
  | _, _ => false
abbrev nodesD (n : Nat) : PyData → Bool := allD (nodeD n)
theorem nodeD_nil (n : Nat) : nodeD n (.tuple []) = false := by cases n <;> rfl
theorem nodeD_no (n : Nat) {d : PyData} (h : ∀ ds, d ≠ .tuple ds) : nodeD n d = false := by
  cases d with
  | tuple ds => exact absurd rfl (h ds)
  | _ => cases n <;> rfl
theorem tnode_head {k : PyData} {r : List PyData} (h : ∀ z, k ≠ .str z) : tnodeD (.tuple (k :: r)) = false := by
  have e : isS "text" k = false := by
    cases k with
    | str z => exact absurd rfl (h z)
    | _ => rfl
  cases r with
  | nil => rfl
  | cons v r =>
    cases r with
    | nil =>
      show (isS "text" k && fullD v) = false
      rw [e]
      rfl
    | cons _ _ => rfl
theorem nodeD_head (n : Nat) {k : PyData} {r : List PyData} (h : ∀ z, k ≠ .str z) : nodeD n (.tuple (k :: r)) = false := by
  have e : ∀ w, isS w k = false := fun w => by
    cases k with
    | str z => exact absurd rfl (h z)
    | _ => rfl
  have e2 : restD k r = false := by
    unfold restD
    rw [e, tnode_head h]
    rfl
  cases n with
  | zero =>
    show (if isS "element" k then false else restD k r) = false
    rw [e, e2]
    rfl
  | succ n =>
    show (if isS "element" k then elemD (allD (nodeD n)) r else restD k r) = false
    rw [e, e2]
    rfl
theorem nodeD_rest (n : Nat) {k : PyData} {r : List PyData} (h : isS "element" k = false) : nodeD n (.tuple (k :: r)) = restD k r := by
  cases n with
  | zero =>
    show (if isS "element" k then false else restD k r) = _
    rw [h]
    rfl
  | succ n =>
    show (if isS "element" k then elemD (allD (nodeD n)) r else restD k r) = _
    rw [h]
    rfl
theorem nodeD_elem (n : Nat) {k : PyData} {r : List PyData} (h : isS "element" k = true) : nodeD (n + 1) (.tuple (k :: r)) = elemD (nodesD n) r := by
  show (if isS "element" k then elemD (allD (nodeD n)) r else restD k r) = _
  rw [h]
  rfl
theorem nodeD_elem0 {k : PyData} {r : List PyData} (h : isS "element" k = true) : nodeD 0 (.tuple (k :: r)) = false := by
  show (if isS "element" k then false else restD k r) = _
  rw [h]
  rfl
/-- no two texts in a row, as a walk by pairs tells -/
theorem noTwo_any : ∀ ds : List PyData, ((ds.zip (ds.drop 1)).any fun p => tnodeD p.1 && tnodeD p.2) = !noTwoD ds
  | [] => rfl
  | [_] => rfl
  | x :: y :: r => by
    have ih := noTwo_any (y :: r)
    show ((tnodeD x && tnodeD y) || (((y :: r).zip ((y :: r).drop 1)).any fun p => tnodeD p.1 && tnodeD p.2)) = !(!(tnodeD x && tnodeD y) && noTwoD (y :: r))
    rw [ih]
    cases tnodeD x && tnodeD y <;> cases noTwoD (y :: r) <;> rfl
end Sk
/-! Sk: written data (nested displays of constants): what they are, as they stand in a heap; rows of them -/
namespace Sk
open PySem PySem.Spec PyProof.Rows L2
inductive Lit where
  | non
  | bl (b : Bool)
  | int (i : Int)
  | str (z : Str)
  | tup (ls : List Lit)
  | lst (ls : List Lit)
  | dic (ks : List Str) (ls : List Lit)
mutual
inductive Rep (H : Hp) : V → Lit → Prop
  | non : Rep H .non .non
  | bl (b : Bool) : Rep H (.bl b) (.bl b)
  | int (i : Int) : Rep H (.int i) (.int i)
  | str (z : Str) : Rep H (.str z) (.str z)
  | tup {a : Addr} {vs : List V} {ls : List Lit} : H a = some (.tup vs) → Reps H vs ls → Rep H (.ref a) (.tup ls)
  | lst {a : Addr} {vs : List V} {ls : List Lit} : H a = some (.lst vs) → Reps H vs ls → Rep H (.ref a) (.lst ls)
  | dic {a : Addr} {kvs : List (Key × V)} {ks : List Str} {ls : List Lit} : H a = some (.dK kvs) → kvs.map (·.1) = ks.map Sum.inr → Reps H (kvs.map (·.2)) ls → Rep H (.ref a) (.dic ks ls)
inductive Reps (H : Hp) : List V → List Lit → Prop
  | nil : Reps H [] []
  | cons {v : V} {vs : List V} {l : Lit} {ls : List Lit} : Rep H v l → Reps H vs ls → Reps H (v :: vs) (l :: ls)
end
mutual
theorem Rep.same {H H' : Hp} (s : Same H H') : ∀ {v : V} {l : Lit}, Rep H v l → Rep H' v l
  | _, _, .non => .non
  | _, _, .bl b => .bl b
  | _, _, .int i => .int i
  | _, _, .str z => .str z
  | _, _, .tup h r => .tup (s _ _ h) (Reps.same s r)
  | _, _, .lst h r => .lst (s _ _ h) (Reps.same s r)
  | _, _, .dic h k r => .dic (s _ _ h) k (Reps.same s r)
theorem Reps.same {H H' : Hp} (s : Same H H') : ∀ {vs : List V} {ls : List Lit}, Reps H vs ls → Reps H' vs ls
  | _, _, .nil => .nil
  | _, _, .cons h r => .cons (Rep.same s h) (Reps.same s r)
end
theorem Reps.length {H : Hp} : ∀ {vs : List V} {ls : List Lit}, Reps H vs ls → vs.length = ls.length
  | _, _, .nil => rfl
  | _, _, .cons _ h => congrArg (· + 1) h.length
theorem Reps.at {H : Hp} : ∀ {vs : List V} {ls : List Lit}, Reps H vs ls → ∀ (i : Nat) x, vs[i]? = some x → ∃ l, ls[i]? = some l ∧ Rep H x l
  | _, _, .nil, i, x, h => by simp at h
  | _, _, .cons h _, 0, x, e => by
    cases e
    exact ⟨_, rfl, h⟩
  | _, _, .cons _ h, i + 1, x, e => by
    obtain ⟨n, e1, e2⟩ := h.at i x (by simpa using e)
    exact ⟨n, by simpa using e1, e2⟩
theorem Reps.app {H : Hp} : ∀ {vs : List V} {ls : List Lit} {ws : List V} {ms : List Lit}, Reps H vs ls → Reps H ws ms → Reps H (vs ++ ws) (ls ++ ms)
  | _, _, _, _, .nil, r => r
  | _, _, _, _, .cons h t, r => .cons h (t.app r)
/-! ### what is written -/
def litEs (f : Expr → Option Lit) : List Expr → Option (List Lit)
  | [] => some []
  | e :: es => match f e with
    | some l => match litEs f es with
      | some ls => some (l :: ls)
      | none => none
    | none => none
def keyS : List (Option Expr) → Option (List Str)
  | [] => some []
  | some (.Constant (.str k) _ _) :: r => match keyS r with
    | some ks => some (k :: ks)
    | none => none
  | _ => none
def nodupS : List Str → Bool
  | [] => true
  | k :: r => !r.any (fun x => x.cps.toList == k.cps.toList) && nodupS r
def litE : Nat → Expr → Option Lit
  | 0, _ => none
  | n + 1, e => match e with
    | .Constant c _ _ => match c with
      | .none => some .non
      | .bool b => some (.bl b)
      | .int i => some (.int i)
      | .str z => some (.str z)
      | _ => none
    | .UnaryOp .USub (.Constant (.int i) _ _) _ => some (.int (-i))
    | .Tuple es _ _ => if Nat.ble es.length 1000 then (litEs (litE n) es).map .tup else none
    | .List es _ => if Nat.ble es.length 1000 then (litEs (litE n) es).map .lst else none
    | .Dict ks es _ => match keyS ks with
      | some zs => if Nat.ble zs.length 15 && (zs.length == es.length && nodupS zs) then (litEs (litE n) es).map (.dic zs) else none
      | none => none
    | _ => none
theorem newP_same {H H1 H2 : Hp} (s : Same H1 H2) : Same (newP H H1) (newP H H2) := fun b o e => by
  obtain ⟨e1, e2⟩ := newP_some e
  rw [newP_at e1]
  exact s b o e2
theorem newP_less' {H H1 H2 : Hp} (s : Same H H1) : Same (newP H1 H2) (newP H H2) := fun b o e => by
  obtain ⟨e1, e2⟩ := newP_some e
  rw [newP_at (s.free e1)]
  exact e2
theorem newP_sub {H H' : Hp} : Same (newP H H') H' := fun b o e => (newP_some e).2
theorem newP_hide {H H' : Hp} {L : Addr} {o : HO} (h : H L = some o) : Same (newP H H') (hide L H') := fun b u e => by
  obtain ⟨e1, e2⟩ := newP_some e
  rw [hide_ne (fun z => by rw [z, h] at e1; cases e1)]
  exact e2
def tLit (l : Lit) : TE := fun _ H Q => ∀ v H', Same H H' → Rep (newP H H') v l → Q v H'
def tLits (ls : List Lit) : TA := fun _ H Q => ∀ vs H', Same H H' → Reps (newP H H') vs ls → Q vs H'
theorem PAw {X : Cx} {es : List Expr} {t t' : TA} (h : PA X es t) (w : ∀ σ H Q, t' σ H Q → t σ H Q) : PA X es t' := ⟨fun pos pins s σ H Q I q => h.run pos pins s σ H Q I (w σ H Q q)⟩
theorem mergeK_new : ∀ (kvs more : List (Key × V)), ((kvs ++ more).map (·.1)).Nodup → mergeK kvs more = kvs ++ more
  | kvs, [], _ => by simp [mergeK]
  | kvs, p :: r, h => by
    have hn : kvs.any (fun q => decide (q.1 = p.1)) = false := by
      refine List.any_eq_false.mpr fun q hq => ?_
      intro e
      have e := of_decide_eq_true e
      rw [List.map_append] at h
      have := (List.nodup_append.mp h).2.2 q.1 (List.mem_map_of_mem hq) p.1 (by simp)
      exact this e
    have e : putK kvs p.1 p.2 = kvs ++ [p] := by
      unfold putK
      rw [if_neg (by rw [hn]; decide)]
    show mergeK (putK kvs p.1 p.2) r = _
    rw [e, mergeK_new (kvs ++ [p]) r (by rw [List.append_assoc]; exact h), List.append_assoc]
    rfl
theorem nodupS_ok : ∀ ks : List Str, nodupS ks = true → ks.Nodup
  | [], _ => List.nodup_nil
  | k :: r, h => by
    have h : (!r.any (fun x => x.cps.toList == k.cps.toList) && nodupS r) = true := h
    have h := Bool.and_eq_true_iff.mp h
    refine List.nodup_cons.mpr ⟨fun hm => ?_, nodupS_ok r h.2⟩
    have h1 : r.any (fun x => x.cps.toList == k.cps.toList) = false := by simpa using h.1
    have := List.any_eq_false.mp h1 k hm
    simp at this
section
variable {X : Cx}
theorem lit_star {n : Nat} {e : Expr} {l : Lit} (h : litE n e = some l) (es : List Expr) (env : Env) : starEach (e :: es) env = (false, eval e env) :: starEach es env := by
  cases n with
  | zero => cases h
  | succ n =>
    cases e with
    | Starred e pos => cases h
    | _ => rfl
theorem lits_of (n : Nat) (ih : ∀ e l, litE n e = some l → PE X e (tLit l)) : ∀ es ls, litEs (litE n) es = some ls → PA X es (tLits ls)
  | [], ls, h => by
    cases h
    exact PAw pa_nil fun σ H Q q => q [] H (Same.refl H) .nil
  | e :: es, ls, h => by
    unfold litEs at h
    split at h
    · rename_i l he
      split at h
      · rename_i ls' hes
        cases h
        refine PAw (pa_cons (ih e l he) (lits_of n ih es ls' hes) (lit_star he es X.env)) fun σ H Q q => ?_
        intro v H1 s1 r1 vs H2 s2 r2
        exact q (v :: vs) H2 (s1.trans s2) (.cons (r1.same (newP_same s2)) (r2.same (newP_less' s1)))
      · cases h
    · cases h
theorem pps_of (n : Nat) (pos : Pos) (ih : ∀ e l, litE n e = some l → PE X e (tLit l)) : ∀ ks zs es ls, keyS ks = some zs → litEs (litE n) es = some ls → zs.length = es.length →
    ∃ trs, PPs X pos ks es trs ∧ ∀ σ H (Q : List (V × V) → Hp → Prop), (∀ vs H', Same H H' → Reps (newP H H') vs ls → Q ((zs.map V.str).zip vs) H') → tPairs trs σ H Q
  | [], zs, es, ls, hk, he, hl => by
    cases hk
    cases es with
    | nil =>
      cases he
      exact ⟨_, pps_nil, fun σ H Q q => q [] H (Same.refl H) .nil⟩
    | cons _ _ => cases hl
  | k :: ks, zs, es, ls, hk, he, hl => by
    unfold keyS at hk
    split at hk
    · cases hk
      rename_i h
      cases h
    · rename_i kz i p r h1
      cases h1
      split at hk
      · rename_i zs' hk'
        cases hk
        cases es with
        | nil => cases hl
        | cons e es =>
          unfold litEs at he
          split at he
          · rename_i l hle
            split at he
            · rename_i ls' hes
              cases he
              obtain ⟨trs, d, t⟩ := pps_of n pos ih ks zs' es ls' hk' hes (by simpa using hl)
              refine ⟨_, pps_cons pe_str (ih e l hle) d, fun σ H Q q => ?_⟩
              intro v H1 s1 r1
              refine t σ H1 _ fun vs H2 s2 r2 => ?_
              exact q (v :: vs) H2 (s1.trans s2) (.cons (r1.same (newP_same s2)) (r2.same (newP_less' s1)))
            · cases he
          · cases he
      · cases hk
    · cases hk
theorem keyS_all : ∀ ks zs, keyS ks = some zs → ks.all (·.isSome) = true ∧ ks.length = zs.length
  | [], zs, h => by
    cases h
    exact ⟨rfl, rfl⟩
  | k :: ks, zs, h => by
    unfold keyS at h
    split at h
    · rename_i h1
      cases h1
    · rename_i kz i p r h1
      cases h1
      split at h
      · rename_i zs' hk'
        cases h
        obtain ⟨a, b⟩ := keyS_all ks zs' hk'
        exact ⟨by rw [List.all_cons, a]; rfl, by rw [List.length_cons, List.length_cons, b]⟩
      · cases h
    · cases h
theorem lits_len {f : Expr → Option Lit} : ∀ es ls, litEs f es = some ls → ls.length = es.length
  | [], ls, h => by
    cases h
    rfl
  | e :: es, ls, h => by
    unfold litEs at h
    split at h
    · split at h
      · rename_i hes
        cases h
        rw [List.length_cons, List.length_cons, lits_len es _ hes]
      · cases h
    · cases h
theorem lit_of : ∀ (n : Nat) (e : Expr) (l : Lit), litE n e = some l → PE X e (tLit l)
  | 0, e, l, h => by cases h
  | n + 1, e, l, h => by
    have ih := lit_of n
    unfold litE at h
    split at h
    · split at h
      · cases h
        exact PEw pe_non fun σ H Q q => q _ H (Same.refl H) .non
      · cases h
        exact PEw pe_bl fun σ H Q q => q _ H (Same.refl H) (.bl _)
      · cases h
        exact PEw pe_int fun σ H Q q => q _ H (Same.refl H) (.int _)
      · cases h
        exact PEw pe_str fun σ H Q q => q _ H (Same.refl H) (.str _)
      · cases h
    · cases h
      exact PEw (pe_un un_negU pe_int) fun σ H Q q => q _ H (Same.refl H) (.int _)
    · split at h
      · rename_i hl
        obtain ⟨ls, hs, rfl⟩ := Option.map_eq_some_iff.mp h
        refine PEw (pe_tup (lits_of n ih _ ls hs)) fun σ H Q q => ?_
        intro vs H1 s1 r1
        refine ⟨size_le ?_, fun p np => q _ _ (s1.trans (same_new np)) (.tup ?_ (r1.same (newP_same (same_new np))))⟩
        · have := r1.length
          have := lits_len _ _ hs
          have := Nat.le_of_ble_eq_true hl
          omega
        · rw [newP_at (s1.free np)]
          exact upd_same
      · cases h
    · split at h
      · rename_i hl
        obtain ⟨ls, hs, rfl⟩ := Option.map_eq_some_iff.mp h
        refine PEw (pe_lst (lits_of n ih _ ls hs)) fun σ H Q q => ?_
        intro vs H1 s1 r1
        refine ⟨size_le ?_, fun p np => q _ _ (s1.trans (same_new np)) (.lst ?_ (r1.same (newP_same (same_new np))))⟩
        · have := r1.length
          have := lits_len _ _ hs
          have := Nat.le_of_ble_eq_true hl
          omega
        · rw [newP_at (s1.free np)]
          exact upd_same
      · cases h
    · rename_i ks es pos
      split at h
      · rename_i zs hk
        split at h
        · rename_i hc
          have hc := Bool.and_eq_true_iff.mp hc
          have hc2 := Bool.and_eq_true_iff.mp hc.2
          have l15 := Nat.le_of_ble_eq_true hc.1
          have leq : zs.length = es.length := by simpa using hc2.1
          obtain ⟨ls, hs, rfl⟩ := Option.map_eq_some_iff.mp h
          obtain ⟨k1, k2⟩ := keyS_all ks zs hk
          have ll := lits_len _ _ hs
          cases hks : ks with
          | nil =>
            subst hks
            cases zs with
            | nil =>
              cases es with
              | nil =>
                cases hs
                refine PEw pe_dnewK fun σ H Q q => ?_
                intro d nd
                exact q _ _ (same_new nd) (.dic (kvs := []) (by rw [newP_at nd]; exact upd_same) rfl .nil)
              | cons _ _ => cases leq
            | cons _ _ => cases k2
          | cons k0 kr =>
            rw [← hks]
            obtain ⟨trs, d, t⟩ := pps_of n pos ih ks zs es ls hk hs leq
            refine PEw (pe_disp d k1 (by omega) (by rw [hks]; exact fun z => by cases z) (by omega)) fun σ H Q q => ?_
            intro p np
            refine t σ _ _ fun vs H2 s2 r2 => ?_
            have lv : vs.length = zs.length := by have := r2.length; omega
            have hp2 := s2 _ _ (upd_same (H := H) (a := p) (o := .dK []))
            have nd := nodupS_ok zs hc2.2
            refine ⟨hp2, (zs.map Sum.inr).zip vs, ?_, by rw [List.length_zip, List.length_map]; omega, ?_⟩
            · rw [List.map_zip_eq_zipWith, List.zip_eq_zipWith, List.zipWith_map_left, List.zipWith_map_left]
              rfl
            · have e1 : ((zs.map Sum.inr).zip vs).map (·.1) = zs.map (Sum.inr : Str → Key) := by
                rw [List.map_fst_zip]
                rw [List.length_map]
                omega
              have e2 : ((zs.map (Sum.inr : Str → Key)).zip vs).map (·.2) = vs := by
                rw [List.map_snd_zip]
                rw [List.length_map]
                omega
              have nd2 : (zs.map (Sum.inr : Str → Key)).Nodup := List.Pairwise.map Sum.inr (fun a b h e => h (Sum.inr.inj e)) nd
              rw [mergeK_new [] _ (by rw [List.nil_append, e1]; exact nd2), List.nil_append]
              have sH : Same H (upd H2 p (.dK ((zs.map Sum.inr).zip vs))) := fun b o hb => by
                rw [upd_ne (ne_of_none hb np)]
                exact s2 _ _ (same_new np _ _ hb)
              refine q _ _ sH (.dic (by rw [newP_at np]; exact upd_same) e1 ?_)
              rw [e2]
              refine r2.same fun b o hb => ?_
              obtain ⟨b1, b2⟩ := newP_some hb
              obtain ⟨b3, b4⟩ := upd_none b1
              rw [newP_at b4, upd_ne b3]
              exact b2
        · cases h
      · cases h
    · cases h
theorem pe_lit {e : Expr} {l : Lit} (h : litE 12 e = some l) : PE X e (tLit l) := lit_of 12 e l h
theorem pa_lits {es : List Expr} {ls : List Lit} (h : litEs (litE 12) es = some ls) : PA X es (tLits ls) := lits_of 12 (lit_of 12) es ls h
end
theorem hide_sub {L : Addr} {H : Hp} : Same (hide L H) H := fun b o h => (hide_some h).2
theorem hide_same {L : Addr} {H H' : Hp} (s : Same H H') : Same (hide L H) (hide L H') := fun b o e => by
  obtain ⟨e1, e2⟩ := hide_some e
  rw [hide_ne e1]
  exact s b o e2
theorem hide_new {L : Addr} {H : Hp} {o : HO} (n : H L = none) : Same H (hide L (upd H L o)) := fun b u e => by
  have ne := ne_of_none e n
  rw [hide_ne ne, upd_ne ne]
  exact e
theorem hide_upd {L : Addr} {H : Hp} {o : HO} : Same (hide L H) (hide L (upd H L o)) := fun b u e => by
  obtain ⟨e1, e2⟩ := hide_some e
  rw [hide_ne e1, upd_ne e1]
  exact e2
end Sk
/-! Sk: data of bounded size; what stands in a dict, told without it -/
namespace Sk
open PySem PySem.Spec PyProof.Rows L2
/-- data of bounded size, the keys of dicts told apart -/
inductive Sz : PyData → Prop
  | non : Sz .none
  | bl (b : Bool) : Sz (.bool b)
  | int (i : Int) : Sz (.int i)
  | str {z : Str} : z.length ≤ 1000 → Sz (.str z)
  | lst {ds : List PyData} : ds.length ≤ 1000 → (∀ d ∈ ds, Sz d) → Sz (.list ds)
  | tup {ds : List PyData} : ds.length ≤ 1000 → (∀ d ∈ ds, Sz d) → Sz (.tuple ds)
  | dic {ds : List (PyData × PyData)} : ds.length ≤ 1000 → (ds.map (·.1)).Nodup → (∀ p ∈ ds, Sz p.1) → (∀ p ∈ ds, Sz p.2) → Sz (.dict ds)
theorem Sz.text {z : Str} (h : Sz (.str z)) : z.length ≤ 1000 := by cases h; assumption
theorem Sz.tupL {ds : List PyData} (h : Sz (.tuple ds)) : ds.length ≤ 1000 := by cases h; assumption
theorem Sz.tupE {ds : List PyData} (h : Sz (.tuple ds)) : ∀ d ∈ ds, Sz d := by cases h; assumption
theorem pairs_ext {α β : Type} : ∀ {xs ys : List (α × β)}, xs.map (·.1) = ys.map (·.1) → xs.map (·.2) = ys.map (·.2) → xs = ys
  | [], [], _, _ => rfl
  | [], _ :: _, h, _ => by cases h
  | _ :: _, [], h, _ => by cases h
  | (a, b) :: xs, (c, d) :: ys, h1, h2 => by
    injection h1 with a1 a2
    injection h2 with b1 b2
    have a1 : a = c := a1
    have b1 : b = d := b1
    rw [a1, b1, pairs_ext a2 b2]
mutual
theorem DL.uniq {H : Hp} : ∀ {v : V} {d e : PyData}, DL H v d → DL H v e → d = e
  | _, _, _, .non, k => by cases k; rfl
  | _, _, _, .bl b, k => by cases k; rfl
  | _, _, _, .int i, k => by cases k; rfl
  | _, _, _, .str z, k => by cases k; rfl
  | _, _, _, .lst h a, k => by
    cases k with
    | lst h2 b => rw [h] at h2; cases h2; rw [DLs.uniq a b]
    | tup h2 b => rw [h] at h2; cases h2
    | dic h2 b c => rw [h] at h2; cases h2
  | _, _, _, .tup h a, k => by
    cases k with
    | lst h2 b => rw [h] at h2; cases h2
    | tup h2 b => rw [h] at h2; cases h2; rw [DLs.uniq a b]
    | dic h2 b c => rw [h] at h2; cases h2
  | _, _, _, .dic h a a2, k => by
    cases k with
    | lst h2 b => rw [h] at h2; cases h2
    | tup h2 b => rw [h] at h2; cases h2
    | dic h2 b b2 => rw [h] at h2; cases h2; rw [pairs_ext (DLs.uniq a b) (DLs.uniq a2 b2)]
theorem DLs.uniq {H : Hp} : ∀ {v : List V} {d e : List PyData}, DLs H v d → DLs H v e → d = e
  | _, _, _, .nil, k => by cases k; rfl
  | _, _, _, .cons a b, k => by
    cases k with
    | cons c e => rw [DL.uniq a c, DLs.uniq b e]
end
theorem size_fst : ∀ ds : List (PyData × PyData), sizeOf (ds.map (·.1)) ≤ sizeOf ds
  | [] => Nat.le_refl _
  | (a, b) :: r => by
    have := size_fst r
    simp only [List.map_cons, List.cons.sizeOf_spec, Prod.mk.sizeOf_spec]
    omega
theorem size_snd : ∀ ds : List (PyData × PyData), sizeOf (ds.map (·.2)) ≤ sizeOf ds
  | [] => Nat.le_refl _
  | (a, b) :: r => by
    have := size_snd r
    simp only [List.map_cons, List.cons.sizeOf_spec, Prod.mk.sizeOf_spec]
    omega
mutual
theorem DL.hid {H : Hp} {a : Addr} {d0 : PyData} (h0 : DL H (.ref a) d0) : ∀ {v : V} {d : PyData}, DL H v d → sizeOf d < sizeOf d0 → DL (hide a H) v d
  | _, _, .non, _ => .non
  | _, _, .bl b, _ => .bl b
  | _, _, .int i, _ => .int i
  | _, _, .str z, _ => .str z
  | _, _, .lst (a := b) (ds := ds) h k, l => by
    have ne : b ≠ a := fun z => by
      subst z
      rw [DL.uniq (.lst h k) h0] at l
      omega
    have e : sizeOf (PyData.list ds) = 1 + sizeOf ds := by simp
    exact .lst ((hide_ne ne).trans h) (DLs.hid h0 k (by omega))
  | _, _, .tup (a := b) (ds := ds) h k, l => by
    have ne : b ≠ a := fun z => by
      subst z
      rw [DL.uniq (.tup h k) h0] at l
      omega
    have e : sizeOf (PyData.tuple ds) = 1 + sizeOf ds := by simp
    exact .tup ((hide_ne ne).trans h) (DLs.hid h0 k (by omega))
  | _, _, .dic (a := b) (ds := ds) h k k2, l => by
    have ne : b ≠ a := fun z => by
      subst z
      rw [DL.uniq (.dic h k k2) h0] at l
      omega
    have e : sizeOf (PyData.dict ds) = 1 + sizeOf ds := by simp
    have e1 := size_fst ds
    have e2 := size_snd ds
    exact .dic ((hide_ne ne).trans h) (DLs.hid h0 k (by omega)) (DLs.hid h0 k2 (by omega))
theorem DLs.hid {H : Hp} {a : Addr} {d0 : PyData} (h0 : DL H (.ref a) d0) : ∀ {v : List V} {d : List PyData}, DLs H v d → sizeOf d < sizeOf d0 → DLs (hide a H) v d
  | _, _, .nil, _ => .nil
  | _, _, .cons (d := d) (ds := ds) k r, l => by
    have e : sizeOf (d :: ds) = 1 + sizeOf d + sizeOf ds := by simp
    exact .cons (DL.hid h0 k (by omega)) (DLs.hid h0 r (by omega))
end
/-- the parts of a dict stand in the heap without it -/
theorem DL.parts {H : Hp} {a : Addr} {kvs : List (Key × V)} {ds : List (PyData × PyData)} (h : H a = some (.dK kvs)) (k : DLs H (kvs.map fun p => kV p.1) (ds.map (·.1))) (k2 : DLs H (kvs.map (·.2)) (ds.map (·.2))) : DLs (hide a H) (kvs.map (·.2)) (ds.map (·.2)) := by
  have e : sizeOf (PyData.dict ds) = 1 + sizeOf ds := by simp
  have e2 := size_snd ds
  exact DLs.hid (.dic h k k2) k2 (by omega)
/-- the keys of a dict are told apart -/
theorem keys_nd {H : Hp} : ∀ {kvs : List (Key × V)} {ds : List PyData}, DLs H (kvs.map fun p => kV p.1) ds → ds.Nodup → (kvs.map (·.1)).Nodup
  | [], _, _, _ => List.nodup_nil
  | (k, v) :: r, _, .cons (d := d) (ds := ds) h t, n => by
    obtain ⟨n1, n2⟩ := List.nodup_cons.mp n
    refine List.nodup_cons.mpr ⟨fun m => n1 ?_, keys_nd t n2⟩
    obtain ⟨p, hp, e⟩ := List.mem_map.mp m
    have e : p.1 = k := e
    obtain ⟨i, hi, e2⟩ := List.mem_iff_getElem.mp hp
    have e3 : (r.map fun p => kV p.1)[i]? = some (kV k) := by
      rw [List.getElem?_map, List.getElem?_eq_getElem hi, e2, Option.map_some, e]
    obtain ⟨d', e4, h4⟩ := t.at i _ e3
    rw [DL.uniq h h4]
    exact List.mem_of_getElem? e4
theorem dls_flat {H H' : Hp} : ∀ {kvs : List (Key × V)} {ds : List PyData}, DLs H (kvs.map fun p => kV p.1) ds → DLs H' (kvs.map fun p => kV p.1) ds
  | [], _, .nil => .nil
  | (.inl i, v) :: r, _, .cons h t => by
    have h : DL H (.int i) _ := h
    cases h
    exact .cons (.int i) (dls_flat t)
  | (.inr z, v) :: r, _, .cons h t => by
    have h : DL H (.str z) _ := h
    cases h
    exact .cons (.str z) (dls_flat t)
theorem bls_map {α : Type} {f : α → Bool} : ∀ {ds : List α} {ys : List V}, ys.length = ds.length → (∀ (i : Nat) (y : V), ys[i]? = some y → ∃ d, ds[i]? = some d ∧ y = .bl (f d)) → ys = (ds.map f).map V.bl
  | [], [], _, _ => rfl
  | [], _ :: _, h, _ => by cases h
  | _ :: _, [], h, _ => by cases h
  | d :: ds, y :: ys, l, h => by
    obtain ⟨d', e, rfl⟩ := h 0 y rfl
    have e : d = d' := by simpa using e
    subst e
    rw [bls_map (ds := ds) (ys := ys) (f := f) (by simpa using l) fun i z hz => h (i + 1) z (by simpa using hz)]
    rfl
theorem all_id {α : Type} {f : α → Bool} (ds : List α) : (ds.map f).all id = ds.all f := by rw [List.all_map]; rfl
theorem any_id {α : Type} {f : α → Bool} (ds : List α) : (ds.map f).any id = ds.any f := by rw [List.any_map]; rfl
/-! ### written data -/
mutual
def litD : Lit → PyData
  | .non => .none
  | .bl b => .bool b
  | .int i => .int i
  | .str z => .str z
  | .tup ls => .tuple (litDs ls)
  | .lst ls => .list (litDs ls)
  | .dic ks ls => .dict ((ks.map PyData.str).zip (litDs ls))
def litDs : List Lit → List PyData
  | [] => []
  | l :: ls => litD l :: litDs ls
end
theorem zip_fst {α β : Type} : ∀ {xs : List α} {ys : List β}, xs.length = ys.length → (xs.zip ys).map (·.1) = xs
  | [], [], _ => rfl
  | [], _ :: _, h => by cases h
  | _ :: _, [], h => by cases h
  | x :: xs, y :: ys, h => by
    show x :: (xs.zip ys).map (·.1) = _
    rw [zip_fst (by simpa using h)]
theorem zip_snd {α β : Type} : ∀ {xs : List α} {ys : List β}, xs.length = ys.length → (xs.zip ys).map (·.2) = ys
  | [], [], _ => rfl
  | [], _ :: _, h => by cases h
  | _ :: _, [], h => by cases h
  | x :: xs, y :: ys, h => by
    show y :: (xs.zip ys).map (·.2) = _
    rw [zip_snd (by simpa using h)]
theorem dls_keys {H : Hp} : ∀ ks : List Str, DLs H (ks.map fun k => kV (.inr k)) (ks.map PyData.str)
  | [] => .nil
  | k :: r => .cons (.str k) (dls_keys r)
mutual
theorem Rep.dl {H : Hp} : ∀ {v : V} {l : Lit}, Rep H v l → DL H v (litD l)
  | _, _, .non => .non
  | _, _, .bl b => .bl b
  | _, _, .int i => .int i
  | _, _, .str z => .str z
  | _, _, .tup h r => .tup h (Reps.dl r)
  | _, _, .lst h r => .lst h (Reps.dl r)
  | _, _, .dic (kvs := kvs) (ks := ks) (ls := ls) h k r => by
    have d := Reps.dl r
    have l1 : kvs.length = ks.length := by
      have := congrArg List.length k
      rw [List.length_map, List.length_map] at this
      exact this
    have l2 : (ks.map PyData.str).length = (litDs ls).length := by
      rw [← d.len, List.length_map, List.length_map, l1]
    refine .dic h ?_ ?_
    · rw [zip_fst l2]
      have e : (kvs.map fun p => kV p.1) = ks.map fun k => kV (.inr k) := by
        have := congrArg (List.map kV) k
        rw [List.map_map, List.map_map] at this
        exact this
      rw [e]
      exact dls_keys ks
    · rw [zip_snd l2]
      exact d
theorem Reps.dl {H : Hp} : ∀ {v : List V} {l : List Lit}, Reps H v l → DLs H v (litDs l)
  | _, _, .nil => .nil
  | _, _, .cons a b => .cons (Rep.dl a) (Reps.dl b)
end
/-- a check of sizes -/
def szB : Nat → PyData → Bool
  | 0, _ => false
  | n + 1, d => match d with
    | .none => true
    | .bool _ => true
    | .int _ => true
    | .str z => Nat.ble z.length 1000
    | .list ds => Nat.ble ds.length 1000 && ds.all (szB n)
    | .tuple ds => Nat.ble ds.length 1000 && ds.all (szB n)
    | .dict [] => true
    | .dict [(a, b)] => szB n a && szB n b
    | _ => false
theorem szB_ok : ∀ (n : Nat) (d : PyData), szB n d = true → Sz d
  | 0, _, h => by cases h
  | n + 1, d, h => by
    unfold szB at h
    split at h
    · exact .non
    · exact .bl _
    · exact .int _
    · exact .str (Nat.le_of_ble_eq_true h)
    · rw [Bool.and_eq_true, List.all_eq_true] at h
      exact .lst (Nat.le_of_ble_eq_true h.1) fun d hd => szB_ok n d (h.2 d hd)
    · rw [Bool.and_eq_true, List.all_eq_true] at h
      exact .tup (Nat.le_of_ble_eq_true h.1) fun d hd => szB_ok n d (h.2 d hd)
    · exact .dic (Nat.zero_le _) List.nodup_nil (fun p hp => by cases hp) (fun p hp => by cases hp)
    · rw [Bool.and_eq_true] at h
      refine .dic (by simp) (by simp) (fun p hp => ?_) (fun p hp => ?_)
      · rw [List.mem_singleton.mp hp]
        exact szB_ok n _ h.1
      · rw [List.mem_singleton.mp hp]
        exact szB_ok n _ h.2
    · cases h
end Sk
/-! Sk: the questions over any data -/
namespace Sk
open PySem PySem.Spec PyProof.Rows L2
theorem low_iff (c : Nat) : decide (c ∈ (Str.ofString "abcdefghijklmnopqrstuvwxyz").cps.toList) = low c := by
  cases h : low c with
  | true => exact decide_eq_true (low_in h)
  | false =>
    refine decide_eq_false fun m => ?_
    have : ∀ c ∈ (Str.ofString "abcdefghijklmnopqrstuvwxyz").cps.toList, low c = true := by decide +kernel
    rw [this c m] at h
    cases h
section
variable {P : Program} {w : World} {K : PySem.W.Frag} {mg : Str → Option Value} {base : Heap}
/-- a question of any data -/
def spD (f : PyData → Bool) : Sp := fun vs H Q _ => ∃ v d, vs = [v] ∧ DL H v d ∧ Sz d ∧ ∀ H', Same H H' → Q (.bl (f d)) H'
def spDn (n : Nat) (f : PyData → Bool) : Sp := fun vs H Q _ => ∃ v d, vs = [v, .int (n : Int)] ∧ DL H v d ∧ Sz d ∧ ∀ H', Same H H' → Q (.bl (f d)) H'
theorem ok_nameD (T : Top K mg) (k : Nat) : Ok_is_name P w base T (k + 1) (spD nameD) := by
  refine T.F_is_name.ok sc_is_name (fun vs H Q E h => by obtain ⟨v, d, rfl, _⟩ := h; rfl) (fun cdv A outer s H vs Q E hr h => ⟨_, PSs.nox (pss_one (ps_ret (vand (pe_callB (kis K) (by rfl) T.n_isinstance (by decide +kernel) (pa_cons (vr 0) (pa_cons (pe_bltn (v := .ty "str") (by rfl) T.n_str (by decide +kernel) rfl) pa_nil))) (vand (vchain op_ltI op_ltI pe_int (pe_callB (klen K) (by rfl) T.n_len (by decide +kernel) (pa_cons (vr 0) pa_nil)) pe_int) (pe_one (pe_callB (kall K rfl) (by rfl) T.n_all (by decide +kernel) (pa_cons (pe_lc (own := [("letter", 1)])  rfl sc_is_name.nd (pi_str (vr 0)) (blkOk_by (own := [("letter", 1)]) (N := ["thing", "letter"]) (sc := defScope s_is_name) (by decide +kernel)) (fun _ _ _ _ _ => (pg_name (i := 1) sc_is_name.nd rfl (by first | exact .inl rfl | exact .inr rfl))) (fun _ _ _ _ _ => pts_nil) (fun _ _ _ _ _ => up (pe_cmpR (kin K) (vr 1) (pe_glob (v := .str ("abcdefghijklmnopqrstuvwxyz")) (by rfl) T.c_LETTERS ⟨_, rfl⟩) (by rfl)))) pa_nil))))))), ?_⟩)
  obtain ⟨v, d, rfl, dl, sz, q⟩ := h
  rw [st_is_name]
  cases dl with
  | non => exact ⟨_, _, .base .non, rfl, q _ (Same.refl H)⟩
  | bl b => exact ⟨_, _, .base (.bl b), rfl, q _ (Same.refl H)⟩
  | int i => exact ⟨_, _, .base (.int i), rfl, q _ (Same.refl H)⟩
  | lst h _ => exact ⟨_, _, .base (.lst h), rfl, q _ (Same.refl H)⟩
  | tup h _ => exact ⟨_, _, .base (.tup h), rfl, q _ (Same.refl H)⟩
  | dic h _ _ => exact ⟨_, _, .base (.dK h), rfl, q _ (Same.refl H)⟩
  | str z =>
    have lz := sz.text
    refine ⟨_, _, .base (.str _), rfl, ?_⟩
    have en : nameD (.str z) = (Nat.blt 0 z.length && (Nat.blt z.length 13 && z.cps.toList.all low)) := rfl
    refine ⟨size_le (by omega), br2 (fun e => ?_) (fun e => ?_)⟩
    · have e := of_decide_eq_true e
      have e0 : Nat.blt 0 z.length = true := (Nat.blt_eq).mpr (by omega)
      refine br2 (fun e2 => ?_) (fun e2 => ?_)
      · have e2 := of_decide_eq_true e2
        have e3 : Nat.blt z.length 13 = true := (Nat.blt_eq).mpr (by omega)
        rw [en, e0, e3, Bool.true_and, Bool.true_and] at q
        refine ⟨z, rfl, fun D nD => ?_⟩
        refine lcw walk_str fr_same (fun i v _ => ∃ c, z.cps.toList[i]? = some c ∧ v = .bl (low c)) trivial nD (by have : z.cps.size ≤ 1000 := lz; omega) gm_name (fun _ _ _ => trivial) (fun _ _ _ _ h _ => h) (fun i x H1 H1' hi _ s1 hy => ?_) (fun H1 ys _ s1 l1 e1 q1 => ?_)
        · obtain ⟨rfl, c, hc, rfl⟩ := hy
          refine ⟨rfl, trivial, Same.refl _, c, ?_, ?_⟩
          · rw [← Array.getElem?_toList] at hc
            exact hc
          · show V.bl (subS ⟨#[c]⟩ _) = .bl (low c)
            rw [subS_one, low_iff]
        · have l2 : ys.length = z.cps.toList.length := by rw [l1, Array.length_toList]
          have e4 := bls_map (f := low) l2 q1
          subst e4
          refine ⟨_, _, rfl, sqL_of e1, ?_⟩
          rw [all_id]
          exact q _ s1
      · have e2 := of_decide_eq_false e2
        have e3 : Nat.blt z.length 13 = false := by
          cases h : Nat.blt z.length 13 with
          | false => rfl
          | true => exact absurd (Nat.blt_eq.mp h) (by omega)
        rw [en, e3, Bool.false_and, Bool.and_false] at q
        exact q _ (Same.refl H)
    · have e := of_decide_eq_false e
      have e3 : Nat.blt 0 z.length = false := by
        cases h : Nat.blt 0 z.length with
        | false => rfl
        | true => exact absurd (Nat.blt_eq.mp h) (by omega)
      rw [en, e3, Bool.false_and] at q
      exact q _ (Same.refl H)
/-! ### has_level -/
theorem step_levelD (T : Top K mg) (n k : Nat) (hk : 1 ≤ k) (spI : Sp) (G_has_level : Ok_has_level P w base T k spI) (hI : ∀ m, n = m + 1 → spI = spDn m (levD m)) : Ok_has_level P w base T (k + 1) (spDn n (levD n)) := by
  have G_is_name : Ok_is_name P w base T 1 (spD nameD) := ok_nameD T 0
  refine T.F_has_level.ok sc_has_level (fun vs H Q E h => by obtain ⟨v, d, rfl, _⟩ := h; rfl) (fun cdv A outer s H vs Q E hr h => ⟨_, PSs.nox (pss_cons (sif (PW.pt (wor (tcmp op_isNo (vr 0) pe_non (nomark _)) (pw_or1 (tst (pe_callB (kis K) (by rfl) T.n_isinstance (by decide +kernel) (pa_cons (vr 0) (pa_cons (pe_tup (pa_cons (pe_bltn (v := .ty "str") (by rfl) T.n_str (by decide +kernel) rfl) (pa_cons (pe_bltn (v := .ty "int") (by rfl) T.n_int (by decide +kernel) rfl) pa_nil))) pa_nil))))))) (pss_one (ps_ret pe_bl)) pss_nil)
      (pss_cons (sif (tst (pe_callB (kis K) (by rfl) T.n_isinstance (by decide +kernel) (pa_cons (vr 0) (pa_cons (pe_bltn (v := .ty "tuple") (by rfl) T.n_tuple (by decide +kernel) rfl) pa_nil)))) (pss_one (ps_ret (vand (pe_cmpR op_gtI (vr 1) pe_int (nomark _)) (vand (pe_cmpR op_leI (pe_callB (klen K) (by rfl) T.n_len (by decide +kernel) (pa_cons (vr 0) pa_nil)) (pe_glob (v := .int (60)) (by rfl) T.c_MAX_ELEMENTS ⟨_, rfl⟩) (nomark _)) (pe_one (pe_callB (kall K rfl) (by rfl) T.n_all (by decide +kernel) (pa_cons (pe_lc (own := [("part", 3)])  rfl sc_has_level.nd (itup K (vr 0)) (blkOk_by (own := [("part", 3)]) (N := ["thing", "most", "name", "part"]) (sc := defScope s_has_level) (by decide +kernel)) (fun _ _ _ _ _ => (pg_name (i := 3) sc_has_level.nd rfl (by first | exact .inl rfl | exact .inr rfl))) (fun _ _ _ _ _ => pts_nil) (fun _ _ _ _ _ => up (pe_call G_has_level (hr.mono (by omega)) (by rfl) T.g_has_level T.F_has_level.kp (b_has_level T) .nil pass0 (pa_cons (vr 3) (pa_cons (pe_op op_minus (vr 1) pe_int) pa_nil))))) pa_nil))))))) pss_nil)
      (pss_cons (sif (PW.pt (wor (pt_not (tst (pe_callB (kis K) (by rfl) T.n_isinstance (by decide +kernel) (pa_cons (vr 0) (pa_cons (pe_bltn (v := .ty "dict") (by rfl) T.n_dict (by decide +kernel) rfl) pa_nil))))) (pw_or1 (tcmp (ksame K hr.units) (vr 1) pe_int (nomark _))))) (pss_one (ps_ret pe_bl)) pss_nil)
      (pss_one (ps_ret (pe_callB (kall K rfl) (by rfl) T.n_all (by decide +kernel) (pa_cons (pe_lock (pe_lc (own := [("name", 2)])  rfl sc_has_level.nd (pi_keys (vr 0)) (blkOk_by (own := [("name", 2)]) (N := ["thing", "most", "name", "part"]) (sc := defScope s_has_level) (by decide +kernel)) (fun _ _ _ _ _ => (pg_name (i := 2) sc_has_level.nd rfl (by first | exact .inl rfl | exact .inr rfl))) (fun _ _ _ _ _ => pts_nil) (fun _ _ _ _ _ => up (vand (pe_call G_is_name (hr.mono (by omega)) (by rfl) T.g_is_name T.F_is_name.kp (b_is_name T) .nil pass0 (pa_cons (vr 2) pa_nil)) (pe_one (pe_call G_has_level (hr.mono (by omega)) (by rfl) T.g_has_level T.F_has_level.kp (b_has_level T) .nil pass0 (pa_cons (pe_dget (hu_of hr) (vr 0) (vr 2) (fun _ _ => rfl)) (pa_cons (pe_op op_minus (vr 1) pe_int) pa_nil)))))))) pa_nil))))))), ?_⟩)
  obtain ⟨v, d, rfl, dl, sz, q⟩ := h
  rw [st_has_level]
  have two : ∀ _ : Addr, Paired ClsV [V.ty "str", .ty "int"] [Value.type "str", .type "int"] := fun _ => .cons (.ty _) (.cons (.ty _) .nil)
  have flat : ∀ {d}, (∀ n, levD n d = true) → levD n d = true := fun h => h n
  cases id dl with
  | non =>
    have := q _ (Same.refl H)
    rw [flat (fun n => by cases n <;> rfl)] at this
    exact this
  | bl b =>
    refine ⟨Nat.le_of_ble_eq_true rfl, fun p np => .inr ⟨_, p, _, _, _, _, rfl, upd_same, two p, .base (.bl _), rfl, ?_⟩⟩
    have := q _ (same_new (o := .tup [.ty "str", .ty "int"]) np)
    rw [flat (fun n => by cases n <;> rfl)] at this
    exact this
  | int i =>
    refine ⟨Nat.le_of_ble_eq_true rfl, fun p np => .inr ⟨_, p, _, _, _, _, rfl, upd_same, two p, .base (.int _), rfl, ?_⟩⟩
    have := q _ (same_new (o := .tup [.ty "str", .ty "int"]) np)
    rw [flat (fun n => by cases n <;> rfl)] at this
    exact this
  | str z =>
    refine ⟨Nat.le_of_ble_eq_true rfl, fun p np => .inr ⟨_, p, _, _, _, _, rfl, upd_same, two p, .base (.str _), rfl, ?_⟩⟩
    have := q _ (same_new (o := .tup [.ty "str", .ty "int"]) np)
    rw [flat (fun n => by cases n <;> rfl)] at this
    exact this
  | lst h _ =>
    refine ⟨Nat.le_of_ble_eq_true rfl, fun p np => .inr ⟨_, p, _, _, _, _, rfl, upd_same, two p, .base (.lst (same_new np _ _ h)), rfl, ?_⟩⟩
    have s0 : Same H (upd H p (.tup [.ty "str", .ty "int"])) := same_new np
    revert s0
    generalize upd H p (.tup [.ty "str", .ty "int"]) = H0
    intro s0
    refine ⟨_, _, .base (.lst (s0 _ _ h)), rfl, ?_⟩
    refine ⟨_, _, .base (.lst (s0 _ _ h)), rfl, ?_⟩
    have := q _ s0
    rw [show levD n (.list _) = false by cases n <;> rfl] at this
    exact this
  | tup h1 ha =>
    rename_i a xs ds
    refine ⟨Nat.le_of_ble_eq_true rfl, fun p np => .inr ⟨_, p, _, _, _, _, rfl, upd_same, two p, .base (.tup (same_new np _ _ h1)), rfl, ?_⟩⟩
    have s0 : Same H (upd H p (.tup [.ty "str", .ty "int"])) := same_new np
    revert s0
    generalize upd H p (.tup [.ty "str", .ty "int"]) = H0
    intro s0
    have h0 := s0 _ _ h1
    refine ⟨_, _, .base (.tup h0), rfl, br2 (fun e => ?_) (fun e => ?_)⟩
    · have e := of_decide_eq_true e
      cases n with
      | zero => exact absurd e (by decide)
      | succ n =>
      have hI := hI n rfl
      subst hI
      have len := ha.len
      have el : levD (n + 1) (.tuple ds) = (Nat.ble ds.length 60 && ds.all (levD n)) := rfl
      refine ⟨_, .inr (sqT_of h0), br2 (fun e2 => ?_) (fun e2 => ?_)⟩
      · have e2 := of_decide_eq_true e2
        have e3 : Nat.ble ds.length 60 = true := Nat.ble_eq_true_of_le (by omega)
        rw [el, e3, Bool.true_and] at q
        refine ⟨a, rfl, ⟨_, sqT_of h0⟩, fun D nD => ?_⟩
        refine lct (xs := xs) fr_same (fun i v _ => ∃ d, ds[i]? = some d ∧ v = .bl (levD n d)) trivial nD (by omega) (fun H1 _ s1 => sqT_of (s1 _ _ h0)) (fun _ _ _ _ h _ => h) (fun _ => rfl) (fun i x H1 hx _ s1 => ?_) (fun H1 ys _ s1 l1 e1 q1 => ?_)
        · obtain ⟨d, e4, hd⟩ := ha.at i x hx
          refine ⟨x, d, ?_, hd.same (s0.trans s1), sz.tupE d (List.mem_of_getElem? e4), fun H2 s2 => ⟨trivial, s2, d, e4, rfl⟩⟩
          show [x, V.int (((n + 1 : Nat) : Int) - 1)] = _
          rw [show ((n + 1 : Nat) : Int) - 1 = (n : Int) by omega]
        · have e4 := bls_map (f := levD n) (l1.trans len) q1
          subst e4
          refine ⟨_, _, rfl, sqL_of e1, ?_⟩
          rw [all_id]
          exact q _ (s0.trans s1)
      · have e2 := of_decide_eq_false e2
        have e3 : Nat.ble ds.length 60 = false := by
          cases h : Nat.ble ds.length 60 with
          | false => rfl
          | true => exact absurd (Nat.le_of_ble_eq_true h) (by omega)
        rw [el, e3, Bool.false_and] at q
        exact q _ s0
    · have e := of_decide_eq_false e
      cases n with
      | zero => exact q _ s0
      | succ n => omega
  | dic h1 ha hb =>
    rename_i a kvs ds
    refine ⟨Nat.le_of_ble_eq_true rfl, fun p np => .inr ⟨_, p, _, _, _, _, rfl, upd_same, two p, .base (.dK (same_new np _ _ h1)), rfl, ?_⟩⟩
    have s0 : Same H (upd H p (.tup [.ty "str", .ty "int"])) := same_new np
    revert s0
    generalize upd H p (.tup [.ty "str", .ty "int"]) = H0
    intro s0
    have h0 := s0 _ _ h1
    refine ⟨_, _, .base (.dK h0), rfl, ?_⟩
    refine ⟨_, _, .base (.dK h0), rfl, ?_⟩
    cases n with
    | zero => exact q _ s0
    | succ n =>
    have hI := hI n rfl
    subst hI
    obtain ⟨lk, nd, k1, k2⟩ : ds.length ≤ 1000 ∧ (ds.map (·.1)).Nodup ∧ (∀ p ∈ ds, Sz p.1) ∧ (∀ p ∈ ds, Sz p.2) := by cases sz; exact ⟨by assumption, by assumption, by assumption, by assumption⟩
    have len : kvs.length = ds.length := by
      have := ha.len
      rw [List.length_map, List.length_map] at this
      exact this
    have nk := keys_nd ha nd
    have hp := DL.parts h1 ha hb
    refine ⟨a, _, h0, trivial, fun od => ?_⟩
    refine ⟨a, od, rfl, .inl ⟨kvs, upd_same, fun D nD => ?_⟩⟩
    have nDa := (upd_none nD).1
    have gd : DLs (upd H0 a (.frz od (.dK kvs))) (kvs.map (·.2)) (ds.map (·.2)) := hp.same fun b o e => by
      obtain ⟨n1, e1⟩ := hide_some e
      rw [upd_ne n1]
      exact s0 _ _ e1
    have gk : ∀ H', DLs H' (kvs.map fun p => kV p.1) (ds.map (·.1)) := fun H' => dls_flat ha
    have hf : upd H0 a (.frz od (.dK kvs)) a = some (.frz od (.dK kvs)) := upd_same
    have hback : upd (upd H0 a (.frz od (.dK kvs))) a (.dK kvs) = H0 := by
      funext b
      by_cases z : b = a
      · subst z
        rw [upd_same]
        exact h0.symm
      · rw [upd_ne z, upd_ne z]
    have el : levD (n + 1) (.dict ds) = ds.all (fun p => nameD p.1 && levD n p.2) := rfl
    rw [el] at q
    revert gd hf hback nD
    generalize upd H0 a (.frz od (.dK kvs)) = HF
    intro nD gd hf hback
    refine lcw walk_keys fr_same (fun i v _ => ∃ p, ds[i]? = some p ∧ v = .bl (nameD p.1 && levD n p.2)) trivial nD (by omega) gm_name (fun H1 _ s1 => s1 _ _ hf) (fun _ _ _ _ h _ => h) (fun i x H1 H1' hi _ s1 hy => ?_) (fun H1 ys _ s1 l1 e1 q1 => ?_)
    · obtain ⟨rfl, k0, v0, hx, rfl⟩ := hy
      obtain ⟨kd, e4, h4⟩ := (gk H1').at i (kV k0) (by rw [List.getElem?_map, hx]; rfl)
      obtain ⟨vd, e5, h5⟩ := gd.at i v0 (by rw [List.getElem?_map, hx]; rfl)
      obtain ⟨pr, hpr, rfl, rfl⟩ : ∃ pr, ds[i]? = some pr ∧ pr.1 = kd ∧ pr.2 = vd := by
        rw [List.getElem?_map] at e4 e5
        obtain ⟨pr, hpr, e6⟩ := Option.map_eq_some_iff.mp e4
        rw [hpr] at e5
        exact ⟨pr, hpr, e6, by simpa using e5⟩
      have mp := List.mem_of_getElem? hpr
      refine ⟨rfl, _, _, rfl, h4, k1 _ mp, fun H2 s2 => ?_⟩
      refine br2 (fun e => ?_) (fun e => ?_)
      · have f2 := s2 _ _ (s1 _ _ hf)
        obtain ⟨w0, rfl⟩ : ∃ w0, k0 = .inr w0 := by
          cases k0 with
          | inr w0 => exact ⟨w0, rfl⟩
          | inl i0 =>
            have h4 : DL H1' (.int i0) pr.1 := h4
            cases h4e : pr.1 with
            | _ => rw [h4e] at h4 e; cases h4 <;> cases e
        have hv : valV kvs (.inr w0) = some v0 := valV_at nk hx
        have en : ((n + 1 : Nat) : Int) - 1 = (n : Int) := by omega
        refine ⟨a, v0, rfl, .inl ⟨kvs, .inr w0, .inr ⟨od, f2⟩, rfl, hv.symm⟩, v0, pr.2, ?_, h5.same (s1.trans s2), k2 _ mp, fun H3 s3 => ⟨trivial, s2.trans s3, pr, hpr, ?_⟩⟩
        · show [v0, V.int (((n + 1 : Nat) : Int) - 1)] = _
          rw [en]
        · rw [e, Bool.true_and]
      · refine ⟨trivial, s2, pr, hpr, ?_⟩
        rw [e, Bool.false_and]
    · have e4 := bls_map (f := fun p : PyData × PyData => nameD p.1 && levD n p.2) (l1.trans len) q1
      subst e4
      have f1 := s1 _ _ hf
      refine ⟨f1, _, ds.map fun p => nameD p.1 && levD n p.2, rfl, ?_, ?_⟩
      · exact sqL_of ((upd_ne nDa).trans e1)
      · rw [all_id]
        refine q _ (s0.trans ?_)
        intro b o hb'
        by_cases z : b = a
        · subst z
          rw [upd_same, ← h0]
          exact hb'
        · rw [upd_ne z]
          refine s1 b o ?_
          rw [← hback, upd_ne z] at hb'
          exact hb'
theorem no_levelD (T : Top K mg) : Ok_has_level P w base T 1 (fun _ _ _ _ => False) := ⟨fun _ _ _ _ h => h.elim, fun _ _ _ _ _ _ _ _ _ _ _ _ _ h => h.elim⟩
theorem ok_levelD (T : Top K mg) : ∀ n, Ok_has_level P w base T (n + 2) (spDn n (levD n))
  | 0 => step_levelD T 0 1 (by decide) _ (no_levelD T) fun m e => by cases e
  | n + 1 => step_levelD T (n + 1) (n + 2) (by omega) _ (ok_levelD T n) fun m e => by cases e; rfl
theorem ok_valueD (T : Top K mg) (k : Nat) : Ok_is_value P w base T (k + 9) (spD (levD 6)) := by
  have G_has_level : Ok_has_level P w base T 8 (spDn 6 (levD 6)) := ok_levelD T 6
  refine T.F_is_value.ok sc_is_value (fun vs H Q E h => by obtain ⟨v, d, rfl, _⟩ := h; rfl) (fun cdv A outer s H vs Q E hr h => ⟨_, PSs.nox (pss_one (ps_ret (pe_call G_has_level (hr.mono (by omega)) (by rfl) T.g_has_level T.F_has_level.kp (b_has_level T) .nil pass0 (pa_cons (vr 0) (pa_cons (pe_glob (v := .int (6)) (by rfl) T.c_MAX_LEVELS ⟨_, rfl⟩) pa_nil))))), ?_⟩)
  obtain ⟨v, d, rfl, dl, sz, q⟩ := h
  rw [st_is_value]
  exact ⟨v, d, rfl, dl, sz, q⟩
end
end Sk
/-! Sk: texts, pairs, addresses, attributes, text nodes of any data -/
namespace Sk
open PySem PySem.Spec PyProof.Rows L2
theorem kitS {K : Fg} (d : PyData) : PySem.W.kitOne K (.type (tyD d).nm) (.type "str") = some (isStrD d) := by cases d <;> rfl
theorem lenNe {xs : List V} {n : Nat} (h : xs.length ≠ n) : decide (V.int ((xs.length : Nat) : Int) = V.int (n : Int)) = false := decide_eq_false fun e => by
  injection e with e
  omega
theorem lenNe' {xs : List V} {n : Nat} (h : xs.length ≠ n) : (!decide (V.int ((xs.length : Nat) : Int) = V.int (n : Int))) = true := by rw [lenNe h]; rfl
theorem len3 (x y z : V) (r : List V) : decide (V.int (((x :: y :: z :: r).length : Nat) : Int) = V.int 2) = false := lenNe (xs := x :: y :: z :: r) (n := 2) (by simp)
theorem len3' (x y z : V) (r : List V) : (!decide (V.int (((x :: y :: z :: r).length : Nat) : Int) = V.int 2)) = true := lenNe' (xs := x :: y :: z :: r) (n := 2) (by simp)
theorem nameD_str {d : PyData} (h : nameD d = true) : ∃ z, d = .str z := by
  cases d with
  | str z => exact ⟨z, rfl⟩
  | _ => cases h
theorem texts_of {H : Hp} : ∀ {xs : List V} {ds : List PyData}, DLs H xs ds → ds.all isStrD = true → ∃ ws : List Str, xs = ws.map V.str ∧ ds = ws.map PyData.str
  | _, _, .nil, _ => ⟨[], rfl, rfl⟩
  | _, _, .cons (d := d) h t, e => by
    have e : (isStrD d && _) = true := e
    obtain ⟨e1, e2⟩ := Bool.and_eq_true_iff.mp e
    obtain ⟨ws, rfl, rfl⟩ := texts_of t e2
    cases h with
    | str z => exact ⟨z :: ws, rfl, rfl⟩
    | _ => cases e1
section
variable {P : Program} {w : World} {K : PySem.W.Frag} {mg : Str → Option Value} {base : Heap}
theorem ok_textsD (T : Top K mg) (k : Nat) : Ok_are_texts P w base T (k + 1) (spD textsD) := by
  refine T.F_are_texts.ok sc_are_texts (fun vs H Q E h => by obtain ⟨v, d, rfl, _⟩ := h; rfl) (fun cdv A outer s H vs Q E hr h => ⟨_, PSs.nox (pss_one (ps_ret (vand (pe_callB (kis K) (by rfl) T.n_isinstance (by decide +kernel) (pa_cons (vr 0) (pa_cons (pe_bltn (v := .ty "tuple") (by rfl) T.n_tuple (by decide +kernel) rfl) pa_nil))) (pe_one (pe_callB (kall K rfl) (by rfl) T.n_all (by decide +kernel) (pa_cons (pe_lc (own := [("part", 1)])  rfl sc_are_texts.nd (itup K (vr 0)) (blkOk_by (own := [("part", 1)]) (N := ["thing", "part"]) (sc := defScope s_are_texts) (by decide +kernel)) (fun _ _ _ _ _ => (pg_name (i := 1) sc_are_texts.nd rfl (by first | exact .inl rfl | exact .inr rfl))) (fun _ _ _ _ _ => pts_nil) (fun _ _ _ _ _ => up (pe_callB (kis K) (by rfl) T.n_isinstance (by decide +kernel) (pa_cons (vr 1) (pa_cons (pe_bltn (v := .ty "str") (by rfl) T.n_str (by decide +kernel) rfl) pa_nil))))) pa_nil)))))), ?_⟩)
  obtain ⟨v, d, rfl, dl, sz, q⟩ := h
  rw [st_are_texts]
  cases id dl with
  | non => exact ⟨_, _, .base .non, rfl, q _ (Same.refl H)⟩
  | bl b => exact ⟨_, _, .base (.bl b), rfl, q _ (Same.refl H)⟩
  | int i => exact ⟨_, _, .base (.int i), rfl, q _ (Same.refl H)⟩
  | str z => exact ⟨_, _, .base (.str z), rfl, q _ (Same.refl H)⟩
  | lst h _ => exact ⟨_, _, .base (.lst h), rfl, q _ (Same.refl H)⟩
  | dic h _ _ => exact ⟨_, _, .base (.dK h), rfl, q _ (Same.refl H)⟩
  | tup ha hz =>
    rename_i a xs ds
    have len := hz.len
    have l2 := sz.tupL
    refine ⟨_, _, .base (.tup ha), rfl, a, rfl, ⟨_, sqT_of ha⟩, fun D nD => ?_⟩
    refine lct (xs := xs) fr_same (fun i v _ => ∃ d, ds[i]? = some d ∧ v = .bl (isStrD d)) trivial nD (by omega) (fun H1 _ s1 => sqT_of (s1 _ _ ha)) (fun _ _ _ _ h _ => h) (fun _ => rfl) (fun i x H1 hx _ s1 => ?_) (fun H1 ys _ s1 l1 e1 q1 => ?_)
    · obtain ⟨d, e, hd⟩ := hz.at i x hx
      exact ⟨_, _, (hd.same s1).kn.ty, kitS d, trivial, Same.refl _, d, e, rfl⟩
    · have e4 := bls_map (f := isStrD) (l1.trans len) q1
      subst e4
      refine ⟨_, ds.map isStrD, rfl, sqL_of e1, ?_⟩
      rw [all_id]
      exact q _ s1
theorem ok_pairD (T : Top K mg) (k : Nat) : Ok_is_pair P w base T (k + 2) (spD pairD) := by
  have G_is_name : Ok_is_name P w base T 1 (spD nameD) := ok_nameD T 0
  refine T.F_is_pair.ok sc_is_pair (fun vs H Q E h => by obtain ⟨v, d, rfl, _⟩ := h; rfl) (fun cdv A outer s H vs Q E hr h => ⟨_, PSs.nox (pss_one (ps_ret (vand (pe_callB (kis K) (by rfl) T.n_isinstance (by decide +kernel) (pa_cons (vr 0) (pa_cons (pe_bltn (v := .ty "tuple") (by rfl) T.n_tuple (by decide +kernel) rfl) pa_nil))) (vand (pe_cmpR (ksame K hr.units) (pe_callB (klen K) (by rfl) T.n_len (by decide +kernel) (pa_cons (vr 0) pa_nil)) pe_int (nomark _)) (vand (pe_call G_is_name (hr.mono (by omega)) (by rfl) T.g_is_name T.F_is_name.kp (b_is_name T) .nil pass0 (pa_cons (pe_ix (kget K) (vr 0) pe_int (fun _ _ => rfl)) pa_nil)) (pe_one (pe_callB (kis K) (by rfl) T.n_isinstance (by decide +kernel) (pa_cons (pe_ix (kget K) (vr 0) pe_int (fun _ _ => rfl)) (pa_cons (pe_bltn (v := .ty "str") (by rfl) T.n_str (by decide +kernel) rfl) pa_nil))))))))), ?_⟩)
  obtain ⟨v, d, rfl, dl, sz, q⟩ := h
  rw [st_is_pair]
  cases id dl with
  | non => exact ⟨_, _, .base .non, rfl, q _ (Same.refl H)⟩
  | bl b => exact ⟨_, _, .base (.bl b), rfl, q _ (Same.refl H)⟩
  | int i => exact ⟨_, _, .base (.int i), rfl, q _ (Same.refl H)⟩
  | str z => exact ⟨_, _, .base (.str z), rfl, q _ (Same.refl H)⟩
  | lst h _ => exact ⟨_, _, .base (.lst h), rfl, q _ (Same.refl H)⟩
  | dic h _ _ => exact ⟨_, _, .base (.dK h), rfl, q _ (Same.refl H)⟩
  | tup ha hz =>
    refine ⟨_, _, .base (.tup ha), rfl, _, .inr (sqT_of ha), ?_⟩
    cases hz with
    | nil => exact q _ (Same.refl H)
    | cons hk t =>
      rename_i x xs k ds
      cases t with
      | nil => exact q _ (Same.refl H)
      | cons hv t =>
        rename_i y ys v ds
        cases t with
        | cons _ _ => exact q _ (Same.refl H)
        | nil =>
          have zk := sz.tupE k (by simp)
          refine ⟨_, _, .inr (sqT_of ha), rfl, _, _, rfl, hk, zk, fun H1 s1 => ?_⟩
          have ep : pairD (.tuple [k, v]) = (nameD k && isStrD v) := rfl
          rw [ep] at q
          refine br2 (fun e => ?_) (fun e => ?_)
          · rw [e, Bool.true_and] at q
            exact ⟨_, _, .inr (sqT_of (s1 _ _ ha)), rfl, _, _, (hv.same s1).kn.ty, kitS v, q _ s1⟩
          · rw [e, Bool.false_and] at q
            exact q _ s1
theorem ok_addrD (T : Top K mg) (k : Nat) : Ok_is_address P w base T (k + 3) (spD addrD) := by
  have G_are_texts : Ok_are_texts P w base T 1 (spD textsD) := ok_textsD T 0
  have G_is_pair : Ok_is_pair P w base T 2 (spD pairD) := ok_pairD T 0
  refine T.F_is_address.ok sc_is_address (fun vs H Q E h => by obtain ⟨v, d, rfl, _⟩ := h; rfl) (fun cdv A outer s H vs Q E hr h => ⟨_, PSs.nox (pss_cons (sif (PW.pt (wor (pt_not (tst (pe_callB (kis K) (by rfl) T.n_isinstance (by decide +kernel) (pa_cons (vr 0) (pa_cons (pe_bltn (v := .ty "tuple") (by rfl) T.n_tuple (by decide +kernel) rfl) pa_nil))))) (wor (tcmp (kother K hr.units) (pe_callB (klen K) (by rfl) T.n_len (by decide +kernel) (pa_cons (vr 0) pa_nil)) pe_int (nomark _)) (wor (pt_not (tst (pe_call G_are_texts (hr.mono (by omega)) (by rfl) T.g_are_texts T.F_are_texts.kp (b_are_texts T) .nil pass0 (pa_cons (pe_ix (kget K) (vr 0) pe_int (fun _ _ => rfl)) pa_nil)))) (pw_or1 (tcmp (ksame K hr.units) (pe_ix (kget K) (vr 0) pe_int (fun _ _ => rfl)) (pe_tup pa_nil) (nomark _))))))) (pss_one (ps_ret pe_bl)) pss_nil)
      (pss_one (ps_ret (vand (pe_callB (kis K) (by rfl) T.n_isinstance (by decide +kernel) (pa_cons (pe_ix (kget K) (vr 0) pe_int (fun _ _ => rfl)) (pa_cons (pe_bltn (v := .ty "tuple") (by rfl) T.n_tuple (by decide +kernel) rfl) pa_nil))) (pe_one (pe_callB (kall K rfl) (by rfl) T.n_all (by decide +kernel) (pa_cons (pe_lc (own := [("pair", 1)])  rfl sc_is_address.nd (itup K (pe_ix (kget K) (vr 0) pe_int (fun _ _ => rfl))) (blkOk_by (own := [("pair", 1)]) (N := ["thing", "pair"]) (sc := defScope s_is_address) (by decide +kernel)) (fun _ _ _ _ _ => (pg_name (i := 1) sc_is_address.nd rfl (by first | exact .inl rfl | exact .inr rfl))) (fun _ _ _ _ _ => pts_nil) (fun _ _ _ _ _ => up (pe_call G_is_pair (hr.mono (by omega)) (by rfl) T.g_is_pair T.F_is_pair.kp (b_is_pair T) .nil pass0 (pa_cons (vr 1) pa_nil)))) pa_nil))))))), ?_⟩)
  obtain ⟨v, d, rfl, dl, sz, q⟩ := h
  rw [st_is_address]
  cases id dl with
  | non => exact ⟨_, _, .base .non, rfl, q _ (Same.refl H)⟩
  | bl b => exact ⟨_, _, .base (.bl b), rfl, q _ (Same.refl H)⟩
  | int i => exact ⟨_, _, .base (.int i), rfl, q _ (Same.refl H)⟩
  | str z => exact ⟨_, _, .base (.str z), rfl, q _ (Same.refl H)⟩
  | lst h _ => exact ⟨_, _, .base (.lst h), rfl, q _ (Same.refl H)⟩
  | dic h _ _ => exact ⟨_, _, .base (.dK h), rfl, q _ (Same.refl H)⟩
  | tup hp hz =>
    refine ⟨_, _, .base (.tup hp), rfl, _, .inr (sqT_of hp), ?_⟩
    cases hz with
    | nil => exact q _ (Same.refl H)
    | cons hk t =>
      rename_i x xs k ds
      cases t with
      | nil => exact q _ (Same.refl H)
      | cons hv t =>
        rename_i y ys v ds
        cases t with
        | cons _ _ => exact q _ (Same.refl H)
        | nil =>
          have zk := sz.tupE k (by simp)
          have zv := sz.tupE v (by simp)
          refine ⟨_, _, .inr (sqT_of hp), rfl, _, _, rfl, hk, zk, fun H1 s1 => ?_⟩
          have hp1 := s1 _ _ hp
          have ep : addrD (.tuple [k, v]) = (textsD k && (!emptyT k && pairsD v)) := rfl
          cases et : textsD k with
          | false =>
            rw [ep, et, Bool.false_and] at q
            exact q _ s1
          | true =>
            rw [ep, et, Bool.true_and] at q
            obtain ⟨b, ws, rfl, hb, rfl⟩ : ∃ (b : Addr) (ws : List Str), x = .ref b ∧ H b = some (.tup (ws.map V.str)) ∧ k = .tuple (ws.map PyData.str) := by
              cases hk with
              | tup hb hbs =>
                obtain ⟨ws, e1, e2⟩ := texts_of hbs et
                subst e1 e2
                exact ⟨_, ws, rfl, hb, rfl⟩
              | _ => cases et
            refine ⟨_, _, .inr (sqT_of hp1), rfl, Nat.le_of_ble_eq_true rfl, fun e ne => ?_⟩
            have s2 : Same H1 (upd H1 e (.tup [])) := same_new ne
            refine ⟨.tuple (ws.map PyData.str), .tuple [], .tup (sqT_of (s2 _ _ (s1 _ _ hb))) (dp_texts ws), .tup (sqT_of upd_same) .nil, shp_texts ws, rfl, ?_⟩
            have s02 := s1.trans s2
            cases ws with
            | nil => exact q _ s02
            | cons w0 ws =>
            have q : ∀ H', Same H H' → Q (.bl (pairsD v)) H' := q
            refine ⟨_, _, .inr (sqT_of (s02 _ _ hp)), rfl, ?_⟩
            cases id hv with
            | non => exact ⟨_, _, .base .non, rfl, q _ s02⟩
            | bl b => exact ⟨_, _, .base (.bl b), rfl, q _ s02⟩
            | int i => exact ⟨_, _, .base (.int i), rfl, q _ s02⟩
            | str z => exact ⟨_, _, .base (.str z), rfl, q _ s02⟩
            | lst h _ => exact ⟨_, _, .base (.lst (s02 _ _ h)), rfl, q _ s02⟩
            | dic h _ _ => exact ⟨_, _, .base (.dK (s02 _ _ h)), rfl, q _ s02⟩
            | @tup c vs es hc hcs =>
              have len := hcs.len
              have l2 := zv.tupL
              refine ⟨_, _, .base (.tup (s02 _ _ hc)), rfl, _, _, .inr (sqT_of (s02 _ _ hp)), rfl, c, rfl, ⟨_, sqT_of (s02 _ _ hc)⟩, fun D nD => ?_⟩
              refine lct (xs := vs) fr_same (fun i v _ => ∃ d, es[i]? = some d ∧ v = .bl (pairD d)) trivial nD (by omega) (fun H3 _ s3 => sqT_of (s3 _ _ (s02 _ _ hc))) (fun _ _ _ _ h _ => h) (fun _ => rfl) (fun i x H3 hx _ s3 => ?_) (fun H3 ys _ s3 l1 e1 q1 => ?_)
              · obtain ⟨d, e, hd⟩ := hcs.at i x hx
                exact ⟨_, _, rfl, hd.same (s02.trans s3), zv.tupE d (List.mem_of_getElem? e), fun H4 s4 => ⟨trivial, s4, d, e, rfl⟩⟩
              · have e4 := bls_map (f := pairD) (l1.trans len) q1
                subst e4
                refine ⟨_, es.map pairD, rfl, sqL_of e1, ?_⟩
                rw [all_id]
                exact q _ (s02.trans s3)
theorem ok_attD (T : Top K mg) (k : Nat) : Ok_is_attribute P w base T (k + 4) (spD attD) := by
  have G_is_name : Ok_is_name P w base T 1 (spD nameD) := ok_nameD T 0
  have G_is_address : Ok_is_address P w base T 3 (spD addrD) := ok_addrD T 0
  refine T.F_is_attribute.ok sc_is_attribute (fun vs H Q E h => by obtain ⟨v, d, rfl, _⟩ := h; rfl) (fun cdv A outer s H vs Q E hr h => ⟨_, PSs.nox (pss_cons (sif (PW.pt (wor (pt_not (tst (pe_callB (kis K) (by rfl) T.n_isinstance (by decide +kernel) (pa_cons (vr 0) (pa_cons (pe_bltn (v := .ty "tuple") (by rfl) T.n_tuple (by decide +kernel) rfl) pa_nil))))) (wor (tcmp (kother K hr.units) (pe_callB (klen K) (by rfl) T.n_len (by decide +kernel) (pa_cons (vr 0) pa_nil)) pe_int (nomark _)) (pw_or1 (pt_not (tst (pe_call G_is_name (hr.mono (by omega)) (by rfl) T.g_is_name T.F_is_name.kp (b_is_name T) .nil pass0 (pa_cons (pe_ix (kget K) (vr 0) pe_int (fun _ _ => rfl)) pa_nil)))))))) (pss_one (ps_ret pe_bl)) pss_nil)
      (pss_one (ps_ret (vif (tcmp (ksame K hr.units) (pe_ix (kget K) (vr 0) pe_int (fun _ _ => rfl)) (pe_glob (v := .str ("href")) (by rfl) T.c_ADDRESS ⟨_, rfl⟩) (nomark _)) (pe_call G_is_address (hr.mono (by omega)) (by rfl) T.g_is_address T.F_is_address.kp (b_is_address T) .nil pass0 (pa_cons (pe_ix (kget K) (vr 0) pe_int (fun _ _ => rfl)) pa_nil)) (pe_callB (kis K) (by rfl) T.n_isinstance (by decide +kernel) (pa_cons (pe_ix (kget K) (vr 0) pe_int (fun _ _ => rfl)) (pa_cons (pe_bltn (v := .ty "str") (by rfl) T.n_str (by decide +kernel) rfl) pa_nil))))))), ?_⟩)
  obtain ⟨v, d, rfl, dl, sz, q⟩ := h
  rw [st_is_attribute]
  cases id dl with
  | non => exact ⟨_, _, .base .non, rfl, q _ (Same.refl H)⟩
  | bl b => exact ⟨_, _, .base (.bl b), rfl, q _ (Same.refl H)⟩
  | int i => exact ⟨_, _, .base (.int i), rfl, q _ (Same.refl H)⟩
  | str z => exact ⟨_, _, .base (.str z), rfl, q _ (Same.refl H)⟩
  | lst h _ => exact ⟨_, _, .base (.lst h), rfl, q _ (Same.refl H)⟩
  | dic h _ _ => exact ⟨_, _, .base (.dK h), rfl, q _ (Same.refl H)⟩
  | tup ha hz =>
    refine ⟨_, _, .base (.tup ha), rfl, _, .inr (sqT_of ha), ?_⟩
    cases hz with
    | nil => exact q _ (Same.refl H)
    | cons hk t =>
      rename_i x xs k ds
      cases t with
      | nil => exact q _ (Same.refl H)
      | cons hv t =>
        rename_i y ys v ds
        cases t with
        | cons _ _ => exact q _ (Same.refl H)
        | nil =>
          have zk := sz.tupE k (by simp)
          have zv := sz.tupE v (by simp)
          refine ⟨_, _, .inr (sqT_of ha), rfl, _, _, rfl, hk, zk, fun H1 s1 => ?_⟩
          have ha1 := s1 _ _ ha
          have ep : attD (.tuple [k, v]) = (nameD k && (if isS "href" k then addrD v else isStrD v)) := rfl
          cases et : nameD k with
          | false =>
            rw [ep, et, Bool.false_and] at q
            exact q _ s1
          | true =>
            rw [ep, et, Bool.true_and] at q
            obtain ⟨z, rfl⟩ := nameD_str et
            cases hk
            refine ⟨_, _, .inr (sqT_of ha1), rfl, ?_⟩
            have ed : decide (V.str z = V.str "href") = isS "href" (.str z) := eqL_dec z "href"
            refine br2 (fun e => ?_) (fun e => ?_)
            · have e : decide (V.str z = V.str "href") = true := e
              rw [ed] at e
              rw [e] at q
              exact ⟨_, _, .inr (sqT_of ha1), rfl, _, _, rfl, hv.same s1, zv, fun H2 s2 => q _ (s1.trans s2)⟩
            · have e : decide (V.str z = V.str "href") = false := e
              rw [ed] at e
              rw [e] at q
              exact ⟨_, _, .inr (sqT_of ha1), rfl, _, _, (hv.same s1).kn.ty, kitS v, q _ s1⟩
theorem ok_tnodeD (T : Top K mg) (k : Nat) : Ok_is_text_node P w base T (k + 1) (spD tnodeD) := by
  refine T.F_is_text_node.ok sc_is_text_node (fun vs H Q E h => by obtain ⟨v, d, rfl, _⟩ := h; rfl) (fun cdv A outer s H vs Q E hr h => ⟨_, PSs.nox (pss_cons (sif (PW.pt (wor (pt_not (tst (pe_callB (kis K) (by rfl) T.n_isinstance (by decide +kernel) (pa_cons (vr 0) (pa_cons (pe_bltn (v := .ty "tuple") (by rfl) T.n_tuple (by decide +kernel) rfl) pa_nil))))) (wor (tcmp (kother K hr.units) (pe_callB (klen K) (by rfl) T.n_len (by decide +kernel) (pa_cons (vr 0) pa_nil)) pe_int (nomark _)) (wor (pt_not (tst (pe_callB (kis K) (by rfl) T.n_isinstance (by decide +kernel) (pa_cons (pe_ix (kget K) (vr 0) pe_int (fun _ _ => rfl)) (pa_cons (pe_bltn (v := .ty "str") (by rfl) T.n_str (by decide +kernel) rfl) pa_nil))))) (pw_or1 (tcmp (kother K hr.units) (pe_ix (kget K) (vr 0) pe_int (fun _ _ => rfl)) pe_str (nomark _))))))) (pss_one (ps_ret pe_bl)) pss_nil)
      (pss_one (ps_ret (vand (pe_callB (kis K) (by rfl) T.n_isinstance (by decide +kernel) (pa_cons (pe_ix (kget K) (vr 0) pe_int (fun _ _ => rfl)) (pa_cons (pe_bltn (v := .ty "str") (by rfl) T.n_str (by decide +kernel) rfl) pa_nil))) (pe_one (pe_cmpR (kother K hr.units) (pe_ix (kget K) (vr 0) pe_int (fun _ _ => rfl)) pe_str (nomark _))))))), ?_⟩)
  obtain ⟨v, d, rfl, dl, sz, q⟩ := h
  rw [st_is_text_node]
  cases id dl with
  | non => exact ⟨_, _, .base .non, rfl, q _ (Same.refl H)⟩
  | bl b => exact ⟨_, _, .base (.bl b), rfl, q _ (Same.refl H)⟩
  | int i => exact ⟨_, _, .base (.int i), rfl, q _ (Same.refl H)⟩
  | str z => exact ⟨_, _, .base (.str z), rfl, q _ (Same.refl H)⟩
  | lst h _ => exact ⟨_, _, .base (.lst h), rfl, q _ (Same.refl H)⟩
  | dic h _ _ => exact ⟨_, _, .base (.dK h), rfl, q _ (Same.refl H)⟩
  | tup ha hz =>
    refine ⟨_, _, .base (.tup ha), rfl, _, .inr (sqT_of ha), ?_⟩
    cases hz with
    | nil => exact q _ (Same.refl H)
    | cons hk t =>
      rename_i x xs k ds
      cases t with
      | nil => exact q _ (Same.refl H)
      | cons hv t =>
        rename_i y ys v ds
        cases t with
        | cons _ _ => exact q _ (Same.refl H)
        | nil =>
          refine ⟨_, _, .inr (sqT_of ha), rfl, ?_⟩
          cases id hk with
          | non => exact ⟨_, _, .base .non, rfl, q _ (Same.refl H)⟩
          | bl b => exact ⟨_, _, .base (.bl b), rfl, q _ (Same.refl H)⟩
          | int i => exact ⟨_, _, .base (.int i), rfl, q _ (Same.refl H)⟩
          | lst h _ => exact ⟨_, _, .base (.lst h), rfl, q _ (Same.refl H)⟩
          | tup h _ => exact ⟨_, _, .base (.tup h), rfl, q _ (Same.refl H)⟩
          | dic h _ _ => exact ⟨_, _, .base (.dK h), rfl, q _ (Same.refl H)⟩
          | str z =>
            refine ⟨_, _, .base (.str z), rfl, _, _, .inr (sqT_of ha), rfl, ?_⟩
            have ed : decide (V.str z = V.str "text") = isS "text" (.str z) := eqL_dec z "text"
            have ep : tnodeD (.tuple [.str z, v]) = (isS "text" (.str z) && fullD v) := rfl
            refine br2 (fun e => ?_) (fun e => ?_)
            · have e : (!decide (V.str z = V.str "text")) = true := e
              rw [ed] at e
              rw [ep, show isS "text" (.str z) = false by simpa using e, Bool.false_and] at q
              exact q _ (Same.refl H)
            · have e : (!decide (V.str z = V.str "text")) = false := e
              rw [ed] at e
              rw [ep, show isS "text" (.str z) = true by simpa using e, Bool.true_and] at q
              refine ⟨_, _, .inr (sqT_of ha), rfl, ?_⟩
              cases id hv with
              | non => exact ⟨_, _, .base .non, rfl, q _ (Same.refl H)⟩
              | bl b => exact ⟨_, _, .base (.bl b), rfl, q _ (Same.refl H)⟩
              | int i => exact ⟨_, _, .base (.int i), rfl, q _ (Same.refl H)⟩
              | lst h _ => exact ⟨_, _, .base (.lst h), rfl, q _ (Same.refl H)⟩
              | tup h _ => exact ⟨_, _, .base (.tup h), rfl, q _ (Same.refl H)⟩
              | dic h _ _ => exact ⟨_, _, .base (.dK h), rfl, q _ (Same.refl H)⟩
              | str y =>
                refine ⟨_, _, .base (.str y), rfl, _, _, .inr (sqT_of ha), rfl, ?_⟩
                have q : Q (.bl (!eqL y "")) H := q _ (Same.refl H)
                rw [← eqL_dec] at q
                exact q
end
end Sk
/-! Sk: nodes, trees of any data; write -/
namespace Sk
open PySem PySem.Spec PyProof.Rows L2
theorem at0 {α : Type} (x : α) (xs : List α) : atI (x :: xs) 0 = some x := by
  unfold atI ixN
  rw [if_pos (by decide), if_pos (by simp only [List.length_cons]; omega)]
  rfl
section
variable {P : Program} {w : World} {K : PySem.W.Frag} {mg : Str → Option Value} {base : Heap}
theorem step_nodesD (T : Top K mg) (n k : Nat) (hk : 1 ≤ k) (G_is_node : Ok_is_node P w base T k (spDn n (nodeD n))) : Ok_are_nodes P w base T (k + 1) (spDn n (nodesD n)) := by
  have G_is_text_node : Ok_is_text_node P w base T 1 (spD tnodeD) := ok_tnodeD T 0
  refine T.F_are_nodes.ok sc_are_nodes (fun vs H Q E h => by obtain ⟨v, d, rfl, _⟩ := h; rfl) (fun cdv A outer s H vs Q E hr h => ⟨_, PSs.nox (pss_cons (sif (PW.pt (wor (pt_not (tst (pe_callB (kis K) (by rfl) T.n_isinstance (by decide +kernel) (pa_cons (vr 0) (pa_cons (pe_bltn (v := .ty "tuple") (by rfl) T.n_tuple (by decide +kernel) rfl) pa_nil))))) (pw_or1 (pt_not (tst (pe_callB (kall K rfl) (by rfl) T.n_all (by decide +kernel) (pa_cons (pe_lc (own := [("node", 2)])  rfl sc_are_nodes.nd (itup K (vr 0)) (blkOk_by (own := [("node", 2)]) (N := ["thing", "most", "node", "after"]) (sc := defScope s_are_nodes) (by decide +kernel)) (fun _ _ _ _ _ => (pg_name (i := 2) sc_are_nodes.nd rfl (by first | exact .inl rfl | exact .inr rfl))) (fun _ _ _ _ _ => pts_nil) (fun _ _ _ _ _ => up (pe_call G_is_node (hr.mono (by omega)) (by rfl) T.g_is_node T.F_is_node.kp (b_is_node T) .nil pass0 (pa_cons (vr 2) (pa_cons (vr 1) pa_nil))))) pa_nil))))))) (pss_one (ps_ret pe_bl)) pss_nil)
      (pss_one (ps_ret (vnot (pe_callB (kany K rfl) (by rfl) T.n_any (by decide +kernel) (pa_cons (pe_lc (own := [("node", 2), ("after", 3)])  rfl sc_are_nodes.nd (izip K (by rfl) T.n_zip (pa_cons (vr 0) (pa_cons (pe_slice (kcut K) (vr 0) (po_u pe_int) po_none) pa_nil))) (blkOk_by (own := [("node", 2), ("after", 3)]) (N := ["thing", "most", "node", "after"]) (sc := defScope s_are_nodes) (by decide +kernel)) (fun _ _ _ _ _ => (gtup K 2 rfl (gs_cons (pg_name (i := 2) sc_are_nodes.nd rfl (by first | exact .inl rfl | exact .inr rfl)) (gs_cons (pg_name (i := 3) sc_are_nodes.nd rfl (by first | exact .inl rfl | exact .inr rfl)) gs_nil)))) (fun _ _ _ _ _ => pts_nil) (fun _ _ _ _ _ => up (vand (pe_call G_is_text_node (hr.mono (by omega)) (by rfl) T.g_is_text_node T.F_is_text_node.kp (b_is_text_node T) .nil pass0 (pa_cons (vr 2) pa_nil)) (pe_one (pe_call G_is_text_node (hr.mono (by omega)) (by rfl) T.g_is_text_node T.F_is_text_node.kp (b_is_text_node T) .nil pass0 (pa_cons (vr 3) pa_nil)))))) pa_nil)))))), ?_⟩)
  obtain ⟨v, d, rfl, dl, sz, q⟩ := h
  rw [st_are_nodes]
  cases id dl with
  | non => exact ⟨_, _, .base .non, rfl, q _ (Same.refl H)⟩
  | bl b => exact ⟨_, _, .base (.bl b), rfl, q _ (Same.refl H)⟩
  | int i => exact ⟨_, _, .base (.int i), rfl, q _ (Same.refl H)⟩
  | str z => exact ⟨_, _, .base (.str z), rfl, q _ (Same.refl H)⟩
  | lst h _ => exact ⟨_, _, .base (.lst h), rfl, q _ (Same.refl H)⟩
  | dic h _ _ => exact ⟨_, _, .base (.dK h), rfl, q _ (Same.refl H)⟩
  | @tup a vs ds ha hv =>
    have len := hv.len
    have l2 := sz.tupL
    have zE := sz.tupE
    have en : nodesD n (.tuple ds) = (ds.all (nodeD n) && noTwoD ds) := rfl
    rw [en] at q
    refine ⟨_, _, .base (.tup ha), rfl, a, rfl, ⟨_, sqT_of ha⟩, fun D nD => ?_⟩
    refine lct (xs := vs) fr_same (fun i v _ => ∃ d, ds[i]? = some d ∧ v = .bl (nodeD n d)) trivial nD (by omega) (fun H1 _ s1 => sqT_of (s1 _ _ ha)) (fun _ _ _ _ h _ => h) (fun _ => rfl) (fun i x H1 hx _ s1 => ?_) (fun H1 ys _ s1 l1 e1 q1 => ?_)
    · obtain ⟨d, e, hd⟩ := hv.at i x hx
      exact ⟨_, _, rfl, hd.same s1, zE d (List.mem_of_getElem? e), fun H2 s2 => ⟨trivial, s2, d, e, rfl⟩⟩
    · have e4 := bls_map (f := nodeD n) (l1.trans len) q1
      subst e4
      refine ⟨_, ds.map (nodeD n), rfl, sqL_of e1, ?_⟩
      rw [all_id]
      cases ea : ds.all (nodeD n) with
      | false =>
        rw [ea, Bool.false_and] at q
        exact q _ s1
      | true =>
        rw [ea, Bool.true_and] at q
        have a1 := s1 _ _ ha
        have fin : ∀ {H2 H3 : Hp} {ys : List V}, Same H1 H2 → Same H2 H3 → ys.length = min vs.length (vs.drop 1).length → (∀ (i : Nat) (y : V), ys[i]? = some y → ∃ p, (ds.zip (ds.drop 1))[i]? = some p ∧ y = .bl (tnodeD p.1 && tnodeD p.2)) → ∃ bs : List Bool, ys = bs.map V.bl ∧ Q (.bl (!(bs.any id))) H3 := fun {H2 H3 ys} s2 s3 l3 q3 => by
          have lz : ys.length = (ds.zip (ds.drop 1)).length := by rw [l3, List.length_zip, List.length_drop, List.length_drop, len]
          have e5 := bls_map (f := fun p : PyData × PyData => tnodeD p.1 && tnodeD p.2) lz q3
          refine ⟨_, e5, ?_⟩
          rw [any_id, noTwo_any, Bool.not_not]
          exact q _ ((s1.trans s2).trans s3)
        refine .inr ⟨a, vs, rfl, sqT_of a1, fun hw => ?_, fun hw p np => ?_⟩
        · have e0 : vs = [] := by
            cases vs with
            | nil => rfl
            | cons x r =>
              have e1 : HT.sIx (x :: r).length 0 (some 1) = 1 := by
                unfold HT.sIx
                simp
              rw [e1] at hw
              cases hw.1
          subst e0
          refine ⟨a, a, [], [], rfl, .inr ⟨sqT_of a1, sqT_of a1, fun D2 nD2 => ?_⟩⟩
          refine lcw (walk_zipT (n := 0) rfl) fr_same (fun i v _ => ∃ p, (ds.zip (ds.drop 1))[i]? = some p ∧ v = .bl (tnodeD p.1 && tnodeD p.2)) trivial nD2 (by decide) gm_pair (fun H3 _ s3 => ⟨sqT_of (s3 _ _ a1), sqT_of (s3 _ _ a1)⟩) (fun _ _ _ _ h _ => h) (fun i x H3 H4 hi => by cases hi) (fun H3 ys _ s3 l3 e3 q3 => ?_)
          obtain ⟨bs, rfl, q4⟩ := fin (Same.refl H1) s3 l3 q3
          exact ⟨_, bs, rfl, sqL_of e3, q4⟩
        · have a2 := same_new (o := .tup (cutV vs (some 1) none)) np _ _ a1
          refine ⟨a, p, vs, vs.drop 1, rfl, .inr ⟨sqT_of a2, by rw [cut_tail]; exact sqT_of upd_same, fun D2 nD2 => ?_⟩⟩
          have s2 : Same H1 (upd H1 p (.tup (cutV vs (some 1) none))) := same_new np
          have p2 : upd H1 p (.tup (cutV vs (some 1) none)) p = some (.tup (vs.drop 1)) := by rw [cut_tail]; exact upd_same
          revert nD2 a2 s2 p2
          generalize upd H1 p (.tup (cutV vs (some 1) none)) = H2
          intro a2 nD2 s2 p2
          refine lcw (walk_zipT (xs := vs) (ys := vs.drop 1) rfl) fr_same (fun i v _ => ∃ p, (ds.zip (ds.drop 1))[i]? = some p ∧ v = .bl (tnodeD p.1 && tnodeD p.2)) trivial nD2 (by omega) gm_pair (fun H3 _ s3 => ⟨sqT_of (s3 _ _ a2), sqT_of (s3 _ _ p2)⟩) (fun _ _ _ _ h _ => h) (fun i x H3 H4 hi _ s3 hy => ?_) (fun H3 ys _ s3 l3 e3 q3 => ?_)
          · obtain ⟨t, x1, x2, rfl, nt2, rfl, hx1, hx2⟩ := hy
            obtain ⟨d1, g1, n1⟩ := hv.at i x1 hx1
            have hx2 : vs[i + 1]? = some x2 := by
              have hx2 : (vs.drop 1)[i]? = some x2 := hx2
              rw [List.getElem?_drop, Nat.add_comm] at hx2
              exact hx2
            obtain ⟨d2, g2, n2⟩ := hv.at (i + 1) x2 hx2
            have g3 : (ds.zip (ds.drop 1))[i]? = some (d1, d2) := by
              rw [List.getElem?_zip_eq_some]
              exact ⟨g1, by rw [List.getElem?_drop, Nat.add_comm]; exact g2⟩
            have st : Same H (upd H3 t (.tup [x1, x2])) := ((s1.trans s2).trans s3).trans (same_new nt2)
            refine ⟨t, [x1, x2], rfl, sqT_of upd_same, rfl, rfl, _, _, rfl, n1.same st, zE d1 (List.mem_of_getElem? g1), fun H5 s5 => ?_⟩
            cases e6 : tnodeD d1 with
            | true =>
              refine ⟨_, _, rfl, n2.same (st.trans s5), zE d2 (List.mem_of_getElem? g2), fun H6 s6 => ⟨trivial, ((same_new nt2).trans s5).trans s6, _, g3, ?_⟩⟩
              rw [e6, Bool.true_and]
            | false =>
              refine ⟨trivial, (same_new nt2).trans s5, _, g3, ?_⟩
              rw [e6, Bool.false_and]
          · obtain ⟨bs, rfl, q4⟩ := fin s2 s3 l3 q3
            exact ⟨_, bs, rfl, sqL_of e3, q4⟩
theorem step_nodeD (T : Top K mg) (n k : Nat) (hk : 9 ≤ k) (spI : Sp) (G_are_nodes : Ok_are_nodes P w base T k spI) (hI : ∀ m, n = m + 1 → spI = spDn m (nodesD m)) : Ok_is_node P w base T (k + 1) (spDn n (nodeD n)) := by
  have G_is_text_node : Ok_is_text_node P w base T 1 (spD tnodeD) := ok_tnodeD T 0
  have G_is_name : Ok_is_name P w base T 1 (spD nameD) := ok_nameD T 0
  have G_is_attribute : Ok_is_attribute P w base T 4 (spD attD) := ok_attD T 0
  have G_is_value : Ok_is_value P w base T 9 (spD (levD 6)) := ok_valueD T 0
  refine T.F_is_node.ok sc_is_node (fun vs H Q E h => by obtain ⟨v, d, rfl, _⟩ := h; rfl) (fun cdv A outer s H vs Q E hr h => ⟨_, PSs.nox (pss_cons (sif (PW.pt (wor (pt_not (tst (pe_callB (kis K) (by rfl) T.n_isinstance (by decide +kernel) (pa_cons (vr 0) (pa_cons (pe_bltn (v := .ty "tuple") (by rfl) T.n_tuple (by decide +kernel) rfl) pa_nil))))) (wor (tcmp (ksame K hr.units) (pe_callB (klen K) (by rfl) T.n_len (by decide +kernel) (pa_cons (vr 0) pa_nil)) pe_int (nomark _)) (pw_or1 (pt_not (tst (pe_callB (kis K) (by rfl) T.n_isinstance (by decide +kernel) (pa_cons (pe_ix (kget K) (vr 0) pe_int (fun _ _ => rfl)) (pa_cons (pe_bltn (v := .ty "str") (by rfl) T.n_str (by decide +kernel) rfl) pa_nil))))))))) (pss_one (ps_ret pe_bl)) pss_nil)
      (pss_cons (sif (tcmp (ksame K hr.units) (pe_ix (kget K) (vr 0) pe_int (fun _ _ => rfl)) pe_str (nomark _)) (pss_cons (sif (PW.pt (wor (tcmp (kother K hr.units) (pe_callB (klen K) (by rfl) T.n_len (by decide +kernel) (pa_cons (vr 0) pa_nil)) pe_int (nomark _)) (wor (tcmp (ksame K hr.units) (vr 1) pe_int (nomark _)) (wor (pt_not (tst (pe_call G_is_name (hr.mono (by omega)) (by rfl) T.g_is_name T.F_is_name.kp (b_is_name T) .nil pass0 (pa_cons (pe_ix (kget K) (vr 0) pe_int (fun _ _ => rfl)) pa_nil)))) (wor (tcmp (ksame K hr.units) (pe_ix (kget K) (vr 0) pe_int (fun _ _ => rfl)) (pe_glob (v := .str ("data")) (by rfl) T.c_DATA ⟨_, rfl⟩) (nomark _)) (pw_or1 (pt_not (tst (pe_callB (kis K) (by rfl) T.n_isinstance (by decide +kernel) (pa_cons (pe_ix (kget K) (vr 0) pe_int (fun _ _ => rfl)) (pa_cons (pe_bltn (v := .ty "tuple") (by rfl) T.n_tuple (by decide +kernel) rfl) pa_nil))))))))))) (pss_one (ps_ret pe_bl)) pss_nil)
      (pss_one (ps_ret (vand (pe_callB (kall K rfl) (by rfl) T.n_all (by decide +kernel) (pa_cons (pe_lc (own := [("part", 2)])  rfl sc_is_node.nd (itup K (pe_ix (kget K) (vr 0) pe_int (fun _ _ => rfl))) (blkOk_by (own := [("part", 2)]) (N := ["thing", "most", "part"]) (sc := defScope s_is_node) (by decide +kernel)) (fun _ _ _ _ _ => (pg_name (i := 2) sc_is_node.nd rfl (by first | exact .inl rfl | exact .inr rfl))) (fun _ _ _ _ _ => pts_nil) (fun _ _ _ _ _ => up (pe_call G_is_attribute (hr.mono (by omega)) (by rfl) T.g_is_attribute T.F_is_attribute.kp (b_is_attribute T) .nil pass0 (pa_cons (vr 2) pa_nil)))) pa_nil)) (pe_one (pe_call G_are_nodes (hr.mono (by omega)) (by rfl) T.g_are_nodes T.F_are_nodes.kp (b_are_nodes T) .nil pass0 (pa_cons (pe_ix (kget K) (vr 0) pe_int (fun _ _ => rfl)) (pa_cons (pe_op op_minus (vr 1) pe_int) pa_nil)))))))) pss_nil)
      (pss_cons (sif (tcmp (ksame K hr.units) (pe_ix (kget K) (vr 0) pe_int (fun _ _ => rfl)) (pe_glob (v := .str ("data")) (by rfl) T.c_DATA ⟨_, rfl⟩) (nomark _)) (pss_one (ps_ret (vand (pe_cmpR (ksame K hr.units) (pe_callB (klen K) (by rfl) T.n_len (by decide +kernel) (pa_cons (vr 0) pa_nil)) pe_int (nomark _)) (pe_one (pe_call G_is_value (hr.mono (by omega)) (by rfl) T.g_is_value T.F_is_value.kp (b_is_value T) .nil pass0 (pa_cons (pe_ix (kget K) (vr 0) pe_int (fun _ _ => rfl)) pa_nil)))))) pss_nil)
      (pss_one (ps_ret (pe_call G_is_text_node (hr.mono (by omega)) (by rfl) T.g_is_text_node T.F_is_text_node.kp (b_is_text_node T) .nil pass0 (pa_cons (vr 0) pa_nil))))))), ?_⟩)
  obtain ⟨v, d, rfl, dl, sz, q⟩ := h
  rw [st_is_node]
  have no : nodeD n d = false → ∀ H', Same H H' → Q (.bl false) H' := fun e H' s' => by
    have := q H' s'
    rw [e] at this
    exact this
  cases id dl with
  | non => exact ⟨_, _, .base .non, rfl, no (nodeD_no n fun _ e => by cases e) _ (Same.refl H)⟩
  | bl b => exact ⟨_, _, .base (.bl b), rfl, no (nodeD_no n fun _ e => by cases e) _ (Same.refl H)⟩
  | int i => exact ⟨_, _, .base (.int i), rfl, no (nodeD_no n fun _ e => by cases e) _ (Same.refl H)⟩
  | str z => exact ⟨_, _, .base (.str z), rfl, no (nodeD_no n fun _ e => by cases e) _ (Same.refl H)⟩
  | lst h _ => exact ⟨_, _, .base (.lst h), rfl, no (nodeD_no n fun _ e => by cases e) _ (Same.refl H)⟩
  | dic h _ _ => exact ⟨_, _, .base (.dK h), rfl, no (nodeD_no n fun _ e => by cases e) _ (Same.refl H)⟩
  | @tup a vs ds ha hz =>
    have zE := sz.tupE
    cases hz with
    | nil => exact ⟨_, _, .base (.tup ha), rfl, _, .inr (sqT_of ha), no (nodeD_nil n) _ (Same.refl H)⟩
    | @cons x xs kd ds hk t =>
    refine ⟨_, _, .base (.tup ha), rfl, _, .inr (sqT_of ha), ?_⟩
    refine ⟨_, _, .inr (sqT_of ha), at0 _ _, ?_⟩
    cases id hk with
    | non => exact ⟨_, _, .base .non, rfl, no (nodeD_head n fun _ e => by cases e) _ (Same.refl H)⟩
    | bl b => exact ⟨_, _, .base (.bl b), rfl, no (nodeD_head n fun _ e => by cases e) _ (Same.refl H)⟩
    | int i => exact ⟨_, _, .base (.int i), rfl, no (nodeD_head n fun _ e => by cases e) _ (Same.refl H)⟩
    | lst h _ => exact ⟨_, _, .base (.lst h), rfl, no (nodeD_head n fun _ e => by cases e) _ (Same.refl H)⟩
    | tup h _ => exact ⟨_, _, .base (.tup h), rfl, no (nodeD_head n fun _ e => by cases e) _ (Same.refl H)⟩
    | dic h _ _ => exact ⟨_, _, .base (.dK h), rfl, no (nodeD_head n fun _ e => by cases e) _ (Same.refl H)⟩
    | str z =>
    refine ⟨_, _, .base (.str z), rfl, _, _, .inr (sqT_of ha), at0 _ _, ?_⟩
    have ed : ∀ w, decide (V.str z = V.str w) = isS w (.str z) := fun w => eqL_dec z w
    refine br2 (fun e => ?_) (fun e => ?_)
    · have e : decide (V.str z = V.str "element") = true := e
      rw [ed] at e
      have bad : elemD (nodesD (n - 1)) ds = false → nodeD n (.tuple (.str z :: ds)) = false := fun h => by
        cases n with
        | zero => exact nodeD_elem0 e
        | succ n => rw [nodeD_elem n e]; exact h
      refine ⟨_, .inr (sqT_of ha), ?_⟩
      cases t with
      | nil => exact no (bad rfl) _ (Same.refl H)
      | @cons y ys kA ds hA t =>
      cases t with
      | nil => exact no (bad rfl) _ (Same.refl H)
      | @cons y2 ys kB ds hB t =>
      cases t with
      | nil => exact no (bad rfl) _ (Same.refl H)
      | @cons y3 ys kC ds hC t =>
      cases t with
      | cons _ _ => exact no (bad rfl) _ (Same.refl H)
      | nil =>
      cases n with
      | zero => exact no (nodeD_elem0 e) _ (Same.refl H)
      | succ n =>
      have hI := hI n rfl
      subst hI
      rw [nodeD_elem n e] at q
      have ee : elemD (nodesD n) [kA, kB, kC] = (nameD kA && (!isS "data" kA && (attsD kB && nodesD n kC))) := rfl
      rw [ee] at q
      clear bad no
      refine ⟨_, _, .inr (sqT_of ha), rfl, _, _, rfl, hA, zE kA (by simp), fun H1 s1 => ?_⟩
      cases et : nameD kA with
      | false =>
        rw [et, Bool.false_and] at q
        exact q _ s1
      | true =>
      rw [et, Bool.true_and] at q
      obtain ⟨zA, rfl⟩ := nameD_str et
      cases hA
      refine ⟨_, _, .inr (sqT_of (s1 _ _ ha)), rfl, br2 (fun e => ?_) (fun e => ?_)⟩
      · have e : decide (V.str zA = V.str "data") = true := e
        have eq : isS "data" (.str zA) = true := (eqL_dec zA "data").symm.trans e
        rw [eq] at q
        exact q _ s1
      · have e : decide (V.str zA = V.str "data") = false := e
        have eq : isS "data" (.str zA) = false := (eqL_dec zA "data").symm.trans e
        rw [eq] at q
        have q : ∀ H', Same H H' → Q (.bl (attsD kB && nodesD n kC)) H' := q
        refine ⟨_, _, .inr (sqT_of (s1 _ _ ha)), rfl, ?_⟩
        cases id hB with
        | non => exact ⟨_, _, .base .non, rfl, q _ s1⟩
        | bl b => exact ⟨_, _, .base (.bl b), rfl, q _ s1⟩
        | int i => exact ⟨_, _, .base (.int i), rfl, q _ s1⟩
        | str z => exact ⟨_, _, .base (.str z), rfl, q _ s1⟩
        | lst h _ => exact ⟨_, _, .base (.lst (s1 _ _ h)), rfl, q _ s1⟩
        | dic h _ _ => exact ⟨_, _, .base (.dK (s1 _ _ h)), rfl, q _ s1⟩
        | @tup p ps es hp hps =>
        have len := hps.len
        have zB := zE (.tuple es) (by simp)
        have l2 := zB.tupL
        refine ⟨_, _, .base (.tup (s1 _ _ hp)), rfl, ?_⟩
        refine ⟨_, _, .inr (sqT_of (s1 _ _ ha)), rfl, p, rfl, ⟨_, sqT_of (s1 _ _ hp)⟩, fun D nD => ?_⟩
        refine lct (xs := ps) fr_same (fun i v _ => ∃ d, es[i]? = some d ∧ v = .bl (attD d)) trivial nD (by omega) (fun H2 _ s2 => sqT_of (s2 _ _ (s1 _ _ hp))) (fun _ _ _ _ h _ => h) (fun _ => rfl) (fun i x H2 hx _ s2 => ?_) (fun H2 ys _ s2 l1 e2 q2 => ?_)
        · obtain ⟨d, e, hd⟩ := hps.at i x hx
          exact ⟨_, _, rfl, hd.same (s1.trans s2), zB.tupE d (List.mem_of_getElem? e), fun H3 s3 => ⟨trivial, s3, d, e, rfl⟩⟩
        · have e4 := bls_map (f := attD) (l1.trans len) q2
          subst e4
          refine ⟨_, es.map attD, rfl, sqL_of e2, ?_⟩
          rw [all_id]
          have s02 := s1.trans s2
          have q : ∀ H', Same H H' → Q (.bl (es.all attD && nodesD n kC)) H' := q
          cases ea : es.all attD with
          | false =>
            rw [ea, Bool.false_and] at q
            exact q _ s02
          | true =>
            rw [ea, Bool.true_and] at q
            refine ⟨_, _, .inr (sqT_of (s02 _ _ ha)), rfl, _, _, ?_, hC.same s02, zE kC (by simp), fun H3 s3 => q _ (s02.trans s3)⟩
            show [y3, V.int (((n + 1 : Nat) : Int) - 1)] = _
            rw [show ((n + 1 : Nat) : Int) - 1 = (n : Int) by omega]
    · have e : decide (V.str z = V.str "element") = false := e
      rw [ed] at e
      rw [nodeD_rest n e] at q
      clear no
      refine ⟨_, _, .inr (sqT_of ha), at0 _ _, br2 (fun e => ?_) (fun e => ?_)⟩
      · have e : decide (V.str z = V.str "data") = true := e
        rw [ed] at e
        have er : restD (.str z) ds = dataD ds := by unfold restD; rw [e]; rfl
        rw [er] at q
        refine ⟨_, .inr (sqT_of ha), ?_⟩
        cases t with
        | nil => exact q _ (Same.refl H)
        | @cons y ys kA ds hA t =>
        cases t with
        | cons _ _ => exact q _ (Same.refl H)
        | nil => exact ⟨_, _, .inr (sqT_of ha), rfl, _, _, rfl, hA, zE kA (by simp), q⟩
      · have e : decide (V.str z = V.str "data") = false := e
        rw [ed] at e
        have er : restD (.str z) ds = tnodeD (.tuple (.str z :: ds)) := by unfold restD; rw [e]; rfl
        rw [er] at q
        exact ⟨_, _, rfl, dl, sz, q⟩
theorem no_nodesD (T : Top K mg) : Ok_are_nodes P w base T 9 (fun _ _ _ _ => False) := ⟨fun _ _ _ _ h => h.elim, fun _ _ _ _ _ _ _ _ _ _ _ _ _ h => h.elim⟩
theorem ok_nodeD (T : Top K mg) : ∀ n, Ok_is_node P w base T (2 * n + 10) (spDn n (nodeD n))
  | 0 => step_nodeD T 0 9 (by decide) _ (no_nodesD T) fun m e => by cases e
  | n + 1 => step_nodeD T (n + 1) (2 * n + 11) (by omega) _ (step_nodesD T n (2 * n + 10) (by omega) (ok_nodeD T n)) fun m e => by cases e; rfl
theorem ok_nodesD (T : Top K mg) (n : Nat) : Ok_are_nodes P w base T (2 * n + 11) (spDn n (nodesD n)) := step_nodesD T n (2 * n + 10) (by omega) (ok_nodeD T n)
theorem ok_treeD (T : Top K mg) (k : Nat) : Ok_is_tree P w base T (k + 72) (spD (nodesD 30)) := by
  have G_are_nodes : Ok_are_nodes P w base T 71 (spDn 30 (nodesD 30)) := ok_nodesD T 30
  refine T.F_is_tree.ok sc_is_tree (fun vs H Q E h => by obtain ⟨v, d, rfl, _⟩ := h; rfl) (fun cdv A outer s H vs Q E hr h => ⟨_, PSs.nox (pss_one (ps_ret (pe_call G_are_nodes (hr.mono (by omega)) (by rfl) T.g_are_nodes T.F_are_nodes.kp (b_are_nodes T) .nil pass0 (pa_cons (vr 0) (pa_cons (pe_glob (v := .int (30)) (by rfl) T.c_MAX_NESTED ⟨_, rfl⟩) pa_nil))))), ?_⟩)
  obtain ⟨v, d, rfl, dl, sz, q⟩ := h
  rw [st_is_tree]
  exact ⟨v, d, rfl, dl, sz, q⟩
theorem ini_InvalidTree (T : Top K mg) (k : Nat) : FnOk P w K mg base CX0 (k + 1) (He.ma K (He.ga K "InvalidTree") "__init__") T.fd_InvalidTree___init__ ["self", "value"] (spIni K (He.ga K "InvalidTree") "value") := by
  refine T.F_InvalidTree___init__.ok sc_InvalidTree___init__ (fun vs H Q E h => ?_) (fun cdv A outer s H vs Q E hr h => ⟨_, PSs.nox (pss_one (ps_ost (vr 0) (vr 1))), ?_⟩)
  · unfold spIni at h
    split at h
    · rfl
    · exact h.elim
  · unfold spIni at h
    split at h
    · obtain ⟨h1, h2⟩ := h
      rw [st_InvalidTree___init__]
      exact ⟨_, _, rfl, T.oex_InvalidTree.oex, T.kind_InvalidTree.no "value" (by decide), .inl ⟨h1, h2⟩⟩
    · exact h.elim
/-- write: the page, or InvalidTree -/
def spW (C : Addr) : Sp := fun vs H Q E => ∃ v d, vs = [v] ∧ DL H v d ∧ Sz d ∧ ((nodesD 30 d = false ∧ ∀ H' dd, Same H H' → H' dd = none → E (.ref C) (some dd) (xUpd H' dd "value" v)) ∨
  (nodesD 30 d = true ∧ ∃ ns, NodesV H v ns ∧ ns.length ≤ 4 ∧ levs ns ≤ 5 ∧ (ndsL ns).length ≤ maxS ∧ ∀ z H', sl z = ndsL ns → Same H H' → Q (.str z) H'))
theorem NodesV.stay {H H' : Hp} {v : V} {ns : List Nd} (s : Stay H H') (h : NodesV H v ns) : NodesV H' v ns := by
  obtain ⟨a, vs, e, h1, h2⟩ := h
  exact ⟨a, vs, e, s _ _ rfl h1, NdsV.stay s h2⟩
theorem ok_writeD (T : Top K mg) (k : Nat) : FnOk P w K mg base (L2.CX P w) (k + 73) (He.ga K "write") T.fd_write ["tree"] (spW (He.ga K "InvalidTree")) := by
  have G_is_tree : Ok_is_tree P w base T 72 (spD (nodesD 30)) := ok_treeD T 0
  have G_written : Ok_written P w base T 20 (sp_wnodes 5) := ok_wnodes T 5
  have I_InvalidTree : FnOk P w K mg base CX0 1 (He.ma K (He.ga K "InvalidTree") "__init__") T.fd_InvalidTree___init__ ["self", "value"] (spIni K (He.ga K "InvalidTree") "value") := ini_InvalidTree T 0
  refine T.F_write.ok sc_write (fun vs H Q E h => by obtain ⟨v, d, rfl, _⟩ := h; rfl) (fun cdv A outer s H vs Q E hr h => ⟨_, (pss_cons (sif (pt_not (tst (pe_call G_is_tree (hr.mono (by omega)) (by rfl) T.g_is_tree T.F_is_tree.kp (b_is_tree T) .nil pass0 (pa_cons (vr 0) pa_nil)))) (pss_one (ps_raise rfl (takes_of rfl rfl rfl rfl) (mkO1 (pmk_oex T.oex_InvalidTree.oex T.oex_InvalidTree.ini T.oex_InvalidTree.typ I_InvalidTree (hr.mono (by omega)) (b_InvalidTree___init__ T) .nil pass0 (by rfl) T.g_InvalidTree (pa_cons (up (vr 0)) pa_nil))))) pss_nil)
      (pss_one (ps_ret (pe_call G_written (hr.mono (by omega)) (by rfl) T.g_written T.F_written.kp (b_written T) .nil pass0 (pa_cons (vr 0) pa_nil))))), ?_⟩)
  obtain ⟨v, d, rfl, dl, sz, h⟩ := h
  rw [st_write]
  refine ⟨_, _, rfl, dl, sz, fun H1 s1 => ?_⟩
  rcases h with ⟨e, q⟩ | ⟨e, ns, h1, h2, h3, h4, q⟩
  · rw [e]
    exact fun dd nd => q H1 dd s1 nd
  · rw [e]
    exact ⟨ns, h1.stay (stay_of s1), by omega, h3, h4, fun z H2 ez s2 => q z H2 ez (s1.trans s2)⟩
end
end Sk
/-! Sk: trees as data; how much a repr takes, part by part -/
namespace Sk
open PySem PySem.Spec PyProof.Rows L2
/-! ### repr -/
theorem tupleText_ge (ts : List Str) : (ts.map (·.length)).sum + 2 * ts.length ≤ (tupleText ts).length := by
  cases ts with
  | nil => exact Nat.zero_le _
  | cons x r =>
    have h := join_length_add (x :: r) (by simp)
    have e : piled (x :: r) = ((x :: r).map (·.length)).sum + 2 * (x :: r).length := by
      have : ∀ ts : List Str, piled ts = (ts.map (·.length)).sum + 2 * ts.length := by
        intro ts
        induction ts with
        | nil => rfl
        | cons y t ih =>
          simp only [piled, List.map_cons, List.sum_cons, List.length_cons] at *
          omega
      exact this _
    unfold tupleText
    rw [app_len, app_len]
    have e1 : ("(" : Str).length = 1 := rfl
    have e2 : 1 ≤ (Str.ofString (if (x :: r).length == 1 then ",)" else ")" : String)).length := by split <;> decide
    rw [e1]
    omega
theorem ShL.inv {ds : List PyData} {w k : Nat} (h : ShD (.tuple ds) w (k + 1)) : ShL ds w k := by
  refine ⟨h.1, ?_, Nat.le_of_succ_le_succ h.2.2⟩
  have := tupleText_ge (PyData.shownAll ds)
  exact Nat.le_trans this h.2.1
theorem ShL.nil {k : Nat} : ShL [] 0 k := ⟨rfl, Nat.le_refl _, Nat.zero_le _⟩
theorem ShL.cons {d : PyData} {ds : List PyData} {w w' k : Nat} (h : ShD d w k) (t : ShL ds w' k) : ShL (d :: ds) (w + 2 + w') k := by
  obtain ⟨h1, h2, h3⟩ := h
  obtain ⟨t1, t2, t3⟩ := t
  refine ⟨?_, ?_, ?_⟩
  · show (d.showable && PyData.showableAll ds) = true
    rw [h1, t1]
    rfl
  · show ((d.shown :: PyData.shownAll ds).map (·.length)).sum + 2 * (d.shown :: PyData.shownAll ds).length ≤ _
    rw [List.map_cons, List.sum_cons, List.length_cons]
    omega
  · show max d.depth (PyData.depthAll ds) ≤ _
    omega
theorem ShL.uncons {d : PyData} {ds : List PyData} {w k : Nat} (h : ShL (d :: ds) w k) : ShD d w k ∧ ShL ds w k ∧ ∃ a b, ShD d a k ∧ ShL ds b k ∧ a + 2 + b = w := by
  obtain ⟨h1, h2, h3⟩ := h
  have h1 : (d.showable && PyData.showableAll ds) = true := h1
  obtain ⟨a1, b1⟩ := Bool.and_eq_true_iff.mp h1
  have h2 : ((d.shown :: PyData.shownAll ds).map (·.length)).sum + 2 * (d.shown :: PyData.shownAll ds).length ≤ w := h2
  rw [List.map_cons, List.sum_cons, List.length_cons] at h2
  have h3 : max d.depth (PyData.depthAll ds) ≤ k := h3
  refine ⟨⟨a1, by omega, by omega⟩, ⟨b1, by omega, by omega⟩, d.shown.length, w - 2 - d.shown.length, ⟨a1, Nat.le_refl _, by omega⟩, ⟨b1, by omega, by omega⟩, by omega⟩
theorem ShL.mono {ds : List PyData} {w k w' k' : Nat} (h : ShL ds w k) (hw : w ≤ w') (hk : k ≤ k') : ShL ds w' k' := ⟨h.1, Nat.le_trans h.2.1 hw, Nat.le_trans h.2.2 hk⟩
theorem ShL.app {k : Nat} : ∀ {ds es : List PyData} {w w' : Nat}, ShL ds w k → ShL es w' k → ShL (ds ++ es) (w + w') k
  | [], es, w, w', _, t => t.mono (by omega) (Nat.le_refl _)
  | d :: ds, es, w, w', h, t => by
    obtain ⟨_, _, a, b, ha, hb, e⟩ := h.uncons
    exact (ShL.cons ha (ShL.app hb t)).mono (by omega) (Nat.le_refl _)
theorem ShL.take {k : Nat} : ∀ {ds : List PyData} {w : Nat} (i : Nat), ShL ds w k → ShL (ds.take i) w k
  | [], w, i, h => by rw [List.take_nil]; exact h
  | d :: ds, w, 0, h => ShL.nil.mono (Nat.zero_le _) (Nat.le_refl _)
  | d :: ds, w, i + 1, h => by
    obtain ⟨_, _, a, b, ha, hb, e⟩ := h.uncons
    rw [List.take_succ_cons]
    exact (ShL.cons ha (ShL.take i hb)).mono (by omega) (Nat.le_refl _)
theorem ShL.drop {k : Nat} : ∀ {ds : List PyData} {w : Nat} (i : Nat), ShL ds w k → ShL (ds.drop i) w k
  | [], w, i, h => by rw [List.drop_nil]; exact h
  | d :: ds, w, 0, h => h
  | d :: ds, w, i + 1, h => by
    rw [List.drop_succ_cons]
    exact ShL.drop i h.uncons.2.1
theorem ShL.mem {k : Nat} : ∀ {ds : List PyData} {w : Nat} {d : PyData}, ShL ds w k → d ∈ ds → ShD d w k
  | [], _, _, _, m => by cases m
  | e :: ds, w, d, h, m => by
    obtain ⟨h1, h2, _⟩ := h.uncons
    rcases List.mem_cons.mp m with rfl | m
    · exact h1
    · exact ShL.mem h2 m
/-! ### data read back -/
theorem DL.tupI {H : Hp} {a : Addr} {vs : List V} {d : PyData} (h : H a = some (.tup vs)) (dl : DL H (.ref a) d) : ∃ ds, d = .tuple ds ∧ DLs H vs ds := by
  cases dl with
  | lst h2 _ => rw [h] at h2; cases h2
  | tup h2 k => rw [h] at h2; cases h2; exact ⟨_, rfl, k⟩
  | dic h2 _ _ => rw [h] at h2; cases h2
theorem DL.dicI {H : Hp} {a : Addr} {kvs : List (Key × V)} {d : PyData} (h : H a = some (.dK kvs)) (dl : DL H (.ref a) d) : ∃ ds, d = .dict ds ∧ DLs H (kvs.map fun p => kV p.1) (ds.map (·.1)) ∧ DLs H (kvs.map (·.2)) (ds.map (·.2)) := by
  cases dl with
  | lst h2 _ => rw [h] at h2; cases h2
  | tup h2 k => rw [h] at h2; cases h2
  | dic h2 k k2 => rw [h] at h2; cases h2; exact ⟨_, rfl, k, k2⟩
theorem DL.strI {H : Hp} {z : Str} {d : PyData} (dl : DL H (.str z) d) : d = .str z := by cases dl; rfl
theorem DLs.two {H : Hp} {x y : V} {ds : List PyData} (h : DLs H [x, y] ds) : ∃ a b, ds = [a, b] ∧ DL H x a ∧ DL H y b := by
  cases h with
  | cons h1 h => cases h with
    | cons h2 h => cases h; exact ⟨_, _, rfl, h1, h2⟩
theorem DLs.four {H : Hp} {x y z u : V} {ds : List PyData} (h : DLs H [x, y, z, u] ds) : ∃ a b c d, ds = [a, b, c, d] ∧ DL H x a ∧ DL H y b ∧ DL H z c ∧ DL H u d := by
  cases h with
  | cons h1 h => cases h with
    | cons h2 h => cases h with
      | cons h3 h => cases h with
        | cons h4 h => cases h; exact ⟨_, _, _, _, rfl, h1, h2, h3, h4⟩
theorem DLs.all {H : Hp} {P : PyData → Prop} : ∀ {vs : List V} {ds : List PyData}, DLs H vs ds → (∀ v ∈ vs, ∀ d, DL H v d → P d) → ∀ d ∈ ds, P d
  | _, _, .nil, _, d, m => by cases m
  | _, _, .cons h t, f, d, m => by
    rcases List.mem_cons.mp m with rfl | m
    · exact f _ (List.mem_cons_self ..) _ h
    · exact t.all (fun v hv => f v (List.mem_cons_of_mem _ hv)) d m
theorem keys_nd' {H : Hp} : ∀ {kvs : List (Key × V)} {ds : List PyData}, DLs H (kvs.map fun p => kV p.1) ds → (kvs.map (·.1)).Nodup → ds.Nodup
  | [], _, .nil, _ => List.nodup_nil
  | (k, v) :: r, _, .cons (d := d) (ds := ds) h t, n => by
    obtain ⟨n1, n2⟩ := List.nodup_cons.mp (show (k :: r.map (·.1)).Nodup from n)
    refine List.nodup_cons.mpr ⟨fun m => n1 ?_, keys_nd' t n2⟩
    have inj : ∀ {k k' : Key} {d : PyData}, DL H (kV k) d → DL H (kV k') d → k = k' := by
      intro k k' d h1 h2
      cases k with
      | inl i =>
        have h1 : DL H (.int i) d := h1
        cases h1
        cases k' with
        | inl j => have h2 : DL H (.int j) (.int i) := h2; cases h2; rfl
        | inr z => have h2 : DL H (.str z) (.int i) := h2; cases h2
      | inr z =>
        have h1 : DL H (.str z) d := h1
        cases h1
        cases k' with
        | inl j => have h2 : DL H (.int j) (.str z) := h2; cases h2
        | inr y => have h2 : DL H (.str y) (.str z) := h2; cases h2; rfl
    have back : ∀ {kvs : List (Key × V)} {ds : List PyData}, DLs H (kvs.map fun p => kV p.1) ds → d ∈ ds → k ∈ kvs.map (·.1) := by
      intro kvs
      induction kvs with
      | nil => intro ds h m; cases h; cases m
      | cons p r ih =>
        intro ds h2 m
        cases h2 with
        | cons a b =>
          rcases List.mem_cons.mp m with rfl | m
          · exact List.mem_cons.mpr (.inl (inj h a))
          · exact List.mem_cons.mpr (.inr (ih b m))
    exact back t m
theorem nameD_ok {w : Str} (h : NameOk w) : nameD (.str w) = true := by
  show (Nat.blt 0 w.length && (Nat.blt w.length 13 && w.cps.toList.all low)) = true
  rw [show Nat.blt 0 w.length = true from Nat.blt_eq.mpr (by have := h.1; omega), show Nat.blt w.length 13 = true from Nat.blt_eq.mpr (by have := h.2.1; omega), List.all_eq_true.mpr h.2.2]
  rfl
theorem flat_D {H : Hp} {v : V} {d : PyData} (h : FlatOk v) (dl : DL H v d) (n : Nat) : levD n d = true ∧ Sz d := by
  cases dl with
  | non => exact ⟨by cases n <;> rfl, .non⟩
  | bl b => exact ⟨by cases n <;> rfl, .bl b⟩
  | int i => exact ⟨by cases n <;> rfl, .int i⟩
  | str z => exact ⟨by cases n <;> rfl, .str (Nat.le_trans h.1 (by decide))⟩
  | _ => exact h.elim
theorem good_D {H : Hp} : ∀ (n : Nat) (v : V) (d : PyData), GoodV H n v → DL H v d → levD n d = true ∧ Sz d
  | 0, v, d, h, dl => flat_D h dl 0
  | n + 1, v, d, h, dl => by
    rcases h with h | ⟨a, vs, rfl, h1, h2, h3⟩ | ⟨a, kvs, rfl, h1, h2, h3⟩
    · exact flat_D h dl _
    · obtain ⟨ds, rfl, k⟩ := dl.tupI h1
      have al := k.all (P := fun d => levD n d = true ∧ Sz d) fun v hv d hd => good_D n v d (h3 v hv) hd
      have len := k.len
      refine ⟨?_, .tup (by omega) fun d hd => (al d hd).2⟩
      show (Nat.ble ds.length 60 && ds.all (levD n)) = true
      rw [Nat.ble_eq_true_of_le (by omega), List.all_eq_true.mpr fun d hd => (al d hd).1]
      rfl
    · obtain ⟨ds, rfl, k, k2⟩ := dl.dicI h1
      have al := k2.all (P := fun d => levD n d = true ∧ Sz d) fun v hv d hd => by
        obtain ⟨p, hp, rfl⟩ := List.mem_map.mp hv
        exact good_D n p.2 d (h3 p hp) hd
      have ak := k.all (P := fun d => nameD d = true ∧ Sz d) fun v hv d hd => by
        obtain ⟨p, hp, rfl⟩ := List.mem_map.mp hv
        obtain ⟨w, e, ok⟩ := h2.2.2 p hp
        rw [e] at hd
        have hd : DL H (.str w) d := hd
        cases hd
        exact ⟨nameD_ok ok, .str (Nat.le_trans ok.2.1 (by decide))⟩
      have len : kvs.length = ds.length := by
        have := k.len
        rw [List.length_map, List.length_map] at this
        exact this
      have l3 := h2.1
      refine ⟨?_, .dic (by omega) (keys_nd' k h2.2.1) (fun p hp => (ak p.1 (List.mem_map.mpr ⟨p, hp, rfl⟩)).2) fun p hp => (al p.2 (List.mem_map.mpr ⟨p, hp, rfl⟩)).2⟩
      show (ds.all fun p => nameD p.1 && levD n p.2) = true
      refine List.all_eq_true.mpr fun p hp => ?_
      rw [(ak p.1 (List.mem_map.mpr ⟨p, hp, rfl⟩)).1, (al p.2 (List.mem_map.mpr ⟨p, hp, rfl⟩)).1]
      rfl
theorem texts_D {H : Hp} : ∀ {zs : List Str} {ds : List PyData}, DLs H (zs.map V.str) ds → ds = zs.map PyData.str
  | [], _, .nil => rfl
  | z :: r, _, .cons h t => by
    rw [h.strI, texts_D t]
    rfl
theorem eqL_no {z w : Str} (h : z ≠ w) : eqL z w = false := by
  cases e : eqL z w with
  | false => rfl
  | true => exact absurd (str_ext (by simpa [eqL] using e)) h
theorem eqL_self (z : Str) : eqL z z = true := by unfold eqL; simp
theorem att_D {H : Hp} {v : V} {t : Att} {d : PyData} (h : AttV H v t) (dl : DL H v d) : attD d = true ∧ Sz d := by
  cases t with
  | plain n z =>
    obtain ⟨a, rfl, ha, hn, ne, hz⟩ := h
    obtain ⟨ds, rfl, k⟩ := dl.tupI ha
    obtain ⟨x, y, rfl, hx, hy⟩ := k.two
    cases hx.strI
    cases hy.strI
    refine ⟨?_, .tup (by simp) fun d hd => ?_⟩
    · show (nameD (.str n) && (if eqL n "href" then addrD (.str z) else isStrD (.str z))) = true
      rw [nameD_ok hn, eqL_no ne]
      rfl
    · rcases List.mem_cons.mp hd with rfl | hd
      · exact .str (Nat.le_trans hn.2.1 (by decide))
      · rw [List.mem_singleton.mp hd]
        exact .str (Nat.le_trans hz.1 (by decide))
  | addr ws ps =>
    obtain ⟨a, p, x, y, rfl, ha, hp, ⟨b, rfl, hb, hz⟩, h4, h5, ⟨c, vs, rfl, hc, lv, hv⟩, h7⟩ := h
    obtain ⟨ds0, rfl, k0⟩ := dl.tupI ha
    obtain ⟨x0, y0, rfl, hx0, hy0⟩ := k0.two
    cases hx0.strI
    obtain ⟨ds1, rfl, kk⟩ := hy0.tupI hp
    obtain ⟨x1, y1, rfl, hx1, hy1⟩ := kk.two
    obtain ⟨ds2, rfl, k1⟩ := hx1.tupI hb
    cases texts_D k1
    obtain ⟨es, rfl, k2⟩ := hy1.tupI hc
    have le := k2.len
    have al := k2.all (P := fun d => pairD d = true ∧ Sz d) fun v hm d hd => by
      obtain ⟨i, hi, e⟩ := List.mem_iff_getElem.mp hm
      have hi2 : i < ps.length := by omega
      obtain ⟨b2, rfl, h2, n2, t2⟩ := hv i v ps[i] (by rw [List.getElem?_eq_getElem hi, e]) (List.getElem?_eq_getElem hi2)
      obtain ⟨ds, rfl, k⟩ := hd.tupI h2
      obtain ⟨x, y, rfl, hx, hy⟩ := k.two
      cases hx.strI
      cases hy.strI
      refine ⟨?_, .tup (by simp) fun d hd => ?_⟩
      · show (nameD (.str ps[i].1) && true) = true
        rw [nameD_ok n2]
        rfl
      · rcases List.mem_cons.mp hd with rfl | hd
        · exact .str (Nat.le_trans n2.2.1 (by decide))
        · rw [List.mem_singleton.mp hd]
          exact .str (Nat.le_trans t2.1 (by decide))
    refine ⟨?_, ?_⟩
    · show (nameD (.str "href") && (if eqL "href" "href" then addrD (.tuple [.tuple (ws.map PyData.str), .tuple es]) else false)) = true
      have e1 : nameD (.str "href") = true := by decide +kernel
      rw [e1, eqL_self]
      show (textsD (.tuple (ws.map PyData.str)) && (!emptyT (.tuple (ws.map PyData.str)) && es.all pairD)) = true
      rw [List.all_eq_true.mpr fun d hd => (al d hd).1]
      have e2 : textsD (.tuple (ws.map PyData.str)) = true := by
        show (ws.map PyData.str).all isStrD = true
        rw [List.all_map]
        exact List.all_eq_true.mpr fun _ _ => rfl
      rw [e2]
      cases ws with
      | nil => cases h4
      | cons _ _ => rfl
    · have z1 : Sz (.tuple (ws.map PyData.str)) := .tup (by rw [List.length_map]; omega) fun d hd => by
        obtain ⟨z, hz', rfl⟩ := List.mem_map.mp hd
        exact .str (Nat.le_trans (hz z hz').1 (by decide))
      have z2 : Sz (.tuple es) := .tup (by omega) fun d hd => (al d hd).2
      refine .tup (by simp) fun d hd => ?_
      rcases List.mem_cons.mp hd with rfl | hd
      · exact .str (by decide)
      · rw [List.mem_singleton.mp hd]
        refine .tup (by simp) fun d hd => ?_
        rcases List.mem_cons.mp hd with rfl | hd
        · exact z1
        · rw [List.mem_singleton.mp hd]
          exact z2
theorem atts_D {H : Hp} : ∀ {vs : List V} {as : List Att} {ds : List PyData}, AttsV H vs as → DLs H vs ds → (∀ d ∈ ds, attD d = true ∧ Sz d) ∧ ds.length = as.length
  | _, _, _, .nil, .nil => ⟨fun d m => (by cases m), rfl⟩
  | _, _, _, .cons h t, .cons k r => by
    obtain ⟨i1, i2⟩ := atts_D t r
    refine ⟨fun d m => ?_, congrArg (· + 1) i2⟩
    rcases List.mem_cons.mp m with rfl | m
    · exact att_D h k
    · exact i1 d m
theorem noTwo_D : ∀ {ds : List PyData} {ns : List Nd}, ds.map tnodeD = ns.map Nd.isT → noTwoD ds = noTwo ns
  | [], [], _ => rfl
  | [], _ :: _, h => by cases h
  | _ :: _, [], h => by cases h
  | [_], [_], _ => rfl
  | [_], _ :: _ :: _, h => by simp at h
  | _ :: _ :: _, [_], h => by simp at h
  | x :: y :: r, a :: b :: s, h => by
    have h' := h
    rw [List.map_cons, List.map_cons, List.map_cons, List.map_cons] at h'
    injection h' with h1 h2
    injection h2 with h2 h3
    show (!(tnodeD x && tnodeD y) && noTwoD (y :: r)) = (!(a.isT && b.isT) && noTwo (b :: s))
    rw [h1, h2, noTwo_D (ds := y :: r) (ns := b :: s) (by rw [List.map_cons, List.map_cons, h2, h3])]
mutual
theorem nd_D {H : Hp} : ∀ {v : V} {nd : Nd} {d : PyData}, NdV H v nd → DL H v d → (∀ n, nd.lev ≤ n → nodeD n d = true) ∧ Sz d ∧ tnodeD d = nd.isT
  | _, _, d, .text (z := z) ha hz l1, dl => by
    obtain ⟨ds, rfl, k⟩ := dl.tupI ha
    obtain ⟨x, y, rfl, hx, hy⟩ := k.two
    cases hx.strI
    cases hy.strI
    have ez : eqL z "" = false := eqL_no fun e => by rw [e] at l1; exact absurd l1 (by decide)
    have et : tnodeD (.tuple [.str "text", .str z]) = true := by
      show (eqL "text" "text" && !eqL z "") = true
      rw [eqL_self, ez]
      rfl
    refine ⟨fun n _ => ?_, .tup (by simp) fun d hd => ?_, et⟩
    · rw [nodeD_rest n (by decide +kernel)]
      unfold restD
      rw [show isS "data" (.str "text") = false by decide +kernel]
      exact et
    · rcases List.mem_cons.mp hd with rfl | hd
      · exact .str (by decide)
      · rw [List.mem_singleton.mp hd]
        exact .str (Nat.le_trans hz.1 (by decide))
  | _, _, d, .data (x := x) ha g, dl => by
    obtain ⟨ds, rfl, k⟩ := dl.tupI ha
    obtain ⟨x, y, rfl, hx, hy⟩ := k.two
    cases hx.strI
    obtain ⟨g1, g2⟩ := good_D 6 _ _ g hy
    refine ⟨fun n _ => ?_, .tup (by simp) fun d hd => ?_, ?_⟩
    · rw [nodeD_rest n (by decide +kernel)]
      unfold restD
      rw [show isS "data" (.str "data") = true by decide +kernel]
      exact g1
    · rcases List.mem_cons.mp hd with rfl | hd
      · exact .str (by decide)
      · rw [List.mem_singleton.mp hd]
        exact g2
    · show (isS "text" (.str "data") && fullD y) = false
      rw [show isS "text" (.str "data") = false by decide +kernel]
      rfl
  | _, _, d, .elem (nm := nm) (ns := ns) ha nok nd hp hat la hq hns ln nt, dl => by
    obtain ⟨ds, rfl, k⟩ := dl.tupI ha
    obtain ⟨x, y, z, u, rfl, hx, hy, hz, hu⟩ := k.four
    cases hx.strI
    cases hy.strI
    obtain ⟨es, rfl, k1⟩ := hz.tupI hp
    obtain ⟨fs, rfl, k2⟩ := hu.tupI hq
    obtain ⟨at1, at2⟩ := atts_D hat k1
    obtain ⟨n1, n2, n3, n4⟩ := nds_D hns k2
    have zf : Sz (.tuple fs) := .tup (by omega) n2
    have ze : Sz (.tuple es) := .tup (by omega) fun d hd => (at1 d hd).2
    refine ⟨fun n hl => ?_, .tup (by simp) fun d hd => ?_, rfl⟩
    · have hl : 1 + levs ns ≤ n := hl
      cases n with
      | zero => omega
      | succ n =>
      rw [nodeD_elem n (by decide +kernel)]
      show (nameD (.str nm) && (!eqL nm "data" && (es.all attD && (fs.all (nodeD n) && noTwoD fs)))) = true
      rw [nameD_ok nok, eqL_no nd, List.all_eq_true.mpr fun d hd => (at1 d hd).1, List.all_eq_true.mpr (n1 n (by omega)), noTwo_D n3, nt]
      rfl
    · rcases List.mem_cons.mp hd with rfl | hd
      · exact .str (by decide)
      · rcases List.mem_cons.mp hd with rfl | hd
        · exact .str (Nat.le_trans nok.2.1 (by decide))
        · rcases List.mem_cons.mp hd with rfl | hd
          · exact ze
          · rw [List.mem_singleton.mp hd]
            exact zf
theorem nds_D {H : Hp} : ∀ {vs : List V} {ns : List Nd} {ds : List PyData}, NdsV H vs ns → DLs H vs ds → (∀ n, levs ns ≤ n → ∀ d ∈ ds, nodeD n d = true) ∧ (∀ d ∈ ds, Sz d) ∧ ds.map tnodeD = ns.map Nd.isT ∧ ds.length = ns.length
  | _, _, _, .nil, .nil => ⟨fun _ _ d m => (by cases m), fun d m => (by cases m), rfl, rfl⟩
  | _, _, _, .cons (n := nd) (ns := ns) h t, .cons k r => by
    obtain ⟨a1, a2, a3⟩ := nd_D h k
    obtain ⟨b1, b2, b3, b4⟩ := nds_D t r
    refine ⟨fun n hl d m => ?_, fun d m => ?_, ?_, congrArg (· + 1) b4⟩
    · have hl : max nd.lev (levs ns) ≤ n := hl
      rcases List.mem_cons.mp m with rfl | m
      · exact a1 n (by omega)
      · exact b1 n (by omega) d m
    · rcases List.mem_cons.mp m with rfl | m
      · exact a2
      · exact b2 d m
    · rw [List.map_cons, List.map_cons, a3, b3]
end
/-! ### what is no node, whatever the depth -/
def isTupD : PyData → Bool
  | .tuple _ => true
  | _ => false
def nodeW : PyData → Bool
  | .tuple (k :: r) => if isS "element" k then elemD isTupD r else restD k r
  | _ => false
theorem allD_tup {f : PyData → Bool} {d : PyData} (h : allD f d = true) : isTupD d = true := by
  cases d with
  | tuple _ => rfl
  | _ => cases h
theorem elemD_up {f g : PyData → Bool} (h : ∀ d, f d = true → g d = true) {r : List PyData} (e : elemD f r = true) : elemD g r = true := by
  unfold elemD at e ⊢
  split at e
  · rename_i a b c
    simp only [Bool.and_eq_true] at e ⊢
    exact ⟨e.1, e.2.1, e.2.2.1, h _ e.2.2.2⟩
  · cases e
theorem nodeW_ok {d : PyData} (h : nodeW d = false) (n : Nat) : nodeD n d = false := by
  cases e : nodeD n d with
  | false => rfl
  | true =>
    exfalso
    cases d with
    | tuple ds =>
      cases ds with
      | nil => rw [nodeD_nil] at e; cases e
      | cons k r =>
        have h : (if isS "element" k then elemD isTupD r else restD k r) = false := h
        cases q : isS "element" k with
        | true =>
          rw [q] at h
          cases n with
          | zero => rw [nodeD_elem0 q] at e; cases e
          | succ n =>
            rw [nodeD_elem n q] at e
            have h : elemD isTupD r = false := h
            rw [elemD_up (fun d => allD_tup) e] at h
            cases h
        | false =>
          rw [q] at h
          rw [nodeD_rest n q] at e
          have h : restD k r = false := h
          rw [h] at e
          cases e
    | _ => rw [nodeD_no n fun _ z => by cases z] at e; cases e
theorem nodes_bad {n : Nat} {xs ys : List PyData} {o : PyData} (h : nodeD n o = false) : nodesD n (.tuple (xs ++ [o] ++ ys)) = false := by
  show ((xs ++ [o] ++ ys).all (nodeD n) && noTwoD (xs ++ [o] ++ ys)) = false
  have : (xs ++ [o] ++ ys).all (nodeD n) = false := by
    rw [List.all_append, List.all_append]
    show (xs.all (nodeD n) && (nodeD n o && true) && ys.all (nodeD n)) = false
    rw [h]
    simp
  rw [this]
  rfl
end Sk
/-! Sk: written data as values: GoodV, literals -/
namespace Sk
open PySem PySem.Spec PyProof.Rows L2
def litFL : Lit → Option V
  | .non => some .non
  | .bl b => some (.bl b)
  | .int i => some (.int i)
  | .str z => some (.str z)
  | _ => none
def flatB : V → Bool
  | .non => true
  | .bl _ => true
  | .int i => Nat.ble i.natAbs (10 ^ 30)
  | v => okT 24 v
theorem flatB_ok {v : V} (h : flatB v = true) : FlatOk v := by
  cases v with
  | non => trivial
  | bl b => trivial
  | int i => exact Nat.le_of_ble_eq_true h
  | str z =>
    obtain ⟨z', e, t⟩ := okT_ok (n := 24) (x := .str z) h
    cases e
    exact t
  | _ => cases h
theorem rep_flat {H : Hp} {v x : V} {l : Lit} (r : Rep H v l) (h : litFL l = some x) : v = x := by
  cases r <;> first | (cases h; rfl) | cases h
def goodL : Nat → Lit → Bool
  | 0, l => match litFL l with
    | some x => flatB x
    | none => false
  | n + 1, l => match l with
    | .tup ls => Nat.ble ls.length 3 && ls.all (goodL n)
    | .dic ks ls => Nat.ble ks.length 3 && (ks.all (fun k => okN (.str k)) && (nodupS ks && ls.all (goodL n)))
    | l => match litFL l with
      | some x => flatB x
      | none => false
def valL : List Str → List Lit → Str → Lit
  | k :: ks, l :: ls, w => if k.cps.toList == w.cps.toList then l else valL ks ls w
  | _, _, _ => .non
def litL : Nat → Lit → Str
  | 0, l => match litFL l with
    | some x => litF x
    | none => ""
  | n + 1, l => match l with
    | .tup ls => "[" ++ Txt.join "," (ls.map (litL n)) ++ "]"
    | .dic ks ls => "{" ++ Txt.join "," ((sortN ks).map fun w => rowL w (litL n (valL ks ls w))) ++ "}"
    | l => match litFL l with
      | some x => litF x
      | none => ""
theorem nms_of : ∀ {kvs : List (Key × V)} {ks : List Str}, kvs.map (·.1) = ks.map Sum.inr → nms kvs = ks
  | [], [], _ => rfl
  | [], _ :: _, h => by cases h
  | _ :: _, [], h => by cases h
  | (k, v) :: r, z :: ks, h => by
    have h1 : k = .inr z := (List.cons.inj h).1
    subst h1
    show z :: nms r = z :: ks
    rw [nms_of (List.cons.inj h).2]
theorem val_rep {H : Hp} : ∀ {kvs : List (Key × V)} {ks : List Str} {ls : List Lit}, kvs.map (·.1) = ks.map Sum.inr → Reps H (kvs.map (·.2)) ls → ∀ w, w ∈ ks → ∃ v, valV kvs (.inr w) = some v ∧ Rep H v (valL ks ls w)
  | [], [], _, _, _, w, hw => by cases hw
  | [], _ :: _, _, h, _, _, _ => by cases h
  | _ :: _, [], _, h, _, _, _ => by cases h
  | (k, v) :: r, z :: ks, ls, h, t, w, hw => by
    have h1 : k = .inr z := (List.cons.inj h).1
    subst h1
    cases t with
    | cons a b =>
      rename_i l ls
      by_cases e : z = w
      · subst e
        refine ⟨v, valV_pos rfl, ?_⟩
        show Rep H v (if z.cps.toList == z.cps.toList then l else _)
        rw [if_pos (beq_self_eq_true _)]
        exact a
      · have hw' : w ∈ ks := by
          rcases List.mem_cons.mp hw with q | q
          · exact absurd q.symm e
          · exact q
        obtain ⟨x, e1, e2⟩ := val_rep (List.cons.inj h).2 b w hw'
        refine ⟨x, ?_, ?_⟩
        · rw [valV_neg (fun q => e (Sum.inr.inj q))]
          exact e1
        · show Rep H x (if z.cps.toList == w.cps.toList then l else valL ks ls w)
          rw [if_neg (fun q => e (str_ext (by simpa using q)))]
          exact e2
theorem reps_all {H : Hp} {P : V → Prop} {Q : Lit → Prop} (h : ∀ v l, Rep H v l → Q l → P v) : ∀ {vs : List V} {ls : List Lit}, Reps H vs ls → (∀ l ∈ ls, Q l) → ∀ v ∈ vs, P v
  | _, _, .nil, _, v, hv => by cases hv
  | _, _, .cons a b, hq, v, hv => by
    rcases List.mem_cons.mp hv with e | e
    · rw [e]
      exact h _ _ a (hq _ (List.mem_cons_self ..))
    · exact reps_all h b (fun l hl => hq l (List.mem_cons_of_mem _ hl)) v e
theorem reps_map {H : Hp} {f : V → Str} {g : Lit → Str} {Q : Lit → Prop} (h : ∀ v l, Rep H v l → Q l → f v = g l) : ∀ {vs : List V} {ls : List Lit}, Reps H vs ls → (∀ l ∈ ls, Q l) → vs.map f = ls.map g
  | _, _, .nil, _ => rfl
  | _, _, .cons a b, hq => by
    rw [List.map_cons, List.map_cons, h _ _ a (hq _ (List.mem_cons_self ..)), reps_map h b fun l hl => hq l (List.mem_cons_of_mem _ hl)]
theorem good_flat {H : Hp} {v : V} {l : Lit} (n : Nat) (r : Rep H v l) (h : (match litFL l with | some x => flatB x | none => false) = true) : GoodV H n v ∧ litH H n v = (match litFL l with | some x => litF x | none => "") := by
  split at h
  · rename_i x e
    have := rep_flat r e
    subst this
    have f := flatB_ok h
    exact ⟨f.good n, by rw [lit_flat f]⟩
  · cases h
theorem keys_mem {kvs : List (Key × V)} {ks : List Str} (h : kvs.map (·.1) = ks.map Sum.inr) (p : Key × V) (hp : p ∈ kvs) : ∃ z ∈ ks, p.1 = .inr z := by
  have : p.1 ∈ kvs.map (·.1) := List.mem_map_of_mem hp
  rw [h] at this
  obtain ⟨z, hz, e⟩ := List.mem_map.mp this
  exact ⟨z, hz, e.symm⟩
theorem good_rep {H : Hp} : ∀ (n : Nat) (v : V) (l : Lit), Rep H v l → goodL n l = true → GoodV H n v ∧ litH H n v = litL n l
  | 0, v, l, r, h => good_flat 0 r h
  | n + 1, v, l, r, h => by
    cases l with
    | tup ls =>
      cases r with
      | tup ha rs =>
        have h : (Nat.ble ls.length 3 && ls.all (goodL n)) = true := h
        have h := Bool.and_eq_true_iff.mp h
        have all := List.all_eq_true.mp h.2
        have l3 := Nat.le_of_ble_eq_true h.1
        have len := rs.length
        refine ⟨.inr (.inl ⟨_, _, rfl, ha, by omega, reps_all (Q := fun l => goodL n l = true) (fun v l r h => (good_rep n v l r h).1) rs all⟩), ?_⟩
        rw [lit_tup ha, reps_map (g := litL n) (Q := fun l => goodL n l = true) (fun v l r h => (good_rep n v l r h).2) rs all]
        rfl
    | dic ks ls =>
      cases r with
      | dic ha hk rs =>
        rename_i a kvs
        have h : (Nat.ble ks.length 3 && (ks.all (fun k => okN (.str k)) && (nodupS ks && ls.all (goodL n)))) = true := h
        have h := Bool.and_eq_true_iff.mp h
        have h2 := Bool.and_eq_true_iff.mp h.2
        have h3 := Bool.and_eq_true_iff.mp h2.2
        have all := List.all_eq_true.mp h3.2
        have l3 := Nat.le_of_ble_eq_true h.1
        have lk : kvs.length = ks.length := by
          have := congrArg List.length hk
          simpa using this
        have nok : ∀ z ∈ ks, NameOk z := fun z hz => by
          obtain ⟨z', e, t⟩ := okN_ok (List.all_eq_true.mp h2.1 z hz)
          cases e
          exact t
        have gv := reps_all (P := fun v => GoodV H n v) (Q := fun l => goodL n l = true) (fun v l r h => (good_rep n v l r h).1) rs all
        refine ⟨.inr (.inr ⟨_, _, rfl, ha, ⟨by omega, ?_, fun p hp => ?_⟩, fun p hp => gv _ (List.mem_map_of_mem hp)⟩), ?_⟩
        · rw [hk]
          exact List.Pairwise.map Sum.inr (fun a b h e => h (Sum.inr.inj e)) (nodupS_ok ks h3.1)
        · obtain ⟨z, hz, e⟩ := keys_mem hk p hp
          exact ⟨z, e, nok z hz⟩
        · rw [lit_dict ha, nms_of hk]
          show _ = ("{" : Str) ++ Txt.join "," ((sortN ks).map fun w => rowL w (litL n (valL ks ls w))) ++ "}"
          congr 3
          refine List.map_congr_left fun w hw => ?_
          obtain ⟨v, e1, e2⟩ := val_rep hk rs w (mem_sort.mp hw)
          rw [e1]
          have gl : goodL n (valL ks ls w) = true := by
            have mem : ∀ (ks : List Str) (ls : List Lit), ks.length = ls.length → w ∈ ks → valL ks ls w ∈ ls := by
              intro ks
              induction ks with
              | nil => intro ls _ hw; cases hw
              | cons k ks ih =>
                intro ls hl hw
                cases ls with
                | nil => cases hl
                | cons l ls =>
                  show (if k.cps.toList == w.cps.toList then l else valL ks ls w) ∈ l :: ls
                  split
                  · exact List.mem_cons_self ..
                  · rename_i ne
                    refine List.mem_cons_of_mem _ (ih ls (by simpa using hl) ?_)
                    rcases List.mem_cons.mp hw with q | q
                    · rw [q] at ne
                      exact absurd (beq_self_eq_true _) ne
                    · exact q
            refine all _ (mem ks ls ?_ (mem_sort.mp hw))
            have := rs.length
            rw [List.length_map] at this
            omega
          show rowL w (litH H n v) = _
          rw [(good_rep n v _ e2 gl).2]
    | non => exact good_flat (n + 1) r h
    | bl b => exact good_flat (n + 1) r h
    | int i => exact good_flat (n + 1) r h
    | str z => exact good_flat (n + 1) r h
    | lst ls => cases h
end Sk
/-! Sk: written trees -/
namespace Sk
open PySem PySem.Spec PyProof.Rows L2
def eqS (a b : Str) : Bool := a.cps.toList == b.cps.toList
theorem eqS_ok {a b : Str} (h : eqS a b = true) : a = b := str_ext (by simpa [eqS] using h)
theorem eqS_no {a b : Str} (h : eqS a b = false) : a ≠ b := fun e => by
  rw [e] at h
  simp [eqS] at h
def strsL : List Lit → Option (List Str)
  | [] => some []
  | .str z :: r => if okT 24 (.str z) then (strsL r).map (z :: ·) else none
  | _ => none
def pairsL : List Lit → Option (List (Str × Str))
  | [] => some []
  | .tup [.str w, .str z] :: r => if okN (.str w) && okT 24 (.str z) then (pairsL r).map ((w, z) :: ·) else none
  | _ => none
def attOf : Lit → Option Att
  | .tup [.str n, .str z] => if okN (.str n) && (!eqS n "href" && okT 24 (.str z)) then some (.plain n z) else none
  | .tup [.str n, .tup [.tup ws, .tup ps]] => if eqS n "href" && (Nat.ble 1 ws.length && (Nat.ble ws.length 3 && Nat.ble ps.length 3)) then (match strsL ws, pairsL ps with | some a, some b => some (.addr a b) | _, _ => none) else none
  | _ => none
def attsOf : List Lit → Option (List Att)
  | [] => some []
  | l :: r => match attOf l, attsOf r with
    | some a, some as => some (a :: as)
    | _, _ => none
def ndsOf (f : Lit → Option Nd) : List Lit → Option (List Nd)
  | [] => some []
  | l :: r => match f l, ndsOf f r with
    | some a, some as => some (a :: as)
    | _, _ => none
def ndOf : Nat → Lit → Option Nd
  | 0, _ => none
  | n + 1, l => match l with
    | .tup [.str k, .str z] => if eqS k "text" then (if okT 24 (.str z) && Nat.ble 1 z.length then some (.text z) else none) else if eqS k "data" && goodL 6 (.str z) then some (.data (litL 6 (.str z))) else none
    | .tup [.str k, x] => if eqS k "data" && goodL 6 x then some (.data (litL 6 x)) else none
    | .tup [.str k, .str nm, .tup as, .tup ns] => if eqS k "element" && (okN (.str nm) && (!eqS nm "data" && (Nat.ble as.length 3 && Nat.ble ns.length 4))) then
        (match attsOf as, ndsOf (ndOf n) ns with | some a, some b => if noTwo b then some (.elem nm a b) else none | _, _ => none) else none
    | _ => none
theorem okT_str {n : Nat} {z : Str} (h : okT n (.str z) = true) : TextOk n z := by
  obtain ⟨z', e, t⟩ := okT_ok h
  cases e
  exact t
theorem okN_str {z : Str} (h : okN (.str z) = true) : NameOk z := by
  obtain ⟨z', e, t⟩ := okN_ok h
  cases e
  exact t
theorem strs_rep {H : Hp} : ∀ {ls : List Lit} {zs : List Str} {vs : List V}, strsL ls = some zs → Reps H vs ls → vs = zs.map V.str ∧ (∀ z ∈ zs, TextOk 24 z) ∧ zs.length = ls.length
  | [], zs, vs, h, r => by
    cases h
    cases r
    exact ⟨rfl, (fun z hz => by cases hz), rfl⟩
  | l :: ls, zs, vs, h, r => by
    cases r with
    | cons a b =>
      cases a with
      | str z =>
        unfold strsL at h
        split at h
        · rename_i c
          obtain ⟨zs', h', rfl⟩ := Option.map_eq_some_iff.mp h
          obtain ⟨e1, e2, e3⟩ := strs_rep h' b
          refine ⟨by rw [e1]; rfl, fun x hx => ?_, by rw [List.length_cons, List.length_cons, e3]⟩
          rcases List.mem_cons.mp hx with q | q
          · rw [q]
            exact okT_str c
          · exact e2 x q
        · cases h
      | _ => cases h
theorem pairs_rep {H : Hp} : ∀ {ls : List Lit} {ps : List (Str × Str)} {vs : List V}, pairsL ls = some ps → Reps H vs ls → vs.length = ps.length ∧ ps.length = ls.length ∧ ∀ (i : Nat) x p, vs[i]? = some x → ps[i]? = some p → ∃ b, x = .ref b ∧ H b = some (.tup [.str p.1, .str p.2]) ∧ NameOk p.1 ∧ TextOk 24 p.2
  | [], ps, vs, h, r => by
    cases h
    cases r
    exact ⟨rfl, rfl, fun i x p hx => by simp at hx⟩
  | l :: ls, ps, vs, h, r => by
    unfold pairsL at h
    split at h
    · rename_i e
      cases e
    · rename_i w z r' e
      cases e
      split at h
      · rename_i c
        have c := Bool.and_eq_true_iff.mp c
        obtain ⟨ps', h', rfl⟩ := Option.map_eq_some_iff.mp h
        cases r with
        | cons a b =>
          obtain ⟨e1, e2, e3⟩ := pairs_rep h' b
          refine ⟨by rw [List.length_cons, List.length_cons, e1], by rw [List.length_cons, List.length_cons, e2], fun i x p hx hp => ?_⟩
          cases a with
          | tup ha rs =>
            cases rs with
            | cons r1 rs =>
              cases rs with
              | cons r2 rs =>
                cases rs
                cases r1
                cases r2
                cases i with
                | zero =>
                  cases hx
                  cases hp
                  exact ⟨_, rfl, ha, okN_str c.1, okT_str c.2⟩
                | succ i => exact e3 i x p (by simpa using hx) (by simpa using hp)
      · cases h
    · cases h
theorem att_rep {H : Hp} {v : V} {l : Lit} {a : Att} (r : Rep H v l) (h : attOf l = some a) : AttV H v a := by
  unfold attOf at h
  split at h
  · split at h
    · rename_i c
      have c := Bool.and_eq_true_iff.mp c
      have c2 := Bool.and_eq_true_iff.mp c.2
      cases h
      cases r with
      | tup ha rs =>
        cases rs with
        | cons r1 rs =>
          cases rs with
          | cons r2 rs =>
            cases rs
            cases r1
            cases r2
            exact ⟨_, rfl, ha, okN_str c.1, eqS_no (by simpa using c2.1), okT_str c2.2⟩
    · cases h
  · split at h
    · rename_i c
      have c := Bool.and_eq_true_iff.mp c
      have c2 := Bool.and_eq_true_iff.mp c.2
      have c3 := Bool.and_eq_true_iff.mp c2.2
      split at h
      · rename_i hs hp
        cases h
        cases r with
        | tup ha rs =>
          cases rs with
          | cons r1 rs =>
            cases rs with
            | cons r2 rs =>
              cases rs
              cases r1
              cases r2 with
              | tup hb rs2 =>
                cases rs2 with
                | cons s1 rs2 =>
                  cases rs2 with
                  | cons s2 rs2 =>
                    cases rs2
                    cases s1 with
                    | tup hw rw' =>
                      cases s2 with
                      | tup hq rq =>
                        have e := eqS_ok c.1
                        subst e
                        obtain ⟨e1, e2, e3⟩ := strs_rep hs rw'
                        obtain ⟨f1, f2, f3⟩ := pairs_rep hp rq
                        subst e1
                        have := Nat.le_of_ble_eq_true c2.1
                        have := Nat.le_of_ble_eq_true c3.1
                        have := Nat.le_of_ble_eq_true c3.2
                        exact ⟨_, _, _, _, rfl, ha, hb, ⟨_, rfl, hw, e2⟩, by omega, by omega, ⟨_, _, rfl, hq, f1, f3⟩, by omega⟩
      · cases h
    · cases h
  · cases h
theorem atts_rep {H : Hp} : ∀ {ls : List Lit} {as : List Att} {vs : List V}, attsOf ls = some as → Reps H vs ls → AttsV H vs as ∧ as.length = ls.length
  | [], as, vs, h, r => by
    cases h
    cases r
    exact ⟨.nil, rfl⟩
  | l :: ls, as, vs, h, r => by
    unfold attsOf at h
    split at h
    · rename_i h1 h2
      cases h
      cases r with
      | cons a b =>
        obtain ⟨e1, e2⟩ := atts_rep h2 b
        exact ⟨.cons (att_rep a h1) e1, by rw [List.length_cons, List.length_cons, e2]⟩
    · cases h
theorem nds_rep {H : Hp} {f : Lit → Option Nd} (hf : ∀ v l nd, Rep H v l → f l = some nd → NdV H v nd) : ∀ {ls : List Lit} {ns : List Nd} {vs : List V}, ndsOf f ls = some ns → Reps H vs ls → NdsV H vs ns ∧ ns.length = ls.length
  | [], as, vs, h, r => by
    cases h
    cases r
    exact ⟨.nil, rfl⟩
  | l :: ls, as, vs, h, r => by
    unfold ndsOf at h
    split at h
    · rename_i h1 h2
      cases h
      cases r with
      | cons a b =>
        obtain ⟨e1, e2⟩ := nds_rep hf h2 b
        exact ⟨.cons (hf _ _ _ a h1) e1, by rw [List.length_cons, List.length_cons, e2]⟩
    · cases h
theorem nd_rep {H : Hp} : ∀ (n : Nat) (v : V) (l : Lit) (nd : Nd), Rep H v l → ndOf n l = some nd → NdV H v nd
  | 0, _, _, _, _, h => by cases h
  | n + 1, v, l, nd, r, h => by
    unfold ndOf at h
    split at h
    · split at h
      · rename_i c
        have e := eqS_ok c
        subst e
        split at h
        · rename_i c
          have c := Bool.and_eq_true_iff.mp c
          cases h
          cases r with
          | tup ha rs =>
            cases rs with
            | cons r1 rs =>
              cases rs with
              | cons r2 rs =>
                cases rs
                cases r1
                cases r2
                exact .text ha (okT_str c.1) (Nat.le_of_ble_eq_true c.2)
        · cases h
      · split at h
        · rename_i c
          have c := Bool.and_eq_true_iff.mp c
          have e := eqS_ok c.1
          subst e
          cases h
          cases r with
          | tup ha rs =>
            cases rs with
            | cons r1 rs =>
              cases rs with
              | cons r2 rs =>
                cases rs
                cases r1
                obtain ⟨g1, g2⟩ := good_rep 6 _ _ r2 c.2
                rw [← g2]
                exact .data ha g1
        · cases h
    · split at h
      · rename_i c
        have c := Bool.and_eq_true_iff.mp c
        have e := eqS_ok c.1
        subst e
        cases h
        cases r with
        | tup ha rs =>
          cases rs with
          | cons r1 rs =>
            cases rs with
            | cons r2 rs =>
              cases rs
              cases r1
              obtain ⟨g1, g2⟩ := good_rep 6 _ _ r2 c.2
              rw [← g2]
              exact .data ha g1
      · cases h
    · split at h
      · rename_i c
        have c := Bool.and_eq_true_iff.mp c
        have c2 := Bool.and_eq_true_iff.mp c.2
        have c3 := Bool.and_eq_true_iff.mp c2.2
        have c4 := Bool.and_eq_true_iff.mp c3.2
        have e := eqS_ok c.1
        subst e
        split at h
        · rename_i h1 h2
          split at h
          · rename_i nt
            cases h
            cases r with
            | tup ha rs =>
              cases rs with
              | cons r1 rs =>
                cases rs with
                | cons r2 rs =>
                  cases rs with
                  | cons r3 rs =>
                    cases rs with
                    | cons r4 rs =>
                      cases rs
                      cases r1
                      cases r2
                      cases r3 with
                      | tup hp rp =>
                        cases r4 with
                        | tup hq rq =>
                          obtain ⟨e1, e2⟩ := atts_rep h1 rp
                          obtain ⟨f1, f2⟩ := nds_rep (nd_rep n) h2 rq
                          have := Nat.le_of_ble_eq_true c4.1
                          have := Nat.le_of_ble_eq_true c4.2
                          exact .elem ha (okN_str c2.1) (eqS_no (by simpa using c3.1)) hp e1 (by omega) hq f1 (by omega) nt
          · cases h
        · cases h
      · cases h
    · cases h
end Sk
/-! Sk: lists of written rows, put together and appended to -/
namespace Sk
open PySem PySem.Spec PyProof.Rows L2
theorem newP_upd {H0 H : Hp} {L : Addr} {o : HO} : Same (hide L (newP H0 H)) (hide L (newP H0 (upd H L o))) := fun b u e => by
  obtain ⟨e1, e2⟩ := hide_some e
  obtain ⟨e3, e4⟩ := newP_some e2
  rw [hide_ne e1, newP_at e3, upd_ne e1]
  exact e4
/-- at L a list of at most n rows, all made behind H0, of each p -/
structure Rows (p : Lit → Bool) (H0 : Hp) (n : Nat) (L : Addr) (H : Hp) : Prop where
  same : Same H0 H
  new : H0 L = none
  rows : ∃ vs ls, H L = some (.lst vs) ∧ Reps (hide L (newP H0 H)) vs ls ∧ ls.all p = true ∧ ls.length ≤ n
theorem Rows.on {p : Lit → Bool} {H0 H H' : Hp} {L : Addr} {n : Nat} (S : Rows p H0 n L H) (s : Same H H') : Rows p H0 n L H' := by
  obtain ⟨vs, ls, h1, h2, h3⟩ := S.rows
  exact ⟨S.same.trans s, S.new, vs, ls, s _ _ h1, h2.same (hide_same (newP_same s)), h3⟩
theorem rows_new {p : Lit → Bool} {H0 H : Hp} {L : Addr} {vs : List V} {ls : List Lit} (s : Same H0 H) (r : Reps (newP H0 H) vs ls) (hp : ls.all p = true) (n : H L = none) : Rows p H0 ls.length L (upd H L (.lst vs)) := by
  refine ⟨s.trans (same_new n), s.free n, vs, ls, upd_same, r.same fun b o e => ?_, hp, Nat.le_refl _⟩
  obtain ⟨e1, e2⟩ := newP_some e
  have ne := ne_of_none e2 n
  rw [hide_ne ne, newP_at e1, upd_ne ne]
  exact e2
theorem Rows.cat {p : Lit → Bool} {H0 H H1 : Hp} {L : Addr} {n : Nat} {v : V} {ms : List Lit} (S : Rows p H0 n L H) (s : Same H H1) (r : Rep (newP H H1) v (.lst ms)) (hp : ms.all p = true) (hn : n + ms.length ≤ 1000) :
    ∃ b xs ys, v = .ref b ∧ H1 L = some (.lst xs) ∧ H1 b = some (.lst ys) ∧ xs.length + ys.length ≤ sizeLine ∧ ∀ N, H1 N = none → Rows p H0 (n + ms.length) N (upd H1 N (.lst (xs ++ ys))) := by
  cases r with
  | lst hb rs =>
    obtain ⟨vs, ls, h1, h2, h3, h4⟩ := S.rows
    have hb1 := (newP_some hb).2
    have a := h2.length
    have b := rs.length
    refine ⟨_, vs, _, rfl, s _ _ h1, hb1, size_le (by omega), fun N nN => ?_⟩
    have r1 : Reps (newP H0 H1) vs ls := (h2.same hide_sub).same (newP_same s)
    have r2 := rs.same (newP_less' S.same)
    have := rows_new (p := p) (S.same.trans s) (r1.app r2) (by rw [List.all_append, h3, hp]; rfl) nN
    rw [List.length_append] at this
    obtain ⟨vs', ls', k1, k2, k3, k4⟩ := this.rows
    exact ⟨this.same, this.new, vs', ls', k1, k2, k3, by omega⟩
theorem Rows.app' {p : Lit → Bool} {H0 H : Hp} {L : Addr} {n : Nat} {v : V} {l : Lit} {vs : List V} (S : Rows p H0 n L H) (hL : H L = some (.lst vs)) (r : Rep (hide L (newP H0 H)) v l) (hp : p l = true) : Rows p H0 (n + 1) L (upd H L (.lst (vs ++ [v]))) := by
  obtain ⟨vs', ls, h1, h2, h3, h4⟩ := S.rows
  rw [hL] at h1
  cases h1
  refine ⟨fun b o hb => ?_, S.new, _, ls ++ [l], upd_same, (h2.app (.cons r .nil)).same newP_upd, by rw [List.all_append, h3]; simp [hp], by rw [List.length_append]; exact Nat.succ_le_succ h4⟩
  rw [upd_ne (ne_of_none hb S.new)]
  exact S.same b o hb
theorem Rows.app {p : Lit → Bool} {H0 H H1 : Hp} {L : Addr} {n : Nat} {v : V} {l : Lit} (S : Rows p H0 n L H) (s : Same H H1) (r : Rep (newP H H1) v l) (hp : p l = true) (hn : n ≤ 1000) :
    ∃ xs, H1 L = some (.lst xs) ∧ xs.length < sizeLine ∧ Rows p H0 (n + 1) L (upd H1 L (.lst (xs ++ [v]))) := by
  have S1 := S.on s
  obtain ⟨vs, ls, h1, h2, h3, h4⟩ := S1.rows
  obtain ⟨vs0, _, h0, _⟩ := S.rows
  have a := h2.length
  refine ⟨vs, h1, size_lt (by omega), S1.app' h1 (r.same fun b o e => ?_) hp⟩
  obtain ⟨e1, e2⟩ := newP_some e
  rw [hide_ne (fun z => by rw [z, h0] at e1; cases e1), newP_at (S.same.free e1)]
  exact e2
theorem Rows.has {p : Lit → Bool} {H0 H : Hp} {L : Addr} {n : Nat} (S : Rows p H0 n L H) : ∃ xs, H L = some (.lst xs) := by
  obtain ⟨vs, _, h, _⟩ := S.rows
  exact ⟨vs, h⟩
/-- rows made behind H0 stay where a list of H0 is appended to -/
theorem Rows.other {p : Lit → Bool} {H0 H : Hp} {L N : Addr} {n : Nat} {o u : HO} (h0 : H0 L = some u) (h : ∃ vs ls, H N = some (.lst vs) ∧ Reps (hide N (newP H0 H)) vs ls ∧ ls.all p = true ∧ ls.length ≤ n) (nN : H0 N = none) :
    ∃ vs ls, upd H L o N = some (.lst vs) ∧ Reps (hide N (newP H0 (upd H L o))) vs ls ∧ ls.all p = true ∧ ls.length ≤ n := by
  obtain ⟨vs, ls, h1, h2, h3⟩ := h
  refine ⟨vs, ls, (upd_ne (fun z => by rw [z, h0] at nN; cases nN)).trans h1, h2.same fun b w e => ?_, h3⟩
  obtain ⟨e1, e2⟩ := hide_some e
  obtain ⟨e3, e4⟩ := newP_some e2
  rw [hide_ne e1, newP_at e3, upd_ne (fun z => by rw [z, h0] at e3; cases e3)]
  exact e4
end Sk
/-! Sk: a head's facts over fewer objects (the module's names, their code, classes' dicts and methods); the run in parts -/
namespace Sk
open PySem PySem.Spec PyProof.Rows L2
def refsA (g : Addr → Option Obj) (a : Addr) : List Addr := match g a with
  | some o => He.refsD o
  | none => []
def refsC (g : Addr → Option Obj) (a : Addr) : List Addr := match g a with
  | some ⟨_, _, .cls cd, _⟩ => refsA g cd.ns
  | _ => []
def asV (g : Addr → Option Obj) : List Addr := mainGlobals :: (refsA g mainGlobals ++ ((refsA g mainGlobals).flatMap (refsA g) ++ ((refsA g mainGlobals).flatMap (refsC g) ++ (((refsA g mainGlobals).flatMap (refsC g)).flatMap (refsA g) ++ [cStatics, sysModules]))))
def fragV (g : Addr → Option Obj) : Fg := He.frT g (asV g)
def seenV (fa : List He.Fa) (fn : List He5.DefA) (ts : List He.Tab) (tf : List He.Defn) (ex : Fg → Bool) (g : Addr → Option Obj) : AlU :=
  ((He5.obsA fa fn (fragV g), ts.map fun t => He.dicW (fragV g) (t.1 (fragV g))), ex (fragV g) && He.tabsB g tf (fragV g))
theorem saysV_of {fa : List He.Fa} {fn : List He5.DefA} {ts : List He.Tab} {tf : List He.Defn} {ex : Fg → Bool} {w : World} {h : Heap} (e : seenV fa fn ts tf ex h.get? = wantU fn ts w) : SaysU fa fn ts tf ex w h (fragV h.get?) := by
  have a1 : He5.SaysA fa fn (fragV h.get?) := congrArg (fun z : AlU => z.1.1) e
  have a2 : (ts.map fun t => He.dicW (fragV h.get?) (t.1 (fragV h.get?))) = ts.map fun t => some (He.keysIn w.params t.2) := congrArg (fun z : AlU => z.1.2) e
  have a3 : (ex (fragV h.get?) && He.tabsB h.get? tf (fragV h.get?)) = true := congrArg (fun z : AlU => z.2) e
  obtain ⟨b1, b2⟩ := Bool.and_eq_true_iff.mp a3
  refine ⟨a1, a2, b1, fun p hp => ?_⟩
  obtain ⟨c1, c2⟩ := Bool.and_eq_true_iff.mp (List.all_eq_true.mp b2 p hp)
  refine ⟨c1, ?_⟩
  cases q : h.get? (He.cT (fragV h.get?) p).2 with
  | none =>
    rw [q] at c2
    cases c2
  | some o =>
    rw [q] at c2
    exact ⟨He.frT_none q c2, by rw [He.emptyTab_eq c2]⟩
def hookV (fa : List He.Fa) (fn : List He5.DefA) (ts : List He.Tab) (tf : List He.Defn) (ex : Fg → Bool) : PySem.W.Hook where
  α := AlU
  obs := fun s => seenV fa fn ts tf ex s.heap.get?
  val := fun w => wantU fn ts w
  says := fun w h => ∃ K : Fg, K.In h ∧ SaysU fa fn ts tf ex w h K
  of := fun _ _ e => ⟨_, He.frT_in, saysV_of e⟩
  keeps := fun _ _ _ z k => by
    obtain ⟨K, i, c⟩ := z
    exact ⟨K, i.keeps k, c.defs, c.tabs, c.also, fun p hp => ⟨(c.made p hp).1, (c.made p hp).2.1, k _ _ (c.made p hp).2.2⟩⟩
theorem seenV_eq {fa : List He.Fa} {fn : List He5.DefA} {ts : List He.Tab} {tf : List He.Defn} {ex : Fg → Bool} {g : Addr → Option Obj} {s : Shared} (h : ∀ a, g a = s.heap.get? a) : seenV fa fn ts tf ex g = (hookV fa fn ts tf ex).obs s := by
  have : g = s.heap.get? := funext h
  subst this
  rfl
theorem run3 {α β γ δ : Type} {o : Option α} {f : α → β} {g : α → γ} {h : α → δ} {a : β} {b : γ} {c : δ} (h1 : o.map f = some a) (h2 : o.map g = some b) (h3 : o.map h = some c) : o.map (fun s => (f s, g s, h s)) = some (a, b, c) := by
  cases o with
  | none => cases h1
  | some s =>
    have h1 : some (f s) = some a := h1
    have h2 : some (g s) = some b := h2
    have h3 : some (h s) = some c := h3
    show some (f s, g s, h s) = _
    rw [Option.some.inj h1, Option.some.inj h2, Option.some.inj h3]
end Sk
/-! Sk: lists of data; comprehensions with any invariant, with a test -/
namespace Sk
open PySem PySem.Spec PyProof.Rows L2
/-- a list of data, each of p -/
def OddL (p : PyData → Bool) (H : Hp) (L : Addr) (n : Nat) : Prop := ∃ xs ds, H L = some (.lst xs) ∧ DLs H xs ds ∧ ds.all p = true ∧ xs.length ≤ n ∧ 0 < xs.length
theorem oddL_lit {p : PyData → Bool} {H H' : Hp} {v : V} {ls : List Lit} (r : Rep (newP H H') v (.lst ls)) (hp : (litDs ls).all p = true) (h0 : 0 < ls.length := by decide) : ∃ a, v = .ref a ∧ newP H H' a ≠ none ∧ OddL p (newP H H') a ls.length := by
  cases r with
  | lst h k => exact ⟨_, rfl, (by rw [h]; exact fun e => by cases e), _, _, h, k.dl, hp, by rw [k.length]; exact Nat.le_refl _, by rw [k.length]; exact h0⟩
theorem oddL_new {p : PyData → Bool} {H H1 : Hp} {vs : List V} {ls : List Lit} (s : Same H H1) (r : Reps (newP H H1) vs ls) (hp : (litDs ls).all p = true) (hl : ls.length ≤ 1000) (h0 : 0 < ls.length := by decide) : vs.length ≤ sizeLine ∧ ∀ q, H1 q = none → Same H (upd H1 q (.lst vs)) ∧ OddL p (newP H (upd H1 q (.lst vs))) q ls.length := by
  refine ⟨size_le (by rw [r.length]; omega), fun q nq => ⟨s.trans (same_new nq), vs, _, ?_, r.dl.same (newP_same (same_new nq)), hp, by rw [r.length]; exact Nat.le_refl _, by rw [r.length]; exact h0⟩⟩
  rw [newP_at (s.free nq), upd_same]
theorem OddL.on {p : PyData → Bool} {H H' : Hp} {L : Addr} {n : Nat} (h : OddL p H L n) (s : Same H H') : OddL p H' L n := by
  obtain ⟨xs, ds, h1, h2, h3⟩ := h
  exact ⟨xs, ds, s _ _ h1, h2.same s, h3⟩
theorem newP_put {H0 H : Hp} {q : Addr} {o : HO} (h0 : H0 q = none) (n : H q = none) : newP H0 (upd H q o) q = some o := by
  rw [newP_at h0, upd_same]
theorem oddL_cat {p : PyData → Bool} {H0 H1 H2 : Hp} {L b : Addr} {n m : Nat} (s01 : Same H0 H1) (h : OddL p (newP H0 H1) L n) (s : Same H1 H2) (k : OddL p (newP H1 H2) b m) (hn : n + m ≤ 1000) :
    ∃ xs ys, H2 L = some (.lst xs) ∧ H2 b = some (.lst ys) ∧ xs.length + ys.length ≤ sizeLine ∧ ∀ q, H2 q = none → Same H0 (upd H2 q (.lst (xs ++ ys))) ∧ OddL p (newP H0 (upd H2 q (.lst (xs ++ ys)))) q (n + m) := by
  obtain ⟨xs, ds, h1, h2, h3, h4, h5⟩ := h
  obtain ⟨ys, es, k1, k2, k3, k4, _⟩ := k
  have u1 := (newP_same s) _ _ h1
  refine ⟨xs, ys, (newP_some u1).2, (newP_some k1).2, size_le (by omega), fun q nq => ?_⟩
  have s2 : Same H2 (upd H2 q (.lst (xs ++ ys))) := same_new nq
  refine ⟨(s01.trans s).trans s2, xs ++ ys, ds ++ es, newP_put ((s01.trans s).free nq) nq, ?_, by rw [List.all_append, h3, k3]; rfl, by rw [List.length_append]; omega, by rw [List.length_append]; omega⟩
  exact ((h2.same ((newP_same s).trans (newP_same s2)))).app (k2.same ((newP_less' s01).trans (newP_same s2)))
section
variable {D : Addr} {H1 : Hp}
/-- [e for x in xs], any invariant -/
theorem lcI {K : PySem.W.Frag} {a : Addr} {xs : List V} {j : Nat} {te : TE} {vs : List Nat} {σ : L2.St} {Qd : Hp → Prop} (Iv : Nat → List V → Hp → Prop) (h0 : Iv 0 [] (upd H1 D (.lst []))) (hn : xs.length < 100000)
    (hS : ∀ i ys H, Iv i ys H → H D = some (.lst ys) → SqL K H a xs) (hw : ∀ x, wipe ((wipe σ vs).set j (some x)) vs = wipe σ vs)
    (turn : ∀ (i : Nat) x H ys, xs[i]? = some x → Iv i ys H → H D = some (.lst ys) → te ((wipe σ vs).set j (some x)) H (fun y H4 => H4 D = some (.lst ys) ∧ Iv (i + 1) (ys ++ [y]) (upd H4 D (.lst (ys ++ [y])))))
    (hd : ∀ H ys, Iv xs.length ys H → ys.length = xs.length → H D = some (.lst ys) → Qd H) :
    ∃ W : Nat → Nat → Hp → Prop, (∃ m, W 0 m (upd H1 D (.lst []))) ∧ ∀ i m H, W i m H →
      ((Itl K a).stop i H ∧ Qd H) ∨ ((Itl K a).go i H ∧ ∃ Nx : Hp → Prop, (∀ H', Nx H' → ∃ m', m' < m ∧ W (i + 1) m' H') ∧ ∀ x H', (Itl K a).yld i H x H' → gName j x (wipe σ vs) H' fun σ2 H2 => wipe σ2 vs = wipe σ vs ∧ tYes σ2 H2 fun b H3 =>
        if b = true then upE te σ2 H3 fun y H4 => ∃ acc, H4 D = some (.lst acc) ∧ acc.length < sizeLine ∧ Nx (upd H4 D (.lst (acc ++ [y]))) else Nx H3) := by
  refine lc_list (xs := xs) (fun i H => ∃ ys : List V, ys.length = i ∧ H D = some (.lst ys) ∧ Iv i ys H) ⟨[], rfl, upd_same, h0⟩ (fun i H _ hv => ?_) (fun i x H hx hv => ?_) (fun H hv => ?_)
  · obtain ⟨ys, _, e, v⟩ := hv
    exact hS i ys H v e
  · obtain ⟨ys, l, e, v⟩ := hv
    refine ⟨hw _, ?_⟩
    dsimp only [tYes]
    rw [if_pos rfl]
    have hi : i < xs.length := (List.getElem?_eq_some_iff.mp hx).1
    refine ⟨_, fun y H4 z => ?_, turn i x H ys hx v e⟩
    exact ⟨ys, z.1, size_lt (by omega), ys ++ [y], by rw [List.length_append, l]; rfl, upd_same, z.2⟩
  · obtain ⟨ys, l, e, v⟩ := hv
    exact hd H ys v l e
/-- [e for k in range(..) if c] -/
theorem lcF {n j : Nat} {lo : Int} {tt : TT} {te : TE} {vs : List Nat} {σ : L2.St} {Qd : Hp → Prop} (J : Hp → Prop) (Pp : V → Prop) (hp : J (upd H1 D (.lst []))) (hn : n < 100000) (jup : ∀ H l, J H → J (upd H D (.lst l)))
    (hw : ∀ x, wipe ((wipe σ vs).set j (some x)) vs = wipe σ vs)
    (turn : ∀ (i : Nat) H ys, i < n → J H → H D = some (.lst ys) → tt ((wipe σ vs).set j (some (.int (lo + i)))) H (fun b H3 => J H3 ∧ H3 D = some (.lst ys) ∧ (b = true → te ((wipe σ vs).set j (some (.int (lo + i)))) H3 (fun y H4 => J H4 ∧ H4 D = some (.lst ys) ∧ Pp y))))
    (hd : ∀ H ys, J H → ys.length ≤ n → H D = some (.lst ys) → (∀ y ∈ ys, Pp y) → Qd H) :
    ∃ W : Nat → Nat → Hp → Prop, (∃ m, W 0 m (upd H1 D (.lst []))) ∧ ∀ i m H, W i m H →
      ((Itr lo n).stop i H ∧ Qd H) ∨ ((Itr lo n).go i H ∧ ∃ Nx : Hp → Prop, (∀ H', Nx H' → ∃ m', m' < m ∧ W (i + 1) m' H') ∧ ∀ x H', (Itr lo n).yld i H x H' → gName j x (wipe σ vs) H' fun σ2 H2 => wipe σ2 vs = wipe σ vs ∧ upT tt σ2 H2 fun b H3 =>
        if b = true then upE te σ2 H3 fun y H4 => ∃ acc, H4 D = some (.lst acc) ∧ acc.length < sizeLine ∧ Nx (upd H4 D (.lst (acc ++ [y]))) else Nx H3) := by
  refine lc_range (fun i H => J H ∧ ∃ ys : List V, ys.length ≤ i ∧ H D = some (.lst ys) ∧ ∀ y ∈ ys, Pp y) ⟨hp, [], Nat.le_refl _, upd_same, fun y e => by cases e⟩ (fun i H hi hv => ?_) (fun H hv => ?_)
  · obtain ⟨j1, ys, l1, e1, q1⟩ := hv
    refine ⟨hw _, _, fun b H3 z => ?_, turn i H ys hi j1 e1⟩
    obtain ⟨j3, e3, z⟩ := z
    cases b with
    | false =>
      rw [if_neg (by decide)]
      exact ⟨j3, ys, Nat.le_succ_of_le l1, e3, q1⟩
    | true =>
      rw [if_pos rfl]
      refine ⟨_, fun y H4 z => ?_, z rfl⟩
      obtain ⟨j4, e4, p4⟩ := z
      refine ⟨ys, e4, size_lt (by omega), jup _ _ j4, ys ++ [y], by rw [List.length_append]; exact Nat.succ_le_succ l1, upd_same, fun u hu => ?_⟩
      rcases List.mem_append.mp hu with h | h
      · exact q1 u h
      · rw [List.mem_singleton.mp h]
        exact p4
  · obtain ⟨j1, ys, l1, e1, q1⟩ := hv
    exact hd H ys j1 l1 e1 q1
end
/-- what is shown small -/
def shB (d : PyData) : Bool := d.showable && (Nat.ble d.shown.length 300 && Nat.ble d.depth 10)
theorem shB_ok {d : PyData} (h : shB d = true) : ShD d 300 10 := by
  obtain ⟨h1, h2⟩ := Bool.and_eq_true_iff.mp h
  obtain ⟨h2, h3⟩ := Bool.and_eq_true_iff.mp h2
  exact ⟨h1, Nat.le_of_ble_eq_true h2, Nat.le_of_ble_eq_true h3⟩
/-- no node, and small -/
def oddB (d : PyData) : Bool := szB 12 d && (!nodeW d && shB d)
def OddD (d : PyData) : Prop := Sz d ∧ nodeW d = false ∧ ShD d 300 10
theorem oddB_ok {d : PyData} (h : oddB d = true) : OddD d := by
  obtain ⟨h1, h2⟩ := Bool.and_eq_true_iff.mp h
  obtain ⟨h2, h3⟩ := Bool.and_eq_true_iff.mp h2
  refine ⟨szB_ok _ _ h1, ?_, shB_ok h3⟩
  cases e : nodeW d with
  | false => rfl
  | true => rw [e] at h2; cases h2
/-- ("element", "p", (a,), ()) -/
def withAtt (a : PyData) : PyData := .tuple [.str "element", .str "p", .tuple [a], .tuple []]
def oddAB (a : PyData) : Bool := oddB (withAtt a)
end Sk
/-! Sk: the lists of things that are no nodes -/
namespace Sk
open PySem PySem.Spec PyProof.Rows L2
section
variable {P : Program} {w : World} {K : PySem.W.Frag} {mg : Str → Option Value} {base : Heap}
def spOdds (n : Nat) (p : PyData → Bool) : Sp := fun vs H Q _ => vs = [] ∧ ∀ a H', Same H H' → OddL p (newP H H') a n → Q (.ref a) H'
theorem OddL.le {p : PyData → Bool} {H : Hp} {L : Addr} {m n : Nat} (h : OddL p H L m) (l : m ≤ n) : OddL p H L n := by
  obtain ⟨xs, ds, h1, h2, h3, h4, h5⟩ := h
  exact ⟨xs, ds, h1, h2, h3, Nat.le_trans h4 l, h5⟩
theorem ok_odda (T : Top K mg) (k : Nat) : Ok__law_odd_attributes P w base T (k + 1) (spOdds 50 oddAB) := by
  refine T.F__law_odd_attributes.ok sc__law_odd_attributes (fun vs H Q E h => by obtain ⟨rfl, _⟩ := h; rfl) (fun cdv A outer s H vs Q E hr h => ⟨_, PSs.nox (pss_cons (ps_set (i := 0) sc__law_odd_attributes.nd rfl (by first | exact .inl rfl | exact .inr rfl) (pe_lst (pa_lits (by rfl))))
      (pss_cons (ps_set (i := 0) sc__law_odd_attributes.nd rfl (by first | exact .inl rfl | exact .inr rfl) (pe_op (kplus K) (vr 0) (pe_lit (by rfl))))
      (pss_cons (ps_set (i := 0) sc__law_odd_attributes.nd rfl (by first | exact .inl rfl | exact .inr rfl) (pe_op (kplus K) (vr 0) (pe_lit (by rfl))))
      (pss_cons (ps_set (i := 0) sc__law_odd_attributes.nd rfl (by first | exact .inl rfl | exact .inr rfl) (pe_op (kplus K) (vr 0) (pe_lit (by rfl))))
      (pss_cons (ps_set (i := 0) sc__law_odd_attributes.nd rfl (by first | exact .inl rfl | exact .inr rfl) (pe_op (kplus K) (vr 0) (pe_lit (by rfl))))
      (pss_cons (ps_set (i := 0) sc__law_odd_attributes.nd rfl (by first | exact .inl rfl | exact .inr rfl) (pe_op (kplus K) (vr 0) (pe_lit (by rfl))))
      (pss_cons (ps_set (i := 0) sc__law_odd_attributes.nd rfl (by first | exact .inl rfl | exact .inr rfl) (pe_op (kplus K) (vr 0) (pe_lit (by rfl))))
      (pss_cons (ps_set (i := 0) sc__law_odd_attributes.nd rfl (by first | exact .inl rfl | exact .inr rfl) (pe_op (kplus K) (vr 0) (pe_lit (by rfl))))
      (pss_cons (ps_set (i := 0) sc__law_odd_attributes.nd rfl (by first | exact .inl rfl | exact .inr rfl) (pe_op (kplus K) (vr 0) (pe_lit (by rfl))))
      (pss_cons (ps_set (i := 0) sc__law_odd_attributes.nd rfl (by first | exact .inl rfl | exact .inr rfl) (pe_op (kplus K) (vr 0) (pe_lit (by rfl))))
      (pss_cons (ps_set (i := 0) sc__law_odd_attributes.nd rfl (by first | exact .inl rfl | exact .inr rfl) (pe_op (kplus K) (vr 0) (pe_lit (by rfl))))
      (pss_one (ps_ret (vr 0)))))))))))))), ?_⟩)
  obtain ⟨rfl, q⟩ := h
  rw [st__law_odd_attributes]
  refine fun v1 H1 s0 r1 => ?_
  obtain ⟨l0, g0⟩ := oddL_new (p := oddAB) s0 r1 (by decide +kernel) (by decide)
  refine ⟨l0, fun L nL => ?_⟩
  obtain ⟨s1, odd⟩ := g0 L nL
  clear r1 g0 l0 s0
  revert s1 odd
  generalize upd H1 L _ = G1
  intro s1 odd
  simp only [gName, List.set_cons_succ, List.set_cons_zero]
  refine fun v2 H2 t2 r2 => ?_
  obtain ⟨b2, rfl, _, u2⟩ := oddL_lit (p := oddAB) r2 (by decide +kernel)
  obtain ⟨xs2, ys2, e2, f2, l2, g2⟩ := oddL_cat s1 odd t2 u2 (by decide)
  refine .inl ⟨_, _, _, _, rfl, rfl, e2, f2, l2, fun q2 n2 => ?_⟩
  clear odd s1 u2 r2 t2
  obtain ⟨s1, odd⟩ := g2 q2 n2
  clear g2 e2 f2 l2
  revert s1 odd
  generalize upd H2 q2 _ = G2
  intro s1 odd
  simp only [gName, List.set_cons_succ, List.set_cons_zero]
  refine fun v3 H3 t3 r3 => ?_
  obtain ⟨b3, rfl, _, u3⟩ := oddL_lit (p := oddAB) r3 (by decide +kernel)
  obtain ⟨xs3, ys3, e3, f3, l3, g3⟩ := oddL_cat s1 odd t3 u3 (by decide)
  refine .inl ⟨_, _, _, _, rfl, rfl, e3, f3, l3, fun q3 n3 => ?_⟩
  clear odd s1 u3 r3 t3
  obtain ⟨s1, odd⟩ := g3 q3 n3
  clear g3 e3 f3 l3
  revert s1 odd
  generalize upd H3 q3 _ = G3
  intro s1 odd
  simp only [gName, List.set_cons_succ, List.set_cons_zero]
  refine fun v4 H4 t4 r4 => ?_
  obtain ⟨b4, rfl, _, u4⟩ := oddL_lit (p := oddAB) r4 (by decide +kernel)
  obtain ⟨xs4, ys4, e4, f4, l4, g4⟩ := oddL_cat s1 odd t4 u4 (by decide)
  refine .inl ⟨_, _, _, _, rfl, rfl, e4, f4, l4, fun q4 n4 => ?_⟩
  clear odd s1 u4 r4 t4
  obtain ⟨s1, odd⟩ := g4 q4 n4
  clear g4 e4 f4 l4
  revert s1 odd
  generalize upd H4 q4 _ = G4
  intro s1 odd
  simp only [gName, List.set_cons_succ, List.set_cons_zero]
  refine fun v5 H5 t5 r5 => ?_
  obtain ⟨b5, rfl, _, u5⟩ := oddL_lit (p := oddAB) r5 (by decide +kernel)
  obtain ⟨xs5, ys5, e5, f5, l5, g5⟩ := oddL_cat s1 odd t5 u5 (by decide)
  refine .inl ⟨_, _, _, _, rfl, rfl, e5, f5, l5, fun q5 n5 => ?_⟩
  clear odd s1 u5 r5 t5
  obtain ⟨s1, odd⟩ := g5 q5 n5
  clear g5 e5 f5 l5
  revert s1 odd
  generalize upd H5 q5 _ = G5
  intro s1 odd
  simp only [gName, List.set_cons_succ, List.set_cons_zero]
  refine fun v6 H6 t6 r6 => ?_
  obtain ⟨b6, rfl, _, u6⟩ := oddL_lit (p := oddAB) r6 (by decide +kernel)
  obtain ⟨xs6, ys6, e6, f6, l6, g6⟩ := oddL_cat s1 odd t6 u6 (by decide)
  refine .inl ⟨_, _, _, _, rfl, rfl, e6, f6, l6, fun q6 n6 => ?_⟩
  clear odd s1 u6 r6 t6
  obtain ⟨s1, odd⟩ := g6 q6 n6
  clear g6 e6 f6 l6
  revert s1 odd
  generalize upd H6 q6 _ = G6
  intro s1 odd
  simp only [gName, List.set_cons_succ, List.set_cons_zero]
  refine fun v7 H7 t7 r7 => ?_
  obtain ⟨b7, rfl, _, u7⟩ := oddL_lit (p := oddAB) r7 (by decide +kernel)
  obtain ⟨xs7, ys7, e7, f7, l7, g7⟩ := oddL_cat s1 odd t7 u7 (by decide)
  refine .inl ⟨_, _, _, _, rfl, rfl, e7, f7, l7, fun q7 n7 => ?_⟩
  clear odd s1 u7 r7 t7
  obtain ⟨s1, odd⟩ := g7 q7 n7
  clear g7 e7 f7 l7
  revert s1 odd
  generalize upd H7 q7 _ = G7
  intro s1 odd
  simp only [gName, List.set_cons_succ, List.set_cons_zero]
  refine fun v8 H8 t8 r8 => ?_
  obtain ⟨b8, rfl, _, u8⟩ := oddL_lit (p := oddAB) r8 (by decide +kernel)
  obtain ⟨xs8, ys8, e8, f8, l8, g8⟩ := oddL_cat s1 odd t8 u8 (by decide)
  refine .inl ⟨_, _, _, _, rfl, rfl, e8, f8, l8, fun q8 n8 => ?_⟩
  clear odd s1 u8 r8 t8
  obtain ⟨s1, odd⟩ := g8 q8 n8
  clear g8 e8 f8 l8
  revert s1 odd
  generalize upd H8 q8 _ = G8
  intro s1 odd
  simp only [gName, List.set_cons_succ, List.set_cons_zero]
  refine fun v9 H9 t9 r9 => ?_
  obtain ⟨b9, rfl, _, u9⟩ := oddL_lit (p := oddAB) r9 (by decide +kernel)
  obtain ⟨xs9, ys9, e9, f9, l9, g9⟩ := oddL_cat s1 odd t9 u9 (by decide)
  refine .inl ⟨_, _, _, _, rfl, rfl, e9, f9, l9, fun q9 n9 => ?_⟩
  clear odd s1 u9 r9 t9
  obtain ⟨s1, odd⟩ := g9 q9 n9
  clear g9 e9 f9 l9
  revert s1 odd
  generalize upd H9 q9 _ = G9
  intro s1 odd
  simp only [gName, List.set_cons_succ, List.set_cons_zero]
  refine fun v10 H10 t10 r10 => ?_
  obtain ⟨b10, rfl, _, u10⟩ := oddL_lit (p := oddAB) r10 (by decide +kernel)
  obtain ⟨xs10, ys10, e10, f10, l10, g10⟩ := oddL_cat s1 odd t10 u10 (by decide)
  refine .inl ⟨_, _, _, _, rfl, rfl, e10, f10, l10, fun q10 n10 => ?_⟩
  clear odd s1 u10 r10 t10
  obtain ⟨s1, odd⟩ := g10 q10 n10
  clear g10 e10 f10 l10
  revert s1 odd
  generalize upd H10 q10 _ = G10
  intro s1 odd
  simp only [gName, List.set_cons_succ, List.set_cons_zero]
  refine fun v11 H11 t11 r11 => ?_
  obtain ⟨b11, rfl, _, u11⟩ := oddL_lit (p := oddAB) r11 (by decide +kernel)
  obtain ⟨xs11, ys11, e11, f11, l11, g11⟩ := oddL_cat s1 odd t11 u11 (by decide)
  refine .inl ⟨_, _, _, _, rfl, rfl, e11, f11, l11, fun q11 n11 => ?_⟩
  clear odd s1 u11 r11 t11
  obtain ⟨s1, odd⟩ := g11 q11 n11
  clear g11 e11 f11 l11
  revert s1 odd
  generalize upd H11 q11 _ = G11
  intro s1 odd
  simp only [gName, List.set_cons_succ, List.set_cons_zero]
  exact q _ _ s1 (odd.le (by decide))
theorem ok_oddn (T : Top K mg) (k : Nat) : Ok__law_odd_nodes P w base T (k + 2) (spOdds 100 oddB) := by
  have G__law_odd_attributes : Ok__law_odd_attributes P w base T 1 (spOdds 50 oddAB) := ok_odda T 0
  refine T.F__law_odd_nodes.ok sc__law_odd_nodes (fun vs H Q E h => by obtain ⟨rfl, _⟩ := h; rfl) (fun cdv A outer s H vs Q E hr h => ⟨_, PSs.nox (pss_cons (ps_set (i := 0) sc__law_odd_nodes.nd rfl (by first | exact .inl rfl | exact .inr rfl) (pe_lst (pa_lits (by rfl))))
      (pss_cons (ps_set (i := 0) sc__law_odd_nodes.nd rfl (by first | exact .inl rfl | exact .inr rfl) (pe_op (kplus K) (vr 0) (pe_lit (by rfl))))
      (pss_cons (ps_set (i := 0) sc__law_odd_nodes.nd rfl (by first | exact .inl rfl | exact .inr rfl) (pe_op (kplus K) (vr 0) (pe_lit (by rfl))))
      (pss_cons (ps_set (i := 0) sc__law_odd_nodes.nd rfl (by first | exact .inl rfl | exact .inr rfl) (pe_op (kplus K) (vr 0) (pe_lit (by rfl))))
      (pss_cons (ps_set (i := 0) sc__law_odd_nodes.nd rfl (by first | exact .inl rfl | exact .inr rfl) (pe_op (kplus K) (vr 0) (pe_lit (by rfl))))
      (pss_cons (ps_set (i := 0) sc__law_odd_nodes.nd rfl (by first | exact .inl rfl | exact .inr rfl) (pe_op (kplus K) (vr 0) (pe_lit (by rfl))))
      (pss_cons (ps_set (i := 0) sc__law_odd_nodes.nd rfl (by first | exact .inl rfl | exact .inr rfl) (pe_op (kplus K) (vr 0) (pe_lit (by rfl))))
      (pss_cons (ps_set (i := 0) sc__law_odd_nodes.nd rfl (by first | exact .inl rfl | exact .inr rfl) (pe_op (kplus K) (vr 0) (pe_lit (by rfl))))
      (pss_cons (ps_set (i := 0) sc__law_odd_nodes.nd rfl (by first | exact .inl rfl | exact .inr rfl) (pe_op (kplus K) (vr 0) (pe_lst (pa_cons (pe_lit (by rfl)) (pa_cons (pe_lit (by rfl)) (pa_cons (pe_lit (by rfl)) (pa_cons (pe_lit (by rfl)) (pa_cons (pe_tup (pa_cons pe_str (pa_cons (pe_disp (pps_cons pe_int pe_int pps_nil) (by rfl) (by rfl) (fun z => by cases z) (by decide)) pa_nil))) pa_nil))))))))
      (pss_cons (ps_set (i := 0) sc__law_odd_nodes.nd rfl (by first | exact .inl rfl | exact .inr rfl) (pe_op (kplus K) (vr 0) (pe_lit (by rfl))))
      (pss_cons (ps_set (i := 0) sc__law_odd_nodes.nd rfl (by first | exact .inl rfl | exact .inr rfl) (pe_op (kplus K) (vr 0) (pe_lit (by rfl))))
      (pss_cons (ps_set (i := 0) sc__law_odd_nodes.nd rfl (by first | exact .inl rfl | exact .inr rfl) (pe_op (kplus K) (vr 0) (pe_lit (by rfl))))
      (pss_one (ps_ret (pe_op (kplus K) (vr 0) (pe_lc (own := [("_law_row", 1)])  rfl sc__law_odd_nodes.nd (ilist K (pe_call0 G__law_odd_attributes (hr.mono (by omega)) (by rfl) T.g__law_odd_attributes T.F__law_odd_attributes.kp (b__law_odd_attributes T) .nil pass0)) (blkOk_by (own := [("_law_row", 1)]) (N := ["_law_some", "_law_row"]) (sc := defScope s__law_odd_nodes) (by decide +kernel)) (fun _ _ _ _ _ => (pg_name (i := 1) sc__law_odd_nodes.nd rfl (by first | exact .inl rfl | exact .inr rfl))) (fun _ _ _ _ _ => pts_nil) (fun _ _ _ _ _ => up (pe_tup (pa_cons pe_str (pa_cons pe_str (pa_cons (pe_tup (pa_cons (vr 1) pa_nil)) (pa_cons (pe_lit (by rfl)) pa_nil)))))))))))))))))))))), ?_⟩)
  obtain ⟨rfl, q⟩ := h
  rw [st__law_odd_nodes]
  refine fun v1 H1 s0 r1 => ?_
  obtain ⟨l0, g0⟩ := oddL_new (p := oddB) s0 r1 (by decide +kernel) (by decide)
  refine ⟨l0, fun L nL => ?_⟩
  obtain ⟨s1, odd⟩ := g0 L nL
  clear r1 g0 l0 s0
  revert s1 odd
  generalize upd H1 L _ = G1
  intro s1 odd
  simp only [gName, List.set_cons_succ, List.set_cons_zero]
  refine fun v2 H2 t2 r2 => ?_
  obtain ⟨b2, rfl, _, u2⟩ := oddL_lit (p := oddB) r2 (by decide +kernel)
  obtain ⟨xs2, ys2, e2, f2, l2, g2⟩ := oddL_cat s1 odd t2 u2 (by decide)
  refine .inl ⟨_, _, _, _, rfl, rfl, e2, f2, l2, fun q2 n2 => ?_⟩
  clear odd s1 u2 r2 t2
  obtain ⟨s1, odd⟩ := g2 q2 n2
  clear g2 e2 f2 l2
  revert s1 odd
  generalize upd H2 q2 _ = G2
  intro s1 odd
  simp only [gName, List.set_cons_succ, List.set_cons_zero]
  refine fun v3 H3 t3 r3 => ?_
  obtain ⟨b3, rfl, _, u3⟩ := oddL_lit (p := oddB) r3 (by decide +kernel)
  obtain ⟨xs3, ys3, e3, f3, l3, g3⟩ := oddL_cat s1 odd t3 u3 (by decide)
  refine .inl ⟨_, _, _, _, rfl, rfl, e3, f3, l3, fun q3 n3 => ?_⟩
  clear odd s1 u3 r3 t3
  obtain ⟨s1, odd⟩ := g3 q3 n3
  clear g3 e3 f3 l3
  revert s1 odd
  generalize upd H3 q3 _ = G3
  intro s1 odd
  simp only [gName, List.set_cons_succ, List.set_cons_zero]
  refine fun v4 H4 t4 r4 => ?_
  obtain ⟨b4, rfl, _, u4⟩ := oddL_lit (p := oddB) r4 (by decide +kernel)
  obtain ⟨xs4, ys4, e4, f4, l4, g4⟩ := oddL_cat s1 odd t4 u4 (by decide)
  refine .inl ⟨_, _, _, _, rfl, rfl, e4, f4, l4, fun q4 n4 => ?_⟩
  clear odd s1 u4 r4 t4
  obtain ⟨s1, odd⟩ := g4 q4 n4
  clear g4 e4 f4 l4
  revert s1 odd
  generalize upd H4 q4 _ = G4
  intro s1 odd
  simp only [gName, List.set_cons_succ, List.set_cons_zero]
  refine fun v5 H5 t5 r5 => ?_
  obtain ⟨b5, rfl, _, u5⟩ := oddL_lit (p := oddB) r5 (by decide +kernel)
  obtain ⟨xs5, ys5, e5, f5, l5, g5⟩ := oddL_cat s1 odd t5 u5 (by decide)
  refine .inl ⟨_, _, _, _, rfl, rfl, e5, f5, l5, fun q5 n5 => ?_⟩
  clear odd s1 u5 r5 t5
  obtain ⟨s1, odd⟩ := g5 q5 n5
  clear g5 e5 f5 l5
  revert s1 odd
  generalize upd H5 q5 _ = G5
  intro s1 odd
  simp only [gName, List.set_cons_succ, List.set_cons_zero]
  refine fun v6 H6 t6 r6 => ?_
  obtain ⟨b6, rfl, _, u6⟩ := oddL_lit (p := oddB) r6 (by decide +kernel)
  obtain ⟨xs6, ys6, e6, f6, l6, g6⟩ := oddL_cat s1 odd t6 u6 (by decide)
  refine .inl ⟨_, _, _, _, rfl, rfl, e6, f6, l6, fun q6 n6 => ?_⟩
  clear odd s1 u6 r6 t6
  obtain ⟨s1, odd⟩ := g6 q6 n6
  clear g6 e6 f6 l6
  revert s1 odd
  generalize upd H6 q6 _ = G6
  intro s1 odd
  simp only [gName, List.set_cons_succ, List.set_cons_zero]
  refine fun v7 H7 t7 r7 => ?_
  obtain ⟨b7, rfl, _, u7⟩ := oddL_lit (p := oddB) r7 (by decide +kernel)
  obtain ⟨xs7, ys7, e7, f7, l7, g7⟩ := oddL_cat s1 odd t7 u7 (by decide)
  refine .inl ⟨_, _, _, _, rfl, rfl, e7, f7, l7, fun q7 n7 => ?_⟩
  clear odd s1 u7 r7 t7
  obtain ⟨s1, odd⟩ := g7 q7 n7
  clear g7 e7 f7 l7
  revert s1 odd
  generalize upd H7 q7 _ = G7
  intro s1 odd
  simp only [gName, List.set_cons_succ, List.set_cons_zero]
  refine fun v8 H8 t8 r8 => ?_
  obtain ⟨b8, rfl, _, u8⟩ := oddL_lit (p := oddB) r8 (by decide +kernel)
  obtain ⟨xs8, ys8, e8, f8, l8, g8⟩ := oddL_cat s1 odd t8 u8 (by decide)
  refine .inl ⟨_, _, _, _, rfl, rfl, e8, f8, l8, fun q8 n8 => ?_⟩
  clear odd s1 u8 r8 t8
  obtain ⟨s1, odd⟩ := g8 q8 n8
  clear g8 e8 f8 l8
  revert s1 odd
  generalize upd H8 q8 _ = G8
  intro s1 odd
  simp only [gName, List.set_cons_succ, List.set_cons_zero]
  refine fun v9_0 H9_0 t9_0 r9_0 => ?_
  refine fun v9_1 H9_1 t9_1 r9_1 => ?_
  refine fun v9_2 H9_2 t9_2 r9_2 => ?_
  refine fun v9_3 H9_3 t9_3 r9_3 => ?_
  refine fun d nd => ⟨upd_same, [(.inl 1, .int 2)], rfl, by decide, ?_⟩
  have hd : upd (upd H9_3 d (.dK [])) d (.dK (mergeK [] [(.inl 1, .int 2)])) d = some (.dK [(.inl 1, .int 2)]) := upd_same
  have sd : Same H9_3 (upd (upd H9_3 d (.dK [])) d (.dK (mergeK [] [(.inl 1, .int 2)]))) := fun b o hb => by rw [upd_ne (ne_of_none hb nd), upd_ne (ne_of_none hb nd)]; exact hb
  revert hd sd
  generalize upd (upd H9_3 d (.dK [])) d _ = Hd
  intro hd sd
  refine ⟨Nat.le_of_ble_eq_true rfl, fun t nt => ?_⟩
  generalize gt : upd _ t _ = Ht
  obtain ⟨st, ht, _⟩ := lay_of gt nt
  refine ⟨Nat.le_of_ble_eq_true rfl, fun b nb => ?_⟩
  generalize gb : upd _ b _ = Hb
  obtain ⟨sb, hb, _⟩ := lay_of gb nb
  have al : Same G8 Hb := ((((((t9_0.trans t9_1).trans t9_2).trans t9_3).trans sd).trans st).trans sb)
  have nd0 : G8 d = none := (((t9_0.trans t9_1).trans t9_2).trans t9_3).free nd
  have nt0 : G8 t = none := ((((t9_0.trans t9_1).trans t9_2).trans t9_3).trans sd).free nt
  have nb0 : G8 b = none := (((((t9_0.trans t9_1).trans t9_2).trans t9_3).trans sd).trans st).free nb
  have u9 : OddL oddB (newP G8 Hb) b 5 := ⟨_, _, by rw [newP_at nb0]; exact hb, (.cons (r9_0.dl.same ((newP_less' (Same.refl G8)).trans (newP_same (((((t9_1.trans t9_2).trans t9_3).trans sd).trans st).trans sb)))) (.cons (r9_1.dl.same ((newP_less' t9_0).trans (newP_same ((((t9_2.trans t9_3).trans sd).trans st).trans sb)))) (.cons (r9_2.dl.same ((newP_less' (t9_0.trans t9_1)).trans (newP_same (((t9_3.trans sd).trans st).trans sb)))) (.cons (r9_3.dl.same ((newP_less' ((t9_0.trans t9_1).trans t9_2)).trans (newP_same ((sd.trans st).trans sb)))) (.cons (DL.tup (by rw [newP_at nt0]; exact sb _ _ ht) (.cons (.str _) (.cons (DL.dic (ds := [(.int 1, .int 2)]) (by rw [newP_at nd0]; exact (st.trans sb) _ _ hd) (.cons (.int 1) .nil) (.cons (.int 2) .nil)) .nil))) .nil))))), by decide +kernel, Nat.le_refl _, Nat.le_of_ble_eq_true rfl⟩
  obtain ⟨xs9, ys9, e9, f9, l9, g9⟩ := oddL_cat s1 odd al u9 (by decide)
  refine .inl ⟨_, _, _, _, rfl, rfl, e9, f9, l9, fun q9 n9 => ?_⟩
  clear odd s1 u9 gb gt
  obtain ⟨s1, odd⟩ := g9 q9 n9
  clear g9 e9 f9 l9
  revert s1 odd
  generalize upd Hb q9 _ = G9
  intro s1 odd
  simp only [gName, List.set_cons_succ, List.set_cons_zero]
  refine fun v10 H10 t10 r10 => ?_
  obtain ⟨b10, rfl, _, u10⟩ := oddL_lit (p := oddB) r10 (by decide +kernel)
  obtain ⟨xs10, ys10, e10, f10, l10, g10⟩ := oddL_cat s1 odd t10 u10 (by decide)
  refine .inl ⟨_, _, _, _, rfl, rfl, e10, f10, l10, fun q10 n10 => ?_⟩
  clear odd s1 u10 r10 t10
  obtain ⟨s1, odd⟩ := g10 q10 n10
  clear g10 e10 f10 l10
  revert s1 odd
  generalize upd H10 q10 _ = G10
  intro s1 odd
  simp only [gName, List.set_cons_succ, List.set_cons_zero]
  refine fun v11 H11 t11 r11 => ?_
  obtain ⟨b11, rfl, _, u11⟩ := oddL_lit (p := oddB) r11 (by decide +kernel)
  obtain ⟨xs11, ys11, e11, f11, l11, g11⟩ := oddL_cat s1 odd t11 u11 (by decide)
  refine .inl ⟨_, _, _, _, rfl, rfl, e11, f11, l11, fun q11 n11 => ?_⟩
  clear odd s1 u11 r11 t11
  obtain ⟨s1, odd⟩ := g11 q11 n11
  clear g11 e11 f11 l11
  revert s1 odd
  generalize upd H11 q11 _ = G11
  intro s1 odd
  simp only [gName, List.set_cons_succ, List.set_cons_zero]
  refine fun v12 H12 t12 r12 => ?_
  obtain ⟨b12, rfl, _, u12⟩ := oddL_lit (p := oddB) r12 (by decide +kernel)
  obtain ⟨xs12, ys12, e12, f12, l12, g12⟩ := oddL_cat s1 odd t12 u12 (by decide)
  refine .inl ⟨_, _, _, _, rfl, rfl, e12, f12, l12, fun q12 n12 => ?_⟩
  clear odd s1 u12 r12 t12
  obtain ⟨s1, odd⟩ := g12 q12 n12
  clear g12 e12 f12 l12
  revert s1 odd
  generalize upd H12 q12 _ = G12
  intro s1 odd
  simp only [gName, List.set_cons_succ, List.set_cons_zero]
  clear hb sb st ht hd sd nd nt nb al nd0 nt0 nb0
  have odd := OddL.le (n := 50) odd (by decide)
  refine ⟨rfl, fun La HA sA oA => ?_⟩
  obtain ⟨xa, da, ha1, ha2, ha3, ha4, _⟩ := oA
  have hA := (newP_some ha1).2
  refine ⟨La, rfl, ⟨_, sqL_of hA⟩, fun D nD => ?_⟩
  have nD0 : G12 D = none := sA.free nD
  refine lcI (K := K) (a := La) (xs := xa) (fun i ys H' => (∀ b o, b ≠ D → HA b = some o → H' b = some o) ∧ ∃ es : List PyData, DLs (hide D (newP G12 H')) ys es ∧ es.all oddB = true) ?_ (by omega) (fun i ys H' iv e => ?_) (fun _ => rfl) (fun i x H' ys hx iv e => ?_) (fun H' ys iv lys e => ?_)
  · exact ⟨fun b o ne hb => by rw [upd_ne ne]; exact hb, [], .nil, rfl⟩
  · exact sqL_of (iv.1 _ _ (fun z => by rw [z, nD] at hA; cases hA) hA)
  · obtain ⟨keep, es, he, ho⟩ := iv
    obtain ⟨d, e1, hd⟩ := ha2.at i x hx
    have od := List.all_eq_true.mp ha3 d (List.mem_of_getElem? e1)
    refine ⟨Nat.le_of_ble_eq_true rfl, fun t1 n1 => ?_⟩
    generalize g1 : upd _ t1 _ = B1
    obtain ⟨b1, h1, m1⟩ := lay_of g1 n1
    clear g1
    refine fun t2 B2 b2 r2 => ?_
    refine ⟨Nat.le_of_ble_eq_true rfl, fun t3 n3 => ?_⟩
    generalize g3 : upd _ t3 _ = B3
    obtain ⟨b3, h3, m3⟩ := lay_of g3 n3
    clear g3
    have bd : Same H' B3 := (b1.trans b2).trans b3
    have keepG : ∀ b o, G12 b = some o → H' b = some o := fun b o hb => keep b o (fun z => by rw [z, nD0] at hb; cases hb) (sA b o hb)
    have into : ∀ {b : Addr} {o : HO}, H' b = none → B3 b = some o → hide D (newP G12 (upd B3 D (.lst (ys ++ [.ref t3])))) b = some o := fun {b o} hn hb => by
      have ne : b ≠ D := fun z => by rw [z, e] at hn; cases hn
      have gn : G12 b = none := by
        cases q : G12 b with
        | none => rfl
        | some u => rw [keepG b u q] at hn; cases hn
      rw [hide_ne ne, newP_at gn, upd_ne ne]
      exact hb
    have n3' : H' t3 = none := (b1.trans b2).free n3
    refine ⟨bd _ _ e, fun b o ne hb => by rw [upd_ne ne]; exact bd _ _ (keep b o ne hb), es ++ [withAtt d], ?_, ?_⟩
    · refine (he.same ((hide_same (newP_same bd)).trans newP_upd)).app (.cons ?_ .nil)
      refine .tup (into n3' h3) (.cons (.str _) (.cons (.str _) (.cons (.tup (into m1 ((b2.trans b3) _ _ h1)) (.cons ?_ .nil)) (.cons ?_ .nil))))
      · refine hd.same fun b o hb => ?_
        obtain ⟨hb1, hb2⟩ := newP_some hb
        have ne : b ≠ D := fun z => by rw [z, nD] at hb2; cases hb2
        rw [hide_ne ne, newP_at hb1, upd_ne ne]
        exact bd _ _ (keep b o ne hb2)
      · refine r2.dl.same fun b o hb => ?_
        obtain ⟨hb1, hb2⟩ := newP_some hb
        exact into (b1.free hb1) (b3 _ _ hb2)
    · rw [List.all_append, ho]
      show (true && (oddAB d && true)) = true
      rw [od]
      rfl
  · obtain ⟨keep, es, he, ho⟩ := iv
    obtain ⟨xs0, ds0, o1, o2, o3, o4, o5⟩ := odd
    have keepG : Same G12 H' := fun b o hb => keep b o (fun z => by rw [z, nD0] at hb; cases hb) (sA b o hb)
    have hq := (newP_some o1).2
    refine .inl ⟨_, _, _, _, rfl, rfl, keepG _ _ hq, e, size_le (by omega), fun q' n' => ?_⟩
    refine q _ _ (s1.trans (keepG.trans (same_new n'))) ⟨_, ds0 ++ es, by rw [newP_at ((s1.trans keepG).free n'), upd_same], ?_, by rw [List.all_append, o3, ho]; rfl, by rw [List.length_append]; omega, by rw [List.length_append]; omega⟩
    exact (o2.same (newP_same (keepG.trans (same_new n')))).app ((he.same hide_sub).same ((newP_less' s1).trans (newP_same (same_new n'))))
end
end Sk
/-! Sk: slices and sums of tuples; trees bent -/
namespace Sk
open PySem PySem.Spec PyProof.Rows L2
theorem cut_all {xs : List V} {lo hi : Option Int} (h : HT.sIx xs.length 0 lo = 0 ∧ HT.sIx xs.length xs.length hi = xs.length) : cutV xs lo hi = xs := by
  unfold cutV
  rw [h.1, h.2, List.drop_zero, Nat.sub_zero, List.take_length]
theorem slT {K : Fg} {H : Hp} {a : Addr} {xs : List V} {lo hi : Option Int} {Q : VK} (h : H a = some (.tup xs)) (q : ∀ p H', Same H H' → H' p = some (.tup (cutV xs lo hi)) → Q (.ref p) H') : rCut K (.ref a) lo hi H Q :=
  .inr ⟨a, xs, rfl, sqT_of h, fun hw => q a H (Same.refl H) (by rw [cut_all hw]; exact h), fun _ p np => q p _ (same_new np) upd_same⟩
theorem catT {K : Fg} {H : Hp} {a b : Addr} {xs ys : List V} {Q : VK} (h : H a = some (.tup xs)) (k : H b = some (.tup ys)) (hl : xs.length + ys.length ≤ 100000) (q : ∀ p H', Same H H' → H' p = some (.tup (xs ++ ys)) → Q (.ref p) H') : rPlus K (.ref a) (.ref b) H Q := by
  refine .inr ⟨a, b, xs, ys, rfl, rfl, sqT_of h, sqT_of k, size_le hl, fun e => ?_, fun _ e => ?_, fun _ _ p np => q p _ (same_new np) upd_same⟩
  · subst e
    exact q b H (Same.refl H) k
  · subst e
    exact q a H (Same.refl H) (by rw [List.append_nil]; exact h)
theorem sIx_at {n dflt : Nat} {i : Int} (h0 : 0 ≤ i) (h1 : i ≤ n) : HT.sIx n dflt (some i) = i.toNat := by
  show (if i < 0 then (i + (n : Int)).toNat else min i.toNat n) = i.toNat
  rw [if_neg (by omega)]
  omega
theorem cut_to {xs : List V} {i : Int} (h0 : 0 ≤ i) (h1 : i ≤ xs.length) : cutV xs none (some i) = xs.take i.toNat := by
  unfold cutV
  rw [sIx_at h0 h1]
  show (xs.drop 0).take (i.toNat - 0) = _
  rw [List.drop_zero, Nat.sub_zero]
theorem cut_fr {xs : List V} {i : Int} (h0 : 0 ≤ i) (h1 : i ≤ xs.length) : cutV xs (some i) none = xs.drop i.toNat := by
  unfold cutV
  rw [sIx_at h0 h1]
  show (xs.drop i.toNat).take (xs.length - i.toNat) = _
  refine List.take_of_length_le ?_
  rw [List.length_drop]
  exact Nat.le_refl _
theorem DLs.take {H : Hp} : ∀ {vs : List V} {ds : List PyData}, DLs H vs ds → ∀ i, DLs H (vs.take i) (ds.take i)
  | _, _, .nil, i => by rw [List.take_nil, List.take_nil]; exact .nil
  | _, _, .cons h t, 0 => .nil
  | _, _, .cons h t, i + 1 => .cons h (t.take i)
theorem DLs.drop {H : Hp} : ∀ {vs : List V} {ds : List PyData}, DLs H vs ds → ∀ i, DLs H (vs.drop i) (ds.drop i)
  | _, _, .nil, i => by rw [List.drop_nil, List.drop_nil]; exact .nil
  | _, _, .cons h t, 0 => .cons h t
  | _, _, .cons h t, i + 1 => t.drop i
theorem Pool.tup {H : Hp} {a p : Addr} {xs : List V} (pl : Pool H a) (h : H p = some (.tup xs)) : p ≠ a := fun z => by
  obtain ⟨s, d, n, h1, _⟩ := pl
  rw [z, h1] at h
  cases h
theorem tupD {H : Hp} {a p : Addr} {xs : List V} {ds : List PyData} (pl : Pool H a) (h : H p = some (.tup xs)) (k : DLs (hide a H) xs ds) : DL (hide a H) (.ref p) (.tuple ds) := .tup ((hide_ne (pl.tup h)).trans h) k
theorem keep_hide {a : Addr} {H H' : Hp} (k : Keep a H H') : Same (hide a H) (hide a H') := fun b o e => by
  obtain ⟨e1, e2⟩ := hide_some e
  rw [hide_ne e1]
  exact k b o e1 e2
theorem Sz.app {xs ys : List PyData} (hx : ∀ d ∈ xs, Sz d) (hy : ∀ d ∈ ys, Sz d) (hl : xs.length + ys.length ≤ 1000) : Sz (.tuple (xs ++ ys)) := .tup (by rw [List.length_append]; omega) fun d hd => by
  rcases List.mem_append.mp hd with h | h
  · exact hx d h
  · exact hy d h
/-- a tree that is to be bent, its data -/
structure Bnt (H : Hp) (a : Addr) (v : V) (m : Nat) (d : PyData) : Prop where
  nodes : ∃ p vs ns, v = .ref p ∧ H p = some (.tup vs) ∧ NdsV H vs ns ∧ ns.length ≤ 4 ∧ levs ns ≤ m
  dl : DL (hide a H) v d
  sz : Sz d
  sh : ShD d 1100000 11
def fB : Nat → Nat
  | 0 => 1101000
  | m + 1 => fB m + 2200100
/-- no tree, and shown within bounds -/
structure BntO (H : Hp) (a : Addr) (v : V) (m : Nat) (d : PyData) : Prop where
  dl : DL (hide a H) v d
  sz : Sz d
  no : ∀ n, nodesD n d = false
  sh : ShD d (fB m) (12 + 2 * m)
theorem fB_ge : ∀ m, 1101000 ≤ fB m
  | 0 => Nat.le_refl _
  | m + 1 => Nat.le_trans (fB_ge m) (Nat.le_add_right _ _)
/-- one thing put in -/
theorem bent_in {ds : List PyData} {od : PyData} {i m : Nat} (l4 : ds.length ≤ 4) (sz : ∀ d ∈ ds, Sz d) (sh : ShL ds 1100000 10) (od' : OddD od) : Sz (.tuple (ds.take i ++ [od] ++ ds.drop i)) ∧ (∀ n, nodesD n (.tuple (ds.take i ++ [od] ++ ds.drop i)) = false) ∧ ShD (.tuple (ds.take i ++ [od] ++ ds.drop i)) (fB m) (12 + 2 * m) := by
  obtain ⟨o1, o2, o3⟩ := od'
  refine ⟨?_, fun n => nodes_bad (nodeW_ok o2 n), ?_⟩
  · refine Sz.app (fun d hd => ?_) (fun d hd => sz d (List.mem_of_mem_drop hd)) ?_
    · rcases List.mem_append.mp hd with h | h
      · exact sz d (List.mem_of_mem_take h)
      · rw [List.mem_singleton.mp h]
        exact o1
    · rw [List.length_append, List.length_take, List.length_drop, List.length_singleton]
      omega
  · have a1 : ShL (ds.take i ++ [od] ++ ds.drop i) 1100302 10 := by
      have e : ds.take i ++ [od] ++ ds.drop i = ds.take i ++ (od :: ds.drop i) := by simp
      -- both halves together are the whole
      have key : ∀ (xs ys : List PyData) (w : Nat), ShL (xs ++ ys) w 10 → ShL (xs ++ (od :: ys)) (w + 302) 10 := by
        intro xs
        induction xs with
        | nil => intro ys w h; exact (ShL.cons o3 h).mono (by omega) (Nat.le_refl _)
        | cons x xs ih =>
          intro ys w h
          obtain ⟨_, _, a, b, ha, hb, e⟩ := ShL.uncons (show ShL (x :: (xs ++ ys)) w 10 from h)
          exact (ShL.cons ha (ih ys b hb)).mono (by omega) (Nat.le_refl _)
      rw [e]
      exact key _ _ _ (by rw [List.take_append_drop]; exact sh)
    have := fB_ge m
    exact (ShD.tuple a1).mono (by omega) (by omega)
/-- an element whose nodes are bent -/
theorem bent_at {ds : List PyData} {x y z u : PyData} {i m : Nat} (l4 : ds.length ≤ 4) (sz : ∀ d ∈ ds, Sz d) (sh : ShL ds 1100000 10) (hi : ds[i]? = some (.tuple [x, y, z, u])) (ex : isS "element" x = true) {u' : PyData} (su : Sz u') (no : ∀ n, nodesD n u' = false) (shu : ShD u' (fB m) (12 + 2 * m)) :
    Sz (.tuple (ds.take i ++ [.tuple [x, y, z, u']] ++ ds.drop (i + 1))) ∧ (∀ n, nodesD n (.tuple (ds.take i ++ [.tuple [x, y, z, u']] ++ ds.drop (i + 1))) = false) ∧ ShD (.tuple (ds.take i ++ [.tuple [x, y, z, u']] ++ ds.drop (i + 1))) (fB (m + 1)) (12 + 2 * (m + 1)) := by
  have mem := List.mem_of_getElem? hi
  have sN := sz _ mem
  have zE := sN.tupE
  have shN := sh.mem mem
  have shE : ShL [x, y, z, u] 1100000 9 := ShL.inv shN
  have szN : Sz (.tuple [x, y, z, u']) := .tup (by simp) fun d hd => by
    rcases List.mem_cons.mp hd with rfl | hd
    · exact zE _ (by simp)
    · rcases List.mem_cons.mp hd with rfl | hd
      · exact zE _ (by simp)
      · rcases List.mem_cons.mp hd with rfl | hd
        · exact zE _ (by simp)
        · rw [List.mem_singleton.mp hd]
          exact su
  have noN : ∀ n, nodeD n (.tuple [x, y, z, u']) = false := fun n => by
    cases n with
    | zero => exact nodeD_elem0 ex
    | succ n =>
      rw [nodeD_elem n ex]
      show (nameD y && (!isS "data" y && (attsD z && nodesD n u'))) = false
      rw [no n]
      simp
  refine ⟨?_, fun n => nodes_bad (noN n), ?_⟩
  · refine Sz.app (fun d hd => ?_) (fun d hd => sz d (List.mem_of_mem_drop hd)) ?_
    · rcases List.mem_append.mp hd with h | h
      · exact sz d (List.mem_of_mem_take h)
      · rw [List.mem_singleton.mp h]
        exact szN
    · rw [List.length_append, List.length_take, List.length_drop, List.length_singleton]
      omega
  · have b1 : ShL [x, y, z] 1100000 9 := shE.take 3
    have b2 : ShL ([x, y, z] ++ [u']) (1100000 + (fB m + 2 + 0)) (12 + 2 * m) := ShL.app (b1.mono (Nat.le_refl _) (by omega)) (ShL.cons shu ShL.nil)
    have b3 : ShD (.tuple [x, y, z, u']) (1100000 + (fB m + 2 + 0) + 3) (12 + 2 * m + 1) := ShD.tuple b2
    have b4 : ShL (ds.take i ++ [.tuple [x, y, z, u']]) (1100000 + (1100000 + (fB m + 2 + 0) + 3 + 2 + 0)) (12 + 2 * m + 1) := ShL.app ((sh.take i).mono (Nat.le_refl _) (by omega)) (ShL.cons b3 ShL.nil)
    have key : ∀ (xs ys : List PyData) (e : PyData) (w : Nat), ShL (xs ++ e :: ys) w 10 → ∀ f w', ShD f w' (12 + 2 * m + 1) → ShL (xs ++ [f] ++ ys) (w + w' + 2) (12 + 2 * m + 1) := by
      intro xs
      induction xs with
      | nil =>
        intro ys e w h f w' hf
        obtain ⟨_, h2, _⟩ := h.uncons
        exact (ShL.cons hf (h2.mono (Nat.le_refl _) (by omega))).mono (by omega) (Nat.le_refl _)
      | cons x xs ih =>
        intro ys e w h f w' hf
        obtain ⟨_, _, a, b, ha, hb, e2⟩ := ShL.uncons (show ShL (x :: (xs ++ e :: ys)) w 10 from h)
        exact (ShL.cons (ha.mono (Nat.le_refl _) (by omega)) (ih ys e b hb f w' hf)).mono (by omega) (Nat.le_refl _)
    have il : i < ds.length := (List.getElem?_eq_some_iff.mp hi).1
    have hs : ShL (ds.take i ++ ds[i] :: ds.drop (i + 1)) 1100000 10 := by
      rw [← List.drop_eq_getElem_cons il, List.take_append_drop]
      exact sh
    have b5 := key _ _ _ _ hs _ _ b3
    refine (ShD.tuple b5).mono ?_ (by omega)
    show 1100000 + (1100000 + (fB m + 2 + 0) + 3) + 2 + 3 ≤ fB m + 2200100
    omega
end Sk
namespace Sk
open PySem PySem.Spec PyProof.Rows L2
section
variable {P : Program} {w : World} {K : PySem.W.Frag} {mg : Str → Option Value} {base : Heap}
theorem pairs_ne {ps : List (Str × Str)} (h : ps.isEmpty = false) : queryL ps ≠ [] := by
  cases ps with
  | nil => cases h
  | cons p r =>
    intro e
    have : (61 : Nat) ∈ queryL (p :: r) := by
      unfold queryL
      cases r with
      | nil =>
        show 61 ∈ pairL p
        unfold pairL
        exact List.mem_append_right _ (List.mem_append_left _ (by decide +kernel))
      | cons q r =>
        show 61 ∈ pairL p ++ _
        refine List.mem_append_left _ ?_
        unfold pairL
        exact List.mem_append_right _ (List.mem_append_left _ (by decide +kernel))
    rw [e] at this
    cases this
theorem href_l : sl " href=\"" = sl " " ++ (sl "href" ++ sl "=\"") := by decide +kernel
theorem ok_atext (T : Top K mg) (k : Nat) : Ok__law_attribute_text P w base T (k + 10) sp_watt := by
  have G__law_code : Ok__law_code P w base T 1 sp_code := ok_lawcode T 0
  have G__law_escaped : Ok__law_escaped P w base T 9 sp_esc := ok_escaped T 0
  refine T.F__law_attribute_text.ok sc__law_attribute_text (fun vs H Q E h => ?_) (fun cdv A outer s H vs Q E hr h => ⟨_, PSs.nox (pss_cons (sif (tcmp (kother K hr.units) (pe_ix (kget K) (vr 0) pe_int (fun _ _ => rfl)) pe_str (nomark _)) (pss_one (ps_ret (pe_op (kplus K) (pe_op (kplus K) (pe_op (kplus K) (pe_op (kplus K) pe_str (pe_ix (kget K) (vr 0) pe_int (fun _ _ => rfl))) pe_str) (pe_call G__law_escaped (hr.mono (by omega)) (by rfl) T.g__law_escaped T.F__law_escaped.kp (b__law_escaped T) .nil pass0 (pa_cons pe_str (pa_cons (pe_ix (kget K) (vr 0) pe_int (fun _ _ => rfl)) pa_nil)))) pe_str))) pss_nil)
      (pss_cons (ps_set (i := 1) sc__law_attribute_text.nd rfl (by first | exact .inl rfl | exact .inr rfl) (kjoin K pe_str (pe_lc (own := [("_law_chars_here", 3)])  rfl sc__law_attribute_text.nd (itup K (pe_ix (kget K) (pe_ix (kget K) (vr 0) pe_int (fun _ _ => rfl)) pe_int (fun _ _ => rfl))) (blkOk_by (own := [("_law_chars_here", 3)]) (N := ["_law_each", "_law_ways", "_law_rows", "_law_chars_here", "_law_word"]) (sc := defScope s__law_attribute_text) (by decide +kernel)) (fun _ _ _ _ _ => (pg_name (i := 3) sc__law_attribute_text.nd rfl (by first | exact .inl rfl | exact .inr rfl))) (fun _ _ _ _ _ => pts_nil) (fun _ _ _ _ _ => up (pe_op (kplus K) pe_str (pe_call G__law_code (hr.mono (by omega)) (by rfl) T.g__law_code T.F__law_code.kp (b__law_code T) .nil pass0 (pa_cons (vr 3) pa_nil)))))))
      (pss_cons (ps_set (i := 2) sc__law_attribute_text.nd rfl (by first | exact .inl rfl | exact .inr rfl) (kjoin K pe_str (pe_lc (own := [("_law_word", 4), ("_law_chars_here", 3)])  rfl sc__law_attribute_text.nd (itup K (pe_ix (kget K) (pe_ix (kget K) (vr 0) pe_int (fun _ _ => rfl)) pe_int (fun _ _ => rfl))) (blkOk_by (own := [("_law_word", 4), ("_law_chars_here", 3)]) (N := ["_law_each", "_law_ways", "_law_rows", "_law_chars_here", "_law_word"]) (sc := defScope s__law_attribute_text) (by decide +kernel)) (fun _ _ _ _ _ => (gtup K 2 rfl (gs_cons (pg_name (i := 4) sc__law_attribute_text.nd rfl (by first | exact .inl rfl | exact .inr rfl)) (gs_cons (pg_name (i := 3) sc__law_attribute_text.nd rfl (by first | exact .inl rfl | exact .inr rfl)) gs_nil)))) (fun _ _ _ _ _ => pts_nil) (fun _ _ _ _ _ => up (pe_op (kplus K) (pe_op (kplus K) (vr 4) pe_str) (pe_call G__law_code (hr.mono (by omega)) (by rfl) T.g__law_code T.F__law_code.kp (b__law_code T) .nil pass0 (pa_cons (vr 3) pa_nil)))))))
      (pss_one (ps_ret (pe_op (kplus K) (pe_op (kplus K) (pe_op (kplus K) pe_str (vr 1)) (vif (tcmp (kother K hr.units) (vr 2) pe_str (nomark _)) (pe_op (kplus K) pe_str (vr 2)) pe_str)) pe_str)))))), ?_⟩)
  · unfold sp_watt at h
    split at h
    · rfl
    · exact h.elim
  · unfold sp_watt at h
    split at h
    · obtain ⟨t, ht, q⟩ := h
      rw [st__law_attribute_text]
      cases t with
      | plain n z =>
        obtain ⟨a, rfl, ha, hn, ne, hz⟩ := ht
        refine ⟨_, _, .inr (sqT_of ha), rfl, ?_⟩
        refine br2 (fun e => ?_) (fun e => ?_)
        · have l1 : Ln 12 n := hn.2.1
          have l2 := att24 hz.1
          have b1 : Ln 1 (" " : Str) := by decide
          have b2 := b1.app l1
          have b3 := b2.app (show Ln 2 ("=\"" : Str) by decide)
          have b4 := b3.app l2
          refine ⟨_, _, .inr (sqT_of ha), rfl, b1.plus l1, b2.plus (show Ln 2 ("=\"" : Str) by decide), _, _, .inr (sqT_of ha), rfl, attE z, .inr (.inr (.inr (.inl ⟨rfl, .inl ⟨z, rfl, hz⟩, rfl⟩))), fun H1 s1 => ?_⟩
          refine ⟨b3.plus l2, b4.plus (show Ln 1 ("\"" : Str) by decide), ?_⟩
          refine q _ _ ?_ s1
          simp only [sl, app_list, List.append_assoc, attL]
        · have e : (!decide (V.str n = V.str "href")) = false := e
          have e : V.str n = V.str "href" := by simpa using e
          cases e
          exact absurd rfl ne
      | addr ws ps =>
        obtain ⟨a, p, x, y, rfl, ha, hp, tx, h4, h5, py, h7⟩ := ht
        have pok := py.ok
        obtain ⟨b, rfl, hb, hz⟩ := tx
        obtain ⟨c, vs, rfl, hc, lv, hv⟩ := py
        refine ⟨_, _, .inr (sqT_of ha), rfl, ?_⟩
        refine ⟨_, _, .inr (sqT_of ha), rfl, _, _, .inr (sqT_of hp), rfl, b, rfl, ⟨_, sqT_of hb⟩, fun D nD => ?_⟩
        refine lct (xs := ws.map V.str) fr_same (fun i v _ => ∃ x z, ws[i]? = some x ∧ v = .str z ∧ sl z = partL x) trivial nD (by rw [List.length_map]; omega) (fun H1 _ s1 => sqT_of (s1 _ _ hb)) (fun _ _ _ _ h _ => h) (fun _ => rfl) (fun i x H1 hx _ s1 => ?_) (fun H1 ys _ s1 l1 e1 q1 => ?_)
        · rw [List.getElem?_map] at hx
          obtain ⟨z, hz', rfl⟩ := Option.map_eq_some_iff.mp hx
          have tz := hz z (List.mem_of_getElem? hz')
          refine ⟨tz.mono (by decide), fun H2 s2 => ⟨(show Ln 1 ("/" : Str) by decide).plus (cod_len tz.1), trivial, s2, z, _, hz', rfl, app_list _ _⟩⟩
        · rw [List.length_map] at l1
          obtain ⟨zs, rfl, ez⟩ := strs_map l1 q1
          have pl := parts_len hz h5
          have pth := join_flat (y := "") rfl ez
          have pln : Ln 219 (Txt.join "" zs) := Ln.of pth pl
          refine ⟨zs, .inl (sqL_of e1), ?_, ?_⟩
          · rw [sum_flat, ez]
            show _ + _ * 0 ≤ _
            omega
          simp only [List.set_cons_succ, List.set_cons_zero]
          refine ⟨_, _, .inr (sqT_of (s1 _ _ ha)), rfl, _, _, .inr (sqT_of (s1 _ _ hp)), rfl, c, rfl, ⟨_, sqT_of (s1 _ _ hc)⟩, fun D2 nD2 => ?_⟩
          refine lcw (walk_tup (xs := vs)) fr_same (fun i v _ => ∃ x z, ps[i]? = some x ∧ v = .str z ∧ sl z = pairL x) trivial nD2 (by omega) gm_pair (fun H2 _ s2 => sqT_of (s2 _ _ (s1 _ _ hc))) (fun _ _ _ _ h _ => h) (fun i x H2 H2' hi _ s2 hy => ?_) (fun H2 ys2 _ s2 l2 e2 q2 => ?_)
          · obtain ⟨rfl, hx⟩ := hy
            have hi2 : i < ps.length := by omega
            obtain ⟨b2, rfl, h2, n2, t2⟩ := hv i x ps[i] hx (List.getElem?_eq_getElem hi2)
            refine ⟨b2, _, rfl, sqT_of (s2 _ _ (s1 _ _ h2)), rfl, rfl, ?_⟩
            have m1 : Ln 12 ps[i].1 := n2.2.1
            have m2 := cod_len t2.1
            have m3 : Ln 1 ("=" : Str) := by decide
            refine ⟨m1.plus m3, t2.mono (by decide), fun H3 s3 => ?_⟩
            refine ⟨(m1.app m3).plus m2, trivial, s3, ps[i], _, List.getElem?_eq_getElem hi2, rfl, ?_⟩
            simp only [sl, app_list, List.append_assoc, pairL]
          · rw [lv] at l2
            obtain ⟨zs2, rfl, ez2⟩ := strs_map l2 q2
            have ql := query_len pok h7
            have pl2 := pairs_len pok h7
            have qth := join_with (y := ";") ez2
            have qln : Ln 258 (Txt.join ";" zs2) := Ln.of qth ql
            have lz : zs2.length = ps.length := by
              have := congrArg List.length ez2
              rw [List.length_map, List.length_map] at this
              exact this
            refine ⟨zs2, .inl (sqL_of e2), ?_, ?_⟩
            · rw [sum_flat, ez2]
              show _ + _ * 1 ≤ _
              omega
            simp only [List.set_cons_succ, List.set_cons_zero]
            have s02 := s1.trans s2
            have qth : (Txt.join ";" zs2).cps.toList = queryL ps := qth
            have pth : (Txt.join "" zs).cps.toList = (ws.map partL).flatten := pth
            have b1 : Ln 7 (" href=\"" : Str) := by decide
            have b2 := b1.app pln
            have hl : (Str.ofString " href=\"").cps.toList = sl " " ++ (sl "href" ++ sl "=\"") := href_l
            have m1 : Ln 1 ("?" : Str) := by decide
            have m2 : Ln 1 ("\"" : Str) := by decide
            refine ⟨b1.plus pln, br2 (fun e => ?_) (fun e => ?_)⟩
            · have e : (!decide (V.str (Txt.join ";" zs2) = V.str "")) = true := e
              have e0 : ps.isEmpty = false := by
                cases ps with
                | nil =>
                  cases zs2 with
                  | nil => cases e
                  | cons _ _ => cases lz
                | cons _ _ => rfl
              refine ⟨m1.plus qln, b2.plus (m1.app qln), (b2.app (m1.app qln)).plus m2, ?_⟩
              refine q _ _ ?_ s02
              simp only [sl, app_list, List.append_assoc, attL, e0, qth, pth, hl, Bool.false_eq_true, if_false]
            · have e : (!decide (V.str (Txt.join ";" zs2) = V.str "")) = false := e
              have e : V.str (Txt.join ";" zs2) = V.str "" := by simpa using e
              have e : Txt.join ";" zs2 = "" := by
                cases e2 : Txt.join ";" zs2
                rw [e2] at e
                cases e
                rfl
              have e0 : ps.isEmpty = true := by
                cases q0 : ps.isEmpty with
                | true => rfl
                | false =>
                  refine absurd ?_ (pairs_ne q0)
                  rw [← qth, e]
                  rfl
              refine ⟨b2.plus (show Ln 0 ("" : Str) by decide), (b2.app (show Ln 0 ("" : Str) by decide)).plus m2, ?_⟩
              refine q _ _ ?_ s02
              have h0 : (Str.ofString "").cps.toList = [] := rfl
              simp only [sl, app_list, List.append_assoc, attL, e0, pth, hl, h0, if_true, List.nil_append]
    · exact h.elim
/-! ### _law_sheet -/
def SeqV (H : Hp) (v : V) (ns : List Nd) : Prop := ∃ a vs, v = .ref a ∧ (H a = some (.lst vs) ∨ H a = some (.tup vs)) ∧ NdsV H vs ns
def sp_sheet (n : Nat) : Sp := fun vs H Q _ => match vs with
  | [v] => ∃ ns, SeqV H v ns ∧ ns.length ≤ 20 ∧ levs ns ≤ n ∧ (ndsL ns).length ≤ maxS ∧ ∀ z H', sl z = ndsL ns → Same H H' → Q (.str z) H'
  | _ => False
theorem take_nd {ns : List Nd} {i : Nat} {nd : Nd} (h : ns[i]? = some nd) : ndsL (ns.take (i + 1)) = ndsL (ns.take i) ++ ndL nd := by
  rw [ndsL_eq, ndsL_eq, List.take_succ, h]
  simp
theorem take_le (ns : List Nd) (i : Nat) : (ndsL (ns.take i)).length ≤ (ndsL ns).length := by
  have e : ndsL ns = ndsL (ns.take i) ++ ndsL (ns.drop i) := by
    rw [ndsL_eq, ndsL_eq, ndsL_eq, ← List.flatten_append, ← List.map_append, List.take_append_drop]
  rw [e, List.length_append]
  omega
theorem NdV.shape {H : Hp} {v : V} {nd : Nd} (h : NdV H v nd) : ∃ a vs, v = .ref a ∧ H a = some (.tup vs) := by
  cases h with
  | text h _ _ => exact ⟨_, _, rfl, h⟩
  | data h _ => exact ⟨_, _, rfl, h⟩
  | elem h _ _ _ _ _ _ _ _ _ => exact ⟨_, _, rfl, h⟩
theorem step_sheet (T : Top K mg) (n k : Nat) (hk : 10 ≤ k) (spI : Sp) (G__law_sheet : Ok__law_sheet P w base T k spI) (hI : ∀ m, n = m + 1 → spI = sp_sheet m) : Ok__law_sheet P w base T (k + 1) (sp_sheet n) := by
  have G__law_literal : OkT_ll P w base T 8 (sp_lit 6) := ok_ll T 6
  have G__law_escaped : Ok__law_escaped P w base T 9 sp_esc := ok_escaped T 0
  have G__law_attribute_text : Ok__law_attribute_text P w base T 10 sp_watt := ok_atext T 0
  refine T.F__law_sheet.ok sc__law_sheet (fun vs H Q E h => ?_) (fun cdv A outer s H vs Q E hr h => ⟨_, PSs.nox (pss_cons (ps_set (i := 1) sc__law_sheet.nd rfl (by first | exact .inl rfl | exact .inr rfl) pe_str)
      (pss_cons (ps_for PassesOwn.never rfl (iany K (vr 0)) (pg_name (i := 2) sc__law_sheet.nd rfl (by first | exact .inl rfl | exact .inr rfl)) (pss_one (sif (tcmp (ksame K hr.units) (pe_ix (kget K) (vr 2) pe_int (fun _ _ => rfl)) pe_str (nomark _)) (pss_one (ps_set (i := 1) sc__law_sheet.nd rfl (by first | exact .inl rfl | exact .inr rfl) (pe_op (kplus K) (vr 1) (pe_call G__law_escaped (hr.mono (by omega)) (by rfl) T.g__law_escaped T.F__law_escaped.kp (b__law_escaped T) .nil pass0 (pa_cons pe_str (pa_cons (pe_ix (kget K) (vr 2) pe_int (fun _ _ => rfl)) pa_nil)))))) (pss_one (sif (tcmp (ksame K hr.units) (pe_ix (kget K) (vr 2) pe_int (fun _ _ => rfl)) pe_str (nomark _)) (pss_one (ps_set (i := 1) sc__law_sheet.nd rfl (by first | exact .inl rfl | exact .inr rfl) (pe_op (kplus K) (pe_op (kplus K) (pe_op (kplus K) (vr 1) pe_str) (pecall_tok G__law_literal (hr.mono (by omega)) (by rfl) T.g__law_literal T.F__law_literal.kp (b__law_literal T) (kget K) (vr 2))) pe_str))) (pss_cons (ps_set (i := 3) sc__law_sheet.nd rfl (by first | exact .inl rfl | exact .inr rfl) (kjoin K pe_str (pe_lc (own := [("_law_each", 4)])  rfl sc__law_sheet.nd (itup K (pe_ix (kget K) (vr 2) pe_int (fun _ _ => rfl))) (blkOk_by (own := [("_law_each", 4)]) (N := ["_law_trunk_here", "_law_found", "_law_node", "_law_front", "_law_each"]) (sc := defScope s__law_sheet) (by decide +kernel)) (fun _ _ _ _ _ => (pg_name (i := 4) sc__law_sheet.nd rfl (by first | exact .inl rfl | exact .inr rfl))) (fun _ _ _ _ _ => pts_nil) (fun _ _ _ _ _ => up (pe_call G__law_attribute_text (hr.mono (by omega)) (by rfl) T.g__law_attribute_text T.F__law_attribute_text.kp (b__law_attribute_text T) .nil pass0 (pa_cons (vr 4) pa_nil))))))
      (pss_cons (ps_set (i := 1) sc__law_sheet.nd rfl (by first | exact .inl rfl | exact .inr rfl) (pe_op (kplus K) (pe_op (kplus K) (pe_op (kplus K) (pe_op (kplus K) (pe_op (kplus K) (vr 1) pe_str) (pe_ix (kget K) (vr 2) pe_int (fun _ _ => rfl))) (vr 3)) pe_str) (pe_call G__law_sheet (hr.mono (by omega)) (by rfl) T.g__law_sheet T.F__law_sheet.kp (b__law_sheet T) .nil pass0 (pa_cons (pe_ix (kget K) (vr 2) pe_int (fun _ _ => rfl)) pa_nil))))
      (pss_one (ps_set (i := 1) sc__law_sheet.nd rfl (by first | exact .inl rfl | exact .inr rfl) (pe_op (kplus K) (pe_op (kplus K) (pe_op (kplus K) (vr 1) pe_str) (pe_ix (kget K) (vr 2) pe_int (fun _ _ => rfl))) pe_str))))))))))
      (pss_one (ps_ret (vr 1))))), ?_⟩)
  · unfold sp_sheet at h
    split at h
    · rfl
    · exact h.elim
  · unfold sp_sheet at h
    split at h
    · obtain ⟨ns, ⟨a, vs, rfl, ha, hv⟩, l20, lv, lm, q⟩ := h
      unfold maxS at lm
      have len := hv.length
      rw [st__law_sheet]
      refine ⟨vs, ha.imp sqL_of sqT_of, fun J G wk hG => ?_⟩
      refine for_it wk (fun i σ H' => Same H H' ∧ ∃ (f : Str) (y2 y3 y4 : Option V), σ = [some (.ref a), some (.str f), y2, y3, y4] ∧ sl f = ndsL (ns.take i)) ⟨Same.refl H, _, _, _, _, rfl, rfl⟩ (fun i σ H1 _ hv => hG _ (hv.1 _)) (fun i x σ H1 H1' hi pv hy => ?_) (fun σ H1 pv => ?_)
      · obtain ⟨s1, f, y2, y3, y4, rfl, ef⟩ := pv
        obtain ⟨rfl, hx⟩ := hy
        obtain ⟨nd, e2, h2⟩ := hv.at i x hx
        replace h2 := h2.stay (stay_of s1)
        have lnd := nd_le e2
        have ll := lev_le e2
        have lt := take_le ns (i + 1)
        have step0 := take_nd e2
        rw [step0, List.length_append] at lt
        have lf : f.length = (ndsL (ns.take i)).length := by rw [len_list, ← ef]
        rw [← lf] at lt
        rw [← ef] at step0
        have step : ∀ g : Str, sl g = sl f ++ ndL nd → sl g = ndsL (ns.take (i + 1)) := fun g e => e.trans step0.symm
        clear step0
        have fm : Ln 16000000 f := by show f.length ≤ _; omega
        cases h2 with
        | text ha hz l1 =>
          refine ⟨_, _, .inr (sqT_of ha), rfl, ?_⟩
          rename_i b z
          refine ⟨_, _, .inr (sqT_of ha), rfl, txtE z, .inr (.inr (.inr (.inr ⟨rfl, .inl ⟨z, rfl, hz⟩, rfl⟩))), fun H2 s2 => ⟨fm.plus (txt24 hz.1), s1.trans s2, _, _, _, _, rfl, step _ ?_⟩⟩
          simp only [sl, app_list, ndL]
        | data ha g =>
          rename_i b x
          have ll2 : Ln 2000000 (litH H1' 6 x) := Nat.le_trans (lit_len 6 _ g) (litS6 (Nat.le_refl 6))
          have tot : (ndL (.data (litH H1' 6 x))).length = 6 + ((litH H1' 6 x).length + 7) := by
            unfold ndL
            simp only [List.length_append, sl_len]
            rfl
          rw [tot] at lt
          refine ⟨_, _, .inr (sqT_of ha), rfl, _, _, .inr (sqT_of ha), rfl, fm.plus (show Ln 6 ("<data>" : Str) by decide), _, _, .inr (sqT_of ha), rfl, g, by decide, fun H2 s2 => ?_⟩
          refine ⟨?_, ?_, s1.trans s2, _, _, _, _, rfl, step _ ?_⟩
          · rw [app_len]
            show f.length + 6 + _ ≤ 16777216
            omega
          · rw [app_len, app_len]
            show f.length + 6 + _ + 7 ≤ 16777216
            omega
          · simp only [sl, app_list, ndL, List.append_assoc]
        | elem ha nok nd hp hat la hq hns ln nt =>
          rename_i b p q' nm vs' ws as ns'
          have ll : 1 + levs ns' ≤ levs ns := ll
          cases n with
          | zero => omega
          | succ n =>
          have hI := hI n rfl
          subst hI
          have lat := hat.length
          refine ⟨_, _, .inr (sqT_of ha), rfl, _, _, .inr (sqT_of ha), rfl, _, _, .inr (sqT_of ha), rfl, p, rfl, ⟨_, sqT_of hp⟩, fun D nD => ?_⟩
          refine lct (xs := vs') fr_same (fun i v _ => ∃ x z, as[i]? = some x ∧ v = .str z ∧ sl z = attL x) trivial nD (by omega) (fun H2 _ s2 => sqT_of (s2 _ _ hp)) (fun _ _ _ _ h _ => h) (fun _ => rfl) (fun i x H2 hx _ s2 => ?_) (fun H2 ys _ s2 l1 e1 q1 => ?_)
          · obtain ⟨t, e2, ht⟩ := hat.at i x hx
            exact ⟨t, ht.stay (stay_of s2), fun z H3 ez s3 => ⟨trivial, s3, t, z, e2, rfl, ez⟩⟩
          · obtain ⟨zs, rfl, ez⟩ := strs_map (l1.trans lat) q1
            have pth := join_flat (y := "") rfl ez
            have al := atts_len hat
            have al : ((as.map attL).flatten).length ≤ 18000 := by omega
            have aln : Ln 18000 (Txt.join "" zs) := Ln.of pth al
            have nln : Ln 12 nm := nok.2.1
            have tot : (ndL (.elem nm as ns')).length = 1 + (nm.length + (((as.map attL).flatten).length + (1 + ((ndsL ns').length + (2 + (nm.length + 1)))))) := by
              unfold ndL
              simp only [List.length_append, sl_len]
              rfl
            rw [tot] at lt
            have lns : (ndsL ns').length ≤ 16000000 := by omega
            have jl : (Txt.join "" zs).length = ((as.map attL).flatten).length := by rw [len_list]; exact congrArg List.length pth
            refine ⟨zs, .inl (sqL_of e1), ?_, ?_⟩
            · rw [sum_flat, ez]
              show _ + _ * 0 ≤ _
              omega
            simp only [List.set_cons_succ, List.set_cons_zero]
            refine ⟨fm.plus (show Ln 1 ("<" : Str) by decide), _, _, .inr (sqT_of (s2 _ _ ha)), rfl, ?_, ?_, ?_, _, _, .inr (sqT_of (s2 _ _ ha)), rfl, ns', ⟨_, _, rfl, .inr (s2 _ _ hq), NdsV.stay (stay_of s2) hns⟩, by omega, by omega, lns, fun z H3 ez3 s3 => ?_⟩
            · rw [app_len]
              show f.length + 1 + nm.length ≤ 16777216
              omega
            · rw [app_len, app_len]
              show f.length + 1 + nm.length + _ ≤ 16777216
              omega
            · rw [app_len, app_len, app_len]
              show f.length + 1 + nm.length + _ + 1 ≤ 16777216
              omega
            · have zl : z.length = (ndsL ns').length := by rw [len_list]; exact congrArg List.length ez3
              refine ⟨?_, ?_, _, _, .inr (sqT_of (s3 _ _ (s2 _ _ ha))), rfl, ?_, ?_, ?_⟩
              · rw [app_len, app_len, app_len, app_len]
                show f.length + 1 + nm.length + _ + 1 + _ ≤ 16777216
                omega
              · rw [app_len, app_len, app_len, app_len, app_len]
                show f.length + 1 + nm.length + _ + 1 + _ + 2 ≤ 16777216
                omega
              · rw [app_len, app_len, app_len, app_len, app_len, app_len]
                show f.length + 1 + nm.length + _ + 1 + _ + 2 + nm.length ≤ 16777216
                omega
              · rw [app_len, app_len, app_len, app_len, app_len, app_len, app_len]
                show f.length + 1 + nm.length + _ + 1 + _ + 2 + nm.length + 1 ≤ 16777216
                omega
              · refine ⟨(s1.trans s2).trans s3, _, _, _, _, rfl, step _ ?_⟩
                have pth : (Txt.join "" zs).cps.toList = (as.map attL).flatten := pth
                have ez3 : z.cps.toList = ndsL ns' := ez3
                simp only [sl, app_list, ndL, List.append_assoc, pth, ez3]
      · obtain ⟨s1, f, y2, y3, y4, rfl, ef⟩ := pv
        refine q f H1 ?_ s1
        rw [ef, len, List.take_length]
    · exact h.elim
theorem no_sheet (T : Top K mg) : Ok__law_sheet P w base T 10 (fun _ _ _ _ => False) := ⟨fun _ _ _ _ h => h.elim, fun _ _ _ _ _ _ _ _ _ _ _ _ _ h => h.elim⟩
theorem ok_sheet (T : Top K mg) : ∀ n, Ok__law_sheet P w base T (n + 11) (sp_sheet n)
  | 0 => step_sheet T 0 10 (by decide) _ (no_sheet T) fun m e => by cases e
  | n + 1 => step_sheet T (n + 1) (n + 11) (by omega) _ (ok_sheet T n) fun m e => by cases e; rfl
end
end Sk
namespace Sk
open PySem PySem.Spec PyProof.Rows L2
section
variable {P : Program} {w : World} {K : PySem.W.Frag} {mg : Str → Option Value} {base : Heap}
def sp_lattr : Sp := fun vs H Q _ => match vs with
  | [.ref a, .str z] => Pool H a ∧ NameOk z ∧ ∀ (t : Att) (v : V) (H' : Hp), AttV H' v t → Pool H' a → Keep a H H' → Q v H'
  | _ => False
theorem ok_lattr (T : Top K mg) (k : Nat) : Ok__law_attribute P w base T (k + 3) sp_lattr := by
  have G__law_draw : Ok__law_draw P w base T 1 sp_draw := ok_draw T 0
  have G__law_words : Ok__law_words P w base T 2 sp_words := ok_words T 0
  have G__law_chars : Ok__law_chars P w base T 2 sp_chars := ok_chars T 0
  refine T.F__law_attribute.ok sc__law_attribute (fun vs H Q E h => ?_) (fun cdv A outer s H vs Q E hr h => ⟨_, PSs.nox (pss_cons (sif (tcmp op_gtI (pe_call G__law_draw (hr.mono (by omega)) (by rfl) T.g__law_draw T.F__law_draw.kp (b__law_draw T) .nil pass0 (pa_cons (vr 0) (pa_cons pe_int pa_nil))) pe_int (nomark _)) (pss_one (ps_ret (pe_tup (pa_cons (vif (tcmp (kother K hr.units) (vr 1) pe_str (nomark _)) (vr 1) pe_str) (pa_cons (pe_call G__law_chars (hr.mono (by omega)) (by rfl) T.g__law_chars T.F__law_chars.kp (b__law_chars T) .nil pass0 (pa_cons (vr 0) pa_nil)) pa_nil))))) pss_nil)
      (pss_cons (ps_set (i := 2) sc__law_attribute.nd rfl (by first | exact .inl rfl | exact .inr rfl) (pe_callTy (ktup K) (by rfl) T.n_tuple (by decide +kernel) (pa_cons (pe_lc (own := [("_law_k", 4)])  rfl sc__law_attribute.nd (pi_range1 (by rfl) T.n_range (pa_cons (pe_op (kplus K) pe_int (pe_call G__law_draw (hr.mono (by omega)) (by rfl) T.g__law_draw T.F__law_draw.kp (b__law_draw T) .nil pass0 (pa_cons (vr 0) (pa_cons pe_int pa_nil)))) pa_nil)) (blkOk_by (own := [("_law_k", 4)]) (N := ["_law_pool_here", "_law_word", "_law_ways", "_law_words_here", "_law_k", "_law_each"]) (sc := defScope s__law_attribute) (by decide +kernel)) (fun _ _ _ _ _ => (pg_name (i := 4) sc__law_attribute.nd rfl (by first | exact .inl rfl | exact .inr rfl))) (fun _ _ _ _ _ => pts_nil) (fun _ _ _ _ _ => up (pe_call G__law_chars (hr.mono (by omega)) (by rfl) T.g__law_chars T.F__law_chars.kp (b__law_chars T) .nil pass0 (pa_cons (vr 0) pa_nil)))) pa_nil)))
      (pss_cons (ps_set (i := 3) sc__law_attribute.nd rfl (by first | exact .inl rfl | exact .inr rfl) (pe_call G__law_words (hr.mono (by omega)) (by rfl) T.g__law_words T.F__law_words.kp (b__law_words T) .nil pass0 (pa_cons (vr 0) (pa_cons (pe_call G__law_draw (hr.mono (by omega)) (by rfl) T.g__law_draw T.F__law_draw.kp (b__law_draw T) .nil pass0 (pa_cons (vr 0) (pa_cons pe_int pa_nil))) pa_nil))))
      (pss_one (ps_ret (pe_tup (pa_cons pe_str (pa_cons (pe_tup (pa_cons (vr 2) (pa_cons (pe_callTy (ktup K) (by rfl) T.n_tuple (by decide +kernel) (pa_cons (pe_lc (own := [("_law_each", 5)])  rfl sc__law_attribute.nd (ilist K (vr 3)) (blkOk_by (own := [("_law_each", 5)]) (N := ["_law_pool_here", "_law_word", "_law_ways", "_law_words_here", "_law_k", "_law_each"]) (sc := defScope s__law_attribute) (by decide +kernel)) (fun _ _ _ _ _ => (pg_name (i := 5) sc__law_attribute.nd rfl (by first | exact .inl rfl | exact .inr rfl))) (fun _ _ _ _ _ => pts_nil) (fun _ _ _ _ _ => up (pe_tup (pa_cons (vr 5) (pa_cons (pe_call G__law_chars (hr.mono (by omega)) (by rfl) T.g__law_chars T.F__law_chars.kp (b__law_chars T) .nil pass0 (pa_cons (vr 0) pa_nil)) pa_nil))))) pa_nil)) pa_nil))) pa_nil)))))))), ?_⟩)
  · unfold sp_lattr at h
    split at h
    · rfl
    · exact h.elim
  · unfold sp_lattr at h
    split at h
    · obtain ⟨hp, nok, q⟩ := h
      rename_i a wd
      rw [st__law_attribute]
      refine ⟨hp, by decide, by decide, fun way H1 h0 h1 p1 k1 => ?_⟩
      refine br2 (fun e => ?_) (fun e => ?_)
      · refine br2 (fun e2 => ?_) (fun e2 => ?_)
        · refine ⟨p1, fun z H2 tz p2 k2 => ⟨Nat.le_of_ble_eq_true rfl, fun t nt => ?_⟩⟩
          refine q (.plain wd z) _ _ ⟨t, rfl, upd_same, nok, ?_, tz.mono (by decide)⟩ (p2.new (p2.ne nt)) ((k1.trans k2).trans (keep_of (same_new nt)))
          intro e3
          subst e3
          cases e2
        · refine ⟨p1, fun z H2 tz p2 k2 => ⟨Nat.le_of_ble_eq_true rfl, fun t nt => ?_⟩⟩
          exact q (.plain "hreff" z) _ _ ⟨t, rfl, upd_same, ⟨by decide, by decide, List.all_eq_true.mp (by decide +kernel)⟩, by decide, tz.mono (by decide)⟩ (p2.new (p2.ne nt)) ((k1.trans k2).trans (keep_of (same_new nt)))
      · refine ⟨p1, by decide, by decide, fun i2 H2 h2 h3 p2 k2 => ?_⟩
        refine ⟨1 + i2, rfl, by omega, by omega, fun D nD => ?_⟩
        refine lcr (fr_keep (p2.ne nD)) (fun _ v _ => ∃ z, v = .str z ∧ TextOk 10 z) p2 nD (by omega) (fun _ _ _ _ h _ => h) (fun _ => rfl) (fun i H3 hi p3 k3 => ?_) (fun H3 ys p3 k3 l3 e3 q3 => ?_)
        · exact ⟨p3, fun z H4 tz p4 k4 => ⟨p4, k4, z, rfl, tz⟩⟩
        · obtain ⟨zs, rfl, tz⟩ := strs_of q3
          rw [List.length_map] at l3
          refine ⟨_, .inl ⟨sqL_of e3, fun t nt => ?_⟩⟩
          simp only [List.set_cons_succ, List.set_cons_zero]
          have p4 : Pool (upd H3 t (.tup (zs.map V.str))) a := p3.new (p3.ne nt)
          have k4 : Keep a H (upd H3 t (.tup (zs.map V.str))) := ((k1.trans k2).trans k3).trans (keep_of (same_new nt))
          have e4 : upd H3 t (.tup (zs.map V.str)) t = some (.tup (zs.map V.str)) := upd_same
          revert p4 k4 e4
          generalize upd H3 t (.tup (zs.map V.str)) = H4
          intro p4 k4 e4
          refine ⟨p4, by decide, by decide, fun i5 H5 h4 h5 p5 k5 => ?_⟩
          have e5 : H5 t = some (.tup (zs.map V.str)) := k5.stay p4 _ _ rfl e4
          refine ⟨p5, h4, by omega, fun D2 ws H6 l6 hz p6 k6 nD2 e6 => ?_⟩
          have ne2 := p5.ne nD2
          simp only [List.set_cons_succ, List.set_cons_zero]
          refine ⟨D2, rfl, ⟨_, sqL_of e6⟩, fun D3 nD3 => ?_⟩
          refine lcl (xs := ws.map V.str) (fr_keep (p6.ne nD3)) (fun i v H => ∃ b z wd, v = .ref b ∧ ws[i]? = some wd ∧ H b = some (.tup [.str wd, .str z]) ∧ TextOk 24 z) p6 nD3 (by rw [List.length_map]; omega) (fun H7 p7 k7 => sqL_of (k7 D2 _ ne2 e6))
            (fun _ v H H' h st => by obtain ⟨b, z, wd, h1, h2, h3, h4⟩ := h; exact ⟨b, z, wd, h1, h2, st _ _ rfl h3, h4⟩) (fun _ => rfl) (fun i x H7 hx p7 k7 => ?_) (fun H7 vs p7 k7 l7 e7 q7 => ?_)
          · rw [List.getElem?_map] at hx
            obtain ⟨wd, hw, rfl⟩ := Option.map_eq_some_iff.mp hx
            refine ⟨p7, fun z H8 tz p8 k8 => ⟨Nat.le_of_ble_eq_true rfl, fun b nb => ?_⟩⟩
            exact ⟨p8.new (p8.ne nb), k8.trans (keep_of (same_new nb)), b, z, wd, rfl, hw, upd_same, tz.mono (by decide)⟩
          · rw [List.length_map] at l7
            refine ⟨vs, .inl ⟨sqL_of e7, fun r nr => ⟨Nat.le_of_ble_eq_true rfl, fun t2 nt2 => ⟨Nat.le_of_ble_eq_true rfl, fun t3 nt3 => ?_⟩⟩⟩⟩
            have st : Same H7 (upd (upd (upd H7 r (.tup vs)) t2 (.tup [.ref t, .ref r])) t3 (.tup [.str "href", .ref t2])) := ((same_new nr).trans (same_new nt2)).trans (same_new nt3)
            have e7t : H7 t = some (.tup (zs.map V.str)) := k7.stay p6 _ _ rfl (k6.stay p5 _ _ rfl e5)
            have zOf : ∀ i : Nat, ∃ z : Str, ∀ v : V, vs[i]? = some v → ∃ b wd, v = .ref b ∧ ws[i]? = some wd ∧ H7 b = some (.tup [.str wd, .str z]) ∧ TextOk 24 z := fun i => by
              cases hv : vs[i]? with
              | none => exact ⟨"", fun v h => by cases h⟩
              | some v =>
                obtain ⟨b, z, wd, c1, c2, c3, c4⟩ := q7 i v hv
                exact ⟨z, fun v' h => by cases h; exact ⟨b, wd, c1, c2, c3, c4⟩⟩
            obtain ⟨zf, hzf⟩ : ∃ f : Nat → Str, ∀ (i : Nat) (v : V), vs[i]? = some v → ∃ b wd, v = .ref b ∧ ws[i]? = some wd ∧ H7 b = some (.tup [.str wd, .str (f i)]) ∧ TextOk 24 (f i) := ⟨fun i => (zOf i).choose, fun i => (zOf i).choose_spec⟩
            refine q (.addr zs (ws.mapIdx fun i wd => (wd, zf i))) _ _ ⟨t3, t2, .ref t, .ref r, rfl, upd_same, same_new nt3 _ _ upd_same, ⟨t, rfl, st _ _ e7t, fun z hz => (tz z hz).mono (by decide)⟩, by omega, by omega, ⟨r, vs, rfl, ((same_new nt2).trans (same_new nt3)) _ _ upd_same, by rw [List.length_mapIdx]; exact l7, fun i x p hx hp => ?_⟩, by rw [List.length_mapIdx]; omega⟩ (p7.same st) (((k4.trans k5).trans (k6.trans k7)).trans (keep_of st))
            obtain ⟨b, wd, c1, c2, c3, c4⟩ := hzf i x hx
            rw [List.getElem?_mapIdx, c2] at hp
            have hp : (wd, zf i) = p := by simpa using hp
            subst hp
            exact ⟨b, c1, st _ _ c3, hz wd (List.mem_of_getElem? c2), c4⟩
    · exact h.elim
end
end Sk
namespace Sk
open PySem PySem.Spec PyProof.Rows L2
def wN : Nat → Nat
  | 0 => 36000
  | n + 1 => 7000 + 3 * (wN n + 2)
theorem wN_up : ∀ n, 36000 ≤ wN n
  | 0 => Nat.le_refl _
  | n + 1 => by
    have := wN_up n
    show 36000 ≤ 7000 + 3 * (wN n + 2)
    omega
theorem levs_app (x : Nd) : ∀ ns : List Nd, levs (ns ++ [x]) = max (levs ns) x.lev
  | [] => by
    show max x.lev 0 = max 0 x.lev
    omega
  | y :: r => by
    show max y.lev (levs (r ++ [x])) = max (max y.lev (levs r)) x.lev
    rw [levs_app x r]
    omega
theorem two_app (x : Nd) : ∀ ns : List Nd, noTwo ns = true → (x.isT = false ∨ ∀ y, ns.getLast? = some y → y.isT = false) → noTwo (ns ++ [x]) = true
  | [], _, _ => rfl
  | [y], _, h => by
    show (!(y.isT && x.isT) && noTwo [x]) = true
    rcases h with h | h
    · rw [h]
      simp [noTwo]
    · rw [h y rfl]
      rfl
  | a :: b :: r, h, k => by
    have h : (!(a.isT && b.isT) && noTwo (b :: r)) = true := h
    have h := Bool.and_eq_true_iff.mp h
    show (!(a.isT && b.isT) && noTwo ((b :: r) ++ [x])) = true
    rw [h.1, two_app x (b :: r) h.2 (k.imp id fun k y hy => k y (by rw [List.getLast?_cons_cons]; exact hy))]
    rfl
theorem nds_app {H : Hp} : ∀ {vs : List V} {ns : List Nd} {v : V} {n : Nd}, NdsV H vs ns → NdV H v n → NdsV H (vs ++ [v]) (ns ++ [n])
  | _, _, _, _, .nil, h => .cons h .nil
  | _, _, _, _, .cons a b, h => .cons a (nds_app b h)
theorem nds_last {H : Hp} {vs : List V} {ns : List Nd} (h : NdsV H vs ns) (v : V) (e : vs.getLast? = some v) : ∃ n, ns.getLast? = some n ∧ NdV H v n := by
  rw [List.getLast?_eq_getElem?] at e
  obtain ⟨n, e1, e2⟩ := h.at _ v e
  refine ⟨n, ?_, e2⟩
  rw [List.getLast?_eq_getElem?, ← h.length]
  exact e1
theorem nds_sum : ∀ {ns : List Nd} {m : Nat}, (∀ n ∈ ns, (ndL n).length ≤ m) → (ndsL ns).length ≤ ns.length * m
  | [], _, _ => Nat.zero_le _
  | x :: r, m, h => by
    show (ndL x ++ ndsL r).length ≤ _
    rw [List.length_append, List.length_cons, Nat.succ_mul]
    have := nds_sum (ns := r) (m := m) fun n hn => h n (List.mem_cons_of_mem _ hn)
    have := h x (List.mem_cons_self ..)
    omega
/-- what a trunk under way holds -/
structure Trk (H : Hp) (vs : List V) (ns : List Nd) (i n : Nat) : Prop where
  nds : NdsV H vs ns
  len : ns.length ≤ i
  lev : levs ns ≤ n
  two : noTwo ns = true
  big : ∀ nd ∈ ns, (ndL nd).length ≤ 2100000
  sm : ∀ x ∈ vs, Sm H x (wN n) (6 + 2 * n)
theorem Trk.stay {H H' : Hp} {vs : List V} {ns : List Nd} {i n : Nat} (s : Stay H H') (t : Trk H vs ns i n) : Trk H' vs ns i n := ⟨NdsV.stay s t.nds, t.len, t.lev, t.two, t.big, fun x hx => (t.sm x hx).stay s⟩
theorem Trk.more {H : Hp} {vs : List V} {ns : List Nd} {i n : Nat} (t : Trk H vs ns i n) : Trk H vs ns (i + 1) n := ⟨t.nds, Nat.le_succ_of_le t.len, t.lev, t.two, t.big, t.sm⟩
theorem Trk.app {H : Hp} {vs : List V} {ns : List Nd} {i n : Nat} {v : V} {nd : Nd} (t : Trk H vs ns i n) (h : NdV H v nd) (hl : nd.lev ≤ n) (ht : nd.isT = false ∨ ∀ y, ns.getLast? = some y → y.isT = false) (hb : (ndL nd).length ≤ 2100000) (hs : Sm H v (wN n) (6 + 2 * n)) : Trk H (vs ++ [v]) (ns ++ [nd]) (i + 1) n where
  nds := nds_app t.nds h
  len := by rw [List.length_append]; exact Nat.succ_le_succ t.len
  lev := by
    have := t.lev
    rw [levs_app]
    omega
  two := two_app _ _ t.two ht
  big := fun m hm => by
    rcases List.mem_append.mp hm with hm | hm
    · exact t.big m hm
    · have e : m = nd := by simpa using hm
      rw [e]
      exact hb
  sm := fun x hx => by
    rcases List.mem_append.mp hx with hx | hx
    · exact t.sm x hx
    · have e : x = v := by simpa using hx
      rw [e]
      exact hs
section
variable {P : Program} {w : World} {K : PySem.W.Frag} {mg : Str → Option Value} {base : Heap}
def TrunkV (H : Hp) (v : V) (ns : List Nd) (n : Nat) : Prop := NodesV H v ns ∧ ns.length ≤ 3 ∧ levs ns ≤ n ∧ noTwo ns = true ∧ (ndsL ns).length < 900 ∧ Sm H v (3 * (wN n + 2) + 3) (7 + 2 * n)
def sp_trunk (n : Nat) : Sp := fun vs H Q _ => match vs with
  | [.ref a, .int d] => d = (n : Int) ∧ Pool H a ∧ ∀ (v : V) (ns : List Nd) (H' : Hp), TrunkV H' v ns n → Pool H' a → Keep a H H' → Q v H'
  | _ => False
theorem atI_last' {vs : List V} {v : V} (h : vs.getLast? = some v) : atI vs (-1) = some v := by
  have hl : 0 < vs.length := by
    cases vs with
    | nil => cases h
    | cons _ _ => exact Nat.succ_pos _
  rw [List.getLast?_eq_getElem?] at h
  unfold atI ixN
  rw [if_neg (by decide), if_pos (by omega)]
  have e : ((vs.length : Int) + -1).toNat = vs.length - 1 := by omega
  show vs[((vs.length : Int) + -1).toNat]? = some v
  rw [e]
  exact h
theorem node_head {H : Hp} {v : V} {nd : Nd} (h : NdV H v nd) : ∃ a z r, v = .ref a ∧ H a = some (.tup (.str z :: r)) ∧ (nd.isT = false → z ≠ "text") ∧ (nd.isT = true → z = "text") := by
  cases h with
  | text h _ _ => exact ⟨_, _, _, rfl, h, (fun e => by cases e), fun _ => rfl⟩
  | data h _ => exact ⟨_, _, _, rfl, h, (fun _ => by decide), fun e => by cases e⟩
  | elem h _ _ _ _ _ _ _ _ _ => exact ⟨_, _, _, rfl, h, (fun _ => by decide), fun e => by cases e⟩
theorem step_trunk (T : Top K mg) (n k : Nat) (hn : n ≤ 3) (hk : 14 ≤ k) (spI : Sp) (G__law_trunk : Ok__law_trunk P w base T k spI) (hI : ∀ m, n = m + 1 → spI = sp_trunk m) : Ok__law_trunk P w base T (k + 1) (sp_trunk n) := by
  have G__law_draw : Ok__law_draw P w base T 1 sp_draw := ok_draw T 0
  have G__law_words : Ok__law_words P w base T 2 sp_words := ok_words T 0
  have G__law_chars : Ok__law_chars P w base T 2 sp_chars := ok_chars T 0
  have G__law_form : Ok__law_form P w base T 5 (sp_form 2) := ok_form T 2
  have G__law_thing_of : Ok__law_thing_of P w base T 7 (sp_thing 4) := ok_thing T 4
  have G__law_attribute : Ok__law_attribute P w base T 3 sp_lattr := ok_lattr T 0
  have G__law_sheet : Ok__law_sheet P w base T 14 (sp_sheet 3) := ok_sheet T 3
  refine T.F__law_trunk.ok sc__law_trunk (fun vs H Q E h => ?_) (fun cdv A outer s H vs Q E hr h => ⟨_, PSs.nox (pss_cons (ps_par (by rfl) sc__law_trunk.nd (i := 2) (j := 3) rfl rfl (by decide) rfl rfl (pa_cons (pe_lst pa_nil) (pa_cons (pe_call G__law_draw (hr.mono (by omega)) (by rfl) T.g__law_draw T.F__law_draw.kp (b__law_draw T) .nil pass0 (pa_cons (vr 0) (pa_cons pe_int pa_nil))) pa_nil)) (by rfl))
      (pss_cons (ps_for PassesOwn.never rfl (ilist K (pe_lc (own := [("_law_each", 8)])  rfl sc__law_trunk.nd (ilist K (pe_call G__law_words (hr.mono (by omega)) (by rfl) T.g__law_words T.F__law_words.kp (b__law_words T) .nil pass0 (pa_cons (vr 0) (pa_cons (vr 3) pa_nil)))) (blkOk_by (own := [("_law_each", 8)]) (N := ["_law_pool_here", "_law_deep", "_law_found", "_law_many", "_law_word", "_law_way", "_law_chars_here", "_law_rows", "_law_each"]) (sc := defScope s__law_trunk) (by decide +kernel)) (fun _ _ _ _ _ => (pg_name (i := 8) sc__law_trunk.nd rfl (by first | exact .inl rfl | exact .inr rfl))) (fun _ _ _ _ _ => pts_nil) (fun _ _ _ _ _ => up (vif (tcmp (kother K hr.units) (vr 8) pe_str (nomark _)) (vr 8) pe_str)))) (pg_name (i := 4) sc__law_trunk.nd rfl (by first | exact .inl rfl | exact .inr rfl)) (pss_cons (ps_set (i := 5) sc__law_trunk.nd rfl (by first | exact .inl rfl | exact .inr rfl) (pe_call G__law_draw (hr.mono (by omega)) (by rfl) T.g__law_draw T.F__law_draw.kp (b__law_draw T) .nil pass0 (pa_cons (vr 0) (pa_cons pe_int pa_nil))))
      (pss_cons (ps_set (i := 6) sc__law_trunk.nd rfl (by first | exact .inl rfl | exact .inr rfl) (pe_call G__law_chars (hr.mono (by omega)) (by rfl) T.g__law_chars T.F__law_chars.kp (b__law_chars T) .nil pass0 (pa_cons (vr 0) pa_nil)))
      (pss_one (sif (tcmp (ksame K hr.units) (vr 5) pe_int (nomark _)) (pss_one (ps_expr (kapp (pe_bm PySem.F.plainAttrs_list PySem.F.slot_list_append PySem.F.type_list_append mt_append (up (vr 2)) (pa_cons (up (pe_tup (pa_cons pe_str (pa_cons (pe_call G__law_thing_of (hr.mono (by omega)) (by rfl) T.g__law_thing_of T.F__law_thing_of.kp (b__law_thing_of T) .nil pass0 (pa_cons (vr 0) (pa_cons (pe_call G__law_form (hr.mono (by omega)) (by rfl) T.g__law_form T.F__law_form.kp (b__law_form T) .nil pass0 (pa_cons (vr 0) (pa_cons pe_int pa_nil))) pa_nil))) pa_nil)))) pa_nil))))) (pss_one (sif (PW.pt (wor (tcmp op_ltI (vr 5) pe_int (nomark _)) (pw_or1 (tcmp (ksame K hr.units) (vr 1) pe_int (nomark _))))) (pss_one (sif (PW.pt (wand (tcmp (kother K hr.units) (vr 6) pe_str (nomark _)) (pw_and1 (PW.pt (wor (tcmp (keqE K hr.units) (vr 2) (pe_lst pa_nil) (nomark _)) (pw_or1 (tcmp (kother K hr.units) (pe_ix (kget K) (pe_ix (kget K) (vr 2) (pe_un un_negU pe_int) (fun _ _ => rfl)) pe_int (fun _ _ => rfl)) pe_str (nomark _)))))))) (pss_one (ps_expr (kapp (pe_bm PySem.F.plainAttrs_list PySem.F.slot_list_append PySem.F.type_list_append mt_append (up (vr 2)) (pa_cons (up (pe_tup (pa_cons pe_str (pa_cons (vr 6) pa_nil)))) pa_nil))))) pss_nil)) (pss_cons (ps_setLc (i := 7) (own := [("_law_each", 8)])  rfl sc__law_trunk.nd rfl rfl (sw_true rfl rfl rfl (by decide +kernel)) (ilist K (pe_call G__law_words (hr.mono (by omega)) (by rfl) T.g__law_words T.F__law_words.kp (b__law_words T) .nil pass0 (pa_cons (vr 0) (pa_cons (pe_call G__law_draw (hr.mono (by omega)) (by rfl) T.g__law_draw T.F__law_draw.kp (b__law_draw T) .nil pass0 (pa_cons (vr 0) (pa_cons pe_int pa_nil))) pa_nil)))) (blkOk_by (own := [("_law_each", 8)]) (N := ["_law_pool_here", "_law_deep", "_law_found", "_law_many", "_law_word", "_law_way", "_law_chars_here", "_law_rows", "_law_each"]) (sc := defScope s__law_trunk) (by decide +kernel)) (fun _ _ _ _ _ => (pg_name (i := 8) sc__law_trunk.nd rfl (by first | exact .inl rfl | exact .inr rfl))) (fun _ _ _ _ _ => pts_nil) (fun _ _ _ _ _ => up (pe_call G__law_attribute (hr.mono (by omega)) (by rfl) T.g__law_attribute T.F__law_attribute.kp (b__law_attribute T) .nil pass0 (pa_cons (vr 0) (pa_cons (vr 8) pa_nil)))))
      (pss_one (ps_expr (kapp (pe_bm PySem.F.plainAttrs_list PySem.F.slot_list_append PySem.F.type_list_append mt_append (up (vr 2)) (pa_cons (up (pe_tup (pa_cons pe_str (pa_cons (vr 4) (pa_cons (pe_callTy (ktup K) (by rfl) T.n_tuple (by decide +kernel) (pa_cons (vr 7) pa_nil)) (pa_cons (pe_call G__law_trunk (hr.mono (by omega)) (by rfl) T.g__law_trunk T.F__law_trunk.kp (b__law_trunk T) .nil pass0 (pa_cons (vr 0) (pa_cons (pe_op op_minus (vr 1) pe_int) pa_nil))) pa_nil)))))) pa_nil)))))))))))))
      (pss_one (ps_ret (vif (tcmp op_ltI (pe_callB (klen K) (by rfl) T.n_len (by decide +kernel) (pa_cons (pe_call G__law_sheet (hr.mono (by omega)) (by rfl) T.g__law_sheet T.F__law_sheet.kp (b__law_sheet T) .nil pass0 (pa_cons (vr 2) pa_nil)) pa_nil)) pe_int (nomark _)) (pe_callTy (ktup K) (by rfl) T.n_tuple (by decide +kernel) (pa_cons (vr 2) pa_nil)) (pe_tup (pa_cons (pe_tup (pa_cons pe_str (pa_cons pe_str pa_nil))) pa_nil))))))), ?_⟩)
  · unfold sp_trunk at h
    split at h
    · rfl
    · exact h.elim
  · unfold sp_trunk at h
    split at h
    · obtain ⟨rfl, hp, q⟩ := h
      rename_i a
      rw [st__law_trunk]
      refine ⟨Nat.le_of_ble_eq_true rfl, fun F nF => ?_⟩
      have neF := hp.ne nF
      refine ⟨hp.new neF, by decide, by decide, fun many H1 h0 h1 p1 k1 => ⟨_, _, rfl, ?_⟩⟩
      have f1 : H1 F = some (.lst []) := k1 F _ neF upd_same
      have k1 : Keep a H H1 := (keep_of (same_new nF)).trans k1
      simp only [List.set_cons_succ, List.set_cons_zero]
      refine ⟨p1, h0, by omega, fun L zs H2 l2 hz p2 k2 nL e2 => ?_⟩
      refine ⟨L, rfl, ⟨_, sqL_of e2⟩, fun D nD => ?_⟩
      refine lcl (xs := zs.map V.str) fr_same (fun _ v _ => ∃ z, v = .str z ∧ NameOk z ∧ z ≠ "data") trivial nD (by rw [List.length_map]; omega) (fun H3 _ s3 => sqL_of (s3 _ _ e2)) (fun _ _ _ _ h _ => h) (fun _ => rfl) (fun i x H3 hx _ s3 => ?_) (fun H3 ys _ s3 l3 e3 q3 => ?_)
      · rw [List.getElem?_map] at hx
        obtain ⟨z, hz', rfl⟩ := Option.map_eq_some_iff.mp hx
        have nz := hz z (List.mem_of_getElem? hz')
        refine br2 (fun e => ?_) (fun e => ?_)
        · refine ⟨trivial, Same.refl _, z, rfl, nz, fun e4 => ?_⟩
          subst e4
          cases e
        · exact ⟨trivial, Same.refl _, _, rfl, ⟨by decide, by decide, List.all_eq_true.mp (by decide +kernel)⟩, by decide⟩
      obtain ⟨ws, rfl, hw⟩ := strs_ofP (P := fun z => NameOk z ∧ z ≠ "data") q3
      rw [List.length_map, List.length_map] at l3
      have p3 := p2.same s3
      have k3 : Keep a H H3 := (k1.trans k2).trans (keep_of s3)
      have neD := p2.ne nD
      have f3 : H3 F = some (.lst []) := s3 _ _ (k2 F _ neF f1)
      have DF : D ≠ F := fun z => by
        rw [z] at e3
        rw [f3] at e3
        have : ws = [] := by
          cases ws with
          | nil => rfl
          | cons _ _ => cases e3
        rw [z, k2 F _ neF f1] at nD
        cases nD
      refine ⟨D, rfl, ⟨_, sqL_of e3⟩, for_list (xs := ws.map V.str) (fun i σ H' => Pool H' a ∧ Keep a H H' ∧ H' D = some (.lst (ws.map V.str)) ∧ ∃ (vs : List V) (ns : List Nd) (y4 y5 y6 y7 y8 : Option V), σ = [some (.ref a), some (.int n), some (.ref F), some (.int many), y4, y5, y6, y7, y8] ∧ H' F = some (.lst vs) ∧ Trk H' vs ns i n)
        ⟨p3, k3, e3, [], [], _, _, _, _, _, rfl, f3, ⟨.nil, Nat.le_refl _, Nat.zero_le _, rfl, (fun nd h => by cases h), (fun x h => by cases h)⟩⟩ (fun i σ H' _ hv => sqL_of hv.2.2.1) (fun i x σ H4 hx hv => ?_) (fun σ H4 hv => ?_)⟩
      · obtain ⟨p4, k4, d4, vs, ns, y4, y5, y6, y7, y8, rfl, f4, tk⟩ := hv
        have ilt : i < 3 := by
          have := (List.getElem?_eq_some_iff.mp hx).1
          rw [List.length_map] at this
          omega
        have lv : vs.length < 100000 := by
          have := tk.nds.length
          have := tk.len
          omega
        rw [List.getElem?_map] at hx
        obtain ⟨wd, hwd, rfl⟩ := Option.map_eq_some_iff.mp hx
        obtain ⟨nwd, nda⟩ := hw wd (List.mem_of_getElem? hwd)
        -- what is left to show behind a turn
        have next : ∀ (H5 : Hp) (y4 y5 y6 y7 y8 : Option V) (v : V) (nd : Nd), Pool H5 a → Keep a H4 H5 → NdV H5 v nd → nd.lev ≤ n → (nd.isT = false ∨ ∀ y, ns.getLast? = some y → y.isT = false) → (ndL nd).length ≤ 2100000 → Sm H5 v (wN n) (6 + 2 * n) →
            ∃ xs, H5 F = some (.lst xs) ∧ xs.length < sizeLine ∧ (Pool (upd H5 F (.lst (xs ++ [v]))) a ∧ Keep a H (upd H5 F (.lst (xs ++ [v]))) ∧ upd H5 F (.lst (xs ++ [v])) D = some (.lst (ws.map V.str)) ∧ ∃ (vs : List V) (ns : List Nd) (z4 z5 z6 z7 z8 : Option V), [some (.ref a), some (.int n), some (.ref F), some (.int many), y4, y5, y6, y7, y8] = [some (.ref a), some (.int n), some (.ref F), some (.int many), z4, z5, z6, z7, z8] ∧ upd H5 F (.lst (xs ++ [v])) F = some (.lst vs) ∧ Trk (upd H5 F (.lst (xs ++ [v]))) vs ns (i + 1) n) := by
          intro H5 y4 y5 y6 y7 y8 v nd p5 k5 hnd hl ht hb hs
          have f5 := k5 F _ neF f4
          have st : Stay H5 (upd H5 F (.lst (vs ++ [v]))) := (Stay.refl H5).lst f5
          refine ⟨vs, f5, size_lt lv, p5.new neF, fun b o nb hb => ?_, (upd_ne DF).trans (k5 D _ neD d4), _, ns ++ [nd], _, _, _, _, _, rfl, upd_same, ((tk.stay (k5.stay p4)).app hnd hl ht hb hs).stay st⟩
          rw [upd_ne (ne_of_none hb nF)]
          exact k5 b o nb (k4 b o nb hb)
        refine ⟨p4, by decide, by decide, fun way H5 g0 g1 p5 k5 => ?_⟩
        refine ⟨p5, fun z H6 tz p6 k6 => ?_⟩
        have k46 := k5.trans k6
        have f6 : H6 F = some (.lst vs) := k46 F _ neF f4
        simp only [List.set_cons_succ, List.set_cons_zero]
        refine br2 (fun e => ?_) (fun e => ?_)
        · refine ⟨⟨_, f6⟩, rfl, p6, fun f H7 f7 p7 k7 => ⟨p7, FormV.fw _ _ f7, fun v H8 g8 _ p8 k8 => ⟨Nat.le_of_ble_eq_true rfl, fun t nt => ?_⟩⟩⟩
          have gd : GoodV (upd H8 t (.tup [.str "data", v])) 4 v := GoodV.mono (newP_stay.trans (stay_new nt)) _ _ g8
          have g6 := GoodV.up _ _ (GoodV.up _ _ gd)
          refine next _ _ _ _ _ _ _ (.data (litH (upd H8 t (.tup [.str "data", v])) 6 v)) (p8.new (p8.ne nt)) ((k46.trans (k7.trans k8)).trans (keep_of (same_new nt))) (.data upd_same g6) (Nat.zero_le _) (.inl rfl) ?_ ?_
          · have ll := Nat.le_trans (lit_len 6 _ g6) (litS6 (Nat.le_refl 6))
            unfold ndL
            simp only [List.length_append, sl_len]
            show 6 + (_ + 7) ≤ _
            omega
          · have th : TextOk 4 "data" := ⟨by decide, List.all_eq_true.mp (by decide +kernel)⟩
            refine (Sm.tup (k := 5) upd_same (.cons (.str th) (.cons ((good_sm 4 _ gd).mono (Nat.le_refl _) (by decide)) .nil))).mono (Nat.le_trans ?_ (wN_up n)) (by omega)
            decide +kernel
        have stay : ∀ (y4 y5 y6 y7 y8 : Option V) (H7 : Hp), Same H6 H7 → (Pool H7 a ∧ Keep a H H7 ∧ H7 D = some (.lst (ws.map V.str)) ∧ ∃ (vs : List V) (ns : List Nd) (z4 z5 z6 z7 z8 : Option V), [some (.ref a), some (.int n), some (.ref F), some (.int many), y4, y5, y6, y7, y8] = [some (.ref a), some (.int n), some (.ref F), some (.int many), z4, z5, z6, z7, z8] ∧ H7 F = some (.lst vs) ∧ Trk H7 vs ns (i + 1) n) := fun y4 y5 y6 y7 y8 H7 s7 =>
          ⟨p6.same s7, (k4.trans k46).trans (keep_of s7), s7 _ _ (k46 D _ neD d4), vs, ns, _, _, _, _, _, rfl, s7 _ _ f6, (tk.stay ((k46.stay p4).trans (stay_of s7))).more⟩
        have txt : ∀ (y4 y5 y6 y7 y8 : Option V) (H7 : Hp) (t : Addr), 1 ≤ z.length → Same H6 H7 → H7 t = none → (∀ y, ns.getLast? = some y → y.isT = false) → _ := fun y4 y5 y6 y7 y8 H7 t lz s7 nt hl =>
          next (upd H7 t (.tup [.str "text", .str z])) y4 y5 y6 y7 y8 (.ref t) (.text z) ((p6.same s7).new ((p6.same s7).ne nt)) ((k46.trans (keep_of s7)).trans (keep_of (same_new nt))) (.text upd_same (tz.mono (by decide)) lz) (Nat.zero_le _) (.inr hl)
            (Nat.le_trans (by show (sl (txtE z)).length ≤ 749; rw [sl_len]; exact txt24 (Nat.le_trans tz.1 (by decide))) (by decide))
            ((Sm.tup (k := 5) upd_same (.cons (.str (n := 4) ⟨by decide, List.all_eq_true.mp (by decide +kernel)⟩) (.cons (.str tz) .nil))).mono (Nat.le_trans (by decide) (wN_up n)) (by omega))
        refine br2 (fun e2 => ?_) (fun e2 => ?_)
        · refine brT rfl ?_
          refine br2 (fun e3 => ?_) (fun e3 => ?_)
          · have lz : 1 ≤ z.length := by
              have e3 : (!decide (V.str z = V.str "")) = true := e3
              cases hc : z.cps.toList with
              | nil =>
                have : z = "" := str_ext (by rw [hc]; rfl)
                subst this
                cases e3
              | cons c r =>
                rw [len_list, hc]
                exact Nat.succ_le_succ (Nat.zero_le _)
            refine ⟨Nat.le_of_ble_eq_true rfl, fun l nl => ⟨vs, sqL_of (same_new nl _ _ f6), sqL_of upd_same, br2 (fun e4 => ?_) (fun e4 => ?_)⟩⟩
            · refine ⟨⟨_, same_new nl _ _ f6⟩, Nat.le_of_ble_eq_true rfl, fun t nt => txt _ _ _ _ _ _ t lz (same_new nl) nt fun y hy => ?_⟩
              have : ns.length = 0 := by
                rw [← tk.nds.length]
                cases vs with
                | nil => rfl
                | cons _ _ => cases e4
              cases ns with
              | nil => cases hy
              | cons _ _ => cases this
            · obtain ⟨v0, hv0⟩ : ∃ v, vs.getLast? = some v := by
                cases hq : vs.getLast? with
                | some v => exact ⟨v, rfl⟩
                | none =>
                  rw [List.getLast?_eq_none_iff] at hq
                  subst hq
                  cases e4
              obtain ⟨nd0, hn0, hd0⟩ := nds_last tk.nds v0 hv0
              obtain ⟨b0, z0, r0, rfl, hb0, t0, t1⟩ := node_head hd0
              have hb1 := ((k46.stay p4).trans (stay_new (o := .lst []) nl)) _ _ rfl hb0
              refine ⟨vs, _, .inl (sqL_of (same_new nl _ _ f6)), atI_last' hv0, _, _, .inr (sqT_of hb1), atI_zero _ _, br2 (fun e5 => ?_) (fun e5 => ?_)⟩
              · refine ⟨⟨_, same_new nl _ _ f6⟩, Nat.le_of_ble_eq_true rfl, fun t nt => txt _ _ _ _ _ _ t lz (same_new nl) nt fun y hy => ?_⟩
                rw [hn0] at hy
                cases hy
                cases hq : nd0.isT with
                | false => rfl
                | true =>
                  have := t1 hq
                  subst this
                  cases e5
              · exact stay _ _ _ _ _ _ (same_new nl)
          · exact stay _ _ _ _ _ _ (Same.refl _)
        refine br2 (fun e6 => ?_) (fun e6 => ?_)
        · refine br2 (fun e3 => ?_) (fun e3 => ?_)
          · have lz : 1 ≤ z.length := by
              have e3 : (!decide (V.str z = V.str "")) = true := e3
              cases hc : z.cps.toList with
              | nil =>
                have : z = "" := str_ext (by rw [hc]; rfl)
                subst this
                cases e3
              | cons c r =>
                rw [len_list, hc]
                exact Nat.succ_le_succ (Nat.zero_le _)
            refine ⟨Nat.le_of_ble_eq_true rfl, fun l nl => ⟨vs, sqL_of (same_new nl _ _ f6), sqL_of upd_same, br2 (fun e4 => ?_) (fun e4 => ?_)⟩⟩
            · refine ⟨⟨_, same_new nl _ _ f6⟩, Nat.le_of_ble_eq_true rfl, fun t nt => txt _ _ _ _ _ _ t lz (same_new nl) nt fun y hy => ?_⟩
              have : ns.length = 0 := by
                rw [← tk.nds.length]
                cases vs with
                | nil => rfl
                | cons _ _ => cases e4
              cases ns with
              | nil => cases hy
              | cons _ _ => cases this
            · obtain ⟨v0, hv0⟩ : ∃ v, vs.getLast? = some v := by
                cases hq : vs.getLast? with
                | some v => exact ⟨v, rfl⟩
                | none =>
                  rw [List.getLast?_eq_none_iff] at hq
                  subst hq
                  cases e4
              obtain ⟨nd0, hn0, hd0⟩ := nds_last tk.nds v0 hv0
              obtain ⟨b0, z0, r0, rfl, hb0, t0, t1⟩ := node_head hd0
              have hb1 := ((k46.stay p4).trans (stay_new (o := .lst []) nl)) _ _ rfl hb0
              refine ⟨vs, _, .inl (sqL_of (same_new nl _ _ f6)), atI_last' hv0, _, _, .inr (sqT_of hb1), atI_zero _ _, br2 (fun e5 => ?_) (fun e5 => ?_)⟩
              · refine ⟨⟨_, same_new nl _ _ f6⟩, Nat.le_of_ble_eq_true rfl, fun t nt => txt _ _ _ _ _ _ t lz (same_new nl) nt fun y hy => ?_⟩
                rw [hn0] at hy
                cases hy
                cases hq : nd0.isT with
                | false => rfl
                | true =>
                  have := t1 hq
                  subst this
                  cases e5
              · exact stay _ _ _ _ _ _ (same_new nl)
          · exact stay _ _ _ _ _ _ (Same.refl _)
        obtain ⟨m, rfl⟩ : ∃ m, n = m + 1 := by
          cases n with
          | zero => cases e6
          | succ m => exact ⟨m, rfl⟩
        have hI := hI m rfl
        subst hI
        have dm : ((m + 1 : Nat) : Int) - 1 = (m : Int) := by omega
        refine ⟨p6, by decide, by decide, fun i7 H7 g2 g3 p7 k7 => ?_⟩
        refine ⟨p7, g2, by omega, fun L2 zs2 H8 l8 hz8 p8 k8 nL2 e8 => ?_⟩
        have neL := p7.ne nL2
        refine ⟨L2, rfl, ⟨_, sqL_of e8⟩, fun D3 nD3 => ?_⟩
        refine lcl (xs := zs2.map V.str) (fr_keep (p8.ne nD3)) (fun _ v H => ∃ t, AttV H v t) p8 nD3 (by rw [List.length_map]; omega) (fun H9 p9 k9 => sqL_of (k9 L2 _ neL e8)) (fun _ v H H' h st => by obtain ⟨t, ht⟩ := h; exact ⟨t, ht.stay st⟩) (fun _ => rfl) (fun i x H9 hx p9 k9 => ?_) (fun H9 vs9 p9 k9 l9 e9 q9 => ?_)
        · rw [List.getElem?_map] at hx
          obtain ⟨z9, hz9, rfl⟩ := Option.map_eq_some_iff.mp hx
          exact ⟨p9, hz8 z9 (List.mem_of_getElem? hz9), fun t v H10 ht p10 k10 => ⟨p10, k10, t, ht⟩⟩
        · rw [List.length_map] at l9
          have k69 := (k7.trans k8).trans k9
          have f9 : H9 F = some (.lst vs) := k69 F _ neF f6
          refine ⟨⟨_, f9⟩, _, .inl ⟨sqL_of e9, fun r nr => ?_⟩⟩
          have p10 : Pool (upd H9 r (.tup vs9)) a := p9.new (p9.ne nr)
          refine ⟨dm, p10, fun v ns2 H11 tv p11 k11 => ⟨Nat.le_of_ble_eq_true rfl, fun t nt => ?_⟩⟩
          obtain ⟨⟨c, ws2, rfl, hc, hns2⟩, ln2, lv2, nt2, l900, sm2⟩ := tv
          have r11 : H11 r = some (.tup vs9) := k11.stay p10 _ _ rfl upd_same
          have st1 : Stay H9 H11 := (stay_new nr).trans (k11.stay p10)
          obtain ⟨as, hat, la⟩ : ∃ as, AttsV H11 vs9 as ∧ as.length ≤ 3 := by
            have gen : ∀ l : List V, (∀ (i : Nat) (y : V), l[i]? = some y → ∃ t, AttV H9 y t) → ∃ as, AttsV H11 l as ∧ as.length = l.length := by
              intro l
              induction l with
              | nil => intro _; exact ⟨[], .nil, rfl⟩
              | cons y l ih =>
                intro h
                obtain ⟨t, ht⟩ := h 0 y rfl
                obtain ⟨as, h1, h2⟩ := ih fun i y hy => h (i + 1) y (by simpa using hy)
                exact ⟨t :: as, .cons (ht.stay st1) h1, by rw [List.length_cons, List.length_cons, h2]⟩
            obtain ⟨as, h1, h2⟩ := gen vs9 q9
            exact ⟨as, h1, by omega⟩
          have st2 : Stay H11 (upd H11 t (.tup [.str "element", .str wd, .ref r, .ref c])) := stay_new nt
          have tot : (ndL (.elem wd as ns2)).length = 1 + (wd.length + (((as.map attL).flatten).length + (1 + ((ndsL ns2).length + (2 + (wd.length + 1)))))) := by
            unfold ndL
            simp only [List.length_append, sl_len]
            rfl
          have al := atts_len hat
          have wl := nwd.2.1
          refine next _ _ _ _ _ _ (.ref t) (.elem wd as ns2) (p11.new (p11.ne nt)) ((((k46.trans k69).trans (keep_of (same_new nr))).trans k11).trans (keep_of (same_new nt)))
            (.elem upd_same nwd nda (st2 _ _ rfl r11) (hat.stay st2) la (st2 _ _ rfl hc) (NdsV.stay st2 hns2) (by omega) nt2) (by show 1 + levs ns2 ≤ m + 1; omega) (.inl rfl) (by rw [tot]; omega) ?_
          have th : TextOk 7 "element" := ⟨by decide, List.all_eq_true.mp (by decide +kernel)⟩
          have sa : Sm (upd H11 t (.tup [.str "element", .str wd, .ref r, .ref c])) (.ref r) 6009 5 := (Sm.tup (k := 4) (st2 _ _ rfl r11) (SmL.of (w := 2000) fun x hx => by
            obtain ⟨i, hi, e⟩ := List.mem_iff_getElem.mp hx
            obtain ⟨t, _, ht⟩ := (hat.stay st2).at i x (by rw [List.getElem?_eq_getElem hi, e])
            exact att_sm ht)).mono (by omega) (by decide)
          refine (Sm.tup (k := 7 + 2 * m) upd_same (.cons (.str th) (.cons (.str nwd.text) (.cons (sa.mono (Nat.le_refl _) (by omega)) (.cons (sm2.stay st2) .nil))))).mono ?_ (by omega)
          show _ ≤ 7000 + 3 * (wN m + 2)
          omega
      · obtain ⟨p4, k4, d4, vs, ns, y4, y5, y6, y7, y8, rfl, f4, tk⟩ := hv
        have ln : ns.length ≤ 3 := by
          have := tk.len
          rw [List.length_map] at this
          omega
        have big := nds_sum tk.big
        have lvl := tk.nds.length
        refine ⟨ns, ⟨F, vs, rfl, .inl f4, tk.nds⟩, by omega, Nat.le_trans tk.lev hn, by unfold maxS; omega, fun z H5 ez s5 => ?_⟩
        have zl : z.length = (ndsL ns).length := by rw [len_list]; exact congrArg List.length ez
        have k5 := k4.trans (keep_of (a := a) s5)
        refine ⟨by show z.length ≤ 16777216; omega, br2 (fun e => ?_) (fun e => ?_)⟩
        · have e := of_decide_eq_true e
          refine ⟨vs, .inl ⟨sqL_of (s5 _ _ f4), fun t nt => ?_⟩⟩
          have st := (stay_of s5).trans (stay_new (o := .tup vs) nt)
          have tk := tk.stay st
          refine q _ ns _ ⟨⟨t, vs, rfl, upd_same, tk.nds⟩, ln, tk.lev, tk.two, by omega, ?_⟩ ((p4.same s5).new ((p4.same s5).ne nt)) (k5.trans (keep_of (same_new nt)))
          refine (Sm.tup upd_same (SmL.of tk.sm)).mono ?_ (by omega)
          exact Nat.add_le_add_right (Nat.mul_le_mul_right _ (by omega)) 3
        · refine ⟨Nat.le_of_ble_eq_true rfl, fun t nt => ⟨Nat.le_of_ble_eq_true rfl, fun t2 nt2 => ?_⟩⟩
          have ta : TextOk 1 "a" := ⟨by decide, List.all_eq_true.mp (by decide +kernel)⟩
          have th : TextOk 4 "text" := ⟨by decide, List.all_eq_true.mp (by decide +kernel)⟩
          have n1 : NdV (upd (upd H5 t (.tup [.str "text", .str "a"])) t2 (.tup [.ref t])) (.ref t) (.text "a") := .text (same_new nt2 _ _ upd_same) (ta.mono (by decide)) (by decide)
          refine q _ [.text "a"] _ ⟨⟨t2, [.ref t], rfl, upd_same, .cons n1 .nil⟩, by decide, Nat.zero_le _, rfl, by decide +kernel, ?_⟩ ((p4.same s5).same ((same_new nt).trans (same_new nt2))) (k5.trans (keep_of ((same_new nt).trans (same_new nt2))))
          have s1 : Sm (upd (upd H5 t (.tup [.str "text", .str "a"])) t2 (.tup [.ref t])) (.ref t) 100 3 := (Sm.tup (k := 2) (same_new nt2 _ _ upd_same) (.cons (.str th) (.cons (.str ta) .nil))).mono (by decide) (by decide)
          have := wN_up n
          exact (Sm.tup (k := 3) upd_same (.cons s1 .nil)).mono (by omega) (by omega)
    · exact h.elim
theorem no_trunk (T : Top K mg) : Ok__law_trunk P w base T 14 (fun _ _ _ _ => False) := ⟨fun _ _ _ _ h => h.elim, fun _ _ _ _ _ _ _ _ _ _ _ _ _ h => h.elim⟩
theorem ok_trunk (T : Top K mg) : ∀ n, n ≤ 3 → Ok__law_trunk P w base T (n + 15) (sp_trunk n)
  | 0, _ => step_trunk T 0 14 (by decide) (by decide) _ (no_trunk T) fun m e => by cases e
  | n + 1, h => step_trunk T (n + 1) (n + 15) h (by omega) _ (ok_trunk T n (by omega)) fun m e => by cases e; rfl
end
end Sk
/-! Sk: _law_bent -/
namespace Sk
open PySem PySem.Spec PyProof.Rows L2
section
variable {P : Program} {w : World} {K : PySem.W.Frag} {mg : Str → Option Value} {base : Heap}
def spBent (m : Nat) : Sp := fun vs H Q _ => ∃ a v o d od, vs = [.ref a, v, o] ∧ Pool H a ∧ Bnt H a v m d ∧ DL (hide a H) o od ∧ OddD od ∧ ∀ v' d' H', Pool H' a → Keep a H H' → BntO H' a v' m d' → Q v' H'
theorem step_bent (T : Top K mg) (m k : Nat) (hk : 1 ≤ k) (spI : Sp) (G__law_bent : Ok__law_bent P w base T k spI) (hI : ∀ j, m = j + 1 → spI = spBent j) : Ok__law_bent P w base T (k + 1) (spBent m) := by
  have G__law_draw : Ok__law_draw P w base T 1 sp_draw := ok_draw T 0
  refine T.F__law_bent.ok sc__law_bent (fun vs H Q E h => by obtain ⟨a, v, o, d, od, rfl, _⟩ := h; rfl) (fun cdv A outer s H vs Q E hr h => ⟨_, PSs.nox (pss_cons (ps_par (by rfl) sc__law_bent.nd (i := 4) (j := 5) rfl rfl (by decide) rfl rfl (pa_cons (pe_call G__law_draw (hr.mono (by omega)) (by rfl) T.g__law_draw T.F__law_draw.kp (b__law_draw T) .nil pass0 (pa_cons (vr 0) (pa_cons (pe_op (kplus K) (pe_callB (klen K) (by rfl) T.n_len (by decide +kernel) (pa_cons (vr 1) pa_nil)) pe_int) pa_nil))) (pa_cons (pe_lc (own := [("_law_k", 3)])  rfl sc__law_bent.nd (pi_range1 (by rfl) T.n_range (pa_cons (pe_callB (klen K) (by rfl) T.n_len (by decide +kernel) (pa_cons (vr 1) pa_nil)) pa_nil)) (blkOk_by (own := [("_law_k", 3)]) (N := ["_law_pool_here", "_law_trunk_here", "_law_odd", "_law_k", "_law_at", "_law_inner", "_law_node"]) (sc := defScope s__law_bent) (by decide +kernel)) (fun _ _ _ _ _ => (pg_name (i := 3) sc__law_bent.nd rfl (by first | exact .inl rfl | exact .inr rfl))) (fun _ _ _ _ _ => (pts_one (upt (tcmp (ksame K hr.units) (pe_ix (kget K) (pe_ix (kget K) (vr 1) (vr 3) (fun _ _ => rfl)) pe_int (fun _ _ => rfl)) pe_str (nomark _))))) (fun _ _ _ _ _ => up (vr 3))) pa_nil)) (by rfl))
      (pss_cons (sif (PW.pt (wor (tcmp (keqE K hr.units) (vr 5) (pe_lst pa_nil) (nomark _)) (pw_or1 (tcmp (ksame K hr.units) (pe_call G__law_draw (hr.mono (by omega)) (by rfl) T.g__law_draw T.F__law_draw.kp (b__law_draw T) .nil pass0 (pa_cons (vr 0) (pa_cons pe_int pa_nil))) pe_int (nomark _))))) (pss_one (ps_ret (pe_op (kplus K) (pe_op (kplus K) (pe_slice (kcut K) (vr 1) po_none (po_u (vr 4))) (pe_tup (pa_cons (vr 2) pa_nil))) (pe_slice (kcut K) (vr 1) (po_u (vr 4)) po_none)))) pss_nil)
      (pss_cons (ps_set (i := 3) sc__law_bent.nd rfl (by first | exact .inl rfl | exact .inr rfl) (pe_ix (kget K) (vr 5) (pe_call G__law_draw (hr.mono (by omega)) (by rfl) T.g__law_draw T.F__law_draw.kp (b__law_draw T) .nil pass0 (pa_cons (vr 0) (pa_cons (pe_callB (klen K) (by rfl) T.n_len (by decide +kernel) (pa_cons (vr 5) pa_nil)) pa_nil))) (fun _ _ => rfl)))
      (pss_cons (ps_set (i := 6) sc__law_bent.nd rfl (by first | exact .inl rfl | exact .inr rfl) (pe_op (kplus K) (pe_slice (kcut K) (pe_ix (kget K) (vr 1) (vr 3) (fun _ _ => rfl)) po_none (po_u pe_int)) (pe_tup (pa_cons (pe_call G__law_bent (hr.mono (by omega)) (by rfl) T.g__law_bent T.F__law_bent.kp (b__law_bent T) .nil pass0 (pa_cons (vr 0) (pa_cons (pe_ix (kget K) (pe_ix (kget K) (vr 1) (vr 3) (fun _ _ => rfl)) pe_int (fun _ _ => rfl)) (pa_cons (vr 2) pa_nil)))) pa_nil))))
      (pss_one (ps_ret (pe_op (kplus K) (pe_op (kplus K) (pe_slice (kcut K) (vr 1) po_none (po_u (vr 3))) (pe_tup (pa_cons (vr 6) pa_nil))) (pe_slice (kcut K) (vr 1) (po_u (pe_op (kplus K) (vr 3) pe_int)) po_none)))))))), ?_⟩)
  obtain ⟨a, v, o, d, od, rfl, pl, bn, ho, oo, q⟩ := h
  obtain ⟨⟨p, vs, ns, rfl, hp, hns, l4, lv⟩, dl, sz, sh⟩ := bn
  have pne := pl.tup hp
  obtain ⟨ds, rfl, hds⟩ := dl.tupI ((hide_ne pne).trans hp)
  have len := hns.length
  have lds := hds.len
  have szE := sz.tupE
  have shL : ShL ds 1100000 10 := ShL.inv sh
  rw [st__law_bent]
  refine ⟨vs, .inr (sqT_of hp), ⟨pl, by omega, by omega, fun t H1 t0 t1 pl1 k1 => ?_⟩⟩
  have hp1 := k1 _ _ pne hp
  refine ⟨vs, .inr (sqT_of hp1), ?_⟩
  refine ⟨_, rfl, by omega, by omega, fun D nD => ?_⟩
  have nDa : D ≠ a := fun z => by
    obtain ⟨_, _, _, h1, _⟩ := pl1
    rw [z, h1] at nD
    cases nD
  refine lcF (fun H2 => ∀ b o, b ≠ D → H1 b = some o → H2 b = some o) (fun y => ∃ (i : Nat) (nm : Str) (as : List Att) (kids : List Nd), y = .int (i : Int) ∧ ns[i]? = some (.elem nm as kids)) (fun b o ne hb => by rw [upd_ne ne]; exact hb) (by omega) (fun H2 l j b o ne hb => by rw [upd_ne ne]; exact j b o ne hb) (fun _ => rfl) (fun i H2 ys hi j e => ?_) (fun H2 ys j ly e py => ?_)
  · have hi : i < vs.length := by omega
    have hp2 := j _ _ (fun z => by rw [z, nD] at hp1; cases hp1) hp1
    obtain ⟨nd, e1, hnd⟩ := hns.at i vs[i] (List.getElem?_eq_getElem hi)
    have on : ∀ {b : Addr} {xs : List V}, H b = some (.tup xs) → H2 b = some (.tup xs) := fun {b xs} hb => j _ _ (fun z => by
      have := k1 _ _ (pl.tup hb) hb
      rw [z, nD] at this
      cases this) (k1 _ _ (pl.tup hb) hb)
    have eat : atI vs (0 + (i : Int)) = some vs[i] := by
      unfold atI ixN
      rw [if_pos (by omega), if_pos (by omega)]
      show vs[(0 + (i : Int)).toNat]? = _
      rw [show (0 + (i : Int)).toNat = i by omega]
      exact List.getElem?_eq_getElem hi
    revert eat hnd
    generalize vs[i] = x
    intro hnd eat
    refine ⟨vs, x, .inr (sqT_of hp2), eat, ?_⟩
    cases hnd with
    | text hb _ _ => exact ⟨_, _, .inr (sqT_of (on hb)), rfl, j, e, fun z => by cases z⟩
    | data hb _ => exact ⟨_, _, .inr (sqT_of (on hb)), rfl, j, e, fun z => by cases z⟩
    | elem hb _ _ _ _ _ _ _ _ _ => exact ⟨_, _, .inr (sqT_of (on hb)), rfl, j, e, fun _ => ⟨j, e, i, _, _, _, by rw [Int.zero_add], e1⟩⟩
  have s2 : Same H1 H2 := fun b o hb => j b o (fun z => by rw [z, nD] at hb; cases hb) hb
  have pl2 := pl1.same s2
  have k2 : Keep a H H2 := k1.trans (keep_of s2)
  clear j nD
  refine ⟨_, _, rfl, ?_⟩
  simp only [gName, List.set_cons_succ, List.set_cons_zero]
  refine ⟨Nat.le_of_ble_eq_true rfl, fun e0 n0 => ⟨ys, sqL_of (same_new n0 _ _ e), sqL_of upd_same, ?_⟩⟩
  generalize g0 : upd _ e0 _ = G0
  obtain ⟨b0, _, _⟩ := lay_of g0 n0
  clear g0 n0
  have pl3 := pl2.same b0
  have k3 := k2.trans (keep_of b0)
  have e3 := b0 _ _ e
  clear e
  cases ys with
  | nil =>
    have plX := pl3
    have kkX := k3
    have hpX := k3 _ _ pne hp
    revert plX kkX hpX
    generalize G0 = HX
    intro plX kkX hpX
    refine slT (hpX) fun u1 B1 b1 h1 => ?_
    rw [cut_to t0 (by omega)] at h1
    refine ⟨Nat.le_of_ble_eq_true rfl, fun u2 n2 => ?_⟩
    generalize g2 : upd _ u2 _ = B2
    obtain ⟨b2, h2, _⟩ := lay_of g2 n2
    clear g2
    refine catT (b2 _ _ h1) h2 (by rw [List.length_take, List.length_singleton]; omega) fun u3 B3 b3 h3 => ?_
    refine slT ((b1.trans (b2.trans b3)) _ _ hpX) fun u4 B4 b4 h4 => ?_
    rw [cut_fr t0 (by omega)] at h4
    refine catT (b4 _ _ h3) h4 (by rw [List.length_append, List.length_take, List.length_drop, List.length_singleton]; omega) fun u5 B5 b5 h5 => ?_
    have bX : Same HX B5 := (((b1.trans b2).trans b3).trans b4).trans b5
    have kX : Keep a H B5 := kkX.trans (keep_of bX)
    have pX : Pool B5 a := plX.same bX
    obtain ⟨z1, z2, z3⟩ := bent_in (i := t.toNat) (m := m) (by omega) szE shL oo
    exact q _ _ _ pX kX ⟨tupD pX h5 ((((hds.same (keep_hide kX)).take _).app (.cons (ho.same (keep_hide kX)) .nil)).app ((hds.same (keep_hide kX)).drop _)), z1, z2, z3⟩
  | cons y ys =>
    refine ⟨pl3, by decide, by decide, fun c H4 c0 c1 pl4 k4 => ?_⟩
    have kk4 := k3.trans k4
    refine br2 (fun ec => ?_) (fun ec => ?_)
    · have plX := pl4
      have kkX := kk4
      have hpX := kk4 _ _ pne hp
      revert plX kkX hpX
      generalize H4 = HX
      intro plX kkX hpX
      refine slT (hpX) fun u1 B1 b1 h1 => ?_
      rw [cut_to t0 (by omega)] at h1
      refine ⟨Nat.le_of_ble_eq_true rfl, fun u2 n2 => ?_⟩
      generalize g2 : upd _ u2 _ = B2
      obtain ⟨b2, h2, _⟩ := lay_of g2 n2
      clear g2
      refine catT (b2 _ _ h1) h2 (by rw [List.length_take, List.length_singleton]; omega) fun u3 B3 b3 h3 => ?_
      refine slT ((b1.trans (b2.trans b3)) _ _ hpX) fun u4 B4 b4 h4 => ?_
      rw [cut_fr t0 (by omega)] at h4
      refine catT (b4 _ _ h3) h4 (by rw [List.length_append, List.length_take, List.length_drop, List.length_singleton]; omega) fun u5 B5 b5 h5 => ?_
      have bX : Same HX B5 := (((b1.trans b2).trans b3).trans b4).trans b5
      have kX : Keep a H B5 := kkX.trans (keep_of bX)
      have pX : Pool B5 a := plX.same bX
      obtain ⟨z1, z2, z3⟩ := bent_in (i := t.toNat) (m := m) (by omega) szE shL oo
      exact q _ _ _ pX kX ⟨tupD pX h5 ((((hds.same (keep_hide kX)).take _).app (.cons (ho.same (keep_hide kX)) .nil)).app ((hds.same (keep_hide kX)).drop _)), z1, z2, z3⟩
    · have e4 := k4 _ _ nDa e3
      refine ⟨_, .inl (sqL_of e4), pl4, by simp only [List.length_cons]; omega, by simp only [List.length_cons] at *; omega, fun c2 H5 c20 c21 pl5 k5 => ?_⟩
      have e5 := k5 _ _ nDa e4
      obtain ⟨yv, ey, my⟩ := atI_in c20 c21
      obtain ⟨i, nm, as, kids, rfl, hi⟩ := py yv my
      refine ⟨_, _, .inl (sqL_of e5), ey, ?_⟩
      simp only [gName, List.set_cons_succ, List.set_cons_zero]
      have kk5 := kk4.trans k5
      have hil : i < vs.length := by rw [len]; exact (List.getElem?_eq_some_iff.mp hi).1
      obtain ⟨nd, hnd1, hnd⟩ := hns.at i vs[i] (List.getElem?_eq_getElem hil)
      rw [hi] at hnd1
      cases hnd1
      have eat : atI vs (i : Int) = some vs[i] := by
        unfold atI ixN
        rw [if_pos (by omega), if_pos (by omega)]
        show vs[(i : Int).toNat]? = _
        rw [show (i : Int).toNat = i by omega]
        exact List.getElem?_eq_getElem hil
      obtain ⟨dn, hdn, hdl⟩ := hds.at i vs[i] (List.getElem?_eq_getElem hil)
      have lvk : 1 + levs kids ≤ m := Nat.le_trans (lev_le hi) lv
      revert eat hnd hdl
      generalize vs[i] = x
      intro hnd eat hdl
      cases hnd with
      | @elem b p3 q3 _ as3 ws3 _ _ hb nok nd hp3 hat la hq3 hns3 ln nt =>
      have bne := pl.tup hb
      have qne := pl.tup hq3
      obtain ⟨dd, rfl, hdd⟩ := hdl.tupI ((hide_ne bne).trans hb)
      obtain ⟨x1, x2, x3, x4, rfl, d1, d2, d3, d4⟩ := hdd.four
      cases d1.strI
      have mem := List.mem_of_getElem? hdn
      cases m with
      | zero => omega
      | succ m =>
      have hI := hI m rfl
      subst hI
      refine ⟨_, _, .inr (sqT_of (kk5 _ _ pne hp)), eat, ?_⟩
      refine slT (kk5 _ _ bne hb) fun u1 B1 b1 h1 => ?_
      have h1 : B1 u1 = some (.tup [.str "element", .str nm, .ref p3]) := h1
      have kB1 := kk5.trans (keep_of b1)
      refine ⟨_, _, .inr (sqT_of (kB1 _ _ pne hp)), eat, _, _, .inr (sqT_of (kB1 _ _ bne hb)), rfl, ?_⟩
      have shN := ShL.inv (shL.mem mem)
      refine ⟨a, _, o, x4, od, rfl, pl5.same b1, ⟨⟨q3, ws3, kids, rfl, kB1 _ _ qne hq3, NdsV.stay (kB1.stay pl) hns3, by omega, by omega⟩, d4.same (keep_hide kB1), (szE _ mem).tupE _ (by simp), (shN.mem (by simp)).mono (Nat.le_refl _) (by decide)⟩, ho.same (keep_hide kB1), oo, fun v' d' H6 pl6 k6 bo => ?_⟩
      refine ⟨Nat.le_of_ble_eq_true rfl, fun u2 n2 => ?_⟩
      generalize g2 : upd _ u2 _ = B2
      obtain ⟨b2, h2, _⟩ := lay_of g2 n2
      clear g2
      have pB2 := pl6.same b2
      have u1ne : u1 ≠ a := (pl5.same b1).tup h1
      have k16 : Keep a B1 B2 := k6.trans (keep_of b2)
      refine catT (k16 _ _ u1ne h1) h2 (Nat.le_of_ble_eq_true rfl) fun u3 B3 b3 h3 => ?_
      have h3 : B3 u3 = some (.tup [.str "element", .str nm, .ref p3, v']) := h3
      simp only [gName, List.set_cons_succ, List.set_cons_zero]
      have kB3 : Keep a H B3 := (kB1.trans k16).trans (keep_of b3)
      have pB3 := pB2.same b3
      refine slT (kB3 _ _ pne hp) fun w1 C1 c1' hw1 => ?_
      rw [cut_to (by omega) (by omega)] at hw1
      refine ⟨Nat.le_of_ble_eq_true rfl, fun w2 m2 => ?_⟩
      generalize g2 : upd _ w2 _ = C2
      obtain ⟨c2', hw2, _⟩ := lay_of g2 m2
      clear g2
      refine catT (c2' _ _ hw1) hw2 (by rw [List.length_take, List.length_singleton]; omega) fun w3 C3 c3' hw3 => ?_
      have cc := (c1'.trans c2').trans c3'
      refine slT (cc _ _ (kB3 _ _ pne hp)) fun w4 C4 c4' hw4 => ?_
      rw [show ((i : Int) + 1) = ((i + 1 : Nat) : Int) by omega, cut_fr (by omega) (by omega)] at hw4
      refine catT (c4' _ _ hw3) hw4 (by rw [List.length_append, List.length_take, List.length_drop, List.length_singleton]; omega) fun w5 C5 c5' hw5 => ?_
      have c35 : Same B3 C5 := (cc.trans c4').trans c5'
      have kX : Keep a H C5 := kB3.trans (keep_of c35)
      have pX : Pool C5 a := pB3.same c35
      obtain ⟨z1, z2, z3⟩ := bent_at (by omega) szE shL hdn (by decide +kernel) bo.sz bo.no bo.sh
      have k6X : Keep a H6 C5 := (keep_of b2).trans ((keep_of b3).trans (keep_of c35))
      have dN : DL (hide a C5) (.ref u3) (.tuple [.str "element", x2, x3, d']) := tupD pX (c35 _ _ h3) (.cons (.str _) (.cons (d2.same (keep_hide kX)) (.cons (d3.same (keep_hide kX)) (.cons (bo.dl.same (keep_hide k6X)) .nil))))
      refine q _ _ _ pX kX ⟨tupD pX hw5 ((((hds.same (keep_hide kX)).take _).app (.cons dN .nil)).app ((hds.same (keep_hide kX)).drop _)), ?_, ?_, ?_⟩
      · exact z1
      · exact z2
      · exact z3
theorem no_bent (T : Top K mg) : Ok__law_bent P w base T 1 (fun _ _ _ _ => False) := ⟨fun _ _ _ _ h => h.elim, fun _ _ _ _ _ _ _ _ _ _ _ _ _ h => h.elim⟩
theorem ok_bent (T : Top K mg) : ∀ m, Ok__law_bent P w base T (m + 2) (spBent m)
  | 0 => step_bent T 0 1 (by decide) _ (no_bent T) fun j e => by cases e
  | m + 1 => step_bent T (m + 1) (m + 2) (by omega) _ (ok_bent T m) fun j e => by cases e; rfl
end
end Sk
/-! Sk: a call by name that may raise -/
namespace Sk
open PySem PySem.Spec PyProof.Rows L2
section
variable {X : Cx}
def uCallKX (sp : Sp) (m : Nat) (gV : List V → List V) (E : XK) (tk : TA) : TE := fun σ H Q => tk σ H fun zs H2 => zs.length = m ∧ sp (gV zs) H2 Q E
theorem pe_callKX {CX : CXT} {k : Nat} {f : Addr} {fd : FuncData} {ps ks : List Str} {sp : Sp} {E : XK} {x : Str} {p pos : Pos} {kws : List Keyword} {tk : TA} {g : List Value → List Value} {gV : List V → List V} (F : FnOk X.prog X.w X.K X.mg X.base CX k f fd ps sp) (hr : Room k X.A) (hg : Gl X x) (hm : X.mg x = some (.ref f))
    (hk : PySem.W.keepIn X.K (.ref f) = true) (hb : KBn X.K fd ps 0 ks (fun _ => g) (fun _ => gV)) (hx : Passes CX X E) (hkw : PK X kws tk) (hall : (backToKw pos (keywordEach kws X.env)).all (·.1.isSome) = true := by rfl) (hks : (backToKw pos (keywordEach kws X.env)).filterMap (·.1) = ks := by rfl)
    (hdb : (x == ("__debug__" : Str)) = false := by decide) (hpl : ((backTo pos (starEach [] X.env)).any (·.1) || (backToKw pos (keywordEach kws X.env)).any (·.1.isNone)) = false := by rfl) :
    PE X (.Call (.Name x p) [] kws pos) (uCallKX sp ks.length gV E tk) := by
  refine ⟨fun pins s σ H Q I h => ?_⟩
  refine wpAny_Call_Name_kw (ld_glob I hg hm ?_ hdb)
  refine PySem.W.callWith_KW0 (h₀ := X.base) I.ok.mod.kin hk hall (thn (hkw.run pos pins s σ H _ I h) fun ws s2 z => ?_) hpl
  obtain ⟨zs, H2, I2, rz, l2, q2⟩ := z
  refine ⟨I2.kIn, ?_⟩
  rw [hks]
  exact run_fnN (us := []) (vs := []) F hr hb hx I2 .nil rz rfl l2 q2
end
theorem errW3 : errW 3 = "tree" := rfl
end Sk
/-! Sk: _law_refused -/
namespace Sk
open PySem PySem.Spec PyProof.Rows L2
section
variable {P : Program} {w : World} {K : PySem.W.Frag} {mg : Str → Option Value} {base : Heap}
theorem caughtW {C : Addr} {σ : L2.St} {H1 : Hp} {Q0 : VK} {v : V} {d : PyData} (kd : KindAt K C 3) (h0 : σ[0]? = some (some v)) (dl : DL H1 v d) (sz : Sz d) (no : nodesD 30 d = false) (hq : ∀ pz H', Same H1 H' → H' pz = some (.lst [.str (errW 3), v]) → Q0 (.ref pz) H') :
    TCaught K (fun E H' Q' => tCall (spW C) [] E (tCons (uVar 0) tNil) σ H' Q') H1 Q0 := by
  dsimp only [TCaught, tCall, tCons, tNil]
  refine uV h0 ?_
  exact ⟨v, d, rfl, dl, sz, .inl ⟨no, fun H' dd s' nd => caughtE kd rfl nd fun pz H3 s3 h3 => hq pz H3 (s'.trans s3) h3⟩⟩
theorem caughtWK {C : Addr} {σ : L2.St} {H1 : Hp} {Q0 : VK} {v : V} {d : PyData} (kd : KindAt K C 3) (h0 : σ[0]? = some (some v)) (dl : DL H1 v d) (sz : Sz d) (no : nodesD 30 d = false) (hq : ∀ pz H', Same H1 H' → H' pz = some (.lst [.str (errW 3), v]) → Q0 (.ref pz) H') :
    TCaught K (fun E H' Q' => uCallKX (spW C) 1 (fun zs => zs) E (tCons (uVar 0) tNil) σ H' Q') H1 Q0 := by
  dsimp only [TCaught, uCallKX, tCons, tNil]
  refine uV h0 ?_
  exact ⟨rfl, v, d, rfl, dl, sz, .inl ⟨no, fun H' dd s' nd => caughtE kd rfl nd fun pz H3 s3 h3 => hq pz H3 (s'.trans s3) h3⟩⟩
theorem tabs_lst {T : List (Addr × Str)} {F : Addr} {H : Hp} {xs ys : List V} (t : LamX.Tabs T H) (h : H F = some (.lst xs)) : LamX.Tabs T (upd H F (.lst ys)) := by
  intro p hp
  obtain ⟨ps, h1, h2, h3⟩ := t p hp
  refine ⟨ps, by rw [upd_ne (fun z => by rw [z, h] at h1; cases h1)]; exact h1, h2, fun pos cv hc => ?_⟩
  obtain ⟨c, e1, e2⟩ := h3 pos cv hc
  refine ⟨c, e1, ?_⟩
  rw [upd_ne (fun z => ?_)]
  · exact e2
  · rw [z, h] at e2
    have e3 : HO.lst xs = LamX.CodeO F p.2 := Option.some.inj e2
    cases e3
abbrev cF (K : PySem.W.Frag) : Addr × Addr := He.cT K ("_law_refused", none)
abbrev tF (K : PySem.W.Frag) : List (Addr × Str) := [((cF K).2, (envOfC "_law_refused" (defScope s__law_refused) 0 0 .none).qual ++ "<lambda>")]
def spRef (K : PySem.W.Frag) : Sp := fun vs H Q _ => ∃ v d, vs = [v] ∧ DL H v d ∧ Sz d ∧ nodesD 30 d = false ∧ ShD d 6000000 40 ∧ LamX.Tabs (tF K) H ∧ ∀ H', At (tF K) (noT H) H' → Q (.bl true) H'
theorem ok_ref (T : Top K mg) (tb : LamX.TabB base mg (cF K).1 (cF K).2) (k : Nat) : FnG P w K mg base (k + 80) (He.ga K "_law_refused") T.fd__law_refused ["_law_thing_here"] (spRef K) := by
  have G_is_tree : Ok_is_tree P w base T 72 (spD (nodesD 30)) := ok_treeD T 0
  have X_write : FnOk P w K mg base (L2.CX P w) 73 (He.ga K "write") T.fd_write ["tree"] (spW (He.ga K "InvalidTree")) := ok_writeD T 0
  have hcode := code_at T.F__law_refused
  refine fnGc_of T.F__law_refused sc__law_refused (fun vs H Q E h => by obtain ⟨v, d, rfl, _⟩ := h; rfl) (fun A outer s H vs Q E gd hr h => ⟨_, (pss_cons (ps_set (i := 1) sc__law_refused.nd rfl (by first | exact .inl rfl | exact .inr rfl) (pe_lst (pa_cons (pe_call G_is_tree (hr.mono (by omega)) (by rfl) T.g_is_tree T.F_is_tree.kp (b_is_tree T) .nil pass0 (pa_cons (vr 0) pa_nil)) (pa_cons (pe_callK0 G_is_tree (hr.mono (by omega)) (by rfl) T.g_is_tree T.F_is_tree.kp (kb_one T.F_is_tree (fun _ _ _ _ _ _ _ => rfl)) (pk_cons (vr 0) pk_nil)) pa_nil))))
      (pss_cons (sif (PW.pt (wor (tcmp (kother K hr.units) (vr 1) (pe_lst (pa_cons pe_bl (pa_cons pe_bl pa_nil))) (nomark _)) (pw_or1 (pt_not (tst (pe_callB (kall K rfl) (by rfl) T.n_all (by decide +kernel) (pa_cons (pe_lc (own := [("_law_each", 3)])  rfl sc__law_refused.nd (ilist K (vr 1)) (blkOk_by (own := [("_law_each", 3)]) (N := ["_law_thing_here", "_law_told", "_law_found", "_law_each"]) (sc := defScope s__law_refused) (by decide +kernel)) (fun _ _ _ _ _ => (pg_name (i := 3) sc__law_refused.nd rfl (by first | exact .inl rfl | exact .inr rfl))) (fun _ _ _ _ _ => pts_nil) (fun _ _ _ _ _ => up (pe_callB (kis K) (by rfl) T.n_isinstance (by decide +kernel) (pa_cons (vr 3) (pa_cons (pe_bltn (v := .ty "bool") (by rfl) T.n_bool (by decide +kernel) rfl) pa_nil))))) pa_nil))))))) (pss_one (ps_ret pe_bl)) pss_nil)
      (pss_cons (ps_set (i := 2) sc__law_refused.nd rfl (by first | exact .inl rfl | exact .inr rfl) (pe_lst (pa_cons (lam_caught (k := 72) T (by rfl) tb hcode (List.mem_singleton.mpr rfl) (fun p hp _ => by rw [List.mem_singleton.mp hp]) (hr.mono (by omega)) (LamX.lamS_by (sc := defScope s__law_refused) (by decide +kernel)) rfl (fun _ _ _ _ _ => rfl) (fun A2 outer2 s2 H2 E2 f2 c2 hr2 => (pe_call X_write (hr2.mono (by omega)) (by rfl) T.g_write T.F_write.kp (b_write T) .nil (passes_call (takes_of rfl rfl rfl rfl) (fun _ _ _ _ h => h)) (pa_cons (vr 0) pa_nil)))) pa_nil)))
      (pss_cons (ps_expr (kapp (pe_bm PySem.F.plainAttrs_list PySem.F.slot_list_append PySem.F.type_list_append mt_append (up (vr 2)) (pa_cons (up (lam_caught (k := 72) T (by rfl) tb hcode (List.mem_singleton.mpr rfl) (fun p hp _ => by rw [List.mem_singleton.mp hp]) (hr.mono (by omega)) (LamX.lamS_by (sc := defScope s__law_refused) (by decide +kernel)) rfl (fun _ _ _ _ _ => rfl) (fun A2 outer2 s2 H2 E2 f2 c2 hr2 => (pe_callKX X_write (hr2.mono (by omega)) (by rfl) T.g_write T.F_write.kp (kb_one T.F_write (fun _ _ _ _ _ _ _ => rfl)) (passes_call (takes_of rfl rfl rfl rfl) (fun _ _ _ _ h => h)) (pk_cons (vr 0) pk_nil))))) pa_nil))))
      (pss_one (ps_ret (pe_cmpR (ksame K hr.units) (pe_lc (own := [("_law_each", 3)])  rfl sc__law_refused.nd (ilist K (vr 2)) (blkOk_by (own := [("_law_each", 3)]) (N := ["_law_thing_here", "_law_told", "_law_found", "_law_each"]) (sc := defScope s__law_refused) (by decide +kernel)) (fun _ _ _ _ _ => (pg_name (i := 3) sc__law_refused.nd rfl (by first | exact .inl rfl | exact .inr rfl))) (fun _ _ _ _ _ => pts_nil) (fun _ _ _ _ _ => up (pe_lst (pa_cons (pe_ix (kget K) (vr 3) pe_int (fun _ _ => rfl)) (pa_cons (pe_callB (kreprL T.sys gd hr.units) (by rfl) T.n_repr (by decide +kernel) (pa_cons (pe_slice (kcut K) (vr 3) (po_u pe_int) po_none) pa_nil)) pa_nil))))) (pe_op op_mulU (pe_lst (pa_cons (pe_lst (pa_cons pe_str (pa_cons (pe_callB (kreprL T.sys gd hr.units) (by rfl) T.n_repr (by decide +kernel) (pa_cons (pe_lst (pa_cons (vr 0) pa_nil)) pa_nil)) pa_nil))) pa_nil)) pe_int) (nomark _)))))))), ?_⟩)
  obtain ⟨v, d, rfl, dl, sz, no, sh, tbs, q⟩ := h
  rw [st__law_refused]
  refine ⟨v, d, rfl, dl, sz, fun H1 s1 => ?_⟩
  refine ⟨rfl, v, d, rfl, dl.same s1, sz, fun H2 s2 => ?_⟩
  rw [no]
  refine ⟨Nat.le_of_ble_eq_true rfl, fun L nL => ?_⟩
  generalize g1 : upd _ L _ = G1
  obtain ⟨a1, h1, _⟩ := lay_of g1 nL
  clear g1 nL
  simp only [gName, List.set_cons_succ, List.set_cons_zero]
  refine ⟨Nat.le_of_ble_eq_true rfl, fun M nM => ?_⟩
  generalize g2 : upd _ M _ = G2
  obtain ⟨a2, h2, _⟩ := lay_of g2 nM
  clear g2 nM
  refine ⟨_, _, .lst (sqL_of (a2 _ _ h1)) (.cons (.bl _) (.cons (.bl _) .nil)), .lst (sqL_of h2) (.cons (.bl _) (.cons (.bl _) .nil)), rfl, rfl, ?_⟩
  refine ⟨L, rfl, ⟨_, sqL_of (a2 _ _ h1)⟩, fun D nD => ?_⟩
  refine lcl (xs := [V.bl false, V.bl false]) fr_same (fun _ v _ => v = .bl true) trivial nD (by decide) (fun H3 _ s3 => sqL_of (s3 _ _ (a2 _ _ h1))) (fun _ _ _ _ h _ => h) (fun _ => rfl) (fun i x H3 hx _ s3 => ?_) (fun H3 ys _ s3 l3 e3 q3 => ?_)
  · obtain ⟨b, rfl⟩ : ∃ b, x = .bl b := by
      rcases List.mem_cons.mp (List.mem_of_getElem? hx) with h | h
      · exact ⟨_, h⟩
      · exact ⟨_, List.mem_singleton.mp h⟩
    exact ⟨_, _, .base (.bl b), rfl, trivial, Same.refl _, rfl⟩
  obtain ⟨bs, rfl, hb⟩ := bls_of q3
  refine ⟨_, bs, rfl, sqL_of e3, ?_⟩
  rw [hb]
  have s03 : Same H H3 := ((s1.trans s2).trans (a1.trans a2)).trans s3
  have nB := noT_no H
  have at3 : At (tF K) (noT H) H3 := ⟨noT_sub.trans s03, tbs.ext s03⟩
  have dlB : DL (noT H) v d := dl_noT dl
  clear e3 q3 l3 nD h1 h2 a1 a2 s1 s2 s3 s03
  refine ⟨at3.2, fun H4 e4 T4 => ?_⟩
  have at4 := At.lam nB at3 e4 T4
  refine caughtW T.kind_InvalidTree rfl (dlB.same at4.1) sz no fun z1 H5 s5 hz1 => ?_
  rw [errW3] at hz1
  have at5 := at4.up s5
  refine ⟨Nat.le_of_ble_eq_true rfl, fun F nF => ?_⟩
  generalize g1 : upd _ F _ = G1
  obtain ⟨a1, hF, _⟩ := lay_of g1 nF
  clear g1
  simp only [gName, List.set_cons_succ, List.set_cons_zero]
  have at6 := at5.up a1
  have nB6 := noT_no G1
  refine ⟨⟨_, hF⟩, ?_⟩
  refine ⟨at6.2, fun H7 e7 T7 => ?_⟩
  have at7 := At.lam nB6 at6.base e7 T7
  have atB7 := At.sub nB at6 at7
  refine caughtWK T.kind_InvalidTree rfl (dlB.same atB7.1) sz no fun z2 H8 s8 hz2 => ?_
  rw [errW3] at hz2
  have at8 := at7.up s8
  have atB8 := atB7.up s8
  have hF8 := at8.1 _ _ (noT_get hF fun _ z => by cases z)
  have hz18 := at8.1 _ _ (noT_get (a1 _ _ hz1) fun _ z => by cases z)
  refine ⟨_, hF8, Nat.le_of_ble_eq_true rfl, ?_⟩
  have nF5 : noT H F = none := by
    cases e : noT H F with
    | none => rfl
    | some o => rw [at5.1 _ _ e] at nF; cases nF
  have z1F : z1 ≠ F := fun e => by rw [e, hF8] at hz18; cases hz18
  have z2F : z2 ≠ F := fun e => by rw [e, hF8] at hz2; cases hz2
  have at9 : At (tF K) (noT H) (upd H8 F (.lst ([.ref z1] ++ [.ref z2]))) := ⟨fun b o hb => by
    rw [upd_ne (fun e => by rw [e, nF5] at hb; cases hb)]
    exact atB8.1 b o hb, tabs_lst atB8.2 hF8⟩
  have k1 : upd H8 F (.lst ([.ref z1] ++ [.ref z2])) z1 = some (.lst [.str "tree", v]) := (upd_ne z1F).trans hz18
  have k2 : upd H8 F (.lst ([.ref z1] ++ [.ref z2])) z2 = some (.lst [.str "tree", v]) := (upd_ne z2F).trans hz2
  have kF : upd H8 F (.lst ([.ref z1] ++ [.ref z2])) F = some (.lst [.ref z1, .ref z2]) := upd_same
  revert at9 k1 k2 kF
  generalize upd H8 F _ = G2
  intro at9 k1 k2 kF
  clear hF8 hz18 hz2 at8 atB8 at7 atB7 at6 at5 at4 at3 nF5 s8 s5 e7 e4 T7 T4 hz1 hF a1
  have shl : ShD (.list [d]) 6000005 41 := ShD.list (ShL.cons sh ShL.nil)
  refine ⟨F, rfl, ⟨_, sqL_of kF⟩, fun D nD => ?_⟩
  have nDB : noT H D = none := by
    cases e : noT H D with
    | none => rfl
    | some o => rw [at9.1 _ _ e] at nD; cases nD
  have DF : F ≠ D := fun e => by rw [e, nD] at kF; cases kF
  refine lcI (K := K) (a := F) (xs := [V.ref z1, V.ref z2]) (fun _ ys H' => (∀ b o, b ≠ D → G2 b = some o → H' b = some o) ∧ ∀ y ∈ ys, ∃ p, y = .ref p ∧ p ≠ D ∧ H' p = some (.lst [.str "tree", .str (PyData.shown (.list [d]))])) ?_ (Nat.le_of_ble_eq_true rfl) (fun i ys H' iv e => sqL_of (iv.1 _ _ DF kF)) (fun _ => rfl) (fun i x H' ys hx iv e => ?_) (fun H' ys iv lys e => ?_)
  · exact ⟨fun b o ne hb => by rw [upd_ne ne]; exact hb, fun y hy => by cases hy⟩
  · obtain ⟨keep, iy⟩ := iv
    have sB : Same (noT H) H' := fun b o hb => keep b o (fun z => by rw [z, nDB] at hb; cases hb) (at9.1 b o hb)
    obtain ⟨z, rfl, kz⟩ : ∃ z, x = .ref z ∧ G2 z = some (.lst [.str "tree", v]) := by
      rcases List.mem_cons.mp (List.mem_of_getElem? hx) with h | h
      · exact ⟨z1, h, k1⟩
      · exact ⟨z2, List.mem_singleton.mp h, k2⟩
    have kz' := keep _ _ (fun e => by rw [e, nD] at kz; cases kz) kz
    refine ⟨_, _, .inl (sqL_of kz'), rfl, ?_⟩
    refine .inl ⟨z, _, rfl, sqL_of kz', fun p np => ?_⟩
    have hp : upd H' p (.lst (cutV [.str "tree", v] (some 1) none)) p = some (.lst [v]) := upd_same
    have sp : Same H' (upd H' p (.lst (cutV [.str "tree", v] (some 1) none))) := same_new np
    revert hp sp
    generalize upd H' p _ = B1
    intro hp sp
    dsimp only [tNil]
    refine ⟨.list [d], .lst hp (.cons (dlB.same (sB.trans sp)) .nil), shl.1, Nat.le_trans shl.2.1 (by rw [sizeLine_eq]; decide), Nat.le_trans shl.2.2 (by decide), ?_⟩
    refine ⟨Nat.le_of_ble_eq_true rfl, fun t nt => ?_⟩
    generalize g1 : upd _ t _ = B2
    obtain ⟨b2, h2, m2⟩ := lay_of g1 nt
    have st := sp.trans b2
    have tD : t ≠ D := fun z => by rw [z, sp _ _ e] at nt; cases nt
    refine ⟨st _ _ e, fun b o ne hb => by rw [upd_ne ne]; exact st _ _ (keep b o ne hb), fun y hy => ?_⟩
    rcases List.mem_append.mp hy with hy | hy
    · obtain ⟨p', e1, e2, e3⟩ := iy y hy
      exact ⟨p', e1, e2, by rw [upd_ne e2]; exact st _ _ e3⟩
    · exact ⟨t, List.mem_singleton.mp hy, tD, by rw [upd_ne tD]; exact h2⟩
  · obtain ⟨keep, iy⟩ := iv
    have sB : Same (noT H) H' := fun b o hb => keep b o (fun z => by rw [z, nDB] at hb; cases hb) (at9.1 b o hb)
    have tH : LamX.Tabs (tF K) H' := at9.2.ext fun b o hb => keep b o (fun z => by rw [z, nD] at hb; cases hb) hb
    have at10 : At (tF K) (noT H) H' := ⟨sB, tH⟩
    match ys, lys with
    | [y1, y2], _ =>
    obtain ⟨p1, rfl, _, hp1⟩ := iy y1 (by simp)
    obtain ⟨p2, rfl, _, hp2⟩ := iy y2 (by simp)
    refine ⟨Nat.le_of_ble_eq_true rfl, fun l1 n1 => ?_⟩
    generalize g1 : upd _ l1 _ = B1
    obtain ⟨b1, h1, _⟩ := lay_of g1 n1
    clear g1 n1
    dsimp only [tNil]
    refine ⟨.list [d], .lst h1 (.cons (dlB.same (sB.trans b1)) .nil), shl.1, Nat.le_trans shl.2.1 (by rw [sizeLine_eq]; decide), Nat.le_trans shl.2.2 (by decide), ?_⟩
    refine ⟨Nat.le_of_ble_eq_true rfl, fun l2 n2 => ?_⟩
    generalize g2 : upd _ l2 _ = B2
    obtain ⟨b2, h2, _⟩ := lay_of g2 n2
    clear g2 n2
    refine ⟨Nat.le_of_ble_eq_true rfl, fun l3 n3 => ?_⟩
    generalize g3 : upd _ l3 _ = B3
    obtain ⟨b3, h3, _⟩ := lay_of g3 n3
    clear g3 n3
    refine ⟨l3, 2, _, rfl, rfl, h3, by decide, by decide, Nat.le_of_ble_eq_true rfl, fun l4 n4 => ?_⟩
    have h4 : upd B3 l4 (.lst (List.replicate (2 : Int).toNat [V.ref l2]).flatten) l4 = some (.lst [.ref l2, .ref l2]) := upd_same
    have b4 : Same B3 (upd B3 l4 (.lst (List.replicate (2 : Int).toNat [V.ref l2]).flatten)) := same_new n4
    revert h4 b4
    generalize upd B3 l4 _ = B4
    intro h4 b4
    have ba : Same H' B4 := ((b1.trans b2).trans b3).trans b4
    have h24 := (b3.trans b4) _ _ h2
    refine ⟨.list [.list [.str "tree", .str (PyData.shown (.list [d]))], .list [.str "tree", .str (PyData.shown (.list [d]))]], .list [.list [.str "tree", .str (PyData.shown (.list [d]))], .list [.str "tree", .str (PyData.shown (.list [d]))]],
      .lst (sqL_of (ba _ _ e)) (.cons (.lst (sqL_of (ba _ _ hp1)) (.cons (.str _) (.cons (.str _) .nil))) (.cons (.lst (sqL_of (ba _ _ hp2)) (.cons (.str _) (.cons (.str _) .nil))) .nil)),
      .lst (sqL_of h4) (.cons (.lst (sqL_of h24) (.cons (.str _) (.cons (.str _) .nil))) (.cons (.lst (sqL_of h24) (.cons (.str _) (.cons (.str _) .nil))) .nil)), rfl, rfl, ?_⟩
    have er : PyData.eqv (.list [.list [.str "tree", .str (PyData.shown (.list [d]))], .list [.str "tree", .str (PyData.shown (.list [d]))]]) (.list [.list [.str "tree", .str (PyData.shown (.list [d]))], .list [.str "tree", .str (PyData.shown (.list [d]))]]) = true := SeqAt.eqv_refl_plain _ rfl
    show Q (.bl (PyData.eqv _ _)) B4
    rw [er]
    exact q _ (at10.up ba)
end
end Sk
/-! Sk: _law_right of k20 -/
namespace Sk
open PySem PySem.Spec PyProof.Rows L2
theorem pool_hide {H : Hp} {a : Addr} (pl : Pool H a) : Stay H (hide a H) := fun b o l e => by
  refine (hide_ne fun z => ?_).trans e
  obtain ⟨s, d, n, h1, _⟩ := pl
  rw [z, h1] at e
  cases e
  cases l
/-- a thing that is no tree, as data -/
structure Bad (H : Hp) (v : V) : Prop where
  ex : ∃ d, DL H v d ∧ Sz d ∧ nodesD 30 d = false ∧ ShD d 6000000 40
theorem Bad.on {H H' : Hp} {v : V} (h : Bad H v) (s : Same H H') : Bad H' v := by
  obtain ⟨d, h1, h2⟩ := h.ex
  exact ⟨d, h1.same s, h2⟩
theorem Bad.noT {H : Hp} {v : V} (h : Bad H v) : Bad (noT H) v := by
  obtain ⟨d, h1, h2⟩ := h.ex
  exact ⟨d, dl_noT h1, h2⟩
def twinD : PyData := .tuple [.str "element", .str "q", .tuple [], .tuple [.tuple [.str "text", .str "a"], .tuple [.str "text", .str "b"]]]
theorem bad_app {H : Hp} {p : Addr} {xs ys : List V} {ds : List PyData} {o : PyData} (h : H p = some (.tup (xs ++ ys))) (k : DLs H xs ds) (r : DLs H ys [o]) (l4 : ds.length ≤ 4) (sz : ∀ d ∈ ds, Sz d) (sh : ShL ds 1100000 10) (so : Sz o) (no : nodeD 30 o = false) (sho : ShD o 300 10) : Bad H (.ref p) := by
  refine ⟨.tuple (ds ++ [o]), .tup h (k.app r), Sz.app sz (fun d hd => by rw [List.mem_singleton.mp hd]; exact so) (by rw [List.length_singleton]; omega), ?_, ?_⟩
  · have := nodes_bad (n := 30) (xs := ds) (ys := []) no
    rw [List.append_nil] at this
    exact this
  · exact (ShD.tuple (ShL.app sh (ShL.cons sho ShL.nil))).mono (by decide) (by decide)
theorem good_noT {H : Hp} : ∀ (n : Nat) (v : V), GoodV H n v → GoodV (noT H) n v
  | 0, _, h => h
  | n + 1, v, h => by
    rcases h with h | ⟨a, vs, e, h1, h2, h3⟩ | ⟨a, kvs, e, h1, h2, h3⟩
    · exact .inl h
    · exact .inr (.inl ⟨a, vs, e, noT_get h1 (fun _ z => by cases z), h2, fun x hx => good_noT n x (h3 x hx)⟩)
    · exact .inr (.inr ⟨a, kvs, e, noT_get h1 (fun _ z => by cases z), h2, fun p hp => good_noT n p.2 (h3 p hp)⟩)
theorem att_noT {H : Hp} {v : V} : ∀ {a : Att}, AttV H v a → AttV (noT H) v a
  | .plain _ _, h => by
    obtain ⟨a, e, h1, h2⟩ := h
    exact ⟨a, e, noT_get h1 (fun _ z => by cases z), h2⟩
  | .addr _ _, h => by
    obtain ⟨a, p, x, y, e, h1, h2, ⟨b, e3, h3, h4⟩, h5, h6, ⟨c, vs, e7, h7, h8, h9⟩, h10⟩ := h
    refine ⟨a, p, x, y, e, noT_get h1 (fun _ z => by cases z), noT_get h2 (fun _ z => by cases z), ⟨b, e3, noT_get h3 (fun _ z => by cases z), h4⟩, h5, h6, ⟨c, vs, e7, noT_get h7 (fun _ z => by cases z), h8, fun i x p hx hp => ?_⟩, h10⟩
    obtain ⟨d, e, k1, k2⟩ := h9 i x p hx hp
    exact ⟨d, e, noT_get k1 (fun _ z => by cases z), k2⟩
theorem atts_noT {H : Hp} {vs : List V} {as : List Att} (h : AttsV H vs as) : AttsV (noT H) vs as := by
  induction h with
  | nil => exact .nil
  | cons h _ ih => exact .cons (att_noT h) ih
mutual
theorem nd_noT {H : Hp} : ∀ {v : V} {n : Nd}, NdV H v n → NdV (noT H) v n
  | _, _, .text h1 h2 h3 => .text (noT_get h1 fun _ z => by cases z) h2 h3
  | _, _, .data h1 h2 => by
    rw [lit_stay (stay_of noT_sub) _ _ (good_noT _ _ h2)]
    exact .data (noT_get h1 fun _ z => by cases z) (good_noT _ _ h2)
  | _, _, .elem h1 h2 h3 h4 h5 h6 h7 h8 h9 h10 => .elem (noT_get h1 fun _ z => by cases z) h2 h3 (noT_get h4 fun _ z => by cases z) (atts_noT h5) h6 (noT_get h7 fun _ z => by cases z) (nds_noT h8) h9 h10
theorem nds_noT {H : Hp} : ∀ {vs : List V} {ns : List Nd}, NdsV H vs ns → NdsV (noT H) vs ns
  | _, _, .nil => .nil
  | _, _, .cons h1 h2 => .cons (nd_noT h1) (nds_noT h2)
end
section
variable {P : Program} {w : World} {K : PySem.W.Frag} {mg : Str → Option Value} {base : Heap}
def spR20 (K : PySem.W.Frag) : Sp := fun vs H Q _ => ∃ a, vs = [.ref a] ∧ Pool H a ∧ LamX.Tabs (tF K) H ∧ ∀ H', LamX.Tabs (tF K) H' → KeepN a H H' → Q (.bl true) H'
theorem ok_r20 (T : Top K mg) (tb : LamX.TabB base mg (cF K).1 (cF K).2) (k : Nat) : FnG P w K mg base (k + 82) (He.ga K "_law_right") T.fd__law_right ["_law_pool_here"] (spR20 K) := by
  have G__law_draw : Ok__law_draw P w base T 1 sp_draw := ok_draw T 0
  have G__law_odd_nodes : Ok__law_odd_nodes P w base T 2 (spOdds 100 oddB) := ok_oddn T 0
  have G__law_trunk : Ok__law_trunk P w base T 17 (sp_trunk 2) := ok_trunk T 2 (by decide)
  have G__law_sheet : Ok__law_sheet P w base T 13 (sp_sheet 2) := ok_sheet T 2
  have G_is_tree : Ok_is_tree P w base T 72 (spD (nodesD 30)) := ok_treeD T 0
  have G_write : Ok_write P w base T 73 _ := fnok_calm (ok_writeD T 0)
  have G__law_bent : Ok__law_bent P w base T 4 (spBent 2) := ok_bent T 2
  have G__law_refused : FnG P w K mg base 80 (He.ga K "_law_refused") T.fd__law_refused ["_law_thing_here"] (spRef K) := ok_ref T tb 0
  refine fnG_of T.F__law_right sc__law_right (fun vs H Q E h => by obtain ⟨a, rfl, _⟩ := h; rfl) (fun cdv A outer s H vs Q E gd hr h => ⟨_, (pss_cons (ps_set (i := 1) sc__law_right.nd rfl (by first | exact .inl rfl | exact .inr rfl) (pe_call0 G__law_odd_nodes (hr.mono (by omega)) (by rfl) T.g__law_odd_nodes T.F__law_odd_nodes.kp (b__law_odd_nodes T) .nil pass0))
      (pss_cons (ps_for PassesOwn.never rfl (pi_range1 (by rfl) T.n_range (pa_cons pe_int pa_nil)) (pg_name (i := 2) sc__law_right.nd rfl (by first | exact .inl rfl | exact .inr rfl)) (pss_cons (ps_set (i := 3) sc__law_right.nd rfl (by first | exact .inl rfl | exact .inr rfl) (pe_call G__law_trunk (hr.mono (by omega)) (by rfl) T.g__law_trunk T.F__law_trunk.kp (b__law_trunk T) .nil pass0 (pa_cons (vr 0) (pa_cons pe_int pa_nil))))
      (pss_cons (sif (PW.pt (wor (tcmp op_notBl (pe_call G_is_tree (hr.mono (by omega)) (by rfl) T.g_is_tree T.F_is_tree.kp (b_is_tree T) .nil pass0 (pa_cons (vr 3) pa_nil)) pe_bl (nomark _)) (pw_or1 (tcmp (kother K hr.units) (pe_call G_write (hr.mono (by omega)) (by rfl) T.g_write T.F_write.kp (b_write T) .nil pass0 (pa_cons (vr 3) pa_nil)) (pe_call G__law_sheet (hr.mono (by omega)) (by rfl) T.g__law_sheet T.F__law_sheet.kp (b__law_sheet T) .nil pass0 (pa_cons (vr 3) pa_nil)) (nomark _))))) (pss_one (ps_ret pe_bl)) pss_nil)
      (pss_cons (ps_set (i := 4) sc__law_right.nd rfl (by first | exact .inl rfl | exact .inr rfl) (pe_call G__law_bent (hr.mono (by omega)) (by rfl) T.g__law_bent T.F__law_bent.kp (b__law_bent T) .nil pass0 (pa_cons (vr 0) (pa_cons (vr 3) (pa_cons (pe_ix (kget K) (vr 1) (pe_call G__law_draw (hr.mono (by omega)) (by rfl) T.g__law_draw T.F__law_draw.kp (b__law_draw T) .nil pass0 (pa_cons (vr 0) (pa_cons (pe_callB (klen K) (by rfl) T.n_len (by decide +kernel) (pa_cons (vr 1) pa_nil)) pa_nil))) (fun _ _ => rfl)) pa_nil)))))
      (pss_cons (ps_set (i := 5) sc__law_right.nd rfl (by first | exact .inl rfl | exact .inr rfl) (pe_op (kplus K) (vr 3) (pe_lit (by rfl))))
      (pss_cons (sif (pt_not (tst (pe_callB (kall K rfl) (by rfl) T.n_all (by decide +kernel) (pa_cons (pe_lc (own := [("_law_each", 6)])  rfl sc__law_right.nd (ilist K (pe_lst (pa_cons (vr 4) (pa_cons (vr 5) (pa_cons (pe_callTy (klst K) (by rfl) T.n_list (by decide +kernel) (pa_cons (vr 3) pa_nil)) (pa_cons (pe_op (kplus K) (vr 3) (pe_lit (by rfl))) (pa_cons (pe_disp (pps_cons pe_str (vr 3) pps_nil) (by rfl) (by rfl) (fun z => by cases z) (by decide)) pa_nil))))))) (blkOk_by (own := [("_law_each", 6)]) (N := ["_law_pool_here", "_law_odds", "_law_turn", "_law_trunk_here", "_law_bent_here", "_law_twins", "_law_each"]) (sc := defScope s__law_right) (by decide +kernel)) (fun _ _ _ _ _ => (pg_name (i := 6) sc__law_right.nd rfl (by first | exact .inl rfl | exact .inr rfl))) (fun _ _ _ _ _ => pts_nil) (fun _ _ _ _ _ => up (pecallG G__law_refused gd (hr.mono (by omega)) (by rfl) T.g__law_refused T.F__law_refused.kp (b__law_refused T) (pa_cons (vr 6) pa_nil)))) pa_nil)))) (pss_one (ps_ret pe_bl)) pss_nil)
      (pss_one (sif (tcmp (kother K hr.units) (pe_call G_write (hr.mono (by omega)) (by rfl) T.g_write T.F_write.kp (b_write T) .nil pass0 (pa_cons (vr 3) pa_nil)) (pe_call G__law_sheet (hr.mono (by omega)) (by rfl) T.g__law_sheet T.F__law_sheet.kp (b__law_sheet T) .nil pass0 (pa_cons (vr 3) pa_nil)) (nomark _)) (pss_one (ps_ret pe_bl)) pss_nil))))))))
      (pss_one (ps_ret pe_bl)))), ?_⟩)
  obtain ⟨a, rfl, pl, tbs, q⟩ := h
  rw [st__law_right]
  refine ⟨rfl, fun L H1 s1 od => ?_⟩
  simp only [gName, List.set_cons_succ, List.set_cons_zero]
  have ha : ∃ o, H a = some o := by obtain ⟨_, _, _, h1, _⟩ := pl; exact ⟨_, h1⟩
  obtain ⟨xs, ds0, o1, o2, o3, o4, o5⟩ := od
  have nB := noT_no (newP H H1)
  have Ba : noT (newP H H1) a = none := by
    cases e : noT (newP H H1) a with
    | none => rfl
    | some o =>
      have e2 := (newP_some (noT_sub _ _ e)).1
      obtain ⟨o', h⟩ := ha
      rw [h] at e2
      cases e2
  have oB : noT (newP H H1) L = some (.lst xs) := noT_get o1 fun _ z => by cases z
  have dB : DLs (noT (newP H H1)) xs ds0 := dls_noT o2
  have sB1 : Same (noT (newP H H1)) H1 := noT_sub.trans newP_sub
  revert nB Ba oB dB sB1
  generalize noT (newP H H1) = B
  intro nB Ba oB dB sB1
  refine ⟨6, rfl, by decide, by decide, ?_⟩
  refine for_range (n := 6) (fun i σ H' => (∃ y2 y3 y4 y5 y6, σ = [some (.ref a), some (.ref L), y2, y3, y4, y5, y6]) ∧ Pool H' a ∧ LamX.Tabs (tF K) H' ∧ KeepN a H H' ∧ Same B H') ⟨⟨_, _, _, _, _, rfl⟩, pl.same s1, tbs.ext s1, fun b o nb nt h => s1 b o h, sB1⟩ (fun i σ H0 hi hv => ?_) (fun σ H0 hv => ?_)
  · obtain ⟨⟨y2, y3, y4, y5, y6, rfl⟩, p0, t0, k0, sB0⟩ := hv
    simp only [gName, List.set_cons_succ, List.set_cons_zero]
    refine ⟨rfl, p0, fun v ns H1 tv p1 k1 => ?_⟩
    obtain ⟨⟨b, vs, rfl, hb, hns⟩, l3, lv, nt, l900, d, dr, dsh, dshl, dd⟩ := id tv
    have dl := dr.dl
    have shd : ShD d 1100000 11 := ⟨dsh, Nat.le_trans dshl (by decide), dd⟩
    obtain ⟨ds, rfl, hds⟩ := dl.tupI hb
    obtain ⟨n1, n2, n3, n4⟩ := nds_D hns hds
    have sz : Sz (.tuple ds) := .tup (by omega) n2
    have tr : nodesD 30 (.tuple ds) = true := by
      show (ds.all (nodeD 30) && noTwoD ds) = true
      rw [List.all_eq_true.mpr (n1 30 (by omega)), noTwo_D n3, nt]
      rfl
    have shL : ShL ds 1100000 10 := ShL.inv shd
    have lm : (ndsL ns).length ≤ maxS := by unfold maxS; omega
    simp only [gName, List.set_cons_succ, List.set_cons_zero]
    refine ⟨_, _, rfl, dl, sz, fun H2 s2 => ?_⟩
    rw [tr]
    refine ⟨true, true, rfl, rfl, ?_⟩
    refine ⟨_, _, rfl, dl.same s2, sz, .inr ⟨tr, ns, ⟨b, vs, rfl, s2 _ _ hb, NdsV.stay (stay_of s2) hns⟩, by omega, by omega, lm, fun z HA ez sA => ?_⟩⟩
    refine ⟨ns, ⟨b, vs, rfl, .inr (sA _ _ (s2 _ _ hb)), NdsV.stay (stay_of sA) (NdsV.stay (stay_of s2) hns)⟩, by omega, lv, lm, fun z2 HZ ez2 sZ => ?_⟩
    obtain rfl : z2 = z := str_ext (ez2.trans ez.symm)
    refine brF (by show (!decide (V.str z2 = V.str z2)) = false; simp) ?_
    have s14 : Same H1 HZ := (s2.trans sA).trans sZ
    clear s2 sA sZ ez ez2
    have p4 := p1.same s14
    have k04 : Keep a H0 HZ := k1.trans (keep_of s14)
    have toB : ∀ {H' : Hp}, Keep a H0 H' → Same B H' := fun k b o hb => k b o (fun z => by rw [z, Ba] at hb; cases hb) (sB0 b o hb)
    have sB4 := toB k04
    refine ⟨xs, .inl (sqL_of (sB4 _ _ oB)), p4, by omega, by omega, fun c H5 c0 c1 p5 k5 => ?_⟩
    have k05 := k04.trans k5
    have sB5 := toB k05
    obtain ⟨x, hx, mx⟩ := atI_in c0 c1
    refine ⟨_, x, .inl (sqL_of (sB5 _ _ oB)), hx, ?_⟩
    obtain ⟨i', hi', ex⟩ := List.mem_iff_getElem.mp mx
    obtain ⟨od, eod, hod⟩ := dB.at i' x (by rw [List.getElem?_eq_getElem hi', ex])
    have ood : OddD od := oddB_ok (List.all_eq_true.mp o3 od (List.mem_of_getElem? eod))
    have st5 : Stay H1 H5 := (stay_of s14).trans (k5.stay p4)
    have hb5 := st5 _ _ rfl hb
    refine ⟨a, .ref b, x, .tuple ds, od, rfl, p5, ⟨⟨b, vs, ns, rfl, hb5, NdsV.stay st5 hns, by omega, lv⟩, (Dr.stay (st5.trans (pool_hide p5)) dr).dl, sz, shd⟩, hod.same (fun b o hb => (hide_ne (fun z => by rw [z, Ba] at hb; cases hb)).trans (sB5 b o hb)), ood, fun v' d' H6 p6 k6 bo => ?_⟩
    simp only [gName, List.set_cons_succ, List.set_cons_zero]
    have st6 : Stay H1 H6 := st5.trans (k6.stay p5)
    have k06 := k05.trans k6
    have hb6 := st6 _ _ rfl hb
    have bad1 : Bad H6 v' := ⟨d', bo.dl.same hide_sub, bo.sz, bo.no 30, bo.sh.mono (by decide) (by decide)⟩
    have hdsOn : ∀ {H' : Hp}, Stay H1 H' → DLs H' vs ds := fun st => by
      obtain ⟨ds', e, k⟩ := ((Dr.stay st dr).dl).tupI (st _ _ rfl hb)
      cases e
      exact k
    clear k5 k6 k05 k04 sB4 sB5 hod ood bo s14 p4 p5 hb5
    refine fun w1 H7 s7 r7 => ?_
    cases r7 with
    | @tup u1 us1 _ hw1 rw1 =>
    have lu1 := rw1.length
    refine catT (s7 _ _ hb6) (newP_some hw1).2 (by rw [lu1]; show vs.length + 1 ≤ _; have := hns.length; omega) fun u2 H8 s8 h8 => ?_
    simp only [gName, List.set_cons_succ, List.set_cons_zero]
    have s68 := s7.trans s8
    have bad2 : Bad H8 (.ref u2) := bad_app (o := twinD) h8 (hdsOn (st6.trans (stay_of s68))) (rw1.dl.same (newP_sub.trans s8)) (by omega) n2 shL (szB_ok 6 twinD (by decide +kernel)) (by decide +kernel) (shB_ok (by decide +kernel))
    have hb8 := s68 _ _ hb6
    refine ⟨vs, .inr (sqT_of hb8), fun l1 m1 => ?_⟩
    generalize g1 : upd _ l1 _ = H9
    obtain ⟨s9, h9, _⟩ := lay_of g1 m1
    clear g1 m1
    have bad3 : Bad H9 (.ref l1) := ⟨.list ds, .lst h9 (hdsOn (st6.trans (stay_of (s68.trans s9)))), .lst (by omega) n2, rfl, (ShD.list shL).mono (by decide) (by decide)⟩
    refine fun w2 H10 s10 r10 => ?_
    cases r10 with
    | @tup u3 us3 _ hw2 rw2 =>
    have lu3 := rw2.length
    have hb10 := (s9.trans s10) _ _ hb8
    refine catT hb10 (newP_some hw2).2 (by rw [lu3]; show vs.length + 1 ≤ _; have := hns.length; omega) fun u4 H11 s11 h11 => ?_
    have s611 := (s68.trans s9).trans (s10.trans s11)
    have bad4 : Bad H11 (.ref u4) := bad_app (o := .none) h11 (hdsOn (st6.trans (stay_of s611))) (rw2.dl.same (newP_sub.trans s11)) (by omega) n2 shL .non (by decide +kernel) (shB_ok (by decide +kernel))
    refine fun dd nd => ⟨upd_same, [(.inr "a", .ref b)], rfl, Nat.le_of_ble_eq_true rfl, ?_⟩
    have hd : upd (upd H11 dd (.dK [])) dd (.dK (mergeK [] [(.inr "a", .ref b)])) dd = some (.dK [(.inr "a", .ref b)]) := upd_same
    have sd : Same H11 (upd (upd H11 dd (.dK [])) dd (.dK (mergeK [] [(.inr "a", .ref b)]))) := fun b o hb => by rw [upd_ne (ne_of_none hb nd), upd_ne (ne_of_none hb nd)]; exact hb
    revert hd sd
    generalize upd (upd H11 dd (.dK [])) dd _ = H12
    intro hd sd
    have st12 : Stay H1 H12 := st6.trans (stay_of (s611.trans sd))
    have bad5 : Bad H12 (.ref dd) := by
      have dr12 := Dr.stay st12 dr
      obtain ⟨d5, dr5, sh1, sh2, sh3⟩ := Sm.dict (w := 1100000) (k := 11) hd (fun p hp => by rw [List.mem_singleton.mp hp]; exact ⟨"a", rfl, by decide, by decide, List.all_eq_true.mp (by decide +kernel)⟩) (fun p hp => by rw [List.mem_singleton.mp hp]; exact ⟨_, dr12, shd.1, shd.2.1, shd.2.2⟩)
      have dl5 : DL H12 (.ref dd) (.dict [(.str "a", .tuple ds)]) := .dic hd (.cons (.str _) .nil) (.cons dr12.dl .nil)
      have e := dr5.dl.uniq dl5
      subst e
      exact ⟨_, dl5, .dic (Nat.le_of_ble_eq_true rfl) (by simp) (fun p hp => by rw [List.mem_singleton.mp hp]; exact .str (by decide)) (fun p hp => by rw [List.mem_singleton.mp hp]; exact sz), rfl, sh1, Nat.le_trans sh2 (by show 1 * (1100000 + 126) + 3 ≤ 6000000; decide), Nat.le_trans sh3 (by decide)⟩
    refine ⟨Nat.le_of_ble_eq_true rfl, fun M nM => ?_⟩
    generalize gM : upd _ M _ = H13
    obtain ⟨s13, hM, _⟩ := lay_of gM nM
    clear gM nM
    have s613 := (s611.trans sd).trans s13
    have bads : ∀ v ∈ [v', V.ref u2, V.ref l1, V.ref u4, V.ref dd], Bad (noT H13) v := fun v hv => by
      refine Bad.noT ?_
      rcases List.mem_cons.mp hv with rfl | hv
      · exact bad1.on s613
      rcases List.mem_cons.mp hv with rfl | hv
      · exact bad2.on (((s9.trans s10).trans s11).trans (sd.trans s13))
      rcases List.mem_cons.mp hv with rfl | hv
      · exact bad3.on ((s10.trans s11).trans (sd.trans s13))
      rcases List.mem_cons.mp hv with rfl | hv
      · exact bad4.on (sd.trans s13)
      · rw [List.mem_singleton.mp hv]
        exact bad5.on s13
    have k013 : Keep a H0 H13 := k06.trans (keep_of s613)
    have p13 := p6.same s613
    have t13 : LamX.Tabs (tF K) H13 := tabs_keep p0 k013 t0
    have st13 : Stay H1 H13 := st6.trans (stay_of s613)
    have hb13 := st13 _ _ rfl hb
    have hns13 := NdsV.stay st13 hns
    have dl13 := (Dr.stay st13 dr).dl
    clear bad1 bad2 bad3 bad4 bad5 s613 s611 s68 sd s13 s11 s10 s9 s8 s7 hd hw1 hw2 h8 h9 h11 rw1 rw2 st12 st6 st5 hdsOn k06
    refine ⟨M, rfl, ⟨_, sqL_of hM⟩, fun D nD => ?_⟩
    have nDT : noT H13 D = none := by
      cases e : noT H13 D with
      | none => rfl
      | some o => rw [noT_sub _ _ e] at nD; cases nD
    have MD : M ≠ D := fun z => by rw [z, nD] at hM; cases hM
    have hMT := noT_get hM fun _ z => by cases z
    refine lcI (K := K) (a := M) (xs := [v', V.ref u2, V.ref l1, V.ref u4, V.ref dd]) (fun _ ys H' => (∀ b o, b ≠ D → noT H13 b = some o → H' b = some o) ∧ LamX.Tabs (tF K) H' ∧ ∀ y ∈ ys, y = .bl true) ?_ (Nat.le_of_ble_eq_true rfl) (fun i ys H' iv e => sqL_of (iv.1 _ _ MD hMT)) (fun _ => rfl) (fun i x H' ys hx iv e => ?_) (fun H' ys iv lys e => ?_)
    · exact ⟨fun b o ne hb => by rw [upd_ne ne]; exact noT_sub _ _ hb, t13.ext (same_new nD), fun y hy => by cases hy⟩
    · obtain ⟨keep, tI, iy⟩ := iv
      have sT : Same (noT H13) H' := fun b o hb => keep b o (fun z => by rw [z, nDT] at hb; cases hb) hb
      obtain ⟨dx, b1, b2, b3, b4⟩ := (bads x (List.mem_of_getElem? hx)).ex
      refine ⟨x, dx, rfl, b1.same sT, b2, b3, b4, tI, fun H4 at4 => ?_⟩
      have e4 := at4.1 _ _ (noT_get e fun _ z => by cases z)
      refine ⟨e4, fun b o ne hb => ?_, tabs_lst at4.2 e4, fun y hy => ?_⟩
      · rw [upd_ne ne]
        exact at4.1 _ _ (noT_get (keep b o ne hb) fun ps z => noT_no H13 b ps (by rw [hb, z]))
      · rcases List.mem_append.mp hy with hy | hy
        · exact iy y hy
        · exact List.mem_singleton.mp hy
    · obtain ⟨keep, tI, iy⟩ := iv
      have sT : Same (noT H13) H' := fun b o hb => keep b o (fun z => by rw [z, nDT] at hb; cases hb) hb
      obtain ⟨bs, rfl, hbs⟩ := bls_of (fun i y hy => iy y (List.mem_of_getElem? hy))
      refine ⟨_, bs, rfl, sqL_of e, ?_⟩
      rw [hbs]
      have hbE := sT _ _ (noT_get hb13 fun _ z => by cases z)
      have hnsE := NdsV.stay (stay_of sT) (nds_noT hns13)
      have dlE := (dl_noT dl13).same sT
      have pE : Pool H' a := by
        obtain ⟨s', d', n', h', h''⟩ := p13
        exact ⟨s', d', n', sT _ _ (noT_get h' fun _ z => by cases z), h''⟩
      refine ⟨_, _, rfl, dlE, sz, .inr ⟨tr, ns, ⟨b, vs, rfl, hbE, hnsE⟩, by omega, by omega, lm, fun z HA ez sA => ?_⟩⟩
      refine ⟨ns, ⟨b, vs, rfl, .inr (sA _ _ (hbE)), NdsV.stay (stay_of sA) (hnsE)⟩, by omega, lv, lm, fun z2 HZ ez2 sZ => ?_⟩
      obtain rfl : z2 = z := str_ext (ez2.trans ez.symm)
      refine brF (by show (!decide (V.str z2 = V.str z2)) = false; simp) ?_
      have sEZ := sA.trans sZ
      refine ⟨⟨_, _, _, _, _, rfl⟩, pE.same sEZ, tI.ext sEZ, fun b o nb nt h => sEZ _ _ (sT b o (noT_get (k013 b o nb (k0 b o nb nt h)) nt)), fun b o hb => sEZ _ _ (sT b o (noT_get (toB k013 b o hb) fun ps z => nB b ps (by rw [hb, z])))⟩
  · obtain ⟨_, p0, t0, k0, _⟩ := hv
    exact q H0 t0 k0
end
end Sk
/-! Sk: law k20 -/
namespace Sk
open PySem PySem.Spec PyProof.Rows L2
theorem sq_wt {K : PySem.W.Frag} {H1 : Hp} {a : Addr} {xs : List V} (h : SqL K H1 a xs) : ∃ Wt : Hp → Prop, Wt H1 ∧ (∀ H, Wt H → SqL K H a xs) ∧ (∀ H H', Wt H → (∀ o, (∀ ps, o ≠ HO.tbl ps) → H a = some o → H' a = some o) → Wt H') ∧ ((∀ H, Wt H) ∨ ∃ o, ∀ H, Wt H → H a = some o) := by
  rcases h with (h | ⟨o, h⟩) | h
  · exact ⟨fun H => H a = some (.lst xs), h, fun H h => .inl (.inl h), fun H H' h k => k _ (fun _ z => by cases z) h, .inr ⟨_, fun H h => h⟩⟩
  · exact ⟨fun H => H a = some (.frz o (.lst xs)), h, fun H h => .inl (.inr ⟨o, h⟩), fun H H' h k => k _ (fun _ z => by cases z) h, .inr ⟨_, fun H h => h⟩⟩
  · exact ⟨fun _ => True, trivial, fun _ _ => .inr h, fun _ _ _ _ => trivial, .inl fun _ => trivial⟩
theorem tabs0 {K : PySem.W.Frag} {H : Hp} (h : ∀ p ∈ [(("_law_refused" : Str), (none : Option Str))].map (fun d => He.cT K d), H p.2 = some (.tbl #[])) : LamX.Tabs (tF K) H := fun p hp => by
  rw [List.mem_singleton.mp hp]
  exact LamX.TabS.nil (h (cF K) (List.mem_map.mpr ⟨("_law_refused", none), List.mem_cons_self .., rfl⟩))
def BadD (d : PyData) : Prop := Sz d ∧ nodesD 30 d = false ∧ ShD d 6000000 40
def badB (d : PyData) : Bool := szB 12 d && (!nodesD 30 d && shB d)
theorem badB_ok {d : PyData} (h : badB d = true) : BadD d := by
  obtain ⟨h1, h2⟩ := Bool.and_eq_true_iff.mp h
  obtain ⟨h2, h3⟩ := Bool.and_eq_true_iff.mp h2
  refine ⟨szB_ok _ _ h1, ?_, (shB_ok h3).mono (by decide) (by decide)⟩
  cases e : nodesD 30 d with
  | false => rfl
  | true => rw [e] at h2; cases h2
theorem bad_one {d : PyData} (h : OddD d) : BadD (.tuple [d]) := by
  obtain ⟨h1, h2, h3⟩ := h
  refine ⟨.tup (by simp) fun e he => by rw [List.mem_singleton.mp he]; exact h1, nodes_bad (xs := []) (ys := []) (nodeW_ok h2 30), ?_⟩
  exact (ShD.tuple (ShL.cons h3 ShL.nil)).mono (by decide) (by decide)
section
variable {P : Program} {w : World} {K : PySem.W.Frag} {mg : Str → Option Value} {base : Heap}
def sp_law (K : PySem.W.Frag) : Sp := fun vs H Q _ => match vs with
  | [.ref a] => (∃ ns : List Int, ns.length ≤ 63 ∧ SqL K H a (ns.map V.int)) ∧ LamX.Tabs (tF K) H ∧ ∀ H', Q (.bl true) H'
  | _ => False
theorem ok_law (T : Top K mg) (tb : LamX.TabB base mg (cF K).1 (cF K).2) (k : Nat) : FnG P w K mg base (k + 83) (He.ga K "law") T.fd_law ["_law_script"] (sp_law K) := by
  have G__law_right : FnG P w K mg base 82 (He.ga K "_law_right") T.fd__law_right ["_law_pool_here"] (spR20 K) := ok_r20 T tb 0
  have G__law_refused : FnG P w K mg base 80 (He.ga K "_law_refused") T.fd__law_refused ["_law_thing_here"] (spRef K) := ok_ref T tb 0
  have G__law_odd_nodes : Ok__law_odd_nodes P w base T 2 (spOdds 100 oddB) := ok_oddn T 0
  have G__law_pool : Ok__law_pool P w base T 1 sp_pool := ok_pool T 0
  have G__law_cell : Ok__law_cell P w base T 1 (sp_cell K) := ok_cell T 0
  refine fnG_of T.F_law sc_law (fun vs H Q E h => ?_) (fun cdv A outer s H vs Q E gd hr h => ⟨_, (pss_cons (ps_set (i := 1) sc_law.nd rfl (by first | exact .inl rfl | exact .inr rfl) (pe_lst (pa_lits (by rfl))))
      (pss_cons (ps_set (i := 1) sc_law.nd rfl (by first | exact .inl rfl | exact .inr rfl) (pe_op (kplus K) (vr 1) (pe_lit (by rfl))))
      (pss_cons (sif (pt_not (tst (pe_callB (kall K rfl) (by rfl) T.n_all (by decide +kernel) (pa_cons (pe_lc (own := [("_law_each", 3)])  rfl sc_law.nd (ilist K (pe_op (kplus K) (vr 1) (pe_lc (own := [("_law_odd", 4)])  rfl sc_law.nd (ilist K (pe_call0 G__law_odd_nodes (hr.mono (by omega)) (by rfl) T.g__law_odd_nodes T.F__law_odd_nodes.kp (b__law_odd_nodes T) .nil pass0)) (blkOk_by (own := [("_law_odd", 4)]) (N := ["_law_script", "_law_some", "_law_k", "_law_each", "_law_odd"]) (sc := defScope s_law) (by decide +kernel)) (fun _ _ _ _ _ => (pg_name (i := 4) sc_law.nd rfl (by first | exact .inl rfl | exact .inr rfl))) (fun _ _ _ _ _ => pts_nil) (fun _ _ _ _ _ => up (pe_tup (pa_cons (vr 4) pa_nil)))))) (blkOk_by (own := [("_law_each", 3)]) (N := ["_law_script", "_law_some", "_law_k", "_law_each", "_law_odd"]) (sc := defScope s_law) (by decide +kernel)) (fun _ _ _ _ _ => (pg_name (i := 3) sc_law.nd rfl (by first | exact .inl rfl | exact .inr rfl))) (fun _ _ _ _ _ => pts_nil) (fun _ _ _ _ _ => up (pecallG G__law_refused gd (hr.mono (by omega)) (by rfl) T.g__law_refused T.F__law_refused.kp (b__law_refused T) (pa_cons (vr 3) pa_nil)))) pa_nil)))) (pss_one (ps_ret pe_bl)) pss_nil)
      (pss_one (ps_ret (pe_callB (kall K rfl) (by rfl) T.n_all (by decide +kernel) (pa_cons (pe_lc (own := [("_law_k", 2)])  rfl sc_law.nd (pi_range1 (by rfl) T.n_range (pa_cons (pe_callB (call_maxU rfl) (by rfl) T.n_max (by decide +kernel) (pa_cons pe_int (pa_cons (pe_callB (call_minU rfl) (by rfl) T.n_min (by decide +kernel) (pa_cons (pe_callB (klen K) (by rfl) T.n_len (by decide +kernel) (pa_cons (vr 0) pa_nil)) (pa_cons pe_int pa_nil))) pa_nil))) pa_nil)) (blkOk_by (own := [("_law_k", 2)]) (N := ["_law_script", "_law_some", "_law_k", "_law_each", "_law_odd"]) (sc := defScope s_law) (by decide +kernel)) (fun _ _ _ _ _ => (pg_name (i := 2) sc_law.nd rfl (by first | exact .inl rfl | exact .inr rfl))) (fun _ _ _ _ _ => pts_nil) (fun _ _ _ _ _ => up (pecallG G__law_right gd (hr.mono (by omega)) (by rfl) T.g__law_right T.F__law_right.kp (b__law_right T) (pa_cons (pe_call G__law_pool (hr.mono (by omega)) (by rfl) T.g__law_pool T.F__law_pool.kp (b__law_pool T) .nil pass0 (pa_cons (pe_call G__law_cell (hr.mono (by omega)) (by rfl) T.g__law_cell T.F__law_cell.kp (b__law_cell T) .nil pass0 (pa_cons (vr 0) (pa_cons (vr 2) pa_nil))) pa_nil)) pa_nil)))) pa_nil))))))), ?_⟩)
  · unfold sp_law at h
    split at h
    · rfl
    · exact h.elim
  unfold sp_law at h
  split at h
  rotate_left
  · exact h.elim
  obtain ⟨⟨ns, hns, hS⟩, tbs, q⟩ := h
  rename_i a
  rw [st_law]
  refine fun v1 H1 s0 r1 => ?_
  obtain ⟨l0, g0⟩ := oddL_new (p := badB) s0 r1 (by decide +kernel) (by decide)
  refine ⟨l0, fun L nL => ?_⟩
  obtain ⟨s1, odd⟩ := g0 L nL
  clear r1 g0 l0 s0
  revert s1 odd
  generalize upd H1 L _ = G1
  intro s1 odd
  simp only [gName, List.set_cons_succ, List.set_cons_zero]
  refine fun v2 H2 t2 r2 => ?_
  obtain ⟨b2, rfl, _, u2⟩ := oddL_lit (p := badB) r2 (by decide +kernel)
  obtain ⟨xs2, ys2, e2, f2, l2, g2⟩ := oddL_cat s1 odd t2 u2 (by decide)
  refine .inl ⟨_, _, _, _, rfl, rfl, e2, f2, l2, fun q2 n2 => ?_⟩
  clear odd s1 u2 r2 t2
  obtain ⟨s1, odd⟩ := g2 q2 n2
  clear g2 e2 f2 l2
  revert s1 odd
  generalize upd H2 q2 _ = G2
  intro s1 odd
  simp only [gName, List.set_cons_succ, List.set_cons_zero]
  have odd := OddL.le (n := 50) odd (by decide)
  obtain ⟨xs0, ds0, o1, o2, o3, o4, o5⟩ := odd
  refine ⟨rfl, fun La HA sA oA => ?_⟩
  obtain ⟨xa, da, ha1, ha2, ha3, ha4, _⟩ := oA
  have hA := (newP_some ha1).2
  refine ⟨La, rfl, ⟨_, sqL_of hA⟩, fun D nD => ?_⟩
  have nD0 : G2 D = none := sA.free nD
  refine lcI (K := K) (a := La) (xs := xa) (fun i ys H' => (∀ b o, b ≠ D → HA b = some o → H' b = some o) ∧ ∃ es : List PyData, DLs (hide D (newP G2 H')) ys es ∧ ∀ e ∈ es, BadD e) ?_ (by omega) (fun i ys H' iv e => ?_) (fun _ => rfl) (fun i x H' ys hx iv e => ?_) (fun H' ys iv lys e => ?_)
  · exact ⟨fun b o ne hb => by rw [upd_ne ne]; exact hb, [], .nil, fun e he => by cases he⟩
  · exact sqL_of (iv.1 _ _ (fun z => by rw [z, nD] at hA; cases hA) hA)
  · obtain ⟨keep, es, he, ho⟩ := iv
    obtain ⟨d, e1, hd⟩ := ha2.at i x hx
    have od := oddB_ok (List.all_eq_true.mp ha3 d (List.mem_of_getElem? e1))
    refine ⟨Nat.le_of_ble_eq_true rfl, fun t1 n1 => ?_⟩
    generalize g1 : upd _ t1 _ = B1
    obtain ⟨b1, h1, m1⟩ := lay_of g1 n1
    clear g1
    have keepG : ∀ b o, G2 b = some o → H' b = some o := fun b o hb => keep b o (fun z => by rw [z, nD0] at hb; cases hb) (sA b o hb)
    have into : ∀ {b : Addr} {o : HO}, H' b = none → B1 b = some o → hide D (newP G2 (upd B1 D (.lst (ys ++ [.ref t1])))) b = some o := fun {b o} hn hb => by
      have ne : b ≠ D := fun z => by rw [z, e] at hn; cases hn
      have gn : G2 b = none := by
        cases q : G2 b with
        | none => rfl
        | some u => rw [keepG b u q] at hn; cases hn
      rw [hide_ne ne, newP_at gn, upd_ne ne]
      exact hb
    refine ⟨b1 _ _ e, fun b o ne hb => by rw [upd_ne ne]; exact b1 _ _ (keep b o ne hb), es ++ [.tuple [d]], ?_, fun e he => ?_⟩
    · refine (he.same ((hide_same (newP_same b1)).trans newP_upd)).app (.cons ?_ .nil)
      refine .tup (into m1 h1) (.cons ?_ .nil)
      refine hd.same fun b o hb => ?_
      obtain ⟨hb1, hb2⟩ := newP_some hb
      have ne : b ≠ D := fun z => by rw [z, nD] at hb2; cases hb2
      rw [hide_ne ne, newP_at hb1, upd_ne ne]
      exact b1 _ _ (keep b o ne hb2)
    · rcases List.mem_append.mp he with h | h
      · exact ho e h
      · rw [List.mem_singleton.mp h]
        exact bad_one od
  obtain ⟨keep, es, he, ho⟩ := iv
  have keepG : Same G2 H' := fun b o hb => keep b o (fun z => by rw [z, nD0] at hb; cases hb) (sA b o hb)
  have hq := keepG _ _ (newP_some o1).2
  refine .inl ⟨_, _, _, _, rfl, rfl, hq, e, size_le (by omega), fun N nN => ?_⟩
  have dN : DLs (upd H' N (.lst (xs0 ++ ys))) (xs0 ++ ys) (ds0 ++ es) := (o2.same (newP_sub.trans (keepG.trans (same_new nN)))).app ((he.same hide_sub).same (newP_sub.trans (same_new nN)))
  have bN : ∀ d ∈ ds0 ++ es, BadD d := fun d hd => by
    rcases List.mem_append.mp hd with h | h
    · exact badB_ok (List.all_eq_true.mp o3 d h)
    · exact ho d h
  have hN : upd H' N (.lst (xs0 ++ ys)) N = some (.lst (xs0 ++ ys)) := upd_same
  have sN : Same H (upd H' N (.lst (xs0 ++ ys))) := s1.trans (keepG.trans (same_new nN))
  have lN : (xs0 ++ ys).length ≤ 200 := by rw [List.length_append]; omega
  revert dN bN hN sN lN
  generalize upd H' N _ = G3
  generalize xs0 ++ ys = zs
  generalize ds0 ++ es = fs
  intro dN bN hN sN lN
  clear he ho keep keepG hq o1 o2 o3 o4 o5 ha1 ha2 ha3 ha4 hA sA s1 e
  have t3 := tbs.ext sN
  obtain ⟨W0, u1, u2, u3, _⟩ := sq_wt hS
  have w03 : W0 G3 := u3 _ _ u1 fun o _ e => sN _ _ e
  refine ⟨N, rfl, ⟨_, sqL_of hN⟩, fun D2 nD2 => ?_⟩
  have nDT : noT G3 D2 = none := by
    cases e : noT G3 D2 with
    | none => rfl
    | some o => rw [noT_sub _ _ e] at nD2; cases nD2
  have ND : N ≠ D2 := fun z => by rw [z, nD2] at hN; cases hN
  have hNT := noT_get hN fun _ z => by cases z
  have dNT := dls_noT dN
  refine lcI (K := K) (a := N) (xs := zs) (fun _ ys H' => (∀ b o, b ≠ D2 → noT G3 b = some o → H' b = some o) ∧ LamX.Tabs (tF K) H' ∧ ∀ y ∈ ys, y = .bl true) ?_ (by omega) (fun i ys H' iv e => sqL_of (iv.1 _ _ ND hNT)) (fun _ => rfl) (fun i x H' ys hx iv e => ?_) (fun H' ys iv lys e => ?_)
  · exact ⟨fun b o ne hb => by rw [upd_ne ne]; exact noT_sub _ _ hb, t3.ext (same_new nD2), fun y hy => by cases hy⟩
  · obtain ⟨keep, tI, iy⟩ := iv
    have sT : Same (noT G3) H' := fun b o hb => keep b o (fun z => by rw [z, nDT] at hb; cases hb) hb
    obtain ⟨dx, ex, b1⟩ := dNT.at i x hx
    obtain ⟨b2, b3, b4⟩ := bN dx (List.mem_of_getElem? ex)
    refine ⟨x, dx, rfl, b1.same sT, b2, b3, b4, tI, fun H4 at4 => ?_⟩
    have e4 := at4.1 _ _ (noT_get e fun _ z => by cases z)
    refine ⟨e4, fun b o ne hb => ?_, tabs_lst at4.2 e4, fun y hy => ?_⟩
    · rw [upd_ne ne]
      exact at4.1 _ _ (noT_get (keep b o ne hb) fun ps z => noT_no G3 b ps (by rw [hb, z]))
    · rcases List.mem_append.mp hy with hy | hy
      · exact iy y hy
      · exact List.mem_singleton.mp hy
  obtain ⟨keep, tI, iy⟩ := iv
  have sT : Same (noT G3) H' := fun b o hb => keep b o (fun z => by rw [z, nDT] at hb; cases hb) hb
  obtain ⟨bs, rfl, hbs⟩ := bls_of (fun i y hy => iy y (List.mem_of_getElem? hy))
  refine ⟨_, bs, rfl, sqL_of e, ?_⟩
  rw [hbs]
  have w7 : W0 H' := u3 _ _ w03 fun o no e => sT _ _ (noT_get e no)
  have hS7 : SqL K H' a (ns.map V.int) := u2 _ w7
  have tb7 : LamX.Tabs (tF K) H' := tI
  clear keep iy sT
  refine ⟨_, .inl hS7, ?_⟩
  refine ⟨_, rfl, ?_, ?_, fun D nD => ?_⟩
  · rw [List.length_map]
    split <;> split <;> omega
  · rw [List.length_map]
    split <;> split <;> omega
  obtain ⟨Wt, w1, w2, w3, w4⟩ := sq_wt hS7
  have wD : ∀ H l, Wt H → Wt (upd H D l) := fun H' l hw => by
    rcases w4 with h | ⟨o, h⟩
    · exact h _
    · refine w3 H' _ hw fun o' _ e => (upd_ne fun z => ?_).trans e
      have e2 := h _ w1
      rw [z, nD] at e2
      cases e2
  refine lcrV (fun H' => Wt H' ∧ LamX.Tabs (tF K) H' ∧ ∃ ys, H' D = some (.lst ys)) (fun _ v => v = .bl true) ⟨wD _ _ w1, tb7.ext (same_new nD), _, upd_same⟩ ?_ (fun H' l h => ?_) (fun _ => rfl) (fun i H2 ys hi hj hD => ?_) (fun H2 ys hj l2 e2 q2 => ?_)
  · rw [List.length_map]
    split <;> split <;> omega
  · obtain ⟨h1, h2, ys, h3⟩ := h
    exact ⟨wD _ _ h1, tabs_lst h2 h3, _, upd_same⟩
  · obtain ⟨h1, h2, _, _⟩ := hj
    have hi8 : i < 64 := by
      rw [List.length_map] at hi
      split at hi <;> split at hi <;> omega
    refine ⟨⟨ns, w2 _ h1⟩, by omega, by omega, fun zc H3 s3 b H4 s4 nb p4 => ?_⟩
    have nbD : D ≠ b := fun z => by
      have := s3 _ _ hD
      rw [z, nb] at this
      cases this
    refine ⟨b, rfl, p4, h2.ext (s3.trans s4), fun H5 t5 k5 => ⟨⟨?_, t5, ys, ?_⟩, ?_, rfl⟩⟩
    · refine w3 H2 H5 h1 fun o no e => ?_
      have e3 := s3 _ _ e
      exact k5 _ _ (ne_of_none e3 nb) no (s4 _ _ e3)
    · exact k5 _ _ nbD (fun _ z => by cases z) (s4 _ _ (s3 _ _ hD))
    · exact k5 _ _ nbD (fun _ z => by cases z) (s4 _ _ (s3 _ _ hD))
  · obtain ⟨bs2, rfl, hb2⟩ := bls_of q2
    refine ⟨_, bs2, rfl, sqL_of e2, ?_⟩
    rw [hb2]
    exact q _
end
end Sk
namespace Sk
open PySem PySem.Spec PyProof.Rows L2
def fn : List He5.DefA := [d_is_name, d_has_level, d_write_text, d_write_attribute, d_write_sign, d_write_code, d_write_literal, d_is_value, d_are_texts, d_is_pair, d_is_address, d_is_attribute, d_is_text_node, d_is_node, d_are_nodes, d_is_tree, d_written_attribute, d_written_node, d_written, d_write, d__law_cell, d__law_pool, d__law_draw, d__law_words, d__law_chars, d__law_form, d__law_thing_of, d__law_code, d__law_literal, d__law_escaped, d__law_kind, d__law_fields_of, d__law_other_fields, d__law_caught, d__law_attribute, d__law_trunk, d__law_sheet, d__law_attribute_text, d__law_odd_nodes, d__law_odd_attributes, d__law_bent, d__law_refused, d__law_right, d_law, d_InvalidTree___init__]
def fa : List He.Fa := [.glo "is_name", .glo "has_level", .glo "write_text", .glo "write_attribute", .glo "write_sign", .glo "write_code", .glo "write_literal", .glo "is_value", .glo "are_texts", .glo "is_pair", .glo "is_address", .glo "is_attribute", .glo "is_text_node", .glo "is_node", .glo "are_nodes", .glo "is_tree", .glo "written_attribute", .glo "written_node", .glo "written", .glo "write", .glo "_law_cell", .glo "_law_pool", .glo "_law_draw", .glo "_law_words", .glo "_law_chars", .glo "_law_form", .glo "_law_thing_of", .glo "_law_code", .glo "_law_literal", .glo "_law_escaped", .glo "_law_kind", .glo "_law_fields_of", .glo "_law_other_fields", .glo "_law_caught", .glo "_law_attribute", .glo "_law_trunk", .glo "_law_sheet", .glo "_law_attribute_text", .glo "_law_odd_nodes", .glo "_law_odd_attributes", .glo "_law_bent", .glo "_law_refused", .glo "_law_right", .glo "law", .glo "ShapeError", .glo "InvalidName", .glo "InvalidText", .glo "InvalidValue", .glo "InvalidTree", .glo "InvalidContext", .glo "InvalidPage", .glo "InvalidBody", .glo "InvalidTag", .glo "Misplaced", .glo "InvalidPlan", .glo "InvalidPass", .glo "InvalidPatches", .glo "InvalidSize", .glo "InvalidAction", .glo "InvalidCommand", .glo "NotALibrary", .glo "TypeTrouble", .glo "StateError", .glo "NameTaken", .glo "MissingTemplate", .glo "InUse", .glo "Ring", .glo "Unfit", .glo "NoSuchPath", .glo "NotLate", .glo "NotDone", .glo "Busy", .glo "NothingToUndo", .glo "SizeError", .glo "TooManyTemplates", .glo "TooManyLevels", .glo "TooManyNodes", .glo "TooManyElements", .glo "TooManyEntries", .glo "TooDeep", .int "MAX_ELEMENTS" 60, .int "MAX_LEVELS" 6, .int "MAX_NESTED" 30, .str "LETTERS" "abcdefghijklmnopqrstuvwxyz", .str "END_OF_DATA" "</data>", .str "ADDRESS" "href", .str "DATA" "data", .str "HEX" "0123456789abcdef", .str "CODED" (Str.ofString ("\n !\"#$&'()*+,/:;<=>?@" ++ "[\\]^`{|}~")), .str "START_OF_DATA" "<data>", .free "ArithmeticError", .free "LookupError", .free "ValueError", .free "abs", .free "all", .free "any", .free "bool", .free "dict", .free "divmod", .free "int", .free "isinstance", .free "len", .free "list", .free "max", .free "min", .free "ord", .free "range", .free "repr", .free "sorted", .free "str", .free "tuple", .free "zip"]
def ex (K : PySem.W.Frag) : Bool := (He.dictB K sysModules && (kindB K (He.ga K "InvalidTree") 3 && (oexB K (He.ga K "InvalidTree") (He.ma K (He.ga K "InvalidTree") "__init__") && true)))
def ts : List He.Tab := []
def tf : List He.Defn := [("_law_refused", none)]
abbrev R : PySem.W.OpenRow := PySem.W.OpenLaw.row PySem.Challenge.rw_shapekeep_k20_what_is_a_tree
abbrev hk : PySem.W.Hook := hookV fa fn ts tf ex
def ob (s : PySem.W.SharedT) : AlU := seenV fa fn ts tf ex (HandSHeadRun.getT s)
theorem ob_eq (s : PySem.W.SharedT) : ob s = hk.obs s.abs := seenV_eq (HandSHeadRun.getT_eq s)
def loose0 : List PySem.Str := ["MAX_ELEMENTS", "MAX_LEVELS", "MAX_NESTED", "LETTERS", "is_name", "has_level", "END_OF_DATA", "ADDRESS", "DATA", "HEX", "CODED", "write_text", "write_attribute", "write_sign", "write_code", "ShapeError", "InvalidName", "InvalidText", "InvalidValue", "InvalidTree", "InvalidContext", "InvalidPage", "InvalidBody", "InvalidTag"]
def loose1 : List PySem.Str := ["Misplaced", "InvalidPlan", "InvalidPass", "InvalidPatches", "InvalidSize", "InvalidAction", "InvalidCommand", "NotALibrary", "TypeTrouble", "StateError", "NameTaken", "MissingTemplate", "InUse", "Ring", "Unfit", "NoSuchPath", "NotLate", "NotDone", "Busy", "NothingToUndo", "SizeError", "TooManyTemplates", "TooManyLevels", "TooManyNodes"]
def loose2 : List PySem.Str := ["TooManyElements", "TooManyEntries", "TooDeep", "write_literal", "is_value", "START_OF_DATA", "are_texts", "is_pair", "is_address", "is_attribute", "is_text_node", "is_node", "are_nodes", "is_tree", "written_attribute", "written_node", "written", "write", "_law_cell", "_law_pool", "_law_draw", "_law_words", "_law_chars", "_law_form"]
def loose3 : List PySem.Str := ["_law_thing_of", "_law_code", "_law_literal", "_law_escaped", "_law_kind", "_law_fields_of", "_law_other_fields", "_law_caught", "_law_attribute", "_law_trunk", "_law_sheet", "_law_attribute_text", "_law_odd_nodes", "_law_odd_attributes", "_law_bent", "_law_refused", "_law_right"]
def loose : List PySem.Str := loose0 ++ loose1 ++ loose2 ++ loose3
open PySem.W PySem.Calls HandSHeadRun in
noncomputable abbrev endR (w : World) (os : OsState) : Option SharedT := endF (stepQ (denQ tabQ) R.prog w) 20000 R.prog w os
open PySem.W PySem.Calls HandSHeadRun in
theorem runA (w : World) (os : OsState) : (endR w os).map (fun s => looksF R.prog (boot_heap w.params) s.abs) = some true := by
  kernel_rfl
open PySem.W PySem.Calls HandSHeadRun in
theorem runB (w : World) (os : OsState) : (endR w os).map (fun s => seenQ (PySem.W.view R.prog [96]) loose (importedModules R.prog.main.body) (fun s => xlAt (PySem.W.view R.prog [96]) [] s && recOk R.toRowW.records s) s.abs) = some (openGood (PySem.W.view R.prog [96]) loose) := by
  kernel_rfl
open PySem.W PySem.Calls HandSHeadRun in
theorem runC (w : World) (os : OsState) : (endR w os).map ob = some (hk.val w) := by
  kernel_rfl
theorem run (w : World) : HandSHeadRun.RunEq R (PySem.W.view R.prog [96]) hk ob 20000 loose w := by
  intro os
  exact run3 (runA w os) (runB w os) (runC w os)
theorem top_of {K : PySem.W.Frag} {h : Heap} {mg : Str → Option Value} (X : K.In h) (G : h.Ns mainGlobals mg) (c : He5.SaysA fa fn K) (m : ex K = true) : Nonempty (Top K mg) := by
  unfold ex at m
  obtain ⟨m0, m⟩ := He.ba m
  obtain ⟨m1, m⟩ := He.ba m
  obtain ⟨m2, m⟩ := He.ba m
  obtain ⟨fd0, F0⟩ := c.def_ 0 (d := d_is_name) rfl
  obtain ⟨fd1, F1⟩ := c.def_ 1 (d := d_has_level) rfl
  obtain ⟨fd2, F2⟩ := c.def_ 2 (d := d_write_text) rfl
  obtain ⟨fd3, F3⟩ := c.def_ 3 (d := d_write_attribute) rfl
  obtain ⟨fd4, F4⟩ := c.def_ 4 (d := d_write_sign) rfl
  obtain ⟨fd5, F5⟩ := c.def_ 5 (d := d_write_code) rfl
  obtain ⟨fd6, F6⟩ := c.def_ 6 (d := d_write_literal) rfl
  obtain ⟨fd7, F7⟩ := c.def_ 7 (d := d_is_value) rfl
  obtain ⟨fd8, F8⟩ := c.def_ 8 (d := d_are_texts) rfl
  obtain ⟨fd9, F9⟩ := c.def_ 9 (d := d_is_pair) rfl
  obtain ⟨fd10, F10⟩ := c.def_ 10 (d := d_is_address) rfl
  obtain ⟨fd11, F11⟩ := c.def_ 11 (d := d_is_attribute) rfl
  obtain ⟨fd12, F12⟩ := c.def_ 12 (d := d_is_text_node) rfl
  obtain ⟨fd13, F13⟩ := c.def_ 13 (d := d_is_node) rfl
  obtain ⟨fd14, F14⟩ := c.def_ 14 (d := d_are_nodes) rfl
  obtain ⟨fd15, F15⟩ := c.def_ 15 (d := d_is_tree) rfl
  obtain ⟨fd16, F16⟩ := c.def_ 16 (d := d_written_attribute) rfl
  obtain ⟨fd17, F17⟩ := c.def_ 17 (d := d_written_node) rfl
  obtain ⟨fd18, F18⟩ := c.def_ 18 (d := d_written) rfl
  obtain ⟨fd19, F19⟩ := c.def_ 19 (d := d_write) rfl
  obtain ⟨fd20, F20⟩ := c.def_ 20 (d := d__law_cell) rfl
  obtain ⟨fd21, F21⟩ := c.def_ 21 (d := d__law_pool) rfl
  obtain ⟨fd22, F22⟩ := c.def_ 22 (d := d__law_draw) rfl
  obtain ⟨fd23, F23⟩ := c.def_ 23 (d := d__law_words) rfl
  obtain ⟨fd24, F24⟩ := c.def_ 24 (d := d__law_chars) rfl
  obtain ⟨fd25, F25⟩ := c.def_ 25 (d := d__law_form) rfl
  obtain ⟨fd26, F26⟩ := c.def_ 26 (d := d__law_thing_of) rfl
  obtain ⟨fd27, F27⟩ := c.def_ 27 (d := d__law_code) rfl
  obtain ⟨fd28, F28⟩ := c.def_ 28 (d := d__law_literal) rfl
  obtain ⟨fd29, F29⟩ := c.def_ 29 (d := d__law_escaped) rfl
  obtain ⟨fd30, F30⟩ := c.def_ 30 (d := d__law_kind) rfl
  obtain ⟨fd31, F31⟩ := c.def_ 31 (d := d__law_fields_of) rfl
  obtain ⟨fd32, F32⟩ := c.def_ 32 (d := d__law_other_fields) rfl
  obtain ⟨fd33, F33⟩ := c.def_ 33 (d := d__law_caught) rfl
  obtain ⟨fd34, F34⟩ := c.def_ 34 (d := d__law_attribute) rfl
  obtain ⟨fd35, F35⟩ := c.def_ 35 (d := d__law_trunk) rfl
  obtain ⟨fd36, F36⟩ := c.def_ 36 (d := d__law_sheet) rfl
  obtain ⟨fd37, F37⟩ := c.def_ 37 (d := d__law_attribute_text) rfl
  obtain ⟨fd38, F38⟩ := c.def_ 38 (d := d__law_odd_nodes) rfl
  obtain ⟨fd39, F39⟩ := c.def_ 39 (d := d__law_odd_attributes) rfl
  obtain ⟨fd40, F40⟩ := c.def_ 40 (d := d__law_bent) rfl
  obtain ⟨fd41, F41⟩ := c.def_ 41 (d := d__law_refused) rfl
  obtain ⟨fd42, F42⟩ := c.def_ 42 (d := d__law_right) rfl
  obtain ⟨fd43, F43⟩ := c.def_ 43 (d := d_law) rfl
  obtain ⟨fd44, F44⟩ := c.def_ 44 (d := d_InvalidTree___init__) rfl
  obtain ⟨t0, c0⟩ := He.int_ok X G (c.fact 80 (f := .int "MAX_ELEMENTS" 60) rfl)
  obtain ⟨t1, c1⟩ := He.int_ok X G (c.fact 81 (f := .int "MAX_LEVELS" 6) rfl)
  obtain ⟨t2, c2⟩ := He.int_ok X G (c.fact 82 (f := .int "MAX_NESTED" 30) rfl)
  obtain ⟨t3, c3⟩ := He.str_ok X G (c.fact 83 (f := .str "LETTERS" "abcdefghijklmnopqrstuvwxyz") rfl)
  obtain ⟨t4, c4⟩ := He.str_ok X G (c.fact 84 (f := .str "END_OF_DATA" "</data>") rfl)
  obtain ⟨t5, c5⟩ := He.str_ok X G (c.fact 85 (f := .str "ADDRESS" "href") rfl)
  obtain ⟨t6, c6⟩ := He.str_ok X G (c.fact 86 (f := .str "DATA" "data") rfl)
  obtain ⟨t7, c7⟩ := He.str_ok X G (c.fact 87 (f := .str "HEX" "0123456789abcdef") rfl)
  obtain ⟨t8, c8⟩ := He.str_ok X G (c.fact 88 (f := .str "CODED" (Str.ofString ("\n !\"#$&'()*+,/:;<=>?@" ++ "[\\]^`{|}~"))) rfl)
  obtain ⟨t9, c9⟩ := He.str_ok X G (c.fact 89 (f := .str "START_OF_DATA" "<data>") rfl)
  exact ⟨{ sys := m0, fd_is_name := fd0, F_is_name := F0, g_is_name := He.glo_ok X G (c.fact 0 (f := .glo "is_name") rfl), fd_has_level := fd1, F_has_level := F1, g_has_level := He.glo_ok X G (c.fact 1 (f := .glo "has_level") rfl), fd_write_text := fd2, F_write_text := F2, g_write_text := He.glo_ok X G (c.fact 2 (f := .glo "write_text") rfl), fd_write_attribute := fd3, F_write_attribute := F3, g_write_attribute := He.glo_ok X G (c.fact 3 (f := .glo "write_attribute") rfl), fd_write_sign := fd4, F_write_sign := F4, g_write_sign := He.glo_ok X G (c.fact 4 (f := .glo "write_sign") rfl), fd_write_code := fd5, F_write_code := F5, g_write_code := He.glo_ok X G (c.fact 5 (f := .glo "write_code") rfl), fd_write_literal := fd6, F_write_literal := F6, g_write_literal := He.glo_ok X G (c.fact 6 (f := .glo "write_literal") rfl), fd_is_value := fd7, F_is_value := F7, g_is_value := He.glo_ok X G (c.fact 7 (f := .glo "is_value") rfl), fd_are_texts := fd8, F_are_texts := F8, g_are_texts := He.glo_ok X G (c.fact 8 (f := .glo "are_texts") rfl), fd_is_pair := fd9, F_is_pair := F9, g_is_pair := He.glo_ok X G (c.fact 9 (f := .glo "is_pair") rfl), fd_is_address := fd10, F_is_address := F10, g_is_address := He.glo_ok X G (c.fact 10 (f := .glo "is_address") rfl), fd_is_attribute := fd11, F_is_attribute := F11, g_is_attribute := He.glo_ok X G (c.fact 11 (f := .glo "is_attribute") rfl), fd_is_text_node := fd12, F_is_text_node := F12, g_is_text_node := He.glo_ok X G (c.fact 12 (f := .glo "is_text_node") rfl), fd_is_node := fd13, F_is_node := F13, g_is_node := He.glo_ok X G (c.fact 13 (f := .glo "is_node") rfl), fd_are_nodes := fd14, F_are_nodes := F14, g_are_nodes := He.glo_ok X G (c.fact 14 (f := .glo "are_nodes") rfl), fd_is_tree := fd15, F_is_tree := F15, g_is_tree := He.glo_ok X G (c.fact 15 (f := .glo "is_tree") rfl), fd_written_attribute := fd16, F_written_attribute := F16, g_written_attribute := He.glo_ok X G (c.fact 16 (f := .glo "written_attribute") rfl), fd_written_node := fd17, F_written_node := F17, g_written_node := He.glo_ok X G (c.fact 17 (f := .glo "written_node") rfl), fd_written := fd18, F_written := F18, g_written := He.glo_ok X G (c.fact 18 (f := .glo "written") rfl), fd_write := fd19, F_write := F19, g_write := He.glo_ok X G (c.fact 19 (f := .glo "write") rfl), fd__law_cell := fd20, F__law_cell := F20, g__law_cell := He.glo_ok X G (c.fact 20 (f := .glo "_law_cell") rfl), fd__law_pool := fd21, F__law_pool := F21, g__law_pool := He.glo_ok X G (c.fact 21 (f := .glo "_law_pool") rfl), fd__law_draw := fd22, F__law_draw := F22, g__law_draw := He.glo_ok X G (c.fact 22 (f := .glo "_law_draw") rfl), fd__law_words := fd23, F__law_words := F23, g__law_words := He.glo_ok X G (c.fact 23 (f := .glo "_law_words") rfl), fd__law_chars := fd24, F__law_chars := F24, g__law_chars := He.glo_ok X G (c.fact 24 (f := .glo "_law_chars") rfl), fd__law_form := fd25, F__law_form := F25, g__law_form := He.glo_ok X G (c.fact 25 (f := .glo "_law_form") rfl), fd__law_thing_of := fd26, F__law_thing_of := F26, g__law_thing_of := He.glo_ok X G (c.fact 26 (f := .glo "_law_thing_of") rfl), fd__law_code := fd27, F__law_code := F27, g__law_code := He.glo_ok X G (c.fact 27 (f := .glo "_law_code") rfl), fd__law_literal := fd28, F__law_literal := F28, g__law_literal := He.glo_ok X G (c.fact 28 (f := .glo "_law_literal") rfl), fd__law_escaped := fd29, F__law_escaped := F29, g__law_escaped := He.glo_ok X G (c.fact 29 (f := .glo "_law_escaped") rfl), fd__law_kind := fd30, F__law_kind := F30, g__law_kind := He.glo_ok X G (c.fact 30 (f := .glo "_law_kind") rfl), fd__law_fields_of := fd31, F__law_fields_of := F31, g__law_fields_of := He.glo_ok X G (c.fact 31 (f := .glo "_law_fields_of") rfl), fd__law_other_fields := fd32, F__law_other_fields := F32, g__law_other_fields := He.glo_ok X G (c.fact 32 (f := .glo "_law_other_fields") rfl), fd__law_caught := fd33, F__law_caught := F33, g__law_caught := He.glo_ok X G (c.fact 33 (f := .glo "_law_caught") rfl), fd__law_attribute := fd34, F__law_attribute := F34, g__law_attribute := He.glo_ok X G (c.fact 34 (f := .glo "_law_attribute") rfl), fd__law_trunk := fd35, F__law_trunk := F35, g__law_trunk := He.glo_ok X G (c.fact 35 (f := .glo "_law_trunk") rfl), fd__law_sheet := fd36, F__law_sheet := F36, g__law_sheet := He.glo_ok X G (c.fact 36 (f := .glo "_law_sheet") rfl), fd__law_attribute_text := fd37, F__law_attribute_text := F37, g__law_attribute_text := He.glo_ok X G (c.fact 37 (f := .glo "_law_attribute_text") rfl), fd__law_odd_nodes := fd38, F__law_odd_nodes := F38, g__law_odd_nodes := He.glo_ok X G (c.fact 38 (f := .glo "_law_odd_nodes") rfl), fd__law_odd_attributes := fd39, F__law_odd_attributes := F39, g__law_odd_attributes := He.glo_ok X G (c.fact 39 (f := .glo "_law_odd_attributes") rfl), fd__law_bent := fd40, F__law_bent := F40, g__law_bent := He.glo_ok X G (c.fact 40 (f := .glo "_law_bent") rfl), fd__law_refused := fd41, F__law_refused := F41, g__law_refused := He.glo_ok X G (c.fact 41 (f := .glo "_law_refused") rfl), fd__law_right := fd42, F__law_right := F42, g__law_right := He.glo_ok X G (c.fact 42 (f := .glo "_law_right") rfl), fd_law := fd43, F_law := F43, g_law := He.glo_ok X G (c.fact 43 (f := .glo "law") rfl), fd_InvalidTree___init__ := fd44, F_InvalidTree___init__ := F44, g_ShapeError := He.glo_ok X G (c.fact 44 (f := .glo "ShapeError") rfl), g_InvalidName := He.glo_ok X G (c.fact 45 (f := .glo "InvalidName") rfl), g_InvalidText := He.glo_ok X G (c.fact 46 (f := .glo "InvalidText") rfl), g_InvalidValue := He.glo_ok X G (c.fact 47 (f := .glo "InvalidValue") rfl), g_InvalidTree := He.glo_ok X G (c.fact 48 (f := .glo "InvalidTree") rfl), kind_InvalidTree := kindB_ok m1, oex_InvalidTree := oexB_ok m2, g_InvalidContext := He.glo_ok X G (c.fact 49 (f := .glo "InvalidContext") rfl), g_InvalidPage := He.glo_ok X G (c.fact 50 (f := .glo "InvalidPage") rfl), g_InvalidBody := He.glo_ok X G (c.fact 51 (f := .glo "InvalidBody") rfl), g_InvalidTag := He.glo_ok X G (c.fact 52 (f := .glo "InvalidTag") rfl), g_Misplaced := He.glo_ok X G (c.fact 53 (f := .glo "Misplaced") rfl), g_InvalidPlan := He.glo_ok X G (c.fact 54 (f := .glo "InvalidPlan") rfl), g_InvalidPass := He.glo_ok X G (c.fact 55 (f := .glo "InvalidPass") rfl), g_InvalidPatches := He.glo_ok X G (c.fact 56 (f := .glo "InvalidPatches") rfl), g_InvalidSize := He.glo_ok X G (c.fact 57 (f := .glo "InvalidSize") rfl), g_InvalidAction := He.glo_ok X G (c.fact 58 (f := .glo "InvalidAction") rfl), g_InvalidCommand := He.glo_ok X G (c.fact 59 (f := .glo "InvalidCommand") rfl), g_NotALibrary := He.glo_ok X G (c.fact 60 (f := .glo "NotALibrary") rfl), g_TypeTrouble := He.glo_ok X G (c.fact 61 (f := .glo "TypeTrouble") rfl), g_StateError := He.glo_ok X G (c.fact 62 (f := .glo "StateError") rfl), g_NameTaken := He.glo_ok X G (c.fact 63 (f := .glo "NameTaken") rfl), g_MissingTemplate := He.glo_ok X G (c.fact 64 (f := .glo "MissingTemplate") rfl), g_InUse := He.glo_ok X G (c.fact 65 (f := .glo "InUse") rfl), g_Ring := He.glo_ok X G (c.fact 66 (f := .glo "Ring") rfl), g_Unfit := He.glo_ok X G (c.fact 67 (f := .glo "Unfit") rfl), g_NoSuchPath := He.glo_ok X G (c.fact 68 (f := .glo "NoSuchPath") rfl), g_NotLate := He.glo_ok X G (c.fact 69 (f := .glo "NotLate") rfl), g_NotDone := He.glo_ok X G (c.fact 70 (f := .glo "NotDone") rfl), g_Busy := He.glo_ok X G (c.fact 71 (f := .glo "Busy") rfl), g_NothingToUndo := He.glo_ok X G (c.fact 72 (f := .glo "NothingToUndo") rfl), g_SizeError := He.glo_ok X G (c.fact 73 (f := .glo "SizeError") rfl), g_TooManyTemplates := He.glo_ok X G (c.fact 74 (f := .glo "TooManyTemplates") rfl), g_TooManyLevels := He.glo_ok X G (c.fact 75 (f := .glo "TooManyLevels") rfl), g_TooManyNodes := He.glo_ok X G (c.fact 76 (f := .glo "TooManyNodes") rfl), g_TooManyElements := He.glo_ok X G (c.fact 77 (f := .glo "TooManyElements") rfl), g_TooManyEntries := He.glo_ok X G (c.fact 78 (f := .glo "TooManyEntries") rfl), g_TooDeep := He.glo_ok X G (c.fact 79 (f := .glo "TooDeep") rfl), t_MAX_ELEMENTS := t0, c_MAX_ELEMENTS := c0, t_MAX_LEVELS := t1, c_MAX_LEVELS := c1, t_MAX_NESTED := t2, c_MAX_NESTED := c2, t_LETTERS := t3, c_LETTERS := c3, t_END_OF_DATA := t4, c_END_OF_DATA := c4, t_ADDRESS := t5, c_ADDRESS := c5, t_DATA := t6, c_DATA := c6, t_HEX := t7, c_HEX := c7, t_CODED := t8, c_CODED := c8, t_START_OF_DATA := t9, c_START_OF_DATA := c9, n_ArithmeticError := He.free_ok X G (c.fact 90 (f := .free "ArithmeticError") rfl), n_LookupError := He.free_ok X G (c.fact 91 (f := .free "LookupError") rfl), n_ValueError := He.free_ok X G (c.fact 92 (f := .free "ValueError") rfl), n_abs := He.free_ok X G (c.fact 93 (f := .free "abs") rfl), n_all := He.free_ok X G (c.fact 94 (f := .free "all") rfl), n_any := He.free_ok X G (c.fact 95 (f := .free "any") rfl), n_bool := He.free_ok X G (c.fact 96 (f := .free "bool") rfl), n_dict := He.free_ok X G (c.fact 97 (f := .free "dict") rfl), n_divmod := He.free_ok X G (c.fact 98 (f := .free "divmod") rfl), n_int := He.free_ok X G (c.fact 99 (f := .free "int") rfl), n_isinstance := He.free_ok X G (c.fact 100 (f := .free "isinstance") rfl), n_len := He.free_ok X G (c.fact 101 (f := .free "len") rfl), n_list := He.free_ok X G (c.fact 102 (f := .free "list") rfl), n_max := He.free_ok X G (c.fact 103 (f := .free "max") rfl), n_min := He.free_ok X G (c.fact 104 (f := .free "min") rfl), n_ord := He.free_ok X G (c.fact 105 (f := .free "ord") rfl), n_range := He.free_ok X G (c.fact 106 (f := .free "range") rfl), n_repr := He.free_ok X G (c.fact 107 (f := .free "repr") rfl), n_sorted := He.free_ok X G (c.fact 108 (f := .free "sorted") rfl), n_str := He.free_ok X G (c.fact 109 (f := .free "str") rfl), n_tuple := He.free_ok X G (c.fact 110 (f := .free "tuple") rfl), n_zip := He.free_ok X G (c.fact 111 (f := .free "zip") rfl) }⟩
end Sk
open PySem PySem.W PySem.Calls PyProof.Rows
theorem PySem.Challenge.cw_shapekeep_k20_what_is_a_tree_holds : PySem.Challenge.rw_shapekeep_k20_what_is_a_tree.Holds := by
  w_on; o_law
  refine HandSHeadRun.head_any (r := OpenLaw.row PySem.Challenge.rw_shapekeep_k20_what_is_a_tree) (q := view (OpenLaw.row PySem.Challenge.rw_shapekeep_k20_what_is_a_tree).prog [96]) (H := Sk.hk) (ob := Sk.ob) (M := 20000) (loose := Sk.loose) (d := HandSHeadRun.topDef (OpenLaw.row PySem.Challenge.rw_shapekeep_k20_what_is_a_tree).prog 96) (kwd := []) Sk.ob_eq
    (by kernel_rfl) (fun s => by kernel_rfl) Sk.run (by kernel_rfl) (by kernel_rfl) (by kernel_rfl) (by rfl) (by first | assumption | decide +kernel) (by decide +kernel) ⟨rfl, rfl, rfl, rfl, rfl, by decide +kernel⟩ ?hw ?hc
  case hw => w_witness2
  case hc =>
    refine Sk.walk_GT (l := PySem.Challenge.rw_shapekeep_k20_what_is_a_tree) (n := 63) (k := 83) (x := "_law_script") rfl (by decide) (by kernel_rfl) ⟨rfl, by decide, by decide⟩ ?F
    intro w mg fa h Y G hmg0
    obtain ⟨K, KX, c⟩ := Y
    have hmg : mg ("law" : PySem.Str) = some (.ref fa) := by
      have e : (HandSHeadRun.topDef (OpenLaw.row PySem.Challenge.rw_shapekeep_k20_what_is_a_tree).prog 96).name = ("law" : PySem.Str) := by kernel_rfl
      rw [← e]
      exact hmg0
    obtain ⟨T⟩ := Sk.top_of KX G c.defs c.also
    have U := True.intro
    have e := hmg.symm.trans T.g_law
    cases e
    have b := L2.FunD.bindsA (ps := ["_law_script"]) T.F_law fun _ _ _ _ _ _ us hl => match us, hl with | [_], _ => rfl
    have made : ∀ p ∈ Sk.tf.map (fun d => He.cT K d), PySem.W.codeHdIn K p.1 p.2 = true ∧ K.lookup p.2 = none ∧ h.get? p.2 = some Sk.tab0 := fun p hp => by
      obtain ⟨d, hd, rfl⟩ := List.mem_map.mp hp
      exact c.made d hd
    exact ⟨K, T.fd_law, Sk.tf.map (fun d => He.cT K d), Sk.sp_law K, KX, fun p hp => (made p hp).2.2, fun p hp => (made p hp).2.1, fun p hp => PySem.W.codeHd_of_K KX (made p hp).1, fun s v => b s [v] rfl, fun H a ns hl hT hS => ⟨⟨ns, hl, hS⟩, Sk.tabs0 hT, fun _ => rfl⟩, fun base _ _ TB => Sk.ok_law T (TB (He.cT K ("_law_refused", none)) (List.mem_map.mpr ⟨("_law_refused", none), by decide, rfl⟩)) 0⟩
