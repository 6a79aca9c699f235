import PyProof.Rows.All
import Wide.All
import OpenK.AllK
import Wide.FinOn
import HandS.ForMost
import HandS.IsInst
import HandS.FStr
import HandS.Small
import HandS.Style
import HandS.NoneIn
import HandS.ReplaceLit
import HandS.ReplaceDef
import HandS.Defaults
import HandS.TupAny
import HandS.WideBits
import HandS.RaiseMore
import KE.DataEq
import HandS.Codes
import PyProof.ListStr
import HandS.SetBool
import HandS.Conv
import HandS.Walk
import PyProof.ReprRoads
import HandS.Ends
import HandS.HeadEnd
import HandS.Zip
import PyProof.ReprLen
import HandS.HeadHook4
import HandS.HeadNt
import HandS.Star
import HandS.ClsMeth
import HandS.HeadHook1
import HandS.HeadHook2
import PySem.Challenge.RW_shapekeep_k15_functions_by_hand
import HandS.More
import HandS.Words
import HandS.WordsExc
import HandS.Head0
import HandS.Head1
import HandS.Head2
import KE.KStateDown
import KE.IntTextLaws
set_option Elab.async false
set_option linter.all false
set_option maxRecDepth 100000
set_option maxHeartbeats 0
/-! Sk: readings that compute: each rule of the layer weakened to one whose reading is a match over values -/
namespace Sk
open PySem PySem.Spec PyProof.Rows L2
section
variable {X : Cx}
theorem PEw {e : Expr} {t t' : TE} (h : PE X e t) (w : ∀ σ H Q, t' σ H Q → t σ H Q) : PE X e t' := ⟨fun pins s σ H Q I q => h.run pins s σ H Q I (w σ H Q q)⟩
theorem PTw {e : Expr} {t t' : TT} (h : PT X e t) (w : ∀ σ H Q, t' σ H Q → t σ H Q) : PT X e t' := ⟨fun pins s σ H Q I q => h.run pins s σ H Q I (w σ H Q q)⟩
theorem PWw {e : Expr} {t t' : TT} (h : PW X e t) (w : ∀ σ H Q, t' σ H Q → t σ H Q) : PW X e t' := ⟨fun wh pins s σ H Q I q => h.run wh pins s σ H Q I (w σ H Q q)⟩
theorem PSw {e : Stmt} {t t' : TS} (h : PS X e t) (w : ∀ D σ H, t' D σ H → t D σ H) : PS X e t' := ⟨fun pins s σ H D I q => h.run pins s σ H D I (w D σ H q)⟩
theorem PGw {e : Expr} {t t' : TG} (h : PG X e t) (w : ∀ v σ H Q, t' v σ H Q → t v σ H Q) : PG X e t' := ⟨fun pins s σ H v u Q I r q => h.run pins s σ H v u Q I r (w v σ H Q q)⟩
theorem PGsw {e : List Expr} {t t' : TGs} (h : PGs X e t) (w : ∀ v σ H Q, t' v σ H Q → t v σ H Q) : PGs X e t' := ⟨fun pins s σ H v u Q I r q => h.run pins s σ H v u Q I r (w v σ H Q q)⟩
theorem OpRw {f : Value → Value → Sem Value} {r r' : R2} (h : OpR X f r) (w : ∀ x y H Q, r' x y H Q → r x y H Q) : OpR X f r' := fun pins s σ H x y v u Q I rx ry q => h pins s σ H x y v u Q I rx ry (w _ _ _ _ q)
theorem UnRw {f : Value → Sem Value} {r r' : V → Hp → VK → Prop} (h : UnR X f r) (w : ∀ x H Q, r' x H Q → r x H Q) : UnR X f r' := fun pins s σ H x v Q I rx q => h pins s σ H x v Q I rx (w _ _ _ q)
theorem IxRw {r r' : R2} (h : IxR X r) (w : ∀ x y H Q, r' x y H Q → r x y H Q) : IxR X r' := fun va sl pins s σ H x y v u Q I rx ry q => h va sl pins s σ H x y v u Q I rx ry (w _ _ _ _ q)
theorem SlRw {r r' : V → Option Int → Option Int → Hp → VK → Prop} (h : SlR X r) (w : ∀ x y z H Q, r' x y z H Q → r x y z H Q) : SlR X r' := fun pins s σ H x v vl vu lo hi sl Q I rx hs pl pu q => h pins s σ H x v vl vu lo hi sl Q I rx hs pl pu (w _ _ _ _ _ q)
theorem CallRw {f : Value} {r r' : List V → Hp → VK → Prop} (h : CallR X f r) (w : ∀ xs H Q, r' xs H Q → r xs H Q) : CallR X f r' := fun pins s σ H xs us Q I rx q => h pins s σ H xs us Q I rx (w _ _ _ q)
theorem MtRw {id : String} {r r' : V → List V → Hp → VK → Prop} (h : MtR X id r) (w : ∀ x xs H Q, r' x xs H Q → r x xs H Q) : MtR X id r' := fun pins s σ H x xs v us Q I rx rs q => h pins s σ H x xs v us Q I rx rs (w _ _ _ _ q)
theorem POw {e : Option Expr} {t t' : TO} (h : PO X e t) (w : ∀ σ H Q, t' σ H Q → t σ H Q) : PO X e t' := ⟨fun pins s σ H Q I q => h.run pins s σ H Q I (w σ H Q q)⟩
/-! ### names -/
def uVar (i : Nat) : TE := fun σ H Q => match σ[i]? with | some (some v) => Q v H | _ => False
theorem vr (i : Nat) {x : Str} {pos : Pos} (hN : X.N[i]? = some x := by rfl) (hv : Vis X.env.scope x := by first | exact Or.inl rfl | exact Or.inr (Or.inl rfl) | exact Or.inr (Or.inr rfl)) (hd : (x == ("__debug__" : Str)) = false := by decide)
    (hcd : (x == ("__classdict__" : Str)) = false := by decide) : PE X (.Name x pos) (uVar i) := PEw (pe_var hN hv hd hcd) fun σ H Q q => by
  unfold uVar at q
  split at q
  · rename_i v e
    exact ⟨v, e, q⟩
  · exact q.elim
/-! ### what is wanted may be made weaker -/
def upE (t : TE) : TE := fun σ H Q => ∃ Q' : VK, (∀ v H', Q' v H' → Q v H') ∧ t σ H Q'
def upT (t : TT) : TT := fun σ H Q => ∃ Q' : Bool → Hp → Prop, (∀ v H', Q' v H' → Q v H') ∧ t σ H Q'
theorem up {e : Expr} {t : TE} (h : PE X e t) : PE X e (upE t) := ⟨fun pins s σ H Q I q => by
  obtain ⟨Q', w, q⟩ := q
  exact thn (h.run pins s σ H Q' I q) fun v s1 ⟨x, H1, I1, r1, q1⟩ => ⟨x, H1, I1, r1, w _ _ q1⟩⟩
theorem upt {e : Expr} {t : TT} (h : PT X e t) : PT X e (upT t) := ⟨fun pins s σ H Q I q => by
  obtain ⟨Q', w, q⟩ := q
  exact thn (h.run pins s σ H Q' I q) fun v s1 ⟨H1, I1, q1⟩ => ⟨H1, I1, w _ _ q1⟩⟩
theorem upw {e : Expr} {t : TT} (h : PW X e t) : PW X e (upT t) := ⟨fun wh pins s σ H Q I q => by
  obtain ⟨Q', w, q⟩ := q
  exact thn (h.run wh pins s σ H Q' I q) fun v s1 ⟨H1, I1, q1⟩ => ⟨H1, I1, w _ _ q1⟩⟩
/-! ### tests -/
/-- what a truth value hands on -/
def onB (x : V) (Q : Bool → Prop) : Prop := match x with | .bl c => Q c | _ => False
theorem onB_ex {x : V} {Q : Bool → Prop} (h : onB x Q) : ∃ c, x = .bl c ∧ Q c := by
  cases x with
  | bl c => exact ⟨c, rfl, h⟩
  | _ => exact h.elim
/-- b decides -/
def br (c : Bool) (p q : Prop) : Prop := match c with | true => p | false => q
theorem br_if {c : Bool} {p q : Prop} (h : br c p q) : if c = true then p else q := by
  cases c with
  | true => rw [if_pos rfl]; exact h
  | false => rw [if_neg (by decide)]; exact h
theorem br2 {c : Bool} {p q : Prop} (h1 : c = true → p) (h2 : c = false → q) : br c p q := by
  cases c with
  | true => exact h1 rfl
  | false => exact h2 rfl
theorem brT {c : Bool} {p q : Prop} (e : c = true) (h : p) : br c p q := by subst e; exact h
theorem brF {c : Bool} {p q : Prop} (e : c = false) (h : q) : br c p q := by subst e; exact h
def uB (t : TE) : TT := fun σ H Q => t σ H fun x H1 => onB x fun c => Q c H1
theorem tst {e : Expr} {t : TE} (h : PE X e t) (he : ∀ whole, isTrue e X.env whole = (do let v ← whole; standAt e.pos; holding [v] (truthy v)) := by intro _; rfl) : PT X e (uB t) :=
  PTw (pt_val (up h) he) fun σ H Q q => ⟨_, fun v H' z => onB_ex z, q⟩
/-- a comparison as a test -/
theorem tcmp {op : CmpOp} {r : R2} {a b : Expr} {ta tb : TE} {pos : Pos} (ho : OpR X (compareOp op) r) (ha : PE X a ta) (hb : PE X b tb) (hm : behindInMarks op b = false) : PT X (.Compare a [op] [b] pos) (uB (tOp r ta tb)) :=
  PTw (pt_cmpR (r := fun x y H Q => ∃ Q' : VK, (∀ v H', Q' v H' → Q v H') ∧ r x y H Q') (fun pins s σ H x y v u Q I rx ry q => by
    obtain ⟨Q', w, q⟩ := q
    exact thn (ho pins s σ H x y v u Q' I rx ry q) fun v s1 ⟨x, H1, I1, r1, q1⟩ => ⟨x, H1, I1, r1, w _ _ q1⟩) (up ha) (up hb) hm) fun σ H Q q => by
      refine ⟨_, fun v H' z => ?_, q⟩
      refine ⟨_, fun u H2 z2 => ?_, z⟩
      exact ⟨_, fun w H3 z3 => onB_ex z3, z2⟩
def uAnd (t u : TT) : TT := fun σ H Q => t σ H fun c H1 => br c (u σ H1 Q) (Q false H1)
def uOr (t u : TT) : TT := fun σ H Q => t σ H fun c H1 => br c (Q true H1) (u σ H1 Q)
def uNot (t : TT) : TT := fun σ H Q => t σ H fun c H1 => Q (!c) H1
section
variable {a b : Expr} {rest : List Expr} {pos : Pos} {ta tb : TE} {tA tB' : TT}
theorem wand (ha : PT X a tA) (hb : PW X (.BoolOp .And (b :: rest) pos) tB') : PW X (.BoolOp .And (a :: b :: rest) pos) (uAnd tA tB') :=
  PWw (pw_and (upt ha) hb) fun σ H Q q => ⟨_, fun c H' z => br_if z, q⟩
theorem wor (ha : PT X a tA) (hb : PW X (.BoolOp .Or (b :: rest) pos) tB') : PW X (.BoolOp .Or (a :: b :: rest) pos) (uOr tA tB') :=
  PWw (pw_or (upt ha) hb) fun σ H Q q => ⟨_, fun c H' z => br_if z, q⟩
def uAndV (ta tb : TE) : TE := fun σ H Q => ta σ H fun x H1 => onB x fun c => br c (tb σ H1 Q) (Q (.bl false) H1)
def uOrV (ta tb : TE) : TE := fun σ H Q => ta σ H fun x H1 => onB x fun c => br c (Q (.bl true) H1) (tb σ H1 Q)
def uNotV (ta : TE) : TE := fun σ H Q => ta σ H fun x H1 => onB x fun c => Q (.bl (!c)) H1
theorem vand (ha : PE X a ta) (hb : PE X (.BoolOp .And (b :: rest) pos) tb) : PE X (.BoolOp .And (a :: b :: rest) pos) (uAndV ta tb) :=
  PEw (pe_and (up ha) hb) fun σ H Q q => ⟨_, fun x H' z => by obtain ⟨c, e, z⟩ := onB_ex z; exact ⟨c, e, br_if z⟩, q⟩
theorem vor (ha : PE X a ta) (hb : PE X (.BoolOp .Or (b :: rest) pos) tb) : PE X (.BoolOp .Or (a :: b :: rest) pos) (uOrV ta tb) :=
  PEw (pe_or (up ha) hb) fun σ H Q q => ⟨_, fun x H' z => by obtain ⟨c, e, z⟩ := onB_ex z; exact ⟨c, e, br_if z⟩, q⟩
theorem vnot (ha : PE X a ta) : PE X (.UnaryOp .Not a pos) (uNotV ta) :=
  PEw (pe_not (up ha)) fun σ H Q q => ⟨_, fun x H' z => onB_ex z, q⟩
def uIfE (t : TT) (ta tb : TE) : TE := fun σ H Q => t σ H fun c H1 => br c (ta σ H1 Q) (tb σ H1 Q)
theorem vif {c : Expr} (hc : PT X c tA) (ha : PE X a ta) (hb : PE X b tb) : PE X (.IfExp c a b pos) (uIfE tA ta tb) :=
  PEw (pe_ifExp (upt hc) ha hb) fun σ H Q q => ⟨_, fun x H' z => br_if z, q⟩
def uIf (c : TT) (t u : TS) : TS := fun D σ H => c σ H fun b H1 => br b (t D σ H1) (u D σ H1)
theorem sif {c : Expr} {a b : List Stmt} {tc : TT} {t u : TS} (hc : PT X c tc) (ha : PSs X a t) (hb : PSs X b u) : PS X (.If c a b pos) (uIf tc t u) :=
  PSw (ps_if (upt hc) ha hb) fun D σ H q => ⟨_, fun x H' z => br_if z, q⟩
/-- the ways behind an if joined -/
def uCut (t u : TS) : TS := fun D σ H => ∃ Mid : L2.St → Hp → Prop, t { D with nx := Mid } σ H ∧ ∀ σ' H', Mid σ' H' → u D σ' H'
def uChain (r r' : R2) (ta tb tc : TE) : TE := fun σ H Q => ta σ H fun x H1 => tb σ H1 fun y H2 => r x y H2 fun z H3 => onB z fun k => br k (tc σ H3 fun w' H4 => r' y w' H4 Q) (Q (.bl false) H3)
end
/-! ### operators -/
def upR (r : R2) : R2 := fun x y H Q => ∃ Q' : VK, (∀ v H', Q' v H' → Q v H') ∧ r x y H Q'
theorem upO {f : Value → Value → Sem Value} {r : R2} (ho : OpR X f r) : OpR X f (upR r) := fun pins s σ H x y v u Q I rx ry q => by
  obtain ⟨Q', w, q⟩ := q
  exact thn (ho pins s σ H x y v u Q' I rx ry q) fun v s1 ⟨x, H1, I1, r1, q1⟩ => ⟨x, H1, I1, r1, w _ _ q1⟩
theorem vchain {op op' : CmpOp} {r r' : R2} {a b c : Expr} {ta tb tc : TE} {pos : Pos} (ho : OpR X (compareOp op) r) (ho' : OpR X (compareOp op') r') (ha : PE X a ta) (hb : PE X b tb) (hc : PE X c tc)
    (hm : lastMarks [op, op'] [b, c] = false := by with_unfolding_all rfl) : PE X (.Compare a [op, op'] [b, c] pos) (uChain r r' ta tb tc) :=
  PEw (pe_chain (upO ho) ho' (up ha) (up hb) hc hm) fun σ H Q q => by
    refine ⟨_, fun x H' z => ?_, q⟩
    refine ⟨_, fun y H2 z2 => ?_, z⟩
    refine ⟨_, fun y H2 z2 => ?_, z2⟩
    obtain ⟨k, e, z3⟩ := onB_ex z2
    exact ⟨k, e, br_if z3⟩
theorem tchain {op op' : CmpOp} {r r' : R2} {a b c : Expr} {ta tb tc : TE} {pos : Pos} (ho : OpR X (compareOp op) r) (ho' : OpR X (compareOp op') r') (ha : PE X a ta) (hb : PE X b tb) (hc : PE X c tc)
    (hm : lastMarks [op, op'] [b, c] = false := by with_unfolding_all rfl) : PT X (.Compare a [op, op'] [b, c] pos) (uB (uChain r r' ta tb tc)) :=
  PTw (pt_chain (upO ho) (upO ho') (up ha) (up hb) (up hc) hm) fun σ H Q q => by
    refine ⟨_, fun x H' z => ?_, q⟩
    refine ⟨_, fun y H2 z2 => ?_, z⟩
    refine ⟨_, fun y H2 z2 => ?_, z2⟩
    obtain ⟨k, e, z3⟩ := onB_ex z2
    refine ⟨k, e, ?_⟩
    cases k with
    | true =>
      rw [if_pos rfl]
      exact ⟨_, fun y H2 z4 => ⟨_, fun y H3 z5 => onB_ex z5, z4⟩, z3⟩
    | false =>
      rw [if_neg (by decide)]
      exact onB_ex z3
def rPlus (K : PySem.W.Frag) : R2 := fun x y H Q => match x, y with
  | .int i, .int j => Q (.int (i + j)) H
  | .str a, .str b => a.length + b.length ≤ sizeLine ∧ Q (.str (a ++ b)) H
  | .ref a, .ref b => rCat (.ref a) (.ref b) H Q ∨ rCatA K (.ref a) (.ref b) H Q
  | _, _ => False
theorem op_plus : OpR X (binaryOp .Add) (rPlus X.K) := OpRw (OpR.or op_add (OpR.or op_add_str (OpR.or op_cat op_catA))) fun x y H Q q => by
  unfold rPlus at q
  split at q
  · exact .inl ⟨_, _, rfl, rfl, q⟩
  · exact .inr (.inl ⟨_, _, rfl, rfl, q⟩)
  · exact .inr (.inr q)
  · exact q.elim
/-- ints under C -/
def rII (C : Int → Int → Prop) (g : Int → Int → V) : R2 := fun x y H Q => match x, y with
  | .int i, .int j => C i j ∧ Q (g i j) H
  | _, _ => False
def rII0 (g : Int → Int → V) : R2 := fun x y H Q => match x, y with
  | .int i, .int j => Q (g i j) H
  | _, _ => False
theorem ii {f : Value → Value → Sem Value} {C : Int → Int → Prop} {g : Int → Int → V} (h : OpR X f (rI C g)) : OpR X f (rII C g) := OpRw h fun x y H Q q => by
  unfold rII at q
  split at q
  · exact ⟨_, _, rfl, rfl, q⟩
  · exact q.elim
theorem ii0 {f : Value → Value → Sem Value} {g : Int → Int → V} (h : OpR X f (rI0 g)) : OpR X f (rII0 g) := OpRw h fun x y H Q q => by
  unfold rII0 at q
  split at q
  · exact ⟨_, _, rfl, rfl, q⟩
  · exact q.elim
theorem op_minus : OpR X (binaryOp .Sub) (rII0 fun i j => .int (i - j)) := ii0 op_sub
def rMod : R2 := fun x y H Q => match x, y with
  | .int i, .int j => 0 < j ∧ Q (.int (i % j)) H
  | _, _ => False
theorem op_modI : OpR X (binaryOp .Mod) rMod := OpRw op_mod fun x y H Q q => by
  unfold rMod at q
  split at q
  · exact ⟨_, _, rfl, rfl, q⟩
  · exact q.elim
theorem op_divI : OpR X (binaryOp .FloorDiv) (rII CDiv fun i j => .int (i / j)) := ii op_fdiv
theorem op_powI : OpR X (binaryOp .Pow) (rII CPow fun i j => .int (i ^ j.toNat)) := ii op_pow
theorem op_ltI : OpR X (compareOp .Lt) (rII0 fun i j => .bl (decide (i < j))) := ii0 op_lt
theorem op_leI : OpR X (compareOp .LtE) (rII0 fun i j => .bl (decide (i ≤ j))) := ii0 op_le
theorem op_gtI : OpR X (compareOp .Gt) (rII0 fun i j => .bl (decide (j < i))) := ii0 op_gt
theorem op_geI : OpR X (compareOp .GtE) (rII0 fun i j => .bl (decide (j ≤ i))) := ii0 op_ge
/-- is None -/
def rIsNo (neg : Bool) : R2 := fun x y H Q => match y with
  | .non => Q (.bl (if neg then !decide (x = .non) else decide (x = .non))) H
  | _ => False
theorem op_isNo : OpR X (compareOp .Is) (rIsNo false) := OpRw op_isN fun x y H Q q => by
  unfold rIsNo at q
  split at q
  · exact ⟨rfl, q⟩
  · exact q.elim
theorem op_notNo : OpR X (compareOp .IsNot) (rIsNo true) := OpRw op_notN fun x y H Q q => by
  unfold rIsNo at q
  split at q
  · exact ⟨rfl, q⟩
  · exact q.elim
/-- data without dicts, not too deep -/
def shp (d : PyData) : Bool := d.plain && decide (d.depth ≤ 64)
theorem shp_room {A : Around} {d e : PyData} (h : shp d = true) (hu : A.units + 64 < cLine) : A.units + min d.depth e.depth < cLine := by
  have h1 := of_decide_eq_true (Bool.and_eq_true_iff.mp h).2
  have h2 : min d.depth e.depth ≤ d.depth := Nat.min_le_left _ _
  omega
theorem op_eqP (hu : X.A.units + 64 < cLine) : OpR X (compareOp .Eq) (fun x y H Q => ∃ d e, Dp X.K H x d ∧ Dp X.K H y e ∧ shp d = true ∧ shp e = true ∧ Q (.bl (PyData.eqv d e)) H) := by
  intro pins s σ H x y v u Q I rx ry h
  obtain ⟨d, e, hd, he, sd, se, q⟩ := h
  obtain ⟨as, r1⟩ := Dp.reads I d x v hd rx
  obtain ⟨bs, r2⟩ := Dp.reads I e y u he ry
  exact SeqAt.eq_plain r1 r2 (Bool.and_eq_true_iff.mp sd).1 (Bool.and_eq_true_iff.mp se).1 (shp_room sd hu) ⟨.bl _, H, I, rfl, q⟩
theorem op_neP (hu : X.A.units + 64 < cLine) : OpR X (compareOp .NotEq) (fun x y H Q => ∃ d e, Dp X.K H x d ∧ Dp X.K H y e ∧ shp d = true ∧ shp e = true ∧ Q (.bl (!PyData.eqv d e)) H) := by
  intro pins s σ H x y v u Q I rx ry h
  obtain ⟨d, e, hd, he, sd, se, q⟩ := h
  obtain ⟨as, r1⟩ := Dp.reads I d x v hd rx
  obtain ⟨bs, r2⟩ := Dp.reads I e y u he ry
  exact SeqAt.ne_plain r1 r2 (Bool.and_eq_true_iff.mp sd).1 (Bool.and_eq_true_iff.mp se).1 (shp_room sd hu) ⟨.bl _, H, I, rfl, q⟩
/-- ==, !=: scalars, else data at any depth -/
def rSame (K : PySem.W.Frag) (neg : Bool) : R2 := fun x y H Q => match scal x y with
  | true => Q (.bl (if neg then !decide (x = y) else decide (x = y))) H
  | false => ∃ d e, Dp K H x d ∧ Dp K H y e ∧ shp d = true ∧ shp e = true ∧ Q (.bl (if neg then !PyData.eqv d e else PyData.eqv d e)) H
theorem op_same (hu : X.A.units + 64 < cLine) : OpR X (compareOp .Eq) (rSame X.K false) := OpRw (OpR.or op_eq (op_eqP hu)) fun x y H Q q => by
  unfold rSame at q
  split at q
  · rename_i e
    exact .inl ⟨e, q⟩
  · exact .inr q
theorem op_other (hu : X.A.units + 64 < cLine) : OpR X (compareOp .NotEq) (rSame X.K true) := OpRw (OpR.or op_ne (op_neP hu)) fun x y H Q q => by
  unfold rSame at q
  split at q
  · rename_i e
    exact .inl ⟨e, q⟩
  · exact .inr q
/-- in: a text in a text, a flat thing in a list or tuple -/
def subS (i j : Str) : Bool := !(Builtin.Str.occurrences j i 0 j.length 1).isEmpty
theorem subS_one (c : Nat) (z : Str) : subS ⟨#[c]⟩ z = decide (c ∈ z.cps.toList) := PySem.StrLaws.found_one z c
def rInU (K : PySem.W.Frag) (neg : Bool) : R2 := fun x y H Q => match x, y with
  | .str i, .str j => Q (.bl (if neg then !subS i j else subS i j)) H
  | x, .ref p => ∃ xs, (SqL K H p xs ∨ SqT K H p xs) ∧ flatV x = true ∧ xs.all flatV = true ∧ Q (.bl (if neg then !inV x xs else inV x xs)) H
  | _, _ => False
theorem op_inU : OpR X (compareOp .In) (rInU X.K false) := OpRw (OpR.or op_in_str op_in_seq) fun x y H Q q => by
  unfold rInU at q
  split at q
  · exact .inl ⟨_, _, rfl, rfl, q⟩
  · obtain ⟨xs, h⟩ := q
    exact .inr ⟨_, xs, rfl, h⟩
  · exact q.elim
theorem op_notInU : OpR X (compareOp .NotIn) (rInU X.K true) := OpRw (OpR.or op_notin_str op_notIn_seq) fun x y H Q q => by
  unfold rInU at q
  split at q
  · exact .inl ⟨_, _, rfl, rfl, q⟩
  · obtain ⟨xs, h⟩ := q
    exact .inr ⟨_, xs, rfl, h⟩
  · exact q.elim
def rNeg : V → Hp → VK → Prop := fun x H Q => match x with | .int i => Q (.int (-i)) H | _ => False
theorem un_negU : UnR X (unaryOp .USub) rNeg := UnRw un_neg fun x H Q q => by
  unfold rNeg at q
  split at q
  · exact ⟨_, rfl, q⟩
  · exact q.elim
/-! ### subscripts -/
def rGet (K : PySem.W.Frag) : R2 := fun x y H Q => match x, y with
  | .str z, .int i => z.length ≤ sizeLine ∧ ∃ c, atI z.cps.toList i = some c ∧ Q (.str ⟨#[c]⟩) H
  | .ref p, .int i => ∃ xs v, (SqL K H p xs ∨ SqT K H p xs) ∧ atI xs i = some v ∧ Q v H
  | _, _ => False
theorem ix_get : IxR X (rGet X.K) := IxRw ix_seq fun x y H Q q => by
  unfold rGet at q
  split at q
  · obtain ⟨h, c, e, q⟩ := q
    exact .inr (.inr ⟨_, _, c, rfl, rfl, h, e, q⟩)
  · obtain ⟨xs, v, h | h, e, q⟩ := q
    · exact .inl ⟨_, xs, _, v, rfl, rfl, h, e, q⟩
    · exact .inr (.inl ⟨_, xs, _, v, rfl, rfl, h, e, q⟩)
  · exact q.elim
def uPart (t : TE) : TO := fun σ H Q => t σ H fun x H1 => match x with | .int i => Q (some i) H1 | _ => False
theorem po_u {e : Expr} {te : TE} (h : PE X e te) : PO X (some e) (uPart te) := POw (po_some (up h)) fun σ H Q q => ⟨_, fun x H' z => by
  cases x with
  | int i => exact ⟨i, rfl, z⟩
  | _ => exact z.elim, q⟩
def rCut (K : PySem.W.Frag) : V → Option Int → Option Int → Hp → VK → Prop := fun x lo hi H Q => match x with
  | .str z => z.length ≤ sizeLine ∧ Q (.str (cutS z lo hi)) H
  | .ref a => rSlL K (.ref a) lo hi H Q ∨ rSlA K (.ref a) lo hi H Q
  | _ => False
theorem sl_cut : SlR X (rCut X.K) := SlRw (SlR.or sl_str (SlR.or sl_list sl_tupA)) fun x lo hi H Q q => by
  unfold rCut at q
  split at q
  · exact .inl ⟨_, rfl, q⟩
  · exact .inr q
  · exact q.elim
/-! ### built-in calls -/
def rLenU (K : PySem.W.Frag) : List V → Hp → VK → Prop := fun xs H Q => match xs with
  | [.str z] => z.length ≤ sizeLine ∧ Q (.int z.length) H
  | [.ref p] => ∃ ys, (SqL K H p ys ∨ SqT K H p ys) ∧ Q (.int ys.length) H
  | _ => False
theorem call_lenU : CallR X (.builtin "len") (rLenU X.K) := CallRw (CallR.or call_len_str call_len_seq) fun xs H Q q => by
  unfold rLenU at q
  split at q
  · exact .inl ⟨_, rfl, q⟩
  · obtain ⟨ys, h⟩ := q
    exact .inr ⟨_, ys, rfl, h⟩
  · exact q.elim
def r1I (g : Int → V) : List V → Hp → VK → Prop := fun xs H Q => match xs with | [.int i] => Q (g i) H | _ => False
def r2I (g : Int → Int → V) : List V → Hp → VK → Prop := fun xs H Q => match xs with | [.int i, .int j] => Q (g i j) H | _ => False
theorem call_absU : CallR X (.builtin "abs") (r1I fun i => .int (if i < 0 then -i else i)) := CallRw call_abs fun xs H Q q => by
  unfold r1I at q
  split at q
  · exact ⟨_, rfl, q⟩
  · exact q.elim
theorem call_maxU (hc : X.calm = true) : CallR X (.builtin "max") (r2I fun i j => .int (if j > i then j else i)) := CallRw (call_max2 hc) fun xs H Q q => by
  unfold r2I at q
  split at q
  · exact ⟨_, _, rfl, q⟩
  · exact q.elim
theorem call_minU (hc : X.calm = true) : CallR X (.builtin "min") (r2I fun i j => .int (if j < i then j else i)) := CallRw (call_min2 hc) fun xs H Q q => by
  unfold r2I at q
  split at q
  · exact ⟨_, _, rfl, q⟩
  · exact q.elim
def rDm : List V → Hp → VK → Prop := fun xs H Q => match xs with | [.int i, .int j] => CDiv i j ∧ ∀ p, H p = none → Q (.ref p) (upd H p (.tup [.int (i / j), .int (i % j)])) | _ => False
theorem call_dm : CallR X (.builtin "divmod") rDm := CallRw call_divmod fun xs H Q q => by
  unfold rDm at q
  split at q
  · exact ⟨_, _, rfl, q⟩
  · exact q.elim
def rOrd : List V → Hp → VK → Prop := fun xs H Q => match xs with | [.str x] => x.length = 1 ∧ Q (.int (x.cps.getD 0 0 : Nat)) H | _ => False
theorem call_ordU : CallR X (.builtin "ord") rOrd := CallRw call_ord fun xs H Q q => by
  unfold rOrd at q
  split at q
  · exact ⟨_, rfl, q⟩
  · exact q.elim
def rStr : List V → Hp → VK → Prop := fun xs H Q => match xs with | [.str x] => Q (.str x) H | [.int i] => i.natAbs.log2 < 1920 ∧ Q (.str (toString i)) H | _ => False
theorem call_strU : CallR X (.type "str") rStr := CallRw (CallR.or SkE.call_str_str call_str_int) fun xs H Q q => by
  unfold rStr at q
  split at q
  · exact .inl ⟨_, rfl, q⟩
  · exact .inr ⟨_, rfl, q⟩
  · exact q.elim
def rInt1 : List V → Hp → VK → Prop := fun xs H Q => match xs with | [.int i] => Q (.int i) H | [.bl k] => Q (.int (if k then 1 else 0)) H | _ => False
theorem call_intU : CallR X (.type "int") rInt1 := CallRw call_int1 fun xs H Q q => by
  unfold rInt1 at q
  split at q
  · exact .inl ⟨_, rfl, q⟩
  · exact .inr ⟨_, rfl, q⟩
  · exact q.elim
/-- isinstance: one class, or a tuple of classes just laid -/
def rIs (K : PySem.W.Frag) : List V → Hp → VK → Prop := fun xs H Q => match xs with
  | [x, .ty n] => ∃ t b, TyX K H x t ∧ PySem.W.kitOne K t (.type n) = some b ∧ Q (.bl b) H
  | [x, .ref p] => rIsi K [x, .ref p] H Q ∨ rIsiT K [x, .ref p] H Q
  | _ => False
theorem call_isU : CallR X (.builtin "isinstance") (rIs X.K) := CallRw (CallR.or call_isi call_isiT) fun xs H Q q => by
  unfold rIs at q
  split at q
  · obtain ⟨t, b, h, e, q⟩ := q
    exact .inl ⟨_, _, t, _, b, rfl, .ty _, h, e, q⟩
  · exact q
  · exact q.elim
/-! ### targets -/
def uCons (t : TG) (u : TGs) : TGs := fun vs σ H Q => match vs with | v :: r => t v σ H fun σ' H' => u r σ' H' Q | [] => False
def uNil : TGs := fun vs σ H Q => match vs with | [] => Q σ H | _ => False
theorem gs_nil : PGs X [] uNil := PGsw pgs_nil fun v σ H Q q => by
  unfold uNil at q
  split at q
  · exact ⟨rfl, q⟩
  · exact q.elim
theorem gs_cons {e : Expr} {es : List Expr} {t : TG} {u : TGs} (h1 : PG X e t) (h2 : PGs X es u)
    (hs : (assignEach (e :: es) X.env).map (·.2) = assign e X.env :: (assignEach es X.env).map (·.2) := by rfl) : PGs X (e :: es) (uCons t u) := PGsw (pgs_cons h1 h2 hs) fun v σ H Q q => by
  unfold uCons at q
  split at q
  · exact ⟨_, _, rfl, q⟩
  · exact q.elim
/-! ### further: products, joins, displays -/
def uCatN (a : Str) (k : Nat) : List Nat := (List.replicate k a.cps.toList).flatten
def rTimes : R2 := fun x y H Q => match x, y with
  | .int i, .int j => CMul i j ∧ Q (.int (i * j)) H
  | .ref a, .int j => rRep (.ref a) (.int j) H Q
  | _, _ => False
theorem op_times : OpR X (binaryOp .Mult) rTimes := OpRw (OpR.or op_mul op_rep) fun x y H Q q => by
  unfold rTimes at q
  split at q
  · exact .inl ⟨_, _, rfl, rfl, q⟩
  · exact .inr q
  · exact q.elim
def uJoin (K : PySem.W.Frag) (to te : TE) : TE := fun σ H Q => to σ H fun x H1 => match x with
  | .str a => te σ H1 fun y H2 => match y with
    | .ref p => ∃ ys : List Str, (SqL K H2 p (ys.map V.str) ∨ SqT K H2 p (ys.map V.str)) ∧ (ys.map (·.length)).sum + ys.length * a.length ≤ 16777216 ∧ Q (.str (Txt.join a ys)) H2
    | _ => False
  | _ => False
theorem vjoin {o e : Expr} {to te : TE} {apos pos : Pos} (ho : PE X o to) (he : PE X e te) (hs : starEach [e] X.env = [(false, eval e X.env)] := by rfl) (hbase : attributeBase o "join" X.env (eval o X.env) = eval o X.env := by rfl) (hline : (apos.endLine == pos.line) = true := by rfl) :
    PE X (.Call (.Attribute o "join" apos) [e] [] pos) (uJoin X.K to te) := PEw (pe_join (up ho) (up he) hs hbase hline) fun σ H Q q => by
  refine ⟨_, fun x H1 z => ?_, q⟩
  cases x with
  | str a =>
    refine ⟨⟨a, rfl⟩, _, fun y H2 z2 => ?_, z⟩
    cases y with
    | ref p =>
      obtain ⟨ys, h1, h2, h3⟩ := z2
      exact ⟨a, p, ys, rfl, rfl, h1, h2, h3⟩
    | _ => exact z2.elim
  | _ => exact z.elim
/-- a field of an f-string -/
def uFmt (te : TE) : TE := fun σ H Q => te σ H fun x H1 => match x with
  | .str y => y.length ≤ sizeLine ∧ Q (.str y) H1
  | .int i => i.natAbs.log2 < 1920 ∧ Q (.str (toString i)) H1
  | _ => False
theorem vfmt {e : Expr} {te : TE} {pos : Pos} (he : PE X e te) : PE X (.FormattedValue e (-1) none pos) (uFmt te) := PEw (pe_fmt (up he)) fun σ H Q q => by
  refine ⟨_, fun x H1 z => ?_, q⟩
  cases x with
  | str a => exact .inl ⟨a, rfl, z⟩
  | int i => exact .inr ⟨i, rfl, z⟩
  | _ => exact z.elim
end
/-! ### the same rules with the written part as a letter -/
section
variable {X : Cx}
theorem kplus (K : PySem.W.Frag) (h : X.K = K := by rfl) : OpR X (binaryOp .Add) (rPlus K) := by subst h; exact op_plus
theorem ksame (K : PySem.W.Frag) (hu : X.A.units + 64 < cLine) (h : X.K = K := by rfl) : OpR X (compareOp .Eq) (rSame K false) := by subst h; exact op_same hu
theorem kother (K : PySem.W.Frag) (hu : X.A.units + 64 < cLine) (h : X.K = K := by rfl) : OpR X (compareOp .NotEq) (rSame K true) := by subst h; exact op_other hu
theorem kin (K : PySem.W.Frag) (h : X.K = K := by rfl) : OpR X (compareOp .In) (rInU K false) := by subst h; exact op_inU
theorem knotin (K : PySem.W.Frag) (h : X.K = K := by rfl) : OpR X (compareOp .NotIn) (rInU K true) := by subst h; exact op_notInU
theorem kget (K : PySem.W.Frag) (h : X.K = K := by rfl) : IxR X (rGet K) := by subst h; exact ix_get
theorem kcut (K : PySem.W.Frag) (h : X.K = K := by rfl) : SlR X (rCut K) := by subst h; exact sl_cut
theorem klen (K : PySem.W.Frag) (h : X.K = K := by rfl) : CallR X (.builtin "len") (rLenU K) := by subst h; exact call_lenU
theorem kis (K : PySem.W.Frag) (h : X.K = K := by rfl) : CallR X (.builtin "isinstance") (rIs K) := by subst h; exact call_isU
theorem kall (K : PySem.W.Frag) (hc : X.calm = true) (h : X.K = K := by rfl) : CallR X (.builtin "all") (rAll K) := by subst h; exact cr_all hc
theorem kany (K : PySem.W.Frag) (hc : X.calm = true) (h : X.K = K := by rfl) : CallR X (.builtin "any") (rAny K) := by subst h; exact cr_any hc
theorem ksum (K : PySem.W.Frag) (hc : X.calm = true) (h : X.K = K := by rfl) : CallR X (.builtin "sum") (rSum K) := by subst h; exact cr_sum hc
theorem ksorted (K : PySem.W.Frag) (h : X.K = K := by rfl) : CallR X (.builtin "sorted") (rSortedS K) := by subst h; exact cr_sortedS
/-- tuple(xs), list(xs) -/
def rTup (K : PySem.W.Frag) : List V → Hp → VK → Prop := fun xs H Q => match xs with
  | [.ref p] => ∃ ys, (SqL K H p ys ∧ ∀ l, H l = none → Q (.ref l) (upd H l (.tup ys))) ∨ (SqT K H p ys ∧ Q (.ref p) H)
  | _ => False
theorem ktup (K : PySem.W.Frag) (h : X.K = K := by rfl) : CallR X (.type "tuple") (rTup K) := by
  subst h
  refine CallRw call_tuple_of fun xs H Q q => ?_
  unfold rTup at q
  split at q
  · obtain ⟨ys, q⟩ := q
    exact ⟨_, ys, rfl, q⟩
  · exact q.elim
def rLst (K : PySem.W.Frag) : List V → Hp → VK → Prop := fun xs H Q => match xs with
  | [.ref p] => ∃ ys, (SqL K H p ys ∨ SqT K H p ys) ∧ ∀ l, H l = none → Q (.ref l) (upd H l (.lst ys))
  | _ => False
theorem klst (K : PySem.W.Frag) (h : X.K = K := by rfl) : CallR X (.type "list") (rLst K) := by
  subst h
  refine CallRw call_list_of fun xs H Q q => ?_
  unfold rLst at q
  split at q
  · obtain ⟨ys, q⟩ := q
    exact ⟨_, ys, rfl, q⟩
  · exact q.elim
theorem kjoin (K : PySem.W.Frag) {o e : Expr} {to te : TE} {apos pos : Pos} (ho : PE X o to) (he : PE X e te) (h : X.K = K := by rfl) (hs : starEach [e] X.env = [(false, eval e X.env)] := by rfl) (hbase : attributeBase o "join" X.env (eval o X.env) = eval o X.env := by rfl) (hline : (apos.endLine == pos.line) = true := by rfl) :
    PE X (.Call (.Attribute o "join" apos) [e] [] pos) (uJoin K to te) := by subst h; exact vjoin ho he hs hbase hline
/-- xs.append(e) -/
def uApp (to te : TE) : TE := fun σ H Q => to σ H fun x H1 => match x with
  | .ref p => (∃ xs, H1 p = some (.lst xs)) ∧ te σ H1 fun y H2 => ∃ xs, H2 p = some (.lst xs) ∧ xs.length < sizeLine ∧ Q .non (upd H2 p (.lst (xs ++ [y])))
  | _ => False
theorem kapp {K : PySem.W.Frag} {c : Expr} {to te : TE} (h : PE X c (tBM K "list" (fun x xs H Q => ∃ l ys y, x = .ref l ∧ xs = [y] ∧ H l = some (.lst ys) ∧ ys.length < sizeLine ∧ Q .non (upd H l (.lst (ys ++ [y])))) (upE to) (tCons (upE te) tNil))) : PE X c (uApp to te) :=
  PEw h fun σ H Q q => by
    refine ⟨_, fun x H1 z => ?_, q⟩
    cases x with
    | ref p =>
      obtain ⟨⟨xs, hx⟩, z⟩ := z
      refine ⟨.inl ⟨rfl, xs, .inl (.inl hx)⟩, _, fun y H2 z2 => ?_, z⟩
      obtain ⟨ys, h1, h2, h3⟩ := z2
      exact ⟨p, ys, y, rfl, rfl, h1, h2, h3⟩
    | _ => exact z.elim
theorem gtup (K : PySem.W.Frag) {pos : Pos} {es : List Expr} {k : Nat} {t : TGs} (n : Nat) (hc : X.calm = true) (h : PGs X es t) (hK : X.K = K := by rfl)
    (hn : (assignEach es X.env).length = n := by rfl) (hst : (assignEach es X.env).findIdx? (·.1) = none := by rfl) : PG X (.Tuple es k pos) (gTup K n t) := by subst hK; exact pg_tup hc h hn hst
theorem gunl (K : PySem.W.Frag) {pos : Pos} {es : List Expr} {k : Nat} {t : TGs} (n : Nat) (hc : X.calm = true) (h : PGs X es t) (hK : X.K = K := by rfl)
    (hn : (assignEach es X.env).length = n := by rfl) (hst : (assignEach es X.env).findIdx? (·.1) = none := by rfl) : PG X (.Tuple es k pos) (gUnl K n t) := by subst hK; exact pg_unl hc h hn hst
theorem ilist (K : PySem.W.Frag) {tg l : Expr} {tl : TE} (hl : PE X l tl) (h : X.K = K := by rfl) : PI X tg l (iList K tl) := by subst h; exact pi_list hl
theorem itup (K : PySem.W.Frag) {tg l : Expr} {tl : TE} (hl : PE X l tl) (h : X.K = K := by rfl) : PI X tg l (iTup K tl) := by subst h; exact pi_tup hl
theorem krev (K : PySem.W.Frag) {e : Expr} {te : TE} {k : Nat} {p1 p2 p3 pos : Pos} (he : PE X e te) (h : X.K = K := by rfl) : PE X (.Subscript e (.Slice none none (some (.UnaryOp .USub (.Constant (.int 1) k p1) p2)) p3) pos) (tRevL K te) := by subst h; exact pe_revL he
end
/-! ### heaps -/
theorem upd_none {H : Hp} {p q : Addr} {o : HO} (h : upd H p o q = none) : q ≠ p ∧ H q = none := by
  have e : q ≠ p := fun z => by rw [z, upd_same] at h; cases h
  rw [upd_ne e] at h
  exact ⟨e, h⟩
theorem same_new {H : Hp} {p : Addr} {o : HO} (h : H p = none) : Same H (upd H p o) := fun b u e => by
  rw [upd_ne (ne_of_none e h)]
  exact e
/-- all but the object at a is as it was -/
def Keep (a : Addr) (H H' : Hp) : Prop := ∀ b o, b ≠ a → H b = some o → H' b = some o
theorem Keep.refl (a : Addr) (H : Hp) : Keep a H H := fun _ _ _ h => h
theorem Keep.trans {a : Addr} {H H1 H2 : Hp} (x : Keep a H H1) (y : Keep a H1 H2) : Keep a H H2 := fun b o n h => y b o n (x b o n h)
theorem keep_of {a : Addr} {H H1 : Hp} (x : Same H H1) : Keep a H H1 := fun b o _ h => x b o h
theorem Keep.upd {a : Addr} {H H1 : Hp} {o : HO} (x : Keep a H H1) : Keep a H (upd H1 a o) := fun b u n h => by
  rw [upd_ne n]
  exact x b u n h
theorem sqL_of {K : PySem.W.Frag} {H : Hp} {a : Addr} {xs : List V} (h : H a = some (.lst xs)) : SqL K H a xs := .inl (.inl h)
theorem sqT_of {K : PySem.W.Frag} {H : Hp} {a : Addr} {xs : List V} (h : H a = some (.tup xs)) : SqT K H a xs := .inl (.inl h)
end Sk
namespace Sk
open PySem PySem.Spec PyProof.Rows L2
/-! ### texts -/
def okc (c : Nat) : Bool := c == 10 || (Nat.ble 32 c && Nat.ble c 126 && !(c == 37))
def low (c : Nat) : Bool := Nat.ble 97 c && Nat.ble c 122
/-- at most n signs, all of the markup's -/
def TextOk (n : Nat) (z : Str) : Prop := z.length ≤ n ∧ ∀ c ∈ z.cps.toList, okc c = true
/-- a name -/
def NameOk (z : Str) : Prop := 1 ≤ z.length ∧ z.length ≤ 12 ∧ ∀ c ∈ z.cps.toList, low c = true
def okT (n : Nat) : V → Bool
  | .str z => Nat.ble z.length n && z.cps.toList.all okc
  | _ => false
def okN : V → Bool
  | .str z => Nat.ble 1 z.length && Nat.ble z.length 12 && z.cps.toList.all low
  | _ => false
theorem okT_ok {n : Nat} {x : V} (h : okT n x = true) : ∃ z, x = .str z ∧ TextOk n z := by
  cases x with
  | str z =>
    have h : (Nat.ble z.length n && z.cps.toList.all okc) = true := h
    rw [Bool.and_eq_true, List.all_eq_true] at h
    exact ⟨z, rfl, Nat.le_of_ble_eq_true h.1, h.2⟩
  | _ => cases h
theorem okN_ok {x : V} (h : okN x = true) : ∃ z, x = .str z ∧ NameOk z := by
  cases x with
  | str z =>
    have h : (Nat.ble 1 z.length && Nat.ble z.length 12 && z.cps.toList.all low) = true := h
    rw [Bool.and_eq_true, Bool.and_eq_true, List.all_eq_true] at h
    exact ⟨z, rfl, Nat.le_of_ble_eq_true h.1.1, Nat.le_of_ble_eq_true h.1.2, h.2⟩
  | _ => cases h
theorem low_okc {c : Nat} (h : low c = true) : okc c = true := by
  unfold low at h
  unfold okc
  rw [Bool.and_eq_true] at h
  have h1 := Nat.le_of_ble_eq_true h.1
  have h2 := Nat.le_of_ble_eq_true h.2
  have e1 : Nat.ble 32 c = true := Nat.ble_eq_true_of_le (by omega)
  have e2 : Nat.ble c 126 = true := Nat.ble_eq_true_of_le (by omega)
  have e3 : (c == 37) = false := beq_eq_false_iff_ne.mpr (by omega)
  rw [e1, e2, e3]
  simp
theorem NameOk.text {z : Str} (h : NameOk z) : TextOk 12 z := ⟨h.2.1, fun c hc => low_okc (h.2.2 c hc)⟩
theorem TextOk.mono {m n : Nat} {z : Str} (h : TextOk m z) (l : m ≤ n) : TextOk n z := ⟨Nat.le_trans h.1 l, h.2⟩
theorem app_list (x y : Str) : (x ++ y).cps.toList = x.cps.toList ++ y.cps.toList := by
  show (x.cps ++ y.cps).toList = _
  rw [Array.toList_append]
theorem app_len (x y : Str) : (x ++ y).length = x.length + y.length := by
  show (x.cps ++ y.cps).size = _
  rw [Array.size_append]
  rfl
theorem len_list (x : Str) : x.length = x.cps.toList.length := by rw [Array.length_toList]; rfl
theorem str_ext {x y : Str} (h : x.cps.toList = y.cps.toList) : x = y := by
  cases x with | mk a => cases y with | mk b =>
  have e : a = b := Array.toList_inj.mp h
  rw [e]
theorem TextOk.app {m n : Nat} {x y : Str} (hx : TextOk m x) (hy : TextOk n y) : TextOk (m + n) (x ++ y) := by
  refine ⟨by rw [app_len]; have := hx.1; have := hy.1; omega, fun c hc => ?_⟩
  rw [app_list] at hc
  rcases List.mem_append.mp hc with h | h
  · exact hx.2 c h
  · exact hy.2 c h
theorem size_le {n : Nat} (h : n ≤ 100000) : n ≤ sizeLine := Nat.le_trans h (by decide)
theorem size_lt {n : Nat} (h : n < 100000) : n < sizeLine := Nat.lt_of_lt_of_le h (by decide)
/-! ### items -/
theorem atI_in {α : Type} {xs : List α} {i : Int} (h0 : 0 ≤ i) (h1 : i < xs.length) : ∃ v, atI xs i = some v ∧ v ∈ xs := by
  have hl : i.toNat < xs.length := by omega
  refine ⟨xs[i.toNat], ?_, List.getElem_mem hl⟩
  unfold atI ixN
  rw [if_pos h0, if_pos h1]
  exact List.getElem?_eq_getElem hl
theorem atI_all {α : Type} {xs : List α} {i : Int} (P : α → Prop) (h0 : 0 ≤ i) (h1 : i < xs.length) (h : ∀ x ∈ xs, P x) : ∃ v, atI xs i = some v ∧ P v := by
  obtain ⟨v, e, m⟩ := atI_in h0 h1
  exact ⟨v, e, h v m⟩
theorem all_okT {n : Nat} {xs : List V} (h : xs.all (okT n) = true) : ∀ x ∈ xs, ∃ z, x = .str z ∧ TextOk n z := fun x hx => okT_ok (List.all_eq_true.mp h x hx)
theorem all_okN {xs : List V} (h : xs.all okN = true) : ∀ x ∈ xs, ∃ z, x = .str z ∧ NameOk z := fun x hx => okN_ok (List.all_eq_true.mp h x hx)
/-! ### a pool: a state, the digits, the number of draws -/
def Pool (H : Hp) (a : Addr) : Prop := ∃ s d n : Int, H a = some (.lst [.int s, .int d, .int n]) ∧ 0 ≤ s ∧ s < 1000000007 ∧ 0 ≤ d
theorem Pool.keep {H H' : Hp} {a : Addr} (h : Pool H a) (e : H' a = H a) : Pool H' a := by
  obtain ⟨s, d, n, h1, h2⟩ := h
  exact ⟨s, d, n, e.trans h1, h2⟩
theorem Pool.same {H H' : Hp} {a : Addr} (h : Pool H a) (e : Same H H') : Pool H' a := by
  obtain ⟨s, d, n, h1, h2⟩ := h
  exact ⟨s, d, n, e _ _ h1, h2⟩
theorem Pool.ne {H : Hp} {a b : Addr} (h : Pool H a) (e : H b = none) : b ≠ a := fun z => by
  obtain ⟨s, d, n, h1, _⟩ := h
  rw [z, h1] at e
  cases e
theorem Pool.new {H : Hp} {a b : Addr} {o : HO} (h : Pool H a) (e : b ≠ a) : Pool (upd H b o) a := h.keep (upd_ne e.symm)
theorem Keep.free {a b : Addr} {H H' : Hp} (k : Keep a H H') (e : H' b = none) (ne : b ≠ a) : H b = none := by
  cases q : H b with
  | none => rfl
  | some o => rw [k b o ne q] at e; cases e
/-- lists may change, all else stays -/
def isLst : HO → Bool
  | .lst _ => true
  | _ => false
def Stay (H H' : Hp) : Prop := ∀ b o, isLst o = false → H b = some o → H' b = some o
theorem Stay.refl (H : Hp) : Stay H H := fun _ _ _ h => h
theorem Stay.trans {H H1 H2 : Hp} (x : Stay H H1) (y : Stay H1 H2) : Stay H H2 := fun b o n h => y b o n (x b o n h)
theorem stay_of {H H' : Hp} (x : Same H H') : Stay H H' := fun b o _ h => x b o h
theorem Keep.stay {a : Addr} {H H' : Hp} (k : Keep a H H') (p : Pool H a) : Stay H H' := fun b o l h => by
  refine k b o (fun z => ?_) h
  obtain ⟨s, d, n, h1, _⟩ := p
  rw [z, h1] at h
  cases h
  cases l
theorem Stay.lst {H H' : Hp} {D : Addr} {xs ys : List V} (s : Stay H H') (h : H' D = some (.lst xs)) : Stay H (upd H' D (.lst ys)) := fun b o l e => by
  have e2 := s b o l e
  have n : b ≠ D := fun z => by
    rw [z, h] at e2
    cases e2
    cases l
  rw [upd_ne n]
  exact e2
theorem stay_new {H : Hp} {p : Addr} {o : HO} (h : H p = none) : Stay H (upd H p o) := stay_of (same_new h)
/-! ### comprehensions: R what an element's evaluation keeps, J what stands throughout -/
structure Fr (R : Hp → Hp → Prop) (J : Hp → Prop) (D : Addr) : Prop where
  refl : ∀ H, R H H
  trans : ∀ {H H1 H2}, R H H1 → R H1 H2 → R H H2
  new : ∀ {H H' o}, R H H' → H D = none → R H (upd H' D o)
  keep : ∀ {H H' o}, R H H' → H D = some o → H' D = some o
  stay : ∀ {H H'}, J H → R H H' → Stay H H'
  jupd : ∀ {H o}, J H → J (upd H D o)
theorem fr_keep {a D : Addr} (ne : D ≠ a) : Fr (Keep a) (fun H => Pool H a) D where
  refl := fun H => Keep.refl a H
  trans := fun x y => x.trans y
  new := fun x h b o nb hb => by rw [upd_ne (ne_of_none hb h)]; exact x b o nb hb
  keep := fun x h => x D _ ne h
  stay := fun p k => k.stay p
  jupd := fun p => p.new ne
theorem fr_same {D : Addr} : Fr Same (fun _ => True) D where
  refl := fun H => Same.refl H
  trans := fun x y => x.trans y
  new := fun x h b o hb => by rw [upd_ne (ne_of_none hb h)]; exact x b o hb
  keep := fun x h => x D _ h
  stay := fun _ k => stay_of k
  jupd := fun p => p
def accP (R : Hp → Hp → Prop) (J : Hp → Prop) (Pp : Nat → V → Hp → Prop) (D : Addr) (H1 : Hp) (i : Nat) (H : Hp) : Prop :=
  J H ∧ R H1 H ∧ ∃ ys, ys.length = i ∧ H D = some (.lst ys) ∧ ∀ (i : Nat) (y : V), ys[i]? = some y → Pp i y H
section
variable {R : Hp → Hp → Prop} {J : Hp → Prop} {D : Addr} {Pp : Nat → V → Hp → Prop} {H1 : Hp}
theorem acc_start (F : Fr R J D) (j : J H1) (hD : H1 D = none) : accP R J Pp D H1 0 (upd H1 D (.lst [])) :=
  ⟨F.jupd j, F.new (F.refl H1) hD, [], rfl, upd_same, fun i y e => by simp at e⟩
theorem acc_turn (F : Fr R J D) (hD : H1 D = none) (mono : ∀ i v H H', Pp i v H → Stay H H' → Pp i v H') {i : Nat} {H H4 : Hp} {y : V} (hi : i < 100000) (v : accP R J Pp D H1 i H) (z : J H4 ∧ R H H4 ∧ Pp i y H4) :
    ∃ acc, H4 D = some (.lst acc) ∧ acc.length < sizeLine ∧ accP R J Pp D H1 (i + 1) (upd H4 D (.lst (acc ++ [y]))) := by
  obtain ⟨p1, k1, ys, l1, e1, q1⟩ := v
  obtain ⟨p4, k4, q4⟩ := z
  have e4 : H4 D = some (.lst ys) := F.keep k4 e1
  refine ⟨ys, e4, size_lt (by omega), F.jupd p4, F.new (F.trans k1 k4) hD, ys ++ [y], by simp [l1], upd_same, fun i2 y2 e2 => ?_⟩
  have st : Stay H4 (upd H4 D (.lst (ys ++ [y]))) := (Stay.refl H4).lst e4
  rcases Nat.lt_trichotomy i2 ys.length with hl | hl | hl
  · rw [List.getElem?_append_left hl] at e2
    exact mono _ _ _ _ (mono _ _ _ _ (q1 i2 y2 e2) (F.stay p1 k4)) st
  · subst hl
    rw [List.getElem?_append_right (Nat.le_refl _), Nat.sub_self] at e2
    cases e2
    rw [l1]
    exact mono _ _ _ _ q4 st
  · rw [List.getElem?_eq_none (by simp; omega)] at e2
    cases e2
/-- [e for k in range(n)] -/
theorem lcr {n j : Nat} {lo : Int} {te : TE} {vs : List Nat} {σ : L2.St} {Qd : Hp → Prop} (F : Fr R J D) (Pp : Nat → V → Hp → Prop) (hp : J H1) (hD : H1 D = none) (hn : n < 100000)
    (mono : ∀ i v H H', Pp i v H → Stay H H' → Pp i v H') (hw : ∀ x, wipe ((wipe σ vs).set j (some x)) vs = wipe σ vs)
    (turn : ∀ i H, i < n → J H → R H1 H → te ((wipe σ vs).set j (some (.int (lo + i)))) H (fun y H4 => J H4 ∧ R H H4 ∧ Pp i y H4))
    (hd : ∀ H ys, J H → R H1 H → ys.length = n → H D = some (.lst ys) → (∀ (i : Nat) (y : V), ys[i]? = some y → Pp i y H) → Qd H) :
    ∃ W : Nat → Nat → Hp → Prop, (∃ m, W 0 m (upd H1 D (.lst []))) ∧ ∀ i m H, W i m H →
      ((Itr lo n).stop i H ∧ Qd H) ∨ ((Itr lo n).go i H ∧ ∃ Nx : Hp → Prop, (∀ H', Nx H' → ∃ m', m' < m ∧ W (i + 1) m' H') ∧ ∀ x H', (Itr lo n).yld i H x H' → gName j x (wipe σ vs) H' fun σ2 H2 => wipe σ2 vs = wipe σ vs ∧ tYes σ2 H2 fun b H3 =>
        if b = true then upE te σ2 H3 fun y H4 => ∃ acc, H4 D = some (.lst acc) ∧ acc.length < sizeLine ∧ Nx (upd H4 D (.lst (acc ++ [y]))) else Nx H3) := by
  refine lc_range (accP R J Pp D H1) (acc_start F hp hD) (fun i H hi hv => ?_) (fun H hv => ?_)
  · refine ⟨hw _, ?_⟩
    dsimp only [tYes]
    rw [if_pos rfl]
    exact ⟨_, fun y H4 z => acc_turn F hD mono (by omega) hv z, turn i H hi hv.1 hv.2.1⟩
  · obtain ⟨p1, k1, ys, l1, e1, q1⟩ := hv
    exact hd H ys p1 k1 l1 e1 q1
/-- [e for x in xs], a list that stays -/
theorem lcl {K : PySem.W.Frag} {a : Addr} {xs : List V} {j : Nat} {te : TE} {vs : List Nat} {σ : L2.St} {Qd : Hp → Prop} (F : Fr R J D) (Pp : Nat → V → Hp → Prop) (hp : J H1) (hD : H1 D = none) (hn : xs.length < 100000)
    (hS : ∀ H, J H → R H1 H → SqL K H a xs)
    (mono : ∀ i v H H', Pp i v H → Stay H H' → Pp i v H') (hw : ∀ x, wipe ((wipe σ vs).set j (some x)) vs = wipe σ vs)
    (turn : ∀ (i : Nat) x H, xs[i]? = some x → J H → R H1 H → te ((wipe σ vs).set j (some x)) H (fun y H4 => J H4 ∧ R H H4 ∧ Pp i y H4))
    (hd : ∀ H ys, J H → R H1 H → ys.length = xs.length → H D = some (.lst ys) → (∀ (i : Nat) (y : V), ys[i]? = some y → Pp i y H) → Qd H) :
    ∃ W : Nat → Nat → Hp → Prop, (∃ m, W 0 m (upd H1 D (.lst []))) ∧ ∀ i m H, W i m H →
      ((Itl K a).stop i H ∧ Qd H) ∨ ((Itl K a).go i H ∧ ∃ Nx : Hp → Prop, (∀ H', Nx H' → ∃ m', m' < m ∧ W (i + 1) m' H') ∧ ∀ x H', (Itl K a).yld i H x H' → gName j x (wipe σ vs) H' fun σ2 H2 => wipe σ2 vs = wipe σ vs ∧ tYes σ2 H2 fun b H3 =>
        if b = true then upE te σ2 H3 fun y H4 => ∃ acc, H4 D = some (.lst acc) ∧ acc.length < sizeLine ∧ Nx (upd H4 D (.lst (acc ++ [y]))) else Nx H3) := by
  refine lc_list (xs := xs) (accP R J Pp D H1) (acc_start F hp hD) (fun i H _ hv => hS H hv.1 hv.2.1) (fun i x H hx hv => ?_) (fun H hv => ?_)
  · refine ⟨hw _, ?_⟩
    dsimp only [tYes]
    rw [if_pos rfl]
    have hi : i < xs.length := (List.getElem?_eq_some_iff.mp hx).1
    exact ⟨_, fun y H4 z => acc_turn F hD mono (by omega) hv z, turn i x H hx hv.1 hv.2.1⟩
  · obtain ⟨p1, k1, ys, l1, e1, q1⟩ := hv
    exact hd H ys p1 k1 l1 e1 q1
/-- [e for x in t], a tuple -/
theorem lct {K : PySem.W.Frag} {a : Addr} {xs : List V} {j : Nat} {te : TE} {vs : List Nat} {σ : L2.St} {Qd : Hp → Prop} (F : Fr R J D) (Pp : Nat → V → Hp → Prop) (hp : J H1) (hD : H1 D = none) (hn : xs.length < 100000)
    (hS : ∀ H, J H → R H1 H → SqT K H a xs)
    (mono : ∀ i v H H', Pp i v H → Stay H H' → Pp i v H') (hw : ∀ x, wipe ((wipe σ vs).set j (some x)) vs = wipe σ vs)
    (turn : ∀ (i : Nat) x H, xs[i]? = some x → J H → R H1 H → te ((wipe σ vs).set j (some x)) H (fun y H4 => J H4 ∧ R H H4 ∧ Pp i y H4))
    (hd : ∀ H ys, J H → R H1 H → ys.length = xs.length → H D = some (.lst ys) → (∀ (i : Nat) (y : V), ys[i]? = some y → Pp i y H) → Qd H) :
    ∃ W : Nat → Nat → Hp → Prop, (∃ m, W 0 m (upd H1 D (.lst []))) ∧ ∀ i m H, W i m H →
      ((Itt K a).stop i H ∧ Qd H) ∨ ((Itt K a).go i H ∧ ∃ Nx : Hp → Prop, (∀ H', Nx H' → ∃ m', m' < m ∧ W (i + 1) m' H') ∧ ∀ x H', (Itt K a).yld i H x H' → gName j x (wipe σ vs) H' fun σ2 H2 => wipe σ2 vs = wipe σ vs ∧ tYes σ2 H2 fun b H3 =>
        if b = true then upE te σ2 H3 fun y H4 => ∃ acc, H4 D = some (.lst acc) ∧ acc.length < sizeLine ∧ Nx (upd H4 D (.lst (acc ++ [y]))) else Nx H3) := by
  refine lc_tup (xs := xs) (accP R J Pp D H1) (acc_start F hp hD) (fun i H _ hv => hS H hv.1 hv.2.1) (fun i x H hx hv => ?_) (fun H hv => ?_)
  · refine ⟨hw _, ?_⟩
    dsimp only [tYes]
    rw [if_pos rfl]
    have hi : i < xs.length := (List.getElem?_eq_some_iff.mp hx).1
    exact ⟨_, fun y H4 z => acc_turn F hD mono (by omega) hv z, turn i x H hx hv.1 hv.2.1⟩
  · obtain ⟨p1, k1, ys, l1, e1, q1⟩ := hv
    exact hd H ys p1 k1 l1 e1 q1
end
theorem strs_of {n : Nat} {ys : List V} (h : ∀ (i : Nat) (y : V), ys[i]? = some y → ∃ z, y = V.str z ∧ TextOk n z) : ∃ zs : List Str, ys = zs.map V.str ∧ ∀ z ∈ zs, TextOk n z := by
  induction ys with
  | nil => exact ⟨[], rfl, fun z hz => by cases hz⟩
  | cons y r ih =>
    obtain ⟨z, rfl, tz⟩ := h 0 y rfl
    obtain ⟨zs, rfl, tzs⟩ := ih fun i y e => h (i + 1) y e
    refine ⟨z :: zs, rfl, fun x hx => ?_⟩
    rcases List.mem_cons.mp hx with e | e
    · rw [e]; exact tz
    · exact tzs x e
theorem sum_le1 {zs : List Str} : (∀ z ∈ zs, z.length ≤ 1) → (zs.map (·.length)).sum ≤ zs.length := by
  induction zs with
  | nil => intro _; exact Nat.le_refl _
  | cons z r ih =>
    intro h
    have h1 := h z List.mem_cons_self
    have h2 := ih fun x hx => h x (List.mem_cons_of_mem _ hx)
    rw [List.map_cons, List.sum_cons, List.length_cons]
    omega
/-- ''.join -/
theorem joinL_nil : ∀ ps : List (List Nat), TL.joinL [] ps = ps.flatten
  | [] => rfl
  | [p] => by show p = [p].flatten; simp
  | p :: q :: r => by
    show p ++ ([] ++ TL.joinL [] (q :: r)) = _
    rw [joinL_nil (q :: r)]
    simp
theorem join_list (y : Str) (zs : List Str) : (Txt.join y zs).cps.toList = TL.joinL y.cps.toList (zs.map TL.tl) := by
  rw [TL.join_eq]
  exact TL.tl_join y zs
theorem join_empty {y : Str} (hy : y.cps.toList = []) (zs : List Str) : (Txt.join y zs).cps.toList = (zs.map fun z => z.cps.toList).flatten := by
  rw [join_list, hy, joinL_nil]
theorem join_ok {y : Str} (hy : y.cps.toList = []) {zs : List Str} (h : ∀ z ∈ zs, TextOk 1 z) : TextOk zs.length (Txt.join y zs) := by
  have e := join_empty hy zs
  refine ⟨?_, fun c hc => ?_⟩
  · rw [len_list, e, List.length_flatten, List.map_map]
    have := sum_le1 fun z hz => (h z hz).1
    have e2 : (List.length ∘ fun z : Str => z.cps.toList) = fun z => z.length := funext fun z => (len_list z).symm
    rw [e2]
    exact this
  · rw [e] at hc
    obtain ⟨l, hl, hc⟩ := List.mem_flatten.mp hc
    obtain ⟨z, hz, rfl⟩ := List.mem_map.mp hl
    exact (h z hz).2 c hc
/-! ### text * int -/
def rRepS : R2 := fun x y H Q => match x, y with
  | .str a, .int j => 0 ≤ j ∧ j ≤ 1000 ∧ a.length ≤ 1000 ∧ ∀ z : Str, z.cps.toList = (List.replicate j.toNat a.cps.toList).flatten → Q (.str z) H
  | _, _ => False
theorem foldl_rep (c : Array Nat) : ∀ (n : Nat) (acc : Array Nat), ((List.replicate n c).foldl (· ++ ·) acc).toList = acc.toList ++ (List.replicate n c.toList).flatten
  | 0, acc => by simp
  | n + 1, acc => by
    rw [List.replicate_succ, List.foldl_cons, foldl_rep c n, List.replicate_succ, List.flatten_cons, Array.toList_append, List.append_assoc]
section
variable {X : Cx}
theorem op_repS : OpR X (binaryOp .Mult) rRepS := by
  intro pins s σ H x y v u Q I rx ry q
  unfold rRepS at q
  split at q
  · rename_i a j
    obtain ⟨h0, h1, h2, q⟩ := q
    obtain ⟨t, rfl⟩ := rx
    obtain ⟨t', rfl⟩ := ry
    have hd : (decide (j < -(2 ^ 63 : Int)) || decide (j ≥ 2 ^ 63)) = false := by
      rw [decide_eq_false (by omega), decide_eq_false (by omega)]
      rfl
    have hm : a.length * j.toNat ≤ 1000 * 1000 := Nat.mul_le_mul h2 (by omega)
    refine PySem.P.mul_str hd (fun n1 _ => ?_) (fun n1 _ => ?_) ?_
    · intro z
      have : (a.length : Int) ≤ 1000 := by omega
      have h3 : (1000 : Int) ≤ (2 ^ 63 - 1) / j := by
        refine (Int.le_ediv_iff_mul_le (by omega)).mpr ?_
        have : 1000 * j ≤ 1000 * 1000 := Int.mul_le_mul_of_nonneg_left h1 (by decide)
        omega
      omega
    · unfold Builtin.Str.tooLong
      refine decide_eq_false ?_
      intro z
      have : sizeLine ≥ 1000 * 1000 := by decide
      omega
    · by_cases c1 : j < 1
      · rw [if_pos c1]
        have e : j.toNat = 0 := by omega
        exact ⟨by decide, .str Str.empty, H, I.tok _, ⟨_, rfl⟩, q _ (by rw [e]; rfl)⟩
      · rw [if_neg c1]
        by_cases c2 : (j == 1 || a.length == 0) = true
        · rw [if_pos c2]
          refine ⟨.str a, H, I, ⟨_, rfl⟩, q _ ?_⟩
          rw [Bool.or_eq_true] at c2
          rcases c2 with c2 | c2
          · have e : j = 1 := by simpa using c2
            rw [e]
            show a.cps.toList = a.cps.toList ++ []
            rw [List.append_nil]
          · have e : a.cps.toList = [] := by
              have : a.length = 0 := by simpa using c2
              rw [len_list] at this
              exact List.length_eq_zero_iff.mp this
            rw [e]
            simp
        · rw [if_neg c2]
          have el : (List.replicate j.toNat a.cps).foldl (· ++ ·) #[] = (List.replicate j.toNat a.cps).foldl (· ++ ·) #[] := rfl
          have e := foldl_rep a.cps j.toNat #[]
          refine ⟨?_, .str _, H, I.tok _, ⟨_, rfl⟩, q _ ?_⟩
          · show ((List.replicate j.toNat a.cps).foldl (· ++ ·) #[]).size ≤ sizeLine
            rw [← Array.length_toList, e]
            simp
            rw [show a.cps.size = a.length from rfl, Nat.mul_comm]
            exact Nat.le_trans hm (by decide)
          · rw [e]
            rfl
  · exact q.elim
def rMul : R2 := fun x y H Q => match x, y with
  | .int i, .int j => CMul i j ∧ Q (.int (i * j)) H
  | .ref a, .int j => rRep (.ref a) (.int j) H Q
  | .str a, .int j => 0 ≤ j ∧ j ≤ 1000 ∧ a.length ≤ 1000 ∧ ∀ z : Str, z.cps.toList = (List.replicate j.toNat a.cps.toList).flatten → Q (.str z) H
  | _, _ => False
theorem op_mulU : OpR X (binaryOp .Mult) rMul := OpRw (OpR.or op_times op_repS) fun x y H Q q => by
  unfold rMul at q
  split at q
  · exact .inl q
  · exact .inl q
  · exact .inr q
  · exact q.elim
end
end Sk
namespace Sk
open PySem PySem.Spec PyProof.Rows L2
/-! ### values as they stand in a heap -/
def FlatOk : V → Prop
  | .non => True
  | .bl _ => True
  | .int i => i.natAbs ≤ 10 ^ 30
  | .str z => TextOk 24 z
  | _ => False
def DictOk (kvs : List (Key × V)) : Prop := kvs.length ≤ 3 ∧ (kvs.map (·.1)).Nodup ∧ ∀ p ∈ kvs, ∃ w, p.1 = .inr w ∧ NameOk w
def GoodV (H : Hp) : Nat → V → Prop
  | 0, v => FlatOk v
  | n + 1, v => FlatOk v ∨ (∃ a vs, v = .ref a ∧ H a = some (.tup vs) ∧ vs.length ≤ 3 ∧ ∀ x ∈ vs, GoodV H n x) ∨ (∃ a kvs, v = .ref a ∧ H a = some (.dK kvs) ∧ DictOk kvs ∧ ∀ p ∈ kvs, GoodV H n p.2)
theorem FlatOk.good {H : Hp} {v : V} (h : FlatOk v) : ∀ n, GoodV H n v
  | 0 => h
  | _ + 1 => .inl h
theorem GoodV.mono {H H' : Hp} (s : Stay H H') : ∀ (n : Nat) (v : V), GoodV H n v → GoodV H' n v
  | 0, _, h => h
  | n + 1, v, h => by
    rcases h with h | ⟨a, vs, e, h1, h2, h3⟩ | ⟨a, kvs, e, h1, h2, h3⟩
    · exact .inl h
    · exact .inr (.inl ⟨a, vs, e, s _ _ rfl h1, h2, fun x hx => GoodV.mono s n x (h3 x hx)⟩)
    · exact .inr (.inr ⟨a, kvs, e, s _ _ rfl h1, h2, fun p hp => GoodV.mono s n p.2 (h3 p hp)⟩)
theorem GoodV.up {H : Hp} : ∀ (n : Nat) (v : V), GoodV H n v → GoodV H (n + 1) v
  | 0, _, h => .inl h
  | n + 1, v, h => by
    rcases h with h | ⟨a, vs, e, h1, h2, h3⟩ | ⟨a, kvs, e, h1, h2, h3⟩
    · exact .inl h
    · exact .inr (.inl ⟨a, vs, e, h1, h2, fun x hx => GoodV.up n x (h3 x hx)⟩)
    · exact .inr (.inr ⟨a, kvs, e, h1, h2, fun p hp => GoodV.up n p.2 (h3 p hp)⟩)
/-- a key that is there gets another value -/
theorem put_keys {kvs : List (Key × V)} {k : Key} {x : V} (h : (valV kvs k).isSome = true) : (putK kvs k x).map (·.1) = kvs.map (·.1) := by
  unfold putK
  rw [if_pos (by rw [valV_any]; exact h), List.map_map]
  refine List.map_congr_left fun p _ => ?_
  show (if p.1 = k then (p.1, x) else p).1 = p.1
  split <;> rfl
theorem put_mem {kvs : List (Key × V)} {k : Key} {x : V} {p : Key × V} (h : p ∈ putK kvs k x) : p ∈ kvs ∨ (p.1 = k ∧ p.2 = x) := by
  unfold putK at h
  split at h
  · obtain ⟨q, hq, e⟩ := List.mem_map.mp h
    split at e
    · rename_i hk
      rw [← e]
      exact .inr ⟨hk, rfl⟩
    · rw [← e]
      exact .inl hq
  · rcases List.mem_append.mp h with h | h
    · exact .inl h
    · have : p = (k, x) := by simpa using h
      rw [this]
      exact .inr ⟨rfl, rfl⟩
theorem DictOk.put {kvs : List (Key × V)} {k : Key} {x : V} (d : DictOk kvs) (h : (valV kvs k).isSome = true) : DictOk (putK kvs k x) := by
  have e := put_keys (x := x) h
  refine ⟨?_, by rw [e]; exact d.2.1, fun p hp => ?_⟩
  · have l := congrArg List.length e
    rw [List.length_map, List.length_map] at l
    rw [l]
    exact d.1
  · have hm : p.1 ∈ (putK kvs k x).map (·.1) := List.mem_map_of_mem hp
    rw [e] at hm
    obtain ⟨q, hq, eq⟩ := List.mem_map.mp hm
    rw [← eq]
    exact d.2.2 q hq
theorem GoodV.put {G : Hp} {c : Addr} {kvs : List (Key × V)} {k : Key} {x : V} (hc : G c = some (.dK kvs)) (h : (valV kvs k).isSome = true) (hx : FlatOk x) : ∀ (n : Nat) (v : V), GoodV G n v → GoodV (upd G c (.dK (putK kvs k x))) n v
  | 0, _, g => g
  | n + 1, v, g => by
    rcases g with g | ⟨a, vs, e, h1, h2, h3⟩ | ⟨a, ws, e, h1, h2, h3⟩
    · exact .inl g
    · refine .inr (.inl ⟨a, vs, e, ?_, h2, fun x hx' => GoodV.put hc h hx n x (h3 x hx')⟩)
      rw [upd_ne (fun z => by rw [z, hc] at h1; cases h1)]
      exact h1
    · by_cases z : a = c
      · subst z
        rw [hc] at h1
        cases h1
        refine .inr (.inr ⟨a, _, e, upd_same, h2.put h, fun p hp => ?_⟩)
        rcases put_mem hp with hp | ⟨_, hp⟩
        · exact GoodV.put hc h hx n _ (h3 p hp)
        · rw [hp]
          exact hx.good n
      · refine .inr (.inr ⟨a, ws, e, ?_, h2, fun p hp => GoodV.put hc h hx n _ (h3 p hp)⟩)
        rw [upd_ne z]
        exact h1
/-! ### the part of a heap that is new -/
def newP (H H' : Hp) : Hp := fun b => match H b with | some _ => none | none => H' b
theorem newP_at {H H' : Hp} {b : Addr} (h : H b = none) : newP H H' b = H' b := by unfold newP; rw [h]
theorem newP_some {H H' : Hp} {b : Addr} {o : HO} (h : newP H H' b = some o) : H b = none ∧ H' b = some o := by
  unfold newP at h
  cases e : H b with
  | none => rw [e] at h; exact ⟨rfl, h⟩
  | some u => rw [e] at h; cases h
theorem newP_stay {H H' : Hp} : Stay (newP H H') H' := fun b o _ h => (newP_some h).2
/-- more was there before: less is new -/
theorem newP_less {H H1 H2 : Hp} (h : ∀ b, H1 b = none → H b = none) : Stay (newP H1 H2) (newP H H2) := fun b o _ e => by
  obtain ⟨e1, e2⟩ := newP_some e
  rw [newP_at (h b e1)]
  exact e2
theorem newP_on {H H1 H2 : Hp} (s : Stay H1 H2) : Stay (newP H H1) (newP H H2) := fun b o l e => by
  obtain ⟨e1, e2⟩ := newP_some e
  rw [newP_at e1]
  exact s b o l e2
theorem Keep.dom {a : Addr} {H H' : Hp} (k : Keep a H H') (p : Pool H' a) : ∀ b, H' b = none → H b = none := fun b e => k.free e (p.ne e)
/-- all but d -/
def hide (d : Addr) (H : Hp) : Hp := fun b => if b = d then none else H b
theorem hide_ne {d b : Addr} {H : Hp} (h : b ≠ d) : hide d H b = H b := by unfold hide; rw [if_neg h]
theorem hide_some {d b : Addr} {H : Hp} {o : HO} (h : hide d H b = some o) : b ≠ d ∧ H b = some o := by
  unfold hide at h
  split at h
  · cases h
  · exact ⟨by assumption, h⟩
theorem hide_stay {d : Addr} {H : Hp} : Stay (hide d H) H := fun b o _ h => (hide_some h).2
theorem hide_on {d : Addr} {H H' : Hp} (s : Stay H H') : Stay (hide d H) (hide d H') := fun b o l e => by
  obtain ⟨e1, e2⟩ := hide_some e
  rw [hide_ne e1]
  exact s b o l e2
theorem stay_hide {d : Addr} {H H' : Hp} (s : Stay H H') (hd : H d = none) : Stay H (hide d H') := fun b o l e => by
  rw [hide_ne (ne_of_none e hd)]
  exact s b o l e
end Sk
/-! Sk: what holds wherever a token has been given out (replace asks it of its two texts): defs, calls, comprehensions -/
namespace Sk
open PySem PySem.Spec PyProof.Rows L2
/-- a def keeps its promise, called where a token is out -/
structure FnT (P : Program) (w : World) (K : PySem.W.Frag) (mg : Str → Option Value) (base : Heap) (k : Nat) (f : Addr) (fd : FuncData) (ps : List Str) (sp : Sp) : Prop where
  len : ∀ vs H Q E, sp vs H Q E → vs.length = ps.length
  run : ∀ (A : Around) (outer : List Env) (s : Shared) (H : Hp) (args : Args) (us : List Value) (vs : List V) (Q : VK) (E : XK), 1 ≤ s.toks → Room k A → Env0 P w K mg base A outer s H → BindsTo s fd args (ps.zip us) → Vals vs us → sp vs H Q E →
    codeAny (model P w) A (.call (.ref f) args) (CR CX0 outer P w H s Q E) s
section
variable {P : Program} {w : World} {K : PySem.W.Frag} {mg : Str → Option Value} {base : Heap} {x qual : Str} {params : Arguments} {body : List Stmt} {scope : Scope} {dvs : List V} {kws : List (Str × V)} {f : Addr} {fd : FuncData}
theorem FnT.of {k : Nat} {ps : List Str} {sp : Sp} (F : FnOk P w K mg base CX0 k f fd ps sp) : FnT P w K mg base k f fd ps sp := ⟨F.len, fun A outer s H args us vs Q E _ => F.run A outer s H args us vs Q E⟩
theorem fnT_of {N ps : List Str} {k : Nat} {sp : Sp} (F : FunD K x qual params body scope dvs kws f fd) (S : FnScope N ps scope) (len : ∀ vs H Q E, sp vs H Q E → vs.length = ps.length)
    (hb : ∀ (cdv : Value) (A : Around) (outer : List Env) (s : Shared) (H : Hp) (vs : List V) (Q : VK) (E : XK), Room k (A.deeper (envOfC qual scope s.heap.objs.size f cdv)) → sp vs H Q E →
      ∃ t, PSsT (cxOf CX0 P w K mg base N qual scope f cdv A outer s H E).nox body t ∧ t { nx := fun _ H' => Q .non H', rt := Q } (start N vs) H) : FnT P w K mg base (k + 1) f fd ps sp := by
  obtain ⟨oc, od, dV, kV, doc, pm, an, cdv, ct, osl, efd, look, code, _, _⟩ := F.ex
  subst efd
  refine ⟨len, fun A outer s H args us vs Q E tok room env bind rel want => ?_⟩
  have size := len _ _ _ _ want
  have inK : K.In s.heap := env.mod.kin.keeps fun b o e => (env.bs b o e).1
  have calm : s.heap.NoLimit := env.mod.nolimit.keeps fun b o e => (env.bs b o e).1
  have kinds : ∀ y ∈ ps.zip us, scope.names.lookup y.1 = some .local ∨ (scope.names.lookup y.1 = some .cell ∧ ((cellsFrom (s.heap.objs.size + 1) scope.names []).lookup y.1).isSome = true) := by
    rintro ⟨n, v⟩ hy
    cases S.par n (List.of_mem_zip hy).1 with
    | inl q => exact .inl q
    | inr q => exact .inr ⟨q, PySem.W.cellsFrom_some _ _ _ (.inl q)⟩
  refine codeAny_call_function room.depth (inK _ _ look) rfl S.co S.gen rfl (PySem.W.codeRec_of inK code) (bind _ _ _ _ ?_)
  refine wpAny_with_toks (n := 1) tok (wpAny_newFunctionEnv_cells S.kind kinds fun e1 he1 s1 inC tok1 => ?_)
  subst he1
  obtain ⟨t, der, red⟩ := hb cdv A outer s H vs Q E (room.deeper _) want
  have inv : Inv (cxOf CX0 P w K mg base N qual scope f cdv A outer s H E) [] (start N vs) H s1 := inv_start S room.hd env size rel inC
  have inv' : Inv (cxOf CX0 P w K mg base N qual scope f cdv A outer s H E).nox [] (start N vs) H s1 := ⟨⟨inv.ok.mod, inv.ok.kind, inv.ok.glob, inv.ok.blt, inv.ok.above, inv.ok.inj, inv.ok.has, inv.ok.cab, inv.ok.hd, inv.ok.frames, inv.ok.stk, inv.ok.exf, inv.ok.bs, inv.ok.bsz, inv.ok.noex, inv.ok.exfs, inv.ok.funs, inv.ok.frf⟩, inv.os, inv.bare, inv.base, inv.loc, inv.cell, inv.free, inv.freeC, inv.pin, inv.hok, inv.len⟩
  refine ⟨calm.keeps inC.toInCall.keep, codeAny_func (wpAny_mono (der [] s1 _ H _ tok1 inv' red) (fun fl s2 h2 => ?_) fun _ _ z => z.elim)⟩
  have back : ∀ {σ2 : L2.St} {H2 : Hp} {v : V} {u : Value}, Inv (cxOf CX0 P w K mg base N qual scope f cdv A outer s H E).nox [] σ2 H2 s2 → RelV v u → Q v H2 → CE outer P w H s Q u s2 := fun J r q => ⟨_, _, J.os, J.bare, J.base, J.hok, r, q⟩
  cases fl with
  | ret u => obtain ⟨v, σ2, H2, J, r, q⟩ := h2; exact back J r q
  | next => obtain ⟨σ2, H2, J, q⟩ := h2; exact back (u := Value.none) (v := V.non) J rfl q
  | brk => obtain ⟨_, _, _, q⟩ := h2; exact q.elim
  | cont => obtain ⟨_, _, _, q⟩ := h2; exact q.elim
end
section
variable {X : Cx}
/-- f(e, ..) -/
theorem petcall {k : Nat} {f : Addr} {fd : FuncData} {ps : List Str} {sp : Sp} {y : Str} {e : Expr} {es : List Expr} {t : TA} {p pos : Pos} (F : FnT X.prog X.w X.K X.mg X.base k f fd ps sp) (hr : Room k X.A) (hg : Gl X y) (hm : X.mg y = some (.ref f)) (hk : PySem.W.keepIn X.K (.ref f) = true)
    (hb : Binds X.K fd ps []) (ha : PA X (e :: es) t) (hdb : (y == ("__debug__" : Str)) = false := by decide) (he : starEach (e :: es) X.env = (false, eval e X.env) :: starEach es X.env := by rfl) (hpl : (backTo pos (starEach es X.env)).any (·.1) = false := by rfl) :
    PET X (.Call (.Name y p) (e :: es) [] pos) (fun σ H Q => t σ H fun vs H1 => sp vs H1 Q E0) := by
  intro pins s σ H Q tok I h
  refine wpAny_Call_Name_kw (ld_glob I hg hm ?_ hdb)
  have args := PySem.wpAny_toks_of tok (ha.run pos pins s σ H _ I h)
  refine PySem.W.callWith_K (h₀ := X.base) I.ok.mod.kin hk (wpAny_mono args (fun us s1 z => ?_) fun _ _ z => z.2) he hpl
  obtain ⟨tok1, vs, H1, I1, r, q⟩ := z
  refine ⟨I1.kIn, ?_⟩
  have r2 : Vals vs (us ++ []) := by rw [List.append_nil]; exact r
  have size : (us ++ []).length = ps.length := by rw [← r2.length]; exact F.len _ _ _ _ q
  refine wpAny_call (codeAny_mono (F.run X.A X.stack s1 H1 ⟨us, []⟩ (us ++ []) vs Q E0 tok1 hr I1.env0 (hb s1 us I1.kIn size) r2 q) fun r s2 hq => ?_)
  cases r with
  | error e => exact hq.elim
  | ok fl =>
    cases fl with
    | ret u => exact I1.after hq
    | next => exact hq.elim
    | brk => exact hq.elim
    | cont => exact hq.elim
/-- no error, and a token is out behind it too -/
theorem thnT {α : Type} {t : Sem α} {Q Q' : α → Shared → Prop} {M : Model} {A : Around} {E : Value → Shared → Prop} {s : Shared} (tok : 1 ≤ s.toks) (h : wpAny M A t Q (fun _ _ => False) s) (hQ : ∀ a s', 1 ≤ s'.toks → Q a s' → Q' a s') : wpAny M A t Q' E s :=
  wpAny_mono (PySem.wpAny_toks_of tok h) (fun a s' z => hQ a s' z.1 z.2) fun _ _ z => z.2.elim
/-- [elt for target in iter], elt where a token is out -/
theorem lcT_core {pins : List (Addr × Obj)} {s : Shared} {σ : L2.St} {H : Hp} {Q : VK} {elt tg iter : Expr} {scope : Scope} {own : List (Str × Nat)} {pos pos' : Pos} {wi : TI} {g : TG} {te : TE} {use : Option (Value → Sem Unit)} {Qf : Value → Shared → Prop}
    (tok : 1 ≤ s.toks) (hc : X.calm = true) (hN : X.N.Nodup) (I : Inv X pins σ H s) (hi : PI X tg iter wi) (ok : BlkOk X.N X.env.scope scope own)
    (hg : ∀ (s : Shared) (H : Hp) (C : Addr) (cl : List (Str × Addr)) (fp : List Addr), PG (X.blk s H scope (compEnvC scope cl C X.env) fp) tg g)
    (he : ∀ (s : Shared) (H : Hp) (C : Addr) (cl : List (Str × Addr)) (fp : List Addr), PET (X.blk s H scope (compEnvC scope cl C X.env) fp) elt te) (hs : ∀ x, foldedSetIterable iter X.env x = pure x)
    (h : tLc wi g tYes te (own.map (·.2)) σ H Q)
    (fin : ∀ D C s' m H', Inv X pins σ H' s' → Q (.ref D) H' → s'.heap.Ns C m → FpOk X pins H' C → compPost (model X.prog X.w) X.A X.xe use Qf (.ref D) C (.ok .next) s') :
    wpAny (model X.prog X.w) X.A (comprehension (.ListComp elt [⟨tg, iter, [], 0⟩] scope pos) scope X.env pos' (newList []) false (eval iter X.env) use) Qf X.xe s := by
  have caught : ∀ y ∈ scope.names, y.2 = .free → ∃ c, X.env.cells.lookup y.1 = some c := by
    intro y hy e
    cases ok.free y hy e with
    | inl k => exact I.ok.has _ (.inl k)
    | inr k => exact I.ok.has _ (.inr k)
  have walked := PySem.wpAny_toks_of tok (hi.run pins s σ H _ I h)
  refine wpAny_comprehension_free (use := use) rfl hs (closure_ok caught) ok.kind (fun y hy e => by rw [ok.uniq y hy, e]) (wpAny_mono walked (fun xv s1 hx => ?_) fun _ _ z => z.2)
  obtain ⟨tok1, hx⟩ := hx
  refine wpAny_mono (PySem.wpAny_toks_of tok1 hx) (fun itv s2 h2 => ?_) fun _ _ z => z.2
  obtain ⟨tok2, it, fp, tn, J, H2, e, I2, T, st2, f2, q⟩ := h2
  subst e
  refine wpAny_newObj_type (newEnv_comp ?_) (by show 0 ≤ sizeLine; decide)
  obtain ⟨D, hD⟩ : ∃ D, s2.heap.objs.size = D := ⟨_, rfl⟩
  rw [hD]
  have freeD : H2 D = none := I2.hok.fresh (Nat.le_of_eq hD)
  obtain ⟨W, ⟨m0, w0⟩, turn⟩ := q D freeD
  obtain ⟨s3, es3⟩ : ∃ s3 : Shared, ({ s2 with heap := s2.heap.push { cls := .type "list", data := .seq ([] : List Value).toArray } } : Shared) = s3 := ⟨_, rfl⟩
  rw [es3]
  have hp3 : s3.heap = s2.heap.push { cls := .type "list", data := .seq ([] : List Value).toArray } := by rw [← es3]
  have tok3 : 1 ≤ s3.toks := by rw [← es3]; exact tok2
  have grow : ∀ b o, s2.heap.get? b = some o → s3.heap.get? b = some o := fun b o e => by rw [hp3]; exact Heap.get?_push_of_some _ e
  have I3 : Inv X pins σ (upd H2 D (.lst [])) s3 := by
    rw [← es3]
    refine I2.laid (t' := s2.toks) (fun b o e => Heap.get?_push_of_some _ e) (Nat.le_of_eq hD) ⟨Nat.zero_le _, [], 0, .nil, ?_⟩
    rw [← hD]
    exact Heap.get?_push_size _ rfl
  have f3 : ∀ b ∈ fp, FpOk X pins (upd H2 D (.lst [])) b ∧ b < s3.heap.objs.size := by
    intro b hb
    obtain ⟨o, eo, _⟩ := T.obj _ _ st2 b hb
    have lt := Heap.lt_size eo
    have ne : b ≠ D := by rw [← hD]; exact Nat.ne_of_lt lt
    refine ⟨⟨?_, (f2 b hb).2⟩, ?_⟩
    · rw [upd_ne ne]; exact (f2 b hb).1
    · rw [hp3, Heap.size_push]; exact Nat.lt_succ_of_lt lt
  have st3 : tn 0 s3.heap := T.keep _ _ _ st2 fun b _ o e => grow b o e
  have I4 := block_start I3 ok hN f3
  have pg := hg s3 (upd H2 D (.lst [])) s3.heap.objs.size (cellsFrom (s3.heap.objs.size + 1) scope.names (cloFrom X.env.cells scope.names [])) fp
  have pe := he s3 (upd H2 D (.lst [])) s3.heap.objs.size (cellsFrom (s3.heap.objs.size + 1) scope.names (cloFrom X.env.cells scope.names [])) fp
  have none3 : ∀ b ∈ fp, (upd H2 D (.lst [])) b = none := fun b hb => (f3 b hb).1.1
  show codeAny (model X.prog X.w) X.A (.compStart (.ListComp elt [⟨tg, iter, [], 0⟩] scope pos) 0 (.ref it) (.ref D) (compEnvC scope (cellsFrom (s3.heap.objs.size + 1) scope.names (cloFrom X.env.cells scope.names [])) s3.heap.objs.size X.env)) (compPost (model X.prog X.w) X.A X.xe use Qf (.ref D) s3.heap.objs.size) _
  obtain ⟨ce, ece⟩ : ∃ ce, compEnvC scope (cellsFrom (s3.heap.objs.size + 1) scope.names (cloFrom X.env.cells scope.names [])) s3.heap.objs.size X.env = ce := ⟨_, rfl⟩
  have loc : ce.locals = s3.heap.objs.size := by rw [← ece]; rfl
  rw [ece] at I4 pg pe ⊢
  obtain ⟨H3, eH3⟩ : ∃ H3, upd H2 D (.lst []) = H3 := ⟨_, rfl⟩
  rw [eH3] at I3 I4 pg pe w0 none3 f3
  obtain ⟨s4, es4⟩ : ∃ s4 : Shared, ({ s3 with heap := pushCells (s3.heap.push { cls := .type "dict", data := .dict #[] }) scope.names } : Shared) = s4 := ⟨_, rfl⟩
  rw [es4] at I4 ⊢
  have tok4 : 1 ≤ s4.toks := by rw [← es4]; exact tok3
  have st4 : tn 0 s4.heap := T.keep _ _ _ st3 fun b _ o e => by rw [← es4]; exact pushCells_keeps _ _ _ _ (Heap.get?_push_of_some _ e)
  have own4 : ∀ {σ' : L2.St} {H' : Hp} {s' : Shared}, Inv (X.blk s3 H3 scope ce fp) [] σ' H' s' → (∀ b ∈ fp, H' b = none) → ∀ b ∈ fp, FpOk (X.blk s3 H3 scope ce fp) [] H' b := by
    intro σ' H' s' I' hn b hb
    have ex := I'.ok.exf b hb
    exact ⟨hn b hb, ex.1, I'.ok.exfs b hb, .inl hb, fun x c e => ex.2 x c e, fun p hp => by cases hp⟩
  have loop : codeAny (model X.prog X.w) X.A (.compLoop (.ListComp elt [⟨tg, iter, [], 0⟩] scope pos) 0 (.ref it) (.ref D) ce) (compPost (model X.prog X.w) X.A X.xe use Qf (.ref D) s3.heap.objs.size) s4 := by
    refine compLoop_any (fun n s' => 1 ≤ s'.toks ∧ ∃ i H', Inv (X.blk s3 H3 scope ce fp) [] (wipe σ (own.map (·.2))) H' s' ∧ tn i s'.heap ∧ (∀ b ∈ fp, H' b = none) ∧ W i n H') ?_ m0 ⟨tok4, 0, H3, I4, st4, none3, w0⟩
    rintro n s5 ⟨tok5, i, H5, I5, st5, n5, w5⟩
    cases turn i n H5 w5 with
    | inl z =>
      obtain ⟨stop, qq⟩ := z
      have td := T.done (X.blk s3 H3 scope ce fp) rfl rfl rfl hc i [] s5 _ H5 (fun _ _ => False) I5 (own4 I5 n5) st5 stop
      refine thnF td fun r s6 z => ?_
      obtain ⟨hr, I6⟩ := z
      subst hr
      have back : Inv X pins σ H5 s6 := I3.call' (ch := fp) I6.os I6.base I6.hok I6.bare fun b hb => by
        have z := (f3 b hb).1
        exact ⟨z.2.2.2.1, z.2.1, z.2.2.2.2.1, z.2.2.2.2.2⟩
      have nC : H5 ce.locals = none := I6.free
      obtain ⟨m, hn, _⟩ := I6.loc
      have hn : s6.heap.Ns ce.locals m := hn
      rw [loc] at hn nC
      exact fin D s3.heap.objs.size s6 m H5 back qq hn (I3.fpOk (Nat.le_refl _) nC)
    | inr z =>
      obtain ⟨go, Nx, hNx, step⟩ := z
      have ti := T.item (X.blk s3 H3 scope ce fp) rfl rfl rfl hc i [] s5 _ H5 (fun _ _ => False) I5 (own4 I5 n5) st5 go
      refine thnT tok5 ti fun r s6 tok6 z => ?_
      obtain ⟨u, hr, h6⟩ := z
      subst hr
      refine thnT tok6 h6 fun _ s7 tok7 z => ?_
      obtain ⟨x, H7, I7, r7, y7, st7, n7⟩ := z
      have I7p := I7.pinned (own4 I7 n7) (T.obj _ _ st7)
      refine thnT tok7 (pg.run _ s7 _ H7 x u _ I7p r7 (step x H7 y7)) fun _ s8 tok8 z => ?_
      obtain ⟨σ8, H8, I8, same8, q8⟩ := z
      have pt : PTs (X.blk s3 H3 scope ce fp) [] tYes := pts_nil
      refine thnT tok8 (pt.run _ s8 σ8 H8 _ I8 q8) fun b s9 tok9 z => ?_
      obtain ⟨H9, I9, q9⟩ := z
      have next : ∀ {s' : Shared} {H' : Hp}, 1 ≤ s'.toks → Inv (X.blk s3 H3 scope ce fp) ([] ++ pinsAt fp s7.heap) σ8 H' s' → Nx H' →
          ∃ m, m < n ∧ 1 ≤ s'.toks ∧ ∃ i H', Inv (X.blk s3 H3 scope ce fp) [] (wipe σ (own.map (·.2))) H' s' ∧ tn i s'.heap ∧ (∀ b ∈ fp, H' b = none) ∧ W i m H' := by
        intro s' H' tok' I' nx
        obtain ⟨m', hm, w'⟩ := hNx H' nx
        have held : ∀ b ∈ fp, ∀ o, s7.heap.get? b = some o → s'.heap.get? b = some o ∧ H' b = none := by
          intro b hb o e
          have z := I'.pin (b, o) (List.mem_append_right _ (List.mem_append_right _ (mem_pinsAt hb e)))
          exact ⟨z.1, z.2.1⟩
        refine ⟨m', hm, tok', i + 1, H', ?_, ?_, ?_, w'⟩
        · refine (I'.unpinned (pins := [])).weak (by rw [← same8, wipe_length]) fun j v e => ?_
          rw [← same8] at e
          exact (wipe_some e).1
        · exact T.keep _ _ _ st7 fun b hb o e => (held b hb o e).1
        · intro b hb
          obtain ⟨o, e, _⟩ := T.obj _ _ st7 b hb
          exact (held b hb o e).2
      cases b with
      | false =>
        simp only [Bool.false_eq_true, if_false] at q9 ⊢
        exact next tok9 I9 q9
      | true =>
        simp only [if_true] at q9 ⊢
        refine thnT tok9 (pe _ s9 σ8 H9 _ tok9 I9 q9) fun z s10 tok10 w => ?_
        obtain ⟨yv, H10, I10, r10, acc, hD10, hz10, nx⟩ := w
        have app := app_ok (X := X.blk s3 H3 scope ce fp) (E := fun _ _ => False) (Q := fun _ s11 => Inv (X.blk s3 H3 scope ce fp) ([] ++ pinsAt fp s7.heap) σ8 (upd H10 D (.lst (acc ++ [yv]))) s11) I10 hD10 hz10 r10 fun s11 I11 => I11
        exact thnT tok10 app fun _ s11 tok11 I11 => next tok11 I11 nx
  exact codeAny_compStart_list loop (T.self X.A 0 _ _ _ st4 loop)
/-- as a value -/
theorem petlc {elt tg iter : Expr} {scope : Scope} {own : List (Str × Nat)} {pos : Pos} {wi : TI} {g : TG} {te : TE} (hc : X.calm = true) (hN : X.N.Nodup) (hi : PI X tg iter wi) (ok : BlkOk X.N X.env.scope scope own)
    (hg : ∀ (s : Shared) (H : Hp) (C : Addr) (cl : List (Str × Addr)) (fp : List Addr), PG (X.blk s H scope (compEnvC scope cl C X.env) fp) tg g)
    (he : ∀ (s : Shared) (H : Hp) (C : Addr) (cl : List (Str × Addr)) (fp : List Addr), PET (X.blk s H scope (compEnvC scope cl C X.env) fp) elt te) (hs : ∀ x, foldedSetIterable iter X.env x = pure x := by intro _; rfl) :
    PET X (.ListComp elt [⟨tg, iter, [], 0⟩] scope pos) (tLc wi g tYes te (own.map (·.2))) := by
  intro pins s σ H Q tok I h
  rw [eval_ListComp]
  refine lcT_core tok hc hN I hi ok hg he hs h fun D C s' m H' I' q hn f => ⟨m, hn, fun h2 sb => ?_⟩
  have z := I'.turned (t' := s'.toks) (fun b o hb e => (sb.2 b hb).trans e) f.1 f.2.1 f.2.2.2.1 f.2.2.2.2.1 f.2.2.2.2.2
  exact ⟨.ref D, H', z, rfl, q⟩
/-- y = [..] -/
theorem pstsetLc {i : Nat} {y : Str} {py : Pos} {elt tg iter : Expr} {scope : Scope} {own : List (Str × Nat)} {pos spos : Pos} {wi : TI} {g : TG} {te : TE} (hc : X.calm = true) (hN : X.N.Nodup) (hy : X.N[i]? = some y) (hyl : X.env.scope.names.lookup y = some .local)
    (hsw : swapsWith (.ListComp elt [⟨tg, iter, [], 0⟩] scope pos) (some (.Name y py)) spos.line X.env = pure true) (hi : PI X tg iter wi) (ok : BlkOk X.N X.env.scope scope own)
    (hg : ∀ (s : Shared) (H : Hp) (C : Addr) (cl : List (Str × Addr)) (fp : List Addr), PG (X.blk s H scope (compEnvC scope cl C X.env) fp) tg g)
    (he : ∀ (s : Shared) (H : Hp) (C : Addr) (cl : List (Str × Addr)) (fp : List Addr), PET (X.blk s H scope (compEnvC scope cl C X.env) fp) elt te) (hs : ∀ x, foldedSetIterable iter X.env x = pure x := by intro _; rfl) :
    PST X (.Assign [.Name y py] (.ListComp elt [⟨tg, iter, [], 0⟩] scope pos) spos) (tAsg (tLc wi g tYes te (own.map (·.2))) (gName i)) := by
  intro pins s σ H D tok I h
  rw [exec_Assign_Name_used _ _ _ _ hsw]
  refine wpAny_bind (wpAny_standAt (wpAny_bind ?_))
  have want : tLc wi g tYes te (own.map (·.2)) σ H (fun x H1 => gName i x σ H1 D.nx) := h
  refine wpAny_bind (thn (lcT_core (use := some (assign (.Name y py) X.env)) (Qf := fun _ s' => SP X pins D .next s') tok hc hN I hi ok hg he hs want fun L C s' m H' I' q hn f => ?_) fun _ s' hq => wpAny_pure (wpAny_pure hq))
  show wpAny _ _ (assign (.Name y py) X.env (.ref L)) _ _ _
  refine wpAny_assign_Name (store_ok2 (v := V.ref L) I' hN hy (.inl hyl) rfl (fun s2 I2 z => ?_) (.inr hyl))
  obtain ⟨a, sb, ha⟩ := z
  have apart : C ≠ a := by
    cases ha with
    | inl z => rw [z]; exact f.2.1
    | inr z => exact fun e => f.2.2.2.2.1 y a z e.symm
  refine ⟨m, hn.sameBut sb apart, fun h3 sb3 => ?_⟩
  have z := I2.turned (t' := s2.toks) (fun b o hb e => (sb3.2 b hb).trans e) f.1 f.2.1 f.2.2.2.1 f.2.2.2.2.1 f.2.2.2.2.2
  exact ⟨_, H', z, q⟩
theorem PETw {e : Expr} {t t' : TE} (h : PET X e t) (w : ∀ σ H Q, t' σ H Q → t σ H Q) : PET X e t' := fun pins s σ H Q tok I q => h pins s σ H Q tok I (w σ H Q q)
theorem upT' {e : Expr} {t : TE} (h : PET X e t) : PET X e (upE t) := fun pins s σ H Q tok I q => by
  obtain ⟨Q', w, q⟩ := q
  exact thn (h pins s σ H Q' tok I q) fun v s1 ⟨x, H1, I1, r1, q1⟩ => ⟨x, H1, I1, r1, w _ _ q1⟩
/-- x = e -/
theorem pstset {i : Nat} {x : Str} {e : Expr} {te : TE} {pos pos' : Pos} (hN : X.N.Nodup) (hi : X.N[i]? = some x) (hx : Loc X.env.scope x) (he : PET X e te) (hs : swapsWith e (some (.Name x pos')) pos.line X.env = pure false := by rfl) (hf : X.fn x = true ∨ X.env.scope.names.lookup x = some .local := by first | exact .inl rfl | exact .inr rfl | assumption) :
    PST X (.Assign [.Name x pos'] e pos) (tAsg te (gName i)) := by
  intro pins s σ H D tok I h
  refine wpAny_Assign_Name (thn (he pins s σ H _ tok I h) fun v s1 z => ?_) hs
  obtain ⟨y, H1, I1, r1, q1⟩ := z
  exact store_ok I1 hN hi hx r1 (fun s2 I2 => ⟨_, H1, I2, q1⟩) hf
/-- sep.join(e) -/
theorem petjoin (K : PySem.W.Frag) {o e : Expr} {to te : TE} {apos pos : Pos} (ho : PE X o to) (he : PET X e te) (hK : X.K = K := by rfl) (hs : starEach [e] X.env = [(false, eval e X.env)] := by rfl) (hbase : attributeBase o "join" X.env (eval o X.env) = eval o X.env := by rfl) (hline : (apos.endLine == pos.line) = true := by rfl) :
    PET X (.Call (.Attribute o "join" apos) [e] [] pos) (uJoin K to te) := by
  subst hK
  intro pins s σ H Q tok I h
  refine PySem.Call_method1 hbase hs hline (wpAny_mono (PySem.wpAny_toks_of tok (ho.run pins s σ H _ I h)) (fun v s1 z => ?_) fun _ _ z => z.2)
  obtain ⟨tok1, x, H1, I1, r1, q1⟩ := z
  cases x with
  | str a =>
    obtain ⟨t, rfl⟩ := id r1
    refine ⟨"str", _, F.plainAttrs_str, F.slot_str_join, F.type_str_join, typeIs_str _ _ _, (fun _ e => nomatch e), Calls.callWith_builtin rfl (Calls.evalArgs_plain (Calls.spliced_cons ?_))⟩
    refine thn (he pins s1 σ H1 _ tok1 I1 q1) fun u s2 z => Calls.spliced_nil ?_
    obtain ⟨y, H2, I2, r2, q2⟩ := z
    cases y with
    | ref p =>
      obtain ⟨ys, h1, h2, h3⟩ := q2
      exact mt_join pins s2 σ H2 _ [.ref p] _ [u] Q I2 r1 (.cons r2 .nil) ⟨a, p, ys, rfl, rfl, h1, h2, h3⟩
    | _ => exact q2.elim
  | _ => exact q1.elim
/-- a field of an f-string -/
theorem petfmt {e : Expr} {te : TE} {pos : Pos} (he : PET X e te) : PET X (.FormattedValue e (-1) none pos) (uFmt te) := by
  intro pins s σ H Q tok I h
  refine wpAny_FormattedValue_plain (thn (he pins s σ H _ tok I h) fun v s1 z => ?_)
  obtain ⟨x, H1, I1, r1, q⟩ := z
  cases x with
  | str y =>
    obtain ⟨t, rfl⟩ := r1
    exact wpAny_formatField_str ⟨.str y, H1, I1, ⟨t, rfl⟩, q.2⟩ ⟨.str y, H1, I1.tok _, ⟨_, rfl⟩, q.2⟩ q.1
  | int i =>
    obtain ⟨t, rfl⟩ := r1
    exact wpAny_formatField_int q.1 ⟨.str (toString i), H1, I1.tok _, ⟨_, rfl⟩, q.2⟩
  | _ => exact q.elim
inductive PJT (X : Cx) : List Expr → List TE → Prop where
  | nil : PJT X [] []
  | cons {e : Expr} {t : TE} {es : List Expr} {ts : List TE} (h : PET X e t) (r : PJT X es ts) : PJT X (e :: es) (t :: ts)
theorem pjt_run {pins : List (Addr × Obj)} {σ : L2.St} {es : List Expr} {ts : List TE} (h : PJT X es ts) : ∀ (acc : Str) (s : Shared) (H : Hp) (Q : Str → Hp → Prop) (R : Str → Shared → Prop), 1 ≤ s.toks → acc.length ≤ sizeLine → Inv X pins σ H s → tJs ts acc σ H Q →
    (∀ out s1 H1, out.length ≤ sizeLine → Inv X pins σ H1 s1 → Q out H1 → R out s1) → Joins (model X.prog X.w) X.A X.xe (evalEach es X.env) acc R s := by
  induction h with
  | nil =>
    intro acc s H Q R _ hz I q k
    have e0 : evalEach [] X.env = [] := by simp [evalEach]
    rw [e0]
    exact k acc s H hz I q
  | @cons e t es ts he _ ih =>
    intro acc s H Q R tok hz I q k
    have e0 : evalEach (e :: es) X.env = eval e X.env :: evalEach es X.env := by simp [evalEach]
    rw [e0]
    refine wpAny_mono (PySem.wpAny_toks_of tok (he pins s σ H _ tok I q)) (fun v s1 z => ?_) fun _ _ z => z.2
    obtain ⟨tok1, x, H1, I1, r1, y, rfl, hy, q1⟩ := z
    obtain ⟨tk, rfl⟩ := r1
    exact ⟨y, tk, rfl, hy, ih (acc ++ y) s1 H1 Q R tok1 hy I1 q1 k⟩
/-- f'..' of two parts or more -/
theorem petjoined {v1 v2 : Expr} {rest : List Expr} {ts : List TE} {pos : Pos} (h : PJT X (v1 :: v2 :: rest) ts) : PET X (.JoinedStr (v1 :: v2 :: rest) pos) (fun σ H Q => tJs ts Str.empty σ H fun out H1 => Q (.str out) H1) := by
  intro pins s σ H Q tok I q
  exact wpAny_JoinedStr (pjt_run h Str.empty s H (fun out H1 => Q (.str out) H1) _ tok (Nat.zero_le _) I q fun out s1 H1 hz I1 q1 => ⟨hz, .str out, H1, I1.tok _, ⟨_, rfl⟩, q1⟩)
/-- a test's way -/
theorem pstif {c : Expr} {a b : List Stmt} {tc : TT} {t u : TS} {pos : Pos} (hc : PT X c tc) (ha : PSsT X a t) (hb : PSsT X b u) : PST X (.If c a b pos) (uIf tc t u) := fun pins s σ H D tok I h =>
  CwR.pst_if (upt hc) ha hb pins s σ H D tok I ⟨_, fun x H' z => br_if z, h⟩
end
end Sk
/-! Sk: {None: a, True: b, False: c}[v]; list(text); calls by keywords alone -/
namespace Sk
open PySem PySem.Spec PyProof.Rows L2
def nbIs : Option Bool → Value → Bool
  | none, .none => true
  | none, _ => false
  | some b, v => PpSet.isB b v
theorem nb_none {v : Value} (h : nbIs none v = true) : v = .none := by
  cases v with
  | none => rfl
  | _ => cases h
theorem isB_none (b : Bool) : ¬ PpSet.isB b .none = true := fun h => by cases h
def nbKind (prog : Program) (w : World) : PySem.KeyKind prog w (Option Bool) where
  is := nbIs
  hash := fun k => match k with
    | none => (noneKind prog w).hash none
    | some b => (PpSet.boolK prog w).hash b
  inj := fun v a b ha hb => by
    cases a with
    | none =>
      have e := nb_none ha
      subst e
      cases b with
      | none => rfl
      | some k => exact absurd hb (isB_none k)
    | some k =>
      cases b with
      | none =>
        have e := nb_none hb
        subst e
        exact absurd ha (isB_none k)
      | some j => exact congrArg some ((PpSet.boolK prog w).inj v k j ha hb)
  byValue := fun k v h => by
    cases k with
    | none =>
      have e := nb_none h
      subst e
      rfl
    | some k => exact (PpSet.boolK prog w).byValue k v h
  pyHash := @fun A E s k v Q hv h => by
    cases k with
    | none => exact (noneKind prog w).pyHash (k := none) (show nkIs none v = true by rw [nb_none hv]; rfl) h
    | some k => exact (PpSet.boolK prog w).pyHash (k := k) hv h
  eqBool := @fun A E s a b u v Q hu hv h => by
    cases a with
    | none =>
      have e := nb_none hu
      subst e
      cases b with
      | none =>
        have e := nb_none hv
        subst e
        rw [decide_eq_true rfl] at h
        exact SeqAt.EqAt.same _ _ _ _ _ h
      | some k =>
        rw [decide_eq_false (fun z => nomatch z)] at h
        have e := PpSet.isB_shape hv
        subst e
        exact SeqAt.EqAt.none_bool k _ _ _ _ h
    | some k =>
      have e := PpSet.isB_shape hu
      subst e
      cases b with
      | none =>
        have e := nb_none hv
        subst e
        rw [decide_eq_false (fun z => nomatch z)] at h
        exact SeqAt.EqAt.bool_none k _ _ _ _ h
      | some j =>
        have e := PpSet.isB_shape hv
        subst e
        have d : decide ((some k : Option Bool) = some j) = (k == j) := by cases k <;> cases j <;> rfl
        rw [d] at h
        exact SeqAt.EqAt.bool_bool k j _ _ _ _ h
  «strs» := fun k x t v h => by
    cases k with
    | none => cases h
    | some k => exact (PpSet.boolK prog w).«strs» k x t v h
/-- what such a table answers -/
def nbAt (a b c : Str) (y : V) (Q : V → Prop) : Prop := match y with
  | .non => Q (.str a)
  | .bl k => Q (.str (if k then b else c))
  | _ => False
def uNb (a b c : Str) (tv : TE) : TE := fun σ H Q => ∀ p o, H p = none → tv σ (upd H p o) fun y H2 => H2 p = some o ∧ nbAt a b c y fun z => Q z H2
section
variable {X : Cx}
theorem pe_nb {a b c : Str} {v : Expr} {tv : TE} {j1 j2 j3 i1 i2 i3 : Nat} {p1 p2 p3 q1 q2 q3 dpos pos : Pos} (hv : PE X v tv) (hs : NoSl v) :
    PE X (.Subscript (.Dict [some (.Constant .none j1 p1), some (.Constant (.bool true) j2 p2), some (.Constant (.bool false) j3 p3)] [.Constant (.str a) i1 q1, .Constant (.str b) i2 q2, .Constant (.str c) i3 q3] dpos) v pos) (uNb a b c tv) := by
  refine ⟨fun pins s σ H Q I h => ?_⟩
  have hn := I.hok.fresh (Nat.le_refl s.heap.objs.size)
  have I1 := I.laid (a := s.heap.objs.size) (o := .dK []) (h' := s.heap.push { cls := .type "dict", data := .dict #[] }) (t' := s.toks) (fun _ _ q => Heap.get?_push_of_some _ q) (Nat.le_refl _) (dk_empty s.heap I.big)
  have three : PPs X dpos [some (.Constant .none j1 p1), some (.Constant (.bool true) j2 p2), some (.Constant (.bool false) j3 p3)] [.Constant (.str a) i1 q1, .Constant (.str b) i2 q2, .Constant (.str c) i3 q3]
      [(tC .non, tC (.str a)), (tC (.bl true), tC (.str b)), (tC (.bl false), tC (.str c))] := pps_cons pe_non pe_str (pps_cons pe_bl pe_str (pps_cons pe_bl pe_str pps_nil))
  refine subD_of PySem.F.slot_dict_getitem.lookup hs ?_
  refine wpAny_Dict_walk (knd := nbKind X.prog X.w) rfl rfl (by simp) (Nat.le_of_ble_eq_true rfl) (thn (three.run pins _ σ _ (fun ps H1 => ps = [(.non, .str a), (.bl true, .str b), (.bl false, .str c)] ∧ H1 = upd H s.heap.objs.size (.dK [])) I1 ⟨rfl, rfl⟩) fun ws s2 z => ?_)
  obtain ⟨ps, H2, I2, rel, rfl, rfl⟩ := z
  obtain ⟨_, hd, vs0, r0, dd⟩ := dk_of I2.hok upd_same
  cases r0
  cases rel with
  | @cons _ w1 _ r1 h1 t1 =>
  cases t1 with
  | @cons _ w2 _ r2 h2 t2 =>
  cases t2 with
  | @cons _ w3 _ r3 h3 t3 =>
  cases t3
  obtain ⟨w1, x1⟩ := w1
  obtain ⟨w2, x2⟩ := w2
  obtain ⟨w3, x3⟩ := w3
  obtain ⟨e1, ta, e1'⟩ := h1
  obtain ⟨e2, tb, e2'⟩ := h2
  obtain ⟨e3, tc, e3'⟩ := h3
  have e1 : w1 = Value.none := e1
  have e2 : w2 = Value.bool true := e2
  have e3 : w3 = Value.bool false := e3
  have e1' : x1 = Value.str a ta := e1'
  have e2' : x2 = Value.str b tb := e2'
  have e3' : x3 = Value.str c tc := e3'
  subst e1 e2 e3 e1' e2' e3'
  have dn : s2.heap.DictOf (nbKind X.prog X.w) s.heap.objs.size [] := by
    obtain ⟨o, es, ep, g1, g2, g3, _, g5, _⟩ := dd
    have e0 : es.toList = [] := by
      generalize es.toList = l at g5
      cases g5
      rfl
    refine ⟨o, es, ep, g1, g2, g3, fun e he => ?_, by rw [e0]; exact .nil, List.nodup_nil⟩
    have : e ∈ es.toList := Array.mem_toList_iff.mpr he
    rw [e0] at this
    cases this
  refine ⟨[(none, .str a ta), (some true, .str b tb), (some false, .str c tc)], ⟨rfl, rfl, rfl, rfl, rfl, rfl, trivial⟩, dn, fun h' dd' same => ?_⟩
  have he : ∃ q, h'.get? s.heap.objs.size = some q := let ⟨q, _, _, hq, _⟩ := dd'; ⟨q, hq⟩
  have I3 := d_write (ob := .ext fun h => h.DictOf (nbKind X.prog X.w) s.heap.objs.size (merged [] [(none, .str a ta), (some true, .str b tb), (some false, .str c tc)])) (t' := s2.toks + 3) I2 (by rw [upd_same]; exact trivial) same he ⟨dd', he, fun x1 x2 g k => by
    obtain ⟨o, es, ep, g1, g2⟩ := g
    exact ⟨o, es, ep, k o g1, g2⟩⟩
  rw [upd_upd] at I3
  refine thn (hv.run pins _ σ _ _ I3 (h _ _ hn)) fun iv s4 z => ?_
  obtain ⟨y, H4, I4, ry, hp4, q4⟩ := z
  obtain ⟨d4, _⟩ := I4.hok _ _ hp4
  have ty : s4.TypeIs (.ref s.heap.objs.size) "dict" := by
    obtain ⟨o, es, ep, g1, g2, _⟩ := d4
    exact ⟨o, g1, g2.1⟩
  refine ⟨ty, ?_⟩
  cases y with
  | non =>
    have e : iv = Value.none := ry
    subst e
    exact wpAny_getItem_of (knd := nbKind X.prog X.w) (k := none) rfl d4.mapOf rfl ⟨.str a, H4, I4.tok _, ⟨ta, rfl⟩, q4⟩
  | bl k =>
    have e : iv = Value.bool k := ry
    subst e
    cases k with
    | true => exact wpAny_getItem_of (knd := nbKind X.prog X.w) (k := some true) rfl d4.mapOf rfl ⟨.str b, H4, I4.tok _, ⟨tb, rfl⟩, q4⟩
    | false => exact wpAny_getItem_of (knd := nbKind X.prog X.w) (k := some false) rfl d4.mapOf rfl ⟨.str c, H4, I4.tok _, ⟨tc, rfl⟩, q4⟩
  | _ => exact q4.elim
end
end Sk
/-! Sk: list(text), tuple, lists of anything; calls by keywords alone -/
namespace Sk
open PySem PySem.Spec PyProof.Rows L2
section
variable {X : Cx}
def sgs (z : Str) : List V := z.cps.toList.map fun c => V.str ⟨#[c]⟩
theorem call_list_txt (hc : X.A.handled = none) : CallR X (.type "list") (fun xs H Q => ∃ z, xs = [.str z] ∧ z.length ≤ sizeLine ∧ ∀ l, H l = none → Q (.ref l) (upd H l (.lst (sgs z)))) := by
  intro pins s σ H xs us Q I r h
  obtain ⟨z, rfl, hz, q⟩ := h
  cases r with
  | @cons _ u _ us ru rs =>
  cases rs
  obtain ⟨t, rfl⟩ := ru
  refine PySem.call_list_str (hn := hz) hc z t fun h' tk acc c keep at_ items => ?_
  have hl : (sgs z).length = acc.toList.length := by
    unfold sgs
    rw [List.length_map, Array.length_toList, Array.length_toList, items.1]
  have vals : Vals (sgs z) acc.toList := vals_of_at hl fun j x u hx hu => by
    have hu' : acc[j]? = some u := by rw [← hu, Array.getElem?_toList]
    obtain ⟨c, tk, hc, rfl⟩ := items.2 j u hu'
    unfold sgs at hx
    rw [List.getElem?_map, Array.getElem?_toList, hc] at hx
    cases hx
    exact ⟨tk, rfl⟩
  have I' := I.laid (a := s.heap.objs.size) (o := .lst (sgs z)) (t' := tk) keep (Nat.le_refl _) ⟨by rw [hl, Array.length_toList, items.1]; exact hz, acc.toList, c, vals, at_⟩
  exact ⟨.ref s.heap.objs.size, _, I', rfl, q _ (I.hok.fresh (Nat.le_refl _))⟩
/-- list(x): a list, a tuple, a text -/
def rLstU (K : PySem.W.Frag) : List V → Hp → VK → Prop := fun xs H Q => match xs with
  | [.ref p] => ∃ ys, (SqL K H p ys ∨ SqT K H p ys) ∧ ∀ l, H l = none → Q (.ref l) (upd H l (.lst ys))
  | [.str z] => z.length ≤ sizeLine ∧ ∀ l, H l = none → Q (.ref l) (upd H l (.lst (sgs z)))
  | _ => False
theorem klstU (K : PySem.W.Frag) (hc : X.A.handled = none) (h : X.K = K := by rfl) : CallR X (.type "list") (rLstU K) := by
  subst h
  refine CallRw (CallR.or call_list_of (call_list_txt hc)) fun xs H Q q => ?_
  unfold rLstU at q
  split at q
  · obtain ⟨ys, q⟩ := q
    exact .inl ⟨_, ys, rfl, q⟩
  · exact .inr ⟨_, rfl, q⟩
  · exact q.elim
/-- f(k = v, ..) -/
def uCallK (sp : Sp) (m : Nat) (gV : List V → List V) (tk : TA) : TE := fun σ H Q => tk σ H fun zs H2 => zs.length = m ∧ sp (gV zs) H2 Q E0
theorem pe_callK0 {k : Nat} {f : Addr} {fd : FuncData} {ps ks : List Str} {sp : Sp} {x : Str} {p pos : Pos} {kws : List Keyword} {tk : TA} {g : List Value → List Value} {gV : List V → List V} (F : FnOk X.prog X.w X.K X.mg X.base CX0 k f fd ps sp) (hr : Room k X.A) (hg : Gl X x) (hm : X.mg x = some (.ref f))
    (hk : PySem.W.keepIn X.K (.ref f) = true) (hb : KBn X.K fd ps 0 ks (fun _ => g) (fun _ => gV)) (hkw : PK X kws tk) (hall : (backToKw pos (keywordEach kws X.env)).all (·.1.isSome) = true := by rfl) (hks : (backToKw pos (keywordEach kws X.env)).filterMap (·.1) = ks := by rfl)
    (hdb : (x == ("__debug__" : Str)) = false := by decide) (hpl : ((backTo pos (starEach [] X.env)).any (·.1) || (backToKw pos (keywordEach kws X.env)).any (·.1.isNone)) = false := by rfl) :
    PE X (.Call (.Name x p) [] kws pos) (uCallK sp ks.length gV tk) := by
  refine ⟨fun pins s σ H Q I h => ?_⟩
  refine wpAny_Call_Name_kw (ld_glob I hg hm ?_ hdb)
  refine PySem.W.callWith_KW0 (h₀ := X.base) I.ok.mod.kin hk hall (thn (hkw.run pos pins s σ H _ I h) fun ws s2 z => ?_) hpl
  obtain ⟨zs, H2, I2, rz, l2, q2⟩ := z
  refine ⟨I2.kIn, ?_⟩
  rw [hks]
  exact run_fnN (us := []) (vs := []) F hr hb pass0 I2 .nil rz rfl l2 q2
end
section
variable {K : PySem.W.Frag} {x qual : Str} {params : Arguments} {body : List Stmt} {scope : Scope} {f : Addr} {fd : FuncData}
/-- two parameters, given by name in the other order -/
theorem kb_swap {p0 p1 : Str} (F : FunD K x qual params body scope [] [] f fd)
    (h : ∀ (kV doc pm : Value) (an : Option Addr) (cdv ct : Value) (w0 w1 : Value), bindArgs (PySem.W.fnOf x qual params body scope .none kV doc pm an cdv ct) ⟨[], [(p1, w0), (p0, w1)]⟩ = pure [(p0, w1), (p1, w0)]) :
    KBn K fd [p0, p1] 0 [p1, p0] (fun _ ws => ws.reverse) (fun _ zs => zs.reverse) := by
  obtain ⟨oc, od, dV, kV, doc, pm, an, cdv, ct, osl, rfl, lk, hcd, hD, hK⟩ := F.ex
  rcases hD with ⟨_, rfl⟩ | ⟨e, _⟩
  · refine ⟨fun s us ws _ l1 l2 => ?_, fun r rz => ?_⟩
    · match us, ws, l1, l2 with
      | [], [w0, w1], _, _ => exact .of_eq (h kV doc pm an cdv ct w0 w1)
    · cases rz with
      | nil => exact .nil
      | cons r0 rz =>
        have : ∀ {zs : List V} {ws : List Value}, Vals zs ws → Vals zs.reverse ws.reverse := by
          intro zs ws h
          induction h with
          | nil => exact .nil
          | cons r t ih => rw [List.reverse_cons, List.reverse_cons]; exact ih.append (.cons r .nil)
        exact this (.cons r0 rz)
  · exact absurd rfl e
end
end Sk
namespace Sk
open PySem PySem.Spec PyProof.Rows L2
section
variable {X : Cx}
theorem inv_nox {pins : List (Addr × Obj)} {σ : L2.St} {H : Hp} {s : Shared} (v : Inv X pins σ H s) : Inv X.nox pins σ H s :=
  ⟨⟨v.ok.mod, v.ok.kind, v.ok.glob, v.ok.blt, v.ok.above, v.ok.inj, v.ok.has, v.ok.cab, v.ok.hd, v.ok.frames, v.ok.stk, v.ok.exf, v.ok.bs, v.ok.bsz, v.ok.noex, v.ok.exfs, v.ok.funs, v.ok.frf⟩, v.os, v.bare, v.base, v.loc, v.cell, v.free, v.freeC, v.pin, v.hok, v.len⟩
theorem inv_back {pins : List (Addr × Obj)} {σ : L2.St} {H : Hp} {s : Shared} (v : Inv X.nox pins σ H s) : Inv X pins σ H s :=
  ⟨⟨v.ok.mod, v.ok.kind, v.ok.glob, v.ok.blt, v.ok.above, v.ok.inj, v.ok.has, v.ok.cab, v.ok.hd, v.ok.frames, v.ok.stk, v.ok.exf, v.ok.bs, v.ok.bsz, v.ok.noex, v.ok.exfs, v.ok.funs, v.ok.frf⟩, v.os, v.bare, v.base, v.loc, v.cell, v.free, v.freeC, v.pin, v.hok, v.len⟩
theorem psst_nox {b : List Stmt} {t : TS} (h : PSsT X.nox b t) : PSsT X b t := fun pins s σ H D tok I q =>
  wpAny_mono (h pins s σ H D tok (inv_nox I) q) (fun f s' z => by
    cases f with
    | next => obtain ⟨σ', H', J, q⟩ := z; exact ⟨σ', H', inv_back J, q⟩
    | brk => obtain ⟨σ', H', J, q⟩ := z; exact ⟨σ', H', inv_back J, q⟩
    | cont => obtain ⟨σ', H', J, q⟩ := z; exact ⟨σ', H', inv_back J, q⟩
    | ret u => obtain ⟨v, σ', H', J, r, q⟩ := z; exact ⟨v, σ', H', inv_back J, r, q⟩) fun _ _ z => z.elim
/-- a if c else b -/
theorem petif {c a b : Expr} {tc : TT} {ta tb : TE} {pos : Pos} (hc : PT X c tc) (ha : PET X a ta) (hb : PET X b tb) : PET X (.IfExp c a b pos) (uIfE tc ta tb) := by
  intro pins s σ H Q tok I h
  refine wpAny_IfExp (wpAny_mono (PySem.wpAny_toks_of tok (hc.run pins s σ H _ I h)) (fun d s1 z => ?_) fun _ _ z => z.2)
  obtain ⟨tok1, H1, I1, q1⟩ := z
  cases d with
  | true =>
    rw [if_pos rfl]
    exact ha pins s1 σ H1 Q tok1 I1 q1
  | false =>
    rw [if_neg Bool.false_ne_true]
    exact hb pins s1 σ H1 Q tok1 I1 q1
end
section
variable {P : Program} {w : World} {K : PySem.W.Frag} {mg : Str → Option Value} {base : Heap} {x qual : Str} {params : Arguments} {body : List Stmt} {scope : Scope} {dvs : List V} {kws : List (Str × V)} {f : Addr} {fd : FuncData}
/-- a def with parameters and without cells: a token is out when its body begins -/
theorem fnok_T {N ps : List Str} {k : Nat} {sp : Sp} (F : FunD K x qual params body scope dvs kws f fd) (S : FnScope N ps scope) (hnc : ∀ y ∈ scope.names, y.2 ≠ .cell) (hps : 1 ≤ ps.length) (len : ∀ vs H Q E, sp vs H Q E → vs.length = ps.length)
    (hb : ∀ (cdv : Value) (A : Around) (outer : List Env) (s : Shared) (H : Hp) (vs : List V) (Q : VK) (E : XK), Room k (A.deeper (envOfC qual scope s.heap.objs.size f cdv)) → sp vs H Q E →
      ∃ t, PSsT (cxOf CX0 P w K mg base N qual scope f cdv A outer s H E).nox body t ∧ t { nx := fun _ H' => Q .non H', rt := Q } (start N vs) H) : FnOk P w K mg base CX0 (k + 1) f fd ps sp := by
  obtain ⟨oc, od, dV, kV, doc, pm, an, cdv, ct, osl, efd, look, code, _, _⟩ := F.ex
  subst efd
  refine fn_ofT look code S hnc hps len fun A outer s H vs Q E room want => ?_
  obtain ⟨t, d, q⟩ := hb cdv A outer s H vs Q E room want
  exact ⟨t, psst_nox d, q⟩
end
end Sk
/-! Sk: texts in order; data as trees; their literals -/
namespace Sk
open PySem PySem.Spec PyProof.Rows L2
/-! ### the order of texts -/
def leT (a b : Str) : Prop := ltCps b.cps.toList a.cps.toList = false
theorem lt_irr : ∀ a : List Nat, ltCps a a = false
  | [] => rfl
  | x :: r => by
    show (decide (x < x) || (x == x && ltCps r r)) = false
    rw [lt_irr r]
    simp
theorem lt_asym : ∀ a b : List Nat, ltCps a b = true → ltCps b a = false
  | [], [], h => rfl
  | [], _ :: _, h => rfl
  | _ :: _, [], h => by cases h
  | x :: r, y :: t, h => by
    have h : (decide (x < y) || (x == y && ltCps r t)) = true := h
    show (decide (y < x) || (y == x && ltCps t r)) = false
    rw [Bool.or_eq_true, Bool.and_eq_true] at h
    rcases h with h | ⟨h1, h2⟩
    · have h := of_decide_eq_true h
      rw [decide_eq_false (by omega), beq_eq_false_iff_ne.mpr (by omega)]
      rfl
    · have e : x = y := by simpa using h1
      subst e
      rw [lt_asym r t h2]
      simp
theorem le_anti : ∀ a b : List Nat, ltCps a b = false → ltCps b a = false → a = b
  | [], [], _, _ => rfl
  | [], _ :: _, h, _ => by cases h
  | _ :: _, [], _, h => by cases h
  | x :: r, y :: t, h1, h2 => by
    have h1 : (decide (x < y) || (x == y && ltCps r t)) = false := h1
    have h2 : (decide (y < x) || (y == x && ltCps t r)) = false := h2
    rw [Bool.or_eq_false_iff] at h1 h2
    have e : x = y := by
      have := of_decide_eq_false h1.1
      have := of_decide_eq_false h2.1
      omega
    subst e
    have a1 : ltCps r t = false := by simpa using h1.2
    have a2 : ltCps t r = false := by simpa using h2.2
    rw [le_anti r t a1 a2]
theorem le_trans' : ∀ a b c : List Nat, ltCps b a = false → ltCps c b = false → ltCps c a = false
  | [], _, [], _, _ => rfl
  | [], [], _ :: _, _, _ => rfl
  | [], _ :: _, _ :: _, _, _ => rfl
  | _ :: _, [], _, h, _ => by cases h
  | _ :: _, _ :: _, [], _, h => by cases h
  | x :: r, y :: t, z :: u, h1, h2 => by
    have h1 : (decide (y < x) || (y == x && ltCps t r)) = false := h1
    have h2 : (decide (z < y) || (z == y && ltCps u t)) = false := h2
    show (decide (z < x) || (z == x && ltCps u r)) = false
    rw [Bool.or_eq_false_iff] at h1 h2
    have l1 := of_decide_eq_false h1.1
    have l2 := of_decide_eq_false h2.1
    rw [decide_eq_false (by omega)]
    by_cases e : z = x
    · have e1 : y = x := by omega
      subst e e1
      have a1 : ltCps t r = false := by simpa using h1.2
      have a2 : ltCps u t = false := by simpa using h2.2
      rw [le_trans' r t u a1 a2]
      simp
    · rw [beq_eq_false_iff_ne.mpr e]
      rfl
theorem rising_pw : ∀ (p : Str) (l : List Str), risingS p l = true → (p :: l).Pairwise leT
  | p, [], _ => by simp
  | p, x :: r, h => by
    have h : (!ltCps x.cps.toList p.cps.toList && risingS x r) = true := h
    rw [Bool.and_eq_true] at h
    have ih := rising_pw x r h.2
    have h0 : leT p x := by simpa [leT] using h.1
    refine List.pairwise_cons.mpr ⟨fun y hy => ?_, ih⟩
    rcases List.mem_cons.mp hy with e | e
    · rw [e]; exact h0
    · exact le_trans' _ _ _ h0 ((List.pairwise_cons.mp ih).1 y e)
theorem sorted_pw {l : List Str} (h : sortedS l = true) : l.Pairwise leT := by
  cases l with
  | nil => exact List.Pairwise.nil
  | cons x r => exact rising_pw x r h
def insS (x : Str) : List Str → List Str
  | [] => [x]
  | y :: r => if ltCps y.cps.toList x.cps.toList = true then y :: insS x r else x :: y :: r
def sortN : List Str → List Str
  | [] => []
  | x :: r => insS x (sortN r)
theorem ins_perm (x : Str) : ∀ l, (insS x l).Perm (x :: l)
  | [] => List.Perm.refl _
  | y :: r => by
    unfold insS
    split
    · exact ((ins_perm x r).cons y).trans (List.Perm.swap ..)
    · exact List.Perm.refl _
theorem sort_perm : ∀ l, (sortN l).Perm l
  | [] => List.Perm.refl _
  | x :: r => (ins_perm x _).trans ((sort_perm r).cons x)
theorem ins_pw (x : Str) : ∀ l, l.Pairwise leT → (insS x l).Pairwise leT
  | [], _ => by simp [insS]
  | y :: r, h => by
    have h1 := List.pairwise_cons.mp h
    unfold insS
    split
    · rename_i c
      refine List.pairwise_cons.mpr ⟨fun z hz => ?_, ins_pw x r h1.2⟩
      rcases List.mem_cons.mp ((ins_perm x r).mem_iff.mp hz) with e | e
      · rw [e]
        exact lt_asym _ _ c
      · exact h1.1 z e
    · rename_i c
      have c : leT x y := by
        unfold leT
        cases q : ltCps y.cps.toList x.cps.toList with
        | true => exact absurd q c
        | false => rfl
      refine List.pairwise_cons.mpr ⟨fun z hz => ?_, h⟩
      rcases List.mem_cons.mp hz with e | e
      · rw [e]; exact c
      · exact le_trans' _ _ _ c (h1.1 z e)
theorem sort_pw : ∀ l, (sortN l).Pairwise leT
  | [] => List.Pairwise.nil
  | x :: r => ins_pw x _ (sort_pw r)
theorem pw_eq : ∀ {l m : List Str}, l.Perm m → l.Pairwise leT → m.Pairwise leT → l = m
  | [], m, p, _, _ => (List.nil_perm.mp p).symm
  | x :: l, [], p, _, _ => by have := p.length_eq; cases this
  | x :: l, y :: m, p, h1, h2 => by
    have a1 := List.pairwise_cons.mp h1
    have a2 := List.pairwise_cons.mp h2
    have e : x = y := by
      have hx : x ∈ y :: m := p.subset (List.mem_cons_self ..)
      have hy : y ∈ x :: l := p.symm.subset (List.mem_cons_self ..)
      rcases List.mem_cons.mp hx with e | hx
      · exact e
      rcases List.mem_cons.mp hy with e | hy
      · exact e.symm
      exact str_ext (le_anti _ _ (a2.1 x hx) (a1.1 y hy))
    subst e
    rw [pw_eq (List.Perm.cons_inv p) a1.2 a2.2]
theorem sorted_is {ys zs : List Str} (p : ys.Perm zs) (h : sortedS ys = true) : ys = sortN zs := pw_eq (p.trans (sort_perm zs).symm) (sorted_pw h) (sort_pw zs)
theorem sort_of_perm {ys zs : List Str} (p : ys.Perm zs) : sortN ys = sortN zs := pw_eq (((sort_perm ys).trans p).trans (sort_perm zs).symm) (sort_pw ys) (sort_pw zs)
end Sk
/-! Sk: walks of any kind in comprehensions; the literals of data; escapes -/
namespace Sk
open PySem PySem.Spec PyProof.Rows L2
section
variable {R : Hp → Hp → Prop} {J : Hp → Prop} {D : Addr} {H1 : Hp}
/-- [e for x in it], any walk -/
theorem lcw {Jt : It} {n : Nat} {G : Hp → Prop} {Y : Nat → Hp → V → Hp → Prop} (w : Walk Jt n G Y) {g : TG} {te : TE} {vs : List Nat} {σ : L2.St} {Qd : Hp → Prop} (F : Fr R J D) (Pp : Nat → V → Hp → Prop) (hp : J H1) (hD : H1 D = none) (hn : n < 100000)
    (gm : ∀ x σ H (k k' : L2.St → Hp → Prop), (∀ σ2 H2, k σ2 H2 → k' σ2 H2) → g x σ H k → g x σ H k')
    (hS : ∀ H, J H → R H1 H → G H)
    (mono : ∀ i v H H', Pp i v H → Stay H H' → Pp i v H')
    (turn : ∀ (i : Nat) x H H', i < n → J H → R H1 H → Y i H x H' → g x (wipe σ vs) H' (fun σ2 H2 => wipe σ2 vs = wipe σ vs ∧ te σ2 H2 (fun y H4 => J H4 ∧ R H H4 ∧ Pp i y H4)))
    (hd : ∀ H ys, J H → R H1 H → ys.length = n → H D = some (.lst ys) → (∀ (i : Nat) (y : V), ys[i]? = some y → Pp i y H) → Qd H) :
    ∃ W : Nat → Nat → Hp → Prop, (∃ m, W 0 m (upd H1 D (.lst []))) ∧ ∀ i m H, W i m H →
      (Jt.stop i H ∧ Qd H) ∨ (Jt.go i H ∧ ∃ Nx : Hp → Prop, (∀ H', Nx H' → ∃ m', m' < m ∧ W (i + 1) m' H') ∧ ∀ x H', Jt.yld i H x H' → g x (wipe σ vs) H' fun σ2 H2 => wipe σ2 vs = wipe σ vs ∧ tYes σ2 H2 fun b H3 =>
        if b = true then upE te σ2 H3 fun y H4 => ∃ acc, H4 D = some (.lst acc) ∧ acc.length < sizeLine ∧ Nx (upd H4 D (.lst (acc ++ [y]))) else Nx H3) := by
  refine lc_it w (accP R J Pp D H1) (acc_start F hp hD) (fun i H _ hv => hS H hv.1 hv.2.1) (fun i x H H' hi hv y => ?_) (fun H hv => ?_)
  · refine gm x _ _ _ _ (fun σ2 H2 z => ⟨z.1, ?_⟩) (turn i x H H' hi hv.1 hv.2.1 y)
    dsimp only [tYes]
    rw [if_pos rfl]
    exact ⟨_, fun y H4 z => acc_turn F hD mono (by omega) hv z, z.2⟩
  · obtain ⟨p1, k1, ys, l1, e1, q1⟩ := hv
    exact hd H ys p1 k1 l1 e1 q1
theorem gm_name {j : Nat} : ∀ x σ H (k k' : L2.St → Hp → Prop), (∀ σ2 H2, k σ2 H2 → k' σ2 H2) → gName j x σ H k → gName j x σ H k' := fun _ _ _ _ _ h q => h _ _ q
end
theorem strs_ofP {P : Str → Prop} {ys : List V} (h : ∀ (i : Nat) (y : V), ys[i]? = some y → ∃ z, y = V.str z ∧ P z) : ∃ zs : List Str, ys = zs.map V.str ∧ ∀ z ∈ zs, P z := by
  induction ys with
  | nil => exact ⟨[], rfl, fun z hz => by cases hz⟩
  | cons y r ih =>
    obtain ⟨z, e, hz⟩ := h 0 y rfl
    obtain ⟨zs, e2, h2⟩ := ih fun i y hy => h (i + 1) y (by simpa using hy)
    refine ⟨z :: zs, by rw [e, e2]; rfl, fun x hx => ?_⟩
    rcases List.mem_cons.mp hx with q | q
    · rw [q]; exact hz
    · exact h2 x q
/-! ### the literal of a value -/
def rep4 (z : Str) : Str := Txt.replace (Txt.replace (Txt.replace (Txt.replace z "\\" "\\\\") "\"" "\\\"") "\n" "\\n") "<" "\\l"
def litF : V → Str
  | .non => "null"
  | .bl b => if b then "true" else "false"
  | .int i => Str.ofString (toString i)
  | .str z => "\"" ++ rep4 z ++ "\""
  | _ => ""
def rowL (w z : Str) : Str := "\"" ++ w ++ "\":" ++ z
def nms (kvs : List (Key × V)) : List Str := kvs.filterMap fun p => match p.1 with | .inr w => some w | _ => none
def litH (H : Hp) : Nat → V → Str
  | 0, v => litF v
  | n + 1, v => match v with
    | .ref a => match H a with
      | some (.tup vs) => "[" ++ Txt.join "," (vs.map (litH H n)) ++ "]"
      | some (.dK kvs) => "{" ++ Txt.join "," ((sortN (nms kvs)).map fun w => rowL w (litH H n ((valV kvs (.inr w)).getD .non))) ++ "}"
      | _ => ""
    | v => litF v
theorem lit_flat {H : Hp} {v : V} (h : FlatOk v) : ∀ n, litH H n v = litF v
  | 0 => rfl
  | _ + 1 => by cases v <;> first | rfl | exact h.elim
theorem lit_tup {H : Hp} {n : Nat} {a : Addr} {vs : List V} (h : H a = some (.tup vs)) : litH H (n + 1) (.ref a) = "[" ++ Txt.join "," (vs.map (litH H n)) ++ "]" := by
  show (match H a with | some (.tup vs) => _ | some (.dK kvs) => _ | _ => _) = _
  rw [h]
theorem lit_dict {H : Hp} {n : Nat} {a : Addr} {kvs : List (Key × V)} (h : H a = some (.dK kvs)) :
    litH H (n + 1) (.ref a) = "{" ++ Txt.join "," ((sortN (nms kvs)).map fun w => rowL w (litH H n ((valV kvs (.inr w)).getD .non))) ++ "}" := by
  show (match H a with | some (.tup vs) => _ | some (.dK kvs) => _ | _ => _) = _
  rw [h]
theorem nms_keys {kvs : List (Key × V)} (h : ∀ p ∈ kvs, ∃ w, p.1 = .inr w ∧ NameOk w) : kvs.map (·.1) = (nms kvs).map Sum.inr := by
  induction kvs with
  | nil => rfl
  | cons p r ih =>
    obtain ⟨w, e, _⟩ := h p (List.mem_cons_self ..)
    obtain ⟨k, v⟩ := p
    have e : k = .inr w := e
    subst e
    show Sum.inr w :: r.map (·.1) = Sum.inr w :: (nms r).map Sum.inr
    rw [ih fun p hp => h p (List.mem_cons_of_mem _ hp)]
theorem nms_len {kvs : List (Key × V)} (h : ∀ p ∈ kvs, ∃ w, p.1 = .inr w ∧ NameOk w) : (nms kvs).length = kvs.length := by
  have := congrArg List.length (nms_keys h)
  rw [List.length_map, List.length_map] at this
  exact this.symm
theorem val_in {kvs : List (Key × V)} {w : Str} (h : w ∈ nms kvs) : ∃ p ∈ kvs, p.1 = .inr w := by
  unfold nms at h
  obtain ⟨p, hp, e⟩ := List.mem_filterMap.mp h
  refine ⟨p, hp, ?_⟩
  split at e
  · rename_i e2
    cases e
    exact e2
  · cases e
theorem val_mem {kvs : List (Key × V)} {k : Key} {v : V} (h : valV kvs k = some v) : ∃ p ∈ kvs, p.2 = v := by
  unfold valV at h
  obtain ⟨p, hp, e⟩ := Option.map_eq_some_iff.mp h
  exact ⟨p, List.mem_of_find?_eq_some hp, e⟩
theorem val_some {kvs : List (Key × V)} {w : Str} (h : w ∈ nms kvs) : ∃ v, valV kvs (.inr w) = some v ∧ ∃ p ∈ kvs, p.2 = v := by
  obtain ⟨p, hp, e⟩ := val_in h
  cases q : valV kvs (.inr w) with
  | none =>
    have : kvs.any (fun p => decide (p.1 = .inr w)) = false := by rw [valV_any, q]; rfl
    have h2 := List.any_eq_false.mp this p hp
    rw [e] at h2
    simp at h2
  | some v => exact ⟨v, rfl, val_mem q⟩
theorem mem_sort {w : Str} {l : List Str} : w ∈ sortN l ↔ w ∈ l := (sort_perm l).mem_iff
theorem val_get {kvs : List (Key × V)} {w : Str} {P : V → Prop} (h : w ∈ sortN (nms kvs)) (hp : ∀ p ∈ kvs, P p.2) : P ((valV kvs (.inr w)).getD .non) := by
  obtain ⟨v, e, p, hp', e2⟩ := val_some (mem_sort.mp h)
  rw [e]
  show P v
  rw [← e2]
  exact hp p hp'
theorem lit_stay {H H' : Hp} (s : Stay H H') : ∀ (n : Nat) (v : V), GoodV H n v → litH H' n v = litH H n v
  | 0, _, _ => rfl
  | n + 1, v, h => by
    rcases h with h | ⟨a, vs, e, h1, h2, h3⟩ | ⟨a, kvs, e, h1, h2, h3⟩
    · rw [lit_flat h, lit_flat h]
    · subst e
      rw [lit_tup h1, lit_tup (s _ _ rfl h1), List.map_congr_left fun x hx => lit_stay s n x (h3 x hx)]
    · subst e
      rw [lit_dict h1, lit_dict (s _ _ rfl h1)]
      congr 3
      refine List.map_congr_left fun w hw => ?_
      rw [val_get (P := fun v => litH H' n v = litH H n v) hw fun p hp => lit_stay s n p.2 (h3 p hp)]
theorem lit_up {H : Hp} : ∀ (n : Nat) (v : V), GoodV H n v → litH H (n + 1) v = litH H n v
  | 0, v, h => by rw [lit_flat (show FlatOk v from h), lit_flat (show FlatOk v from h)]
  | n + 1, v, h => by
    rcases h with h | ⟨a, vs, e, h1, h2, h3⟩ | ⟨a, kvs, e, h1, h2, h3⟩
    · rw [lit_flat h, lit_flat h]
    · subst e
      rw [lit_tup h1, lit_tup h1, List.map_congr_left fun x hx => lit_up n x (h3 x hx)]
    · subst e
      rw [lit_dict h1, lit_dict h1]
      congr 3
      refine List.map_congr_left fun w hw => ?_
      rw [val_get (P := fun v => litH H (n + 1) v = litH H n v) hw fun p hp => lit_up n p.2 (h3 p hp)]
/-! ### nothing contains itself -/
theorem GoodV.le {H : Hp} {v : V} {m n : Nat} (h : m ≤ n) (g : GoodV H m v) : GoodV H n v := by
  induction h with
  | refl => exact g
  | step _ ih => exact GoodV.up _ _ ih
theorem good_hide {H : Hp} {d : Addr} {m : Nat} (hm : ∀ k, k < m → ¬ GoodV H k (.ref d)) : ∀ (k : Nat) (v : V), k < m → GoodV H k v → GoodV (hide d H) k v
  | 0, _, _, h => h
  | k + 1, v, hk, h => by
    have ne : v ≠ .ref d := fun e => hm (k + 1) hk (e ▸ h)
    rcases h with h | ⟨a, vs, e, h1, h2, h3⟩ | ⟨a, kvs, e, h1, h2, h3⟩
    · exact .inl h
    · have na : a ≠ d := fun z => ne (by rw [e, z])
      exact .inr (.inl ⟨a, vs, e, by rw [hide_ne na]; exact h1, h2, fun x hx => good_hide hm k x (by omega) (h3 x hx)⟩)
    · have na : a ≠ d := fun z => ne (by rw [e, z])
      exact .inr (.inr ⟨a, kvs, e, by rw [hide_ne na]; exact h1, h2, fun p hp => good_hide hm k p.2 (by omega) (h3 p hp)⟩)
theorem good_part {H : Hp} {d : Addr} {kvs : List (Key × V)} (hd : H d = some (.dK kvs)) : ∀ n, GoodV H (n + 1) (.ref d) → ∀ p ∈ kvs, GoodV (hide d H) n p.2 := by
  intro n
  induction n with
  | zero =>
    intro h p hp
    rcases h with h | ⟨a, vs, e, h1, h2, h3⟩ | ⟨a, ws, e, h1, h2, h3⟩
    · exact h.elim
    · cases e; rw [hd] at h1; cases h1
    · cases e; rw [hd] at h1; cases h1; exact h3 p hp
  | succ n ih =>
    intro h p hp
    by_cases q : GoodV H (n + 1) (.ref d)
    · exact GoodV.up _ _ (ih q p hp)
    · have hm : ∀ k, k < n + 2 → ¬ GoodV H k (.ref d) := fun k hk g => q (GoodV.le (by omega) g)
      rcases h with h | ⟨a, vs, e, h1, h2, h3⟩ | ⟨a, ws, e, h1, h2, h3⟩
      · exact h.elim
      · cases e; rw [hd] at h1; cases h1
      · cases e; rw [hd] at h1; cases h1; exact good_hide hm _ _ (by omega) (h3 p hp)
/-! ### how long a literal is -/
def litS : Nat → Nat
  | 0 => 2100
  | n + 1 => 3 * litS n + 60
theorem litS_le : ∀ n, litS n ≤ litS (n + 1) := fun n => by show litS n ≤ 3 * litS n + 60; omega
theorem litS_mono {m n : Nat} (h : m ≤ n) : litS m ≤ litS n := by
  induction h with
  | refl => exact Nat.le_refl _
  | step _ ih => exact Nat.le_trans ih (litS_le _)
theorem rep_le {z a b : Str} {m k : Nat} (hz : z.length ≤ m) (hb : b.length ≤ k) : (Txt.replace z a b).length ≤ m + (m + 1) * k :=
  Nat.le_trans (TK.replace_len z a b) (Nat.add_le_add hz (Nat.mul_le_mul (Nat.succ_le_succ hz) hb))
theorem rep4_len {z : Str} (h : z.length ≤ 24) : (rep4 z).length ≤ 2024 := rep_le (m := 674) (k := 2) (rep_le (m := 224) (k := 2) (rep_le (m := 74) (k := 2) (rep_le (m := 24) (k := 2) h (by decide)) (by decide)) (by decide)) (by decide)
theorem int_log {i : Int} (h : i.natAbs ≤ 10 ^ 30) : i.natAbs.log2 < 1920 := by
  by_cases z : i.natAbs = 0
  · rw [z]; decide
  · exact (Nat.log2_lt z).mpr (Nat.lt_of_le_of_lt h (by decide +kernel))
theorem litF_len {v : V} (h : FlatOk v) : (litF v).length ≤ 2100 := by
  cases v with
  | non => show (Str.ofString "null").length ≤ 2100; decide
  | bl b => cases b <;> decide
  | int i => exact Nat.le_trans (int_text_len_1921 (int_log h)) (by decide)
  | str z =>
    show (("\"" : Str) ++ rep4 z ++ "\"").length ≤ 2100
    have := rep4_len h.1
    rw [app_len, app_len]
    show 1 + (rep4 z).length + 1 ≤ 2100
    omega
  | _ => exact h.elim
theorem join_le (y : Str) (zs : List Str) : (Txt.join y zs).length ≤ (zs.map (·.length)).sum + zs.length * y.length := by rw [TL.join_eq]; exact StrLaws.join_length_le y zs
theorem sum_le {α : Type} {l : List α} {f : α → Nat} {m : Nat} (h : ∀ x ∈ l, f x ≤ m) : (l.map f).sum ≤ l.length * m := by
  induction l with
  | nil => exact Nat.zero_le _
  | cons a r ih =>
    rw [List.map_cons, List.sum_cons, List.length_cons, Nat.succ_mul]
    have := ih fun x hx => h x (List.mem_cons_of_mem _ hx)
    have := h a (List.mem_cons_self ..)
    omega
theorem row_len {w z : Str} {m : Nat} (hw : w.length ≤ 12) (hz : z.length ≤ m) : (rowL w z).length ≤ m + 15 := by
  unfold rowL
  rw [app_len, app_len, app_len]
  show 1 + w.length + 2 + z.length ≤ m + 15
  omega
theorem lit_len {H : Hp} : ∀ (n : Nat) (v : V), GoodV H n v → (litH H n v).length ≤ litS n
  | 0, _, h => litF_len h
  | n + 1, v, h => by
    have low := litS_mono (Nat.zero_le n)
    rcases h with h | ⟨a, vs, e, h1, h2, h3⟩ | ⟨a, kvs, e, h1, h2, h3⟩
    · rw [lit_flat h]
      exact Nat.le_trans (litF_len h) (litS_mono (Nat.zero_le (n + 1)))
    · subst e
      rw [lit_tup h1, app_len, app_len]
      have a1 := join_le "," (vs.map (litH H n))
      rw [List.map_map, List.length_map] at a1
      have a2 : (vs.map ((fun z : Str => z.length) ∘ litH H n)).sum ≤ vs.length * litS n := sum_le fun x hx => lit_len n x (h3 x hx)
      have a3 : vs.length * litS n ≤ 3 * litS n := Nat.mul_le_mul_right _ h2
      have e1 : ("," : Str).length = 1 := rfl
      rw [e1] at a1
      show 1 + (Txt.join "," (vs.map (litH H n))).length + 1 ≤ 3 * litS n + 60
      omega
    · subst e
      rw [lit_dict h1, app_len, app_len]
      have nl := nms_len h2.2.2
      have sl : (sortN (nms kvs)).length = kvs.length := (sort_perm _).length_eq.trans nl
      have a1 := join_le "," ((sortN (nms kvs)).map fun w => rowL w (litH H n ((valV kvs (.inr w)).getD .non)))
      rw [List.map_map, List.length_map, sl] at a1
      have a2 : ((sortN (nms kvs)).map ((fun z : Str => z.length) ∘ fun w => rowL w (litH H n ((valV kvs (.inr w)).getD .non)))).sum ≤ (sortN (nms kvs)).length * (litS n + 15) := sum_le fun w hw => by
        refine row_len ?_ (val_get (P := fun v => (litH H n v).length ≤ litS n) hw fun p hp => lit_len n p.2 (h3 p hp))
        obtain ⟨p, hp, e⟩ := val_in (mem_sort.mp hw)
        obtain ⟨w', e', ok⟩ := h2.2.2 p hp
        rw [e] at e'
        cases e'
        exact ok.2.1
      rw [sl] at a2
      have a3 : kvs.length * (litS n + 15) ≤ 3 * (litS n + 15) := Nat.mul_le_mul_right _ h2.1
      have e1 : ("," : Str).length = 1 := rfl
      rw [e1] at a1
      have l3 := h2.1
      show 1 + (Txt.join "," ((sortN (nms kvs)).map fun w => rowL w (litH H n ((valV kvs (.inr w)).getD .non)))).length + 1 ≤ 3 * litS n + 60
      omega
theorem litS6 {n : Nat} (h : n ≤ 6) : litS n ≤ 2000000 := Nat.le_trans (litS_mono h) (by decide)
end Sk
namespace Sk
open PySem PySem.Spec PyProof.Rows L2
def uIfT (t ta tb : TT) : TT := fun σ H Q => t σ H fun c H1 => br c (ta σ H1 Q) (tb σ H1 Q)
section
variable {X : Cx}
/-- a if c else b, as a test -/
theorem tif {c a b : Expr} {tc ta tb : TT} {pos : Pos} (hc : PT X c tc) (ha : PT X a ta) (hb : PT X b tb) : PT X (.IfExp c a b pos) (uIfT tc ta tb) := by
  refine ⟨fun pins s σ H Q I h => isTrue_IfExp (thn (hc.run pins s σ H _ I h) fun d s1 z => ?_)⟩
  obtain ⟨H1, I1, q1⟩ := z
  cases d with
  | true => exact ha.run pins s1 σ H1 Q I1 q1
  | false => exact hb.run pins s1 σ H1 Q I1 q1
end
theorem map_of {α : Type} {ys : List V} {xs : List α} {f : α → V} (hl : ys.length = xs.length) (h : ∀ (i : Nat) (y : V), ys[i]? = some y → ∃ x, xs[i]? = some x ∧ y = f x) : ys = xs.map f := by
  refine List.ext_getElem? fun i => ?_
  rw [List.getElem?_map]
  cases e : ys[i]? with
  | none =>
    have : xs[i]? = none := by
      rw [List.getElem?_eq_none_iff] at e ⊢
      omega
    rw [this]
    rfl
  | some y =>
    obtain ⟨x, hx, rfl⟩ := h i y e
    rw [hx]
    rfl
theorem emp_app (x : Str) : Str.empty ++ x = x := str_ext (by rw [app_list]; rfl)
theorem keys_str {kvs : List (Key × V)} (h : ∀ p ∈ kvs, ∃ w, p.1 = .inr w ∧ NameOk w) : kvs.map (fun p => kV p.1) = (nms kvs).map V.str := by
  have e := congrArg (List.map kV) (nms_keys h)
  rw [List.map_map, List.map_map] at e
  exact e
/-- sorted([k for k in d]) -/
theorem sort_keys {K : PySem.W.Frag} {σ : L2.St} {H : Hp} {a : Addr} {kvs : List (Key × V)} {i j : Nat} {Q : VK} (h0 : H a = some (.dK kvs)) (dk : DictOk kvs)
    (hv : ∀ Hx (k : VK), k (.ref a) Hx → uVar i σ Hx k) (hx : ∀ x Hx (k : VK), k x Hx → uVar j ((wipe σ [j]).set j (some x)) Hx k) (hw : ∀ x, wipe ((wipe σ [j]).set j (some x)) [j] = wipe σ [j])
    (q : ∀ p H', Same H H' → H' p = some (.lst ((sortN (nms kvs)).map V.str)) → Q (.ref p) H') :
    tCB (rSortedS K) (tCons (tLockE (tLc (iKeys (uVar i)) (gName j) tYes (upE (uVar j)) [j])) tNil) σ H Q := by
  refine ⟨a, _, h0, trivial, fun od => ?_⟩
  dsimp only [tLc, iKeys]
  refine hv _ _ ?_
  refine ⟨a, od, rfl, .inl ⟨kvs, upd_same, fun D nD => ?_⟩⟩
  have nDa := (upd_none nD).1
  have lk := dk.1
  have hf : upd H a (.frz od (.dK kvs)) a = some (.frz od (.dK kvs)) := upd_same
  refine lcw walk_keys fr_same (fun i v _ => ∃ p, kvs[i]? = some p ∧ v = kV p.1) trivial nD (by omega) gm_name (fun H1 _ s1 => s1 _ _ hf) (fun _ _ _ _ h _ => h) (fun i x H1 H1' hi _ s1 hy => ?_) (fun H1 ys _ s1 l1 e1 q1 => ?_)
  · obtain ⟨rfl, k0, v0, hk, rfl⟩ := hy
    refine ⟨hw _, hx _ _ _ ?_⟩
    exact ⟨trivial, Same.refl _, (k0, v0), hk, rfl⟩
  · have e := map_of (f := fun p : Key × V => kV p.1) l1 q1
    rw [keys_str dk.2.2] at e
    subst e
    have f1 := s1 _ _ hf
    have nl := nms_len dk.2.2
    refine ⟨f1, D, nms kvs, rfl, sqL_of ((upd_ne nDa).trans e1), by omega, fun ys p perm srt np => ?_⟩
    rw [sorted_is perm srt]
    refine q _ _ (Same.trans ?_ (same_new np)) upd_same
    intro b o hb
    by_cases z : b = a
    · subst z
      rw [upd_same, ← h0]
      exact hb
    · rw [upd_ne z]
      refine s1 b o ?_
      rw [upd_ne z]
      exact hb
end Sk
/-! Sk: repr of data; defs that are called where no repr is under way -/
namespace Sk
open PySem PySem.Spec PyProof.Rows L2
/-- a def keeps its promise, called where no repr is under way -/
structure FnG (P : Program) (w : World) (K : PySem.W.Frag) (mg : Str → Option Value) (base : Heap) (k : Nat) (f : Addr) (fd : FuncData) (ps : List Str) (sp : Sp) : Prop where
  len : ∀ vs H Q E, sp vs H Q E → vs.length = ps.length
  run : ∀ (A : Around) (outer : List Env) (s : Shared) (H : Hp) (args : Args) (us : List Value) (vs : List V) (Q : VK) (E : XK), A.guards = some [] → Room k A → Env0 P w K mg base A outer s H → BindsTo s fd args (ps.zip us) → Vals vs us → sp vs H Q E →
    codeAny (model P w) A (.call (.ref f) args) (CR CX0 outer P w H s Q E) s
section
variable {P : Program} {w : World} {K : PySem.W.Frag} {mg : Str → Option Value} {base : Heap} {x qual : Str} {params : Arguments} {body : List Stmt} {scope : Scope} {dvs : List V} {kws : List (Str × V)} {f : Addr} {fd : FuncData}
theorem FnG.of {k : Nat} {ps : List Str} {sp : Sp} (F : FnOk P w K mg base CX0 k f fd ps sp) : FnG P w K mg base k f fd ps sp := ⟨F.len, fun A outer s H args us vs Q E _ => F.run A outer s H args us vs Q E⟩
theorem fnG_of {N ps : List Str} {k : Nat} {sp : Sp} (F : FunD K x qual params body scope dvs kws f fd) (S : FnScope N ps scope) (len : ∀ vs H Q E, sp vs H Q E → vs.length = ps.length)
    (hb : ∀ (cdv : Value) (A : Around) (outer : List Env) (s : Shared) (H : Hp) (vs : List V) (Q : VK) (E : XK), (A.deeper (envOfC qual scope s.heap.objs.size f cdv)).guards = some [] → Room k (A.deeper (envOfC qual scope s.heap.objs.size f cdv)) → sp vs H Q E →
      ∃ t, PSs (cxOf CX0 P w K mg base N qual scope f cdv A outer s H E).nox body t ∧ t { nx := fun _ H' => Q .non H', rt := Q } (start N vs) H) : FnG P w K mg base (k + 1) f fd ps sp := by
  obtain ⟨oc, od, dV, kV, doc, pm, an, cdv, ct, osl, efd, look, code, _, _⟩ := F.ex
  subst efd
  refine ⟨len, fun A outer s H args us vs Q E gd room env bind rel want => ?_⟩
  have size := len _ _ _ _ want
  have inK : K.In s.heap := env.mod.kin.keeps fun b o e => (env.bs b o e).1
  have calm : s.heap.NoLimit := env.mod.nolimit.keeps fun b o e => (env.bs b o e).1
  have kinds : ∀ y ∈ ps.zip us, scope.names.lookup y.1 = some .local ∨ (scope.names.lookup y.1 = some .cell ∧ ((cellsFrom (s.heap.objs.size + 1) scope.names []).lookup y.1).isSome = true) := by
    rintro ⟨n, v⟩ hy
    cases S.par n (List.of_mem_zip hy).1 with
    | inl q => exact .inl q
    | inr q => exact .inr ⟨q, PySem.W.cellsFrom_some _ _ _ (.inl q)⟩
  refine codeAny_call_function room.depth (inK _ _ look) rfl S.co S.gen rfl (PySem.W.codeRec_of inK code) (bind _ _ _ _ ?_)
  refine wpAny_newFunctionEnv_cells S.kind kinds fun e1 he1 s1 inC => ?_
  subst he1
  obtain ⟨t, der, red⟩ := hb cdv A outer s H vs Q E gd (room.deeper _) want
  have inv : Inv (cxOf CX0 P w K mg base N qual scope f cdv A outer s H E) [] (start N vs) H s1 := inv_start S room.hd env size rel inC
  refine ⟨calm.keeps inC.toInCall.keep, codeAny_func (wpAny_mono (der.run [] s1 _ H _ (inv_nox inv) red) (fun fl s2 h2 => ?_) fun _ _ z => z.elim)⟩
  have back : ∀ {σ2 : L2.St} {H2 : Hp} {v : V} {u : Value}, Inv (cxOf CX0 P w K mg base N qual scope f cdv A outer s H E).nox [] σ2 H2 s2 → RelV v u → Q v H2 → CE outer P w H s Q u s2 := fun J r q => ⟨_, _, J.os, J.bare, J.base, J.hok, r, q⟩
  cases fl with
  | ret u => obtain ⟨v, σ2, H2, J, r, q⟩ := h2; exact back J r q
  | next => obtain ⟨σ2, H2, J, q⟩ := h2; exact back (u := Value.none) (v := V.non) J rfl q
  | brk => obtain ⟨_, _, _, q⟩ := h2; exact q.elim
  | cont => obtain ⟨_, _, _, q⟩ := h2; exact q.elim
end
section
variable {X : Cx}
/-- f(e, ..) -/
theorem pecallG {k : Nat} {f : Addr} {fd : FuncData} {ps : List Str} {sp : Sp} {y : Str} {e : Expr} {es : List Expr} {t : TA} {p pos : Pos} (F : FnG X.prog X.w X.K X.mg X.base k f fd ps sp) (gd : X.A.guards = some []) (hr : Room k X.A) (hg : Gl X y) (hm : X.mg y = some (.ref f)) (hk : PySem.W.keepIn X.K (.ref f) = true)
    (hb : Binds X.K fd ps []) (ha : PA X (e :: es) t) (hdb : (y == ("__debug__" : Str)) = false := by decide) (he : starEach (e :: es) X.env = (false, eval e X.env) :: starEach es X.env := by rfl) (hpl : (backTo pos (starEach es X.env)).any (·.1) = false := by rfl) :
    PE X (.Call (.Name y p) (e :: es) [] pos) (fun σ H Q => t σ H fun vs H1 => sp vs H1 Q E0) := by
  refine ⟨fun pins s σ H Q I h => ?_⟩
  refine wpAny_Call_Name_kw (ld_glob I hg hm ?_ hdb)
  refine PySem.W.callWith_K (h₀ := X.base) I.ok.mod.kin hk (thn (ha.run pos pins s σ H _ I h) fun us s1 z => ?_) he hpl
  obtain ⟨vs, H1, I1, r, q⟩ := z
  refine ⟨I1.kIn, ?_⟩
  have r2 : Vals vs (us ++ []) := by rw [List.append_nil]; exact r
  have size : (us ++ []).length = ps.length := by rw [← r2.length]; exact F.len _ _ _ _ q
  refine wpAny_call (codeAny_mono (F.run X.A X.stack s1 H1 ⟨us, []⟩ (us ++ []) vs Q E0 gd hr I1.env0 (hb s1 us I1.kIn size) r2 q) fun r s2 hq => ?_)
  cases r with
  | error e => exact hq.elim
  | ok fl =>
    cases fl with
    | ret u => exact I1.after hq
    | next => exact hq.elim
    | brk => exact hq.elim
    | cont => exact hq.elim
end
/-! ### data with dicts -/
mutual
inductive Dr (H : Hp) : V → PyData → Prop
  | non : Dr H .non .none
  | bl (b : Bool) : Dr H (.bl b) (.bool b)
  | int (i : Int) : Dr H (.int i) (.int i)
  | str (x : Str) : Dr H (.str x) (.str x)
  | tup {a : Addr} {xs : List V} {ds : List PyData} : H a = some (.tup xs) → DrAll H xs ds → Dr H (.ref a) (.tuple ds)
  | dic {a : Addr} {kvs : List (Key × V)} {ds : List (PyData × PyData)} : H a = some (.dK kvs) → DrAll H (kvs.map fun p => kV p.1) (ds.map (·.1)) → DrAll H (kvs.map (·.2)) (ds.map (·.2)) → Dr H (.ref a) (.dict ds)
inductive DrAll (H : Hp) : List V → List PyData → Prop
  | nil : DrAll H [] []
  | cons {v : V} {vs : List V} {d : PyData} {ds : List PyData} : Dr H v d → DrAll H vs ds → DrAll H (v :: vs) (d :: ds)
end
section
variable {X : Cx} {pins : List (Addr × Obj)} {σ : L2.St} {H : Hp} {s : Shared}
theorem key_rel {k : Key} {u : Value} (h : keyIs k u = true) : RelV (kV k) u := by
  rcases keyIs_shape h with ⟨i, t, rfl, rfl⟩ | ⟨x, t, rfl, rfl⟩
  · exact ⟨t, rfl⟩
  · exact ⟨t, rfl⟩
theorem pairs_vals {P : Program} {w : World} : ∀ {es : List DictEntry} {vs : List (Key × Value)} {kvs : List (Key × V)}, Pairs (mixKind P w) es vs → KV kvs vs → Vals (kvs.map fun p => kV p.1) (es.map (·.key)) ∧ Vals (kvs.map (·.2)) (es.map (·.val)) := by
  intro es vs kvs hp hk
  induction hp generalizing kvs with
  | nil =>
    cases hk
    exact ⟨.nil, .nil⟩
  | @cons e q es vs h1 h2 h3 ih =>
    cases hk with
    | cons r rs =>
      obtain ⟨i1, i2⟩ := ih rs
      refine ⟨.cons ?_ i1, .cons ?_ i2⟩
      · show RelV (kV _) _
        rw [r.1]
        exact key_rel h1
      · have e2 := r.2
        rw [← h2] at e2
        exact e2
mutual
theorem Dr.reads (I : Inv X pins σ H s) : ∀ {v : V} {d : PyData}, Dr H v d → ∀ u, RelV v u → ∃ as, Reads s.heap u d as ∧ sysModules ∉ as
  | _, _, .non, u, r => by
    cases r
    exact ⟨[], .none, by simp⟩
  | _, _, .bl b, u, r => by
    cases r
    exact ⟨[], .bool b, by simp⟩
  | _, _, .int i, u, r => by
    obtain ⟨t, rfl⟩ := r
    exact ⟨[], .int i t, by simp⟩
  | _, _, .str x, u, r => by
    obtain ⟨t, rfl⟩ := r
    exact ⟨[], .str x t, by simp⟩
  | _, _, .tup hs ha, u, r => by
    cases r
    obtain ⟨its, rv, ⟨o, ho, hc, n, hd⟩, _⟩ := I.tuple (sqT_of hs)
    obtain ⟨as, hr, hn⟩ := Dr.readsAll I ha its rv
    exact ⟨as, .tuple ho hc hd hr, hn⟩
  | _, _, .dic (a := a) hs hk hv, u, r => by
    cases r
    obtain ⟨_, ne, vs, kv, o, es, ep, ho, hx, hd, _, hp, _⟩ := dk_of I.hok hs
    obtain ⟨r1, r2⟩ := pairs_vals hp kv
    obtain ⟨as, q1, n1⟩ := Dr.readsAll I hk _ r1
    obtain ⟨bs, q2, n2⟩ := Dr.readsAll I hv _ r2
    refine ⟨a :: as ++ bs, .dict ho hx.1 hd q1 q2, fun z => ?_⟩
    have ne := beq_eq_false_iff_ne.mp ne
    rcases List.mem_append.mp z with z | z
    · rcases List.mem_cons.mp z with z | z
      · exact ne z.symm
      · exact n1 z
    · exact n2 z
theorem Dr.readsAll (I : Inv X pins σ H s) : ∀ {vs : List V} {ds : List PyData}, DrAll H vs ds → ∀ us, Vals vs us → ∃ as, ReadsAll s.heap us ds as ∧ sysModules ∉ as
  | _, _, .nil, us, r => by
    cases r
    exact ⟨[], .nil, by simp⟩
  | _, _, .cons h1 h2, us, r => by
    cases r with
    | cons r1 r2 =>
      obtain ⟨as, q1, n1⟩ := Dr.reads I h1 _ r1
      obtain ⟨bs, q2, n2⟩ := Dr.readsAll I h2 _ r2
      refine ⟨as ++ bs, .cons q1 q2, fun z => ?_⟩
      rcases List.mem_append.mp z with z | z
      · exact n1 z
      · exact n2 z
end
end
section
variable {X : Cx}
/-- repr(x): data of tuples and dicts; data of lists and tuples; numbers, texts -/
def rRepr (K : PySem.W.Frag) : List V → Hp → VK → Prop := fun xs H Q => match xs with
  | [.ref a] => ∃ d, (Dr H (.ref a) d ∨ (Dp K H (.ref a) d ∧ d.hasDict = false)) ∧ d.showable = true ∧ d.shown.length ≤ sizeLine ∧ d.depth ≤ 60 ∧ Q (.str d.shown) H
  | [.int i] => i.natAbs.log2 < 1920 ∧ Q (.str (toString i)) H
  | _ => False
theorem krepr (K : PySem.W.Frag) (gd : X.A.guards = some []) (hu : X.A.units + 64 < cLine) (h : X.K = K := by rfl) : CallR X (.builtin "repr") (rRepr K) := by
  subst h
  intro pins s σ H xs us Q I r q
  unfold rRepr at q
  split at q
  · rename_i a
    obtain ⟨d, hd, h1, h2, h3, q⟩ := q
    cases r with
    | @cons _ u _ us ru rs =>
    cases rs
    have e : u = Value.ref a := ru
    subst e
    have key : ∃ as, Reads s.heap (.ref a) d as ∧ (d.hasDict = true → sysModules ∉ as) := by
      rcases hd with hd | ⟨hd, hn⟩
      · obtain ⟨as, r1, n1⟩ := Dr.reads I hd _ (show RelV (.ref a) (.ref a) from rfl)
        exact ⟨as, r1, fun _ => n1⟩
      · obtain ⟨as, r1⟩ := Dp.reads I d _ _ hd (show RelV (.ref a) (.ref a) from rfl)
        exact ⟨as, r1, fun z => by rw [hn] at z; cases z⟩
    obtain ⟨as, r1, n1⟩ := key
    refine repr_of_reads' r1 h1 n1 gd (by omega) (fun _ _ e => e) (fun h' u tk k => ?_) h2
    exact ⟨.str d.shown, H, I.kept (t' := tk) k, ⟨u, rfl⟩, q⟩
  · exact SkE.call_repr_int pins s σ H _ us Q I r ⟨_, rfl, q⟩
  · exact q.elim
end
end Sk
/-! Sk: a law's end where no repr is under way -/
namespace Sk
open PySem PySem.Spec PyProof.Rows L2
/-- the heap in which the script alone is tracked, unless it is the module's own -/
theorem script_heap {K : PySem.W.Frag} {h : Heap} {a : Addr} {vs : List Value} {ns : List Int} (KX : K.In h) (ha : h.get? a = some { cls := .type "list", data := .seq vs.toArray }) (hi : IntsAre vs ns) (hl : ns.length ≤ sizeLine) :
    ∃ H : Hp, (∀ b, H b = none ∨ (b = a ∧ K.lookup a = none ∧ H b = some (.frz { cls := .type "list", data := .seq vs.toArray } (.lst (ns.map V.int))))) ∧ SqL K H a (ns.map V.int) := by
  have rv := vals_ints hi
  cases hk : K.lookup a with
  | none =>
    refine ⟨upd (fun _ => none) a (.frz { cls := .type "list", data := .seq vs.toArray } (.lst (ns.map V.int))), fun b => ?_, .inl (.inr ⟨_, upd_same⟩)⟩
    by_cases z : b = a
    · subst z
      exact .inr ⟨rfl, rfl, upd_same⟩
    · exact .inl (upd_ne z)
  | some o =>
    have e := KX a o hk
    rw [ha] at e
    cases e
    refine ⟨fun _ => none, fun b => .inl rfl, .inr ⟨_, vs.toArray, _, hk, rfl, rfl, rfl, ?_, by simpa using rv⟩⟩
    rw [List.size_toArray, hi.length]
    exact hl
theorem endG {P : Program} {w : World} {K : PySem.W.Frag} {mg mb : Str → Option Value} {k : Nat} {fa a : Addr} {fd : FuncData} {x : Str} {sp : Sp} {s : Shared} {vs : List Value} {ns : List Int}
    (KX : K.In s.heap) (gs : s.heap.Ns mainGlobals mg) (bs : s.heap.Ns builtinsNs mb) (boot : ∀ x : Str, x ≠ "__name__" → mb x = bootBuiltins x) (lim : s.heap.NoLimit) (gens : s.gens = #[])
    (ha : s.heap.get? a = some { cls := .type "list", data := .seq vs.toArray }) (hi : IntsAre vs ns) (hl : ns.length ≤ sizeLine) (room : Room k callerA)
    (F : ∀ base : Heap, K.In base → base.Ns mainGlobals mg → FnG P w K mg base k fa fd [x] sp) (bind : ∀ (s : Shared) (u : Value), BindsTo s fd ⟨[u], []⟩ [(x, u)])
    (want : ∀ H : Hp, SqL K H a (ns.map V.int) → sp [.ref a] H (fun v _ => v = .bl true) fun _ _ _ => False) :
    codeAny (model P w) callerA (.call (.ref fa) ⟨[.ref a], []⟩) (fun r s' => r = .ok (.ret (.bool true)) ∧ OldK s.heap s'.heap ∧ s'.os = s.os ∧ AllBare s'.gens) s := by
  obtain ⟨H, pH, pS⟩ := script_heap KX ha hi hl
  have free : ∀ {b : Addr} {o : Obj} {es : Array DictEntry} {ep : Nat}, s.heap.get? b = some o → o.data = .dict es ep → H b = none := by
    intro b o es ep e d
    rcases pH b with z | ⟨z, _, _⟩
    · exact z
    · rw [z, ha] at e
      cases e
      have d' : Data.seq vs.toArray _ = Data.dict es ep := d
      cases d'
  have ns_on : ∀ {b : Addr} {m : Str → Option Value}, s.heap.Ns b m → (hidT s.heap H).Ns b m := by
    rintro b m ⟨o, es, ep, e, d, r⟩
    exact ⟨o, es, ep, hidT_get e (free e d), d, r⟩
  have kin : K.In (hidT s.heap H) := by
    intro b o e
    refine hidT_get (KX b o e) ?_
    rcases pH b with z | ⟨z, z2, _⟩
    · exact z
    · rw [z, z2] at e
      cases e
  have hok : HOk P w H s.heap := by
    intro b u e
    rcases pH b with z | ⟨z, _, z3⟩
    · rw [z] at e
      cases e
    · rw [z3] at e
      cases e
      subst z
      exact ⟨ha, by rw [List.length_map]; exact hl, vs, _, vals_ints hi, ha⟩
  have limK : (hidT s.heap H).NoLimit := by
    obtain ⟨mc, l1, l2⟩ := lim
    exact ⟨mc, ns_on l1, l2⟩
  have env : Env0 P w K mg (hidT s.heap H) callerA [] s H :=
    { frames := rfl, mod := ⟨kin, ns_on gs, ⟨mb, ns_on bs, boot⟩, limK⟩, bs := fun b o e => of_hidT e, bsz := Nat.le_of_eq (hidT_size _ _), funs := trivial, frf := (fun b hb => nomatch (show b ∈ ([] : List Addr) from hb)), hok := hok, bare := .of_eq gens }
  have go := (F _ kin (ns_on gs)).run callerA [] s H ⟨[.ref a], []⟩ [.ref a] [.ref a] _ _ rfl room env (bind s (.ref a)) (.cons rfl .nil) (want H pS)
  refine codeAny_mono go fun r s' z => ?_
  match r, z with
  | .error e, z => exact z.elim
  | .ok .next, z => exact z.elim
  | .ok .brk, z => exact z.elim
  | .ok .cont, z => exact z.elim
  | .ok (.ret u), z =>
    obtain ⟨v, H', os, bare, un, hok', rel, q⟩ := z
    have q : v = .bl true := q
    subst q
    have eu : u = Value.bool true := rel
    subst eu
    refine ⟨rfl, OldK.of_keep fun b o e => ?_, os, bare⟩
    rcases pH b with z | ⟨z, _, z3⟩
    · exact un.keep b o e z (fun hm => nomatch (show b ∈ ([] : List Addr) from hm)) (by simp)
    · have e2 := (hok' b _ (un.frzs b _ _ z3)).1
      rw [z, ha] at e
      cases e
      exact e2
/-- a law whose def is promised where no repr is under way -/
theorem walk_G {l : PySem.W.OpenLaw} {n k : Nat} {q : Program} {loose : List Str} {XP : (Str → Option Value) → Heap → Prop} {YP : World → Heap → Prop} {d : DefRec} {x : Str}
    (hn : l.most = some n) (hn2 : n ≤ sizeLine) (hdf : d.params.defaults = []) (room : Room k callerA)
    (F : ∀ (w : World) (mg : Str → Option Value) (fa : Addr) (h : Heap), YP w h → h.Ns mainGlobals mg → mg d.name = some (.ref fa) →
      ∃ (K : PySem.W.Frag) (fd : FuncData) (sp : Sp), K.In h ∧ (∀ (s : Shared) (u : Value), BindsTo s fd ⟨[u], []⟩ [(x, u)]) ∧
        (∀ (H : Hp) (a : Addr) (ns : List Int), ns.length ≤ n → SqL K H a (ns.map V.int) → sp [.ref a] H (fun v _ => v = .bl true) fun _ _ _ => False) ∧
        ∀ base : Heap, K.In base → base.Ns mainGlobals mg → FnG l.prog w K mg base k fa fd [x] sp) :
    PySem.W.WalkO q loose XP YP l.row.toRowW d [] (fun f vs => PySem.call f vs) := by
  refine Att.attach_call hn hdf ?_
  intro w s₀ s₁ mg mb fa o pm cd doc a vs ns G Y _ _ _ named ha hi hlen gens
  obtain ⟨K, fd, sp, KX, hb, hsp, hF⟩ := F w mg fa _ Y G.T.g named
  exact endG KX G.T.g G.T.b G.T.builtins G.T.nolimit gens ha hi (Nat.le_trans hlen hn2) room hF hb fun H hS => hsp H a ns hlen hS
end Sk
/-! Sk: a walk over a list or a tuple; trees of markup as they stand in a heap -/
namespace Sk
open PySem PySem.Spec PyProof.Rows L2
/-- x in a list or in a tuple -/
def iAny (K : PySem.W.Frag) (te : TE) : TI := fun σ H R => te σ H fun v H1 => match v with
  | .ref a => ∃ xs, (SqL K H1 a xs ∨ SqT K H1 a xs) ∧ ∀ (J : It) (G : Hp → Prop), Walk J xs.length G (YAt xs) → (∀ H', (∀ o, H1 a = some o → H' a = some o) → G H') → R J H1
  | _ => False
theorem at_seq {K : PySem.W.Frag} {H H' : Hp} {a : Addr} {xs : List V} (e : ∀ o, H a = some o → H' a = some o) (h : SqL K H a xs) : SqL K H' a xs := by
  rcases h with (h | ⟨o, h⟩) | h
  · exact .inl (.inl (e _ h))
  · exact .inl (.inr ⟨o, e _ h⟩)
  · exact .inr h
theorem at_tup {K : PySem.W.Frag} {H H' : Hp} {a : Addr} {xs : List V} (e : ∀ o, H a = some o → H' a = some o) (h : SqT K H a xs) : SqT K H' a xs := by
  rcases h with (h | ⟨o, h⟩) | h
  · exact .inl (.inl (e _ h))
  · exact .inl (.inr ⟨o, e _ h⟩)
  · exact .inr h
section
variable {X : Cx}
theorem iany (K : PySem.W.Frag) {tg e : Expr} {te : TE} (he : PE X e te) (hK : X.K = K := by rfl) : PI X tg e (iAny K te) := by
  subst hK
  refine ⟨fun pins s σ H R I h => thn (he.run pins s σ H _ I h) fun v s1 z => ?_⟩
  obtain ⟨y, G, J, rel, q⟩ := z
  cases y with
  | ref a =>
    have ev : v = Value.ref a := rel
    subst ev
    have fp : ∀ b ∈ [s1.heap.objs.size], FpOk X pins G b := by
      intro b hb
      have eb : b = s1.heap.objs.size := by simpa using hb
      rw [eb]
      exact J.fpOk (Nat.le_refl _) (J.hok.fresh (Nat.le_refl _))
    obtain ⟨xs, hs | hs, q⟩ := q
    · have q := q _ _ walk_list fun H' e => at_seq e hs
      obtain ⟨its, _, pl, _⟩ := J.list hs
      refine wpAny_pyIter_list pl.isList ⟨s1.heap.objs.size, [s1.heap.objs.size], _, _, G, rfl, ?_, turn_list a _, ?_, fp, q⟩
      · exact J.kept (t' := s1.toks) fun b o eo => Heap.get?_push_of_some _ eo
      · exact ⟨_, Heap.get?_push_size _ rfl, rfl, rfl⟩
    · have q := q _ _ walk_tup fun H' e => at_tup e hs
      obtain ⟨its, _, pt, _⟩ := J.tuple hs
      refine wpAny_pyIter_tuple (show s1.heap.IsTuple a its.toArray from pt) ⟨s1.heap.objs.size, [s1.heap.objs.size], _, _, G, rfl, ?_, turn_tuple a _, ?_, fp, q⟩
      · exact J.kept (t' := s1.toks) fun b o eo => Heap.get?_push_of_some _ eo
      · exact ⟨_, Heap.get?_push_size _ rfl, rfl, rfl⟩
  | _ => exact q.elim
end
/-! ### trees -/
def TxtN (H : Hp) (v : V) : Prop := ∃ a z, v = .ref a ∧ H a = some (.tup [.str "text", .str z]) ∧ TextOk 24 z ∧ 1 ≤ z.length
def DataN (H : Hp) (v : V) : Prop := ∃ a x, v = .ref a ∧ H a = some (.tup [.str "data", x]) ∧ GoodV H 6 x
def TextsV (H : Hp) (v : V) (zs : List Str) : Prop := ∃ a, v = .ref a ∧ H a = some (.tup (zs.map V.str)) ∧ ∀ z ∈ zs, TextOk 24 z
def PairsV (H : Hp) (v : V) (ps : List (Str × Str)) : Prop := ∃ a vs, v = .ref a ∧ H a = some (.tup vs) ∧ vs.length = ps.length ∧
  ∀ (i : Nat) x p, vs[i]? = some x → ps[i]? = some p → ∃ b, x = .ref b ∧ H b = some (.tup [.str p.1, .str p.2]) ∧ NameOk p.1 ∧ TextOk 24 p.2
inductive Att where
  | plain (n z : Str)
  | addr (ws : List Str) (ps : List (Str × Str))
def AttV (H : Hp) (v : V) : Att → Prop
  | .plain n z => ∃ a, v = .ref a ∧ H a = some (.tup [.str n, .str z]) ∧ NameOk n ∧ n ≠ "href" ∧ TextOk 24 z
  | .addr ws ps => ∃ a p x y, v = .ref a ∧ H a = some (.tup [.str "href", .ref p]) ∧ H p = some (.tup [x, y]) ∧ TextsV H x ws ∧ 1 ≤ ws.length ∧ ws.length ≤ 3 ∧ PairsV H y ps ∧ ps.length ≤ 3
end Sk
/-! Sk: trees of markup, their sheets -/
namespace Sk
open PySem PySem.Spec PyProof.Rows L2
inductive Nd where
  | text (z : Str)
  | data (l : Str)
  | elem (nm : Str) (as : List Att) (ns : List Nd)
def Nd.isT : Nd → Bool
  | .text _ => true
  | _ => false
/-- no two texts one behind the other -/
def noTwo : List Nd → Bool
  | [] => true
  | [_] => true
  | x :: y :: r => !(x.isT && y.isT) && noTwo (y :: r)
mutual
def Nd.lev : Nd → Nat
  | .elem _ _ ns => 1 + levs ns
  | _ => 0
def levs : List Nd → Nat
  | [] => 0
  | x :: r => max x.lev (levs r)
end
inductive AttsV (H : Hp) : List V → List Att → Prop
  | nil : AttsV H [] []
  | cons {v : V} {vs : List V} {a : Att} {as : List Att} : AttV H v a → AttsV H vs as → AttsV H (v :: vs) (a :: as)
mutual
inductive NdV (H : Hp) : V → Nd → Prop
  | text {a : Addr} {z : Str} : H a = some (.tup [.str "text", .str z]) → TextOk 24 z → 1 ≤ z.length → NdV H (.ref a) (.text z)
  | data {a : Addr} {x : V} : H a = some (.tup [.str "data", x]) → GoodV H 6 x → NdV H (.ref a) (.data (litH H 6 x))
  | elem {a p q : Addr} {nm : Str} {vs ws : List V} {as : List Att} {ns : List Nd} : H a = some (.tup [.str "element", .str nm, .ref p, .ref q]) → NameOk nm → nm ≠ "data" → H p = some (.tup vs) → AttsV H vs as → as.length ≤ 3 →
      H q = some (.tup ws) → NdsV H ws ns → ns.length ≤ 4 → noTwo ns = true → NdV H (.ref a) (.elem nm as ns)
inductive NdsV (H : Hp) : List V → List Nd → Prop
  | nil : NdsV H [] []
  | cons {v : V} {vs : List V} {n : Nd} {ns : List Nd} : NdV H v n → NdsV H vs ns → NdsV H (v :: vs) (n :: ns)
end
theorem AttV.stay {H H' : Hp} (s : Stay H H') {v : V} : ∀ {a : Att}, AttV H v a → AttV H' v a
  | .plain _ _, h => by
    obtain ⟨a, e, h1, h2⟩ := h
    exact ⟨a, e, s _ _ rfl h1, h2⟩
  | .addr _ _, h => by
    obtain ⟨a, p, x, y, e, h1, h2, ⟨b, e3, h3, h4⟩, h5, h6, ⟨c, vs, e7, h7, h8, h9⟩, h10⟩ := h
    refine ⟨a, p, x, y, e, s _ _ rfl h1, s _ _ rfl h2, ⟨b, e3, s _ _ rfl h3, h4⟩, h5, h6, ⟨c, vs, e7, s _ _ rfl h7, h8, fun i x p hx hp => ?_⟩, h10⟩
    obtain ⟨d, e, k1, k2⟩ := h9 i x p hx hp
    exact ⟨d, e, s _ _ rfl k1, k2⟩
theorem AttsV.stay {H H' : Hp} (s : Stay H H') {vs : List V} {as : List Att} (h : AttsV H vs as) : AttsV H' vs as := by
  induction h with
  | nil => exact .nil
  | cons h _ ih => exact .cons (h.stay s) ih
mutual
theorem NdV.stay {H H' : Hp} (s : Stay H H') : ∀ {v : V} {n : Nd}, NdV H v n → NdV H' v n
  | _, _, .text h1 h2 h3 => .text (s _ _ rfl h1) h2 h3
  | _, _, .data h1 h2 => by
    rw [← lit_stay s _ _ h2]
    exact .data (s _ _ rfl h1) (GoodV.mono s _ _ h2)
  | _, _, .elem h1 h2 h3 h4 h5 h6 h7 h8 h9 h10 => .elem (s _ _ rfl h1) h2 h3 (s _ _ rfl h4) (h5.stay s) h6 (s _ _ rfl h7) (NdsV.stay s h8) h9 h10
theorem NdsV.stay {H H' : Hp} (s : Stay H H') : ∀ {vs : List V} {ns : List Nd}, NdsV H vs ns → NdsV H' vs ns
  | _, _, .nil => .nil
  | _, _, .cons h1 h2 => .cons (NdV.stay s h1) (NdsV.stay s h2)
end
end Sk
/-! Sk: f(x[1]): the written number gives out a token, so f may want one; a value's truth as a test -/
namespace Sk
open PySem PySem.Spec PyProof.Rows L2
section
variable {X : Cx}
/-- f(o[c]), f called where a token is out -/
theorem pecall_tok {k : Nat} {f : Addr} {fd : FuncData} {ps : List Str} {sp : Sp} {y : Str} {o : Expr} {to : TE} {r : R2} {c : Int} {j : Nat} {p pos cp sp' : Pos} (F : FnT X.prog X.w X.K X.mg X.base k f fd ps sp) (hr : Room k X.A) (hg : Gl X y) (hm : X.mg y = some (.ref f)) (hk : PySem.W.keepIn X.K (.ref f) = true)
    (hb : Binds X.K fd ps []) (hi : IxR X r) (ho : PE X o to) (hs : PlainIx (.Constant (.int c) j cp) := by exact fun _ _ => rfl) (hdb : (y == ("__debug__" : Str)) = false := by decide)
    (he : starEach [.Subscript o (.Constant (.int c) j cp) sp'] X.env = (false, eval (.Subscript o (.Constant (.int c) j cp) sp') X.env) :: starEach [] X.env := by rfl) (hpl : (backTo pos (starEach [] X.env)).any (·.1) = false := by rfl) :
    PE X (.Call (.Name y p) [.Subscript o (.Constant (.int c) j cp) sp'] [] pos) (fun σ H Q => tOp r to (tC (.int c)) σ H fun v H1 => sp [v] H1 Q E0) := by
  refine ⟨fun pins s σ H Q I h => ?_⟩
  refine wpAny_Call_Name_kw (ld_glob I hg hm ?_ hdb)
  refine PySem.W.callWith_K (h₀ := X.base) I.ok.mod.kin hk ?_ he hpl
  rw [he]
  show wpAny _ _ (spliced ((false, eval (.Subscript o (.Constant (.int c) j cp) sp') X.env) :: backTo pos (starEach [] X.env))) _ _ s
  refine Calls.spliced_cons (Subscript_ (thn (ho.run pins s σ H _ I h) fun v s1 z => ?_))
  obtain ⟨x, H1, I1, r1, q1⟩ := z
  refine wpAny_Constant_int ?_
  have out : 1 ≤ ({ s1 with toks := s1.toks + 1 } : Shared).toks := Nat.succ_le_succ (Nat.zero_le _)
  refine wpAny_mono (PySem.wpAny_toks_of out (hi o _ pins { s1 with toks := s1.toks + 1 } σ H1 x (.int c) v _ _ (I1.tok _) r1 ⟨_, rfl⟩ q1 (hs _ _))) (fun u s2 z => ?_) fun _ _ z => z.2
  obtain ⟨tok, x2, H2, I2, r2, q2⟩ := z
  refine Calls.spliced_nil ⟨I2.kIn, ?_⟩
  have size : ([u] ++ ([] : List Value)).length = ps.length := F.len _ _ _ _ q2
  refine wpAny_call (codeAny_mono (F.run X.A X.stack s2 H2 ⟨[u], []⟩ [u] [x2] Q E0 tok hr I2.env0 (hb s2 [u] I2.kIn size) (.cons r2 .nil) q2) fun r s3 hq => ?_)
  cases r with
  | error e => exact hq.elim
  | ok fl =>
    cases fl with
    | ret u => exact I2.after hq
    | next => exact hq.elim
    | brk => exact hq.elim
    | cont => exact hq.elim
/-- one parameter, given by name -/
theorem kb_one {K : PySem.W.Frag} {x qual : Str} {params : Arguments} {body : List Stmt} {scope : Scope} {f : Addr} {fd : FuncData} {p0 : Str} (F : FunD K x qual params body scope [] [] f fd)
    (h : ∀ (kV doc pm : Value) (an : Option Addr) (cdv ct : Value) (w0 : Value), bindArgs (PySem.W.fnOf x qual params body scope .none kV doc pm an cdv ct) ⟨[], [(p0, w0)]⟩ = pure [(p0, w0)]) :
    KBn K fd [p0] 0 [p0] (fun _ ws => ws) (fun _ zs => zs) := by
  obtain ⟨oc, od, dV, kV, doc, pm, an, cdv, ct, osl, rfl, lk, hcd, hD, hK⟩ := F.ex
  rcases hD with ⟨_, rfl⟩ | ⟨e, _⟩
  · refine ⟨fun s us ws _ l1 l2 => ?_, fun r rz => rz⟩
    match us, ws, l1, l2 with
    | [], [w0], _, _ => exact .of_eq (h kV doc pm an cdv ct w0)
  · exact absurd rfl e
/-- a list's, a tuple's truth -/
def uTru (K : PySem.W.Frag) (te : TE) : TT := fun σ H Q => te σ H fun v H1 => match v with
  | .ref a => ∃ xs, (SqL K H1 a xs ∨ SqT K H1 a xs) ∧ Q (!xs.isEmpty) H1
  | .bl b => Q b H1
  | _ => False
theorem ttru (K : PySem.W.Frag) {e : Expr} {te : TE} (h : PE X e te) (hK : X.K = K := by rfl) (he : ∀ whole, isTrue e X.env whole = (do let v ← whole; standAt e.pos; holding [v] (truthy v)) := by intro _; rfl) : PT X e (uTru K te) := by
  subst hK
  refine PTw (pt_truth (up h) he) fun σ H Q q => ⟨_, fun v H1 z => ?_, q⟩
  cases v with
  | ref a =>
    obtain ⟨xs, hs, z⟩ := z
    rcases hs with hs | hs
    · exact ⟨_, .inl ⟨xs, hs, rfl⟩, z⟩
    · exact ⟨_, .inr (.inl ⟨xs, hs, rfl⟩), z⟩
  | bl b => exact ⟨b, rfl, z⟩
  | _ => exact z.elim
/-- zip of two lists, of two tuples -/
theorem izip (K : PySem.W.Frag) {e e2 : Expr} {ta : TA} {p pos tpos : Pos} {elts : List Expr} {kk : Nat} (hg : Gl X "zip") (hm : X.mg "zip" = none) (ha : PA X [e, e2] ta) (hK : X.K = K := by rfl)
    (hs : starEach [e, e2] X.env = (false, eval e X.env) :: starEach [e2] X.env := by rfl) (hpl : (backTo pos (starEach [e2] X.env)).any (·.1) = false := by rfl) :
    PI X (.Tuple elts kk tpos) (.Call (.Name "zip" p) [e, e2] [] pos) (RZ.iZipA K ta) := by subst hK; exact RZ.pi_zipA hg hm ha hs hpl
end
end Sk
/-! Sk: a hook for heads with classes, tables of texts, tables of code objects and one more Bool -/
namespace Sk
open PySem PySem.Spec PyProof.Rows L2
abbrev Fg := PySem.W.Frag
/-- the part of the heap that is looked at -/
def fragU (n : Nat) (g : Addr → Option Obj) : Fg := He.frT g (He5.asA g n ++ [sysModules])
/-- the table of modules is no list -/
def SysD (K : Fg) : Prop := He.dictB K sysModules = true
/-- what the head tells of the part K of the heap h -/
structure SaysU (fa : List He.Fa) (fn : List He5.DefA) (ts : List He.Tab) (tf : List He.Defn) (ex : Fg → Bool) (w : World) (h : Heap) (K : Fg) : Prop where
  defs : He5.SaysA fa fn K
  tabs : (ts.map fun t => He.dicW K (t.1 K)) = ts.map fun t => some (He.keysIn w.params t.2)
  also : ex K = true
  made : ∀ p ∈ tf, PySem.W.codeHdIn K (He.cT K p).1 (He.cT K p).2 = true ∧ K.lookup (He.cT K p).2 = none ∧ h.get? (He.cT K p).2 = some { cls := .none, data := .fields #[] }
abbrev AlU : Type := (He.AlD × List (Option (List (Option (Str × Int))))) × Bool
def seenU (n : Nat) (fa : List He.Fa) (fn : List He5.DefA) (ts : List He.Tab) (tf : List He.Defn) (ex : Fg → Bool) (g : Addr → Option Obj) : AlU :=
  ((He5.obsA fa fn (fragU n g), ts.map fun t => He.dicW (fragU n g) (t.1 (fragU n g))), ex (fragU n g) && He.tabsB g tf (fragU n g))
def wantU (fn : List He5.DefA) (ts : List He.Tab) (w : World) : AlU := ((He5.valA fn, ts.map fun t => some (He.keysIn w.params t.2)), true)
theorem saysU_of {n : Nat} {fa : List He.Fa} {fn : List He5.DefA} {ts : List He.Tab} {tf : List He.Defn} {ex : Fg → Bool} {w : World} {h : Heap} (e : seenU n fa fn ts tf ex h.get? = wantU fn ts w) : SaysU fa fn ts tf ex w h (fragU n h.get?) := by
  have a1 : He5.SaysA fa fn (fragU n h.get?) := congrArg (fun z : AlU => z.1.1) e
  have a2 : (ts.map fun t => He.dicW (fragU n h.get?) (t.1 (fragU n h.get?))) = ts.map fun t => some (He.keysIn w.params t.2) := congrArg (fun z : AlU => z.1.2) e
  have a3 : (ex (fragU n h.get?) && He.tabsB h.get? tf (fragU n h.get?)) = true := congrArg (fun z : AlU => z.2) e
  obtain ⟨b1, b2⟩ := Bool.and_eq_true_iff.mp a3
  refine ⟨a1, a2, b1, fun p hp => ?_⟩
  obtain ⟨c1, c2⟩ := Bool.and_eq_true_iff.mp (List.all_eq_true.mp b2 p hp)
  refine ⟨c1, ?_⟩
  cases q : h.get? (He.cT (fragU n h.get?) p).2 with
  | none =>
    rw [q] at c2
    cases c2
  | some o =>
    rw [q] at c2
    exact ⟨He.frT_none q c2, by rw [He.emptyTab_eq c2]⟩
def hookU (n : Nat) (fa : List He.Fa) (fn : List He5.DefA) (ts : List He.Tab) (tf : List He.Defn) (ex : Fg → Bool) : PySem.W.Hook where
  α := AlU
  obs := fun s => seenU n fa fn ts tf ex s.heap.get?
  val := fun w => wantU fn ts w
  says := fun w h => ∃ K : Fg, K.In h ∧ SaysU fa fn ts tf ex w h K
  of := fun _ _ e => ⟨_, He.frT_in, saysU_of e⟩
  keeps := fun _ _ _ z k => by
    obtain ⟨K, i, c⟩ := z
    exact ⟨K, i.keeps k, c.defs, c.tabs, c.also, fun p hp => ⟨(c.made p hp).1, (c.made p hp).2.1, k _ _ (c.made p hp).2.2⟩⟩
theorem seenU_eq {n : Nat} {fa : List He.Fa} {fn : List He5.DefA} {ts : List He.Tab} {tf : List He.Defn} {ex : Fg → Bool} {g : Addr → Option Obj} {s : Shared} (h : ∀ a, g a = s.heap.get? a) : seenU n fa fn ts tf ex g = (hookU n fa fn ts tf ex).obs s := by
  have : g = s.heap.get? := funext h
  subst this
  rfl
/-! ### a dict of the module: its keys in order, its values -/
structure KDic (K : Fg) (w : World) (a : Addr) (kvs : List (Str × V)) : Prop where
  keys : He.dicW K a = some (He.keysIn w.params (kvs.map (·.1)))
  vals : ∀ q ∈ kvs, ∃ u, PySem.W.nsIn K a q.1 = some (some u) ∧ RelV q.2 u
theorem KDic.obj {K : Fg} {w : World} {a : Addr} {kvs : List (Str × V)} (d : KDic K w a kvs) : ∃ es n, K.lookup a = some ⟨.type "dict", none, .dict es n, #[]⟩ ∧ (a == sysModules) = false ∧ es.toList.map He.keyOf = He.keysIn w.params (kvs.map (·.1)) := by
  have h := d.keys
  unfold He.dicW at h
  split at h
  · rename_i c es n sl q
    split at h
    · rename_i z
      obtain ⟨z1, z2⟩ := Bool.and_eq_true_iff.mp z
      obtain ⟨z3, z4⟩ := Bool.and_eq_true_iff.mp z2
      have e1 : c = "dict" := of_decide_eq_true z1
      have e2 : sl = #[] := Array.isEmpty_iff.mp z3
      subst e1 e2
      refine ⟨es, n, q, ?_, Option.some.inj h⟩
      cases y : a == sysModules with
      | false => rfl
      | true =>
        rw [y] at z4
        cases z4
    · cases h
  · cases h
theorem kdic_of {K : Fg} {w : World} {ts : List He.Tab} (h : (ts.map fun t => He.dicW K (t.1 K)) = ts.map fun t => some (He.keysIn w.params t.2)) (i : Nat) {at_ : Fg → Addr} {kvs : List (Str × He.Dv)} (e : ts[i]? = some (at_, kvs.map (·.1))) (hv : He.valsB K (at_ K) kvs = true) :
    KDic K w (at_ K) (kvs.map fun q => (q.1, q.2.v K)) := by
  refine ⟨?_, fun q hq => ?_⟩
  · have e2 := congrArg (fun l => l[i]?) h
    simp only [List.getElem?_map, e, Option.map_some] at e2
    have e3 := Option.some.inj e2
    rw [List.map_map]
    exact e3
  · obtain ⟨p, hp, rfl⟩ := List.mem_map.mp hq
    exact He.valsB_ok hv hp
theorem key_at {P : Params} : ∀ {l : List DictEntry} {ks : List Str}, l.map He.keyOf = He.keysIn P ks → ∀ (i : Nat) k, ks[i]? = some k → ∃ en, l[i]? = some en ∧ RelV (.str k) en.key
  | [], [], _, i, k, h => by simp at h
  | [], _ :: _, h, _, _, _ => by cases h
  | _ :: _, [], h, _, _, _ => by cases h
  | en :: r, x :: ks, h, i, k, hk => by
    have h : He.keyOf en :: r.map He.keyOf = some (x, PyData.keyHash P x) :: He.keysIn P ks := h
    injection h with h1 h2
    cases i with
    | zero =>
      cases hk
      refine ⟨en, rfl, ?_⟩
      unfold He.keyOf at h1
      split at h1
      · rename_i y t q
        have := (Prod.mk.inj (Option.some.inj h1)).1
        exact ⟨t, by rw [q, this]⟩
      · cases h1
    | succ i =>
      obtain ⟨e, e1, e2⟩ := key_at h2 i k (by simpa using hk)
      exact ⟨e, by simpa using e1, e2⟩
theorem keys_len {P : Params} {l : List DictEntry} {ks : List Str} (h : l.map He.keyOf = He.keysIn P ks) : l.length = ks.length := by
  have e := congrArg List.length h
  rw [List.length_map] at e
  rw [e]
  unfold He.keysIn
  rw [List.length_map]
theorem KDic.get {K : Fg} {w : World} {a : Addr} {kvs : List (Str × V)} (d : KDic K w a kvs) {x : Str} {v : V} (h : (x, v) ∈ kvs) : KDct K w a x v := by
  obtain ⟨es, n, h1, _, h3⟩ := d.obj
  obtain ⟨u, h4, h5⟩ := d.vals _ h
  exact ⟨es, n, u, h1, He.keysLit_of h3, h4, h5⟩
/-- d[k], d a dict of the module -/
def rKd (K : Fg) (w : World) : R2 := fun x y H Q => match x, y with
  | .ref p, .str z => ∃ kvs v, KDic K w p kvs ∧ (z, v) ∈ kvs ∧ Q v H
  | _, _ => False
/-- the keys of a dict of the module -/
def iKeysK (K : Fg) (w : World) (te : TE) : TI := fun σ H R => te σ H fun v H1 => match v with
  | .ref a => ∃ kvs, KDic K w a kvs ∧ ∀ (J : It), Walk J kvs.length (fun _ => True) (YAt (kvs.map fun q => V.str q.1)) → R J H1
  | _ => False
section
variable {X : Cx}
theorem kdget (K : Fg) (w : World) (h : X.K = K := by rfl) (h2 : X.w = w := by rfl) : IxR X (rKd K w) := by
  subst h h2
  intro va sl pins s σ H x y v u Q I rx ry q
  unfold rKd at q
  split at q
  · obtain ⟨kvs, r, d, m, q⟩ := q
    exact ix_kdict va sl pins s σ H _ _ v u Q I rx ry ⟨_, _, r, rfl, rfl, d.get m, q⟩
  · exact q.elim
/-- the walk over the keys of a dict of the module -/
def Itkk (kvs : List (Str × V)) : It where
  go := fun i _ => i < kvs.length
  stop := fun i _ => kvs.length ≤ i
  yld := fun i H x H' => H' = H ∧ ∃ k v, kvs[i]? = some (k, v) ∧ x = V.str k
theorem walk_kk {kvs : List (Str × V)} : Walk (Itkk kvs) kvs.length (fun _ => True) (YAt (kvs.map fun q => V.str q.1)) :=
  ⟨fun _ _ hi _ => hi, fun _ _ => Nat.le_refl _, fun i H x H' hi _ y => by
    obtain ⟨e, k, v, h1, rfl⟩ := y
    exact ⟨e, by rw [List.getElem?_map, h1]; rfl⟩⟩
theorem turn_kk {P : Program} {w : World} {K : Fg} {tg : Expr} {d it : Addr} {kvs : List (Str × V)} {es : Array DictEntry} {ep : Nat} (hl : K.lookup d = some ⟨.type "dict", none, .dict es ep, #[]⟩) (hk : es.toList.map He.keyOf = He.keysIn w.params (kvs.map (·.1))) :
    Turn P w K tg (Itkk kvs) [it] it (fun i h => h.IsKeyIter it d i kvs.length ep) := by
  have sz : es.size = kvs.length := by
    have := keys_len hk
    rw [List.length_map, Array.length_toList] at this
    exact this
  constructor
  · simp
  · intro i h st b hb
    obtain rfl : b = it := by simpa using hb
    obtain ⟨oi, e, c, dd⟩ := st
    exact ⟨oi, e, fun v z => by rw [dd] at z; cases z⟩
  · intro i h h' st k
    exact st.at fun oi e => k it (by simp) oi e
  · intro X hP hw hK hc i pins s σ H E I hf st hg
    subst hP hw hK
    obtain ⟨f0, f1, f2, f3, f4, f5⟩ := hf it (by simp)
    have hi : i < kvs.length := hg
    obtain ⟨⟨k, v⟩, hkv⟩ : ∃ p, kvs[i]? = some p := ⟨kvs[i], List.getElem?_eq_getElem hi⟩
    obtain ⟨en, h1, h2⟩ := key_at hk i k (by rw [List.getElem?_map, hkv]; rfl)
    refine next_key_item st (I.kIn _ _ hl) rfl sz (by rw [← Array.getElem?_toList]; exact h1) fun h' st' sb => ?_
    have I1 : Inv X pins σ H { s with heap := h' } := I.turned (t' := s.toks) (fun b ob hb e => (sb.2 b hb).trans e) f0 f1 f3 f4 f5
    obtain ⟨oi, e, c, dd⟩ := id st'
    exact ⟨en.key, rfl, go_of (s := { s with heap := h' }) e c dd (by decide) ⟨.str k, H, I1, h2, ⟨rfl, k, v, hkv, rfl⟩, st', fun b hb => (hf b hb).1⟩⟩
  · intro X hP hw hK hc i pins s σ H E I hf st hg
    subst hP hw hK
    obtain ⟨f0, f1, f2, f3, f4, f5⟩ := hf it (by simp)
    exact next_key_end (I.ok.hd hc) st (I.kIn _ _ hl) rfl sz hg fun h' eb => ⟨rfl, I.turned (t' := s.toks) (fun b ob hb e => eb b ob hb e) f0 f1 f3 f4 f5⟩
  · intro A i s Q E st h
    exact wpAny_pyIter_keyiter st h
theorem ikeysK (K : Fg) (w : World) {tg e : Expr} {te : TE} (he : PE X e te) (h : X.K = K := by rfl) (h2 : X.w = w := by rfl) : PI X tg e (iKeysK K w te) := by
  subst h h2
  refine ⟨fun pins s σ H R I q => thn (he.run pins s σ H _ I q) fun u s1 z => ?_⟩
  obtain ⟨v, H1, I1, rv, z⟩ := z
  cases v with
  | ref a =>
    obtain ⟨kvs, d, q⟩ := z
    obtain rfl : u = Value.ref a := rv
    obtain ⟨es, ep, h1, h2, h3⟩ := d.obj
    have sz : es.size = kvs.length := by
      have := keys_len h3
      rw [List.length_map, Array.length_toList] at this
      exact this
    refine iter_keys h2 (I1.kIn _ _ h1) ⟨rfl, rfl, rfl⟩ rfl (pi_one (tk := s1.toks) I1 _ (turn_kk h1 h3) ⟨_, Heap.get?_push_size _ rfl, rfl, ?_⟩ (q _ walk_kk))
    rw [sz]
    rfl
  | _ => exact z.elim
end
end Sk
/-! Sk: int(text); objects of own classes; repr of data with lists and dicts -/
namespace Sk
open PySem PySem.Spec PyProof.Rows L2
section
variable {X : Cx}
/-- int(x) -/
def rIntT : List V → Hp → VK → Prop := fun xs H Q => match xs with
  | [.int i] => Q (.int i) H
  | [.bl k] => Q (.int (if k then 1 else 0)) H
  | [.str a] => ∃ n, PySem.intText? a = some n ∧ a.length ≤ 640 ∧ Q (.int n) H
  | _ => False
theorem call_intT : CallR X (.type "int") rIntT := CallRw (CallR.or call_intU call_int_str) fun xs H Q q => by
  unfold rIntT at q
  split at q
  · exact .inl q
  · exact .inl q
  · obtain ⟨n, h⟩ := q
    exact .inr ⟨_, n, rfl, h⟩
  · exact q.elim
/-- x(e, ..), x a name of the def that holds a class -/
theorem pe_makeL {CX : CXT} {k i : Nat} {f C : Addr} {sp : Sp} {E : XK} {x : Str} {e : Expr} {es : List Expr} {t : TA} {p pos : Pos} (hN : X.N[i]? = some x) (hv : Vis X.env.scope x) (M : Mk X.K C f) (F : FnR X.prog X.w X.K X.mg X.base CX k f sp) (hr : Room (k + 1) X.A) (hx : Passes CX X E) (ha : PA X (e :: es) t)
    (hd : (x == ("__debug__" : Str)) = false := by decide) (hcd : (x == ("__classdict__" : Str)) = false := by decide) (he : starEach (e :: es) X.env = (false, eval e X.env) :: starEach es X.env := by rfl) (hpl : (backTo pos (starEach es X.env)).any (·.1) = false := by rfl) :
    PE X (.Call (.Name x p) (e :: es) [] pos) (fun σ H Q => uVar i σ H fun v H1 => v = .ref C ∧ StX.tMakeR C sp E t σ H1 Q) := by
  refine ⟨fun pins s σ H Q I h => ?_⟩
  refine wpAny_Call_Name_kw (thn ((vr i (pos := p) hN hv hd hcd).run pins s σ H _ I h) fun u s1 z => ?_)
  obtain ⟨v, H1, I1, rv, ev, q⟩ := z
  subst ev
  obtain rfl : u = Value.ref C := rv
  refine PySem.W.callWith_K (h₀ := X.base) I1.ok.mod.kin M.kp (thn (ha.run pos pins s1 σ H1 _ I1 q) fun us s2 z => ?_) he hpl
  obtain ⟨vs, H2, I2, r, q2⟩ := z
  exact ⟨I2.kIn, StX.run_makeR M F hr hx I2 r q2⟩
end
theorem fnR_of {P : Program} {w : World} {K : Fg} {mg : Str → Option Value} {base : Heap} {CX : CXT} {k : Nat} {f : Addr} {fd : FuncData} {ps : List Str} {sp : Sp} (F : FnOk P w K mg base CX k f fd ps sp) (hb : Binds K fd ps []) : FnR P w K mg base CX k f sp :=
  (F.raw hb .nil).imp fun vs H Q E h => by rw [List.append_nil]; exact h
/-! ### what the head tells of a class -/
def creadB (K : Fg) (C : Str) : Bool := PySem.W.readsIn K (He.ga K C) (.type "type") && decide (PySem.W.specialIn K (.ref (He.ga K C)) "__getattribute__" = some (some (.builtin "type.__getattribute__")))
theorem creadB_ok {K : Fg} {C : Str} (h : creadB K C = true) : ClX.CRead K (He.ga K C) (.type "type") := by
  obtain ⟨a, b⟩ := Bool.and_eq_true_iff.mp h
  exact ⟨a, of_decide_eq_true b⟩
abbrev cmA (K : Fg) (C m : Str) : Addr := He5.wf K (He.ga K C) "classmethod" m
def cmetB (K : Fg) (C m : Str) : Bool := He5.wrapB K (He.ga K C) "classmethod" "classmethod.__get__" m && PySem.W.fnIn K (cmA K C m)
theorem cmetB_ok {K : Fg} {C m : Str} (h : cmetB K C m = true) : ClX.CMet K (He.ga K C) (.type "type") m (He.ma K (He.ga K C) m) (cmA K C m) := by
  obtain ⟨a, b⟩ := Bool.and_eq_true_iff.mp h
  exact He5.cmet_of a b
def callB (K : Fg) (C : Str) : Bool := decide (PySem.W.findIn K (.ref (He.ga K C)) "__call__" = some (some (.ref (He.ma K (He.ga K C) "__call__")))) && (PySem.W.isFn K (.ref (He.ma K (He.ga K C) "__call__")) && PySem.W.fnIn K (He.ma K (He.ga K C) "__call__"))
theorem callB_ok {K : Fg} {C : Str} (h : callB K C = true) : StX.CallO K (He.ga K C) (He.ma K (He.ga K C) "__call__") := by
  obtain ⟨a, b⟩ := Bool.and_eq_true_iff.mp h
  obtain ⟨b, c⟩ := Bool.and_eq_true_iff.mp b
  exact ⟨of_decide_eq_true a, b, c⟩
/-! ### data with lists, tuples and dicts -/
mutual
inductive DL (H : Hp) : V → PyData → Prop
  | non : DL H .non .none
  | bl (b : Bool) : DL H (.bl b) (.bool b)
  | int (i : Int) : DL H (.int i) (.int i)
  | str (x : Str) : DL H (.str x) (.str x)
  | lst {a : Addr} {xs : List V} {ds : List PyData} : H a = some (.lst xs) → DLs H xs ds → DL H (.ref a) (.list ds)
  | tup {a : Addr} {xs : List V} {ds : List PyData} : H a = some (.tup xs) → DLs H xs ds → DL H (.ref a) (.tuple ds)
  | dic {a : Addr} {kvs : List (Key × V)} {ds : List (PyData × PyData)} : H a = some (.dK kvs) → DLs H (kvs.map fun p => kV p.1) (ds.map (·.1)) → DLs H (kvs.map (·.2)) (ds.map (·.2)) → DL H (.ref a) (.dict ds)
inductive DLs (H : Hp) : List V → List PyData → Prop
  | nil : DLs H [] []
  | cons {v : V} {vs : List V} {d : PyData} {ds : List PyData} : DL H v d → DLs H vs ds → DLs H (v :: vs) (d :: ds)
end
mutual
theorem DL.same {H H' : Hp} (s : Same H H') : ∀ {v : V} {d : PyData}, DL H v d → DL H' v d
  | _, _, .non => .non
  | _, _, .bl b => .bl b
  | _, _, .int i => .int i
  | _, _, .str x => .str x
  | _, _, .lst h a => .lst (s _ _ h) (DLs.same s a)
  | _, _, .tup h a => .tup (s _ _ h) (DLs.same s a)
  | _, _, .dic h a b => .dic (s _ _ h) (DLs.same s a) (DLs.same s b)
theorem DLs.same {H H' : Hp} (s : Same H H') : ∀ {vs : List V} {ds : List PyData}, DLs H vs ds → DLs H' vs ds
  | _, _, .nil => .nil
  | _, _, .cons a b => .cons (DL.same s a) (DLs.same s b)
end
theorem DLs.len {H : Hp} : ∀ {vs : List V} {ds : List PyData}, DLs H vs ds → vs.length = ds.length
  | _, _, .nil => rfl
  | _, _, .cons _ b => congrArg (· + 1) b.len
theorem DLs.app {H : Hp} : ∀ {vs : List V} {ds : List PyData} {us : List V} {es : List PyData}, DLs H vs ds → DLs H us es → DLs H (vs ++ us) (ds ++ es)
  | _, _, _, _, .nil, r => r
  | _, _, _, _, .cons a b, r => .cons a (b.app r)
theorem DLs.at {H : Hp} : ∀ {vs : List V} {ds : List PyData}, DLs H vs ds → ∀ (i : Nat) v, vs[i]? = some v → ∃ d, ds[i]? = some d ∧ DL H v d
  | _, _, .nil, i, v, h => by simp at h
  | _, _, .cons h _, 0, v, e => by
    cases e
    exact ⟨_, rfl, h⟩
  | _, _, .cons _ h, i + 1, v, e => by
    obtain ⟨n, e1, e2⟩ := h.at i v (by simpa using e)
    exact ⟨n, by simpa using e1, e2⟩
section
variable {X : Cx} {pins : List (Addr × Obj)} {σ : L2.St} {H : Hp} {s : Shared}
theorem sys_no {a : Addr} {o : Obj} (I : Inv X pins σ H s) (y : SysD X.K) (h : s.heap.get? a = some o) (c : o.cls = .type "list") : a ≠ sysModules := fun z => by
  obtain ⟨es, n, sl, e⟩ := He.dictB_ok y
  have e2 := I.kIn _ _ e
  rw [z, e2] at h
  cases h
  have c2 : (Value.type "dict") = .type "list" := c
  injection c2 with c3
  exact absurd c3 (by decide)
mutual
theorem DL.reads (I : Inv X pins σ H s) (y : SysD X.K) : ∀ {v : V} {d : PyData}, DL H v d → ∀ u, RelV v u → ∃ as, Reads s.heap u d as ∧ sysModules ∉ as
  | _, _, .non, u, r => by
    cases r
    exact ⟨[], .none, by simp⟩
  | _, _, .bl b, u, r => by
    cases r
    exact ⟨[], .bool b, by simp⟩
  | _, _, .int i, u, r => by
    obtain ⟨t, rfl⟩ := r
    exact ⟨[], .int i t, by simp⟩
  | _, _, .str x, u, r => by
    obtain ⟨t, rfl⟩ := r
    exact ⟨[], .str x t, by simp⟩
  | _, _, .lst hs ha, u, r => by
    cases r
    obtain ⟨its, rv, ⟨o, n, ho, hc, _, hd⟩, _⟩ := I.list (sqL_of hs)
    obtain ⟨as, hr, hn⟩ := DL.readsAll I y ha its rv
    refine ⟨_ :: as, .list ho hc hd hr, fun z => ?_⟩
    rcases List.mem_cons.mp z with z | z
    · exact sys_no I y ho hc z.symm
    · exact hn z
  | _, _, .tup hs ha, u, r => by
    cases r
    obtain ⟨its, rv, ⟨o, ho, hc, n, hd⟩, _⟩ := I.tuple (sqT_of hs)
    obtain ⟨as, hr, hn⟩ := DL.readsAll I y ha its rv
    exact ⟨as, .tuple ho hc hd hr, hn⟩
  | _, _, .dic (a := a) hs hk hv, u, r => by
    cases r
    obtain ⟨_, ne, vs, kv, o, es, ep, ho, hx, hd, _, hp, _⟩ := dk_of I.hok hs
    obtain ⟨r1, r2⟩ := pairs_vals hp kv
    obtain ⟨as, q1, n1⟩ := DL.readsAll I y hk _ r1
    obtain ⟨bs, q2, n2⟩ := DL.readsAll I y hv _ r2
    refine ⟨a :: as ++ bs, .dict ho hx.1 hd q1 q2, fun z => ?_⟩
    have ne := beq_eq_false_iff_ne.mp ne
    rcases List.mem_append.mp z with z | z
    · rcases List.mem_cons.mp z with z | z
      · exact ne z.symm
      · exact n1 z
    · exact n2 z
theorem DL.readsAll (I : Inv X pins σ H s) (y : SysD X.K) : ∀ {vs : List V} {ds : List PyData}, DLs H vs ds → ∀ us, Vals vs us → ∃ as, ReadsAll s.heap us ds as ∧ sysModules ∉ as
  | _, _, .nil, us, r => by
    cases r
    exact ⟨[], .nil, by simp⟩
  | _, _, .cons h1 h2, us, r => by
    cases r with
    | cons r1 r2 =>
      obtain ⟨as, q1, n1⟩ := DL.reads I y h1 _ r1
      obtain ⟨bs, q2, n2⟩ := DL.readsAll I y h2 _ r2
      refine ⟨as ++ bs, .cons q1 q2, fun z => ?_⟩
      rcases List.mem_append.mp z with z | z
      · exact n1 z
      · exact n2 z
end
end
section
variable {X : Cx}
/-- repr(x) of data -/
def rReprL : List V → Hp → VK → Prop := fun xs H Q => match xs with
  | [.ref a] => ∃ d, DL H (.ref a) d ∧ d.showable = true ∧ d.shown.length ≤ sizeLine ∧ d.depth ≤ 60 ∧ Q (.str d.shown) H
  | [.int i] => i.natAbs.log2 < 1920 ∧ Q (.str (toString i)) H
  | _ => False
theorem kreprL (y : SysD X.K) (gd : X.A.guards = some []) (hu : X.A.units + 64 < cLine) : CallR X (.builtin "repr") rReprL := by
  intro pins s σ H xs us Q I r q
  unfold rReprL at q
  split at q
  · rename_i a
    obtain ⟨d, hd, h1, h2, h3, q⟩ := q
    cases r with
    | @cons _ u _ us ru rs =>
    cases rs
    have e : u = Value.ref a := ru
    subst e
    obtain ⟨as, r1, n1⟩ := DL.reads I y hd _ (show RelV (.ref a) (.ref a) from rfl)
    refine repr_of_reads' r1 h1 (fun _ => n1) gd (by omega) (fun _ _ e => e) (fun h' u tk k => ?_) h2
    exact ⟨.str d.shown, H, I.kept (t' := tk) k, ⟨u, rfl⟩, q⟩
  · exact SkE.call_repr_int pins s σ H _ us Q I r ⟨_, rfl, q⟩
  · exact q.elim
end
end Sk
/-! Sk: a head's facts over fewer objects (the module's names, their code, classes' dicts and methods); the run in parts -/
namespace Sk
open PySem PySem.Spec PyProof.Rows L2
def refsA (g : Addr → Option Obj) (a : Addr) : List Addr := match g a with
  | some o => He.refsD o
  | none => []
def refsC (g : Addr → Option Obj) (a : Addr) : List Addr := match g a with
  | some ⟨_, _, .cls cd, _⟩ => refsA g cd.ns
  | _ => []
/-- the functions within class methods and properties -/
def refsW (g : Addr → Option Obj) (a : Addr) : List Addr := match g a with
  | some o => if o.cls == .type "classmethod" || o.cls == .type "property" then He.refsD o else []
  | none => []
def asV (g : Addr → Option Obj) : List Addr := mainGlobals :: (refsA g mainGlobals ++ ((refsA g mainGlobals).flatMap (refsA g) ++ ((refsA g mainGlobals).flatMap (refsC g) ++ (((refsA g mainGlobals).flatMap (refsC g)).flatMap (refsA g) ++ ((((refsA g mainGlobals).flatMap (refsC g)).flatMap (refsW g)).flatMap (refsA g) ++ [cStatics, sysModules])))))
def fragV (g : Addr → Option Obj) : Fg := He.frT g (asV g)
def seenV (fa : List He.Fa) (fn : List He5.DefA) (ts : List He.Tab) (tf : List He.Defn) (ex : Fg → Bool) (g : Addr → Option Obj) : AlU :=
  ((He5.obsA fa fn (fragV g), ts.map fun t => He.dicW (fragV g) (t.1 (fragV g))), ex (fragV g) && He.tabsB g tf (fragV g))
theorem saysV_of {fa : List He.Fa} {fn : List He5.DefA} {ts : List He.Tab} {tf : List He.Defn} {ex : Fg → Bool} {w : World} {h : Heap} (e : seenV fa fn ts tf ex h.get? = wantU fn ts w) : SaysU fa fn ts tf ex w h (fragV h.get?) := by
  have a1 : He5.SaysA fa fn (fragV h.get?) := congrArg (fun z : AlU => z.1.1) e
  have a2 : (ts.map fun t => He.dicW (fragV h.get?) (t.1 (fragV h.get?))) = ts.map fun t => some (He.keysIn w.params t.2) := congrArg (fun z : AlU => z.1.2) e
  have a3 : (ex (fragV h.get?) && He.tabsB h.get? tf (fragV h.get?)) = true := congrArg (fun z : AlU => z.2) e
  obtain ⟨b1, b2⟩ := Bool.and_eq_true_iff.mp a3
  refine ⟨a1, a2, b1, fun p hp => ?_⟩
  obtain ⟨c1, c2⟩ := Bool.and_eq_true_iff.mp (List.all_eq_true.mp b2 p hp)
  refine ⟨c1, ?_⟩
  cases q : h.get? (He.cT (fragV h.get?) p).2 with
  | none =>
    rw [q] at c2
    cases c2
  | some o =>
    rw [q] at c2
    exact ⟨He.frT_none q c2, by rw [He.emptyTab_eq c2]⟩
def hookV (fa : List He.Fa) (fn : List He5.DefA) (ts : List He.Tab) (tf : List He.Defn) (ex : Fg → Bool) : PySem.W.Hook where
  α := AlU
  obs := fun s => seenV fa fn ts tf ex s.heap.get?
  val := fun w => wantU fn ts w
  says := fun w h => ∃ K : Fg, K.In h ∧ SaysU fa fn ts tf ex w h K
  of := fun _ _ e => ⟨_, He.frT_in, saysV_of e⟩
  keeps := fun _ _ _ z k => by
    obtain ⟨K, i, c⟩ := z
    exact ⟨K, i.keeps k, c.defs, c.tabs, c.also, fun p hp => ⟨(c.made p hp).1, (c.made p hp).2.1, k _ _ (c.made p hp).2.2⟩⟩
theorem seenV_eq {fa : List He.Fa} {fn : List He5.DefA} {ts : List He.Tab} {tf : List He.Defn} {ex : Fg → Bool} {g : Addr → Option Obj} {s : Shared} (h : ∀ a, g a = s.heap.get? a) : seenV fa fn ts tf ex g = (hookV fa fn ts tf ex).obs s := by
  have : g = s.heap.get? := funext h
  subst this
  rfl
theorem run3 {α β γ δ : Type} {o : Option α} {f : α → β} {g : α → γ} {h : α → δ} {a : β} {b : γ} {c : δ} (h1 : o.map f = some a) (h2 : o.map g = some b) (h3 : o.map h = some c) : o.map (fun s => (f s, g s, h s)) = some (a, b, c) := by
  cases o with
  | none => cases h1
  | some s =>
    have h1 : some (f s) = some a := h1
    have h2 : some (g s) = some b := h2
    have h3 : some (h s) = some c := h3
    show some (f s, g s, h s) = _
    rw [Option.some.inj h1, Option.some.inj h2, Option.some.inj h3]
end Sk
namespace Sk
open PySem PySem.Spec PyProof.Rows L2
def topS (i : Nat) : Stmt := PySem.Challenge.pw_shapekeep_k15_functions_by_hand.main.body.getD i (.Pass ⟨0, 0, 0, 0⟩)
def clsS (s : Stmt) (j : Nat) : Stmt := match s with | .ClassDef _ _ _ b _ _ _ _ _ _ _ => b.getD j (.Pass ⟨0, 0, 0, 0⟩) | _ => s
abbrev s__wall : Stmt := topS 0
theorem sc__wall : FnScope ["k"] ["k"] (defScope s__wall) := ⟨rfl, rfl, rfl, by decide +kernel, rfl, by decide +kernel, by decide +kernel⟩
def d__wall : He5.DefA := ⟨fun K => He.ga K "_wall", "_wall", "_wall", defArgs s__wall, defBody s__wall, defScope s__wall, [], []⟩
abbrev s_is_name : Stmt := topS 4
theorem sc_is_name : FnScope ["thing", "letter"] ["thing"] (defScope s_is_name) := ⟨rfl, rfl, rfl, by decide +kernel, rfl, by decide +kernel, by decide +kernel⟩
def d_is_name : He5.DefA := ⟨fun K => He.ga K "is_name", "is_name", "is_name", defArgs s_is_name, defBody s_is_name, defScope s_is_name, [], []⟩
abbrev s_same_values : Stmt := topS 5
theorem sc_same_values : FnScope ["one", "other", "name", "x", "y"] ["one", "other"] (defScope s_same_values) := ⟨rfl, rfl, rfl, by decide +kernel, rfl, by decide +kernel, by decide +kernel⟩
def d_same_values : He5.DefA := ⟨fun K => He.ga K "same_values", "same_values", "same_values", defArgs s_same_values, defBody s_same_values, defScope s_same_values, [], []⟩
abbrev s_value_at : Stmt := topS 6
theorem sc_value_at : FnScope ["names", "values", "found", "name"] ["names", "values"] (defScope s_value_at) := ⟨rfl, rfl, rfl, by decide +kernel, rfl, by decide +kernel, by decide +kernel⟩
def d_value_at : He5.DefA := ⟨fun K => He.ga K "value_at", "value_at", "value_at", defArgs s_value_at, defBody s_value_at, defScope s_value_at, [], []⟩
abbrev s_name_from : Stmt := topS 11
theorem sc_name_from : FnScope ["text", "at", "end"] ["text", "at"] (defScope s_name_from) := ⟨rfl, rfl, rfl, by decide +kernel, rfl, by decide +kernel, by decide +kernel⟩
def d_name_from : He5.DefA := ⟨fun K => He.ga K "name_from", "name_from", "name_from", defArgs s_name_from, defBody s_name_from, defScope s_name_from, [], []⟩
abbrev s_read_quoted : Stmt := topS 19
theorem sc_read_quoted : FnScope ["text", "at", "end"] ["text", "at"] (defScope s_read_quoted) := ⟨rfl, rfl, rfl, by decide +kernel, rfl, by decide +kernel, by decide +kernel⟩
def d_read_quoted : He5.DefA := ⟨fun K => He.ga K "read_quoted", "read_quoted", "read_quoted", defArgs s_read_quoted, defBody s_read_quoted, defScope s_read_quoted, [], []⟩
abbrev s_read_digits : Stmt := topS 20
theorem sc_read_digits : FnScope ["text", "at", "start", "end", "many"] ["text", "at"] (defScope s_read_digits) := ⟨rfl, rfl, rfl, by decide +kernel, rfl, by decide +kernel, by decide +kernel⟩
def d_read_digits : He5.DefA := ⟨fun K => He.ga K "read_digits", "read_digits", "read_digits", defArgs s_read_digits, defBody s_read_digits, defScope s_read_digits, [], []⟩
abbrev s_read_variable : Stmt := topS 21
theorem sc_read_variable : FnScope ["text", "at", "names"] ["text", "at"] (defScope s_read_variable) := ⟨rfl, rfl, rfl, by decide +kernel, rfl, by decide +kernel, by decide +kernel⟩
def d_read_variable : He5.DefA := ⟨fun K => He.ga K "read_variable", "read_variable", "read_variable", defArgs s_read_variable, defBody s_read_variable, defScope s_read_variable, [], []⟩
abbrev s_read_call : Stmt := topS 22
theorem sc_read_call : FnScope ["text", "at", "word", "level", "trees", "found"] ["text", "at", "word", "level"] (defScope s_read_call) := ⟨rfl, rfl, rfl, by decide +kernel, rfl, by decide +kernel, by decide +kernel⟩
def d_read_call : He5.DefA := ⟨fun K => He.ga K "read_call", "read_call", "read_call", defArgs s_read_call, defBody s_read_call, defScope s_read_call, [], []⟩
abbrev s_read_tree : Stmt := topS 23
theorem sc_read_tree : FnScope ["text", "at", "level", "word"] ["text", "at", "level"] (defScope s_read_tree) := ⟨rfl, rfl, rfl, by decide +kernel, rfl, by decide +kernel, by decide +kernel⟩
def d_read_tree : He5.DefA := ⟨fun K => He.ga K "read_tree", "read_tree", "read_tree", defArgs s_read_tree, defBody s_read_tree, defScope s_read_tree, [], []⟩
abbrev s_parse_expression : Stmt := topS 24
theorem sc_parse_expression : FnScope ["text", "found"] ["text"] (defScope s_parse_expression) := ⟨rfl, rfl, rfl, by decide +kernel, rfl, by decide +kernel, by decide +kernel⟩
def d_parse_expression : He5.DefA := ⟨fun K => He.ga K "parse_expression", "parse_expression", "parse_expression", defArgs s_parse_expression, defBody s_parse_expression, defScope s_parse_expression, [], []⟩
abbrev s_expression_text : Stmt := topS 25
theorem sc_expression_text : FnScope ["tree", "part"] ["tree"] (defScope s_expression_text) := ⟨rfl, rfl, rfl, by decide +kernel, rfl, by decide +kernel, by decide +kernel⟩
def d_expression_text : He5.DefA := ⟨fun K => He.ga K "expression_text", "expression_text", "expression_text", defArgs s_expression_text, defBody s_expression_text, defScope s_expression_text, [], []⟩
abbrev s_value_of : Stmt := topS 26
theorem sc_value_of : FnScope ["tree", "values", "part"] ["tree", "values"] (defScope s_value_of) := ⟨rfl, rfl, rfl, by decide +kernel, rfl, by decide +kernel, by decide +kernel⟩
def d_value_of : He5.DefA := ⟨fun K => He.ga K "value_of", "value_of", "value_of", defArgs s_value_of, defBody s_value_of, defScope s_value_of, [], []⟩
abbrev s_applied : Stmt := topS 27
theorem sc_applied : FnScope ["word", "found", "part"] ["word", "found"] (defScope s_applied) := ⟨rfl, rfl, rfl, by decide +kernel, rfl, by decide +kernel, by decide +kernel⟩
def d_applied : He5.DefA := ⟨fun K => He.ga K "applied", "applied", "applied", defArgs s_applied, defBody s_applied, defScope s_applied, [], []⟩
abbrev s__law_cell : Stmt := topS 30
theorem sc__law_cell : FnScope ["_law_script", "_law_k", "_law_state", "_law_cell_here"] ["_law_script", "_law_k"] (defScope s__law_cell) := ⟨rfl, rfl, rfl, by decide +kernel, rfl, by decide +kernel, by decide +kernel⟩
def d__law_cell : He5.DefA := ⟨fun K => He.ga K "_law_cell", "_law_cell", "_law_cell", defArgs s__law_cell, defBody s__law_cell, defScope s__law_cell, [], []⟩
abbrev s__law_pool : Stmt := topS 31
theorem sc__law_pool : FnScope ["_law_cell_here", "_law_digits"] ["_law_cell_here"] (defScope s__law_pool) := ⟨rfl, rfl, rfl, by decide +kernel, rfl, by decide +kernel, by decide +kernel⟩
def d__law_pool : He5.DefA := ⟨fun K => He.ga K "_law_pool", "_law_pool", "_law_pool", defArgs s__law_pool, defBody s__law_pool, defScope s__law_pool, [], []⟩
abbrev s__law_draw : Stmt := topS 32
theorem sc__law_draw : FnScope ["_law_pool_here", "_law_many", "_law_state", "_law_digit"] ["_law_pool_here", "_law_many"] (defScope s__law_draw) := ⟨rfl, rfl, rfl, by decide +kernel, rfl, by decide +kernel, by decide +kernel⟩
def d__law_draw : He5.DefA := ⟨fun K => He.ga K "_law_draw", "_law_draw", "_law_draw", defArgs s__law_draw, defBody s__law_draw, defScope s__law_draw, [], []⟩
abbrev s__law_chars : Stmt := topS 33
theorem sc__law_chars : FnScope ["_law_pool_here", "_law_menu", "_law_way", "_law_signs", "_law_k"] ["_law_pool_here"] (defScope s__law_chars) := ⟨rfl, rfl, rfl, by decide +kernel, rfl, by decide +kernel, by decide +kernel⟩
def d__law_chars : He5.DefA := ⟨fun K => He.ga K "_law_chars", "_law_chars", "_law_chars", defArgs s__law_chars, defBody s__law_chars, defScope s__law_chars, [], []⟩
abbrev s__law_number : Stmt := topS 34
theorem sc__law_number : FnScope ["_law_pool_here"] ["_law_pool_here"] (defScope s__law_number) := ⟨rfl, rfl, rfl, by decide +kernel, rfl, by decide +kernel, by decide +kernel⟩
def d__law_number : He5.DefA := ⟨fun K => He.ga K "_law_number", "_law_number", "_law_number", defArgs s__law_number, defBody s__law_number, defScope s__law_number, [], []⟩
abbrev s__law_two_right : Stmt := topS 35
theorem sc__law_two_right : FnScope ["_law_m", "_law_n", "_law_s", "_law_t", "_law_env", "_law_rows", "_law_told", "_law_row", "_law_due"] ["_law_m", "_law_n", "_law_s", "_law_t"] (defScope s__law_two_right) := ⟨rfl, rfl, rfl, by decide +kernel, rfl, by decide +kernel, by decide +kernel⟩
def d__law_two_right : He5.DefA := ⟨fun K => He.ga K "_law_two_right", "_law_two_right", "_law_two_right", defArgs s__law_two_right, defBody s__law_two_right, defScope s__law_two_right, [], []⟩
abbrev s__law_lists_right : Stmt := topS 36
theorem sc__law_lists_right : FnScope ["_law_pool_here", "_law_row", "_law_env", "_law_rows", "_law_told", "_law_each", "_law_k", "_law_due"] ["_law_pool_here"] (defScope s__law_lists_right) := ⟨rfl, rfl, rfl, by decide +kernel, rfl, by decide +kernel, by decide +kernel⟩
def d__law_lists_right : He5.DefA := ⟨fun K => He.ga K "_law_lists_right", "_law_lists_right", "_law_lists_right", defArgs s__law_lists_right, defBody s__law_lists_right, defScope s__law_lists_right, [], []⟩
abbrev s__law_right : Stmt := topS 37
theorem sc__law_right : FnScope ["_law_pool_here", "_law_turn", "_law_m", "_law_n", "_law_s", "_law_t"] ["_law_pool_here"] (defScope s__law_right) := ⟨rfl, rfl, rfl, by decide +kernel, rfl, by decide +kernel, by decide +kernel⟩
def d__law_right : He5.DefA := ⟨fun K => He.ga K "_law_right", "_law_right", "_law_right", defArgs s__law_right, defBody s__law_right, defScope s__law_right, [], []⟩
abbrev s_law : Stmt := topS 38
theorem sc_law : FnScope ["_law_script", "_law_k"] ["_law_script"] (defScope s_law) := ⟨rfl, rfl, rfl, by decide +kernel, rfl, by decide +kernel, by decide +kernel⟩
def d_law : He5.DefA := ⟨fun K => He.ga K "law", "law", "law", defArgs s_law, defBody s_law, defScope s_law, [], []⟩
abbrev s_Expression___init__ : Stmt := clsS (topS 28) 0
theorem sc_Expression___init__ : FnScope ["self", "tree"] ["self", "tree"] (defScope s_Expression___init__) := ⟨rfl, rfl, rfl, by decide +kernel, rfl, by decide +kernel, by decide +kernel⟩
def d_Expression___init__ : He5.DefA := ⟨fun K => He.ma K (He.ga K "Expression") "__init__", "__init__", "Expression.__init__", defArgs s_Expression___init__, defBody s_Expression___init__, defScope s_Expression___init__, [], []⟩
abbrev s_Expression_read : Stmt := clsS (topS 28) 1
theorem sc_Expression_read : FnScope ["cls", "text", "tree"] ["cls", "text"] (defScope s_Expression_read) := ⟨rfl, rfl, rfl, by decide +kernel, rfl, by decide +kernel, by decide +kernel⟩
def d_Expression_read : He5.DefA := ⟨fun K => He5.wf K (He.ga K "Expression") "classmethod" "read", "read", "Expression.read", defArgs s_Expression_read, defBody s_Expression_read, defScope s_Expression_read, [], []⟩
abbrev s_Expression___eq__ : Stmt := clsS (topS 28) 4
theorem sc_Expression___eq__ : FnScope ["self", "other"] ["self", "other"] (defScope s_Expression___eq__) := ⟨rfl, rfl, rfl, by decide +kernel, rfl, by decide +kernel, by decide +kernel⟩
def d_Expression___eq__ : He5.DefA := ⟨fun K => He.ma K (He.ga K "Expression") "__eq__", "__eq__", "Expression.__eq__", defArgs s_Expression___eq__, defBody s_Expression___eq__, defScope s_Expression___eq__, [], []⟩
abbrev s_Expression___str__ : Stmt := clsS (topS 28) 5
theorem sc_Expression___str__ : FnScope ["self"] ["self"] (defScope s_Expression___str__) := ⟨rfl, rfl, rfl, by decide +kernel, rfl, by decide +kernel, by decide +kernel⟩
def d_Expression___str__ : He5.DefA := ⟨fun K => He.ma K (He.ga K "Expression") "__str__", "__str__", "Expression.__str__", defArgs s_Expression___str__, defBody s_Expression___str__, defScope s_Expression___str__, [], []⟩
abbrev s_Expression___repr__ : Stmt := clsS (topS 28) 6
theorem sc_Expression___repr__ : FnScope ["self"] ["self"] (defScope s_Expression___repr__) := ⟨rfl, rfl, rfl, by decide +kernel, rfl, by decide +kernel, by decide +kernel⟩
def d_Expression___repr__ : He5.DefA := ⟨fun K => He.ma K (He.ga K "Expression") "__repr__", "__repr__", "Expression.__repr__", defArgs s_Expression___repr__, defBody s_Expression___repr__, defScope s_Expression___repr__, [], []⟩
abbrev s_Expression___call__ : Stmt := clsS (topS 28) 7
theorem sc_Expression___call__ : FnScope ["self", "values"] ["self", "values"] (defScope s_Expression___call__) := ⟨rfl, rfl, rfl, by decide +kernel, rfl, by decide +kernel, by decide +kernel⟩
def d_Expression___call__ : He5.DefA := ⟨fun K => He.ma K (He.ga K "Expression") "__call__", "__call__", "Expression.__call__", defArgs s_Expression___call__, defBody s_Expression___call__, defScope s_Expression___call__, [], []⟩
structure Top (K : PySem.W.Frag) (mg : Str → Option Value) where
  sys : SysD K
  fd__wall : FuncData
  F__wall : FunD K "_wall" "_wall" (defArgs s__wall) (defBody s__wall) (defScope s__wall) [] [] (He.ga K "_wall") fd__wall
  g__wall : mg "_wall" = some (.ref (He.ga K "_wall"))
  fd_is_name : FuncData
  F_is_name : FunD K "is_name" "is_name" (defArgs s_is_name) (defBody s_is_name) (defScope s_is_name) [] [] (He.ga K "is_name") fd_is_name
  g_is_name : mg "is_name" = some (.ref (He.ga K "is_name"))
  fd_same_values : FuncData
  F_same_values : FunD K "same_values" "same_values" (defArgs s_same_values) (defBody s_same_values) (defScope s_same_values) [] [] (He.ga K "same_values") fd_same_values
  g_same_values : mg "same_values" = some (.ref (He.ga K "same_values"))
  fd_value_at : FuncData
  F_value_at : FunD K "value_at" "value_at" (defArgs s_value_at) (defBody s_value_at) (defScope s_value_at) [] [] (He.ga K "value_at") fd_value_at
  g_value_at : mg "value_at" = some (.ref (He.ga K "value_at"))
  fd_name_from : FuncData
  F_name_from : FunD K "name_from" "name_from" (defArgs s_name_from) (defBody s_name_from) (defScope s_name_from) [] [] (He.ga K "name_from") fd_name_from
  g_name_from : mg "name_from" = some (.ref (He.ga K "name_from"))
  fd_read_quoted : FuncData
  F_read_quoted : FunD K "read_quoted" "read_quoted" (defArgs s_read_quoted) (defBody s_read_quoted) (defScope s_read_quoted) [] [] (He.ga K "read_quoted") fd_read_quoted
  g_read_quoted : mg "read_quoted" = some (.ref (He.ga K "read_quoted"))
  fd_read_digits : FuncData
  F_read_digits : FunD K "read_digits" "read_digits" (defArgs s_read_digits) (defBody s_read_digits) (defScope s_read_digits) [] [] (He.ga K "read_digits") fd_read_digits
  g_read_digits : mg "read_digits" = some (.ref (He.ga K "read_digits"))
  fd_read_variable : FuncData
  F_read_variable : FunD K "read_variable" "read_variable" (defArgs s_read_variable) (defBody s_read_variable) (defScope s_read_variable) [] [] (He.ga K "read_variable") fd_read_variable
  g_read_variable : mg "read_variable" = some (.ref (He.ga K "read_variable"))
  fd_read_call : FuncData
  F_read_call : FunD K "read_call" "read_call" (defArgs s_read_call) (defBody s_read_call) (defScope s_read_call) [] [] (He.ga K "read_call") fd_read_call
  g_read_call : mg "read_call" = some (.ref (He.ga K "read_call"))
  fd_read_tree : FuncData
  F_read_tree : FunD K "read_tree" "read_tree" (defArgs s_read_tree) (defBody s_read_tree) (defScope s_read_tree) [] [] (He.ga K "read_tree") fd_read_tree
  g_read_tree : mg "read_tree" = some (.ref (He.ga K "read_tree"))
  fd_parse_expression : FuncData
  F_parse_expression : FunD K "parse_expression" "parse_expression" (defArgs s_parse_expression) (defBody s_parse_expression) (defScope s_parse_expression) [] [] (He.ga K "parse_expression") fd_parse_expression
  g_parse_expression : mg "parse_expression" = some (.ref (He.ga K "parse_expression"))
  fd_expression_text : FuncData
  F_expression_text : FunD K "expression_text" "expression_text" (defArgs s_expression_text) (defBody s_expression_text) (defScope s_expression_text) [] [] (He.ga K "expression_text") fd_expression_text
  g_expression_text : mg "expression_text" = some (.ref (He.ga K "expression_text"))
  fd_value_of : FuncData
  F_value_of : FunD K "value_of" "value_of" (defArgs s_value_of) (defBody s_value_of) (defScope s_value_of) [] [] (He.ga K "value_of") fd_value_of
  g_value_of : mg "value_of" = some (.ref (He.ga K "value_of"))
  fd_applied : FuncData
  F_applied : FunD K "applied" "applied" (defArgs s_applied) (defBody s_applied) (defScope s_applied) [] [] (He.ga K "applied") fd_applied
  g_applied : mg "applied" = some (.ref (He.ga K "applied"))
  fd__law_cell : FuncData
  F__law_cell : FunD K "_law_cell" "_law_cell" (defArgs s__law_cell) (defBody s__law_cell) (defScope s__law_cell) [] [] (He.ga K "_law_cell") fd__law_cell
  g__law_cell : mg "_law_cell" = some (.ref (He.ga K "_law_cell"))
  fd__law_pool : FuncData
  F__law_pool : FunD K "_law_pool" "_law_pool" (defArgs s__law_pool) (defBody s__law_pool) (defScope s__law_pool) [] [] (He.ga K "_law_pool") fd__law_pool
  g__law_pool : mg "_law_pool" = some (.ref (He.ga K "_law_pool"))
  fd__law_draw : FuncData
  F__law_draw : FunD K "_law_draw" "_law_draw" (defArgs s__law_draw) (defBody s__law_draw) (defScope s__law_draw) [] [] (He.ga K "_law_draw") fd__law_draw
  g__law_draw : mg "_law_draw" = some (.ref (He.ga K "_law_draw"))
  fd__law_chars : FuncData
  F__law_chars : FunD K "_law_chars" "_law_chars" (defArgs s__law_chars) (defBody s__law_chars) (defScope s__law_chars) [] [] (He.ga K "_law_chars") fd__law_chars
  g__law_chars : mg "_law_chars" = some (.ref (He.ga K "_law_chars"))
  fd__law_number : FuncData
  F__law_number : FunD K "_law_number" "_law_number" (defArgs s__law_number) (defBody s__law_number) (defScope s__law_number) [] [] (He.ga K "_law_number") fd__law_number
  g__law_number : mg "_law_number" = some (.ref (He.ga K "_law_number"))
  fd__law_two_right : FuncData
  F__law_two_right : FunD K "_law_two_right" "_law_two_right" (defArgs s__law_two_right) (defBody s__law_two_right) (defScope s__law_two_right) [] [] (He.ga K "_law_two_right") fd__law_two_right
  g__law_two_right : mg "_law_two_right" = some (.ref (He.ga K "_law_two_right"))
  fd__law_lists_right : FuncData
  F__law_lists_right : FunD K "_law_lists_right" "_law_lists_right" (defArgs s__law_lists_right) (defBody s__law_lists_right) (defScope s__law_lists_right) [] [] (He.ga K "_law_lists_right") fd__law_lists_right
  g__law_lists_right : mg "_law_lists_right" = some (.ref (He.ga K "_law_lists_right"))
  fd__law_right : FuncData
  F__law_right : FunD K "_law_right" "_law_right" (defArgs s__law_right) (defBody s__law_right) (defScope s__law_right) [] [] (He.ga K "_law_right") fd__law_right
  g__law_right : mg "_law_right" = some (.ref (He.ga K "_law_right"))
  fd_law : FuncData
  F_law : FunD K "law" "law" (defArgs s_law) (defBody s_law) (defScope s_law) [] [] (He.ga K "law") fd_law
  g_law : mg "law" = some (.ref (He.ga K "law"))
  fd_Expression___init__ : FuncData
  F_Expression___init__ : FunD K "__init__" "Expression.__init__" (defArgs s_Expression___init__) (defBody s_Expression___init__) (defScope s_Expression___init__) [] [] (He.ma K (He.ga K "Expression") "__init__") fd_Expression___init__
  fd_Expression_read : FuncData
  F_Expression_read : FunD K "read" "Expression.read" (defArgs s_Expression_read) (defBody s_Expression_read) (defScope s_Expression_read) [] [] (He5.wf K (He.ga K "Expression") "classmethod" "read") fd_Expression_read
  fd_Expression___eq__ : FuncData
  F_Expression___eq__ : FunD K "__eq__" "Expression.__eq__" (defArgs s_Expression___eq__) (defBody s_Expression___eq__) (defScope s_Expression___eq__) [] [] (He.ma K (He.ga K "Expression") "__eq__") fd_Expression___eq__
  fd_Expression___str__ : FuncData
  F_Expression___str__ : FunD K "__str__" "Expression.__str__" (defArgs s_Expression___str__) (defBody s_Expression___str__) (defScope s_Expression___str__) [] [] (He.ma K (He.ga K "Expression") "__str__") fd_Expression___str__
  fd_Expression___repr__ : FuncData
  F_Expression___repr__ : FunD K "__repr__" "Expression.__repr__" (defArgs s_Expression___repr__) (defBody s_Expression___repr__) (defScope s_Expression___repr__) [] [] (He.ma K (He.ga K "Expression") "__repr__") fd_Expression___repr__
  fd_Expression___call__ : FuncData
  F_Expression___call__ : FunD K "__call__" "Expression.__call__" (defArgs s_Expression___call__) (defBody s_Expression___call__) (defScope s_Expression___call__) [] [] (He.ma K (He.ga K "Expression") "__call__") fd_Expression___call__
  cls_Expression : Cls K (He.ga K "Expression")
  mk_Expression : Mk K (He.ga K "Expression") (He.ma K (He.ga K "Expression") "__init__")
  cr_Expression : ClX.CRead K (He.ga K "Expression") (.type "type")
  na_Expression_tree_form : NoAttr K (He.ga K "Expression") "tree_form"
  cm_Expression_read : ClX.CMet K (He.ga K "Expression") (.type "type") "read" (He.ma K (He.ga K "Expression") "read") (cmA K "Expression" "read")
  co_Expression : StX.CallO K (He.ga K "Expression") (He.ma K (He.ga K "Expression") "__call__")
  t_LETTERS : Tok
  c_LETTERS : mg "LETTERS" = some (.str "abcdefghijklmnopqrstuvwxyz" t_LETTERS)
  t_DIGITS : Tok
  c_DIGITS : mg "DIGITS" = some (.str "0123456789" t_DIGITS)
  g_LEAST : mg "LEAST" = some (.ref (He.ga K "LEAST"))
  g_OPEN : mg "OPEN" = some (.ref (He.ga K "OPEN"))
  q_OPEN : ∀ H, SqT K H (He.ga K "OPEN") [.str "sum", .str "joined"]
  g_NOT_VARIABLES : mg "NOT_VARIABLES" = some (.ref (He.ga K "NOT_VARIABLES"))
  q_NOT_VARIABLES : ∀ H, SqT K H (He.ga K "NOT_VARIABLES") [.str "true", .str "false", .str "self"]
  t_MOST_LEVELS : Tok
  c_MOST_LEVELS : mg "MOST_LEVELS" = some (.int 8 t_MOST_LEVELS)
  t_MOST_DIGITS : Tok
  c_MOST_DIGITS : mg "MOST_DIGITS" = some (.int 15 t_MOST_DIGITS)
  t_MOST_CHARS : Tok
  c_MOST_CHARS : mg "MOST_CHARS" = some (.int 60 t_MOST_CHARS)
  g_ShapeError : mg "ShapeError" = some (.ref (He.ga K "ShapeError"))
  g_InvalidText : mg "InvalidText" = some (.ref (He.ga K "InvalidText"))
  g_Expression : mg "Expression" = some (.ref (He.ga K "Expression"))
  n_ValueError : mg "ValueError" = none
  n_abs : mg "abs" = none
  n_all : mg "all" = none
  n_bool : mg "bool" = none
  n_dict : mg "dict" = none
  n_divmod : mg "divmod" = none
  n_int : mg "int" = none
  n_isinstance : mg "isinstance" = none
  n_len : mg "len" = none
  n_max : mg "max" = none
  n_min : mg "min" = none
  n_range : mg "range" = none
  n_repr : mg "repr" = none
  n_sorted : mg "sorted" = none
  n_str : mg "str" = none
  n_sum : mg "sum" = none
  n_tuple : mg "tuple" = none
  n_zip : mg "zip" = none
structure TopD (K : PySem.W.Frag) (w : World) : Prop where
  dic_LEAST : KDic K w (He.ga K "LEAST") [("equal", .int 2), ("less", .int 2), ("not", .int 1), ("both", .int 2), ("either", .int 2), ("sum", .int 1), ("joined", .int 1), ("size", .int 1), ("has", .int 1), ("or_else", .int 2)]
section
variable {K : PySem.W.Frag} {mg : Str → Option Value}
theorem b__wall (T : Top K mg) : Binds K T.fd__wall ["k"] [] := T.F__wall.bindsN fun _ _ _ _ _ _ us hl => match us, hl with | [_], _ => rfl
theorem st__wall (v0 : V) : start ["k"] [v0] = [some v0] := rfl
abbrev Ok__wall (P : Program) (w : World) (base : Heap) (T : Top K mg) (k : Nat) (sp : Sp) : Prop := FnOk P w K mg base CX0 k (He.ga K "_wall") T.fd__wall ["k"] sp
theorem b_is_name (T : Top K mg) : Binds K T.fd_is_name ["thing"] [] := T.F_is_name.bindsN fun _ _ _ _ _ _ us hl => match us, hl with | [_], _ => rfl
theorem st_is_name (v0 : V) : start ["thing", "letter"] [v0] = [some v0, none] := rfl
abbrev Ok_is_name (P : Program) (w : World) (base : Heap) (T : Top K mg) (k : Nat) (sp : Sp) : Prop := FnOk P w K mg base CX0 k (He.ga K "is_name") T.fd_is_name ["thing"] sp
theorem b_same_values (T : Top K mg) : Binds K T.fd_same_values ["one", "other"] [] := T.F_same_values.bindsN fun _ _ _ _ _ _ us hl => match us, hl with | [_, _], _ => rfl
theorem st_same_values (v0 v1 : V) : start ["one", "other", "name", "x", "y"] [v0, v1] = [some v0, some v1, none, none, none] := rfl
abbrev Ok_same_values (P : Program) (w : World) (base : Heap) (T : Top K mg) (k : Nat) (sp : Sp) : Prop := FnOk P w K mg base CX0 k (He.ga K "same_values") T.fd_same_values ["one", "other"] sp
theorem b_value_at (T : Top K mg) : Binds K T.fd_value_at ["names", "values"] [] := T.F_value_at.bindsN fun _ _ _ _ _ _ us hl => match us, hl with | [_, _], _ => rfl
theorem st_value_at (v0 v1 : V) : start ["names", "values", "found", "name"] [v0, v1] = [some v0, some v1, none, none] := rfl
abbrev Ok_value_at (P : Program) (w : World) (base : Heap) (T : Top K mg) (k : Nat) (sp : Sp) : Prop := FnOk P w K mg base CX0 k (He.ga K "value_at") T.fd_value_at ["names", "values"] sp
theorem b_name_from (T : Top K mg) : Binds K T.fd_name_from ["text", "at"] [] := T.F_name_from.bindsN fun _ _ _ _ _ _ us hl => match us, hl with | [_, _], _ => rfl
theorem st_name_from (v0 v1 : V) : start ["text", "at", "end"] [v0, v1] = [some v0, some v1, none] := rfl
abbrev Ok_name_from (P : Program) (w : World) (base : Heap) (T : Top K mg) (k : Nat) (sp : Sp) : Prop := FnOk P w K mg base CX0 k (He.ga K "name_from") T.fd_name_from ["text", "at"] sp
theorem b_read_quoted (T : Top K mg) : Binds K T.fd_read_quoted ["text", "at"] [] := T.F_read_quoted.bindsN fun _ _ _ _ _ _ us hl => match us, hl with | [_, _], _ => rfl
theorem st_read_quoted (v0 v1 : V) : start ["text", "at", "end"] [v0, v1] = [some v0, some v1, none] := rfl
abbrev Ok_read_quoted (P : Program) (w : World) (base : Heap) (T : Top K mg) (k : Nat) (sp : Sp) : Prop := FnOk P w K mg base CX0 k (He.ga K "read_quoted") T.fd_read_quoted ["text", "at"] sp
theorem b_read_digits (T : Top K mg) : Binds K T.fd_read_digits ["text", "at"] [] := T.F_read_digits.bindsN fun _ _ _ _ _ _ us hl => match us, hl with | [_, _], _ => rfl
theorem st_read_digits (v0 v1 : V) : start ["text", "at", "start", "end", "many"] [v0, v1] = [some v0, some v1, none, none, none] := rfl
abbrev Ok_read_digits (P : Program) (w : World) (base : Heap) (T : Top K mg) (k : Nat) (sp : Sp) : Prop := FnOk P w K mg base CX0 k (He.ga K "read_digits") T.fd_read_digits ["text", "at"] sp
theorem b_read_variable (T : Top K mg) : Binds K T.fd_read_variable ["text", "at"] [] := T.F_read_variable.bindsN fun _ _ _ _ _ _ us hl => match us, hl with | [_, _], _ => rfl
theorem st_read_variable (v0 v1 : V) : start ["text", "at", "names"] [v0, v1] = [some v0, some v1, none] := rfl
abbrev Ok_read_variable (P : Program) (w : World) (base : Heap) (T : Top K mg) (k : Nat) (sp : Sp) : Prop := FnOk P w K mg base CX0 k (He.ga K "read_variable") T.fd_read_variable ["text", "at"] sp
theorem b_read_call (T : Top K mg) : Binds K T.fd_read_call ["text", "at", "word", "level"] [] := T.F_read_call.bindsN fun _ _ _ _ _ _ us hl => match us, hl with | [_, _, _, _], _ => rfl
theorem st_read_call (v0 v1 v2 v3 : V) : start ["text", "at", "word", "level", "trees", "found"] [v0, v1, v2, v3] = [some v0, some v1, some v2, some v3, none, none] := rfl
abbrev Ok_read_call (P : Program) (w : World) (base : Heap) (T : Top K mg) (k : Nat) (sp : Sp) : Prop := FnOk P w K mg base CX0 k (He.ga K "read_call") T.fd_read_call ["text", "at", "word", "level"] sp
theorem b_read_tree (T : Top K mg) : Binds K T.fd_read_tree ["text", "at", "level"] [] := T.F_read_tree.bindsN fun _ _ _ _ _ _ us hl => match us, hl with | [_, _, _], _ => rfl
theorem st_read_tree (v0 v1 v2 : V) : start ["text", "at", "level", "word"] [v0, v1, v2] = [some v0, some v1, some v2, none] := rfl
abbrev Ok_read_tree (P : Program) (w : World) (base : Heap) (T : Top K mg) (k : Nat) (sp : Sp) : Prop := FnOk P w K mg base CX0 k (He.ga K "read_tree") T.fd_read_tree ["text", "at", "level"] sp
theorem b_parse_expression (T : Top K mg) : Binds K T.fd_parse_expression ["text"] [] := T.F_parse_expression.bindsN fun _ _ _ _ _ _ us hl => match us, hl with | [_], _ => rfl
theorem st_parse_expression (v0 : V) : start ["text", "found"] [v0] = [some v0, none] := rfl
abbrev Ok_parse_expression (P : Program) (w : World) (base : Heap) (T : Top K mg) (k : Nat) (sp : Sp) : Prop := FnOk P w K mg base CX0 k (He.ga K "parse_expression") T.fd_parse_expression ["text"] sp
theorem b_expression_text (T : Top K mg) : Binds K T.fd_expression_text ["tree"] [] := T.F_expression_text.bindsN fun _ _ _ _ _ _ us hl => match us, hl with | [_], _ => rfl
theorem st_expression_text (v0 : V) : start ["tree", "part"] [v0] = [some v0, none] := rfl
abbrev Ok_expression_text (P : Program) (w : World) (base : Heap) (T : Top K mg) (k : Nat) (sp : Sp) : Prop := FnOk P w K mg base CX0 k (He.ga K "expression_text") T.fd_expression_text ["tree"] sp
theorem b_value_of (T : Top K mg) : Binds K T.fd_value_of ["tree", "values"] [] := T.F_value_of.bindsN fun _ _ _ _ _ _ us hl => match us, hl with | [_, _], _ => rfl
theorem st_value_of (v0 v1 : V) : start ["tree", "values", "part"] [v0, v1] = [some v0, some v1, none] := rfl
abbrev Ok_value_of (P : Program) (w : World) (base : Heap) (T : Top K mg) (k : Nat) (sp : Sp) : Prop := FnOk P w K mg base CX0 k (He.ga K "value_of") T.fd_value_of ["tree", "values"] sp
theorem b_applied (T : Top K mg) : Binds K T.fd_applied ["word", "found"] [] := T.F_applied.bindsN fun _ _ _ _ _ _ us hl => match us, hl with | [_, _], _ => rfl
theorem st_applied (v0 v1 : V) : start ["word", "found", "part"] [v0, v1] = [some v0, some v1, none] := rfl
abbrev Ok_applied (P : Program) (w : World) (base : Heap) (T : Top K mg) (k : Nat) (sp : Sp) : Prop := FnOk P w K mg base CX0 k (He.ga K "applied") T.fd_applied ["word", "found"] sp
theorem b__law_cell (T : Top K mg) : Binds K T.fd__law_cell ["_law_script", "_law_k"] [] := T.F__law_cell.bindsN fun _ _ _ _ _ _ us hl => match us, hl with | [_, _], _ => rfl
theorem st__law_cell (v0 v1 : V) : start ["_law_script", "_law_k", "_law_state", "_law_cell_here"] [v0, v1] = [some v0, some v1, none, none] := rfl
abbrev Ok__law_cell (P : Program) (w : World) (base : Heap) (T : Top K mg) (k : Nat) (sp : Sp) : Prop := FnOk P w K mg base CX0 k (He.ga K "_law_cell") T.fd__law_cell ["_law_script", "_law_k"] sp
theorem b__law_pool (T : Top K mg) : Binds K T.fd__law_pool ["_law_cell_here"] [] := T.F__law_pool.bindsN fun _ _ _ _ _ _ us hl => match us, hl with | [_], _ => rfl
theorem st__law_pool (v0 : V) : start ["_law_cell_here", "_law_digits"] [v0] = [some v0, none] := rfl
abbrev Ok__law_pool (P : Program) (w : World) (base : Heap) (T : Top K mg) (k : Nat) (sp : Sp) : Prop := FnOk P w K mg base CX0 k (He.ga K "_law_pool") T.fd__law_pool ["_law_cell_here"] sp
theorem b__law_draw (T : Top K mg) : Binds K T.fd__law_draw ["_law_pool_here", "_law_many"] [] := T.F__law_draw.bindsN fun _ _ _ _ _ _ us hl => match us, hl with | [_, _], _ => rfl
theorem st__law_draw (v0 v1 : V) : start ["_law_pool_here", "_law_many", "_law_state", "_law_digit"] [v0, v1] = [some v0, some v1, none, none] := rfl
abbrev Ok__law_draw (P : Program) (w : World) (base : Heap) (T : Top K mg) (k : Nat) (sp : Sp) : Prop := FnOk P w K mg base CX0 k (He.ga K "_law_draw") T.fd__law_draw ["_law_pool_here", "_law_many"] sp
theorem b__law_chars (T : Top K mg) : Binds K T.fd__law_chars ["_law_pool_here"] [] := T.F__law_chars.bindsN fun _ _ _ _ _ _ us hl => match us, hl with | [_], _ => rfl
theorem st__law_chars (v0 : V) : start ["_law_pool_here", "_law_menu", "_law_way", "_law_signs", "_law_k"] [v0] = [some v0, none, none, none, none] := rfl
abbrev Ok__law_chars (P : Program) (w : World) (base : Heap) (T : Top K mg) (k : Nat) (sp : Sp) : Prop := FnOk P w K mg base CX0 k (He.ga K "_law_chars") T.fd__law_chars ["_law_pool_here"] sp
theorem b__law_number (T : Top K mg) : Binds K T.fd__law_number ["_law_pool_here"] [] := T.F__law_number.bindsN fun _ _ _ _ _ _ us hl => match us, hl with | [_], _ => rfl
theorem st__law_number (v0 : V) : start ["_law_pool_here"] [v0] = [some v0] := rfl
abbrev Ok__law_number (P : Program) (w : World) (base : Heap) (T : Top K mg) (k : Nat) (sp : Sp) : Prop := FnOk P w K mg base CX0 k (He.ga K "_law_number") T.fd__law_number ["_law_pool_here"] sp
theorem b__law_two_right (T : Top K mg) : Binds K T.fd__law_two_right ["_law_m", "_law_n", "_law_s", "_law_t"] [] := T.F__law_two_right.bindsN fun _ _ _ _ _ _ us hl => match us, hl with | [_, _, _, _], _ => rfl
theorem st__law_two_right (v0 v1 v2 v3 : V) : start ["_law_m", "_law_n", "_law_s", "_law_t", "_law_env", "_law_rows", "_law_told", "_law_row", "_law_due"] [v0, v1, v2, v3] = [some v0, some v1, some v2, some v3, none, none, none, none, none] := rfl
abbrev Ok__law_two_right (P : Program) (w : World) (base : Heap) (T : Top K mg) (k : Nat) (sp : Sp) : Prop := FnOk P w K mg base CX0 k (He.ga K "_law_two_right") T.fd__law_two_right ["_law_m", "_law_n", "_law_s", "_law_t"] sp
theorem b__law_lists_right (T : Top K mg) : Binds K T.fd__law_lists_right ["_law_pool_here"] [] := T.F__law_lists_right.bindsN fun _ _ _ _ _ _ us hl => match us, hl with | [_], _ => rfl
theorem st__law_lists_right (v0 : V) : start ["_law_pool_here", "_law_row", "_law_env", "_law_rows", "_law_told", "_law_each", "_law_k", "_law_due"] [v0] = [some v0, none, none, none, none, none, none, none] := rfl
abbrev Ok__law_lists_right (P : Program) (w : World) (base : Heap) (T : Top K mg) (k : Nat) (sp : Sp) : Prop := FnOk P w K mg base CX0 k (He.ga K "_law_lists_right") T.fd__law_lists_right ["_law_pool_here"] sp
theorem b__law_right (T : Top K mg) : Binds K T.fd__law_right ["_law_pool_here"] [] := T.F__law_right.bindsN fun _ _ _ _ _ _ us hl => match us, hl with | [_], _ => rfl
theorem st__law_right (v0 : V) : start ["_law_pool_here", "_law_turn", "_law_m", "_law_n", "_law_s", "_law_t"] [v0] = [some v0, none, none, none, none, none] := rfl
abbrev Ok__law_right (P : Program) (w : World) (base : Heap) (T : Top K mg) (k : Nat) (sp : Sp) : Prop := FnOk P w K mg base CX0 k (He.ga K "_law_right") T.fd__law_right ["_law_pool_here"] sp
theorem b_law (T : Top K mg) : Binds K T.fd_law ["_law_script"] [] := T.F_law.bindsN fun _ _ _ _ _ _ us hl => match us, hl with | [_], _ => rfl
theorem st_law (v0 : V) : start ["_law_script", "_law_k"] [v0] = [some v0, none] := rfl
abbrev Ok_law (P : Program) (w : World) (base : Heap) (T : Top K mg) (k : Nat) (sp : Sp) : Prop := FnOk P w K mg base CX0 k (He.ga K "law") T.fd_law ["_law_script"] sp
theorem b_Expression___init__ (T : Top K mg) : Binds K T.fd_Expression___init__ ["self", "tree"] [] := T.F_Expression___init__.bindsN fun _ _ _ _ _ _ us hl => match us, hl with | [_, _], _ => rfl
theorem st_Expression___init__ (v0 v1 : V) : start ["self", "tree"] [v0, v1] = [some v0, some v1] := rfl
abbrev Ok_Expression___init__ (P : Program) (w : World) (base : Heap) (T : Top K mg) (k : Nat) (sp : Sp) : Prop := FnOk P w K mg base CX0 k (He.ma K (He.ga K "Expression") "__init__") T.fd_Expression___init__ ["self", "tree"] sp
theorem b_Expression_read (T : Top K mg) : Binds K T.fd_Expression_read ["cls", "text"] [] := T.F_Expression_read.bindsN fun _ _ _ _ _ _ us hl => match us, hl with | [_, _], _ => rfl
theorem st_Expression_read (v0 v1 : V) : start ["cls", "text", "tree"] [v0, v1] = [some v0, some v1, none] := rfl
abbrev Ok_Expression_read (P : Program) (w : World) (base : Heap) (T : Top K mg) (k : Nat) (sp : Sp) : Prop := FnOk P w K mg base CX0 k (He5.wf K (He.ga K "Expression") "classmethod" "read") T.fd_Expression_read ["cls", "text"] sp
theorem b_Expression___eq__ (T : Top K mg) : Binds K T.fd_Expression___eq__ ["self", "other"] [] := T.F_Expression___eq__.bindsN fun _ _ _ _ _ _ us hl => match us, hl with | [_, _], _ => rfl
theorem st_Expression___eq__ (v0 v1 : V) : start ["self", "other"] [v0, v1] = [some v0, some v1] := rfl
abbrev Ok_Expression___eq__ (P : Program) (w : World) (base : Heap) (T : Top K mg) (k : Nat) (sp : Sp) : Prop := FnOk P w K mg base CX0 k (He.ma K (He.ga K "Expression") "__eq__") T.fd_Expression___eq__ ["self", "other"] sp
theorem b_Expression___str__ (T : Top K mg) : Binds K T.fd_Expression___str__ ["self"] [] := T.F_Expression___str__.bindsN fun _ _ _ _ _ _ us hl => match us, hl with | [_], _ => rfl
theorem st_Expression___str__ (v0 : V) : start ["self"] [v0] = [some v0] := rfl
abbrev Ok_Expression___str__ (P : Program) (w : World) (base : Heap) (T : Top K mg) (k : Nat) (sp : Sp) : Prop := FnOk P w K mg base CX0 k (He.ma K (He.ga K "Expression") "__str__") T.fd_Expression___str__ ["self"] sp
theorem b_Expression___repr__ (T : Top K mg) : Binds K T.fd_Expression___repr__ ["self"] [] := T.F_Expression___repr__.bindsN fun _ _ _ _ _ _ us hl => match us, hl with | [_], _ => rfl
theorem st_Expression___repr__ (v0 : V) : start ["self"] [v0] = [some v0] := rfl
abbrev Ok_Expression___repr__ (P : Program) (w : World) (base : Heap) (T : Top K mg) (k : Nat) (sp : Sp) : Prop := FnOk P w K mg base CX0 k (He.ma K (He.ga K "Expression") "__repr__") T.fd_Expression___repr__ ["self"] sp
theorem b_Expression___call__ (T : Top K mg) : Binds K T.fd_Expression___call__ ["self", "values"] [] := T.F_Expression___call__.bindsN fun _ _ _ _ _ _ us hl => match us, hl with | [_, _], _ => rfl
theorem st_Expression___call__ (v0 v1 : V) : start ["self", "values"] [v0, v1] = [some v0, some v1] := rfl
abbrev Ok_Expression___call__ (P : Program) (w : World) (base : Heap) (T : Top K mg) (k : Nat) (sp : Sp) : Prop := FnOk P w K mg base CX0 k (He.ma K (He.ga K "Expression") "__call__") T.fd_Expression___call__ ["self", "values"] sp
end
end Sk
namespace Sk
open PySem PySem.Spec PyProof.Rows L2
def fn : List He5.DefA := [d__wall, d_is_name, d_same_values, d_value_at, d_name_from, d_read_quoted, d_read_digits, d_read_variable, d_read_call, d_read_tree, d_parse_expression, d_expression_text, d_value_of, d_applied, d__law_cell, d__law_pool, d__law_draw, d__law_chars, d__law_number, d__law_two_right, d__law_lists_right, d__law_right, d_law, d_Expression___init__, d_Expression_read, d_Expression___eq__, d_Expression___str__, d_Expression___repr__, d_Expression___call__]
def tab_LEAST : List (Str × He.Dv) := [("equal", .int 2), ("less", .int 2), ("not", .int 1), ("both", .int 2), ("either", .int 2), ("sum", .int 1), ("joined", .int 1), ("size", .int 1), ("has", .int 1), ("or_else", .int 2)]
def fa : List He.Fa := [.glo "_wall", .glo "is_name", .glo "same_values", .glo "value_at", .glo "name_from", .glo "read_quoted", .glo "read_digits", .glo "read_variable", .glo "read_call", .glo "read_tree", .glo "parse_expression", .glo "expression_text", .glo "value_of", .glo "applied", .glo "_law_cell", .glo "_law_pool", .glo "_law_draw", .glo "_law_chars", .glo "_law_number", .glo "_law_two_right", .glo "_law_lists_right", .glo "_law_right", .glo "law", .glo "ShapeError", .glo "InvalidText", .glo "Expression", .cls "Expression", .mkr "Expression", .noat "Expression" "tree_form", .str "LETTERS" "abcdefghijklmnopqrstuvwxyz", .str "DIGITS" "0123456789", .glo "LEAST", .glo "OPEN", .glo "NOT_VARIABLES", .int "MOST_LEVELS" 8, .int "MOST_DIGITS" 15, .int "MOST_CHARS" 60, .free "ValueError", .free "abs", .free "all", .free "bool", .free "dict", .free "divmod", .free "int", .free "isinstance", .free "len", .free "max", .free "min", .free "range", .free "repr", .free "sorted", .free "str", .free "sum", .free "tuple", .free "zip"]
def ex (K : PySem.W.Frag) : Bool := (He.dictB K sysModules && (creadB K "Expression" && (cmetB K "Expression" "read" && (callB K "Expression" && (He.tupB K "OPEN" [.str "sum", .str "joined"] && (He.tupB K "NOT_VARIABLES" [.str "true", .str "false", .str "self"] && (He.valsB K (He.ga K "LEAST") tab_LEAST && true)))))))
def ts : List He.Tab := [(fun K => He.ga K "LEAST", tab_LEAST.map (·.1))]
def tf : List He.Defn := []
abbrev R : PySem.W.OpenRow := PySem.W.OpenLaw.row PySem.Challenge.rw_shapekeep_k15_functions_by_hand
abbrev hk : PySem.W.Hook := hookU 6 fa fn ts tf ex
def ob (s : PySem.W.SharedT) : AlU := seenU 6 fa fn ts tf ex (HandSHeadRun.getT s)
theorem ob_eq (s : PySem.W.SharedT) : ob s = hk.obs s.abs := seenU_eq (HandSHeadRun.getT_eq s)
def loose0 : List PySem.Str := ["_wall", "LETTERS", "DIGITS", "is_name", "same_values", "value_at", "ShapeError", "InvalidText", "name_from", "LEAST", "OPEN", "NOT_VARIABLES", "MOST_LEVELS", "MOST_DIGITS", "MOST_CHARS", "read_quoted", "read_digits", "read_variable", "read_call", "read_tree", "parse_expression", "expression_text", "value_of", "applied"]
def loose1 : List PySem.Str := ["Expression", "_law_cell", "_law_pool", "_law_draw", "_law_chars", "_law_number", "_law_two_right", "_law_lists_right", "_law_right"]
def loose : List PySem.Str := loose0 ++ loose1
theorem runF (w : World) : HandSHeadRun.RunEq R (PySem.W.view R.prog [38]) hk ob 4000 loose (w.withFollow "special-get-raises" false) := by
  intro os
  kernel_rfl
theorem runT (w : World) : HandSHeadRun.RunEq R (PySem.W.view R.prog [38]) hk ob 4000 loose (w.withFollow "special-get-raises" true) := by
  intro os
  kernel_rfl
theorem run (w : World) : HandSHeadRun.RunEq R (PySem.W.view R.prog [38]) hk ob 4000 loose w := PySem.W.byRow2 "special-get-raises" (P := fun w => HandSHeadRun.RunEq R (PySem.W.view R.prog [38]) hk ob 4000 loose w) runF runT w
end Sk
/-! Sk: expressions: how they are read, what they are in a heap, their values -/
namespace Sk
open PySem PySem.Spec PyProof.Rows L2
def mkS (l : List Nat) : Str := ⟨l.toArray⟩
theorem mk_list (l : List Nat) : (mkS l).cps.toList = l := rfl
theorem mk_sl (z : Str) : mkS z.cps.toList = z := str_ext rfl
theorem mk_len (l : List Nat) : (mkS l).length = l.length := by rw [len_list]; rfl
theorem mk_eq {z : Str} {l : List Nat} (h : z.cps.toList = l) : z = mkS l := str_ext h
theorem cut_nat (z : Str) (i j : Nat) : cutS z (some (i : Int)) (some (j : Int)) = mkS ((z.cps.toList.drop i).take (j - i)) := by
  refine str_ext ?_
  have l := len_list z
  unfold cutS
  rw [HT.sIx_nat, HT.sIx_nat, mk_list]
  show (z.cps.toList.drop (min i z.length)).take (min j z.length - min i z.length) = _
  rcases Nat.le_total i z.length with h | h
  · rw [Nat.min_eq_left h]
    rcases Nat.le_total j z.length with h2 | h2
    · rw [Nat.min_eq_left h2]
    · rw [Nat.min_eq_right h2, List.take_of_length_le (by rw [List.length_drop]; omega), List.take_of_length_le (by rw [List.length_drop]; omega)]
  · rw [Nat.min_eq_right h, List.drop_eq_nil_of_le (by omega), List.drop_eq_nil_of_le (by omega)]
    simp
theorem cut_from (z : Str) (i : Nat) : cutS z (some (i : Int)) none = mkS (z.cps.toList.drop i) := by
  refine str_ext ?_
  have l := len_list z
  unfold cutS
  rw [HT.sIx_nat, HT.sIx_none, mk_list]
  show (z.cps.toList.drop (min i z.length)).take (z.length - min i z.length) = _
  rcases Nat.le_total i z.length with h | h
  · rw [Nat.min_eq_left h, List.take_of_length_le (by rw [List.length_drop]; omega)]
  · rw [Nat.min_eq_right h, List.drop_eq_nil_of_le (by omega), List.drop_eq_nil_of_le (by omega)]
    simp
/-! ### reading -/
def dgt (c : Nat) : Bool := Nat.ble 48 c && Nat.ble c 57
inductive Ex where
  | text (z : List Nat)
  | num (i : Int)
  | flag (b : Bool)
  | get (ns : List (List Nat))
  | call (w : Str) (xs : List Ex)
def nameAt (cs : List Nat) : List Nat := cs.takeWhile low
def nmOk (l : List Nat) : Bool := Nat.ble 1 l.length && Nat.ble l.length 12
def quo (c : Nat) : Bool := !(c == 34 || c == 123 || c == 125 || c == 10)
/-- behind the opening quote -/
def rQuoted (cs : List Nat) : Option (Ex × List Nat) := match cs.drop (cs.takeWhile quo).length with
  | [] => none
  | c :: r => if c == 34 && Nat.ble (cs.takeWhile quo).length 60 then some (.text (cs.takeWhile quo), r) else none
def numOf (neg : Bool) (d : List Nat) : Int := if neg then -((NumText.digitsVal d : Nat) : Int) else ((NumText.digitsVal d : Nat) : Int)
/-- neg: a minus ahead -/
def rDig (neg : Bool) (cs : List Nat) : Option (Ex × List Nat) :=
  if (cs.takeWhile dgt).length == 0 || (Nat.blt 15 (cs.takeWhile dgt).length || (cs.head? == some 48 && (Nat.blt 1 (cs.takeWhile dgt).length || neg))) then none
  else some (.num (numOf neg (cs.takeWhile dgt)), cs.drop (cs.takeWhile dgt).length)
def rFields : Nat → List Nat → Option (List (List Nat) × List Nat)
  | 0, cs => some ([], cs)
  | _ + 1, [] => some ([], [])
  | n + 1, c :: t => if c == 46 then (if nmOk (nameAt t) then (rFields n (t.drop (nameAt t).length)).map fun p => (nameAt t :: p.1, p.2) else none) else some ([], c :: t)
def notVar : List (List Nat) := [(Str.ofString "true").cps.toList, (Str.ofString "false").cps.toList, (Str.ofString "self").cps.toList]
def rVar (cs : List Nat) : Option (Ex × List Nat) :=
  if nmOk (nameAt cs) && !notVar.contains (nameAt cs) then (rFields (cs.drop (nameAt cs).length).length (cs.drop (nameAt cs).length)).map fun p => (.get (nameAt cs :: p.1), p.2) else none
def leastE : List (Str × Nat) := [("equal", 2), ("less", 2), ("not", 1), ("both", 2), ("either", 2), ("sum", 1), ("joined", 1), ("size", 1), ("has", 1), ("or_else", 2)]
def wordAt (cs : List Nat) : List (Str × Nat) → Option ((Str × Nat) × List Nat)
  | [] => none
  | w :: r => if (w.1.cps.toList ++ [40]).isPrefixOf cs then some (w, cs.drop (w.1.length + 1)) else wordAt cs r
def rArgs (f : List Nat → Option (Ex × List Nat)) : Nat → List Nat → Option (List Ex × List Nat)
  | 0, _ => none
  | n + 1, cs => match f cs with
    | none => none
    | some (e, r) => if r.take 1 == [41] then some ([e], r.drop 1) else if r.take 2 == [44, 32] then (rArgs f n (r.drop 2)).map fun p => (e :: p.1, p.2) else none
def isOpen (w : Str) : Bool := w.cps.toList == (Str.ofString "sum").cps.toList || w.cps.toList == (Str.ofString "joined").cps.toList
def arOk (w : Str × Nat) (n : Nat) : Bool := !(Nat.blt n w.2 || (Nat.blt w.2 n && !isOpen w.1))
def rCall (f : List Nat → Option (Ex × List Nat)) (w : Str × Nat) (cs : List Nat) : Option (Ex × List Nat) := match rArgs f (cs.length + 1) cs with
  | none => none
  | some (xs, u) => if arOk w xs.length then some (.call w.1 xs, u) else none
/-- n levels are left -/
def rTree : Nat → List Nat → Option (Ex × List Nat)
  | 0, _ => none
  | _ + 1, [] => none
  | n + 1, c :: r => if c == 34 then rQuoted r else if c == 45 then rDig true r else if dgt c then rDig false (c :: r) else match wordAt (c :: r) leastE with
    | some (w, t) => rCall (rTree n) w t
    | none => if nameAt (c :: r) == (Str.ofString "true").cps.toList then some (.flag true, (c :: r).drop 4) else if nameAt (c :: r) == (Str.ofString "false").cps.toList then some (.flag false, (c :: r).drop 5) else rVar (c :: r)
def parseE (cs : List Nat) : Option Ex := match rTree 8 cs with
  | some (e, []) => some e
  | _ => none
/-! ### what is left is an end of the text -/
def Tail (r cs : List Nat) : Prop := ∃ p, cs = p ++ r
theorem Tail.refl (cs : List Nat) : Tail cs cs := ⟨[], rfl⟩
theorem Tail.trans {a b c : List Nat} (h : Tail a b) (k : Tail b c) : Tail a c := by
  obtain ⟨p, rfl⟩ := h
  obtain ⟨q, rfl⟩ := k
  exact ⟨q ++ p, by simp⟩
theorem tail_drop (n : Nat) (cs : List Nat) : Tail (cs.drop n) cs := ⟨cs.take n, (List.take_append_drop n cs).symm⟩
theorem Tail.len {a b : List Nat} (h : Tail a b) : a.length ≤ b.length := by
  obtain ⟨p, rfl⟩ := h
  rw [List.length_append]
  omega
theorem tail_cons {a : List Nat} {c : Nat} {b : List Nat} (h : Tail a b) : Tail a (c :: b) := h.trans ⟨[c], rfl⟩
theorem quoted_tail {cs r : List Nat} {e : Ex} (h : rQuoted cs = some (e, r)) : Tail r cs := by
  unfold rQuoted at h
  split at h
  · cases h
  · rename_i c t q
    split at h
    · cases h
      exact (tail_cons (Tail.refl _)).trans (q ▸ tail_drop _ cs)
    · cases h
theorem dig_tail {cs r : List Nat} {e : Ex} {neg : Bool} (h : rDig neg cs = some (e, r)) : Tail r cs := by
  unfold rDig at h
  split at h
  · cases h
  · cases h
    exact tail_drop _ cs
theorem fields_tail : ∀ (n : Nat) {cs r : List Nat} {l : List (List Nat)}, rFields n cs = some (l, r) → Tail r cs
  | 0, cs, r, l, h => by
    cases h
    exact Tail.refl _
  | n + 1, [], r, l, h => by
    cases h
    exact Tail.refl _
  | n + 1, c :: t, r, l, h => by
    unfold rFields at h
    split at h
    · split at h
      · obtain ⟨p, h1, h2⟩ := Option.map_eq_some_iff.mp h
        obtain ⟨p1, p2⟩ := p
        cases h2
        exact tail_cons ((fields_tail n h1).trans (tail_drop _ _))
      · cases h
    · cases h
      exact Tail.refl _
theorem var_tail {cs r : List Nat} {e : Ex} (h : rVar cs = some (e, r)) : Tail r cs := by
  unfold rVar at h
  split at h
  · obtain ⟨⟨p1, p2⟩, h1, h2⟩ := Option.map_eq_some_iff.mp h
    cases h2
    exact (fields_tail _ h1).trans (tail_drop _ _)
  · cases h
theorem word_tail {cs : List Nat} {w : Str × Nat} {t : List Nat} : ∀ {ws : List (Str × Nat)}, wordAt cs ws = some (w, t) → Tail t cs
  | [], h => by cases h
  | x :: r, h => by
    unfold wordAt at h
    split at h
    · cases h
      exact tail_drop _ _
    · exact word_tail h
theorem args_tail {f : List Nat → Option (Ex × List Nat)} (hf : ∀ cs e r, f cs = some (e, r) → Tail r cs) : ∀ (n : Nat) {cs r : List Nat} {l : List Ex}, rArgs f n cs = some (l, r) → Tail r cs
  | 0, cs, r, l, h => by cases h
  | n + 1, cs, r, l, h => by
    unfold rArgs at h
    split at h
    · cases h
    · rename_i e t q
      have ht := hf _ _ _ q
      split at h
      · cases h
        exact (tail_drop _ _).trans ht
      · split at h
        · obtain ⟨⟨p1, p2⟩, h1, h2⟩ := Option.map_eq_some_iff.mp h
          cases h2
          exact ((args_tail hf n h1).trans (tail_drop _ _)).trans ht
        · cases h
theorem call_tail {f : List Nat → Option (Ex × List Nat)} (hf : ∀ cs e r, f cs = some (e, r) → Tail r cs) {w : Str × Nat} {cs r : List Nat} {e : Ex} (h : rCall f w cs = some (e, r)) : Tail r cs := by
  unfold rCall at h
  split at h
  · cases h
  · rename_i xs u q
    split at h
    · cases h
      exact args_tail hf _ q
    · cases h
theorem tree_tail : ∀ (n : Nat) (cs : List Nat) (e : Ex) (r : List Nat), rTree n cs = some (e, r) → Tail r cs
  | 0, _, _, _, h => by cases h
  | n + 1, [], _, _, h => by cases h
  | n + 1, c :: t, e, r, h => by
    unfold rTree at h
    split at h
    · exact tail_cons (quoted_tail h)
    split at h
    · exact tail_cons (dig_tail h)
    split at h
    · exact dig_tail h
    split at h
    · rename_i w t' q
      exact (call_tail (tree_tail n) h).trans (word_tail q)
    split at h
    · cases h
      exact tail_drop _ _
    split at h
    · cases h
      exact tail_drop _ _
    exact var_tail h
/-! ### as they stand in a heap -/
mutual
inductive ExV (H : Hp) : V → Ex → Prop
  | text {a : Addr} {z : List Nat} : H a = some (.tup [.str "text", .str (mkS z)]) → ExV H (.ref a) (.text z)
  | num {a : Addr} {i : Int} : H a = some (.tup [.str "number", .int i]) → ExV H (.ref a) (.num i)
  | flag {a : Addr} {b : Bool} : H a = some (.tup [.str "flag", .bl b]) → ExV H (.ref a) (.flag b)
  | get {a q : Addr} {ns : List (List Nat)} : H a = some (.tup [.str "get", .ref q]) → H q = some (.tup (ns.map fun n => .str (mkS n))) → ns ≠ [] → ExV H (.ref a) (.get ns)
  | call {a q : Addr} {w : Str} {vs : List V} {xs : List Ex} : H a = some (.tup [.str "call", .str w, .ref q]) → H q = some (.tup vs) → ExVs H vs xs → ExV H (.ref a) (.call w xs)
inductive ExVs (H : Hp) : List V → List Ex → Prop
  | nil : ExVs H [] []
  | cons {v : V} {vs : List V} {x : Ex} {xs : List Ex} : ExV H v x → ExVs H vs xs → ExVs H (v :: vs) (x :: xs)
end
def TupS (H H' : Hp) : Prop := ∀ b xs, H b = some (.tup xs) → H' b = some (.tup xs)
theorem tupS_of {H H' : Hp} (s : Same H H') : TupS H H' := fun b xs h => s b _ h
mutual
theorem ExV.on {H H' : Hp} (s : TupS H H') : ∀ {v : V} {e : Ex}, ExV H v e → ExV H' v e
  | _, _, .text h => .text (s _ _ h)
  | _, _, .num h => .num (s _ _ h)
  | _, _, .flag h => .flag (s _ _ h)
  | _, _, .get h1 h2 h3 => .get (s _ _ h1) (s _ _ h2) h3
  | _, _, .call h1 h2 h3 => .call (s _ _ h1) (s _ _ h2) (ExVs.on s h3)
theorem ExVs.on {H H' : Hp} (s : TupS H H') : ∀ {vs : List V} {es : List Ex}, ExVs H vs es → ExVs H' vs es
  | _, _, .nil => .nil
  | _, _, .cons h1 h2 => .cons (ExV.on s h1) (ExVs.on s h2)
end
theorem ExVs.length {H : Hp} : ∀ {vs : List V} {es : List Ex}, ExVs H vs es → vs.length = es.length
  | _, _, .nil => rfl
  | _, _, .cons _ h => congrArg (· + 1) h.length
theorem ExVs.app {H : Hp} : ∀ {vs : List V} {es : List Ex} {v : V} {e : Ex}, ExVs H vs es → ExV H v e → ExVs H (vs ++ [v]) (es ++ [e])
  | _, _, _, _, .nil, h => .cons h .nil
  | _, _, _, _, .cons a b, h => .cons a (b.app h)
theorem ExVs.at {H : Hp} : ∀ {vs : List V} {es : List Ex}, ExVs H vs es → ∀ (i : Nat) v, vs[i]? = some v → ∃ e, es[i]? = some e ∧ ExV H v e
  | _, _, .nil, i, v, h => by simp at h
  | _, _, .cons h _, 0, v, e => by
    cases e
    exact ⟨_, rfl, h⟩
  | _, _, .cons _ h, i + 1, v, e => by
    obtain ⟨n, e1, e2⟩ := h.at i v (by simpa using e)
    exact ⟨n, by simpa using e1, e2⟩
end Sk
/-! Sk: while by an invariant; places in a text -/
namespace Sk
open PySem PySem.Spec PyProof.Rows L2
theorem while_up {t : TT} {tb : TS} {D : Ends} {σ : L2.St} {H : Hp} (Pv : L2.St → Hp → Prop) (μ : L2.St → Hp → Nat) (h0 : Pv σ H)
    (hs : ∀ σ H, Pv σ H → t σ H fun b H1 => br b (tb { D with nx := fun σ' H' => Pv σ' H' ∧ μ σ' H' < μ σ H, ct := fun σ' H' => Pv σ' H' ∧ μ σ' H' < μ σ H, bk := D.nx } σ H1) (D.nx σ H1)) : tWhile (upT t) tb D σ H := by
  refine while_by Pv μ h0 (fun σ H p => ⟨_, fun b H1 z => br_if z, hs σ H p⟩) fun σ H Q Q' m z => ?_
  obtain ⟨Q2, a, b⟩ := z
  exact ⟨Q2, fun b H1 q => m _ _ (a _ _ q), b⟩
theorem fn_no {P : Program} {w : World} {K : Fg} {mg : Str → Option Value} {base : Heap} {CX : CXT} {k : Nat} {f : Addr} {fd : FuncData} {ps : List Str} : FnOk P w K mg base CX k f fd ps (fun _ _ _ _ => False) := ⟨fun _ _ _ _ h => h.elim, fun _ _ _ _ _ _ _ _ _ _ _ _ _ h => h.elim⟩
/-! ### the first signs that p takes -/
theorem tw_go {p : Nat → Bool} : ∀ {cs : List Nat} {j c : Nat}, j ≤ (cs.takeWhile p).length → cs[j]? = some c → p c = true → j + 1 ≤ (cs.takeWhile p).length
  | [], _, _, _, h, _ => by simp at h
  | x :: r, 0, c, _, h, hp => by
    have : x = c := by simpa using h
    rw [List.takeWhile_cons, this, hp]
    simp
  | x :: r, j + 1, c, l, h, hp => by
    rw [List.takeWhile_cons] at l ⊢
    split at l
    · rename_i q
      rw [if_pos q]
      have := tw_go (cs := r) (j := j) (by simpa using l) (by simpa using h) hp
      simpa using this
    · simp at l
theorem tw_stop {p : Nat → Bool} : ∀ {cs : List Nat} {j : Nat}, j ≤ (cs.takeWhile p).length → (∀ c, cs[j]? = some c → p c = false) → j = (cs.takeWhile p).length
  | [], j, h, _ => by simpa using h
  | x :: r, 0, _, h => by
    have := h x rfl
    rw [List.takeWhile_cons, this]
    rfl
  | x :: r, j + 1, l, h => by
    rw [List.takeWhile_cons] at l ⊢
    split at l
    · rename_i q
      rw [if_pos q]
      have := tw_stop (cs := r) (j := j) (by simpa using l) fun c hc => h c (by simpa using hc)
      simp [← this]
    · simp at l
theorem tw_take {p : Nat → Bool} (cs : List Nat) : cs.take (cs.takeWhile p).length = cs.takeWhile p := by
  induction cs with
  | nil => rfl
  | cons x r ih =>
    rw [List.takeWhile_cons]
    split
    · simp [ih]
    · rfl
theorem tw_len {p : Nat → Bool} (cs : List Nat) : (cs.takeWhile p).length ≤ cs.length := (List.takeWhile_sublist p).length_le
theorem tw_all {p : Nat → Bool} (cs : List Nat) : ∀ c ∈ cs.takeWhile p, p c = true := fun c hc => by
  induction cs with
  | nil => cases hc
  | cons x r ih =>
    rw [List.takeWhile_cons] at hc
    split at hc
    · rcases List.mem_cons.mp hc with e | e
      · rw [e]; assumption
      · exact ih e
    · cases hc
/-! ### z from its n-th sign on -/
structure TxtAt (z : Str) (n : Nat) (cs : List Nat) : Prop where
  len : z.length ≤ 100000
  at_ : z.cps.toList.drop n = cs
  le : n ≤ z.length
theorem TxtAt.size {z : Str} {n : Nat} {cs : List Nat} (t : TxtAt z n cs) : z.length ≤ sizeLine := size_le t.len
theorem TxtAt.cs {z : Str} {n : Nat} {cs : List Nat} (t : TxtAt z n cs) : cs.length = z.length - n := by rw [← t.at_, List.length_drop, len_list]
theorem TxtAt.on {z : Str} {n : Nat} {cs : List Nat} (t : TxtAt z n cs) {j : Nat} (h : j ≤ cs.length) : TxtAt z (n + j) (cs.drop j) := ⟨t.len, by rw [← t.at_, List.drop_drop], by have := t.cs; have := t.le; omega⟩
theorem TxtAt.tail {z : Str} {n : Nat} {cs r : List Nat} (t : TxtAt z n cs) (h : Tail r cs) : TxtAt z (z.length - r.length) r := by
  obtain ⟨p, rfl⟩ := h
  have a := t.cs
  have b := t.le
  rw [List.length_append] at a
  have e := t.on (j := p.length) (by rw [List.length_append]; omega)
  rw [List.drop_left] at e
  have e2 : n + p.length = z.length - r.length := by omega
  rw [e2] at e
  exact e
theorem TxtAt.back {z : Str} {n j : Nat} {cs : List Nat} (t : TxtAt z n cs) (h : j ≤ cs.length) : z.length - (cs.drop j).length = n + j := by
  have a := t.cs
  have b := t.le
  rw [List.length_drop]
  omega
theorem TxtAt.get {z : Str} {n : Nat} {cs : List Nat} (t : TxtAt z n cs) {j c : Nat} (h : cs[j]? = some c) : atI z.cps.toList ((n + j : Nat) : Int) = some c := by
  have hj := (List.getElem?_eq_some_iff.mp h).1
  have a := t.cs
  have l := len_list z
  unfold atI ixN
  rw [if_pos (by omega), if_pos (by rw [← l]; omega)]
  show z.cps.toList[n + j]? = some c
  rw [← t.at_, List.getElem?_drop] at h
  exact h
theorem TxtAt.cut {z : Str} {n : Nat} {cs : List Nat} (t : TxtAt z n cs) (j k : Nat) : cutS z (some ((n + j : Nat) : Int)) (some ((n + k : Nat) : Int)) = mkS ((cs.drop j).take (k - j)) := by
  rw [cut_nat, ← List.drop_drop, t.at_, show n + k - (n + j) = k - j by omega]
theorem mk_inj {a b : List Nat} (h : mkS a = mkS b) : a = b := by
  have := congrArg (fun z : Str => z.cps.toList) h
  exact this
theorem str_dec {z : Str} {l : List Nat} (hz : z = mkS l) (y : Str) : decide (V.str z = V.str y) = (l == y.cps.toList) := by
  subst hz
  by_cases e : l = y.cps.toList
  · subst e
    rw [mk_sl]
    simp
  · rw [decide_eq_false (fun h => e (by cases h; rfl))]
    symm
    simpa using e
theorem pre_take {w cs : List Nat} : w.isPrefixOf cs = (cs.take w.length == w) := by
  induction w generalizing cs with
  | nil => simp
  | cons x r ih =>
    cases cs with
    | nil => rfl
    | cons c t =>
      show (x == c && r.isPrefixOf t) = (List.take (r.length + 1) (c :: t) == x :: r)
      rw [List.take_succ_cons, ih]
      show _ = (c == x && (t.take r.length == r))
      rw [show (x == c) = (c == x) from Bool.eq_iff_iff.mpr ⟨fun h => by simpa using (by simpa using h : x = c).symm, fun h => by simpa using (by simpa using h : c = x).symm⟩]
theorem bls_true {ys : List V} (h : ∀ (i : Nat) (y : V), ys[i]? = some y → y = .bl true) : ∃ bs : List Bool, ys = bs.map V.bl ∧ bs.all id = true := by
  refine ⟨ys.map fun _ => true, ?_, by simp⟩
  refine List.ext_getElem? fun i => ?_
  rw [List.getElem?_map, List.getElem?_map]
  cases e : ys[i]? with
  | none => rfl
  | some y => rw [h i y e]; rfl
theorem low_mem {c : Nat} : decide (c ∈ (Str.ofString "abcdefghijklmnopqrstuvwxyz").cps.toList) = low c := by
  have a : ∀ c, c < 123 → decide (c ∈ (Str.ofString "abcdefghijklmnopqrstuvwxyz").cps.toList) = low c := by decide +kernel
  have b : ∀ x ∈ (Str.ofString "abcdefghijklmnopqrstuvwxyz").cps.toList, x < 123 := by decide +kernel
  by_cases h : c < 123
  · exact a c h
  · rw [decide_eq_false (fun m => h (b c m))]
    unfold low
    rw [show Nat.ble c 122 = false from by
      cases q : Nat.ble c 122 with
      | false => rfl
      | true => exact absurd (Nat.le_of_ble_eq_true q) (by omega)]
    simp
theorem dgt_mem {c : Nat} : decide (c ∈ (Str.ofString "0123456789").cps.toList) = dgt c := by
  have a : ∀ c, c < 58 → decide (c ∈ (Str.ofString "0123456789").cps.toList) = dgt c := by decide +kernel
  have b : ∀ x ∈ (Str.ofString "0123456789").cps.toList, x < 58 := by decide +kernel
  by_cases h : c < 58
  · exact a c h
  · rw [decide_eq_false (fun m => h (b c m))]
    unfold dgt
    rw [show Nat.ble c 57 = false from by
      cases q : Nat.ble c 57 with
      | false => rfl
      | true => exact absurd (Nat.le_of_ble_eq_true q) (by omega)]
    simp
theorem quo_mem {c : Nat} : (!decide (c ∈ (Str.ofString "\"{}\n").cps.toList)) = quo c := by
  have e : (Str.ofString "\"{}\n").cps.toList = [34, 123, 125, 10] := by decide +kernel
  rw [e]
  unfold quo
  simp [Bool.or_assoc]
  have h : ∀ n : Nat, decide (c = n) = (c == n) := fun n => by
    by_cases e : c = n
    · rw [decide_eq_true e]
      simp [e]
    · rw [decide_eq_false e]
      simp [e]
  rw [h, h, h, h]
/-! ### what a reader gives -/
def ResV (z : Str) (H : Hp) (v : V) : Option (Ex × List Nat) → Prop
  | none => v = .non
  | some (e, r) => ∃ p x, v = .ref p ∧ H p = some (.tup [x, .int ((z.length - r.length : Nat) : Int)]) ∧ ExV H x e
end Sk
/-! Sk: values of expressions -/
namespace Sk
open PySem PySem.Spec PyProof.Rows L2
/-- along the fields -/
def getV (H : Hp) : List (List Nat) → V → Option V
  | [], v => some v
  | n :: r, .ref a => match H a with
    | some (.dK kvs) => match valV kvs (.inr (mkS n)) with
      | some v => getV H r v
      | none => none
    | _ => none
  | _ :: _, _ => none
def isW (w x : Str) : Bool := decide (V.str w = V.str x)
def intsOf : List V → Option (List Int)
  | [] => some []
  | .int i :: r => (intsOf r).map (i :: ·)
  | _ => none
def textOf : V → Option Str
  | .str z => some z
  | .int i => if Nat.ble i.natAbs.log2 1919 then some (toString i) else none
  | _ => none
def textsOf : List V → Option (List Str)
  | [] => some []
  | v :: r => match textOf v, textsOf r with
    | some z, some zs => some (z :: zs)
    | _, _ => none
def eq0 : V → V → Option V
  | .bl a, .bl b => some (.bl (decide (a = b)))
  | .int a, .int b => some (.bl (decide (a = b)))
  | .str a, .str b => some (.bl (decide (a = b)))
  | _, _ => none
def apply2 (H : Hp) (w : Str) : List V → Option V
  | [.bl a, .bl b] => if isW w "equal" then some (.bl (decide (a = b))) else if isW w "less" then none else if isW w "both" then some (.bl (a && b)) else some (.bl (a || b))
  | [a, b] => if isW w "equal" then eq0 a b else if isW w "less" then (match a, b with | .int i, .int j => some (.bl (decide (i < j))) | _, _ => none) else none
  | _ => none
def applyV (H : Hp) (w : Str) (vs : List V) : Option V :=
  if isW w "sum" then (intsOf vs).map fun l => .int l.sum
  else if isW w "joined" then (match textsOf vs with | some zs => if Nat.ble ((zs.map (·.length)).sum + zs.length) 99999 then some (.str (Txt.join "" zs)) else none | none => none)
  else if isW w "size" then (match vs with | .ref a :: _ => (match H a with | some (.tup xs) => some (.int xs.length) | _ => none) | _ => none)
  else if isW w "has" then (match vs with | v :: _ => some (.bl (!decide (v = .non))) | _ => none)
  else if isW w "or_else" then (match vs with | [a, b] => some (if a = .non then b else a) | _ => none)
  else if isW w "not" then (match vs with | .bl b :: _ => some (.bl (!b)) | _ => none)
  else apply2 H w vs
mutual
def evV (H : Hp) (env : V) : Ex → Option V
  | .text z => some (.str (mkS z))
  | .num i => some (.int i)
  | .flag b => some (.bl b)
  | .get ns => getV H ns env
  | .call w xs => match evVs H env xs with
    | some vs => applyV H w vs
    | none => none
def evVs (H : Hp) (env : V) : List Ex → Option (List V)
  | [] => some []
  | e :: r => match evV H env e with
    | some v => match evVs H env r with
      | some vs => some (v :: vs)
      | none => none
    | none => none
end
mutual
def Ex.lev : Ex → Nat
  | .call _ xs => 1 + levE xs
  | _ => 0
def levE : List Ex → Nat
  | [] => 0
  | e :: r => max e.lev (levE r)
end
mutual
/-- the greatest number of parts -/
def Ex.wid : Ex → Nat
  | .call _ xs => max xs.length (widE xs)
  | _ => 0
def widE : List Ex → Nat
  | [] => 0
  | e :: r => max e.wid (widE r)
end
theorem widE_at : ∀ {es : List Ex} {i : Nat} {e : Ex}, es[i]? = some e → e.wid ≤ widE es
  | [], i, e, h => by simp at h
  | x :: r, 0, e, h => by
    cases h
    unfold widE
    omega
  | x :: r, i + 1, e, h => by
    have := widE_at (es := r) (i := i) (by simpa using h)
    unfold widE
    omega
theorem getV_same {H H' : Hp} (s : Same H H') : ∀ (ns : List (List Nat)) (x v : V), getV H ns x = some v → getV H' ns x = some v
  | [], _, _, h => h
  | n :: r, x, v, h => by
    cases x with
    | ref a =>
      unfold getV at h ⊢
      cases e : H a with
      | none => rw [e] at h; cases h
      | some o =>
        rw [e] at h
        rw [s _ _ e]
        cases o with
        | dK kvs =>
          cases e2 : valV kvs (.inr (mkS n)) with
          | none => simp only [e2] at h; cases h
          | some u =>
            simp only [e2] at h ⊢
            exact getV_same s r u v h
        | _ => cases h
    | _ => cases h
theorem applyV_same {H H' : Hp} (s : Same H H') {w : Str} {vs : List V} {v : V} (h : applyV H w vs = some v) : applyV H' w vs = some v := by
  unfold applyV at h ⊢
  split at h
  · rename_i e
    rw [if_pos e]
    exact h
  rename_i e
  rw [if_neg e]
  split at h
  · rename_i e
    rw [if_pos e]
    exact h
  rename_i e
  rw [if_neg e]
  split at h
  · rename_i e
    rw [if_pos e]
    cases vs with
    | nil => cases h
    | cons x r =>
      cases x with
      | ref a =>
        cases q : H a with
        | none => simp only [q] at h; cases h
        | some o =>
          simp only [q] at h
          simp only [s _ _ q]
          exact h
      | _ => cases h
  · rename_i e
    rw [if_neg e]
    exact h
mutual
theorem evV_same {H H' : Hp} (s : Same H H') {env : V} : ∀ (e : Ex) (v : V), evV H env e = some v → evV H' env e = some v
  | .text _, _, h => h
  | .num _, _, h => h
  | .flag _, _, h => h
  | .get ns, v, h => getV_same s ns env v h
  | .call w xs, v, h => by
    unfold evV at h ⊢
    cases q : evVs H env xs with
    | none => rw [q] at h; cases h
    | some vs =>
      rw [q] at h
      rw [evVs_same s xs vs q]
      exact applyV_same s h
theorem evVs_same {H H' : Hp} (s : Same H H') {env : V} : ∀ (es : List Ex) (vs : List V), evVs H env es = some vs → evVs H' env es = some vs
  | [], _, h => h
  | e :: r, vs, h => by
    unfold evVs at h ⊢
    cases q : evV H env e with
    | none => rw [q] at h; cases h
    | some u =>
      rw [q] at h
      simp only at h
      cases q2 : evVs H env r with
      | none => rw [q2] at h; cases h
      | some us =>
        rw [q2] at h
        rw [evV_same s e u q, evVs_same s r us q2]
        exact h
end
theorem evVs_len {H : Hp} {env : V} : ∀ {es : List Ex} {vs : List V}, evVs H env es = some vs → vs.length = es.length
  | [], _, h => by cases h; rfl
  | e :: r, vs, h => by
    unfold evVs at h
    split at h
    · split at h
      · rename_i us q
        cases h
        rw [List.length_cons, List.length_cons, evVs_len q]
      · cases h
    · cases h
theorem evVs_at {H : Hp} {env : V} : ∀ {es : List Ex} {vs : List V}, evVs H env es = some vs → ∀ (i : Nat) e, es[i]? = some e → ∃ v, vs[i]? = some v ∧ evV H env e = some v
  | [], _, h, i, e, k => by simp at k
  | x :: r, vs, h, i, e, k => by
    unfold evVs at h
    split at h
    · rename_i v qv
      split at h
      · rename_i us q
        cases h
        cases i with
        | zero =>
          cases k
          exact ⟨v, rfl, qv⟩
        | succ i =>
          obtain ⟨u, h1, h2⟩ := evVs_at q i e (by simpa using k)
          exact ⟨u, by simpa using h1, h2⟩
      · cases h
    · cases h
theorem levE_at : ∀ {es : List Ex} {i : Nat} {e : Ex}, es[i]? = some e → e.lev ≤ levE es
  | [], i, e, h => by simp at h
  | x :: r, 0, e, h => by
    cases h
    unfold levE
    omega
  | x :: r, i + 1, e, h => by
    have := levE_at (es := r) (i := i) (by simpa using h)
    unfold levE
    omega
theorem texts_map : ∀ {vs : List V} {zs : List Str}, textsOf vs = some zs → vs.length = zs.length ∧ ∀ (i : Nat) v, vs[i]? = some v → ∃ z, zs[i]? = some z ∧ textOf v = some z
  | [], _, h => by
    cases h
    exact ⟨rfl, fun i v k => by simp at k⟩
  | x :: r, zs, h => by
    unfold textsOf at h
    split at h
    · rename_i z us q1 q2
      cases h
      obtain ⟨l, f⟩ := texts_map q2
      refine ⟨by rw [List.length_cons, List.length_cons, l], fun i v k => ?_⟩
      cases i with
      | zero =>
        cases k
        exact ⟨z, rfl, q1⟩
      | succ i =>
        obtain ⟨y, h1, h2⟩ := f i v (by simpa using k)
        exact ⟨y, by simpa using h1, h2⟩
    · cases h
theorem ints_map : ∀ {vs : List V} {l : List Int}, intsOf vs = some l → vs = l.map V.int
  | [], _, h => by cases h; rfl
  | x :: r, l, h => by
    cases x with
    | int i =>
      unfold intsOf at h
      obtain ⟨m, h1, h2⟩ := Option.map_eq_some_iff.mp h
      subst h2
      rw [ints_map h1]
      rfl
    | _ => cases h
end Sk
/-! Sk: texts as lists of signs; bounds of texts put together -/
namespace Sk
open PySem PySem.Spec PyProof.Rows L2
abbrev sl (z : Str) : List Nat := z.cps.toList
theorem emp_l : Str.empty.cps.toList = [] := rfl
theorem sl_len (z : Str) : (sl z).length = z.length := (len_list z).symm
/-- at most n signs -/
def Ln (n : Nat) (z : Str) : Prop := z.length ≤ n
theorem Ln.app {m n : Nat} {x y : Str} (hx : Ln m x) (hy : Ln n y) : Ln (m + n) (x ++ y) := by
  unfold Ln at *
  rw [app_len]
  omega
theorem Ln.emp {y : Str} {n : Nat} (h : Ln n y) : Ln n (Str.empty ++ y) := by rw [emp_app]; exact h
theorem Ln.ok {m : Nat} {z : Str} (h : Ln m z) (hm : m ≤ 16777216 := by decide) : z.length ≤ sizeLine := Nat.le_trans h hm
instance lnDec (n : Nat) (z : Str) : Decidable (Ln n z) := Nat.decLe z.length n
theorem Ln.plus {m n : Nat} {x y : Str} (hx : Ln m x) (hy : Ln n y) (hm : m + n ≤ 16777216 := by decide) : x.length + y.length ≤ sizeLine := Nat.le_trans (Nat.add_le_add hx hy) hm
theorem Ln.of {n : Nat} {z : Str} {l : List Nat} (e : sl z = l) (h : l.length ≤ n) : Ln n z := by
  unfold Ln
  rw [len_list]
  show (sl z).length ≤ n
  rw [e]
  exact h
theorem Ln.mono {m n : Nat} {z : Str} (h : Ln m z) (hm : m ≤ n) : Ln n z := Nat.le_trans h hm
theorem strs_map {α : Type} {f : α → List Nat} : ∀ {xs : List α} {ys : List V}, ys.length = xs.length → (∀ (i : Nat) (y : V), ys[i]? = some y → ∃ x z, xs[i]? = some x ∧ y = .str z ∧ sl z = f x) → ∃ zs : List Str, ys = zs.map V.str ∧ zs.map sl = xs.map f
  | [], [], _, _ => ⟨[], rfl, rfl⟩
  | [], _ :: _, h, _ => by cases h
  | _ :: _, [], h, _ => by cases h
  | x :: xs, y :: ys, h, k => by
    obtain ⟨x', z, e1, e2, e3⟩ := k 0 y rfl
    have e1 : x = x' := by simpa using e1
    subst e1
    obtain ⟨zs, e4, e5⟩ := strs_map (f := f) (xs := xs) (ys := ys) (by simpa using h) fun i y hy => by
      obtain ⟨x, z, a, b⟩ := k (i + 1) y (by simpa using hy)
      exact ⟨x, z, by simpa using a, b⟩
    exact ⟨z :: zs, by rw [e2, e4]; rfl, by rw [List.map_cons, List.map_cons, e3, e5]⟩
theorem sum_flat (zs : List Str) : (zs.map (·.length)).sum = (zs.map sl).flatten.length := by
  rw [List.length_flatten, List.map_map]
  rw [List.map_congr_left (g := List.length ∘ sl) fun z _ => len_list z]
theorem join_flat {α : Type} {f : α → List Nat} {xs : List α} {zs : List Str} {y : Str} (hy : y.cps.toList = []) (h : zs.map sl = xs.map f) : sl (Txt.join y zs) = (xs.map f).flatten := by
  rw [← h]
  exact join_empty hy zs
theorem join_with {α : Type} {f : α → List Nat} {xs : List α} {zs : List Str} {y : Str} (h : zs.map sl = xs.map f) : sl (Txt.join y zs) = TL.joinL y.cps.toList (xs.map f) := by
  rw [← h]
  exact join_list y zs
theorem len_mem_sum {l : List (List Nat)} {m : Nat} (h : ∀ x ∈ l, x.length ≤ m) : l.flatten.length ≤ l.length * m := by
  rw [List.length_flatten]
  have := sum_le (l := l) (f := List.length) (m := m) h
  simpa using this
theorem joinL_len (s : List Nat) : ∀ l : List (List Nat), (TL.joinL s l).length ≤ l.flatten.length + l.length * s.length
  | [] => by simp [TL.joinL]
  | [p] => by
    show p.length ≤ _
    simp
  | p :: q :: r => by
    have ih := joinL_len s (q :: r)
    show (p ++ (s ++ TL.joinL s (q :: r))).length ≤ _
    rw [List.length_append, List.length_append, List.flatten_cons, List.length_append, List.length_cons, Nat.succ_mul]
    omega
end Sk
/-! Sk: xs == []; how much a repr of data takes -/
namespace Sk
open PySem PySem.Spec PyProof.Rows L2
/-- a list against the empty one, whatever its items are -/
def rEqE (K : PySem.W.Frag) : R2 := fun x y H Q => match x, y with
  | .ref a, .ref b => ∃ xs, SqL K H a xs ∧ SqL K H b [] ∧ Q (.bl xs.isEmpty) H
  | _, _ => False
section
variable {X : Cx}
theorem keqE (K : PySem.W.Frag) (hu : X.A.units + 64 < cLine) (h : X.K = K := by rfl) : OpR X (compareOp .Eq) (rEqE K) := by
  subst h
  intro pins s σ H x y v u Q I rx ry q
  unfold rEqE at q
  split at q
  · rename_i a b
    obtain ⟨xs, h1, h2, q⟩ := q
    have e1 : v = Value.ref a := rx
    have e2 : u = Value.ref b := ry
    subst e1 e2
    obtain ⟨i1, r1, p1, _⟩ := I.list h1
    obtain ⟨i2, r2, p2, _⟩ := I.list h2
    cases r2
    cases xs with
    | nil =>
      cases r1
      exact SeqAt.eq_listAt (e := fun _ => true) p1.isList p2.isList rfl (by omega) (fun j h1 => absurd h1 (Nat.not_lt_zero _)) ⟨.bl true, H, I, rfl, q⟩
    | cons x r =>
      cases r1
      exact SeqAt.eq_list_lengthsAt p1.isList p2.isList (by simp) (by omega) ⟨.bl false, H, I, rfl, q⟩
  · exact q.elim
end
mutual
theorem Dr.stay {H H' : Hp} (s : Stay H H') : ∀ {v : V} {d : PyData}, Dr H v d → Dr H' v d
  | _, _, .non => .non
  | _, _, .bl b => .bl b
  | _, _, .int i => .int i
  | _, _, .str x => .str x
  | _, _, .tup h a => .tup (s _ _ rfl h) (DrAll.stay s a)
  | _, _, .dic h a b => .dic (s _ _ rfl h) (DrAll.stay s a) (DrAll.stay s b)
theorem DrAll.stay {H H' : Hp} (s : Stay H H') : ∀ {vs : List V} {ds : List PyData}, DrAll H vs ds → DrAll H' vs ds
  | _, _, .nil => .nil
  | _, _, .cons a b => .cons (Dr.stay s a) (DrAll.stay s b)
end
/-- data whose repr is not too long -/
def Sm (H : Hp) (v : V) (w k : Nat) : Prop := ∃ d : PyData, Dr H v d ∧ d.showable = true ∧ d.shown.length ≤ w ∧ d.depth ≤ k
def SmL (H : Hp) (vs : List V) (w k : Nat) : Prop := ∃ ds : List PyData, DrAll H vs ds ∧ PyData.showableAll ds = true ∧ ((PyData.shownAll ds).map (·.length)).sum + 2 * (PyData.shownAll ds).length ≤ w ∧ PyData.depthAll ds ≤ k
theorem Sm.stay {H H' : Hp} {v : V} {w k : Nat} (s : Stay H H') (h : Sm H v w k) : Sm H' v w k := by
  obtain ⟨d, h1, h2⟩ := h
  exact ⟨d, Dr.stay s h1, h2⟩
theorem Sm.mono {H : Hp} {v : V} {w k w' k' : Nat} (h : Sm H v w k) (hw : w ≤ w') (hk : k ≤ k') : Sm H v w' k' := by
  obtain ⟨d, h1, h2, h4, h5⟩ := h
  exact ⟨d, h1, h2, Nat.le_trans h4 hw, Nat.le_trans h5 hk⟩
theorem SmL.nil {H : Hp} {k : Nat} : SmL H [] 0 k := ⟨[], .nil, rfl, Nat.le_refl _, Nat.zero_le _⟩
theorem SmL.cons {H : Hp} {v : V} {vs : List V} {w w' k : Nat} (h : Sm H v w k) (t : SmL H vs w' k) : SmL H (v :: vs) (w + 2 + w') k := by
  obtain ⟨d, h1, h2, h4, h5⟩ := h
  obtain ⟨ds, t1, t2, t4, t5⟩ := t
  refine ⟨d :: ds, .cons h1 t1, ?_, ?_, ?_⟩
  · show (d.showable && PyData.showableAll ds) = true
    rw [h2, t2]
    rfl
  · show ((d.shown :: PyData.shownAll ds).map (·.length)).sum + 2 * (d.shown :: PyData.shownAll ds).length ≤ _
    rw [List.map_cons, List.sum_cons, List.length_cons]
    omega
  · show max d.depth (PyData.depthAll ds) ≤ _
    omega
theorem SmL.of {H : Hp} {w k : Nat} : ∀ {vs : List V}, (∀ x ∈ vs, Sm H x w k) → SmL H vs (vs.length * (w + 2)) k
  | [], _ => by
    rw [List.length_nil, Nat.zero_mul]
    exact .nil
  | v :: vs, h => by
    have := SmL.cons (h v (List.mem_cons_self ..)) (SmL.of fun x hx => h x (List.mem_cons_of_mem _ hx))
    rw [List.length_cons, Nat.succ_mul, Nat.add_comm]
    exact this
theorem SmL.mono {H : Hp} {vs : List V} {w k w' k' : Nat} (h : SmL H vs w k) (hw : w ≤ w') (hk : k ≤ k') : SmL H vs w' k' := by
  obtain ⟨d, h1, h2, h4, h5⟩ := h
  exact ⟨d, h1, h2, Nat.le_trans h4 hw, Nat.le_trans h5 hk⟩
theorem Sm.tup {H : Hp} {a : Addr} {vs : List V} {w k : Nat} (h : H a = some (.tup vs)) (t : SmL H vs w k) : Sm H (.ref a) (w + 3) (k + 1) := by
  obtain ⟨ds, t1, t2, t4, t5⟩ := t
  refine ⟨.tuple ds, .tup h t1, t2, ?_, Nat.succ_le_succ t5⟩
  have := tupleText_len_le (PyData.shownAll ds)
  show (tupleText (PyData.shownAll ds)).length ≤ _
  omega
theorem okc_small {c : Nat} (h : okc c = true) : c < 16 ^ 8 := by
  unfold okc at h
  rw [Bool.or_eq_true] at h
  rcases h with h | h
  · have : c = 10 := by simpa using h
    omega
  · rw [Bool.and_eq_true, Bool.and_eq_true] at h
    have := Nat.le_of_ble_eq_true h.1.2
    omega
theorem Sm.str {H : Hp} {n k : Nat} {z : Str} (h : TextOk n z) : Sm H (.str z) (10 * n + 2) k := by
  refine ⟨.str z, .str z, rfl, ?_, Nat.zero_le _⟩
  have := StrLaws.reprText_len z fun c hc => okc_small (h.2 c hc)
  have := h.1
  show (reprText z).length ≤ _
  omega
theorem flat_sm {H : Hp} {v : V} (k : Nat) (h : FlatOk v) : Sm H v 242 k := by
  cases v with
  | non => exact ⟨.none, .non, rfl, by decide, Nat.zero_le _⟩
  | bl b => exact ⟨.bool b, .bl b, rfl, by cases b <;> decide, Nat.zero_le _⟩
  | int i =>
    have h : i.natAbs ≤ 10 ^ 30 := h
    refine ⟨.int i, .int i, ?_, ?_, Nat.zero_le _⟩
    · exact decide_eq_true (int_log h)
    · show (Str.ofString (toString i)).length ≤ 242
      have e := int_text_length_le10 (a := i) (k := 31) (by decide) (Nat.lt_of_le_of_lt h (by decide +kernel))
      have e2 : (Str.ofString (toString i)).length = (toString i).length := PySem.ofString_length _
      rw [e2]
      omega
  | str z => exact Sm.str h
  | _ => exact h.elim
def wG : Nat → Nat
  | 0 => 242
  | n + 1 => 3 * (wG n + 126) + 3
theorem wG_up : ∀ n, 242 ≤ wG n
  | 0 => Nat.le_refl _
  | n + 1 => by
    have := wG_up n
    show 242 ≤ 3 * (wG n + 126) + 3
    omega
theorem Sm.dict {H : Hp} {a : Addr} {kvs : List (Key × V)} {w k : Nat} (h : H a = some (.dK kvs)) (hn : ∀ p ∈ kvs, ∃ z, p.1 = .inr z ∧ NameOk z) (hv : ∀ p ∈ kvs, Sm H p.2 w k) : Sm H (.ref a) (kvs.length * (w + 126) + 3) (k + 1) := by
  have key : ∀ l : List (Key × V), (∀ p ∈ l, ∃ z, p.1 = .inr z ∧ NameOk z) → (∀ p ∈ l, Sm H p.2 w k) → ∃ ds : List (PyData × PyData), DrAll H (l.map fun p => kV p.1) (ds.map (·.1)) ∧ DrAll H (l.map (·.2)) (ds.map (·.2)) ∧ PyData.showableKv ds = true ∧ ((PyData.shownKv ds).map (·.length)).sum + 2 * (PyData.shownKv ds).length ≤ l.length * (w + 126) ∧ PyData.depthKv ds ≤ k := by
    intro l
    induction l with
    | nil => intro _ _; exact ⟨[], .nil, .nil, rfl, Nat.zero_le _, Nat.zero_le _⟩
    | cons p r ih =>
      intro hn hv
      obtain ⟨ds, a1, a2, a3, a5, a6⟩ := ih (fun q hq => hn q (List.mem_cons_of_mem _ hq)) fun q hq => hv q (List.mem_cons_of_mem _ hq)
      obtain ⟨z, e, nk⟩ := hn p (List.mem_cons_self ..)
      obtain ⟨d, b1, b2, b4, b5⟩ := hv p (List.mem_cons_self ..)
      obtain ⟨kd, c1, c2, c4, c5⟩ := Sm.str (H := H) (k := 0) nk.text
      have ek : kV p.1 = V.str z := by rw [e]; rfl
      refine ⟨(kd, d) :: ds, .cons (show Dr H (kV p.1) kd by rw [ek]; exact c1) a1, .cons b1 a2, ?_, ?_, ?_⟩
      · show (kd.showable && d.showable && PyData.showableKv ds) = true
        rw [c2, b2, a3]
        rfl
      · show (((kd.shown ++ ": " ++ d.shown) :: PyData.shownKv ds).map (·.length)).sum + 2 * ((kd.shown ++ ": " ++ d.shown) :: PyData.shownKv ds).length ≤ _
        rw [List.map_cons, List.sum_cons, List.length_cons, app_len, app_len]
        have e3 : (p :: r).length * (w + 126) = r.length * (w + 126) + (w + 126) := by rw [List.length_cons, Nat.succ_mul]
        rw [e3]
        have e2 : (": " : Str).length = 2 := rfl
        rw [e2]
        omega
      · show max (max kd.depth d.depth) (PyData.depthKv ds) ≤ _
        omega
  obtain ⟨ds, a1, a2, a3, a5, a6⟩ := key kvs hn hv
  refine ⟨.dict ds, .dic h a1 a2, a3, ?_, Nat.succ_le_succ a6⟩
  have := dictText_len_le (PyData.shownKv ds)
  show (dictText (PyData.shownKv ds)).length ≤ _
  omega
theorem good_sm {H : Hp} : ∀ (n : Nat) (v : V), GoodV H n v → Sm H v (wG n) n
  | 0, v, h => flat_sm 0 h
  | n + 1, v, h => by
    rcases h with h | ⟨a, vs, rfl, h1, h2, h3⟩ | ⟨a, kvs, rfl, h1, h2, h3⟩
    · exact (flat_sm _ h).mono (wG_up _) (Nat.le_refl _)
    · refine (Sm.tup h1 (SmL.of fun x hx => good_sm n x (h3 x hx))).mono ?_ (Nat.le_refl _)
      show _ ≤ 3 * (wG n + 126) + 3
      exact Nat.add_le_add_right (Nat.mul_le_mul h2 (by omega)) 3
    · refine (Sm.dict h1 h2.2.2 fun p hp => good_sm n p.2 (h3 p hp)).mono ?_ (Nat.le_refl _)
      exact Nat.add_le_add_right (Nat.mul_le_mul_right _ h2.1) 3
theorem att_sm {H : Hp} {v : V} {t : Att} (h : AttV H v t) : Sm H v 2000 4 := by
  cases t with
  | plain n z =>
    obtain ⟨a, rfl, ha, hn, _, hz⟩ := h
    exact (Sm.tup (k := 3) ha (.cons (.str hn.text) (.cons (.str hz) .nil))).mono (by decide) (by decide)
  | addr ws ps =>
    obtain ⟨a, p, x, y, rfl, ha, hp, ⟨b, rfl, hb, hz⟩, _, h5, ⟨c, vs, rfl, hc, lv, hv⟩, h7⟩ := h
    have s1 : Sm H (.ref b) 740 1 := (Sm.tup (k := 0) hb (SmL.of (w := 242) fun x hx => by
      obtain ⟨z, hz', rfl⟩ := List.mem_map.mp hx
      exact .str (hz z hz'))).mono (by rw [List.length_map]; omega) (by decide)
    have s2 : Sm H (.ref c) 1130 2 := (Sm.tup (k := 1) hc (SmL.of (w := 371) fun x hx => by
      obtain ⟨i, hi, e⟩ := List.mem_iff_getElem.mp hx
      have hi2 : i < ps.length := by omega
      obtain ⟨b2, rfl, h2, n2, t2⟩ := hv i x ps[i] (by rw [List.getElem?_eq_getElem hi, e]) (List.getElem?_eq_getElem hi2)
      exact (Sm.tup (k := 0) h2 (.cons (.str n2.text) (.cons (.str t2) .nil))).mono (by decide) (by decide))).mono (by omega) (by decide)
    have s3 : Sm H (.ref p) 1880 3 := (Sm.tup (k := 2) hp (.cons (s1.mono (Nat.le_refl _) (by decide)) (.cons s2 .nil))).mono (by decide) (by decide)
    have th : TextOk 4 "href" := ⟨by decide, List.all_eq_true.mp (by decide +kernel)⟩
    exact (Sm.tup (k := 3) ha (.cons (.str th) (.cons s3 .nil))).mono (by decide) (by decide)
end Sk
/-! Sk: displays of pairs; how much a repr takes -/
namespace Sk
open PySem PySem.Spec PyProof.Rows L2
/-- the values are pairs of these -/
inductive PairsIn (H : Hp) : List V → List (V × V) → Prop
  | nil : PairsIn H [] []
  | cons {a : Addr} {vs : List V} {p : V × V} {ps : List (V × V)} : H a = some (.tup [p.1, p.2]) → PairsIn H vs ps → PairsIn H (.ref a :: vs) (p :: ps)
theorem PairsIn.same {H H' : Hp} (s : Same H H') : ∀ {vs : List V} {ps : List (V × V)}, PairsIn H vs ps → PairsIn H' vs ps
  | _, _, .nil => .nil
  | _, _, .cons h r => .cons (s _ _ h) (r.same s)
theorem PairsIn.app {H : Hp} : ∀ {vs us : List V} {ps qs : List (V × V)}, PairsIn H vs ps → PairsIn H us qs → PairsIn H (vs ++ us) (ps ++ qs)
  | _, _, _, _, .nil, r => r
  | _, _, _, _, .cons h t, r => .cons h (t.app r)
theorem PairsIn.len {H : Hp} : ∀ {vs : List V} {ps : List (V × V)}, PairsIn H vs ps → vs.length = ps.length
  | _, _, .nil => rfl
  | _, _, .cons _ r => congrArg (· + 1) r.len
theorem PairsIn.at {H : Hp} : ∀ {vs : List V} {ps : List (V × V)}, PairsIn H vs ps → ∀ (i : Nat) x, vs[i]? = some x → ∃ a p, x = .ref a ∧ ps[i]? = some p ∧ H a = some (.tup [p.1, p.2])
  | _, _, .nil, i, x, h => by simp at h
  | _, _, .cons h _, 0, x, e => by
    cases e
    exact ⟨_, _, rfl, rfl, h⟩
  | _, _, .cons _ r, i + 1, x, e => by
    obtain ⟨a, p, e1, e2, e3⟩ := r.at i x (by simpa using e)
    exact ⟨a, p, e1, by simpa using e2, e3⟩
/-- [(a, b), ..]: what is made stands in some heap -/
def tPrs : List (TE × TE) → List (V × V) → TA
  | [], acc => fun _ H Q => ∀ vs, PairsIn H vs acc → Q vs H
  | (a, b) :: r, acc => fun σ H Q => a σ H fun x H1 => b σ H1 fun y H2 => Same H H2 ∧ ∀ H3, Same H2 H3 → tPrs r (acc ++ [(x, y)]) σ H3 Q
inductive PPr (X : Cx) : List Expr → List (TE × TE) → Prop
  | nil : PPr X [] []
  | cons {a b : Expr} {ta tb : TE} {k : Nat} {pos : Pos} {es : List Expr} {ts : List (TE × TE)} : PE X a ta → PE X b tb → PPr X es ts → starEach [a, b] X.env = (false, eval a X.env) :: starEach [b] X.env → starEach [b] X.env = (false, eval b X.env) :: starEach [] X.env →
      starEach (.Tuple [a, b] k pos :: es) X.env = (false, eval (.Tuple [a, b] k pos) X.env) :: starEach es X.env → PPr X (.Tuple [a, b] k pos :: es) ((ta, tb) :: ts)
section
variable {X : Cx}
theorem ppr_cons {a b : Expr} {ta tb : TE} {k : Nat} {pos : Pos} {es : List Expr} {ts : List (TE × TE)} (ha : PE X a ta) (hb : PE X b tb) (r : PPr X es ts) (h1 : starEach [a, b] X.env = (false, eval a X.env) :: starEach [b] X.env := by rfl) (h3 : starEach [b] X.env = (false, eval b X.env) :: starEach [] X.env := by rfl)
    (h2 : starEach (.Tuple [a, b] k pos :: es) X.env = (false, eval (.Tuple [a, b] k pos) X.env) :: starEach es X.env := by rfl) : PPr X (.Tuple [a, b] k pos :: es) ((ta, tb) :: ts) := .cons ha hb r h1 h3 h2
theorem prs_run {es : List Expr} {ts : List (TE × TE)} (h : PPr X es ts) : ∀ (acc : List (V × V)) (vs0 : List V) (pos : Pos) (pins : List (Addr × Obj)) (s : Shared) (σ : L2.St) (H : Hp) (Q : List V → Hp → Prop), Inv X pins σ H s → PairsIn H vs0 acc → tPrs ts acc σ H Q →
    wpAny (model X.prog X.w) X.A (spliced (backTo pos (starEach es X.env))) (AP X pins σ fun vs H' => Q (vs0 ++ vs) H') X.xe s := by
  induction h with
  | nil =>
    intro acc vs0 pos pins s σ H Q I p q
    have e : backTo pos (starEach [] X.env) = [] := by simp [starEach, backTo]
    rw [e]
    exact Calls.spliced_nil ⟨[], H, I, .nil, by show Q (vs0 ++ []) H; rw [List.append_nil]; exact q vs0 p⟩
  | @cons a b ta tb k tpos es ts ha hb r h1 h3 h2 ih =>
    intro acc vs0 pos pins s σ H Q I p q
    rw [h2]
    show wpAny _ _ (spliced ((false, eval (.Tuple [a, b] k tpos) X.env) :: backTo pos (starEach es X.env))) _ _ s
    have one : PA X [a, b] (tCons (upE ta) (tCons (upE tb) tNil)) := pa_cons (up ha) (pa_cons (up hb) pa_nil h3) h1
    refine Calls.spliced_cons (thn ((pe_tup (pos := tpos) (x1 := k) one).run pins s σ H (fun v H' => ∃ t x y, v = .ref t ∧ H' t = some (.tup [x, y]) ∧ Same H H' ∧ tPrs ts (acc ++ [(x, y)]) σ H' Q) I ?_) fun u s1 z => ?_)
    · refine ⟨_, fun x H1 z => ?_, q⟩
      refine ⟨_, fun y H2 z2 => ?_, z⟩
      obtain ⟨s2, z2⟩ := z2
      exact ⟨Nat.le_of_ble_eq_true rfl, fun t nt => ⟨t, x, y, rfl, upd_same, s2.trans (same_new nt), z2 _ (same_new nt)⟩⟩
    · obtain ⟨v, H', I', rv, t, x, y, rfl, ht, s', q'⟩ := z
      have nx := ih (acc ++ [(x, y)]) (vs0 ++ [.ref t]) pos pins s1 σ H' Q I' ((p.same s').app (.cons (p := (x, y)) ht .nil)) q'
      refine thn nx fun us s2 z => ?_
      obtain ⟨vs, H2, I2, r2, q2⟩ := z
      refine ⟨.ref t :: vs, H2, I2, .cons rv r2, ?_⟩
      rw [List.append_assoc] at q2
      exact q2
theorem pa_prs {es : List Expr} {ts : List (TE × TE)} (h : PPr X es ts) : PA X es (tPrs ts []) := ⟨fun pos pins s σ H Q I q => prs_run h [] [] pos pins s σ H Q I .nil q⟩
end
/-- f(e, ..), f an object of the class at C -/
def uCallO (C : Addr) (sp : Sp) (tf : TE) (t : TA) : TE := fun σ H Q => tf σ H fun y H1 => match y with
  | .ref a => t σ H1 fun vs H2 => (∃ dx fs, H2 a = some (.ins C dx fs)) ∧ sp (.ref a :: vs) H2 Q E0
  | _ => False
def upA (t : TA) : TA := fun σ H Q => ∃ Q' : List V → Hp → Prop, (∀ vs H', Q' vs H' → Q vs H') ∧ t σ H Q'
theorem upa {X : Cx} {es : List Expr} {t : TA} (h : PA X es t) : PA X es (upA t) := ⟨fun pos pins s σ H Q I q => by
  obtain ⟨Q', w, q⟩ := q
  exact thn (h.run pos pins s σ H Q' I q) fun v s1 ⟨x, H1, I1, r1, q1⟩ => ⟨x, H1, I1, r1, w _ _ q1⟩⟩
theorem pe_callOU {X : Cx} {k : Nat} {C g : Addr} {sp : Sp} {fe e : Expr} {es : List Expr} {tf : TE} {t : TA} {pos : Pos} (hf : PE X fe tf) (c : StX.CallO X.K C g) (F : FnR X.prog X.w X.K X.mg X.base CX0 k g sp) (hr : Room k X.A) (ha : PA X (e :: es) t)
    (ht : eval (.Call fe (e :: es) [] pos) X.env = (do callWith pos (← eval fe X.env) [] (backTo pos (starEach (e :: es) X.env)) (backToKw pos (keywordEach [] X.env))) := by rfl)
    (he : starEach (e :: es) X.env = (false, eval e X.env) :: starEach es X.env := by rfl) (hpl : (backTo pos (starEach es X.env)).any (·.1) = false := by rfl) : PE X (.Call fe (e :: es) [] pos) (uCallO C sp tf t) :=
  PEw (StX.pe_callO (E := E0) (up hf) c F hr pass0 (upa ha) ht he hpl) fun σ H Q q => by
    refine ⟨_, fun y H1 z => ?_, q⟩
    cases y with
    | ref a => exact ⟨a, rfl, _, fun vs H2 z2 => ⟨.inr z2.1, z2.2⟩, z⟩
    | _ => exact z.elim
/-! ### how much a repr takes -/
def ShD (d : PyData) (w k : Nat) : Prop := d.showable = true ∧ d.shown.length ≤ w ∧ d.depth ≤ k
theorem ShD.mono {d : PyData} {w k w' k' : Nat} (h : ShD d w k) (hw : w ≤ w') (hk : k ≤ k') : ShD d w' k' := ⟨h.1, Nat.le_trans h.2.1 hw, Nat.le_trans h.2.2 hk⟩
def ShL (ds : List PyData) (w k : Nat) : Prop := PyData.showableAll ds = true ∧ ((PyData.shownAll ds).map (·.length)).sum + 2 * (PyData.shownAll ds).length ≤ w ∧ PyData.depthAll ds ≤ k
theorem ShL.of {w k : Nat} : ∀ {ds : List PyData}, (∀ d ∈ ds, ShD d w k) → ShL ds (ds.length * (w + 2)) k
  | [], _ => ⟨rfl, Nat.zero_le _, Nat.zero_le _⟩
  | d :: ds, h => by
    obtain ⟨a1, a2, a3⟩ := h d (List.mem_cons_self ..)
    obtain ⟨b1, b2, b3⟩ := ShL.of fun x hx => h x (List.mem_cons_of_mem _ hx)
    refine ⟨?_, ?_, ?_⟩
    · show (d.showable && PyData.showableAll ds) = true
      rw [a1, b1]
      rfl
    · show ((d.shown :: PyData.shownAll ds).map (·.length)).sum + 2 * (d.shown :: PyData.shownAll ds).length ≤ _
      have e : (d :: ds).length * (w + 2) = ds.length * (w + 2) + (w + 2) := by rw [List.length_cons, Nat.succ_mul]
      rw [List.map_cons, List.sum_cons, List.length_cons, e]
      omega
    · show max d.depth (PyData.depthAll ds) ≤ _
      omega
theorem ShD.list {ds : List PyData} {w k : Nat} (h : ShL ds w k) : ShD (.list ds) (w + 3) (k + 1) := by
  refine ⟨h.1, ?_, Nat.succ_le_succ h.2.2⟩
  have := listText_len_le (PyData.shownAll ds)
  have := h.2.1
  show (listText (PyData.shownAll ds)).length ≤ _
  omega
theorem ShD.tuple {ds : List PyData} {w k : Nat} (h : ShL ds w k) : ShD (.tuple ds) (w + 3) (k + 1) := by
  refine ⟨h.1, ?_, Nat.succ_le_succ h.2.2⟩
  have := tupleText_len_le (PyData.shownAll ds)
  have := h.2.1
  show (tupleText (PyData.shownAll ds)).length ≤ _
  omega
theorem okc_lo {c : Nat} (h : okc c = true) : c < 16 ^ 8 := by
  unfold okc at h
  rw [Bool.or_eq_true] at h
  rcases h with h | h
  · have : c = 10 := by simpa using h
    omega
  · rw [Bool.and_eq_true, Bool.and_eq_true] at h
    have := Nat.le_of_ble_eq_true h.1.2
    omega
theorem ShD.str {n k : Nat} {z : Str} (h : TextOk n z) : ShD (.str z) (10 * n + 2) k := by
  refine ⟨rfl, ?_, Nat.zero_le _⟩
  have := StrLaws.reprText_len z fun c hc => okc_lo (h.2 c hc)
  have := h.1
  show (reprText z).length ≤ _
  omega
theorem ShD.bool (b : Bool) {k : Nat} : ShD (.bool b) 5 k := ⟨rfl, by cases b <;> decide, Nat.zero_le _⟩
theorem ShD.non {k : Nat} : ShD .none 4 k := ⟨rfl, by decide, Nat.zero_le _⟩
mutual
theorem Dr.dl {H : Hp} : ∀ {v : V} {d : PyData}, Dr H v d → DL H v d
  | _, _, .non => .non
  | _, _, .bl b => .bl b
  | _, _, .int i => .int i
  | _, _, .str x => .str x
  | _, _, .tup h a => .tup h (DrAll.dl a)
  | _, _, .dic h a b => .dic h (DrAll.dl a) (DrAll.dl b)
theorem DrAll.dl {H : Hp} : ∀ {vs : List V} {ds : List PyData}, DrAll H vs ds → DLs H vs ds
  | _, _, .nil => .nil
  | _, _, .cons a b => .cons (Dr.dl a) (DrAll.dl b)
end
theorem dls_of {H : Hp} : ∀ {vs : List V} {ds : List PyData}, vs.length = ds.length → (∀ (i : Nat) v, vs[i]? = some v → ∃ d, ds[i]? = some d ∧ Dr H v d) → DLs H vs ds
  | [], [], _, _ => .nil
  | [], _ :: _, h, _ => by cases h
  | _ :: _, [], h, _ => by cases h
  | v :: vs, d :: ds, h, f => by
    obtain ⟨d', e, r⟩ := f 0 v rfl
    cases e
    exact .cons r.dl (dls_of (by simpa using h) fun i u hu => f (i + 1) u (by simpa using hu))
def RowsIn (H : Hp) (L : Addr) (rs : List (V × V)) : Prop := ∃ vs, H L = some (.lst vs) ∧ PairsIn H vs rs
theorem rows_first {H H' : Hp} {L : Addr} {vs : List V} {rs : List (V × V)} (s : Same H H') (p : PairsIn H' vs rs) (n : H' L = none) : Same H (upd H' L (.lst vs)) ∧ RowsIn (upd H' L (.lst vs)) L rs := ⟨s.trans (same_new n), vs, upd_same, p.same (same_new n)⟩
theorem rows_cat {H H' : Hp} {L q : Addr} {vs : List V} {rs ps : List (V × V)} (R : RowsIn H L rs) (s : Same H H') (p : PairsIn H' vs ps) (nq : H' q = none) (hl : rs.length + ps.length ≤ 1000) :
    ∃ xs, upd H' q (.lst vs) L = some (.lst xs) ∧ upd H' q (.lst vs) q = some (.lst vs) ∧ xs.length + vs.length ≤ sizeLine ∧ ∀ N, upd H' q (.lst vs) N = none → Same H (upd (upd H' q (.lst vs)) N (.lst (xs ++ vs))) ∧ RowsIn (upd (upd H' q (.lst vs)) N (.lst (xs ++ vs))) N (rs ++ ps) := by
  obtain ⟨xs, hL, px⟩ := R
  have s2 : Same H (upd H' q (.lst vs)) := s.trans (same_new nq)
  have l1 := px.len
  have l2 := p.len
  refine ⟨xs, s2 _ _ hL, upd_same, size_le (by omega), fun N nN => ⟨s2.trans (same_new nN), _, upd_same, ((px.same s2).app (p.same (same_new nq))).same (same_new nN)⟩⟩
/-- a row: an expression's text and what is due -/
def RowOk (H : Hp) (env : V) (p : V × V) (d : PyData) : Prop := ∃ z e v, p.1 = .str z ∧ z.length ≤ 100000 ∧ parseE z.cps.toList = some e ∧ e.lev ≤ 8 ∧ e.wid ≤ 1000 ∧ evV H env e = some v ∧ Dr H v d ∧ Dr H p.2 d ∧ ShD d 2000 20
theorem RowOk.same {H H' : Hp} {env : V} {p : V × V} {d : PyData} (h : RowOk H env p d) (s : Same H H') : RowOk H' env p d := by
  obtain ⟨z, e, v, h1, h2, h3, h4, h5, h6, h7, h8, h9⟩ := h
  exact ⟨z, e, v, h1, h2, h3, h4, h5, evV_same s e v h6, Dr.stay (stay_of s) h7, Dr.stay (stay_of s) h8, h9⟩
inductive RowsOk (H : Hp) (env : V) : List (V × V) → List PyData → Prop
  | nil : RowsOk H env [] []
  | cons {p : V × V} {ps : List (V × V)} {d : PyData} {ds : List PyData} : RowOk H env p d → RowsOk H env ps ds → RowsOk H env (p :: ps) (d :: ds)
theorem RowsOk.len {H : Hp} {env : V} : ∀ {ps : List (V × V)} {ds : List PyData}, RowsOk H env ps ds → ps.length = ds.length
  | _, _, .nil => rfl
  | _, _, .cons _ r => congrArg (· + 1) r.len
theorem RowsOk.at {H : Hp} {env : V} : ∀ {ps : List (V × V)} {ds : List PyData}, RowsOk H env ps ds → ∀ (i : Nat) p, ps[i]? = some p → ∃ d, ds[i]? = some d ∧ RowOk H env p d
  | _, _, .nil, i, p, h => by simp at h
  | _, _, .cons h _, 0, p, e => by
    cases e
    exact ⟨_, rfl, h⟩
  | _, _, .cons _ r, i + 1, p, e => by
    obtain ⟨d, e1, e2⟩ := r.at i p (by simpa using e)
    exact ⟨d, by simpa using e1, e2⟩
theorem RowsOk.sh {H : Hp} {env : V} : ∀ {ps : List (V × V)} {ds : List PyData}, RowsOk H env ps ds → ∀ d ∈ ds, ShD d 2000 20
  | _, _, .nil, d, h => by cases h
  | _, _, .cons h r, d, m => by
    rcases List.mem_cons.mp m with e | e
    · rw [e]
      obtain ⟨_, _, _, _, _, _, _, _, _, _, _, h9⟩ := h
      exact h9
    · exact r.sh d e
theorem gm_tup2 {K : PySem.W.Frag} {i j : Nat} : ∀ x σ H (q q' : L2.St → Hp → Prop), (∀ σ2 H2, q σ2 H2 → q' σ2 H2) → gTup K 2 (uCons (gName i) (uCons (gName j) uNil)) x σ H q → gTup K 2 (uCons (gName i) (uCons (gName j) uNil)) x σ H q' := by
  intro x σ H q q' h z
  obtain ⟨a, xs, e1, e2, e3, t⟩ := z
  refine ⟨a, xs, e1, e2, e3, ?_⟩
  match xs, e3 with
  | [x1, x2], _ => exact h _ _ t
theorem ShD.int {i : Int} {k : Nat} (h : i.natAbs ≤ 10 ^ 30) : ShD (.int i) 242 k := by
  refine ⟨decide_eq_true (int_log h), ?_, Nat.zero_le _⟩
  show (Str.ofString (toString i)).length ≤ 242
  have e := int_text_length_le10 (a := i) (k := 31) (by decide) (Nat.lt_of_le_of_lt h (by decide +kernel))
  have e2 : (Str.ofString (toString i)).length = (toString i).length := PySem.ofString_length _
  rw [e2]
  omega
end Sk
/-! Sk: k15's rows -/
namespace Sk
open PySem PySem.Spec PyProof.Rows L2
def kvsT (m n : Int) (s t : Str) (R : Addr) : List (Key × V) := [(.inr "m", .int m), (.inr "n", .int n), (.inr "s", .str s), (.inr "t", .str t), (.inr "o", .non), (.inr "r", .ref R)]
def kvsR (m : Int) : List (Key × V) := [(.inr "o", .non), (.inr "m", .int m)]
structure EnvT (H : Hp) (E : Addr) (m n : Int) (s t : Str) : Prop where
  at_ : ∃ R, H E = some (.dK (kvsT m n s t R)) ∧ H R = some (.dK (kvsR m))
theorem EnvT.same {H H' : Hp} {E : Addr} {m n : Int} {s t : Str} (h : EnvT H E m n s t) (k : Same H H') : EnvT H' E m n s t := by
  obtain ⟨R, h1, h2⟩ := h.at_
  exact ⟨R, k _ _ h1, k _ _ h2⟩
theorem get1 {H : Hp} {E : Addr} {kvs : List (Key × V)} {x : List Nat} {v : V} (h : H E = some (.dK kvs)) (e : valV kvs (.inr (mkS x)) = some v) : getV H [x] (.ref E) = some v := by
  unfold getV
  rw [h]
  show (match valV kvs (.inr (mkS x)) with | some v => getV H [] v | none => none) = some v
  rw [e]
  rfl
theorem get2 {H : Hp} {E R : Addr} {kvs kws : List (Key × V)} {x y : List Nat} {v : V} (h : H E = some (.dK kvs)) (e : valV kvs (.inr (mkS x)) = some (.ref R)) (h2 : H R = some (.dK kws)) (e2 : valV kws (.inr (mkS y)) = some v) : getV H [x, y] (.ref E) = some v := by
  unfold getV
  rw [h]
  show (match valV kvs (.inr (mkS x)) with | some v => getV H [y] v | none => none) = some v
  rw [e]
  exact get1 h2 e2
section
variable {H : Hp} {E : Addr} {m n : Int} {s t : Str}
theorem EnvT.gM (h : EnvT H E m n s t) : getV H [[109]] (.ref E) = some (.int m) := let ⟨_, h1, _⟩ := h.at_; get1 h1 rfl
theorem EnvT.gN (h : EnvT H E m n s t) : getV H [[110]] (.ref E) = some (.int n) := let ⟨_, h1, _⟩ := h.at_; get1 h1 rfl
theorem EnvT.gS (h : EnvT H E m n s t) : getV H [[115]] (.ref E) = some (.str s) := let ⟨_, h1, _⟩ := h.at_; get1 h1 rfl
theorem EnvT.gT (h : EnvT H E m n s t) : getV H [[116]] (.ref E) = some (.str t) := let ⟨_, h1, _⟩ := h.at_; get1 h1 rfl
theorem EnvT.gO (h : EnvT H E m n s t) : getV H [[111]] (.ref E) = some .non := let ⟨_, h1, _⟩ := h.at_; get1 h1 rfl
theorem EnvT.gRM (h : EnvT H E m n s t) : getV H [[114], [109]] (.ref E) = some (.int m) := let ⟨_, h1, h2⟩ := h.at_; get2 h1 rfl h2 rfl
theorem EnvT.gRO (h : EnvT H E m n s t) : getV H [[114], [111]] (.ref E) = some .non := let ⟨_, h1, h2⟩ := h.at_; get2 h1 rfl h2 rfl
end
theorem row_bl {H : Hp} {env : V} {z : Str} {b : Bool} (e : Ex) (hp : parseE z.cps.toList = some e) (hz : Nat.ble z.length 1000 = true) (hl : Nat.ble e.lev 8 = true) (hw : Nat.ble e.wid 1000 = true) (ev : evV H env e = some (.bl b)) : RowOk H env (.str z, .bl b) (.bool b) :=
  ⟨z, e, _, rfl, Nat.le_trans (Nat.le_of_ble_eq_true hz) (by decide), hp, Nat.le_of_ble_eq_true hl, Nat.le_of_ble_eq_true hw, ev, .bl b, .bl b, (ShD.bool b).mono (by decide) (Nat.le_refl _)⟩
theorem row_int {H : Hp} {env : V} {z : Str} {i : Int} (e : Ex) (hp : parseE z.cps.toList = some e) (hz : Nat.ble z.length 1000 = true) (hl : Nat.ble e.lev 8 = true) (hw : Nat.ble e.wid 1000 = true) (ev : evV H env e = some (.int i)) (hi : i.natAbs ≤ 10 ^ 30) : RowOk H env (.str z, .int i) (.int i) :=
  ⟨z, e, _, rfl, Nat.le_trans (Nat.le_of_ble_eq_true hz) (by decide), hp, Nat.le_of_ble_eq_true hl, Nat.le_of_ble_eq_true hw, ev, .int i, .int i, (ShD.int hi).mono (by decide) (Nat.le_refl _)⟩
theorem row_str {H : Hp} {env : V} {z y : Str} (e : Ex) (hp : parseE z.cps.toList = some e) (hz : Nat.ble z.length 1000 = true) (hl : Nat.ble e.lev 8 = true) (hw : Nat.ble e.wid 1000 = true) (ev : evV H env e = some (.str y)) (hy : TextOk 190 y) : RowOk H env (.str z, .str y) (.str y) :=
  ⟨z, e, _, rfl, Nat.le_trans (Nat.le_of_ble_eq_true hz) (by decide), hp, Nat.le_of_ble_eq_true hl, Nat.le_of_ble_eq_true hw, ev, .str y, .str y, (ShD.str hy).mono (by decide) (Nat.le_refl _)⟩
abbrev vM : Ex := .get [[109]]
abbrev vN : Ex := .get [[110]]
abbrev vS : Ex := .get [[115]]
abbrev vT : Ex := .get [[116]]
abbrev vO : Ex := .get [[111]]
/-! ### texts joined -/
theorem join_two (a b : Str) : Txt.join "" [a, b] = a ++ b := by
  refine str_ext ?_
  rw [join_empty rfl, app_list]
  simp
theorem join_one (a : Str) : Txt.join "" [a] = a := by
  refine str_ext ?_
  rw [join_empty rfl]
  simp
theorem join_six (a b c d e f : Str) : Txt.join "" [a, b, c, d, e, f] = a ++ b ++ c ++ d ++ e ++ f := by
  refine str_ext ?_
  rw [join_empty rfl, app_list, app_list, app_list, app_list, app_list]
  simp
theorem num_small {i : Int} (h : i.natAbs ≤ 10 ^ 29) : TextOk 40 (Str.ofString (toString i)) := by
  refine ⟨?_, ?_⟩
  · have e := int_text_length_le10 (a := i) (k := 30) (by decide) (Nat.lt_of_le_of_lt h (by decide +kernel))
    have e2 : (Str.ofString (toString i)).length = (toString i).length := PySem.ofString_length _
    rw [e2]
    omega
  · intro c hc
    have nat : ∀ n : Nat, ∀ c ∈ (Str.ofString (toString ((n : Nat) : Int))).cps.toList, okc c = true := fun n c hc => by
      have e : (Str.ofString (toString ((n : Nat) : Int))).cps.toList = TL.numL n := TL.tl_num n
      rw [e] at hc
      have h1 : ¬ (c < 48 ∨ 57 < c) := fun z => TL.numL_free z hc
      have all : ∀ c, c < 58 → 48 ≤ c → okc c = true := by decide +kernel
      exact all c (by omega) (by omega)
    cases i with
    | ofNat k => exact nat k c hc
    | negSucc k =>
      have e : toString (Int.negSucc k) = "-" ++ Nat.repr (k + 1) := rfl
      rw [e, Str.ofString_eq_toList] at hc
      simp at hc
      rcases hc with h | h
      · subst h
        decide
      · refine nat (k + 1) c ?_
        show c ∈ (Str.ofString (Nat.repr (k + 1))).cps.toList
        rw [Str.ofString_eq_toList]
        simpa using h
theorem text_m {H : Hp} {env : V} {i : Int} (h : i.natAbs ≤ 10 ^ 29) : textOf (.int i) = some (Str.ofString (toString i)) := by
  have l := int_log (i := i) (Nat.le_trans h (by decide +kernel))
  show (if Nat.ble i.natAbs.log2 1919 = true then some (Str.ofString (toString i)) else none) = _
  rw [if_pos (Nat.ble_eq_true_of_le (by omega))]
theorem ap_joined {H : Hp} {vs : List V} {zs : List Str} (h : textsOf vs = some zs) (hl : Nat.ble ((zs.map (·.length)).sum + zs.length) 99999 = true) : applyV H "joined" vs = some (.str (Txt.join "" zs)) := by
  unfold applyV
  rw [if_neg (by decide), if_pos (by decide), h]
  show (if Nat.ble ((zs.map (·.length)).sum + zs.length) 99999 = true then _ else _) = _
  rw [if_pos hl]
def rsOf {H : Hp} {L : Addr} {rs : List (V × V)} (_ : RowsIn H L rs) : List (V × V) := rs
section
variable {H : Hp} {env x y u v x5 x6 : V} {w : Str} {a b c d e f : Ex}
theorem ev1 (ha : evV H env a = some x) : evV H env (.call w [a]) = applyV H w [x] := by simp only [evV, evVs, ha]
theorem ev2 (ha : evV H env a = some x) (hb : evV H env b = some y) : evV H env (.call w [a, b]) = applyV H w [x, y] := by simp only [evV, evVs, ha, hb]
theorem ev4 (ha : evV H env a = some x) (hb : evV H env b = some y) (hc : evV H env c = some u) (hd : evV H env d = some v) : evV H env (.call w [a, b, c, d]) = applyV H w [x, y, u, v] := by simp only [evV, evVs, ha, hb, hc, hd]
theorem ev6 (ha : evV H env a = some x) (hb : evV H env b = some y) (hc : evV H env c = some u) (hd : evV H env d = some v) (he : evV H env e = some x5) (hf : evV H env f = some x6) : evV H env (.call w [a, b, c, d, e, f]) = applyV H w [x, y, u, v, x5, x6] := by
  simp only [evV, evVs, ha, hb, hc, hd, he, hf]
theorem dI (i j : Int) : decide (V.int i = V.int j) = decide (i = j) := by simp
theorem dS (i j : Str) : decide (V.str i = V.str j) = decide (i = j) := by simp
theorem dB (i j : Bool) : decide (V.bl i = V.bl j) = decide (i = j) := by simp
theorem ap_eqI (i j : Int) : applyV H "equal" [.int i, .int j] = some (.bl (decide (i = j))) := rfl
theorem ap_eqS (i j : Str) : applyV H "equal" [.str i, .str j] = some (.bl (decide (i = j))) := rfl
theorem ap_eqB (i j : Bool) : applyV H "equal" [.bl i, .bl j] = some (.bl (decide (i = j))) := rfl
theorem ap_less (i j : Int) : applyV H "less" [.int i, .int j] = some (.bl (decide (i < j))) := rfl
theorem ap_not (i : Bool) : applyV H "not" [.bl i] = some (.bl (!i)) := rfl
theorem ap_both (i j : Bool) : applyV H "both" [.bl i, .bl j] = some (.bl (i && j)) := rfl
theorem ap_either (i j : Bool) : applyV H "either" [.bl i, .bl j] = some (.bl (i || j)) := rfl
theorem ap_sum1 (i : Int) : applyV H "sum" [.int i] = some (.int i) := by
  show some (V.int (i + 0)) = _
  rw [Int.add_zero]
theorem ap_sum2 (i j : Int) : applyV H "sum" [.int i, .int j] = some (.int (i + j)) := by
  show some (V.int (i + (j + 0))) = _
  rw [Int.add_zero]
theorem ap_sum4 (i j k l : Int) : applyV H "sum" [.int i, .int j, .int k, .int l] = some (.int (i + j + k + l)) := by
  show some (V.int (i + (j + (k + (l + 0))))) = _
  congr 2
  omega
theorem ap_has (v : V) : applyV H "has" [v] = some (.bl (!decide (v = .non))) := rfl
theorem ap_or (a b : V) : applyV H "or_else" [a, b] = some (if a = .non then b else a) := rfl
theorem ap_size {p : Addr} {xs : List V} (h : H p = some (.tup xs)) : applyV H "size" [.ref p] = some (.int xs.length) := by
  show (match H p with | some (.tup xs) => some (V.int xs.length) | _ => none) = _
  rw [h]
theorem ap_join2 {i j : Str} (hi : i.length ≤ 1000) (hj : j.length ≤ 1000) : applyV H "joined" [.str i, .str j] = some (.str (i ++ j)) := by
  rw [ap_joined (zs := [i, j]) rfl (Nat.ble_eq_true_of_le (by show i.length + (j.length + 0) + 2 ≤ _; omega)), join_two]
theorem ap_join1 {i : Str} (hi : i.length ≤ 1000) : applyV H "joined" [.str i] = some (.str i) := by
  rw [ap_joined (zs := [i]) rfl (Nat.ble_eq_true_of_le (by show i.length + 0 + 1 ≤ _; omega)), join_one]
end
end Sk
/-! Sk: k15's rows of lists -/
namespace Sk
open PySem PySem.Spec PyProof.Rows L2
def kvsL (a b R : Addr) : List (Key × V) := [(.inr "l", .ref a), (.inr "o", .non), (.inr "e", .ref b), (.inr "r", .ref R)]
def kvsQ (a : Addr) : List (Key × V) := [(.inr "l", .ref a)]
structure EnvL (H : Hp) (E a R : Addr) (zs : List Str) : Prop where
  at_ : ∃ b, H E = some (.dK (kvsL a b R)) ∧ H b = some (.tup [])
  hR : H R = some (.dK (kvsQ a))
  ha : H a = some (.tup (zs.map V.str))
theorem EnvL.same {H H' : Hp} {E a R : Addr} {zs : List Str} (h : EnvL H E a R zs) (k : Same H H') : EnvL H' E a R zs := by
  obtain ⟨b, h1, h2⟩ := h.at_
  exact ⟨⟨b, k _ _ h1, k _ _ h2⟩, k _ _ h.hR, k _ _ h.ha⟩
section
variable {H : Hp} {E a R : Addr} {zs : List Str}
theorem EnvL.gL (h : EnvL H E a R zs) : getV H [[108]] (.ref E) = some (.ref a) := let ⟨_, h1, _⟩ := h.at_; get1 h1 rfl
theorem EnvL.gO (h : EnvL H E a R zs) : getV H [[111]] (.ref E) = some .non := let ⟨_, h1, _⟩ := h.at_; get1 h1 rfl
theorem EnvL.gE (h : EnvL H E a R zs) : ∃ b, getV H [[101]] (.ref E) = some (.ref b) ∧ H b = some (.tup []) := let ⟨b, h1, h2⟩ := h.at_; ⟨b, get1 h1 rfl, h2⟩
theorem EnvL.gR (h : EnvL H E a R zs) : getV H [[114]] (.ref E) = some (.ref R) := let ⟨_, h1, _⟩ := h.at_; get1 h1 rfl
theorem EnvL.gRL (h : EnvL H E a R zs) : getV H [[114], [108]] (.ref E) = some (.ref a) := let ⟨_, h1, _⟩ := h.at_; get2 h1 rfl h.hR rfl
end
theorem drs {H : Hp} : ∀ zs : List Str, DrAll H (zs.map V.str) (zs.map PyData.str)
  | [] => .nil
  | z :: r => .cons (.str z) (drs r)
theorem shds {zs : List Str} (h : ∀ z ∈ zs, TextOk 10 z) (hl : zs.length ≤ 5) : ShD (.tuple (zs.map PyData.str)) 600 5 := by
  have := ShD.tuple (ShL.of (w := 102) (k := 0) (ds := zs.map PyData.str) fun d hd => by
    obtain ⟨z, hz, rfl⟩ := List.mem_map.mp hd
    exact ShD.str (h z hz))
  refine this.mono ?_ (by decide)
  rw [List.length_map]
  omega
theorem ShD.dict1 {d : PyData} {z : Str} {n w k : Nat} (hz : TextOk n z) (h : ShD d w k) : ShD (.dict [(.str z, d)]) (10 * n + w + 9) (k + 1) := by
  obtain ⟨k1, k2, k3⟩ := ShD.str (k := 0) hz
  obtain ⟨h1, h2, h3⟩ := h
  have k2 : (PyData.shown (.str z)).length ≤ 10 * n + 2 := k2
  refine ⟨?_, ?_, ?_⟩
  · show ((PyData.str z).showable && d.showable && true) = true
    rw [k1, h1]
    rfl
  · have := dictText_len_le (PyData.shownKv [(.str z, d)])
    have e : PyData.shownKv [(.str z, d)] = [PyData.shown (.str z) ++ ": " ++ d.shown] := rfl
    rw [e] at this
    rw [List.map_cons, List.sum_cons, List.length_cons, app_len, app_len] at this
    have e2 : (": " : Str).length = 2 := rfl
    rw [e2] at this
    show (dictText [PyData.shown (.str z) ++ ": " ++ d.shown]).length ≤ _
    simp at this
    omega
  · show max (max 0 d.depth) 0 + 1 ≤ k + 1
    omega
theorem row_ref {H : Hp} {env : V} {z : Str} {v u : V} {d : PyData} (e : Ex) (hp : parseE z.cps.toList = some e) (hz : Nat.ble z.length 1000 = true) (hl : Nat.ble e.lev 8 = true) (hw : Nat.ble e.wid 1000 = true) (ev : evV H env e = some v) (hv : Dr H v d) (hu : Dr H u d) (hs : ShD d 2000 20) : RowOk H env (.str z, u) d :=
  ⟨z, e, _, rfl, Nat.le_trans (Nat.le_of_ble_eq_true hz) (by decide), hp, Nat.le_of_ble_eq_true hl, Nat.le_of_ble_eq_true hw, ev, hv, hu, hs⟩
theorem dr_dict {H : Hp} {R a : Addr} {zs : List Str} (hR : H R = some (.dK (kvsQ a))) (ha : H a = some (.tup (zs.map V.str))) : Dr H (.ref R) (.dict [(.str "l", .tuple (zs.map PyData.str))]) :=
  .dic hR (.cons (.str _) .nil) (.cons (.tup ha (drs zs)) .nil)
theorem dpS {K : PySem.W.Frag} {H : Hp} : ∀ zs : List Str, DpAll K H (zs.map V.str) (zs.map PyData.str)
  | [] => .nil
  | z :: r => .cons (.str z) (dpS r)
theorem plainS' : ∀ zs : List Str, PyData.plainAll (zs.map PyData.str) = true
  | [] => rfl
  | z :: r => by
    show (true && PyData.plainAll (r.map PyData.str)) = true
    rw [plainS' r]
    rfl
theorem depS : ∀ zs : List Str, PyData.depthAll (zs.map PyData.str) = 0
  | [] => rfl
  | z :: r => by
    show max 0 (PyData.depthAll (r.map PyData.str)) = 0
    rw [depS r]
    rfl
theorem shpS (zs : List Str) : shp (.tuple (zs.map PyData.str)) = true := by
  unfold shp
  rw [Bool.and_eq_true]
  refine ⟨plainS' zs, decide_eq_true ?_⟩
  show PyData.depthAll (zs.map PyData.str) + 1 ≤ 64
  rw [depS]
  decide
theorem eqvS (zs : List Str) : PyData.eqv (.tuple (zs.map PyData.str)) (.tuple []) = zs.isEmpty := by
  cases zs with
  | nil => rfl
  | cons z r => rfl
end Sk
namespace Sk
open PySem PySem.Spec PyProof.Rows L2
section
variable {P : Program} {w : World} {K : PySem.W.Frag} {mg : Str → Option Value} {base : Heap}
/-! ### _law_draw -/
def sp_draw : Sp := fun vs H Q _ => match vs with
  | [.ref a, .int m] => Pool H a ∧ 0 < m ∧ m < 1073741824 ∧ ∀ (i : Int) (H' : Hp), 0 ≤ i → i < m → Pool H' a → Keep a H H' → Q (.int i) H'
  | _ => False
theorem ok_draw (T : Top K mg) (k : Nat) : Ok__law_draw P w base T (k + 1) sp_draw := by
  refine T.F__law_draw.ok sc__law_draw (fun vs H Q E h => ?_) (fun cdv A outer s H vs Q E hr h => ⟨_, PSs.nox (pss_cons (ps_asg (pe_op (kplus K) (pe_ix (kget K) (vr 0) pe_int (fun _ _ => rfl)) pe_int) (pg_sub (vr 0) pe_int set_list))
      (pss_cons (ps_set (i := 2) sc__law_draw.nd rfl (by first | exact .inl rfl | exact .inr rfl) (pe_ix (kget K) (vr 0) pe_int (fun _ _ => rfl)))
      (pss_cons (ps_asg (pe_op op_modI (pe_op (kplus K) (pe_op (kplus K) (pe_op op_mulU (vr 2) (pe_op (kplus K) (pe_op op_modI (vr 2) pe_int) pe_int)) (pe_op op_mulU pe_int (pe_ix (kget K) (vr 0) pe_int (fun _ _ => rfl)))) pe_int) pe_int) (pg_sub (vr 0) pe_int set_list))
      (pss_cons (sif (tcmp op_gtI (pe_ix (kget K) (vr 0) pe_int (fun _ _ => rfl)) pe_int (nomark _)) (pss_cons (ps_asg (pe_callB call_dm (by rfl) T.n_divmod (by decide +kernel) (pa_cons (pe_ix (kget K) (vr 0) pe_int (fun _ _ => rfl)) (pa_cons (vr 1) pa_nil))) (gtup K 2 rfl (gs_cons (pg_sub (vr 0) pe_int set_list) (gs_cons (pg_name (i := 3) sc__law_draw.nd rfl (by first | exact .inl rfl | exact .inr rfl)) gs_nil))))
      (pss_one (ps_ret (vr 3)))) pss_nil)
      (pss_one (ps_ret (pe_op op_modI (pe_op op_divI (pe_ix (kget K) (vr 0) pe_int (fun _ _ => rfl)) pe_int) (vr 1)))))))), ?_⟩)
  · unfold sp_draw at h
    split at h
    · rfl
    · exact h.elim
  · unfold sp_draw at h
    split at h
    · obtain ⟨⟨s, d, n, hp, h0, h1, h2⟩, hm, hm2, q⟩ := h
      rename_i a m
      refine ⟨_, _, .inl (sqL_of hp), rfl, ?_⟩
      refine ⟨_, _, _, _, rfl, rfl, hp, rfl, ?_⟩
      refine ⟨_, _, .inl (sqL_of upd_same), rfl, ?_⟩
      refine ⟨by decide, .inl ⟨by omega, by omega⟩, _, _, .inl (sqL_of upd_same), rfl, .inl ⟨by decide, by decide⟩, by decide, _, _, _, _, rfl, rfl, upd_same, rfl, ?_⟩
      refine ⟨_, _, .inl (sqL_of upd_same), rfl, ?_⟩
      refine br2 (fun e => ?_) (fun e => ?_)
      · have e := of_decide_eq_true e
        refine ⟨_, _, .inl (sqL_of upd_same), rfl, ⟨hm, hm2⟩, fun p np => ?_⟩
        have npa := (upd_none np).1
        refine ⟨_, _, rfl, sqT_of upd_same, rfl, ?_⟩
        refine ⟨_, _, _, _, rfl, rfl, (upd_ne npa.symm).trans upd_same, rfl, ?_⟩
        refine q _ _ (Int.emod_nonneg _ (by omega)) (Int.emod_lt_of_pos _ hm) ⟨_, _, _, upd_same, Int.emod_nonneg _ (by decide), Int.emod_lt_of_pos _ (by decide), Int.ediv_nonneg h2 (by omega)⟩ ?_
        exact ((Keep.refl a H).upd.upd.trans (keep_of (same_new np))).upd
      · refine ⟨_, _, .inl (sqL_of upd_same), rfl, ⟨by decide, by decide⟩, hm, ?_⟩
        refine q _ _ (Int.emod_nonneg _ (by omega)) (Int.emod_lt_of_pos _ hm) ⟨_, _, _, upd_same, Int.emod_nonneg _ (by decide), Int.emod_lt_of_pos _ (by decide), h2⟩ ?_
        exact (Keep.refl a H).upd.upd
    · exact h.elim
/-! ### _law_cell, _law_pool -/
def sp_cell (K : PySem.W.Frag) : Sp := fun vs H Q _ => match vs with
  | [.ref a, .int k] => (∃ ns : List Int, SqL K H a (ns.map V.int)) ∧ 0 ≤ k ∧ k < 64 ∧ ∀ (i : Int) (H' : Hp), Same H H' → Q (.int i) H'
  | _ => False
theorem ok_cell (T : Top K mg) (k : Nat) : Ok__law_cell P w base T (k + 1) (sp_cell K) := by
  refine T.F__law_cell.ok sc__law_cell (fun vs H Q E h => ?_) (fun cdv A outer s H vs Q E hr h => ⟨_, PSs.nox (pss_cons (sif (tcmp op_ltI (vr 1) (pe_callB (klen K) (by rfl) T.n_len (by decide +kernel) (pa_cons (vr 0) pa_nil)) (nomark _)) (pss_one (ps_ret (pe_ix (kget K) (vr 0) (vr 1) (fun _ _ => rfl)))) pss_nil)
      (pss_cons (ps_set (i := 2) sc__law_cell.nd rfl (by first | exact .inl rfl | exact .inr rfl) (pe_op op_modI (pe_op op_mulU pe_int (pe_op (kplus K) (pe_op (kplus K) (pe_op op_mulU (vr 1) (vr 1)) (pe_op op_mulU pe_int (vr 1))) pe_int)) pe_int))
      (pss_cons (ps_for PassesOwn.never rfl (ilist K (pe_slice (kcut K) (vr 0) po_none (po_u pe_int))) (pg_name (i := 3) sc__law_cell.nd rfl (by first | exact .inl rfl | exact .inr rfl)) (pss_one (ps_set (i := 2) sc__law_cell.nd rfl (by first | exact .inl rfl | exact .inr rfl) (pe_op op_modI (pe_op (kplus K) (pe_op op_mulU (vr 2) pe_int) (vr 3)) pe_int))))
      (pss_one (ps_ret (vr 2)))))), ?_⟩)
  · unfold sp_cell at h
    split at h
    · rfl
    · exact h.elim
  · unfold sp_cell at h
    split at h
    · obtain ⟨⟨ns, hS⟩, h0, h1, q⟩ := h
      rename_i a m
      refine ⟨_, .inl hS, br2 (fun e => ?_) (fun e => ?_)⟩
      · have e := of_decide_eq_true e
        rw [List.length_map] at e
        have hl : m.toNat < ns.length := by omega
        refine ⟨_, .int ns[m.toNat], .inl hS, ?_, q _ _ (Same.refl H)⟩
        unfold atI ixN
        rw [if_pos h0, List.length_map, if_pos e]
        show (ns.map V.int)[m.toNat]? = _
        rw [List.getElem?_map, List.getElem?_eq_getElem hl]
        rfl
      · refine ⟨.inl ⟨by omega, by omega⟩, .inl ⟨by decide, by decide⟩, .inl ⟨by decide, by decide⟩, by decide, ?_⟩
        refine .inl ⟨_, _, rfl, hS, fun p np => ?_⟩
        refine ⟨p, rfl, ⟨_, sqL_of upd_same⟩, for_list (xs := cutV (ns.map V.int) none (some 3)) (fun i σ H' => H' = upd H p (.lst (cutV (ns.map V.int) none (some 3))) ∧ ∃ (st : Int) (y : Option V), σ = [some (.ref a), some (.int m), some (.int st), y]) ⟨rfl, _, _, rfl⟩
          (fun i σ H' _ hv => ?_) (fun i x σ H' hx hv => ?_) (fun σ H' hv => ?_)⟩
        · rw [hv.1]
          exact sqL_of upd_same
        · obtain ⟨rfl, st, y, rfl⟩ := hv
          have hx' : ∃ n : Int, x = .int n := by
            have hm : x ∈ ns.map V.int := List.drop_subset _ _ (List.take_subset _ _ (List.mem_of_getElem? hx))
            obtain ⟨n, _, e⟩ := List.mem_map.mp hm
            exact ⟨n, e.symm⟩
          obtain ⟨n, rfl⟩ := hx'
          exact ⟨.inr ⟨by decide, by decide⟩, by decide, rfl, _, _, rfl⟩
        · obtain ⟨rfl, st, y, rfl⟩ := hv
          exact q _ _ (same_new np)
    · exact h.elim
def sp_pool : Sp := fun vs H Q _ => match vs with
  | [.int k] => ∀ (a : Addr) (H' : Hp), Same H H' → H a = none → Pool H' a → Q (.ref a) H'
  | _ => False
theorem ok_pool (T : Top K mg) (k : Nat) : Ok__law_pool P w base T (k + 1) sp_pool := by
  refine T.F__law_pool.ok sc__law_pool (fun vs H Q E h => ?_) (fun cdv A outer s H vs Q E hr h => ⟨_, PSs.nox (pss_cons (ps_set (i := 1) sc__law_pool.nd rfl (by first | exact .inl rfl | exact .inr rfl) pe_int)
      (pss_cons (sif (PW.pt (wor (tcmp op_ltI (vr 0) pe_int (nomark _)) (pw_or1 (tcmp op_geI (vr 0) (pe_op op_powI pe_int pe_int) (nomark _))))) (pss_one (ps_set (i := 1) sc__law_pool.nd rfl (by first | exact .inl rfl | exact .inr rfl) (pe_callB call_absU (by rfl) T.n_abs (by decide +kernel) (pa_cons (vr 0) pa_nil)))) pss_nil)
      (pss_one (ps_ret (pe_lst (pa_cons (pe_op op_modI (vr 0) pe_int) (pa_cons (vr 1) (pa_cons pe_int pa_nil)))))))), ?_⟩)
  · unfold sp_pool at h
    split at h
    · rfl
    · exact h.elim
  · unfold sp_pool at h
    split at h
    · rename_i m
      have fin : ∀ d : Int, 0 ≤ d → (([V.int (m % 1000000007), .int d, .int 0].length ≤ sizeLine) ∧ ∀ p, H p = none → Q (.ref p) (upd H p (.lst [.int (m % 1000000007), .int d, .int 0]))) := fun d hd =>
        ⟨by show 3 ≤ sizeLine; decide, fun p np => h p _ (same_new np) np ⟨_, _, _, upd_same, Int.emod_nonneg _ (by decide), Int.emod_lt_of_pos _ (by decide), hd⟩⟩
      refine br2 (fun e => ?_) (fun e => ?_)
      · refine ⟨by decide, fin _ ?_⟩
        have e := of_decide_eq_true e
        rw [if_pos e]
        omega
      · refine ⟨⟨by decide, by decide, by decide⟩, br2 (fun e2 => ?_) (fun e2 => ?_)⟩
        · refine ⟨by decide, fin _ ?_⟩
          split <;> omega
        · exact ⟨by decide, fin _ (by decide)⟩
    · exact h.elim
end
end Sk
namespace Sk
open PySem PySem.Spec PyProof.Rows L2
section
variable {P : Program} {w : World} {K : PySem.W.Frag} {mg : Str → Option Value} {base : Heap}
/-! ### name_from -/
def sp_nmfrom : Sp := fun vs H Q _ => match vs with
  | [.str z, .int i] => ∃ n cs, i = ((n : Nat) : Int) ∧ TxtAt z n cs ∧ Q (.str (mkS (nameAt cs))) H
  | _ => False
theorem ok_nmfrom (T : Top K mg) (k : Nat) : Ok_name_from P w base T (k + 1) sp_nmfrom := by
  refine T.F_name_from.ok sc_name_from (fun vs H Q E h => ?_) (fun cdv A outer s H vs Q E hr h => ⟨_, PSs.nox (pss_cons (ps_set (i := 2) sc_name_from.nd rfl (by first | exact .inl rfl | exact .inr rfl) (vr 1))
      (pss_cons (ps_while PassesOwn.never (upt (PW.pt (wand (tcmp op_ltI (vr 2) (pe_callB (klen K) (by rfl) T.n_len (by decide +kernel) (pa_cons (vr 0) pa_nil)) (nomark _)) (pw_and1 (tcmp (kin K) (pe_ix (kget K) (vr 0) (vr 2) (fun _ _ => rfl)) (pe_glob (v := .str ("abcdefghijklmnopqrstuvwxyz")) (by rfl) T.c_LETTERS ⟨_, rfl⟩) (by rfl)))))) (pss_one (ps_aug (i := 2) sc_name_from.nd rfl (by first | exact .inl rfl | exact .inr rfl) pe_int ip_add)))
      (pss_one (ps_ret (pe_slice (kcut K) (vr 0) (po_u (vr 1)) (po_u (vr 2))))))), ?_⟩)
  · unfold sp_nmfrom at h
    split at h
    · rfl
    · exact h.elim
  · unfold sp_nmfrom at h
    split at h
    · obtain ⟨n, cs, rfl, t, q⟩ := h
      rename_i z
      rw [st_name_from]
      have tl := tw_len (p := low) cs
      have a := t.cs
      have b := t.le
      refine while_up (fun σ H' => H' = H ∧ ∃ j : Nat, j ≤ (cs.takeWhile low).length ∧ σ = [some (.str z), some (.int n), some (.int ((n + j : Nat) : Int))]) (fun σ _ => match σ with | [_, _, some (.int e)] => z.length - e.toNat | _ => 0) ⟨rfl, 0, Nat.zero_le _, rfl⟩ (fun σ H' hv => ?_)
      obtain ⟨rfl, j, hj, rfl⟩ := hv
      have fin : j = (cs.takeWhile low).length → Q (.str (cutS z (some (n : Int)) (some ((n + j : Nat) : Int)))) H' := fun e => by
        have c := t.cut 0 j
        rw [Nat.add_zero] at c
        rw [c, List.drop_zero, Nat.sub_zero, e, tw_take]
        exact q
      refine ⟨t.size, br2 (fun e => ?_) (fun e => ?_)⟩
      · have e := of_decide_eq_true e
        have hl : j < cs.length := by omega
        have hc := List.getElem?_eq_getElem hl
        refine ⟨t.size, _, t.get hc, br2 (fun e2 => ?_) (fun e2 => ?_)⟩
        · have e2 : subS ⟨#[cs[j]]⟩ "abcdefghijklmnopqrstuvwxyz" = true := e2
          rw [subS_one, low_mem] at e2
          have g := tw_go hj hc e2
          refine ⟨_, rfl, _, _, rfl, rfl, ⟨rfl, j + 1, g, ?_⟩, ?_⟩
          · show [_, _, some (V.int (((n + j : Nat) : Int) + 1))] = _
            rw [show (((n + j : Nat) : Int) + 1) = ((n + (j + 1) : Nat) : Int) by omega]
          · show z.length - (((n + j : Nat) : Int) + 1).toNat < z.length - ((n + j : Nat) : Int).toNat
            omega
        · have e2 : subS ⟨#[cs[j]]⟩ "abcdefghijklmnopqrstuvwxyz" = false := e2
          rw [subS_one, low_mem] at e2
          exact ⟨t.size, fin (tw_stop hj fun c h => by rw [hc] at h; cases h; exact e2)⟩
      · have e := of_decide_eq_false e
        exact ⟨t.size, fin (tw_stop hj fun c h => by have := (List.getElem?_eq_some_iff.mp h).1; omega)⟩
    · exact h.elim
/-! ### is_name, of letters -/
def sp_isnm : Sp := fun vs H Q _ => match vs with
  | [.str z] => z.length ≤ 100000 ∧ (∀ c ∈ z.cps.toList, low c = true) ∧ ∀ H', Same H H' → Q (.bl (nmOk z.cps.toList)) H'
  | _ => False
theorem ok_isnm (T : Top K mg) (k : Nat) : Ok_is_name P w base T (k + 1) sp_isnm := by
  refine T.F_is_name.ok sc_is_name (fun vs H Q E h => ?_) (fun cdv A outer s H vs Q E hr h => ⟨_, PSs.nox (pss_one (ps_ret (vand (pe_callB (kis K) (by rfl) T.n_isinstance (by decide +kernel) (pa_cons (vr 0) (pa_cons (pe_bltn (v := .ty "str") (by rfl) T.n_str (by decide +kernel) rfl) pa_nil))) (vand (vchain op_ltI op_ltI pe_int (pe_callB (klen K) (by rfl) T.n_len (by decide +kernel) (pa_cons (vr 0) pa_nil)) pe_int) (pe_one (pe_callB (kall K rfl) (by rfl) T.n_all (by decide +kernel) (pa_cons (pe_lc (own := [("letter", 1)])  rfl sc_is_name.nd (pi_str (vr 0)) (blkOk_by (own := [("letter", 1)]) (N := ["thing", "letter"]) (sc := defScope s_is_name) (by decide +kernel)) (fun _ _ _ _ _ => (pg_name (i := 1) sc_is_name.nd rfl (by first | exact .inl rfl | exact .inr rfl))) (fun _ _ _ _ _ => pts_nil) (fun _ _ _ _ _ => up (pe_cmpR (kin K) (vr 1) (pe_glob (v := .str ("abcdefghijklmnopqrstuvwxyz")) (by rfl) T.c_LETTERS ⟨_, rfl⟩) (by rfl)))) pa_nil))))))), ?_⟩)
  · unfold sp_isnm at h
    split at h
    · rfl
    · exact h.elim
  · unfold sp_isnm at h
    split at h
    · obtain ⟨hz, hl, q⟩ := h
      rename_i z
      have l := len_list z
      have no : (Nat.ble 1 z.length && Nat.ble z.length 12) = false → nmOk z.cps.toList = false := fun e => by
        unfold nmOk
        rw [← l]
        exact e
      have yes : 1 ≤ z.length → z.length ≤ 12 → nmOk z.cps.toList = true := fun h1 h2 => by
        unfold nmOk
        rw [← l, Nat.ble_eq_true_of_le h1, Nat.ble_eq_true_of_le h2]
        rfl
      rw [st_is_name]
      refine ⟨_, _, .base (.str _), rfl, ?_⟩
      refine ⟨size_le hz, br2 (fun e => ?_) (fun e => ?_)⟩
      · have e := of_decide_eq_true e
        refine br2 (fun e2 => ?_) (fun e2 => ?_)
        · have e2 := of_decide_eq_true e2
          refine ⟨z, rfl, fun D nD => ?_⟩
          refine lcw walk_str fr_same (fun _ v _ => v = .bl true) trivial nD (by have : z.cps.size = z.length := rfl; omega) gm_name (fun _ _ _ => trivial) (fun _ _ _ _ h _ => h) (fun i x H1 H1' hi _ s1 hy => ?_) (fun H1 ys _ s1 l1 e1 q1 => ?_)
          · obtain ⟨rfl, c, hc, rfl⟩ := hy
            refine ⟨rfl, trivial, Same.refl _, ?_⟩
            have hm : c ∈ z.cps.toList := by
              rw [← Array.getElem?_toList] at hc
              exact List.mem_of_getElem? hc
            show V.bl (subS ⟨#[c]⟩ _) = .bl true
            rw [subS_one, low_mem, hl c hm]
          · obtain ⟨bs, rfl, hb⟩ := bls_true q1
            refine ⟨_, bs, rfl, sqL_of e1, ?_⟩
            rw [hb, ← yes (by omega) (by omega)]
            exact q _ s1
        · have e2 := of_decide_eq_false e2
          have := q _ (Same.refl H)
          rw [no (by rw [show Nat.ble z.length 12 = false from Bool.eq_false_iff.mpr fun h => by have := Nat.le_of_ble_eq_true h; omega]; simp)] at this
          exact this
      · have e := of_decide_eq_false e
        have := q _ (Same.refl H)
        rw [no (by rw [show Nat.ble 1 z.length = false from Bool.eq_false_iff.mpr fun h => by have := Nat.le_of_ble_eq_true h; omega]; simp)] at this
        exact this
    · exact h.elim
end
end Sk
namespace Sk
open PySem PySem.Spec PyProof.Rows L2
theorem digs_all {l : List Nat} (h : ∀ c ∈ l, dgt c = true) : NumText.AllDigits l := fun c hc => by
  have e := h c hc
  unfold dgt at e
  rw [Bool.and_eq_true] at e
  exact ⟨Nat.le_of_ble_eq_true e.1, Nat.le_of_ble_eq_true e.2⟩
theorem int_read {neg : Bool} {d : List Nat} (h : ∀ c ∈ d, dgt c = true) (h1 : 1 ≤ d.length) (h2 : d.length ≤ 15) : PySem.intText? (mkS ((if neg then [45] else []) ++ d)) = some (numOf neg d) := by
  have ne : d ≠ [] := fun e => by rw [e] at h1; simp at h1
  cases neg with
  | false => exact intText_digits (digs_all h) ne (by rw [mk_len]; exact Nat.le_trans h2 (by decide))
  | true => exact intText_neg (cs := d) rfl (digs_all h) ne (by rw [mk_len]; show d.length + 1 ≤ _; omega)
theorem sgn_dec (c : Nat) {y : Str} {d : Nat} (h : y.cps.toList = [d]) : decide (V.str ⟨#[c]⟩ = V.str y) = (c == d) := by
  rw [str_dec (show (⟨#[c]⟩ : Str) = mkS [c] from rfl) y, h]
  show ((c == d) && true) = _
  simp
/-- at n a number begins, its digits at s -/
structure DigAt (z : Str) (n c : Nat) (cs : List Nat) (s : Nat) (neg : Bool) (rest : List Nat) : Prop where
  t : TxtAt z s rest
  cut : ∀ j : Nat, cutS z (some (n : Int)) (some ((s + j : Nat) : Int)) = mkS ((if neg then [45] else []) ++ rest.take j)
  want : (if c == 45 then rDig true cs else rDig false (c :: cs)) = rDig neg rest
  gt : decide ((n : Int) < ((s : Nat) : Int)) = neg
theorem dig_neg {z : Str} {n : Nat} {cs : List Nat} (t : TxtAt z n (45 :: cs)) : DigAt z n 45 cs (n + 1) true cs := by
  refine ⟨t.on (j := 1) (by simp), fun j => ?_, rfl, decide_eq_true (by omega)⟩
  have c := t.cut 0 (1 + j)
  rw [show n + (1 + j) = n + 1 + j by omega] at c
  rw [Nat.add_zero] at c
  rw [c, List.drop_zero, Nat.sub_zero, Nat.add_comm 1 j, List.take_succ_cons]
  rfl
theorem dig_pos {z : Str} {n c : Nat} {cs : List Nat} (t : TxtAt z n (c :: cs)) (h : c ≠ 45) : DigAt z n c cs n false (c :: cs) := by
  refine ⟨t, fun j => ?_, by rw [show (c == 45) = false from by simpa using h]; rfl, decide_eq_false (by omega)⟩
  have e := t.cut 0 j
  rw [Nat.add_zero] at e
  rw [e, List.drop_zero, Nat.sub_zero]
  rfl
section
variable {P : Program} {w : World} {K : PySem.W.Frag} {mg : Str → Option Value} {base : Heap}
/-! ### read_quoted -/
def sp_rq : Sp := fun vs H Q _ => match vs with
  | [.str z, .int i] => ∃ n c cs, i = ((n : Nat) : Int) ∧ TxtAt z n (c :: cs) ∧ ∀ v H', Same H H' → ResV z H' v (rQuoted cs) → Q v H'
  | _ => False
theorem ok_rq (T : Top K mg) (k : Nat) : Ok_read_quoted P w base T (k + 1) sp_rq := by
  refine T.F_read_quoted.ok sc_read_quoted (fun vs H Q E h => ?_) (fun cdv A outer s H vs Q E hr h => ⟨_, PSs.nox (pss_cons (ps_set (i := 2) sc_read_quoted.nd rfl (by first | exact .inl rfl | exact .inr rfl) (pe_op (kplus K) (vr 1) pe_int))
      (pss_cons (ps_while PassesOwn.never (upt (PW.pt (wand (tcmp op_ltI (vr 2) (pe_callB (klen K) (by rfl) T.n_len (by decide +kernel) (pa_cons (vr 0) pa_nil)) (nomark _)) (pw_and1 (tcmp (knotin K) (pe_ix (kget K) (vr 0) (vr 2) (fun _ _ => rfl)) pe_str (by rfl)))))) (pss_one (ps_aug (i := 2) sc_read_quoted.nd rfl (by first | exact .inl rfl | exact .inr rfl) pe_int ip_add)))
      (pss_cons (sif (PW.pt (wor (tcmp (kother K hr.units) (pe_slice (kcut K) (vr 0) (po_u (vr 2)) (po_u (pe_op (kplus K) (vr 2) pe_int))) pe_str (nomark _)) (pw_or1 (tcmp op_gtI (pe_op op_minus (pe_op op_minus (vr 2) (vr 1)) pe_int) (pe_glob (v := .int (60)) (by rfl) T.c_MOST_CHARS ⟨_, rfl⟩) (nomark _))))) (pss_one (ps_ret pe_non)) pss_nil)
      (pss_one (ps_ret (pe_tup (pa_cons (pe_tup (pa_cons pe_str (pa_cons (pe_slice (kcut K) (vr 0) (po_u (pe_op (kplus K) (vr 1) pe_int)) (po_u (vr 2))) pa_nil))) (pa_cons (pe_op (kplus K) (vr 2) pe_int) pa_nil)))))))), ?_⟩)
  · unfold sp_rq at h
    split at h
    · rfl
    · exact h.elim
  · unfold sp_rq at h
    split at h
    · obtain ⟨n, c, cs, rfl, t0, q⟩ := h
      rename_i z
      have t : TxtAt z (n + 1) cs := t0.on (j := 1) (by simp)
      rw [st_read_quoted]
      have tl := tw_len (p := quo) cs
      have a := t.cs
      have b := t.le
      refine while_up (fun σ H' => H' = H ∧ ∃ j : Nat, j ≤ (cs.takeWhile quo).length ∧ σ = [some (.str z), some (.int n), some (.int ((n + 1 + j : Nat) : Int))]) (fun σ _ => match σ with | [_, _, some (.int e)] => z.length - e.toNat | _ => 0) ⟨rfl, 0, Nat.zero_le _, ?_⟩ (fun σ H' hv => ?_)
      · show [_, _, some (V.int ((n : Int) + 1))] = _
        rw [show ((n : Int) + 1) = ((n + 1 + 0 : Nat) : Int) by omega]
      obtain ⟨eH, j, hj, rfl⟩ := hv
      have q : ∀ v H2, Same H' H2 → ResV z H2 v (rQuoted cs) → Q v H2 := by rw [eH]; exact q
      have fin : j = (cs.takeWhile quo).length → (z.length ≤ sizeLine ∧ br (!decide (V.str (cutS z (some ((n + 1 + j : Nat) : Int)) (some (((n + 1 + j : Nat) : Int) + 1))) = V.str "\"")) (Q .non H') (br (decide ((60 : Int) < ((n + 1 + j : Nat) : Int) - (n : Int) - 1)) (Q .non H') (z.length ≤ sizeLine ∧ ([V.str "text", .str (cutS z (some ((n : Int) + 1)) (some ((n + 1 + j : Nat) : Int)))].length ≤ sizeLine ∧ ∀ p, H' p = none → ([V.ref p, .int (((n + 1 + j : Nat) : Int) + 1)].length ≤ sizeLine ∧ ∀ p2, upd H' p (.tup [.str "text", .str (cutS z (some ((n : Int) + 1)) (some ((n + 1 + j : Nat) : Int)))]) p2 = none → Q (.ref p2) (upd (upd H' p (.tup [.str "text", .str (cutS z (some ((n : Int) + 1)) (some ((n + 1 + j : Nat) : Int)))])) p2 (.tup [.ref p, .int (((n + 1 + j : Nat) : Int) + 1)]))))))) := fun e => by
        have c1 : cutS z (some ((n + 1 + j : Nat) : Int)) (some (((n + 1 + j : Nat) : Int) + 1)) = mkS ((cs.drop j).take 1) := by
          have := t.cut j (j + 1)
          rw [show ((n + 1 + (j + 1) : Nat) : Int) = (((n + 1 + j : Nat) : Int) + 1) by omega, show j + 1 - j = 1 by omega] at this
          exact this
        have c2 : cutS z (some ((n : Int) + 1)) (some ((n + 1 + j : Nat) : Int)) = mkS (cs.take j) := by
          have := t.cut 0 j
          rw [show ((n + 1 + 0 : Nat) : Int) = ((n : Int) + 1) by omega, List.drop_zero, Nat.sub_zero] at this
          exact this
        rw [str_dec c1 "\"", c2]
        have e34 : (Str.ofString "\"").cps.toList = [34] := by decide +kernel
        rw [e34]
        refine ⟨t.size, br2 (fun e1 => ?_) (fun e1 => ?_)⟩
        · refine q _ _ (Same.refl _) ?_
          have : rQuoted cs = none := by
            unfold rQuoted
            rw [← e]
            split
            · rfl
            · rename_i x r hd
              rw [hd] at e1
              have : (x == 34) = false := by simpa using e1
              rw [this]
              rfl
          rw [this]
          rfl
        · refine br2 (fun e2 => ?_) (fun e2 => ?_)
          · have e2 := of_decide_eq_true e2
            refine q _ _ (Same.refl _) ?_
            have : rQuoted cs = none := by
              unfold rQuoted
              rw [← e]
              split
              · rfl
              · rw [show Nat.ble j 60 = false from Bool.eq_false_iff.mpr fun h => by have := Nat.le_of_ble_eq_true h; omega]
                simp
            rw [this]
            rfl
          · have e2 := of_decide_eq_false e2
            refine ⟨t.size, Nat.le_of_ble_eq_true rfl, fun p np => ⟨Nat.le_of_ble_eq_true rfl, fun p2 np2 => ?_⟩⟩
            refine q _ _ ((same_new np).trans (same_new np2)) ?_
            have : ∃ r, cs.drop j = 34 :: r := by
              cases hd : cs.drop j with
              | nil => rw [hd] at e1; simp at e1
              | cons x r =>
                rw [hd] at e1
                have : x = 34 := by simpa using e1
                exact ⟨r, by rw [this]⟩
            obtain ⟨r, hd⟩ := this
            have want : rQuoted cs = some (.text (cs.take j), r) := by
              unfold rQuoted
              rw [← e, hd, e, tw_take, ← e]
              rw [show Nat.ble j 60 = true from Nat.ble_eq_true_of_le (by omega)]
              simp
            rw [want]
            refine ⟨p2, _, rfl, ?_, .text (same_new np2 _ _ upd_same)⟩
            rw [upd_same]
            have lr : (cs.drop j).length = r.length + 1 := by rw [hd]; rfl
            rw [List.length_drop] at lr
            rw [show (((n + 1 + j : Nat) : Int) + 1) = ((z.length - r.length : Nat) : Int) by omega]
      refine ⟨t.size, br2 (fun e => ?_) (fun e => ?_)⟩
      · have e := of_decide_eq_true e
        have hl : j < cs.length := by omega
        have hc := List.getElem?_eq_getElem hl
        refine ⟨t.size, _, t.get hc, br2 (fun e2 => ?_) (fun e2 => ?_)⟩
        · have e2 : (!subS ⟨#[cs[j]]⟩ "\"{}\n") = true := e2
          rw [subS_one, quo_mem] at e2
          have g := tw_go hj hc e2
          refine ⟨_, rfl, _, _, rfl, rfl, ⟨?_, j + 1, g, ?_⟩, ?_⟩
          · exact eH
          · show [_, _, some (V.int (((n + 1 + j : Nat) : Int) + 1))] = _
            rw [show (((n + 1 + j : Nat) : Int) + 1) = ((n + 1 + (j + 1) : Nat) : Int) by omega]
          · show z.length - (((n + 1 + j : Nat) : Int) + 1).toNat < z.length - ((n + 1 + j : Nat) : Int).toNat
            omega
        · have e2 : (!subS ⟨#[cs[j]]⟩ "\"{}\n") = false := e2
          rw [subS_one, quo_mem] at e2
          exact fin (tw_stop hj fun c h => by rw [hc] at h; cases h; exact e2)
      · have e := of_decide_eq_false e
        exact fin (tw_stop hj fun c h => by have := (List.getElem?_eq_some_iff.mp h).1; omega)
    · exact h.elim
/-! ### read_digits -/
def sp_rd : Sp := fun vs H Q _ => match vs with
  | [.str z, .int i] => ∃ n c cs, i = ((n : Nat) : Int) ∧ TxtAt z n (c :: cs) ∧ ∀ v H', Same H H' → ResV z H' v (if c == 45 then rDig true cs else rDig false (c :: cs)) → Q v H'
  | _ => False
theorem ok_rd (T : Top K mg) (k : Nat) : Ok_read_digits P w base T (k + 1) sp_rd := by
  refine T.F_read_digits.ok sc_read_digits (fun vs H Q E h => ?_) (fun cdv A outer s H vs Q E hr h => ⟨_, PSs.nox (pss_cons (ps_set (i := 2) sc_read_digits.nd rfl (by first | exact .inl rfl | exact .inr rfl) (vif (tcmp (ksame K hr.units) (pe_ix (kget K) (vr 0) (vr 1) (fun _ _ => rfl)) pe_str (nomark _)) (pe_op (kplus K) (vr 1) pe_int) (vr 1)))
      (pss_cons (ps_set (i := 3) sc_read_digits.nd rfl (by first | exact .inl rfl | exact .inr rfl) (vr 2))
      (pss_cons (ps_while PassesOwn.never (upt (PW.pt (wand (tcmp op_ltI (vr 3) (pe_callB (klen K) (by rfl) T.n_len (by decide +kernel) (pa_cons (vr 0) pa_nil)) (nomark _)) (pw_and1 (tcmp (kin K) (pe_ix (kget K) (vr 0) (vr 3) (fun _ _ => rfl)) (pe_glob (v := .str ("0123456789")) (by rfl) T.c_DIGITS ⟨_, rfl⟩) (by rfl)))))) (pss_one (ps_aug (i := 3) sc_read_digits.nd rfl (by first | exact .inl rfl | exact .inr rfl) pe_int ip_add)))
      (pss_cons (ps_set (i := 4) sc_read_digits.nd rfl (by first | exact .inl rfl | exact .inr rfl) (pe_op op_minus (vr 3) (vr 2)))
      (pss_cons (sif (PW.pt (wor (tcmp (ksame K hr.units) (vr 4) pe_int (nomark _)) (wor (tcmp op_gtI (vr 4) (pe_glob (v := .int (15)) (by rfl) T.c_MOST_DIGITS ⟨_, rfl⟩) (nomark _)) (pw_or1 (PW.pt (wand (tcmp (ksame K hr.units) (pe_ix (kget K) (vr 0) (vr 2) (fun _ _ => rfl)) pe_str (nomark _)) (pw_and1 (PW.pt (wor (tcmp op_gtI (vr 4) pe_int (nomark _)) (pw_or1 (tcmp op_gtI (vr 2) (vr 1) (nomark _)))))))))))) (pss_one (ps_ret pe_non)) pss_nil)
      (pss_one (ps_ret (pe_tup (pa_cons (pe_tup (pa_cons pe_str (pa_cons (pe_callTy call_intT (by rfl) T.n_int (by decide +kernel) (pa_cons (pe_slice (kcut K) (vr 0) (po_u (vr 1)) (po_u (vr 3))) pa_nil)) pa_nil))) (pa_cons (vr 3) pa_nil)))))))))), ?_⟩)
  · unfold sp_rd at h
    split at h
    · rfl
    · exact h.elim
  · unfold sp_rd at h
    split at h
    · obtain ⟨n, c, cs, rfl, t0, q⟩ := h
      rename_i z
      have e45 : (Str.ofString "-").cps.toList = [45] := by decide +kernel
      have e48 : (Str.ofString "0").cps.toList = [48] := by decide +kernel
      rw [st_read_digits]
      have g0 := t0.get (j := 0) (c := c) rfl
      rw [Nat.add_zero] at g0
      refine ⟨t0.size, c, g0, br2 (fun e => ?_) (fun e => ?_)⟩
      · have e : decide (V.str ⟨#[c]⟩ = V.str "-") = true := e
        rw [sgn_dec c e45] at e
        have e : c = 45 := by simpa using e
        subst e
        have D := dig_neg t0
        have tl := tw_len (p := dgt) (cs)
        have a := D.t.cs
        have b := D.t.le
        have S0 : ((n : Int) + 1 : Int) = ((n + 1 : Nat) : Int) := by omega
        refine while_up (fun σ H' => H' = H ∧ ∃ j : Nat, j ≤ ((cs).takeWhile dgt).length ∧ σ = [some (.str z), some (.int n), some (.int ((n : Int) + 1)), some (.int ((n + 1 + j : Nat) : Int)), none]) (fun σ _ => match σ with | [_, _, _, some (.int e), _] => z.length - e.toNat | _ => 0) ⟨rfl, 0, Nat.zero_le _, ?_⟩ (fun σ H' hv => ?_)
        · show [_, _, _, some (V.int ((n : Int) + 1)), _] = _
          rw [show ((n + 1 + 0 : Nat) : Int) = (n : Int) + 1 by omega]
        obtain ⟨eH, j, hj, rfl⟩ := hv
        have q : ∀ v H2, Same H' H2 → ResV z H2 v (rDig true (cs)) → Q v H2 := by rw [eH, ← D.want]; exact q
        have fin : j = ((cs).takeWhile dgt).length → br (decide (V.int (((n + 1 + j : Nat) : Int) - ((n : Int) + 1)) = V.int 0)) (Q .non H') (br (decide ((15 : Int) < ((n + 1 + j : Nat) : Int) - ((n : Int) + 1))) (Q .non H') (z.length ≤ sizeLine ∧ ∃ d, atI z.cps.toList ((n : Int) + 1) = some d ∧ br (decide (V.str ⟨#[d]⟩ = V.str "0")) (br (decide ((1 : Int) < ((n + 1 + j : Nat) : Int) - ((n : Int) + 1))) (Q .non H') (br (decide ((n : Int) < (n : Int) + 1)) (Q .non H')
              (z.length ≤ sizeLine ∧ ∃ i, PySem.intText? (cutS z (some (n : Int)) (some ((n + 1 + j : Nat) : Int))) = some i ∧ (cutS z (some (n : Int)) (some ((n + 1 + j : Nat) : Int))).length ≤ 640 ∧ ([V.str "number", .int i].length ≤ sizeLine ∧ ∀ p, H' p = none → ([V.ref p, .int ((n + 1 + j : Nat) : Int)].length ≤ sizeLine ∧ ∀ p2, upd H' p (.tup [.str "number", .int i]) p2 = none → Q (.ref p2) (upd (upd H' p (.tup [.str "number", .int i])) p2 (.tup [.ref p, .int ((n + 1 + j : Nat) : Int)])))))))
              (z.length ≤ sizeLine ∧ ∃ i, PySem.intText? (cutS z (some (n : Int)) (some ((n + 1 + j : Nat) : Int))) = some i ∧ (cutS z (some (n : Int)) (some ((n + 1 + j : Nat) : Int))).length ≤ 640 ∧ ([V.str "number", .int i].length ≤ sizeLine ∧ ∀ p, H' p = none → ([V.ref p, .int ((n + 1 + j : Nat) : Int)].length ≤ sizeLine ∧ ∀ p2, upd H' p (.tup [.str "number", .int i]) p2 = none → Q (.ref p2) (upd (upd H' p (.tup [.str "number", .int i])) p2 (.tup [.ref p, .int ((n + 1 + j : Nat) : Int)]))))))) := fun e => by
          have M : (((n + 1 + j : Nat) : Int) - ((n : Int) + 1)) = (j : Int) := by omega
          rw [M]
          have no : ((j == 0) || (Nat.blt 15 j || ((cs).head? == some 48 && (Nat.blt 1 j || true)))) = true → Q .non H' := fun h => q _ _ (Same.refl _) (by
            have : rDig true (cs) = none := by
              unfold rDig
              rw [← e, h]
              rfl
            rw [this]
            rfl)
          refine br2 (fun e1 => ?_) (fun e1 => ?_)
          · have e1 : (V.int (j : Int)) = V.int 0 := of_decide_eq_true e1
            have e1 : j = 0 := by
              injection e1 with e1
              omega
            exact no (by rw [e1]; rfl)
          have j0 : j ≠ 0 := fun z => by
            have := of_decide_eq_false e1
            exact this (by rw [z]; rfl)
          refine br2 (fun e2 => ?_) (fun e2 => ?_)
          · have e2 := of_decide_eq_true e2
            refine no ?_
            rw [show Nat.blt 15 j = true from Nat.ble_eq_true_of_le (by omega)]
            simp
          have e2 := of_decide_eq_false e2
          have b15 : Nat.blt 15 j = false := Bool.eq_false_iff.mpr fun h => by have := Nat.le_of_ble_eq_true h; omega
          have hl : 0 < (cs).length := by omega
          have h0 := List.getElem?_eq_getElem hl
          have g1 := D.t.get h0
          rw [Nat.add_zero, ← S0] at g1
          have hh : (cs).head? = some ((cs)[0]) := by rw [← h0, List.head?_eq_getElem?]
          have rest : ((j == 0) || (Nat.blt 15 j || ((cs).head? == some 48 && (Nat.blt 1 j || true)))) = false → (z.length ≤ sizeLine ∧ ∃ i, PySem.intText? (cutS z (some (n : Int)) (some ((n + 1 + j : Nat) : Int))) = some i ∧ (cutS z (some (n : Int)) (some ((n + 1 + j : Nat) : Int))).length ≤ 640 ∧ ([V.str "number", .int i].length ≤ sizeLine ∧ ∀ p, H' p = none → ([V.ref p, .int ((n + 1 + j : Nat) : Int)].length ≤ sizeLine ∧ ∀ p2, upd H' p (.tup [.str "number", .int i]) p2 = none → Q (.ref p2) (upd (upd H' p (.tup [.str "number", .int i])) p2 (.tup [.ref p, .int ((n + 1 + j : Nat) : Int)]))))) := fun h => by
            have tk : (cs).take j = (cs).takeWhile dgt := by rw [e, tw_take]
            have ct := D.cut j
            rw [tk] at ct
            have lj : ((cs).takeWhile dgt).length = j := e.symm
            refine ⟨D.t.size, numOf true ((cs).takeWhile dgt), ?_, ?_, Nat.le_of_ble_eq_true rfl, fun p np => ⟨Nat.le_of_ble_eq_true rfl, fun p2 np2 => ?_⟩⟩
            · rw [ct]
              exact int_read (tw_all _) (by omega) (by omega)
            · rw [ct, mk_len, List.length_append]
              have : ((if true then [45] else []) : List Nat).length ≤ 1 := by split <;> simp
              omega
            · refine q _ _ ((same_new np).trans (same_new np2)) ?_
              have want : rDig true (cs) = some (.num (numOf true ((cs).takeWhile dgt)), (cs).drop j) := by
                unfold rDig
                rw [← e, h]
                rfl
              rw [want]
              refine ⟨p2, _, rfl, ?_, .num (same_new np2 _ _ upd_same)⟩
              rw [upd_same, D.t.back (by omega)]
          refine ⟨D.t.size, _, g1, br2 (fun e3 => ?_) (fun e3 => ?_)⟩
          · rw [sgn_dec _ e48] at e3
            have e3 : (cs)[0] = 48 := by simpa using e3
            refine br2 (fun e4 => ?_) (fun e4 => ?_)
            · have e4 := of_decide_eq_true e4
              refine no ?_
              rw [hh, e3, show Nat.blt 1 j = true from Nat.ble_eq_true_of_le (by omega)]
              simp
            have e4 := of_decide_eq_false e4
            have gt := D.gt
            rw [← S0] at gt
            rw [gt]
            refine br2 (fun e5 => ?_) (fun e5 => ?_)
            · refine no ?_
              rw [hh, e3, e5]
              simp
            · refine rest ?_
              rw [hh, e3, e5, b15, show Nat.blt 1 j = false from Bool.eq_false_iff.mpr fun h => by have := Nat.le_of_ble_eq_true h; omega]
              simpa using j0
          · rw [sgn_dec _ e48] at e3
            have e3 : ((cs)[0] == 48) = false := by simpa using e3
            refine rest ?_
            rw [hh, b15, show (some ((cs)[0]) == some 48) = ((cs)[0] == 48) from rfl, e3]
            simpa using j0
        refine ⟨D.t.size, br2 (fun e => ?_) (fun e => ?_)⟩
        · have e := of_decide_eq_true e
          have hl : j < (cs).length := by omega
          have hc := List.getElem?_eq_getElem hl
          refine ⟨D.t.size, _, D.t.get hc, br2 (fun e2 => ?_) (fun e2 => ?_)⟩
          · have e2 : subS ⟨#[(cs)[j]]⟩ "0123456789" = true := e2
            rw [subS_one, dgt_mem] at e2
            have g := tw_go hj hc e2
            refine ⟨_, rfl, _, _, rfl, rfl, ⟨eH, j + 1, g, ?_⟩, ?_⟩
            · show [_, _, _, some (V.int (((n + 1 + j : Nat) : Int) + 1)), _] = _
              rw [show (((n + 1 + j : Nat) : Int) + 1) = ((n + 1 + (j + 1) : Nat) : Int) by omega]
            · show z.length - (((n + 1 + j : Nat) : Int) + 1).toNat < z.length - ((n + 1 + j : Nat) : Int).toNat
              omega
          · have e2 : subS ⟨#[(cs)[j]]⟩ "0123456789" = false := e2
            rw [subS_one, dgt_mem] at e2
            exact fin (tw_stop hj fun c h => by rw [hc] at h; cases h; exact e2)
        · have e := of_decide_eq_false e
          exact fin (tw_stop hj fun c h => by have := (List.getElem?_eq_some_iff.mp h).1; omega)
      · have e : decide (V.str ⟨#[c]⟩ = V.str "-") = false := e
        rw [sgn_dec c e45] at e
        have e : c ≠ 45 := by simpa using e
        have D := dig_pos t0 e
        have tl := tw_len (p := dgt) (c :: cs)
        have a := D.t.cs
        have b := D.t.le
        have S0 : ((n : Int) : Int) = ((n : Nat) : Int) := by omega
        refine while_up (fun σ H' => H' = H ∧ ∃ j : Nat, j ≤ ((c :: cs).takeWhile dgt).length ∧ σ = [some (.str z), some (.int n), some (.int ((n : Int))), some (.int ((n + j : Nat) : Int)), none]) (fun σ _ => match σ with | [_, _, _, some (.int e), _] => z.length - e.toNat | _ => 0) ⟨rfl, 0, Nat.zero_le _, ?_⟩ (fun σ H' hv => ?_)
        · show [_, _, _, some (V.int ((n : Int))), _] = _
          rw [show ((n + 0 : Nat) : Int) = (n : Int) by omega]
        obtain ⟨eH, j, hj, rfl⟩ := hv
        have q : ∀ v H2, Same H' H2 → ResV z H2 v (rDig false (c :: cs)) → Q v H2 := by rw [eH, ← D.want]; exact q
        have fin : j = ((c :: cs).takeWhile dgt).length → br (decide (V.int (((n + j : Nat) : Int) - ((n : Int))) = V.int 0)) (Q .non H') (br (decide ((15 : Int) < ((n + j : Nat) : Int) - ((n : Int)))) (Q .non H') (z.length ≤ sizeLine ∧ ∃ d, atI z.cps.toList ((n : Int)) = some d ∧ br (decide (V.str ⟨#[d]⟩ = V.str "0")) (br (decide ((1 : Int) < ((n + j : Nat) : Int) - ((n : Int)))) (Q .non H') (br (decide ((n : Int) < (n : Int))) (Q .non H')
              (z.length ≤ sizeLine ∧ ∃ i, PySem.intText? (cutS z (some (n : Int)) (some ((n + j : Nat) : Int))) = some i ∧ (cutS z (some (n : Int)) (some ((n + j : Nat) : Int))).length ≤ 640 ∧ ([V.str "number", .int i].length ≤ sizeLine ∧ ∀ p, H' p = none → ([V.ref p, .int ((n + j : Nat) : Int)].length ≤ sizeLine ∧ ∀ p2, upd H' p (.tup [.str "number", .int i]) p2 = none → Q (.ref p2) (upd (upd H' p (.tup [.str "number", .int i])) p2 (.tup [.ref p, .int ((n + j : Nat) : Int)])))))))
              (z.length ≤ sizeLine ∧ ∃ i, PySem.intText? (cutS z (some (n : Int)) (some ((n + j : Nat) : Int))) = some i ∧ (cutS z (some (n : Int)) (some ((n + j : Nat) : Int))).length ≤ 640 ∧ ([V.str "number", .int i].length ≤ sizeLine ∧ ∀ p, H' p = none → ([V.ref p, .int ((n + j : Nat) : Int)].length ≤ sizeLine ∧ ∀ p2, upd H' p (.tup [.str "number", .int i]) p2 = none → Q (.ref p2) (upd (upd H' p (.tup [.str "number", .int i])) p2 (.tup [.ref p, .int ((n + j : Nat) : Int)]))))))) := fun e => by
          have M : (((n + j : Nat) : Int) - ((n : Int))) = (j : Int) := by omega
          rw [M]
          have no : ((j == 0) || (Nat.blt 15 j || ((c :: cs).head? == some 48 && (Nat.blt 1 j || false)))) = true → Q .non H' := fun h => q _ _ (Same.refl _) (by
            have : rDig false (c :: cs) = none := by
              unfold rDig
              rw [← e, h]
              rfl
            rw [this]
            rfl)
          refine br2 (fun e1 => ?_) (fun e1 => ?_)
          · have e1 : (V.int (j : Int)) = V.int 0 := of_decide_eq_true e1
            have e1 : j = 0 := by
              injection e1 with e1
              omega
            exact no (by rw [e1]; rfl)
          have j0 : j ≠ 0 := fun z => by
            have := of_decide_eq_false e1
            exact this (by rw [z]; rfl)
          refine br2 (fun e2 => ?_) (fun e2 => ?_)
          · have e2 := of_decide_eq_true e2
            refine no ?_
            rw [show Nat.blt 15 j = true from Nat.ble_eq_true_of_le (by omega)]
            simp
          have e2 := of_decide_eq_false e2
          have b15 : Nat.blt 15 j = false := Bool.eq_false_iff.mpr fun h => by have := Nat.le_of_ble_eq_true h; omega
          have hl : 0 < (c :: cs).length := by omega
          have h0 := List.getElem?_eq_getElem hl
          have g1 := D.t.get h0
          rw [Nat.add_zero, ← S0] at g1
          have hh : (c :: cs).head? = some ((c :: cs)[0]) := by rw [← h0, List.head?_eq_getElem?]
          have rest : ((j == 0) || (Nat.blt 15 j || ((c :: cs).head? == some 48 && (Nat.blt 1 j || false)))) = false → (z.length ≤ sizeLine ∧ ∃ i, PySem.intText? (cutS z (some (n : Int)) (some ((n + j : Nat) : Int))) = some i ∧ (cutS z (some (n : Int)) (some ((n + j : Nat) : Int))).length ≤ 640 ∧ ([V.str "number", .int i].length ≤ sizeLine ∧ ∀ p, H' p = none → ([V.ref p, .int ((n + j : Nat) : Int)].length ≤ sizeLine ∧ ∀ p2, upd H' p (.tup [.str "number", .int i]) p2 = none → Q (.ref p2) (upd (upd H' p (.tup [.str "number", .int i])) p2 (.tup [.ref p, .int ((n + j : Nat) : Int)]))))) := fun h => by
            have tk : (c :: cs).take j = (c :: cs).takeWhile dgt := by rw [e, tw_take]
            have ct := D.cut j
            rw [tk] at ct
            have lj : ((c :: cs).takeWhile dgt).length = j := e.symm
            refine ⟨D.t.size, numOf false ((c :: cs).takeWhile dgt), ?_, ?_, Nat.le_of_ble_eq_true rfl, fun p np => ⟨Nat.le_of_ble_eq_true rfl, fun p2 np2 => ?_⟩⟩
            · rw [ct]
              exact int_read (tw_all _) (by omega) (by omega)
            · rw [ct, mk_len, List.length_append]
              have : ((if false then [45] else []) : List Nat).length ≤ 1 := by split <;> simp
              omega
            · refine q _ _ ((same_new np).trans (same_new np2)) ?_
              have want : rDig false (c :: cs) = some (.num (numOf false ((c :: cs).takeWhile dgt)), (c :: cs).drop j) := by
                unfold rDig
                rw [← e, h]
                rfl
              rw [want]
              refine ⟨p2, _, rfl, ?_, .num (same_new np2 _ _ upd_same)⟩
              rw [upd_same, D.t.back (by omega)]
          refine ⟨D.t.size, _, g1, br2 (fun e3 => ?_) (fun e3 => ?_)⟩
          · rw [sgn_dec _ e48] at e3
            have e3 : (c :: cs)[0] = 48 := by simpa using e3
            refine br2 (fun e4 => ?_) (fun e4 => ?_)
            · have e4 := of_decide_eq_true e4
              refine no ?_
              rw [hh, e3, show Nat.blt 1 j = true from Nat.ble_eq_true_of_le (by omega)]
              simp
            have e4 := of_decide_eq_false e4
            have gt := D.gt
            rw [← S0] at gt
            rw [gt]
            refine br2 (fun e5 => ?_) (fun e5 => ?_)
            · refine no ?_
              rw [hh, e3, e5]
              simp
            · refine rest ?_
              rw [hh, e3, e5, b15, show Nat.blt 1 j = false from Bool.eq_false_iff.mpr fun h => by have := Nat.le_of_ble_eq_true h; omega]
              simpa using j0
          · rw [sgn_dec _ e48] at e3
            have e3 : ((c :: cs)[0] == 48) = false := by simpa using e3
            refine rest ?_
            rw [hh, b15, show (some ((c :: cs)[0]) == some 48) = ((c :: cs)[0] == 48) from rfl, e3]
            simpa using j0
        refine ⟨D.t.size, br2 (fun e => ?_) (fun e => ?_)⟩
        · have e := of_decide_eq_true e
          have hl : j < (c :: cs).length := by omega
          have hc := List.getElem?_eq_getElem hl
          refine ⟨D.t.size, _, D.t.get hc, br2 (fun e2 => ?_) (fun e2 => ?_)⟩
          · have e2 : subS ⟨#[(c :: cs)[j]]⟩ "0123456789" = true := e2
            rw [subS_one, dgt_mem] at e2
            have g := tw_go hj hc e2
            refine ⟨_, rfl, _, _, rfl, rfl, ⟨eH, j + 1, g, ?_⟩, ?_⟩
            · show [_, _, _, some (V.int (((n + j : Nat) : Int) + 1)), _] = _
              rw [show (((n + j : Nat) : Int) + 1) = ((n + (j + 1) : Nat) : Int) by omega]
            · show z.length - (((n + j : Nat) : Int) + 1).toNat < z.length - ((n + j : Nat) : Int).toNat
              omega
          · have e2 : subS ⟨#[(c :: cs)[j]]⟩ "0123456789" = false := e2
            rw [subS_one, dgt_mem] at e2
            exact fin (tw_stop hj fun c h => by rw [hc] at h; cases h; exact e2)
        · have e := of_decide_eq_false e
          exact fin (tw_stop hj fun c h => by have := (List.getElem?_eq_some_iff.mp h).1; omega)
    · exact h.elim
end
end Sk
namespace Sk
open PySem PySem.Spec PyProof.Rows L2
theorem same_put {H H' : Hp} {L : Addr} {o : HO} (s : Same H H') (n : H L = none) : Same H (upd H' L o) := fun b u e => by
  rw [upd_ne (ne_of_none e n)]
  exact s b u e
theorem tupS_put {H : Hp} {L : Addr} {xs ys : List V} (h : H L = some (.lst xs)) : TupS H (upd H L (.lst ys)) := fun b us e => by
  rw [upd_ne (fun z => by rw [z, h] at e; cases e)]
  exact e
theorem atI_end {α : Type} (xs : List α) (x : α) : atI (xs ++ [x]) (-1) = some x := by
  unfold atI ixN
  rw [if_neg (by decide), List.length_append]
  rw [if_pos (by simp; omega)]
  show (xs ++ [x])[_]? = some x
  rw [show (-1 + ((xs.length + [x].length : Nat) : Int)).toNat = xs.length by simp; omega]
  simp
theorem inV_two (z a b : Str) : inV (.str z) [.str a, .str b] = (z.cps.toList == a.cps.toList || z.cps.toList == b.cps.toList) := by
  have h : ∀ x : Str, eqV (.str x) (.str z) = (z.cps.toList == x.cps.toList) := fun x => by
    show decide (x = z) = _
    by_cases e : x = z
    · rw [e]
      simp
    · rw [decide_eq_false e]
      exact (beq_eq_false_iff_ne.mpr fun k => e (str_ext k.symm)).symm
  unfold inV
  simp only [List.any_cons, List.any_nil, Bool.or_false, h]
theorem inV_three (z a b c : Str) : inV (.str z) [.str a, .str b, .str c] = (z.cps.toList == a.cps.toList || (z.cps.toList == b.cps.toList || z.cps.toList == c.cps.toList)) := by
  have h : ∀ x : Str, eqV (.str x) (.str z) = (z.cps.toList == x.cps.toList) := fun x => by
    show decide (x = z) = _
    by_cases e : x = z
    · rw [e]
      simp
    · rw [decide_eq_false e]
      exact (beq_eq_false_iff_ne.mpr fun k => e (str_ext k.symm)).symm
  unfold inV
  simp only [List.any_cons, List.any_nil, Bool.or_false, h]
section
variable {P : Program} {w : World} {K : PySem.W.Frag} {mg : Str → Option Value} {base : Heap}
/-! ### read_variable -/
def sp_rv : Sp := fun vs H Q _ => match vs with
  | [.str z, .int i] => ∃ n cs, i = ((n : Nat) : Int) ∧ TxtAt z n cs ∧ ∀ v H', Same H H' → ResV z H' v (rVar cs) → Q v H'
  | _ => False
theorem ok_rv (T : Top K mg) (k : Nat) : Ok_read_variable P w base T (k + 2) sp_rv := by
  have G_name_from : Ok_name_from P w base T 1 sp_nmfrom := ok_nmfrom T 0
  have G_is_name : Ok_is_name P w base T 1 sp_isnm := ok_isnm T 0
  refine T.F_read_variable.ok sc_read_variable (fun vs H Q E h => ?_) (fun cdv A outer s H vs Q E hr h => ⟨_, PSs.nox (pss_cons (ps_set (i := 2) sc_read_variable.nd rfl (by first | exact .inl rfl | exact .inr rfl) (pe_lst (pa_cons (pe_call G_name_from (hr.mono (by omega)) (by rfl) T.g_name_from T.F_name_from.kp (b_name_from T) .nil pass0 (pa_cons (vr 0) (pa_cons (vr 1) pa_nil))) pa_nil)))
      (pss_cons (ps_aug (i := 1) sc_read_variable.nd rfl (by first | exact .inl rfl | exact .inr rfl) (pe_callB (klen K) (by rfl) T.n_len (by decide +kernel) (pa_cons (pe_ix (kget K) (vr 2) pe_int (fun _ _ => rfl)) pa_nil)) ip_add)
      (pss_cons (sif (PW.pt (wor (pt_not (tst (pe_call G_is_name (hr.mono (by omega)) (by rfl) T.g_is_name T.F_is_name.kp (b_is_name T) .nil pass0 (pa_cons (pe_ix (kget K) (vr 2) pe_int (fun _ _ => rfl)) pa_nil)))) (pw_or1 (tcmp (kin K) (pe_ix (kget K) (vr 2) pe_int (fun _ _ => rfl)) (pe_glob (v := .ref (He.ga K "NOT_VARIABLES")) (by rfl) T.g_NOT_VARIABLES rfl) (by rfl))))) (pss_one (ps_ret pe_non)) pss_nil)
      (pss_cons (ps_while PassesOwn.never (upt (tcmp (ksame K hr.units) (pe_slice (kcut K) (vr 0) (po_u (vr 1)) (po_u (pe_op (kplus K) (vr 1) pe_int))) pe_str (nomark _))) (pss_cons (ps_expr (kapp (pe_bm PySem.F.plainAttrs_list PySem.F.slot_list_append PySem.F.type_list_append mt_append (up (vr 2)) (pa_cons (up (pe_call G_name_from (hr.mono (by omega)) (by rfl) T.g_name_from T.F_name_from.kp (b_name_from T) .nil pass0 (pa_cons (vr 0) (pa_cons (pe_op (kplus K) (vr 1) pe_int) pa_nil)))) pa_nil))))
      (pss_cons (ps_aug (i := 1) sc_read_variable.nd rfl (by first | exact .inl rfl | exact .inr rfl) (pe_op (kplus K) pe_int (pe_callB (klen K) (by rfl) T.n_len (by decide +kernel) (pa_cons (pe_ix (kget K) (vr 2) (pe_un un_negU pe_int) (fun _ _ => rfl)) pa_nil))) ip_add)
      (pss_one (sif (pt_not (tst (pe_call G_is_name (hr.mono (by omega)) (by rfl) T.g_is_name T.F_is_name.kp (b_is_name T) .nil pass0 (pa_cons (pe_ix (kget K) (vr 2) (pe_un un_negU pe_int) (fun _ _ => rfl)) pa_nil)))) (pss_one (ps_ret pe_non)) pss_nil)))))
      (pss_one (ps_ret (pe_tup (pa_cons (pe_tup (pa_cons pe_str (pa_cons (pe_callTy (ktup K) (by rfl) T.n_tuple (by decide +kernel) (pa_cons (vr 2) pa_nil)) pa_nil))) (pa_cons (vr 1) pa_nil))))))))), ?_⟩)
  · unfold sp_rv at h
    split at h
    · rfl
    · exact h.elim
  · unfold sp_rv at h
    split at h
    · obtain ⟨n, cs, rfl, t, q⟩ := h
      rename_i z
      rw [st_read_variable]
      have nl : (nameAt cs).length ≤ cs.length := tw_len cs
      have a0 := t.cs
      have b0 := t.le
      have hz := t.len
      refine ⟨n, cs, rfl, t, Nat.le_of_ble_eq_true rfl, fun L nL => ?_⟩
      simp only [List.set_cons_succ, List.set_cons_zero]
      refine ⟨_, rfl, _, _, .inl (sqL_of upd_same), rfl, size_le (by rw [mk_len]; omega), _, _, rfl, rfl, ?_⟩
      rw [mk_len]
      simp only [List.set_cons_succ, List.set_cons_zero]
      refine ⟨_, _, .inl (sqL_of upd_same), rfl, by rw [mk_len]; omega, fun c hc => tw_all cs c hc, fun H1 s1 => ?_⟩
      have L1 := s1 _ _ upd_same
      have S1 : Same H H1 := (same_new nL).trans s1
      have no : (nmOk (nameAt cs) && !notVar.contains (nameAt cs)) = false → Q .non H1 := fun h => q _ _ S1 (by
        have : rVar cs = none := by
          unfold rVar
          rw [h]
          rfl
        rw [this]
        rfl)
      refine br2 (fun e1 => ?_) (fun e1 => ?_)
      · have e1 : (!nmOk (nameAt cs)) = true := e1
        exact no (by rw [show nmOk (nameAt cs) = false by simpa using e1]; rfl)
      have e1 : (!nmOk (nameAt cs)) = false := e1
      have ok1 : nmOk (nameAt cs) = true := by simpa using e1
      have one : 1 ≤ (nameAt cs).length := by
        unfold nmOk at ok1
        exact Nat.le_of_ble_eq_true (Bool.and_eq_true_iff.mp ok1).1
      refine ⟨_, _, .inl (sqL_of L1), rfl, _, .inr (T.q_NOT_VARIABLES H1), rfl, rfl, ?_⟩
      have nv : inV (.str (mkS (nameAt cs))) [.str "true", .str "false", .str "self"] = notVar.contains (nameAt cs) := by
        rw [inV_three]
        unfold notVar
        rw [mk_list]
        simp only [List.contains_cons, List.contains_nil, Bool.or_false]
      refine br2 (fun e2 => ?_) (fun e2 => ?_)
      · have e2 : inV (.str (mkS (nameAt cs))) [.str "true", .str "false", .str "self"] = true := e2
        rw [nv] at e2
        exact no (by rw [e2]; simp)
      have e2 : inV (.str (mkS (nameAt cs))) [.str "true", .str "false", .str "self"] = false := e2
      rw [nv] at e2
      have want : rVar cs = (rFields (cs.drop (nameAt cs).length).length (cs.drop (nameAt cs).length)).map fun p => (Ex.get (nameAt cs :: p.1), p.2) := by
        unfold rVar
        rw [ok1, e2]
        rfl
      refine while_up (fun σ H' => ∃ (m f : Nat) (ds : List Nat) (acc : List (List Nat)), σ = [some (.str z), some (.int (m : Int)), some (.ref L)] ∧ TxtAt z m ds ∧ ds.length ≤ f ∧ Same H H' ∧ H' L = some (.lst ((nameAt cs :: acc).map fun l => V.str (mkS l))) ∧ acc.length + 1 ≤ m ∧
          rVar cs = (rFields f ds).map fun p => (Ex.get (nameAt cs :: (acc ++ p.1)), p.2)) (fun σ _ => match σ with | [_, some (.int e), _] => z.length - e.toNat | _ => 0) ⟨n + (nameAt cs).length, _, _, [], ?_, t.on nl, Nat.le_refl _, S1, L1, by simp; omega, want⟩ (fun σ H' hv => ?_)
      · show [_, some (V.int ((n : Int) + ((nameAt cs).length : Int))), _] = _
        rw [show ((n : Int) + ((nameAt cs).length : Int)) = ((n + (nameAt cs).length : Nat) : Int) by omega]
      obtain ⟨m, f, ds, acc, rfl, u, hf, S2, L2', hm, w2⟩ := hv
      have a1 := u.cs
      have b1 := u.le
      have c1 : cutS z (some (m : Int)) (some ((m : Int) + 1)) = mkS (ds.take 1) := by
        have := u.cut 0 1
        rw [show ((m + 1 : Nat) : Int) = (m : Int) + 1 by omega, show ((m + 0 : Nat) : Int) = (m : Int) by omega, List.drop_zero] at this
        exact this
      have e46 : (Str.ofString ".").cps.toList = [46] := by decide +kernel
      refine ⟨u.size, br2 (fun e3 => ?_) (fun e3 => ?_)⟩
      · have e3 : decide (V.str (cutS z (some (m : Int)) (some ((m : Int) + 1))) = V.str ".") = true := e3
        rw [str_dec c1 ".", e46] at e3
        have hd : ∃ r, ds = 46 :: r := by
          cases ds with
          | nil => simp at e3
          | cons x r =>
            have : x = 46 := by simpa using e3
            exact ⟨r, by rw [this]⟩
        obtain ⟨r, rfl⟩ := hd
        have u1 : TxtAt z (m + 1) r := u.on (j := 1) (by simp)
        have f1 : ∃ g, f = g + 1 := ⟨f - 1, by have : 1 ≤ f := Nat.le_trans (by simp) hf; omega⟩
        obtain ⟨g, rfl⟩ := f1
        have rl : (nameAt r).length ≤ r.length := tw_len r
        have a2 := u1.cs
        have b2 := u1.le
        rw [List.length_cons] at hf
        refine ⟨⟨_, L2'⟩, m + 1, r, by show (m : Int) + 1 = _; omega, u1, _, L2', size_lt (by rw [List.length_map, List.length_cons]; omega), ?_⟩
        have S3 := same_put (o := .lst ((nameAt cs :: acc).map (fun l => V.str (mkS l)) ++ [V.str (mkS (nameAt r))])) S2 nL
        refine ⟨_, rfl, _, _, .inl (sqL_of upd_same), atI_end _ _, size_le (by rw [mk_len]; omega), _, _, rfl, rfl, ?_⟩
        rw [mk_len]
        simp only [List.set_cons_succ, List.set_cons_zero]
        refine ⟨_, _, .inl (sqL_of upd_same), atI_end _ _, by rw [mk_len]; omega, fun c hc => tw_all r c hc, fun H2 s2 => ?_⟩
        have L3 := s2 _ _ upd_same
        have S4 := S3.trans s2
        have un : rFields (g + 1) (46 :: r) = if nmOk (nameAt r) then (rFields g (r.drop (nameAt r).length)).map fun p => (nameAt r :: p.1, p.2) else none := rfl
        rw [un] at w2
        refine br2 (fun e4 => ?_) (fun e4 => ?_)
        · have e4 : (!nmOk (nameAt r)) = true := e4
          refine q _ _ S4 ?_
          rw [w2, show nmOk (nameAt r) = false by simpa using e4]
          rfl
        · have e4 : (!nmOk (nameAt r)) = false := e4
          have e4 : nmOk (nameAt r) = true := by simpa using e4
          refine ⟨⟨m + 1 + (nameAt r).length, g, r.drop (nameAt r).length, acc ++ [nameAt r], ?_, u1.on rl, by rw [List.length_drop]; omega, S4, ?_, by rw [List.length_append]; simp; omega, ?_⟩, ?_⟩
          · show [_, some (V.int ((m : Int) + (1 + ((nameAt r).length : Int)))), _] = _
            rw [show (m : Int) + (1 + ((nameAt r).length : Int)) = ((m + 1 + (nameAt r).length : Nat) : Int) by omega]
          · rw [L3]
            simp
          · rw [w2, e4, if_pos rfl, Option.map_map]
            congr 1
            funext p
            simp
          · show z.length - ((m : Int) + (1 + ((nameAt r).length : Int))).toNat < z.length - ((m : Int)).toNat
            omega
      · have e3 : decide (V.str (cutS z (some (m : Int)) (some ((m : Int) + 1))) = V.str ".") = false := e3
        rw [str_dec c1 ".", e46] at e3
        have stop : rFields f ds = some ([], ds) := by
          cases f with
          | zero => rfl
          | succ g =>
            cases ds with
            | nil => rfl
            | cons x r =>
              have : (x == 46) = false := by simpa using e3
              unfold rFields
              rw [this]
              rfl
        rw [stop] at w2
        refine ⟨_, .inl ⟨sqL_of L2', fun p np => ⟨Nat.le_of_ble_eq_true rfl, fun p2 np2 => ⟨Nat.le_of_ble_eq_true rfl, fun p3 np3 => ?_⟩⟩⟩⟩
        refine q _ _ (((S2.trans (same_new np)).trans (same_new np2)).trans (same_new np3)) ?_
        rw [w2]
        refine ⟨p3, _, rfl, ?_, .get (same_new np3 _ _ upd_same) (same_new np3 _ _ (same_new np2 _ _ ?_)) (by simp)⟩
        · rw [upd_same, show z.length - ds.length = m by omega]
        · rw [upd_same, List.append_nil]
    · exact h.elim
end
end Sk
namespace Sk
open PySem PySem.Spec PyProof.Rows L2
section
variable {P : Program} {w : World} {K : PySem.W.Frag} {mg : Str → Option Value} {base : Heap}
/-! ### read_tree, read_call: n levels are left -/
def sp_rt (n : Nat) : Sp := fun vs H Q _ => match vs with
  | [.str z, .int i, .int l] => ∃ m cs, i = ((m : Nat) : Int) ∧ TxtAt z m cs ∧ l = 9 - (n : Int) ∧ ∀ v H', Same H H' → ResV z H' v (rTree n cs) → Q v H'
  | _ => False
def sp_rc (n : Nat) : Sp := fun vs H Q _ => match vs with
  | [.str z, .int i, .str d, .int l] => ∃ m cs j, i = ((m : Nat) : Int) ∧ TxtAt z m cs ∧ l = 9 - (n : Int) ∧ (d, j) ∈ leastE ∧ ∀ v H', Same H H' → ResV z H' v (rCall (rTree n) (d, j) cs) → Q v H'
  | _ => False
theorem ok_rc (T : Top K mg) (U : TopD K w) (n k : Nat) (G_read_tree : Ok_read_tree P w base T k (sp_rt n)) : Ok_read_call P w base T (k + 1) (sp_rc n) := by
  refine T.F_read_call.ok sc_read_call (fun vs H Q E h => ?_) (fun cdv A outer s H vs Q E hr h => ⟨_, PSs.nox (pss_cons (ps_set (i := 4) sc_read_call.nd rfl (by first | exact .inl rfl | exact .inr rfl) (pe_lst pa_nil))
      (pss_cons (ps_while PassesOwn.never (upt (tst pe_bl)) (pss_cons (ps_set (i := 5) sc_read_call.nd rfl (by first | exact .inl rfl | exact .inr rfl) (pe_call G_read_tree (hr.mono (by omega)) (by rfl) T.g_read_tree T.F_read_tree.kp (b_read_tree T) .nil pass0 (pa_cons (vr 0) (pa_cons (vr 1) (pa_cons (vr 3) pa_nil)))))
      (pss_cons (sif (tcmp op_isNo (vr 5) pe_non (nomark _)) (pss_one (ps_ret pe_non)) pss_nil)
      (pss_cons (ps_expr (kapp (pe_bm PySem.F.plainAttrs_list PySem.F.slot_list_append PySem.F.type_list_append mt_append (up (vr 4)) (pa_cons (up (pe_ix (kget K) (vr 5) pe_int (fun _ _ => rfl))) pa_nil))))
      (pss_cons (ps_set (i := 1) sc_read_call.nd rfl (by first | exact .inl rfl | exact .inr rfl) (pe_ix (kget K) (vr 5) pe_int (fun _ _ => rfl)))
      (pss_cons (sif (tcmp (ksame K hr.units) (pe_slice (kcut K) (vr 0) (po_u (vr 1)) (po_u (pe_op (kplus K) (vr 1) pe_int))) pe_str (nomark _)) (pss_one ps_break) pss_nil)
      (pss_cons (sif (tcmp (kother K hr.units) (pe_slice (kcut K) (vr 0) (po_u (vr 1)) (po_u (pe_op (kplus K) (vr 1) pe_int))) pe_str (nomark _)) (pss_one (ps_ret pe_non)) pss_nil)
      (pss_one (ps_aug (i := 1) sc_read_call.nd rfl (by first | exact .inl rfl | exact .inr rfl) pe_int ip_add)))))))))
      (pss_cons (sif (PW.pt (wor (tcmp op_ltI (pe_callB (klen K) (by rfl) T.n_len (by decide +kernel) (pa_cons (vr 4) pa_nil)) (pe_ix (kdget K w) (pe_glob (v := .ref (He.ga K "LEAST")) (by rfl) T.g_LEAST rfl) (vr 2) (fun _ _ => rfl)) (nomark _)) (pw_or1 (PW.pt (wand (tcmp op_gtI (pe_callB (klen K) (by rfl) T.n_len (by decide +kernel) (pa_cons (vr 4) pa_nil)) (pe_ix (kdget K w) (pe_glob (v := .ref (He.ga K "LEAST")) (by rfl) T.g_LEAST rfl) (vr 2) (fun _ _ => rfl)) (nomark _)) (pw_and1 (tcmp (knotin K) (vr 2) (pe_glob (v := .ref (He.ga K "OPEN")) (by rfl) T.g_OPEN rfl) (by rfl)))))))) (pss_one (ps_ret pe_non)) pss_nil)
      (pss_one (ps_ret (pe_tup (pa_cons (pe_tup (pa_cons pe_str (pa_cons (vr 2) (pa_cons (pe_callTy (ktup K) (by rfl) T.n_tuple (by decide +kernel) (pa_cons (vr 4) pa_nil)) pa_nil)))) (pa_cons (pe_op (kplus K) (vr 1) pe_int) pa_nil)))))))), ?_⟩)
  · unfold sp_rc at h
    split at h
    · rfl
    · exact h.elim
  · unfold sp_rc at h
    split at h
    · obtain ⟨m0, cs0, j0, rfl, t0, rfl, hw, q⟩ := h
      rename_i z d
      rw [st_read_call]
      refine ⟨Nat.le_of_ble_eq_true rfl, fun L nL => ?_⟩
      simp only [List.set_cons_succ, List.set_cons_zero]
      have e41 : (Str.ofString ")").cps.toList = [41] := by decide +kernel
      have e44 : (Str.ofString ", ").cps.toList = [44, 32] := by decide +kernel
      have hz := t0.len
      have first : rArgs (rTree n) (cs0.length + 1) cs0 = (rArgs (rTree n) (cs0.length + 1) cs0).map fun p => ([] ++ p.1, p.2) := by
        cases rArgs (rTree n) (cs0.length + 1) cs0 <;> rfl
      refine while_up (fun σ H' => ∃ (m f : Nat) (cs : List Nat) (acc : List Ex) (vs : List V) (y : Option V), σ = [some (.str z), some (.int (m : Int)), some (.str d), some (.int (9 - (n : Int))), some (.ref L), y] ∧ TxtAt z m cs ∧ cs.length < f ∧ Same H H' ∧ H' L = some (.lst vs) ∧ ExVs H' vs acc ∧ acc.length ≤ m ∧
          rArgs (rTree n) (cs0.length + 1) cs0 = (rArgs (rTree n) f cs).map fun p => (acc ++ p.1, p.2)) (fun σ _ => match σ with | [_, some (.int e), _, _, _, _] => z.length - e.toNat | _ => 0)
          ⟨m0, _, cs0, [], [], none, rfl, t0, Nat.lt_succ_self _, same_new nL, upd_same, .nil, Nat.zero_le _, first⟩ (fun σ H' hv => ?_)
      obtain ⟨m, f, cs, acc, vs, y, rfl, t, hf, S, hL, xs, hm, w1⟩ := hv
      have a1 := t.cs
      have b1 := t.le
      obtain ⟨g, rfl⟩ : ∃ g, f = g + 1 := ⟨f - 1, by omega⟩
      have un : rArgs (rTree n) (g + 1) cs = match rTree n cs with
        | none => none
        | some (e, r) => if r.take 1 == [41] then some ([e], r.drop 1) else if r.take 2 == [44, 32] then (rArgs (rTree n) g (r.drop 2)).map fun p => (e :: p.1, p.2) else none := rfl
      rw [un] at w1
      refine ⟨m, cs, rfl, t, rfl, fun v H1 s1 r1 => ?_⟩
      have S1 := S.trans s1
      have hL1 := s1 _ _ hL
      have no : rArgs (rTree n) (cs0.length + 1) cs0 = none → ∀ H2, Same H1 H2 → Q .non H2 := fun h H2 s2 => q _ _ (S1.trans s2) (by
        have : rCall (rTree n) (d, j0) cs0 = none := by
          unfold rCall
          rw [h]
        rw [this]
        rfl)
      cases hr : rTree n cs with
      | none =>
        rw [hr] at r1 w1
        have r1 : v = .non := r1
        subst r1
        exact no w1 _ (Same.refl _)
      | some p =>
        obtain ⟨e, r⟩ := p
        rw [hr] at r1 w1
        simp only at w1
        obtain ⟨p, x, rfl, hp, hx⟩ := r1
        have tl := tree_tail n cs e r hr
        have ll := tl.len
        have t1 := t.tail tl
        have a2 := t1.cs
        have b2 := t1.le
        refine ⟨⟨vs, hL1⟩, _, _, .inr (sqT_of hp), rfl, vs, hL1, Nat.lt_of_le_of_lt (show vs.length ≤ 100000 by have := xs.length; omega) (by decide), ?_⟩
        have S2 := same_put (o := .lst (vs ++ [x])) S1 nL
        have ne : p ≠ L := fun z => by rw [z, hL1] at hp; cases hp
        have hp2 : upd H1 L (.lst (vs ++ [x])) p = some (.tup [x, .int ((z.length - r.length : Nat) : Int)]) := (upd_ne ne).trans hp
        have tp : TupS H1 (upd H1 L (.lst (vs ++ [x]))) := tupS_put hL1
        have xs2 : ExVs (upd H1 L (.lst (vs ++ [x]))) (vs ++ [x]) (acc ++ [e]) := ((xs.on (tupS_of s1)).app hx).on tp
        have hL2 : upd H1 L (.lst (vs ++ [x])) L = some (.lst (vs ++ [x])) := upd_same
        have no2 : rArgs (rTree n) (cs0.length + 1) cs0 = none → ∀ H2, Same (upd H1 L (.lst (vs ++ [x]))) H2 → Q .non H2 := fun h H2 s2 => q _ _ (S2.trans s2) (by
          have : rCall (rTree n) (d, j0) cs0 = none := by
            unfold rCall
            rw [h]
          rw [this]
          rfl)
        revert hp2 xs2 hL2 no2 S2
        generalize upd H1 L (.lst (vs ++ [x])) = H2
        intro S2 hp2 xs2 hL2 no2
        refine ⟨_, _, .inr (sqT_of hp2), rfl, ?_⟩
        simp only [List.set_cons_succ, List.set_cons_zero]
        have c1 : cutS z (some ((z.length - r.length : Nat) : Int)) (some (((z.length - r.length : Nat) : Int) + 1)) = mkS (r.take 1) := by
          have := t1.cut 0 1
          rw [show ((z.length - r.length + 1 : Nat) : Int) = ((z.length - r.length : Nat) : Int) + 1 by omega, Nat.add_zero, List.drop_zero] at this
          exact this
        have c2 : cutS z (some ((z.length - r.length : Nat) : Int)) (some (((z.length - r.length : Nat) : Int) + 2)) = mkS (r.take 2) := by
          have := t1.cut 0 2
          rw [show ((z.length - r.length + 2 : Nat) : Int) = ((z.length - r.length : Nat) : Int) + 2 by omega, Nat.add_zero, List.drop_zero] at this
          exact this
        refine ⟨t1.size, br2 (fun e1 => ?_) (fun e1 => ?_)⟩
        · have e1 : decide (V.str (cutS z (some ((z.length - r.length : Nat) : Int)) (some (((z.length - r.length : Nat) : Int) + 1))) = V.str ")") = true := e1
          rw [str_dec c1 ")", e41] at e1
          rw [show (r.take 1 == [41]) = true from e1] at w1
          have w1 : rArgs (rTree n) (cs0.length + 1) cs0 = some (acc ++ [e], r.drop 1) := w1
          have lx := xs2.length
          have kd : (d, V.int ((j0 : Nat) : Int)) ∈ leastE.map fun q => (q.1, V.int ((q.2 : Nat) : Int)) := List.mem_map_of_mem hw
          have open_ : inV (.str d) [.str "sum", .str "joined"] = isOpen d := inV_two d _ _
          have call_ : rCall (rTree n) (d, j0) cs0 = if arOk (d, j0) (acc ++ [e]).length then some (.call d (acc ++ [e]), r.drop 1) else none := by
            unfold rCall
            rw [w1]
          have bad : arOk (d, j0) (acc ++ [e]).length = false → Q .non H2 := fun h => q _ _ S2 (by
            rw [call_, h]
            rfl)
          have good : arOk (d, j0) (acc ++ [e]).length = true → (∃ ys, (SqL K H2 L ys ∧ ∀ l, H2 l = none → ([V.str "call", .str d, .ref l].length ≤ sizeLine ∧ ∀ p2, upd H2 l (.tup ys) p2 = none → ([V.ref p2, .int (((z.length - r.length : Nat) : Int) + 1)].length ≤ sizeLine ∧ ∀ p3, upd (upd H2 l (.tup ys)) p2 (.tup [.str "call", .str d, .ref l]) p3 = none → Q (.ref p3) (upd (upd (upd H2 l (.tup ys)) p2 (.tup [.str "call", .str d, .ref l])) p3 (.tup [.ref p2, .int (((z.length - r.length : Nat) : Int) + 1)]))))) ∨ (SqT K H2 L ys ∧ ([V.str "call", .str d, .ref L].length ≤ sizeLine ∧ ∀ p2, H2 p2 = none → ([V.ref p2, .int (((z.length - r.length : Nat) : Int) + 1)].length ≤ sizeLine ∧ ∀ p3, upd H2 p2 (.tup [.str "call", .str d, .ref L]) p3 = none → Q (.ref p3) (upd (upd H2 p2 (.tup [.str "call", .str d, .ref L])) p3 (.tup [.ref p2, .int (((z.length - r.length : Nat) : Int) + 1)])))))) := fun h => by
            refine ⟨_, .inl ⟨sqL_of hL2, fun l nl => ⟨Nat.le_of_ble_eq_true rfl, fun p2 np2 => ⟨Nat.le_of_ble_eq_true rfl, fun p3 np3 => ?_⟩⟩⟩⟩
            refine q _ _ (((S2.trans (same_new nl)).trans (same_new np2)).trans (same_new np3)) ?_
            rw [call_, h]
            refine ⟨p3, _, rfl, ?_, .call (same_new np3 _ _ upd_same) (same_new np3 _ _ (same_new np2 _ _ upd_same)) ((xs2.on (tupS_of (((same_new nl).trans (same_new np2)).trans (same_new np3)))))⟩
            have r1 : 1 ≤ r.length := by
              cases r with
              | nil => simp at e1
              | cons a b => simp
            rw [upd_same, List.length_drop, show (((z.length - r.length : Nat) : Int) + 1) = ((z.length - (r.length - 1) : Nat) : Int) by omega]
          refine ⟨_, .inl (sqL_of hL2), _, _, U.dic_LEAST, kd, br2 (fun e2 => ?_) (fun e2 => ?_)⟩
          · have e2 : ((vs ++ [x]).length : Int) < (j0 : Int) := of_decide_eq_true e2
            refine bad ?_
            unfold arOk
            rw [show Nat.blt (acc ++ [e]).length j0 = true from Nat.ble_eq_true_of_le (by omega)]
            rfl
          have e2 : ¬ ((vs ++ [x]).length : Int) < (j0 : Int) := of_decide_eq_false e2
          have b2' : Nat.blt (acc ++ [e]).length j0 = false := Bool.eq_false_iff.mpr fun h => by have := Nat.le_of_ble_eq_true h; omega
          refine ⟨_, .inl (sqL_of hL2), _, _, U.dic_LEAST, kd, br2 (fun e3 => ?_) (fun e3 => ?_)⟩
          · have e3 : (j0 : Int) < ((vs ++ [x]).length : Int) := of_decide_eq_true e3
            have b3 : Nat.blt j0 (acc ++ [e]).length = true := Nat.ble_eq_true_of_le (by omega)
            refine ⟨_, .inr (T.q_OPEN H2), rfl, rfl, br2 (fun e4 => ?_) (fun e4 => ?_)⟩
            · have e4 : (!inV (.str d) [.str "sum", .str "joined"]) = true := e4
              rw [open_] at e4
              refine bad ?_
              unfold arOk
              rw [b2', b3, e4]
              rfl
            · have e4 : (!inV (.str d) [.str "sum", .str "joined"]) = false := e4
              rw [open_] at e4
              refine good ?_
              unfold arOk
              rw [b2', b3, e4]
              rfl
          · have e3 : ¬ (j0 : Int) < ((vs ++ [x]).length : Int) := of_decide_eq_false e3
            refine good ?_
            unfold arOk
            rw [b2', show Nat.blt j0 (acc ++ [e]).length = false from Bool.eq_false_iff.mpr fun h => by have := Nat.le_of_ble_eq_true h; omega]
            rfl
        · have e1 : decide (V.str (cutS z (some ((z.length - r.length : Nat) : Int)) (some (((z.length - r.length : Nat) : Int) + 1))) = V.str ")") = false := e1
          rw [str_dec c1 ")", e41] at e1
          rw [show (r.take 1 == [41]) = false from e1] at w1
          refine ⟨t1.size, br2 (fun e2 => ?_) (fun e2 => ?_)⟩
          · have e2 : (!decide (V.str (cutS z (some ((z.length - r.length : Nat) : Int)) (some (((z.length - r.length : Nat) : Int) + 2))) = V.str ", ")) = true := e2
            rw [str_dec c2 ", ", e44] at e2
            rw [show (r.take 2 == [44, 32]) = false by simpa using e2] at w1
            exact no2 w1 _ (Same.refl _)
          · have e2 : (!decide (V.str (cutS z (some ((z.length - r.length : Nat) : Int)) (some (((z.length - r.length : Nat) : Int) + 2))) = V.str ", ")) = false := e2
            rw [str_dec c2 ", ", e44] at e2
            have e2 : (r.take 2 == [44, 32]) = true := by simpa using e2
            rw [e2] at w1
            have w1 : rArgs (rTree n) (cs0.length + 1) cs0 = ((rArgs (rTree n) g (r.drop 2)).map fun p => (e :: p.1, p.2)).map fun p => (acc ++ p.1, p.2) := w1
            have r2 : 2 ≤ r.length := by
              match r, e2 with
              | [], h => cases h
              | [a], h => simp at h
              | a :: b :: c, _ => simp
            have lx := xs2.length
            have lv := xs.length
            refine ⟨_, rfl, _, _, rfl, rfl, ⟨z.length - r.length + 2, g, r.drop 2, acc ++ [e], vs ++ [x], some (.ref p), ?_, t1.on r2, by rw [List.length_drop]; omega, S2, hL2, xs2, ?_, ?_⟩, ?_⟩
            · show [_, some (V.int (((z.length - r.length : Nat) : Int) + 2)), _, _, _, _] = _
              rw [show (((z.length - r.length : Nat) : Int) + 2) = ((z.length - r.length + 2 : Nat) : Int) by omega]
            · rw [List.length_append]
              simp
              omega
            · rw [w1, Option.map_map]
              congr 1
              funext p
              simp
            · show z.length - (((z.length - r.length : Nat) : Int) + 2).toNat < z.length - ((m : Int)).toNat
              omega
    · exact h.elim
end
end Sk
namespace Sk
open PySem PySem.Spec PyProof.Rows L2
theorem word_pre (cs : List Nat) (x : Str × Nat) (r : List (Str × Nat)) : wordAt cs (x :: r) = if cs.take (x.1.length + 1) == x.1.cps.toList ++ [40] then some (x, cs.drop (x.1.length + 1)) else wordAt cs r := by
  have l : (x.1.cps.toList ++ ([40] : List Nat)).length = x.1.length + 1 := by
    rw [List.length_append, ← len_list]
    rfl
  show (if (x.1.cps.toList ++ [40]).isPrefixOf cs then some (x, cs.drop (x.1.length + 1)) else wordAt cs r) = _
  rw [pre_take, l]
section
variable {P : Program} {w : World} {K : PySem.W.Frag} {mg : Str → Option Value} {base : Heap}
theorem step_rt (T : Top K mg) (U : TopD K w) (n k : Nat) (hk : 2 ≤ k) (spI : Sp) (G_read_call : Ok_read_call P w base T k spI) (hI : ∀ m, n = m + 1 → spI = sp_rc m) (hn : n ≤ 8) : Ok_read_tree P w base T (k + 1) (sp_rt n) := by
  have G_name_from : Ok_name_from P w base T 1 sp_nmfrom := ok_nmfrom T 0
  have G_read_quoted : Ok_read_quoted P w base T 1 sp_rq := ok_rq T 0
  have G_read_digits : Ok_read_digits P w base T 1 sp_rd := ok_rd T 0
  have G_read_variable : Ok_read_variable P w base T 2 sp_rv := ok_rv T 0
  refine T.F_read_tree.ok sc_read_tree (fun vs H Q E h => ?_) (fun cdv A outer s H vs Q E hr h => ⟨_, PSs.nox (pss_cons (sif (PW.pt (wor (tcmp op_gtI (vr 2) (pe_glob (v := .int (8)) (by rfl) T.c_MOST_LEVELS ⟨_, rfl⟩) (nomark _)) (pw_or1 (tcmp op_geI (vr 1) (pe_callB (klen K) (by rfl) T.n_len (by decide +kernel) (pa_cons (vr 0) pa_nil)) (nomark _))))) (pss_one (ps_ret pe_non)) pss_nil)
      (pss_cons (sif (tcmp (ksame K hr.units) (pe_ix (kget K) (vr 0) (vr 1) (fun _ _ => rfl)) pe_str (nomark _)) (pss_one (ps_ret (pe_call G_read_quoted (hr.mono (by omega)) (by rfl) T.g_read_quoted T.F_read_quoted.kp (b_read_quoted T) .nil pass0 (pa_cons (vr 0) (pa_cons (vr 1) pa_nil))))) pss_nil)
      (pss_cons (sif (PW.pt (wor (tcmp (ksame K hr.units) (pe_ix (kget K) (vr 0) (vr 1) (fun _ _ => rfl)) pe_str (nomark _)) (pw_or1 (tcmp (kin K) (pe_ix (kget K) (vr 0) (vr 1) (fun _ _ => rfl)) (pe_glob (v := .str ("0123456789")) (by rfl) T.c_DIGITS ⟨_, rfl⟩) (by rfl))))) (pss_one (ps_ret (pe_call G_read_digits (hr.mono (by omega)) (by rfl) T.g_read_digits T.F_read_digits.kp (b_read_digits T) .nil pass0 (pa_cons (vr 0) (pa_cons (vr 1) pa_nil))))) pss_nil)
      (pss_cons (ps_for PassesOwn.never rfl (ikeysK K w (pe_glob (v := .ref (He.ga K "LEAST")) (by rfl) T.g_LEAST rfl)) (pg_name (i := 3) sc_read_tree.nd rfl (by first | exact .inl rfl | exact .inr rfl)) (pss_one (sif (tcmp (ksame K hr.units) (pe_slice (kcut K) (vr 0) (po_u (vr 1)) (po_u (pe_op (kplus K) (pe_op (kplus K) (vr 1) (pe_callB (klen K) (by rfl) T.n_len (by decide +kernel) (pa_cons (vr 3) pa_nil))) pe_int))) (pe_op (kplus K) (vr 3) pe_str) (nomark _)) (pss_one (ps_ret (pe_call G_read_call (hr.mono (by omega)) (by rfl) T.g_read_call T.F_read_call.kp (b_read_call T) .nil pass0 (pa_cons (vr 0) (pa_cons (pe_op (kplus K) (pe_op (kplus K) (vr 1) (pe_callB (klen K) (by rfl) T.n_len (by decide +kernel) (pa_cons (vr 3) pa_nil))) pe_int) (pa_cons (vr 3) (pa_cons (pe_op (kplus K) (vr 2) pe_int) pa_nil))))))) pss_nil)))
      (pss_cons (ps_for PassesOwn.never rfl (itup K (pe_tup (pa_cons pe_str (pa_cons pe_str pa_nil)))) (pg_name (i := 3) sc_read_tree.nd rfl (by first | exact .inl rfl | exact .inr rfl)) (pss_one (sif (tcmp (ksame K hr.units) (pe_call G_name_from (hr.mono (by omega)) (by rfl) T.g_name_from T.F_name_from.kp (b_name_from T) .nil pass0 (pa_cons (vr 0) (pa_cons (vr 1) pa_nil))) (vr 3) (nomark _)) (pss_one (ps_ret (pe_tup (pa_cons (pe_tup (pa_cons pe_str (pa_cons (pe_cmpR (ksame K hr.units) (vr 3) pe_str (nomark _)) pa_nil))) (pa_cons (pe_op (kplus K) (vr 1) (pe_callB (klen K) (by rfl) T.n_len (by decide +kernel) (pa_cons (vr 3) pa_nil))) pa_nil))))) pss_nil)))
      (pss_one (ps_ret (pe_call G_read_variable (hr.mono (by omega)) (by rfl) T.g_read_variable T.F_read_variable.kp (b_read_variable T) .nil pass0 (pa_cons (vr 0) (pa_cons (vr 1) pa_nil)))))))))), ?_⟩)
  · unfold sp_rt at h
    split at h
    · rfl
    · exact h.elim
  · unfold sp_rt at h
    split at h
    · obtain ⟨m, cs, rfl, t, rfl, q⟩ := h
      rename_i z
      rw [st_read_tree]
      have a := t.cs
      have b := t.le
      have e34 : (Str.ofString "\"").cps.toList = [34] := by decide +kernel
      have e45 : (Str.ofString "-").cps.toList = [45] := by decide +kernel
      refine br2 (fun e1 => ?_) (fun e1 => ?_)
      · have e1 : (8 : Int) < 9 - (n : Int) := of_decide_eq_true e1
        have : n = 0 := by omega
        subst this
        exact q _ _ (Same.refl _) rfl
      have e1 : ¬ (8 : Int) < 9 - (n : Int) := of_decide_eq_false e1
      obtain ⟨n, rfl⟩ : ∃ g, n = g + 1 := ⟨n - 1, by omega⟩
      have hI := hI n rfl
      subst hI
      refine ⟨t.size, br2 (fun e2 => ?_) (fun e2 => ?_)⟩
      · have e2 : (z.length : Int) ≤ (m : Int) := of_decide_eq_true e2
        have : cs = [] := List.length_eq_zero_iff.mp (by omega)
        subst this
        exact q _ _ (Same.refl _) rfl
      have e2 : ¬ (z.length : Int) ≤ (m : Int) := of_decide_eq_false e2
      obtain ⟨c, r, rfl⟩ : ∃ c r, cs = c :: r := by
        cases cs with
        | nil => simp at a; omega
        | cons c r => exact ⟨c, r, rfl⟩
      have un : rTree (n + 1) (c :: r) = if c == 34 then rQuoted r else if c == 45 then rDig true r else if dgt c then rDig false (c :: r) else match wordAt (c :: r) leastE with
        | some (w, t) => rCall (rTree n) w t
        | none => if nameAt (c :: r) == (Str.ofString "true").cps.toList then some (.flag true, (c :: r).drop 4) else if nameAt (c :: r) == (Str.ofString "false").cps.toList then some (.flag false, (c :: r).drop 5) else rVar (c :: r) := rfl
      rw [un] at q
      have g0 := t.get (j := 0) (c := c) rfl
      rw [Nat.add_zero] at g0
      refine ⟨t.size, c, g0, br2 (fun e3 => ?_) (fun e3 => ?_)⟩
      · have e3 : decide (V.str ⟨#[c]⟩ = V.str "\"") = true := e3
        rw [sgn_dec c e34] at e3
        rw [e3] at q
        exact ⟨m, c, r, rfl, t, q⟩
      have e3 : decide (V.str ⟨#[c]⟩ = V.str "\"") = false := e3
      rw [sgn_dec c e34] at e3
      rw [e3] at q
      have q : ∀ v H', Same H H' → ResV z H' v (if c == 45 then rDig true r else if dgt c then rDig false (c :: r) else match wordAt (c :: r) leastE with
        | some (w, t) => rCall (rTree n) w t
        | none => if nameAt (c :: r) == (Str.ofString "true").cps.toList then some (.flag true, (c :: r).drop 4) else if nameAt (c :: r) == (Str.ofString "false").cps.toList then some (.flag false, (c :: r).drop 5) else rVar (c :: r)) → Q v H' := q
      refine ⟨t.size, c, g0, br2 (fun e4 => ?_) (fun e4 => ?_)⟩
      · have e4 : decide (V.str ⟨#[c]⟩ = V.str "-") = true := e4
        rw [sgn_dec c e45] at e4
        refine ⟨m, c, r, rfl, t, fun v H' s' hv => q v H' s' ?_⟩
        rw [e4] at hv ⊢
        exact hv
      have e4 : decide (V.str ⟨#[c]⟩ = V.str "-") = false := e4
      rw [sgn_dec c e45] at e4
      refine ⟨t.size, c, g0, br2 (fun e5 => ?_) (fun e5 => ?_)⟩
      · have e5 : subS ⟨#[c]⟩ "0123456789" = true := e5
        rw [subS_one, dgt_mem] at e5
        refine ⟨m, c, r, rfl, t, fun v H' s' hv => q v H' s' ?_⟩
        rw [e4] at hv ⊢
        rw [e5]
        exact hv
      have e5 : subS ⟨#[c]⟩ "0123456789" = false := e5
      rw [subS_one, dgt_mem] at e5
      rw [e4, e5] at q
      have q : ∀ v H', Same H H' → ResV z H' v (match wordAt (c :: r) leastE with
        | some (w, t) => rCall (rTree n) w t
        | none => if nameAt (c :: r) == (Str.ofString "true").cps.toList then some (.flag true, (c :: r).drop 4) else if nameAt (c :: r) == (Str.ofString "false").cps.toList then some (.flag false, (c :: r).drop 5) else rVar (c :: r)) → Q v H' := q
      refine ⟨_, U.dic_LEAST, fun J wk => ?_⟩
      refine for_it wk (fun i σ H' => H' = H ∧ (∃ y, σ = [some (.str z), some (.int (m : Int)), some (.int (9 - ((n + 1 : Nat) : Int))), y]) ∧ wordAt (c :: r) leastE = wordAt (c :: r) (leastE.drop i)) ⟨rfl, ⟨_, rfl⟩, rfl⟩ (fun _ _ _ _ _ => trivial) (fun i x σ H1 H1' hi hv hy => ?_) (fun σ H1 hv => ?_)
      · obtain ⟨rfl, ⟨y, rfl⟩, w1⟩ := hv
        obtain ⟨rfl, hx⟩ := hy
        have hi : i < leastE.length := hi
        have hx : (leastE.map fun q => V.str q.1)[i]? = some x := hx
        rw [List.getElem?_map, List.getElem?_eq_getElem hi] at hx
        cases hx
        have hm : leastE[i] ∈ leastE := List.getElem_mem hi
        have sm : ∀ p ∈ leastE, p.1.length ≤ 10 := by decide +kernel
        have sm := sm _ hm
        rw [List.drop_eq_getElem_cons hi, word_pre] at w1
        generalize hwd : leastE[i] = wd at w1 hm sm
        obtain ⟨d, j⟩ := wd
        have sm : d.length ≤ 10 := sm
        have c1 : cutS z (some (m : Int)) (some ((m : Int) + (d.length : Int) + 1)) = mkS ((c :: r).take (d.length + 1)) := by
          have := t.cut 0 (d.length + 1)
          rw [show ((m + (d.length + 1) : Nat) : Int) = (m : Int) + (d.length : Int) + 1 by omega, Nat.add_zero, List.drop_zero, Nat.sub_zero] at this
          exact this
        have ap : (d ++ ("(" : Str)).cps.toList = d.cps.toList ++ [40] := by rw [app_list]; rfl
        refine ⟨size_le (by show d.length ≤ 100000; omega), t.size, by show d.length + 1 ≤ sizeLine; exact size_le (by omega), br2 (fun e6 => ?_) (fun e6 => ?_)⟩
        · have e6 : decide (V.str (cutS z (some (m : Int)) (some ((m : Int) + (d.length : Int) + 1))) = V.str (d ++ ("(" : Str))) = true := e6
          rw [str_dec c1, ap] at e6
          rw [e6] at w1
          have w1 : wordAt (c :: r) leastE = some ((d, j), (c :: r).drop (d.length + 1)) := w1
          have ln : d.length + 1 ≤ (c :: r).length := by
            have e7 : (c :: r).take (d.length + 1) = d.cps.toList ++ [40] := by simpa using e6
            have := congrArg List.length e7
            rw [List.length_take, List.length_append, ← len_list] at this
            have : min (d.length + 1) (c :: r).length = d.length + 1 := this
            omega
          refine ⟨size_le (by show d.length ≤ 100000; omega), m + (d.length + 1), (c :: r).drop (d.length + 1), j, ?_, t.on ln, ?_, hm, fun v H' s' hv => q v H' s' ?_⟩
          · show (m : Int) + (d.length : Int) + 1 = _
            omega
          · show 9 - ((n + 1 : Nat) : Int) + 1 = _
            omega
          · rw [w1]
            exact hv
        · have e6 : decide (V.str (cutS z (some (m : Int)) (some ((m : Int) + (d.length : Int) + 1))) = V.str (d ++ ("(" : Str))) = false := e6
          rw [str_dec c1, ap] at e6
          rw [e6] at w1
          exact ⟨rfl, ⟨_, rfl⟩, w1⟩
      · obtain ⟨rfl, ⟨y, rfl⟩, w1⟩ := hv
        have w1 : wordAt (c :: r) leastE = none := w1
        rw [w1] at q
        simp only at q
        have nl : (nameAt (c :: r)).length ≤ (c :: r).length := tw_len _
        refine ⟨Nat.le_of_ble_eq_true rfl, fun p np => ⟨p, rfl, ⟨_, sqT_of upd_same⟩, ?_⟩⟩
        refine for_it (walk_tup (xs := [.str "true", .str "false"])) (fun i σ H' => Same H1 H' ∧ H' p = some (.tup [.str "true", .str "false"]) ∧ (∃ y, σ = [some (.str z), some (.int (m : Int)), some (.int (9 - ((n + 1 : Nat) : Int))), y]) ∧ (1 ≤ i → (nameAt (c :: r) == (Str.ofString "true").cps.toList) = false) ∧ (2 ≤ i → (nameAt (c :: r) == (Str.ofString "false").cps.toList) = false))
          ⟨same_new np, upd_same, ⟨_, rfl⟩, (fun h => by omega), (fun h => by omega)⟩ (fun i σ H' _ hv => sqT_of hv.2.1) (fun i x σ H2 H2' hi hv hy => ?_) (fun σ H2 hv => ?_)
        · obtain ⟨s2, hp, ⟨y, rfl⟩, f1, f2⟩ := hv
          obtain ⟨rfl, hx⟩ := hy
          match i, hi, hx with
          | 0, _, hx =>
            cases hx
            refine ⟨m, c :: r, rfl, t, br2 (fun e6 => ?_) (fun e6 => ?_)⟩
            · have e6 : decide (V.str (mkS (nameAt (c :: r))) = V.str "true") = true := e6
              rw [str_dec rfl] at e6
              rw [e6] at q
              refine ⟨Nat.le_of_ble_eq_true rfl, fun p2 np2 => ⟨by decide +kernel, Nat.le_of_ble_eq_true rfl, fun p3 np3 => ?_⟩⟩
              refine q _ _ ((s2.trans (same_new np2)).trans (same_new np3)) ?_
              have l4 : (nameAt (c :: r)).length = 4 := by
                have e7 : nameAt (c :: r) = (Str.ofString "true").cps.toList := by simpa using e6
                rw [e7]
                decide +kernel
              refine ⟨p3, _, rfl, ?_, .flag (same_new np3 _ _ upd_same)⟩
              rw [upd_same, List.length_drop]
              have l4' : ((Str.ofString "true").length : Int) = 4 := by decide +kernel
              rw [l4']
              rw [show (m : Int) + 4 = ((z.length - ((c :: r).length - 4) : Nat) : Int) by omega]
            · have e6 : decide (V.str (mkS (nameAt (c :: r))) = V.str "true") = false := e6
              rw [str_dec rfl] at e6
              exact ⟨s2, hp, ⟨_, rfl⟩, fun _ => e6, fun h => by omega⟩
          | 1, _, hx =>
            cases hx
            have f1 := f1 (Nat.le_refl 1)
            rw [f1] at q
            refine ⟨m, c :: r, rfl, t, br2 (fun e6 => ?_) (fun e6 => ?_)⟩
            · have e6 : decide (V.str (mkS (nameAt (c :: r))) = V.str "false") = true := e6
              rw [str_dec rfl] at e6
              rw [e6] at q
              refine ⟨Nat.le_of_ble_eq_true rfl, fun p2 np2 => ⟨by decide +kernel, Nat.le_of_ble_eq_true rfl, fun p3 np3 => ?_⟩⟩
              refine q _ _ ((s2.trans (same_new np2)).trans (same_new np3)) ?_
              have l5 : (nameAt (c :: r)).length = 5 := by
                have e7 : nameAt (c :: r) = (Str.ofString "false").cps.toList := by simpa using e6
                rw [e7]
                decide +kernel
              refine ⟨p3, _, rfl, ?_, .flag (same_new np3 _ _ upd_same)⟩
              rw [upd_same, List.length_drop]
              have l5' : ((Str.ofString "false").length : Int) = 5 := by decide +kernel
              rw [l5']
              rw [show (m : Int) + 5 = ((z.length - ((c :: r).length - 5) : Nat) : Int) by omega]
            · have e6 : decide (V.str (mkS (nameAt (c :: r))) = V.str "false") = false := e6
              rw [str_dec rfl] at e6
              exact ⟨s2, hp, ⟨_, rfl⟩, fun _ => f1, fun _ => e6⟩
          | i + 2, hi, _ =>
            have : i + 2 < 2 := hi
            omega
        · obtain ⟨s2, hp, ⟨y, rfl⟩, f1, f2⟩ := hv
          rw [f1 (by decide), f2 (by decide)] at q
          exact ⟨m, c :: r, rfl, t, fun v H' s' hv => q v H' (s2.trans s') hv⟩
    · exact h.elim
theorem ok_rtE (T : Top K mg) (U : TopD K w) : ∀ n : Nat, n ≤ 8 → Ok_read_tree P w base T (2 * n + 3) (sp_rt n)
  | 0, h => step_rt T U 0 2 (by omega) (fun _ _ _ _ => False) fn_no (fun m e => by omega) h
  | n + 1, h => step_rt T U (n + 1) (2 * n + 4) (by omega) (sp_rc n) (ok_rc T U n (2 * n + 3) (ok_rtE T U n (by omega))) (fun m e => by cases e; rfl) h
/-! ### parse_expression -/
def sp_parse : Sp := fun vs H Q _ => match vs with
  | [.str z] => z.length ≤ 100000 ∧ ∀ v H', Same H H' → (match parseE z.cps.toList with | none => v = .non | some e => ExV H' v e) → Q v H'
  | _ => False
theorem ok_parse (T : Top K mg) (U : TopD K w) (k : Nat) : Ok_parse_expression P w base T (k + 20) sp_parse := by
  have G_read_tree : Ok_read_tree P w base T 19 (sp_rt 8) := ok_rtE T U 8 (Nat.le_refl 8)
  refine T.F_parse_expression.ok sc_parse_expression (fun vs H Q E h => ?_) (fun cdv A outer s H vs Q E hr h => ⟨_, PSs.nox (pss_cons (ps_set (i := 1) sc_parse_expression.nd rfl (by first | exact .inl rfl | exact .inr rfl) (vif (tst (pe_callB (kis K) (by rfl) T.n_isinstance (by decide +kernel) (pa_cons (vr 0) (pa_cons (pe_bltn (v := .ty "str") (by rfl) T.n_str (by decide +kernel) rfl) pa_nil)))) (pe_call G_read_tree (hr.mono (by omega)) (by rfl) T.g_read_tree T.F_read_tree.kp (b_read_tree T) .nil pass0 (pa_cons (vr 0) (pa_cons pe_int (pa_cons pe_int pa_nil)))) pe_non))
      (pss_one (ps_ret (vif (PW.pt (wor (tcmp op_isNo (vr 1) pe_non (nomark _)) (pw_or1 (tcmp (kother K hr.units) (pe_ix (kget K) (vr 1) pe_int (fun _ _ => rfl)) (pe_callB (klen K) (by rfl) T.n_len (by decide +kernel) (pa_cons (vr 0) pa_nil)) (nomark _))))) pe_non (pe_ix (kget K) (vr 1) pe_int (fun _ _ => rfl)))))), ?_⟩)
  · unfold sp_parse at h
    split at h
    · rfl
    · exact h.elim
  · unfold sp_parse at h
    split at h
    · obtain ⟨hz, q⟩ := h
      rename_i z
      rw [st_parse_expression]
      have t : TxtAt z 0 z.cps.toList := ⟨hz, rfl, Nat.zero_le _⟩
      refine ⟨_, _, .base (.str _), rfl, 0, _, rfl, t, by decide, fun v H1 s1 r1 => ?_⟩
      have q := fun v H2 (s2 : Same H1 H2) => q v H2 (s1.trans s2)
      unfold parseE at q
      cases hr : rTree 8 z.cps.toList with
      | none =>
        rw [hr] at r1 q
        have r1 : v = .non := r1
        subst r1
        exact q _ _ (Same.refl _) rfl
      | some p =>
        obtain ⟨e, r⟩ := p
        rw [hr] at r1 q
        obtain ⟨p, x, rfl, hp, hx⟩ := r1
        have tl := (tree_tail 8 _ e r hr).len
        have lz := len_list z
        refine ⟨_, _, .inr (sqT_of hp), rfl, t.size, br2 (fun e1 => ?_) (fun e1 => ?_)⟩
        · have e1 : (!decide (V.int ((z.length - r.length : Nat) : Int) = V.int (z.length : Int))) = true := e1
          have ne : r ≠ [] := fun z => by
            rw [z] at e1
            simp at e1
          refine q _ _ (Same.refl _) ?_
          cases r with
          | nil => exact absurd rfl ne
          | cons a b => rfl
        · have e1 : (!decide (V.int ((z.length - r.length : Nat) : Int) = V.int (z.length : Int))) = false := e1
          have e1 : V.int ((z.length - r.length : Nat) : Int) = V.int (z.length : Int) := by simpa using e1
          injection e1 with e1
          have : r = [] ∨ z.length = 0 := by
            cases r with
            | nil => exact .inl rfl
            | cons a b => right; simp at e1; omega
          have : r = [] := by
            rcases this with h | h
            · exact h
            · exact List.length_eq_zero_iff.mp (by omega)
          subst this
          exact ⟨_, _, .inr (sqT_of hp), rfl, q _ _ (Same.refl _) hx⟩
    · exact h.elim
end
end Sk
namespace Sk
open PySem PySem.Spec PyProof.Rows L2
theorem cut_rest (xs : List V) : cutV xs (some 1) none = xs.drop 1 := by
  unfold cutV
  cases xs with
  | nil => rfl
  | cons x r =>
    have e1 : HT.sIx (x :: r).length 0 (some 1) = 1 := by
      unfold HT.sIx
      simp
    have e2 : HT.sIx (x :: r).length (x :: r).length none = (x :: r).length := rfl
    rw [e1, e2]
    exact List.take_of_length_le (by simp)
theorem atI_hd {α : Type} (x : α) (r : List α) : atI (x :: r) 0 = some x := by
  unfold atI ixN
  rw [if_pos (Int.le_refl 0), if_pos (by rw [List.length_cons]; omega)]
  rfl
theorem atI_snd {α : Type} (x y : α) (r : List α) : atI (x :: y :: r) 1 = some y := by
  unfold atI ixN
  rw [if_pos (by decide), if_pos (by rw [List.length_cons, List.length_cons]; omega)]
  rfl
theorem cut_moves {x : V} {r : List V} : ¬ (HT.sIx (x :: r).length 0 (some 1) = 0 ∧ HT.sIx (x :: r).length (x :: r).length none = (x :: r).length) := fun h => by
  have e1 : HT.sIx (x :: r).length 0 (some 1) = 1 := by
    unfold HT.sIx
    simp
  rw [e1] at h
  cases h.1
section
variable {P : Program} {w : World} {K : PySem.W.Frag} {mg : Str → Option Value} {base : Heap}
theorem kt_bb : PySem.W.kitOne K (.type "bool") (.type "bool") = some true := rfl
theorem kt_ib : PySem.W.kitOne K (.type "int") (.type "bool") = some false := rfl
theorem kt_sb : PySem.W.kitOne K (.type "str") (.type "bool") = some false := rfl
theorem kt_it : PySem.W.kitOne K (.type "int") (.type "tuple") = some false := rfl
theorem kt_st : PySem.W.kitOne K (.type "str") (.type "tuple") = some false := rfl
theorem kt_id : PySem.W.kitOne K (.type "int") (.type "dict") = some false := rfl
theorem kt_sd : PySem.W.kitOne K (.type "str") (.type "dict") = some false := rfl
theorem kt_is : PySem.W.kitOne K (.type "int") (.type "str") = some false := rfl
/-! ### value_at -/
def sp_vat : Sp := fun vs H Q _ => match vs with
  | [.ref a, x] => ∃ ns v, H a = some (.tup (ns.map fun n => V.str (mkS n))) ∧ ns ≠ [] ∧ getV H ns x = some v ∧ ∀ H', Same H H' → Q v H'
  | _ => False
theorem getV_step {H : Hp} {n : List Nat} {r : List (List Nat)} {x v : V} (h : getV H (n :: r) x = some v) : ∃ a kvs u, x = .ref a ∧ H a = some (.dK kvs) ∧ valV kvs (.inr (mkS n)) = some u ∧ getV H r u = some v := by
  cases x with
  | ref a =>
    unfold getV at h
    split at h
    · rename_i kvs e
      split at h
      · rename_i u e2
        exact ⟨a, kvs, u, rfl, e, e2, h⟩
      · cases h
    · cases h
  | _ => cases h
theorem dget_of {H : Hp} {a : Addr} {kvs : List (Key × V)} {z : Str} {u : V} (h : H a = some (.dK kvs)) (e : valV kvs (.inr z) = some u) : DGet H a (.str z) (some u) := by
  rw [← e]
  exact DGet.k (k := .inr z) h
theorem ok_vat (T : Top K mg) (k : Nat) : Ok_value_at P w base T (k + 1) sp_vat := by
  refine T.F_value_at.ok sc_value_at (fun vs H Q E h => ?_) (fun cdv A outer s H vs Q E hr h => ⟨_, PSs.nox (pss_cons (ps_set (i := 2) sc_value_at.nd rfl (by first | exact .inl rfl | exact .inr rfl) (pe_dget (hu_of hr) (vr 1) (pe_ix (kget K) (vr 0) pe_int (fun _ _ => rfl)) (fun _ _ => rfl)))
      (pss_cons (ps_for PassesOwn.never rfl (itup K (pe_slice (kcut K) (vr 0) (po_u pe_int) po_none)) (pg_name (i := 3) sc_value_at.nd rfl (by first | exact .inl rfl | exact .inr rfl)) (pss_one (ps_set (i := 2) sc_value_at.nd rfl (by first | exact .inl rfl | exact .inr rfl) (pe_dget (hu_of hr) (vr 2) (vr 3) (fun _ _ => rfl)))))
      (pss_one (ps_ret (vr 2))))), ?_⟩)
  · unfold sp_vat at h
    split at h
    · rfl
    · exact h.elim
  · unfold sp_vat at h
    split at h
    · obtain ⟨ns, v, ha, ne, g, q⟩ := h
      rename_i a x
      rw [st_value_at]
      cases ns with
      | nil => exact absurd rfl ne
      | cons n r =>
        obtain ⟨d, kvs, u, rfl, hd, e, g⟩ := getV_step g
        refine ⟨_, _, .inr (sqT_of ha), atI_hd _ _, d, u, rfl, dget_of hd e, ?_⟩
        simp only [List.set_cons_succ, List.set_cons_zero]
        refine .inr ⟨a, _, rfl, sqT_of ha, fun hw => absurd hw cut_moves, fun _ p np => ?_⟩
        refine ⟨p, rfl, ⟨_, sqT_of upd_same⟩, ?_⟩
        rw [cut_rest]
        refine for_it (walk_tup (xs := r.map fun n => V.str (mkS n))) (fun i σ H' => Same H H' ∧ H' p = some (.tup (r.map fun n => V.str (mkS n))) ∧ ∃ u y, σ = [some (.ref a), some (.ref d), some u, y] ∧ getV H (r.drop i) u = some v) ⟨same_new np, upd_same, u, _, rfl, g⟩ (fun i σ H' _ hv => sqT_of hv.2.1) (fun i x σ H2 H2' hi hv hy => ?_) (fun σ H2 hv => ?_)
        · obtain ⟨s2, hp, u, y, rfl, g⟩ := hv
          obtain ⟨rfl, hx⟩ := hy
          have hi : i < r.length := by simpa using hi
          rw [List.getElem?_map, List.getElem?_eq_getElem hi] at hx
          cases hx
          rw [List.drop_eq_getElem_cons hi] at g
          obtain ⟨d2, kvs2, u2, rfl, hd2, e2, g2⟩ := getV_step g
          exact ⟨d2, u2, rfl, dget_of (s2 _ _ hd2) e2, s2, hp, u2, _, rfl, g2⟩
        · obtain ⟨s2, hp, u, y, rfl, g⟩ := hv
          rw [List.drop_eq_nil_of_le (by simp)] at g
          cases g
          exact q _ s2
    · exact h.elim
/-! ### same_values, of two flags, numbers, texts -/
def sp_sv0 : Sp := fun vs H Q _ => match vs with
  | [a, b] => ∃ v, eq0 a b = some v ∧ Q v H
  | _ => False
theorem ok_sv0 (T : Top K mg) (k : Nat) : Ok_same_values P w base T (k + 1) sp_sv0 := by
  have G_same_values : Ok_same_values P w base T 0 (fun _ _ _ _ => False) := fn_no
  refine T.F_same_values.ok sc_same_values (fun vs H Q E h => ?_) (fun cdv A outer s H vs Q E hr h => ⟨_, PSs.nox (pss_cons (sif (PW.pt (wor (tst (pe_callB (kis K) (by rfl) T.n_isinstance (by decide +kernel) (pa_cons (vr 0) (pa_cons (pe_bltn (v := .ty "bool") (by rfl) T.n_bool (by decide +kernel) rfl) pa_nil)))) (wor (tst (pe_callB (kis K) (by rfl) T.n_isinstance (by decide +kernel) (pa_cons (vr 1) (pa_cons (pe_bltn (v := .ty "bool") (by rfl) T.n_bool (by decide +kernel) rfl) pa_nil)))) (wor (tcmp op_isNo (vr 0) pe_non (nomark _)) (pw_or1 (tcmp op_isNo (vr 1) pe_non (nomark _))))))) (pss_one (ps_ret (vand (pe_cmpR (ksame K hr.units) (pe_callB (kis K) (by rfl) T.n_isinstance (by decide +kernel) (pa_cons (vr 0) (pa_cons (pe_bltn (v := .ty "bool") (by rfl) T.n_bool (by decide +kernel) rfl) pa_nil))) (pe_callB (kis K) (by rfl) T.n_isinstance (by decide +kernel) (pa_cons (vr 1) (pa_cons (pe_bltn (v := .ty "bool") (by rfl) T.n_bool (by decide +kernel) rfl) pa_nil))) (nomark _)) (vand (pe_cmpR (ksame K hr.units) (pe_cmpR op_isNo (vr 0) pe_non (nomark _)) (pe_cmpR op_isNo (vr 1) pe_non (nomark _)) (nomark _)) (pe_one (pe_cmpR (ksame K hr.units) (vr 0) (vr 1) (nomark _))))))) pss_nil)
      (pss_cons (sif (PW.pt (wand (tst (pe_callB (kis K) (by rfl) T.n_isinstance (by decide +kernel) (pa_cons (vr 0) (pa_cons (pe_bltn (v := .ty "tuple") (by rfl) T.n_tuple (by decide +kernel) rfl) pa_nil)))) (pw_and1 (tst (pe_callB (kis K) (by rfl) T.n_isinstance (by decide +kernel) (pa_cons (vr 1) (pa_cons (pe_bltn (v := .ty "tuple") (by rfl) T.n_tuple (by decide +kernel) rfl) pa_nil))))))) (pss_one (ps_ret (vand (pe_cmpR (ksame K hr.units) (pe_callB (klen K) (by rfl) T.n_len (by decide +kernel) (pa_cons (vr 0) pa_nil)) (pe_callB (klen K) (by rfl) T.n_len (by decide +kernel) (pa_cons (vr 1) pa_nil)) (nomark _)) (pe_one (pe_callB (kall K rfl) (by rfl) T.n_all (by decide +kernel) (pa_cons (pe_lc (own := [("x", 3), ("y", 4)])  rfl sc_same_values.nd (izip K (by rfl) T.n_zip (pa_cons (vr 0) (pa_cons (vr 1) pa_nil))) (blkOk_by (own := [("x", 3), ("y", 4)]) (N := ["one", "other", "name", "x", "y"]) (sc := defScope s_same_values) (by decide +kernel)) (fun _ _ _ _ _ => (gtup K 2 rfl (gs_cons (pg_name (i := 3) sc_same_values.nd rfl (by first | exact .inl rfl | exact .inr rfl)) (gs_cons (pg_name (i := 4) sc_same_values.nd rfl (by first | exact .inl rfl | exact .inr rfl)) gs_nil)))) (fun _ _ _ _ _ => pts_nil) (fun _ _ _ _ _ => up (pe_call G_same_values (hr.mono (by omega)) (by rfl) T.g_same_values T.F_same_values.kp (b_same_values T) .nil pass0 (pa_cons (vr 3) (pa_cons (vr 4) pa_nil))))) pa_nil)))))) pss_nil)
      (pss_cons (sif (PW.pt (wand (tst (pe_callB (kis K) (by rfl) T.n_isinstance (by decide +kernel) (pa_cons (vr 0) (pa_cons (pe_bltn (v := .ty "dict") (by rfl) T.n_dict (by decide +kernel) rfl) pa_nil)))) (pw_and1 (tst (pe_callB (kis K) (by rfl) T.n_isinstance (by decide +kernel) (pa_cons (vr 1) (pa_cons (pe_bltn (v := .ty "dict") (by rfl) T.n_dict (by decide +kernel) rfl) pa_nil))))))) (pss_cons (sif (tcmp (kother K hr.units) (pe_callB (ksorted K) (by rfl) T.n_sorted (by decide +kernel) (pa_cons (pe_lock (pe_lc (own := [("name", 2)])  rfl sc_same_values.nd (pi_keys (vr 0)) (blkOk_by (own := [("name", 2)]) (N := ["one", "other", "name", "x", "y"]) (sc := defScope s_same_values) (by decide +kernel)) (fun _ _ _ _ _ => (pg_name (i := 2) sc_same_values.nd rfl (by first | exact .inl rfl | exact .inr rfl))) (fun _ _ _ _ _ => pts_nil) (fun _ _ _ _ _ => up (vr 2)))) pa_nil)) (pe_callB (ksorted K) (by rfl) T.n_sorted (by decide +kernel) (pa_cons (pe_lock (pe_lc (own := [("name", 2)])  rfl sc_same_values.nd (pi_keys (vr 1)) (blkOk_by (own := [("name", 2)]) (N := ["one", "other", "name", "x", "y"]) (sc := defScope s_same_values) (by decide +kernel)) (fun _ _ _ _ _ => (pg_name (i := 2) sc_same_values.nd rfl (by first | exact .inl rfl | exact .inr rfl))) (fun _ _ _ _ _ => pts_nil) (fun _ _ _ _ _ => up (vr 2)))) pa_nil)) (nomark _)) (pss_one (ps_ret pe_bl)) pss_nil)
      (pss_one (ps_ret (pe_callB (kall K rfl) (by rfl) T.n_all (by decide +kernel) (pa_cons (pe_lock (pe_lc (own := [("name", 2)])  rfl sc_same_values.nd (pi_keys (vr 0)) (blkOk_by (own := [("name", 2)]) (N := ["one", "other", "name", "x", "y"]) (sc := defScope s_same_values) (by decide +kernel)) (fun _ _ _ _ _ => (pg_name (i := 2) sc_same_values.nd rfl (by first | exact .inl rfl | exact .inr rfl))) (fun _ _ _ _ _ => pts_nil) (fun _ _ _ _ _ => up (pe_call G_same_values (hr.mono (by omega)) (by rfl) T.g_same_values T.F_same_values.kp (b_same_values T) .nil pass0 (pa_cons (pe_dget (hu_of hr) (vr 0) (vr 2) (fun _ _ => rfl)) (pa_cons (pe_dget (hu_of hr) (vr 1) (vr 2) (fun _ _ => rfl)) pa_nil)))))) pa_nil))))) pss_nil)
      (pss_one (ps_ret (vand (pe_cmpR (ksame K hr.units) (pe_callB (kis K) (by rfl) T.n_isinstance (by decide +kernel) (pa_cons (vr 0) (pa_cons (pe_bltn (v := .ty "str") (by rfl) T.n_str (by decide +kernel) rfl) pa_nil))) (pe_callB (kis K) (by rfl) T.n_isinstance (by decide +kernel) (pa_cons (vr 1) (pa_cons (pe_bltn (v := .ty "str") (by rfl) T.n_str (by decide +kernel) rfl) pa_nil))) (nomark _)) (pe_one (pe_cmpR (ksame K hr.units) (vr 0) (vr 1) (nomark _))))))))), ?_⟩)
  · unfold sp_sv0 at h
    split at h
    · rfl
    · exact h.elim
  · unfold sp_sv0 at h
    split at h
    · obtain ⟨v, e, q⟩ := h
      rw [st_same_values]
      unfold eq0 at e
      split at e
      · cases e
        refine ⟨_, _, .base (.bl _), kt_bb, ?_⟩
        refine ⟨_, _, .base (.bl _), kt_bb, _, _, .base (.bl _), kt_bb, ?_⟩
        rename_i a b
        have e : V.bl (decide (V.bl a = V.bl b)) = V.bl (decide (a = b)) := by
          cases a <;> cases b <;> rfl
        rw [← e] at q
        exact q
      · cases e
        rename_i a b
        refine ⟨_, _, .base (.int _), kt_ib, _, _, .base (.int _), kt_ib, ?_⟩
        refine ⟨_, _, .base (.int _), kt_it, _, _, .base (.int _), kt_id, ?_⟩
        refine ⟨_, _, .base (.int _), kt_is, _, _, .base (.int _), kt_is, ?_⟩
        have e : V.bl (decide (V.int a = V.int b)) = V.bl (decide (a = b)) := by
          congr 1
          simp
        rw [← e] at q
        exact q
      · cases e
        rename_i a b
        refine ⟨_, _, .base (.str _), kt_sb, _, _, .base (.str _), kt_sb, ?_⟩
        refine ⟨_, _, .base (.str _), kt_st, _, _, .base (.str _), kt_sd, ?_⟩
        refine ⟨_, _, .base (.str _), rfl, _, _, .base (.str _), rfl, ?_⟩
        have e : V.bl (decide (V.str a = V.str b)) = V.bl (decide (a = b)) := by
          congr 1
          simp
        rw [← e] at q
        exact q
      · cases e
    · exact h.elim
end
end Sk
namespace Sk
open PySem PySem.Spec PyProof.Rows L2
section
variable {P : Program} {w : World} {K : PySem.W.Frag} {mg : Str → Option Value} {base : Heap}
/-! ### applied -/
def sp_app : Sp := fun vs H Q _ => match vs with
  | [.str d, .ref L] => ∃ us v, H L = some (.lst us) ∧ applyV H d us = some v ∧ ∀ H', Same H H' → Q v H'
  | _ => False
theorem ok_app (T : Top K mg) (k : Nat) : Ok_applied P w base T (k + 2) sp_app := by
  have G_same_values : Ok_same_values P w base T 1 sp_sv0 := ok_sv0 T 0
  refine T.F_applied.ok sc_applied (fun vs H Q E h => ?_) (fun cdv A outer s H vs Q E hr h => ⟨_, PSs.nox (pss_cons (sif (tcmp (ksame K hr.units) (vr 0) pe_str (nomark _)) (pss_one (ps_ret (pe_callB (ksum K rfl) (by rfl) T.n_sum (by decide +kernel) (pa_cons (vr 1) pa_nil)))) pss_nil)
      (pss_cons (sif (tcmp (ksame K hr.units) (vr 0) pe_str (nomark _)) (pss_one (ps_ret (kjoin K pe_str (pe_lc (own := [("part", 2)])  rfl sc_applied.nd (ilist K (vr 1)) (blkOk_by (own := [("part", 2)]) (N := ["word", "found", "part"]) (sc := defScope s_applied) (by decide +kernel)) (fun _ _ _ _ _ => (pg_name (i := 2) sc_applied.nd rfl (by first | exact .inl rfl | exact .inr rfl))) (fun _ _ _ _ _ => pts_nil) (fun _ _ _ _ _ => up (pe_callTy call_strU (by rfl) T.n_str (by decide +kernel) (pa_cons (vr 2) pa_nil))))))) pss_nil)
      (pss_cons (sif (tcmp (ksame K hr.units) (vr 0) pe_str (nomark _)) (pss_one (ps_ret (pe_callB (klen K) (by rfl) T.n_len (by decide +kernel) (pa_cons (pe_ix (kget K) (vr 1) pe_int (fun _ _ => rfl)) pa_nil)))) pss_nil)
      (pss_cons (sif (tcmp (ksame K hr.units) (vr 0) pe_str (nomark _)) (pss_one (ps_ret (pe_cmpR op_notNo (pe_ix (kget K) (vr 1) pe_int (fun _ _ => rfl)) pe_non (nomark _)))) pss_nil)
      (pss_cons (sif (tcmp (ksame K hr.units) (vr 0) pe_str (nomark _)) (pss_one (ps_ret (vif (tcmp op_isNo (pe_ix (kget K) (vr 1) pe_int (fun _ _ => rfl)) pe_non (nomark _)) (pe_ix (kget K) (vr 1) pe_int (fun _ _ => rfl)) (pe_ix (kget K) (vr 1) pe_int (fun _ _ => rfl))))) pss_nil)
      (pss_cons (sif (tcmp (ksame K hr.units) (vr 0) pe_str (nomark _)) (pss_one (ps_ret (vnot (pe_ix (kget K) (vr 1) pe_int (fun _ _ => rfl))))) pss_nil)
      (pss_cons (sif (tcmp (ksame K hr.units) (vr 0) pe_str (nomark _)) (pss_one (ps_ret (pe_call G_same_values (hr.mono (by omega)) (by rfl) T.g_same_values T.F_same_values.kp (b_same_values T) .nil pass0 (pa_cons (pe_ix (kget K) (vr 1) pe_int (fun _ _ => rfl)) (pa_cons (pe_ix (kget K) (vr 1) pe_int (fun _ _ => rfl)) pa_nil))))) pss_nil)
      (pss_cons (sif (tcmp (ksame K hr.units) (vr 0) pe_str (nomark _)) (pss_one (ps_ret (pe_cmpR op_ltI (pe_ix (kget K) (vr 1) pe_int (fun _ _ => rfl)) (pe_ix (kget K) (vr 1) pe_int (fun _ _ => rfl)) (nomark _)))) pss_nil)
      (pss_one (ps_ret (vif (tcmp (ksame K hr.units) (vr 0) pe_str (nomark _)) (vand (pe_ix (kget K) (vr 1) pe_int (fun _ _ => rfl)) (pe_one (pe_ix (kget K) (vr 1) pe_int (fun _ _ => rfl)))) (vor (pe_ix (kget K) (vr 1) pe_int (fun _ _ => rfl)) (pe_one (pe_ix (kget K) (vr 1) pe_int (fun _ _ => rfl))))))))))))))), ?_⟩)
  · unfold sp_app at h
    split at h
    · rfl
    · exact h.elim
  · unfold sp_app at h
    split at h
    · obtain ⟨us, v, hL, ap, q⟩ := h
      rename_i d L
      rw [st_applied]
      unfold applyV at ap
      refine br2 (fun e1 => ?_) (fun e1 => ?_)
      · rw [if_pos (show isW d "sum" = true from e1)] at ap
        obtain ⟨l, h1, h2⟩ := Option.map_eq_some_iff.mp ap
        subst h2
        rw [ints_map h1] at hL
        exact ⟨_, l, rfl, sqL_of hL, q _ (Same.refl _)⟩
      rw [if_neg (by rw [show isW d "sum" = false from e1]; decide)] at ap
      refine br2 (fun e2 => ?_) (fun e2 => ?_)
      · rw [if_pos (show isW d "joined" = true from e2)] at ap
        split at ap
        · rename_i zs ht
          split at ap
          · rename_i hb
            cases ap
            have hb := Nat.le_of_ble_eq_true hb
            obtain ⟨lz, tz⟩ := texts_map ht
            refine ⟨L, rfl, ⟨_, sqL_of hL⟩, fun D nD => ?_⟩
            refine lcl (xs := us) fr_same (fun i v _ => ∃ z, zs[i]? = some z ∧ v = .str z) trivial nD (by omega) (fun H1 _ s1 => sqL_of (s1 _ _ hL)) (fun _ _ _ _ h _ => h) (fun _ => rfl) (fun i x H1 hx _ s1 => ?_) (fun H1 ys _ s1 l1 e3 q1 => ?_)
            · obtain ⟨z, hz, hx2⟩ := tz i x hx
              cases x with
              | str y =>
                cases hx2
                exact ⟨trivial, Same.refl _, z, hz, rfl⟩
              | int n =>
                have hx2 : (if Nat.ble n.natAbs.log2 1919 = true then some (Str.ofString (toString n)) else none) = some z := hx2
                split at hx2
                · rename_i hn
                  cases hx2
                  exact ⟨Nat.lt_succ_of_le (Nat.le_of_ble_eq_true hn), trivial, Same.refl _, _, hz, rfl⟩
                · cases hx2
              | _ => cases hx2
            · have ey : ys = zs.map V.str := by
                refine List.ext_getElem? fun i => ?_
                rw [List.getElem?_map]
                cases hy : ys[i]? with
                | none =>
                  rw [List.getElem?_eq_none_iff] at hy
                  rw [List.getElem?_eq_none (by omega)]
                  rfl
                | some y =>
                  obtain ⟨z, h1, h2⟩ := q1 i y hy
                  rw [h1, h2]
                  rfl
              subst ey
              refine ⟨zs, .inl (sqL_of e3), ?_, q _ s1⟩
              show _ + zs.length * 0 ≤ 16777216
              omega
          · cases ap
        · cases ap
      rw [if_neg (by rw [show isW d "joined" = false from e2]; decide)] at ap
      refine br2 (fun e3 => ?_) (fun e3 => ?_)
      · rw [if_pos (show isW d "size" = true from e3)] at ap
        split at ap
        · rename_i a r
          split at ap
          · rename_i xs hx
            cases ap
            exact ⟨_, _, .inl (sqL_of hL), atI_hd _ _, _, .inr (sqT_of hx), q _ (Same.refl _)⟩
          · cases ap
        · cases ap
      rw [if_neg (by rw [show isW d "size" = false from e3]; decide)] at ap
      refine br2 (fun e4 => ?_) (fun e4 => ?_)
      · rw [if_pos (show isW d "has" = true from e4)] at ap
        split at ap
        · cases ap
          exact ⟨_, _, .inl (sqL_of hL), atI_hd _ _, q _ (Same.refl _)⟩
        · cases ap
      rw [if_neg (by rw [show isW d "has" = false from e4]; decide)] at ap
      refine br2 (fun e5 => ?_) (fun e5 => ?_)
      · rw [if_pos (show isW d "or_else" = true from e5)] at ap
        split at ap
        · rename_i a b
          cases ap
          refine ⟨_, _, .inl (sqL_of hL), atI_hd _ _, br2 (fun e => ?_) (fun e => ?_)⟩
          · have e : a = .non := of_decide_eq_true e
            rw [if_pos e] at q
            exact ⟨_, _, .inl (sqL_of hL), atI_snd _ _ _, q _ (Same.refl _)⟩
          · have e : ¬ a = .non := of_decide_eq_false e
            rw [if_neg e] at q
            exact ⟨_, _, .inl (sqL_of hL), atI_hd _ _, q _ (Same.refl _)⟩
        · cases ap
      rw [if_neg (by rw [show isW d "or_else" = false from e5]; decide)] at ap
      refine br2 (fun e6 => ?_) (fun e6 => ?_)
      · rw [if_pos (show isW d "not" = true from e6)] at ap
        split at ap
        · cases ap
          exact ⟨_, _, .inl (sqL_of hL), atI_hd _ _, q _ (Same.refl _)⟩
        · cases ap
      rw [if_neg (by rw [show isW d "not" = false from e6]; decide)] at ap
      unfold apply2 at ap
      refine br2 (fun e7 => ?_) (fun e7 => ?_)
      · have e7 : isW d "equal" = true := e7
        split at ap
        · rw [if_pos e7] at ap
          cases ap
          exact ⟨_, _, .inl (sqL_of hL), atI_hd _ _, _, _, .inl (sqL_of hL), atI_snd _ _ _, _, rfl, q _ (Same.refl _)⟩
        · rw [if_pos e7] at ap
          exact ⟨_, _, .inl (sqL_of hL), atI_hd _ _, _, _, .inl (sqL_of hL), atI_snd _ _ _, _, ap, q _ (Same.refl _)⟩
        · cases ap
      have e7 : isW d "equal" = false := e7
      refine br2 (fun e8 => ?_) (fun e8 => ?_)
      · have e8 : isW d "less" = true := e8
        split at ap
        · rw [if_neg (by rw [e7]; decide), if_pos e8] at ap
          cases ap
        · rw [if_neg (by rw [e7]; decide), if_pos e8] at ap
          split at ap
          · cases ap
            exact ⟨_, _, .inl (sqL_of hL), atI_hd _ _, _, _, .inl (sqL_of hL), atI_snd _ _ _, q _ (Same.refl _)⟩
          · cases ap
        · cases ap
      have e8 : isW d "less" = false := e8
      split at ap
      · rename_i a b
        rw [if_neg (by rw [e7]; decide), if_neg (by rw [e8]; decide)] at ap
        refine br2 (fun e9 => ?_) (fun e9 => ?_)
        · rw [if_pos (show isW d "both" = true from e9)] at ap
          cases ap
          refine ⟨_, _, .inl (sqL_of hL), atI_hd _ _, br2 (fun e => ?_) (fun e => ?_)⟩
          · subst e
            exact ⟨_, _, .inl (sqL_of hL), atI_snd _ _ _, q _ (Same.refl _)⟩
          · subst e
            exact q _ (Same.refl _)
        · rw [if_neg (by rw [show isW d "both" = false from e9]; decide)] at ap
          cases ap
          refine ⟨_, _, .inl (sqL_of hL), atI_hd _ _, br2 (fun e => ?_) (fun e => ?_)⟩
          · subst e
            exact q _ (Same.refl _)
          · subst e
            exact ⟨_, _, .inl (sqL_of hL), atI_snd _ _ _, q _ (Same.refl _)⟩
      · rw [if_neg (by rw [e7]; decide), if_neg (by rw [e8]; decide)] at ap
        cases ap
      · cases ap
    · exact h.elim
/-! ### value_of -/
def sp_vof (n : Nat) : Sp := fun vs H Q _ => match vs with
  | [x, env] => ∃ e v, ExV H x e ∧ e.lev ≤ n ∧ e.wid ≤ 1000 ∧ evV H env e = some v ∧ ∀ H', Same H H' → Q v H'
  | _ => False
theorem step_vof (T : Top K mg) (n k : Nat) (hk : 2 ≤ k) (spI : Sp) (G_value_of : Ok_value_of P w base T k spI) (hI : ∀ m, n = m + 1 → spI = sp_vof m) : Ok_value_of P w base T (k + 1) (sp_vof n) := by
  have G_value_at : Ok_value_at P w base T 1 sp_vat := ok_vat T 0
  have G_applied : Ok_applied P w base T 2 sp_app := ok_app T 0
  refine T.F_value_of.ok sc_value_of (fun vs H Q E h => ?_) (fun cdv A outer s H vs Q E hr h => ⟨_, PSs.nox (pss_cons (sif (tcmp (ksame K hr.units) (pe_ix (kget K) (vr 0) pe_int (fun _ _ => rfl)) pe_str (nomark _)) (pss_one (ps_ret (pe_call G_value_at (hr.mono (by omega)) (by rfl) T.g_value_at T.F_value_at.kp (b_value_at T) .nil pass0 (pa_cons (pe_ix (kget K) (vr 0) pe_int (fun _ _ => rfl)) (pa_cons (vr 1) pa_nil))))) pss_nil)
      (pss_cons (sif (tcmp (kother K hr.units) (pe_ix (kget K) (vr 0) pe_int (fun _ _ => rfl)) pe_str (nomark _)) (pss_one (ps_ret (pe_ix (kget K) (vr 0) pe_int (fun _ _ => rfl)))) pss_nil)
      (pss_one (ps_ret (pe_call G_applied (hr.mono (by omega)) (by rfl) T.g_applied T.F_applied.kp (b_applied T) .nil pass0 (pa_cons (pe_ix (kget K) (vr 0) pe_int (fun _ _ => rfl)) (pa_cons (pe_lc (own := [("part", 2)])  rfl sc_value_of.nd (itup K (pe_ix (kget K) (vr 0) pe_int (fun _ _ => rfl))) (blkOk_by (own := [("part", 2)]) (N := ["tree", "values", "part"]) (sc := defScope s_value_of) (by decide +kernel)) (fun _ _ _ _ _ => (pg_name (i := 2) sc_value_of.nd rfl (by first | exact .inl rfl | exact .inr rfl))) (fun _ _ _ _ _ => pts_nil) (fun _ _ _ _ _ => up (pe_call G_value_of (hr.mono (by omega)) (by rfl) T.g_value_of T.F_value_of.kp (b_value_of T) .nil pass0 (pa_cons (vr 2) (pa_cons (vr 1) pa_nil))))) pa_nil))))))), ?_⟩)
  · unfold sp_vof at h
    split at h
    · rfl
    · exact h.elim
  · unfold sp_vof at h
    split at h
    · obtain ⟨e, v, hx, hl, hw, ev, q⟩ := h
      rename_i x env
      rw [st_value_of]
      cases hx with
      | text ha =>
        cases ev
        exact ⟨_, _, .inr (sqT_of ha), rfl, _, _, .inr (sqT_of ha), rfl, _, _, .inr (sqT_of ha), rfl, q _ (Same.refl _)⟩
      | num ha =>
        cases ev
        exact ⟨_, _, .inr (sqT_of ha), rfl, _, _, .inr (sqT_of ha), rfl, _, _, .inr (sqT_of ha), rfl, q _ (Same.refl _)⟩
      | flag ha =>
        cases ev
        exact ⟨_, _, .inr (sqT_of ha), rfl, _, _, .inr (sqT_of ha), rfl, _, _, .inr (sqT_of ha), rfl, q _ (Same.refl _)⟩
      | get ha hb ne =>
        exact ⟨_, _, .inr (sqT_of ha), rfl, _, _, .inr (sqT_of ha), rfl, _, v, hb, ne, ev, q⟩
      | @call a p d us xs ha hb hs =>
        obtain ⟨n, rfl⟩ : ∃ g, n = g + 1 := by
          unfold Ex.lev at hl
          exact ⟨n - 1, by omega⟩
        have hI := hI n rfl
        subst hI
        have hl : levE xs ≤ n := by
          unfold Ex.lev at hl
          omega
        have w1 : xs.length ≤ 1000 ∧ widE xs ≤ 1000 := by
          unfold Ex.wid at hw
          omega
        unfold evV at ev
        cases hv : evVs H env xs with
        | none => rw [hv] at ev; cases ev
        | some vs =>
          rw [hv] at ev
          have ev : applyV H d vs = some v := ev
          have l1 := hs.length
          have l2 := evVs_len hv
          refine ⟨_, _, .inr (sqT_of ha), rfl, _, _, .inr (sqT_of ha), rfl, _, _, .inr (sqT_of ha), rfl, _, _, .inr (sqT_of ha), rfl, p, rfl, ⟨_, sqT_of hb⟩, fun D nD => ?_⟩
          refine lct (xs := us) fr_same (fun i v _ => vs[i]? = some v) trivial nD (by omega) (fun H1 _ s1 => sqT_of (s1 _ _ hb)) (fun _ _ _ _ h _ => h) (fun _ => rfl) (fun i x H1 hx _ s1 => ?_) (fun H1 ys _ s1 l3 e3 q1 => ?_)
          · obtain ⟨e, he, hx⟩ := hs.at i x hx
            obtain ⟨u, hu, eu⟩ := evVs_at hv i e he
            exact ⟨e, u, hx.on (tupS_of s1), Nat.le_trans (levE_at he) hl, Nat.le_trans (widE_at he) w1.2, evV_same s1 e u eu, fun H2 s2 => ⟨trivial, s2, hu⟩⟩
          · have ey : ys = vs := by
              refine List.ext_getElem? fun i => ?_
              cases hy : ys[i]? with
              | none =>
                rw [List.getElem?_eq_none_iff] at hy
                rw [List.getElem?_eq_none (by omega)]
              | some y => exact (q1 i y hy).symm
            subst ey
            exact ⟨_, v, e3, applyV_same s1 ev, fun H2 s2 => q _ (s1.trans s2)⟩
    · exact h.elim
theorem ok_vof (T : Top K mg) : ∀ n : Nat, Ok_value_of P w base T (n + 3) (sp_vof n)
  | 0 => step_vof T 0 2 (by omega) (fun _ _ _ _ => False) fn_no (fun m e => by omega)
  | n + 1 => step_vof T (n + 1) (n + 3) (by omega) (sp_vof n) (ok_vof T n) (fun m e => by cases e; rfl)
/-! ### the class -/
def ObjE (K : PySem.W.Frag) (H : Hp) (x : Addr) (e : Ex) : Prop := ∃ dx t, H x = some (.ins (He.ga K "Expression") dx [("tree_form", t)]) ∧ ExV H t e
theorem ObjE.same {H H' : Hp} {x : Addr} {e : Ex} (h : ObjE K H x e) (s : Same H H') : ObjE K H' x e := by
  obtain ⟨dx, t, h1, h2⟩ := h
  exact ⟨dx, t, s _ _ h1, h2.on (tupS_of s)⟩
def sp_init (K : PySem.W.Frag) : Sp := fun vs H Q _ => match vs with
  | [.ref x, t] => ∃ dx, H x = some (.ins (He.ga K "Expression") dx []) ∧ Q .non (upd H x (.ins (He.ga K "Expression") dx [("tree_form", t)]))
  | _ => False
theorem ok_init (T : Top K mg) (k : Nat) : Ok_Expression___init__ P w base T (k + 1) (sp_init K) := by
  refine T.F_Expression___init__.ok sc_Expression___init__ (fun vs H Q E h => ?_) (fun cdv A outer s H vs Q E hr h => ⟨_, PSs.nox (pss_one (ps_fld (vr 0) (vr 1) (by rfl))), ?_⟩)
  · unfold sp_init at h
    split at h
    · rfl
    · exact h.elim
  · unfold sp_init at h
    split at h
    · obtain ⟨dx, hx, q⟩ := h
      rw [st_Expression___init__]
      exact ⟨_, _, dx, [], rfl, hx, T.cls_Expression, T.na_Expression_tree_form, by decide, q⟩
    · exact h.elim
def sp_eread (K : PySem.W.Frag) : Sp := fun vs H Q _ => match vs with
  | [c, .str z] => c = .ref (He.ga K "Expression") ∧ z.length ≤ 100000 ∧ ∃ e, parseE z.cps.toList = some e ∧ ∀ x H', Same H H' → H x = none → ObjE K H' x e → Q (.ref x) H'
  | _ => False
theorem ok_eread (T : Top K mg) (U : TopD K w) (k : Nat) : Ok_Expression_read P w base T (k + 21) (sp_eread K) := by
  have G_parse_expression : Ok_parse_expression P w base T 20 sp_parse := ok_parse T U 0
  have R_Expression___init__ := fnR_of (ok_init (P := P) (w := w) (base := base) T 0) (b_Expression___init__ T)
  refine T.F_Expression_read.ok sc_Expression_read (fun vs H Q E h => ?_) (fun cdv A outer s H vs Q E hr h => ⟨_, PSs.nox (pss_cons (ps_set (i := 2) sc_Expression_read.nd rfl (by first | exact .inl rfl | exact .inr rfl) (pe_call G_parse_expression (hr.mono (by omega)) (by rfl) T.g_parse_expression T.F_parse_expression.kp (b_parse_expression T) .nil pass0 (pa_cons (vr 1) pa_nil)))
      (pss_cons (sif (tcmp op_isNo (vr 2) pe_non (nomark _)) (pss_one ps_never) pss_nil)
      (pss_one (ps_ret (pe_makeL (i := 0) rfl (by first | exact Or.inl rfl | exact Or.inr (Or.inl rfl) | exact Or.inr (Or.inr rfl)) T.mk_Expression R_Expression___init__ (hr.mono (by omega)) pass0 (pa_cons (vr 2) pa_nil)))))), ?_⟩)
  · unfold sp_eread at h
    split at h
    · rfl
    · exact h.elim
  · unfold sp_eread at h
    split at h
    · obtain ⟨rfl, hz, e, he, q⟩ := h
      rename_i z
      rw [st_Expression_read]
      refine ⟨hz, fun v H1 s1 hv => ?_⟩
      rw [he] at hv
      have hv : ExV H1 v e := hv
      have ne : ∃ a, v = .ref a := by cases hv <;> exact ⟨_, rfl⟩
      obtain ⟨a, rfl⟩ := ne
      refine ⟨rfl, fun x dx nx ndx nxd => ⟨dx, upd_same, rfl, ?_⟩⟩
      have s2 : Same H1 (upd (upd (upd H1 dx (.own x)) x (.ins (He.ga K "Expression") dx [])) x (.ins (He.ga K "Expression") dx [("tree_form", .ref a)])) := fun b o hb => by
        have n1 := ne_of_none hb nx
        rw [upd_ne n1, upd_ne n1, upd_ne (ne_of_none hb ndx)]
        exact hb
      exact q x _ (s1.trans s2) (s1.free nx) ⟨dx, _, upd_same, hv.on (tupS_of s2)⟩
    · exact h.elim
def sp_ecall (K : PySem.W.Frag) : Sp := fun vs H Q _ => match vs with
  | [.ref x, env] => ∃ e v, ObjE K H x e ∧ e.lev ≤ 8 ∧ e.wid ≤ 1000 ∧ evV H env e = some v ∧ ∀ H', Same H H' → Q v H'
  | _ => False
theorem ok_ecall (T : Top K mg) (k : Nat) : Ok_Expression___call__ P w base T (k + 12) (sp_ecall K) := by
  have G_value_of : Ok_value_of P w base T 11 (sp_vof 8) := ok_vof T 8
  refine T.F_Expression___call__.ok sc_Expression___call__ (fun vs H Q E h => ?_) (fun cdv A outer s H vs Q E hr h => ⟨_, PSs.nox (pss_one (ps_ret (pe_call G_value_of (hr.mono (by omega)) (by rfl) T.g_value_of T.F_value_of.kp (b_value_of T) .nil pass0 (pa_cons (pe_fld (vr 0) (by rfl)) (pa_cons (vr 1) pa_nil))))), ?_⟩)
  · unfold sp_ecall at h
    split at h
    · rfl
    · exact h.elim
  · unfold sp_ecall at h
    split at h
    · obtain ⟨e, v, ⟨dx, t, hx, ht⟩, hl, hw, ev, q⟩ := h
      rw [st_Expression___call__]
      exact ⟨_, _, dx, _, t, rfl, hx, T.cls_Expression, T.na_Expression_tree_form, rfl, e, v, ht, hl, hw, ev, q⟩
    · exact h.elim
end
end Sk
namespace Sk
open PySem PySem.Spec PyProof.Rows L2
section
variable {P : Program} {w : World} {K : PySem.W.Frag} {mg : Str → Option Value} {base : Heap}
/-! ### _law_chars -/
def menuC : List V := [.str "", .str "a", .str "A b", .str "<", .str "&", .str "&lt;", .str "\"", .str "~", .str "/", .str "?a=1;", .str "\\", .str "\n", .str "{x}", .str "}"] ++ [.str "</p>", .str "'", .str "data", .str "0", .str "-7"]
theorem menuC_ok : ∀ x ∈ menuC, ∃ z, x = .str z ∧ TextOk 5 z := all_okT (by decide +kernel)
theorem signs_ok : ∀ c ∈ (Str.ofString "ab <>&\"~/;=.-_Z9{}\\\n").cps.toList, okc c = true := List.all_eq_true.mp (by decide +kernel)
theorem signs_len : (Str.ofString "ab <>&\"~/;=.-_Z9{}\\\n").cps.toList.length = 20 := by decide +kernel
def sp_chars : Sp := fun vs H Q _ => match vs with
  | [.ref a] => Pool H a ∧ ∀ (z : Str) (H' : Hp), TextOk 10 z → Pool H' a → Keep a H H' → Q (.str z) H'
  | _ => False
theorem ok_chars (T : Top K mg) (k : Nat) : Ok__law_chars P w base T (k + 2) sp_chars := by
  have G__law_draw : Ok__law_draw P w base T 1 sp_draw := ok_draw T 0
  refine T.F__law_chars.ok sc__law_chars (fun vs H Q E h => ?_) (fun cdv A outer s H vs Q E hr h => ⟨_, PSs.nox (pss_cons (ps_set (i := 1) sc__law_chars.nd rfl (by first | exact .inl rfl | exact .inr rfl) (pe_lst (pa_cons pe_str (pa_cons pe_str (pa_cons pe_str (pa_cons pe_str (pa_cons pe_str (pa_cons pe_str (pa_cons pe_str (pa_cons pe_str (pa_cons pe_str (pa_cons pe_str (pa_cons pe_str (pa_cons pe_str (pa_cons pe_str (pa_cons pe_str pa_nil))))))))))))))))
      (pss_cons (ps_set (i := 1) sc__law_chars.nd rfl (by first | exact .inl rfl | exact .inr rfl) (pe_op (kplus K) (vr 1) (pe_lst (pa_cons pe_str (pa_cons pe_str (pa_cons pe_str (pa_cons pe_str (pa_cons pe_str pa_nil))))))))
      (pss_cons (ps_set (i := 2) sc__law_chars.nd rfl (by first | exact .inl rfl | exact .inr rfl) (pe_call G__law_draw (hr.mono (by omega)) (by rfl) T.g__law_draw T.F__law_draw.kp (b__law_draw T) .nil pass0 (pa_cons (vr 0) (pa_cons pe_int pa_nil))))
      (pss_cons (sif (tcmp (ksame K hr.units) (vr 2) pe_int (nomark _)) (pss_one (ps_ret (pe_ix (kget K) (vr 1) (pe_call G__law_draw (hr.mono (by omega)) (by rfl) T.g__law_draw T.F__law_draw.kp (b__law_draw T) .nil pass0 (pa_cons (vr 0) (pa_cons pe_int pa_nil))) (fun _ _ => rfl)))) pss_nil)
      (pss_cons (sif (tcmp (ksame K hr.units) (vr 2) pe_int (nomark _)) (pss_one (ps_ret (pe_op (kplus K) (pe_ix (kget K) (vr 1) (pe_call G__law_draw (hr.mono (by omega)) (by rfl) T.g__law_draw T.F__law_draw.kp (b__law_draw T) .nil pass0 (pa_cons (vr 0) (pa_cons pe_int pa_nil))) (fun _ _ => rfl)) (pe_ix (kget K) (vr 1) (pe_call G__law_draw (hr.mono (by omega)) (by rfl) T.g__law_draw T.F__law_draw.kp (b__law_draw T) .nil pass0 (pa_cons (vr 0) (pa_cons pe_int pa_nil))) (fun _ _ => rfl))))) pss_nil)
      (pss_cons (ps_set (i := 3) sc__law_chars.nd rfl (by first | exact .inl rfl | exact .inr rfl) pe_str)
      (pss_one (ps_ret (kjoin K pe_str (pe_lc (own := [("_law_k", 4)])  rfl sc__law_chars.nd (pi_range1 (by rfl) T.n_range (pa_cons (pe_call G__law_draw (hr.mono (by omega)) (by rfl) T.g__law_draw T.F__law_draw.kp (b__law_draw T) .nil pass0 (pa_cons (vr 0) (pa_cons pe_int pa_nil))) pa_nil)) (blkOk_by (own := [("_law_k", 4)]) (N := ["_law_pool_here", "_law_menu", "_law_way", "_law_signs", "_law_k"]) (sc := defScope s__law_chars) (by decide +kernel)) (fun _ _ _ _ _ => (pg_name (i := 4) sc__law_chars.nd rfl (by first | exact .inl rfl | exact .inr rfl))) (fun _ _ _ _ _ => pts_nil) (fun _ _ _ _ _ => up (pe_ix (kget K) (vr 3) (pe_call G__law_draw (hr.mono (by omega)) (by rfl) T.g__law_draw T.F__law_draw.kp (b__law_draw T) .nil pass0 (pa_cons (vr 0) (pa_cons pe_int pa_nil))) (fun _ _ => rfl))))))))))))), ?_⟩)
  · unfold sp_chars at h
    split at h
    · rfl
    · exact h.elim
  · unfold sp_chars at h
    split at h
    · obtain ⟨hp, q⟩ := h
      rename_i a
      refine ⟨Nat.le_of_ble_eq_true rfl, fun p np => ?_⟩
      have nea := hp.ne np
      refine ⟨Nat.le_of_ble_eq_true rfl, fun p2 np2 => ?_⟩
      have ne2 := (upd_none np2).1
      refine .inl ⟨p, p2, _, _, rfl, rfl, (upd_ne ne2.symm).trans upd_same, upd_same, Nat.le_of_ble_eq_true rfl, fun m nm => ?_⟩
      have nem : m ≠ a := fun z => by
        have := (upd_none (upd_none nm).2).2
        rw [z] at this
        exact hp.ne this rfl
      have s0 : Same H (upd (upd (upd H p _) p2 _) m (.lst menuC)) := ((same_new np).trans (same_new np2)).trans (same_new nm)
      have item : ∀ (H2 : Hp) (i : Int) (R : V → Prop), H2 m = some (.lst menuC) → 0 ≤ i → i < 19 → (∀ z, TextOk 5 z → R (.str z)) → ∃ xs v, (SqL K H2 m xs ∨ SqT K H2 m xs) ∧ atI xs i = some v ∧ R v := fun H2 i R hm h0 h1 hR => by
        obtain ⟨v, ev, z, rfl, tz⟩ := atI_all (xs := menuC) _ h0 h1 menuC_ok
        exact ⟨_, _, .inl (sqL_of hm), ev, hR z tz⟩
      refine ⟨hp.same s0, by decide, by decide, fun i1 H1 h0 h1 p1 k1 => ?_⟩
      have m1 : H1 m = some (.lst menuC) := k1 m _ nem upd_same
      have k1 : Keep a H H1 := (keep_of s0).trans k1
      refine br2 (fun e => ?_) (fun e => ?_)
      · refine ⟨p1, by decide, by decide, fun i2 H2 h2 h3 p2 k2 => ?_⟩
        exact item H2 i2 (fun v => Q v H2) (k2 m _ nem m1) h2 h3 fun z tz => q z H2 (tz.mono (by decide)) p2 (k1.trans k2)
      refine br2 (fun e => ?_) (fun e => ?_)
      · refine ⟨p1, by decide, by decide, fun i2 H2 h2 h3 p2 k2 => ?_⟩
        have m2 := k2 m _ nem m1
        refine item H2 i2 _ m2 h2 h3 fun z tz => ?_
        refine ⟨p2, by decide, by decide, fun i3 H3 h4 h5 p3 k3 => ?_⟩
        refine item H3 i3 _ (k3 m _ nem m2) h4 h5 fun y ty => ?_
        have t := tz.app ty
        exact ⟨by have := tz.1; have := ty.1; exact size_le (by omega), q _ _ t p3 ((k1.trans k2).trans k3)⟩
      · refine ⟨p1, by decide, by decide, fun i2 H2 h2 h3 p2 k2 => ?_⟩
        refine ⟨i2, rfl, by omega, by omega, fun D nD => ?_⟩
        refine lcr (fr_keep (p2.ne nD)) (fun _ v _ => ∃ z, v = .str z ∧ TextOk 1 z) p2 nD (by omega) (fun _ _ _ _ h _ => h) (fun _ => rfl) (fun i H3 hi p3 k3 => ?_) (fun H3 ys p3 k3 l3 e3 q3 => ?_)
        · refine ⟨p3, by decide, by decide, fun i4 H4 h6 h7 p4 k4 => ?_⟩
          obtain ⟨c, ec, oc⟩ := atI_all (xs := (Str.ofString "ab <>&\"~/;=.-_Z9{}\\\n").cps.toList) (i := i4) _ h6 (by rw [signs_len]; exact h7) signs_ok
          refine ⟨by decide +kernel, c, ec, p4, k4, _, rfl, Nat.le_refl 1, fun c' hc' => ?_⟩
          have : c' = c := by simpa using hc'
          rw [this]
          exact oc
        · obtain ⟨zs, hz, tz⟩ := strs_of q3
          subst hz
          have hs : ((zs.map (·.length)).sum) ≤ zs.length := sum_le1 fun z hz => (tz z hz).1
          have hl : zs.length ≤ 8 := by
            rw [List.length_map] at l3
            omega
          refine ⟨zs, .inl (sqL_of e3), ?_, ?_⟩
          · show _ + zs.length * 0 ≤ 16777216
            omega
          · refine q _ _ ?_ p3 ((k1.trans k2).trans k3)
            exact (join_ok (by rfl) tz).mono (by omega)
    · exact h.elim
end
end Sk
namespace Sk
open PySem PySem.Spec PyProof.Rows L2
section
variable {P : Program} {w : World} {K : PySem.W.Frag} {mg : Str → Option Value} {base : Heap}
/-! ### _law_number -/
def sp_num : Sp := fun vs H Q _ => match vs with
  | [.ref a] => Pool H a ∧ ∀ (i : Int) (H' : Hp), i.natAbs ≤ 10 ^ 29 → Pool H' a → Keep a H H' → Q (.int i) H'
  | _ => False
theorem ok_num (T : Top K mg) (k : Nat) : Ok__law_number P w base T (k + 2) sp_num := by
  have G__law_draw : Ok__law_draw P w base T 1 sp_draw := ok_draw T 0
  refine T.F__law_number.ok sc__law_number (fun vs H Q E h => ?_) (fun cdv A outer s H vs Q E hr h => ⟨_, PSs.nox (pss_one (ps_ret (pe_ix (kget K) (pe_lst (pa_cons (pe_call G__law_draw (hr.mono (by omega)) (by rfl) T.g__law_draw T.F__law_draw.kp (b__law_draw T) .nil pass0 (pa_cons (vr 0) (pa_cons pe_int pa_nil))) (pa_cons (pe_un un_negU (pe_call G__law_draw (hr.mono (by omega)) (by rfl) T.g__law_draw T.F__law_draw.kp (b__law_draw T) .nil pass0 (pa_cons (vr 0) (pa_cons pe_int pa_nil)))) (pa_cons (pe_op (kplus K) (pe_op op_powI pe_int pe_int) (pe_call G__law_draw (hr.mono (by omega)) (by rfl) T.g__law_draw T.F__law_draw.kp (b__law_draw T) .nil pass0 (pa_cons (vr 0) (pa_cons pe_int pa_nil)))) (pa_cons (pe_op op_minus pe_int (pe_op op_powI pe_int pe_int)) pa_nil))))) (pe_call G__law_draw (hr.mono (by omega)) (by rfl) T.g__law_draw T.F__law_draw.kp (b__law_draw T) .nil pass0 (pa_cons (vr 0) (pa_cons pe_int pa_nil))) (fun _ _ => rfl)))), ?_⟩)
  · unfold sp_num at h
    split at h
    · rfl
    · exact h.elim
  · unfold sp_num at h
    split at h
    · obtain ⟨hp, q⟩ := h
      rename_i a
      rw [st__law_number]
      refine ⟨hp, by decide, by decide, fun i1 H1 a1 b1 p1 k1 => ⟨p1, by decide, by decide, fun i2 H2 a2 b2 p2 k2 => ⟨⟨by decide, by decide, by decide⟩, p2, by decide, by decide, fun i3 H3 a3 b3 p3 k3 => ⟨⟨by decide, by decide, by decide⟩, Nat.le_of_ble_eq_true rfl, fun l nl => ?_⟩⟩⟩⟩
      have nea := p3.ne nl
      refine ⟨p3.new nea, by decide, by decide, fun i4 H4 a4 b4 p4 k4 => ?_⟩
      have hl := k4 l _ nea upd_same
      have k : Keep a H H4 := (((k1.trans k2).trans k3).trans (keep_of (same_new nl))).trans k4
      have big : ((10 : Int) ^ (28 : Int).toNat) = 10000000000000000000000000000 := by decide
      have b10 : (10 : Nat) ^ 29 = 100000000000000000000000000000 := by decide
      have fin : ∀ v : Int, v.natAbs ≤ 10 ^ 29 → Q (.int v) H4 := fun v hv => q v H4 hv p4 k
      have cases4 : i4 = 0 ∨ i4 = 1 ∨ i4 = 2 ∨ i4 = 3 := by omega
      rcases cases4 with rfl | rfl | rfl | rfl
      · exact ⟨_, _, .inl (sqL_of hl), rfl, fin _ (by omega)⟩
      · exact ⟨_, _, .inl (sqL_of hl), rfl, fin _ (by omega)⟩
      · exact ⟨_, _, .inl (sqL_of hl), rfl, fin _ (by rw [big]; omega)⟩
      · exact ⟨_, _, .inl (sqL_of hl), rfl, fin _ (by rw [big]; omega)⟩
    · exact h.elim
/-! ### _law_two_right -/
abbrev OkG_two (P : Program) (w : World) (base : Heap) (T : Top K mg) (k : Nat) (sp : Sp) : Prop := FnG P w K mg base k (He.ga K "_law_two_right") T.fd__law_two_right ["_law_m", "_law_n", "_law_s", "_law_t"] sp
def sp_two : Sp := fun vs H Q _ => match vs with
  | [.int m, .int n, .str s, .str t] => m.natAbs ≤ 10 ^ 29 ∧ n.natAbs ≤ 10 ^ 29 ∧ TextOk 10 s ∧ TextOk 10 t ∧ ∀ H', Same H H' → Q (.bl true) H'
  | _ => False
theorem ok_two (T : Top K mg) (U : TopD K w) (k : Nat) : OkG_two P w base T (k + 22) sp_two := by
  have R_Expression_read := fnR_of (ok_eread (P := P) (w := w) (base := base) T U 0) (b_Expression_read T)
  have R_Expression___call__ := fnR_of (ok_ecall (P := P) (w := w) (base := base) T 0) (b_Expression___call__ T)
  refine fnG_of T.F__law_two_right sc__law_two_right (fun vs H Q E h => ?_) (fun cdv A outer s H vs Q E gd hr h => ⟨_, (pss_cons (ps_set (i := 4) sc__law_two_right.nd rfl (by first | exact .inl rfl | exact .inr rfl) (pe_disp (pps_cons pe_str (vr 0) (pps_cons pe_str (vr 1) (pps_cons pe_str (vr 2) (pps_cons pe_str (vr 3) (pps_cons pe_str pe_non (pps_cons pe_str (pe_disp (pps_cons pe_str pe_non (pps_cons pe_str (vr 0) pps_nil)) (by rfl) (by rfl) (fun z => by cases z) (by decide)) pps_nil)))))) (by rfl) (by rfl) (fun z => by cases z) (by decide)))
      (pss_cons (ps_set (i := 5) sc__law_two_right.nd rfl (by first | exact .inl rfl | exact .inr rfl) (pe_lst (pa_prs (ppr_cons pe_str (pe_cmpR (ksame K hr.units) (vr 0) (vr 1) (nomark _)) (ppr_cons pe_str (pe_cmpR (ksame K hr.units) (vr 2) (vr 3) (nomark _)) (ppr_cons pe_str (pe_cmpR op_ltI (vr 0) (vr 1) (nomark _)) (ppr_cons pe_str (pe_cmpR op_ltI (vr 1) (vr 0) (nomark _)) PPr.nil)))))))
      (pss_cons (ps_set (i := 5) sc__law_two_right.nd rfl (by first | exact .inl rfl | exact .inr rfl) (pe_op (kplus K) (vr 5) (pe_lst (pa_prs (ppr_cons pe_str (vnot (pe_cmpR op_ltI (vr 0) (vr 1) (nomark _))) (ppr_cons pe_str (vand (pe_cmpR op_ltI (vr 0) (vr 1) (nomark _)) (pe_one (pe_cmpR (ksame K hr.units) (vr 2) (vr 3) (nomark _)))) PPr.nil))))))
      (pss_cons (ps_set (i := 5) sc__law_two_right.nd rfl (by first | exact .inl rfl | exact .inr rfl) (pe_op (kplus K) (vr 5) (pe_lst (pa_prs (ppr_cons pe_str (vor (pe_cmpR op_ltI (vr 0) (vr 1) (nomark _)) (pe_one (pe_cmpR (ksame K hr.units) (vr 2) (vr 3) (nomark _)))) (ppr_cons pe_str (pe_op (kplus K) (vr 0) (vr 1)) (ppr_cons pe_str (vr 0) PPr.nil)))))))
      (pss_cons (ps_set (i := 5) sc__law_two_right.nd rfl (by first | exact .inl rfl | exact .inr rfl) (pe_op (kplus K) (vr 5) (pe_lst (pa_prs (ppr_cons pe_str (pe_op op_minus (pe_op (kplus K) (pe_op (kplus K) (vr 0) (vr 1)) (vr 0)) pe_int) (ppr_cons pe_str (pe_op (kplus K) (vr 2) (vr 3)) (ppr_cons pe_str (pe_callTy call_strU (by rfl) T.n_str (by decide +kernel) (pa_cons (vr 0) pa_nil)) PPr.nil)))))))
      (pss_cons (ps_set (i := 5) sc__law_two_right.nd rfl (by first | exact .inl rfl | exact .inr rfl) (pe_op (kplus K) (vr 5) (pe_lst (pa_prs (ppr_cons pe_str (pe_op (kplus K) (pe_op (kplus K) (pe_op (kplus K) (pe_op (kplus K) (pe_op (kplus K) pe_str (pe_callTy call_strU (by rfl) T.n_str (by decide +kernel) (pa_cons (vr 0) pa_nil))) pe_str) (vr 2)) (pe_callTy call_strU (by rfl) T.n_str (by decide +kernel) (pa_cons (vr 1) pa_nil))) pe_str) (ppr_cons pe_str (vr 2) PPr.nil))))))
      (pss_cons (ps_set (i := 5) sc__law_two_right.nd rfl (by first | exact .inl rfl | exact .inr rfl) (pe_op (kplus K) (vr 5) (pe_lst (pa_prs (ppr_cons pe_str pe_bl (ppr_cons pe_str pe_bl (ppr_cons pe_str (vr 0) (ppr_cons pe_str (vr 2) (ppr_cons pe_str (vr 0) PPr.nil)))))))))
      (pss_cons (ps_set (i := 5) sc__law_two_right.nd rfl (by first | exact .inl rfl | exact .inr rfl) (pe_op (kplus K) (vr 5) (pe_lst (pa_prs (ppr_cons pe_str (pe_op (kplus K) (vr 3) (vr 2)) (ppr_cons pe_str pe_bl (ppr_cons pe_str pe_bl PPr.nil)))))))
      (pss_cons (ps_set (i := 5) sc__law_two_right.nd rfl (by first | exact .inl rfl | exact .inr rfl) (pe_op (kplus K) (vr 5) (pe_lst (pa_prs (ppr_cons pe_str pe_bl (ppr_cons pe_str pe_bl (ppr_cons pe_str (pe_cmpR op_ltI (vr 0) (vr 1) (nomark _)) PPr.nil)))))))
      (pss_cons (ps_setLc (i := 6) (own := [("_law_row", 7), ("_law_due", 8)])  rfl sc__law_two_right.nd rfl rfl (sw_true rfl rfl rfl (by decide +kernel)) (ilist K (vr 5)) (blkOk_by (own := [("_law_row", 7), ("_law_due", 8)]) (N := ["_law_m", "_law_n", "_law_s", "_law_t", "_law_env", "_law_rows", "_law_told", "_law_row", "_law_due"]) (sc := defScope s__law_two_right) (by decide +kernel)) (fun _ _ _ _ _ => (gtup K 2 rfl (gs_cons (pg_name (i := 7) sc__law_two_right.nd rfl (by first | exact .inl rfl | exact .inr rfl)) (gs_cons (pg_name (i := 8) sc__law_two_right.nd rfl (by first | exact .inl rfl | exact .inr rfl)) gs_nil)))) (fun _ _ _ _ _ => pts_nil) (fun _ _ _ _ _ => up (pe_callOU (ClX.pe_cmeth (pe_glob (v := .ref (He.ga K "Expression")) (by rfl) T.g_Expression rfl) T.cr_Expression T.cm_Expression_read R_Expression_read (hr.mono (by omega)) pass0 (pa_cons (vr 7) pa_nil)) T.co_Expression R_Expression___call__ (hr.mono (by omega)) (pa_cons (vr 4) pa_nil))))
      (pss_one (ps_ret (pe_cmpR (ksame K hr.units) (pe_callB (kreprL T.sys gd hr.units) (by rfl) T.n_repr (by decide +kernel) (pa_cons (vr 6) pa_nil)) (pe_callB (kreprL T.sys gd hr.units) (by rfl) T.n_repr (by decide +kernel) (pa_cons (pe_lc (own := [("_law_row", 7), ("_law_due", 8)])  rfl sc__law_two_right.nd (ilist K (vr 5)) (blkOk_by (own := [("_law_row", 7), ("_law_due", 8)]) (N := ["_law_m", "_law_n", "_law_s", "_law_t", "_law_env", "_law_rows", "_law_told", "_law_row", "_law_due"]) (sc := defScope s__law_two_right) (by decide +kernel)) (fun _ _ _ _ _ => (gtup K 2 rfl (gs_cons (pg_name (i := 7) sc__law_two_right.nd rfl (by first | exact .inl rfl | exact .inr rfl)) (gs_cons (pg_name (i := 8) sc__law_two_right.nd rfl (by first | exact .inl rfl | exact .inr rfl)) gs_nil)))) (fun _ _ _ _ _ => pts_nil) (fun _ _ _ _ _ => up (vr 8))) pa_nil)) (nomark _)))))))))))))), ?_⟩)
  · unfold sp_two at h
    split at h
    · rfl
    · exact h.elim
  · unfold sp_two at h
    split at h
    · obtain ⟨hm, hn, hs, ht, q⟩ := h
      rename_i m n s t
      rw [st__law_two_right]
      intro E nE R nR
      have nER : E ≠ R := fun z => by rw [z] at nR; rw [upd_same] at nR; cases nR
      refine ⟨upd_same, kvsR m, rfl, Nat.le_of_ble_eq_true rfl, (upd_ne nER).trans ((upd_ne nER).trans upd_same), kvsT m n s t R, rfl, Nat.le_of_ble_eq_true rfl, ?_⟩
      have G0 : EnvT (upd (upd (upd (upd H E (.dK [])) R (.dK [])) R (.dK (mergeK [] (kvsR m)))) E (.dK (mergeK [] (kvsT m n s t R)))) E m n s t := ⟨R, upd_same, (upd_ne nER.symm).trans upd_same⟩
      have S0 : Same H (upd (upd (upd (upd H E (.dK [])) R (.dK [])) R (.dK (mergeK [] (kvsR m)))) E (.dK (mergeK [] (kvsT m n s t R)))) := fun b o hb => by
        have n1 := ne_of_none hb nE
        have n2 := ne_of_none hb (upd_none nR).2
        rw [upd_ne n1, upd_ne n2, upd_ne n2, upd_ne n1]
        exact hb
      simp only [List.set_cons_succ, List.set_cons_zero]
      revert G0 S0
      generalize upd (upd (upd (upd H E (.dK [])) R (.dK [])) R (.dK (mergeK [] (kvsR m)))) E (.dK (mergeK [] (kvsT m n s t R))) = G
      intro G0 S0
      clear nE nR nER
      have lm := num_small hm
      have ln := num_small hn
      have qm := int_log (Nat.le_trans hm (by decide +kernel) : m.natAbs ≤ 10 ^ 30)
      have qn := int_log (Nat.le_trans hn (by decide +kernel) : n.natAbs ≤ 10 ^ 30)
      have ls := hs.1
      have lt := ht.1
      have lm1 := lm.1
      have ln1 := ln.1
      have lp : ("(" : Str).length = 1 := rfl
      have lc : (", " : Str).length = 2 := rfl
      have lq : (")" : Str).length = 1 := rfl
      cases hb : decide (m < n) <;> cases hc : decide (V.str s = V.str t)
      all_goals
        refine ⟨Same.refl _, fun A1 a1 => ⟨Same.refl _, fun A2 a2 => ⟨Same.refl _, fun A3 a3 => ⟨Same.refl _, fun A4 a4 vs0 pv0 => ⟨by rw [pv0.len]; exact Nat.le_of_ble_eq_true rfl, fun L0 nL0 => ?_⟩⟩⟩⟩⟩
        obtain ⟨S1, R1⟩ := rows_first (((a1.trans a2).trans a3).trans a4) pv0 nL0
        simp only [List.set_cons_succ, List.set_cons_zero]
        revert S1 R1
        generalize upd A4 L0 (.lst vs0) = G1
        intro S1 R1
        clear nL0 pv0 a1 a2 a3 a4
        refine ⟨Same.refl _, fun A1 a1 => ?_⟩
        first
        | refine brT hb ⟨Same.refl _, fun A2 a2 vs1 pv1 => ⟨by rw [pv1.len]; exact Nat.le_of_ble_eq_true rfl, fun q1 nq1 => ?_⟩⟩
        | refine brF hb ⟨Same.refl _, fun A2 a2 vs1 pv1 => ⟨by rw [pv1.len]; exact Nat.le_of_ble_eq_true rfl, fun q1 nq1 => ?_⟩⟩
        obtain ⟨xs1, x1, y1, z1, n1⟩ := rows_cat R1 (a1.trans a2) pv1 nq1 (Nat.le_of_ble_eq_true rfl)
        refine .inl ⟨L0, q1, xs1, vs1, rfl, rfl, x1, y1, z1, fun L1 nL1 => ?_⟩
        obtain ⟨S2, R2⟩ := n1 L1 nL1
        simp only [List.set_cons_succ, List.set_cons_zero]
        revert S2 R2
        generalize upd (upd A2 q1 (.lst vs1)) L1 (.lst (xs1 ++ vs1)) = G2
        intro S2 R2
        clear n1 x1 y1 z1 nq1 pv1 a1 a2 nL1
        first
        | refine brT hb ⟨Same.refl _, fun A1 a1 => ⟨Same.refl _, fun A2 a2 => ⟨Same.refl _, fun A3 a3 vs2 pv2 => ⟨by rw [pv2.len]; exact Nat.le_of_ble_eq_true rfl, fun q2 nq2 => ?_⟩⟩⟩⟩
        | refine brF hb ⟨Same.refl _, fun A1 a1 => ⟨Same.refl _, fun A2 a2 => ⟨Same.refl _, fun A3 a3 vs2 pv2 => ⟨by rw [pv2.len]; exact Nat.le_of_ble_eq_true rfl, fun q2 nq2 => ?_⟩⟩⟩⟩
        obtain ⟨xs2, x2, y2, z2, n2⟩ := rows_cat R2 ((a1.trans a2).trans a3) pv2 nq2 (Nat.le_of_ble_eq_true rfl)
        refine .inl ⟨L1, q2, xs2, vs2, rfl, rfl, x2, y2, z2, fun L2 nL2 => ?_⟩
        obtain ⟨S3, R3⟩ := n2 L2 nL2
        simp only [List.set_cons_succ, List.set_cons_zero]
        revert S3 R3
        generalize upd (upd A3 q2 (.lst vs2)) L2 (.lst (xs2 ++ vs2)) = G3
        intro S3 R3
        clear n2 x2 y2 z2 nq2 pv2 a1 a2 a3 nL2
        refine ⟨Same.refl _, fun A1 a1 => ⟨size_le (by omega), Same.refl _, fun A2 a2 => ⟨qm, Same.refl _, fun A3 a3 vs3 pv3 => ⟨by rw [pv3.len]; exact Nat.le_of_ble_eq_true rfl, fun q3 nq3 => ?_⟩⟩⟩⟩
        obtain ⟨xs3, x3, y3, z3, n3⟩ := rows_cat R3 ((a1.trans a2).trans a3) pv3 nq3 (Nat.le_of_ble_eq_true rfl)
        refine .inl ⟨L2, q3, xs3, vs3, rfl, rfl, x3, y3, z3, fun L3 nL3 => ?_⟩
        obtain ⟨S4, R4⟩ := n3 L3 nL3
        simp only [List.set_cons_succ, List.set_cons_zero]
        revert S4 R4
        generalize upd (upd A3 q3 (.lst vs3)) L3 (.lst (xs3 ++ vs3)) = G4
        intro S4 R4
        clear n3 x3 y3 z3 nq3 pv3 a1 a2 a3 nL3
        refine ⟨qm, size_le (by omega), size_le (by rw [app_len]; omega), size_le (by rw [app_len, app_len]; omega), qn, size_le (by rw [app_len, app_len, app_len]; omega), size_le (by rw [app_len, app_len, app_len, app_len]; omega), Same.refl _, fun A1 a1 => ⟨Same.refl _, fun A2 a2 vs4 pv4 => ⟨by rw [pv4.len]; exact Nat.le_of_ble_eq_true rfl, fun q4 nq4 => ?_⟩⟩⟩
        obtain ⟨xs4, x4, y4, z4, n4⟩ := rows_cat R4 (a1.trans a2) pv4 nq4 (Nat.le_of_ble_eq_true rfl)
        refine .inl ⟨L3, q4, xs4, vs4, rfl, rfl, x4, y4, z4, fun L4 nL4 => ?_⟩
        obtain ⟨S5, R5⟩ := n4 L4 nL4
        simp only [List.set_cons_succ, List.set_cons_zero]
        revert S5 R5
        generalize upd (upd A2 q4 (.lst vs4)) L4 (.lst (xs4 ++ vs4)) = G5
        intro S5 R5
        clear n4 x4 y4 z4 nq4 pv4 a1 a2 nL4
        refine ⟨Same.refl _, fun A1 a1 => ⟨Same.refl _, fun A2 a2 => ⟨Same.refl _, fun A3 a3 => ⟨Same.refl _, fun A4 a4 => ⟨Same.refl _, fun A5 a5 vs5 pv5 => ⟨by rw [pv5.len]; exact Nat.le_of_ble_eq_true rfl, fun q5 nq5 => ?_⟩⟩⟩⟩⟩⟩
        obtain ⟨xs5, x5, y5, z5, n5⟩ := rows_cat R5 ((((a1.trans a2).trans a3).trans a4).trans a5) pv5 nq5 (Nat.le_of_ble_eq_true rfl)
        refine .inl ⟨L4, q5, xs5, vs5, rfl, rfl, x5, y5, z5, fun L5 nL5 => ?_⟩
        obtain ⟨S6, R6⟩ := n5 L5 nL5
        simp only [List.set_cons_succ, List.set_cons_zero]
        revert S6 R6
        generalize upd (upd A5 q5 (.lst vs5)) L5 (.lst (xs5 ++ vs5)) = G6
        intro S6 R6
        clear n5 x5 y5 z5 nq5 pv5 a1 a2 a3 a4 a5 nL5
        refine ⟨size_le (by omega), Same.refl _, fun A1 a1 => ⟨Same.refl _, fun A2 a2 => ⟨Same.refl _, fun A3 a3 vs6 pv6 => ⟨by rw [pv6.len]; exact Nat.le_of_ble_eq_true rfl, fun q6 nq6 => ?_⟩⟩⟩⟩
        obtain ⟨xs6, x6, y6, z6, n6⟩ := rows_cat R6 ((a1.trans a2).trans a3) pv6 nq6 (Nat.le_of_ble_eq_true rfl)
        refine .inl ⟨L5, q6, xs6, vs6, rfl, rfl, x6, y6, z6, fun L6 nL6 => ?_⟩
        obtain ⟨S7, R7⟩ := n6 L6 nL6
        simp only [List.set_cons_succ, List.set_cons_zero]
        revert S7 R7
        generalize upd (upd A3 q6 (.lst vs6)) L6 (.lst (xs6 ++ vs6)) = G7
        intro S7 R7
        clear n6 x6 y6 z6 nq6 pv6 a1 a2 a3 nL6
        refine ⟨Same.refl _, fun A1 a1 => ⟨Same.refl _, fun A2 a2 => ⟨Same.refl _, fun A3 a3 vs7 pv7 => ⟨by rw [pv7.len]; exact Nat.le_of_ble_eq_true rfl, fun q7 nq7 => ?_⟩⟩⟩⟩
        obtain ⟨xs7, x7, y7, z7, n7⟩ := rows_cat R7 ((a1.trans a2).trans a3) pv7 nq7 (Nat.le_of_ble_eq_true rfl)
        refine .inl ⟨L6, q7, xs7, vs7, rfl, rfl, x7, y7, z7, fun L7 nL7 => ?_⟩
        obtain ⟨S8, R8⟩ := n7 L7 nL7
        simp only [List.set_cons_succ, List.set_cons_zero]
        revert S8 R8
        generalize upd (upd A3 q7 (.lst vs7)) L7 (.lst (xs7 ++ vs7)) = G8
        intro S8 R8
        clear n7 x7 y7 z7 nq7 pv7 a1 a2 a3 nL7 R1 R2 R3 R4 R5 R6 R7
        have SG : Same G G8 := ((((((S1.trans S2).trans S3).trans S4).trans S5).trans S6).trans S7).trans S8
        have SH := S0.trans SG
        have G := G0.same SG
        clear S1 S2 S3 S4 S5 S6 S7 S8 SG
        have bm : m.natAbs ≤ 10 ^ 30 := Nat.le_trans hm (by decide +kernel)
        have b29 : (10 : Nat) ^ 29 = 100000000000000000000000000000 := by decide
        have b30 : (10 : Nat) ^ 30 = 1000000000000000000000000000000 := by decide
        have eM : evV G8 (.ref E) vM = some (.int m) := G.gM
        have eN : evV G8 (.ref E) vN = some (.int n) := G.gN
        have eS : evV G8 (.ref E) vS = some (.str s) := G.gS
        have eT : evV G8 (.ref E) vT = some (.str t) := G.gT
        have eO : evV G8 (.ref E) vO = some .non := G.gO
        have eRM : evV G8 (.ref E) (.get [[114], [109]]) = some (.int m) := G.gRM
        have eRO : evV G8 (.ref E) (.get [[114], [111]]) = some .non := G.gRO
        have eLess : evV G8 (.ref E) (.call "less" [vM, vN]) = some (.bl (decide (m < n))) := (ev2 eM eN).trans (ap_less m n)
        have eEq : evV G8 (.ref E) (.call "equal" [vS, vT]) = some (.bl (decide (V.str s = V.str t))) := (ev2 eS eT).trans (by rw [dS]; exact ap_eqS s t)
        have six : applyV G8 "joined" [.str (mkS [40]), .int m, .str (mkS [44, 32]), .str s, .int n, .str (mkS [41])] = some (.str ("(" ++ toString m ++ ", " ++ s ++ toString n ++ ")")) := by
          rw [ap_joined (zs := [mkS [40], Str.ofString (toString m), mkS [44, 32], s, Str.ofString (toString n), mkS [41]]) (by simp only [textsOf, text_m (H := G8) (env := .non) hm, text_m (H := G8) (env := .non) hn]; rfl) (Nat.ble_eq_true_of_le (by show (1 + ((Str.ofString (toString m)).length + (2 + (s.length + ((Str.ofString (toString n)).length + (1 + 0)))))) + 6 ≤ _; omega)), join_six]
          rfl
        have tSix : TextOk 190 ("(" ++ toString m ++ ", " ++ s ++ toString n ++ ")") := by
          have o1 : TextOk 1 "(" := ⟨by decide, List.all_eq_true.mp (by decide +kernel)⟩
          have o2 : TextOk 2 ", " := ⟨by decide, List.all_eq_true.mp (by decide +kernel)⟩
          have o3 : TextOk 1 ")" := ⟨by decide, List.all_eq_true.mp (by decide +kernel)⟩
          exact (((((o1.app lm).app o2).app hs).app ln).app o3).mono (by decide)
        have RO : RowsOk G8 (.ref E) (rsOf R8) _ :=
          .cons (row_bl (.call "equal" [vM, vN]) (by kernel_rfl) rfl rfl rfl ((ev2 eM eN).trans (by rw [dI]; exact ap_eqI m n)))
          (.cons (row_bl (.call "equal" [vS, vT]) (by kernel_rfl) rfl rfl rfl eEq)
          (.cons (row_bl (.call "less" [vM, vN]) (by kernel_rfl) rfl rfl rfl eLess)
          (.cons (row_bl (.call "less" [vN, vM]) (by kernel_rfl) rfl rfl rfl ((ev2 eN eM).trans (ap_less n m)))
          (.cons (row_bl (.call "not" [.call "less" [vM, vN]]) (by kernel_rfl) rfl rfl rfl ((ev1 eLess).trans (ap_not _)))
          (.cons (row_bl (.call "both" [.call "less" [vM, vN], .call "equal" [vS, vT]]) (by kernel_rfl) rfl rfl rfl ((ev2 eLess eEq).trans ((ap_both _ _).trans (by rw [hb]; rfl))))
          (.cons (row_bl (.call "either" [.call "less" [vM, vN], .call "equal" [vS, vT]]) (by kernel_rfl) rfl rfl rfl ((ev2 eLess eEq).trans ((ap_either _ _).trans (by rw [hb]; rfl))))
          (.cons (row_int (.call "sum" [vM, vN]) (by kernel_rfl) rfl rfl rfl ((ev2 eM eN).trans (ap_sum2 m n)) (by omega))
          (.cons (row_int (.call "sum" [vM]) (by kernel_rfl) rfl rfl rfl ((ev1 eM).trans (ap_sum1 m)) bm)
          (.cons (row_int (.call "sum" [vM, vN, vM, .num (-7)]) (by kernel_rfl) rfl rfl rfl ((ev4 eM eN eM rfl).trans (ap_sum4 m n m (-7))) (by omega))
          (.cons (row_str (.call "joined" [vS, vT]) (by kernel_rfl) rfl rfl rfl ((ev2 eS eT).trans (ap_join2 (by omega) (by omega))) ((hs.app ht).mono (by decide)))
          (.cons (row_str (.call "joined" [vM]) (by kernel_rfl) rfl rfl rfl ((ev1 eM).trans (by rw [ap_joined (zs := [Str.ofString (toString m)]) (by simp only [textsOf, text_m (H := G8) (env := .non) hm]) (Nat.ble_eq_true_of_le (by show (Str.ofString (toString m)).length + 0 + 1 ≤ _; omega)), join_one])) (lm.mono (by decide)))
          (.cons (row_str (.call "joined" [.text [40], vM, .text [44, 32], vS, vN, .text [41]]) (by kernel_rfl) rfl rfl rfl ((ev6 rfl eM rfl eS eN rfl).trans six) tSix)
          (.cons (row_str (.call "joined" [vS]) (by kernel_rfl) rfl rfl rfl ((ev1 eS).trans (ap_join1 (by omega))) (hs.mono (by decide)))
          (.cons (row_bl (.call "has" [vO]) (by kernel_rfl) rfl rfl rfl ((ev1 eO).trans rfl))
          (.cons (row_bl (.call "has" [vM]) (by kernel_rfl) rfl rfl rfl ((ev1 eM).trans rfl))
          (.cons (row_int (.call "or_else" [vO, vM]) (by kernel_rfl) rfl rfl rfl ((ev2 eO eM).trans rfl) bm)
          (.cons (row_str (.call "or_else" [vS, vT]) (by kernel_rfl) rfl rfl rfl ((ev2 eS eT).trans rfl) (hs.mono (by decide)))
          (.cons (row_int (.get [[114], [109]]) (by kernel_rfl) rfl rfl rfl eRM bm)
          (.cons (row_str (.call "or_else" [.get [[114], [111]], .call "joined" [vT, vS]]) (by kernel_rfl) rfl rfl rfl ((ev2 eRO ((ev2 eT eS).trans (ap_join2 (by omega) (by omega)))).trans rfl) ((ht.app hs).mono (by decide)))
          (.cons (row_bl (.call "has" [.get [[114], [111]]]) (by kernel_rfl) rfl rfl rfl ((ev1 eRO).trans rfl))
          (.cons (row_bl (.call "equal" [.call "sum" [vM, vN], .call "sum" [vN, vM]]) (by kernel_rfl) rfl rfl rfl ((ev2 ((ev2 eM eN).trans (ap_sum2 m n)) ((ev2 eN eM).trans (ap_sum2 n m))).trans ((ap_eqI _ _).trans (by rw [decide_eq_true (Int.add_comm m n)]))))
          (.cons (row_bl (.call "less" [.call "sum" [vM, .num 1], vM]) (by kernel_rfl) rfl rfl rfl ((ev2 ((ev2 eM rfl).trans (ap_sum2 m 1)) eM).trans ((ap_less _ _).trans (by rw [decide_eq_false (by omega)]))))
          (.cons (row_bl (.call "not" [.call "not" [.call "equal" [vS, vS]]]) (by kernel_rfl) rfl rfl rfl ((ev1 ((ev1 ((ev2 eS eS).trans (ap_eqS s s))).trans (ap_not _))).trans ((ap_not _).trans (by rw [decide_eq_true rfl]; rfl))))
          (.cons (row_bl (.call "equal" [.flag true, .call "less" [vM, vN]]) (by kernel_rfl) rfl rfl rfl ((ev2 rfl eLess).trans ((ap_eqB _ _).trans (by cases decide (m < n) <;> rfl))))
          .nil))))))))))))))))))))))))
        obtain ⟨rs, R8, ds, RO, lr⟩ : ∃ rs, RowsIn G8 L7 rs ∧ ∃ ds, RowsOk G8 (.ref E) rs ds ∧ rs.length ≤ 30 := ⟨_, R8, _, RO, Nat.le_of_ble_eq_true rfl⟩
        have ld := RO.len
        have sh := ShD.list (ShL.of RO.sh)
        have sw : ds.length * (2000 + 2) + 3 ≤ 100000 := by omega
        clear eM eN eS eT eO eRM eRO eLess eEq six tSix
        obtain ⟨us, hL, pu⟩ := R8
        have l8 := pu.len
        refine ⟨L7, rfl, ⟨_, sqL_of hL⟩, fun D nD => ?_⟩
        refine lcw (walk_list (xs := us)) fr_same (fun i v H' => ∃ d, ds[i]? = some d ∧ Dr H' v d) trivial nD (by omega) gm_tup2 (fun H1 _ s1 => sqL_of (s1 _ _ hL)) (fun i v H1 H2 h st => by
          obtain ⟨d, h1, h2⟩ := h
          exact ⟨d, h1, Dr.stay st h2⟩) (fun i x H1 H1' hi _ s1 hy => ?_) (fun H1 ys _ s1 l1 e1 q1 => ?_)
        · obtain ⟨rfl, hx⟩ := hy
          obtain ⟨a, p, rfl, hp, ha⟩ := pu.at i x hx
          obtain ⟨d, hd, z, e, v, e1, hz, pe, hl, hw, ev, dv, dp, _⟩ := RO.at i p hp
          obtain ⟨p1, p2⟩ := p
          have e1 : p1 = .str z := e1
          subst e1
          refine ⟨a, _, rfl, sqT_of (s1 _ _ ha), rfl, rfl, rfl, rfl, hz, e, pe, fun x H2 s2 nx ob => ?_⟩
          refine ⟨?_, e, v, ob, hl, hw, evV_same (s1.trans s2) e v ev, fun H3 s3 => ⟨trivial, s2.trans s3, d, hd, Dr.stay (stay_of ((s1.trans s2).trans s3)) dv⟩⟩
          obtain ⟨dx, t', hx', _⟩ := ob
          exact ⟨dx, _, hx'⟩
        · have dl1 : DL H1 (.ref D) (.list ds) := .lst e1 (dls_of (by omega) q1)
          simp only [List.set_cons_succ, List.set_cons_zero]
          refine ⟨.list ds, dl1, sh.1, size_le (Nat.le_trans sh.2.1 sw), Nat.le_trans sh.2.2 (by decide), ?_⟩
          refine ⟨L7, rfl, ⟨_, sqL_of (s1 _ _ hL)⟩, fun D2 nD2 => ?_⟩
          refine lcw (walk_list (xs := us)) fr_same (fun i v H' => ∃ d, ds[i]? = some d ∧ Dr H' v d) trivial nD2 (by omega) gm_tup2 (fun H2 _ s2 => sqL_of ((s1.trans s2) _ _ hL)) (fun i v H1 H2 h st => by
            obtain ⟨d, h1, h2⟩ := h
            exact ⟨d, h1, Dr.stay st h2⟩) (fun i x H2 H2' hi _ s2 hy => ?_) (fun H2 ys2 _ s2 l2 e2 q2 => ?_)
          · obtain ⟨rfl, hx⟩ := hy
            obtain ⟨a, p, rfl, hp, ha⟩ := pu.at i x hx
            obtain ⟨d, hd, z, e, v, e1, hz, pe, hl, hw, ev, dv, dp, _⟩ := RO.at i p hp
            refine ⟨a, _, rfl, sqT_of ((s1.trans s2) _ _ ha), rfl, rfl, trivial, Same.refl _, d, hd, Dr.stay (stay_of (s1.trans s2)) dp⟩
          · refine ⟨.list ds, .lst e2 (dls_of (by omega) q2), sh.1, size_le (Nat.le_trans sh.2.1 sw), Nat.le_trans sh.2.2 (by decide), ?_⟩
            have e3 : decide (V.str (PyData.shown (.list ds)) = V.str (PyData.shown (.list ds))) = true := decide_eq_true rfl
            have q3 := q H2 ((SH.trans s1).trans s2)
            rw [← e3] at q3
            exact q3
    · exact h.elim
end
end Sk
namespace Sk
open PySem PySem.Spec PyProof.Rows L2
section
variable {P : Program} {w : World} {K : PySem.W.Frag} {mg : Str → Option Value} {base : Heap}
abbrev OkG_lists (P : Program) (w : World) (base : Heap) (T : Top K mg) (k : Nat) (sp : Sp) : Prop := FnG P w K mg base k (He.ga K "_law_lists_right") T.fd__law_lists_right ["_law_pool_here"] sp
def sp_poolR : Sp := fun vs H Q _ => match vs with
  | [.ref a] => Pool H a ∧ ∀ H', Pool H' a → Keep a H H' → Q (.bl true) H'
  | _ => False
theorem ok_lists (T : Top K mg) (U : TopD K w) (k : Nat) : OkG_lists P w base T (k + 22) sp_poolR := by
  have G__law_draw : Ok__law_draw P w base T 1 sp_draw := ok_draw T 0
  have G__law_chars : Ok__law_chars P w base T 2 sp_chars := ok_chars T 0
  have R_Expression_read := fnR_of (ok_eread (P := P) (w := w) (base := base) T U 0) (b_Expression_read T)
  have R_Expression___call__ := fnR_of (ok_ecall (P := P) (w := w) (base := base) T 0) (b_Expression___call__ T)
  refine fnG_of T.F__law_lists_right sc__law_lists_right (fun vs H Q E h => ?_) (fun cdv A outer s H vs Q E gd hr h => ⟨_, (pss_cons (ps_set (i := 1) sc__law_lists_right.nd rfl (by first | exact .inl rfl | exact .inr rfl) (pe_callTy (ktup K) (by rfl) T.n_tuple (by decide +kernel) (pa_cons (pe_lc (own := [("_law_k", 6)])  rfl sc__law_lists_right.nd (pi_range1 (by rfl) T.n_range (pa_cons (pe_call G__law_draw (hr.mono (by omega)) (by rfl) T.g__law_draw T.F__law_draw.kp (b__law_draw T) .nil pass0 (pa_cons (vr 0) (pa_cons pe_int pa_nil))) pa_nil)) (blkOk_by (own := [("_law_k", 6)]) (N := ["_law_pool_here", "_law_row", "_law_env", "_law_rows", "_law_told", "_law_each", "_law_k", "_law_due"]) (sc := defScope s__law_lists_right) (by decide +kernel)) (fun _ _ _ _ _ => (pg_name (i := 6) sc__law_lists_right.nd rfl (by first | exact .inl rfl | exact .inr rfl))) (fun _ _ _ _ _ => pts_nil) (fun _ _ _ _ _ => up (pe_call G__law_chars (hr.mono (by omega)) (by rfl) T.g__law_chars T.F__law_chars.kp (b__law_chars T) .nil pass0 (pa_cons (vr 0) pa_nil)))) pa_nil)))
      (pss_cons (ps_set (i := 2) sc__law_lists_right.nd rfl (by first | exact .inl rfl | exact .inr rfl) (pe_disp (pps_cons pe_str (vr 1) (pps_cons pe_str pe_non (pps_cons pe_str (pe_tup pa_nil) (pps_cons pe_str (pe_disp (pps_cons pe_str (vr 1) pps_nil) (by rfl) (by rfl) (fun z => by cases z) (by decide)) pps_nil)))) (by rfl) (by rfl) (fun z => by cases z) (by decide)))
      (pss_cons (ps_set (i := 3) sc__law_lists_right.nd rfl (by first | exact .inl rfl | exact .inr rfl) (pe_lst (pa_prs (ppr_cons pe_str (pe_callB (klen K) (by rfl) T.n_len (by decide +kernel) (pa_cons (vr 1) pa_nil)) (ppr_cons pe_str pe_int (ppr_cons pe_str (pe_callB (klen K) (by rfl) T.n_len (by decide +kernel) (pa_cons (vr 1) pa_nil)) (ppr_cons pe_str (pe_callB (klen K) (by rfl) T.n_len (by decide +kernel) (pa_cons (vr 1) pa_nil)) PPr.nil)))))))
      (pss_cons (ps_set (i := 3) sc__law_lists_right.nd rfl (by first | exact .inl rfl | exact .inr rfl) (pe_op (kplus K) (vr 3) (pe_lst (pa_prs (ppr_cons pe_str (pe_cmpR (kother K hr.units) (vr 1) (pe_tup pa_nil) (nomark _)) (ppr_cons pe_str (pe_op (kplus K) (pe_callTy call_strU (by rfl) T.n_str (by decide +kernel) (pa_cons (pe_callB (klen K) (by rfl) T.n_len (by decide +kernel) (pa_cons (vr 1) pa_nil)) pa_nil)) pe_str) PPr.nil))))))
      (pss_cons (ps_set (i := 3) sc__law_lists_right.nd rfl (by first | exact .inl rfl | exact .inr rfl) (pe_op (kplus K) (vr 3) (pe_lst (pa_prs (ppr_cons pe_str (vr 1) (ppr_cons pe_str (vr 1) (ppr_cons pe_str (vr 1) (ppr_cons pe_str (pe_disp (pps_cons pe_str (vr 1) pps_nil) (by rfl) (by rfl) (fun z => by cases z) (by decide)) (ppr_cons pe_str pe_bl PPr.nil)))))))))
      (pss_cons (ps_setLc (i := 4) (own := [("_law_each", 5)])  rfl sc__law_lists_right.nd rfl rfl (sw_true rfl rfl rfl (by decide +kernel)) (ilist K (vr 3)) (blkOk_by (own := [("_law_each", 5)]) (N := ["_law_pool_here", "_law_row", "_law_env", "_law_rows", "_law_told", "_law_each", "_law_k", "_law_due"]) (sc := defScope s__law_lists_right) (by decide +kernel)) (fun _ _ _ _ _ => (pg_name (i := 5) sc__law_lists_right.nd rfl (by first | exact .inl rfl | exact .inr rfl))) (fun _ _ _ _ _ => pts_nil) (fun _ _ _ _ _ => up (pe_callOU (ClX.pe_cmeth (pe_glob (v := .ref (He.ga K "Expression")) (by rfl) T.g_Expression rfl) T.cr_Expression T.cm_Expression_read R_Expression_read (hr.mono (by omega)) pass0 (pa_cons (pe_ix (kget K) (vr 5) pe_int (fun _ _ => rfl)) pa_nil)) T.co_Expression R_Expression___call__ (hr.mono (by omega)) (pa_cons (vr 2) pa_nil))))
      (pss_one (ps_ret (pe_cmpR (ksame K hr.units) (pe_callB (kreprL T.sys gd hr.units) (by rfl) T.n_repr (by decide +kernel) (pa_cons (vr 4) pa_nil)) (pe_callB (kreprL T.sys gd hr.units) (by rfl) T.n_repr (by decide +kernel) (pa_cons (pe_lc (own := [("_law_each", 5), ("_law_due", 7)])  rfl sc__law_lists_right.nd (ilist K (vr 3)) (blkOk_by (own := [("_law_each", 5), ("_law_due", 7)]) (N := ["_law_pool_here", "_law_row", "_law_env", "_law_rows", "_law_told", "_law_each", "_law_k", "_law_due"]) (sc := defScope s__law_lists_right) (by decide +kernel)) (fun _ _ _ _ _ => (gtup K 2 rfl (gs_cons (pg_name (i := 5) sc__law_lists_right.nd rfl (by first | exact .inl rfl | exact .inr rfl)) (gs_cons (pg_name (i := 7) sc__law_lists_right.nd rfl (by first | exact .inl rfl | exact .inr rfl)) gs_nil)))) (fun _ _ _ _ _ => pts_nil) (fun _ _ _ _ _ => up (vr 7))) pa_nil)) (nomark _)))))))))), ?_⟩)
  · unfold sp_poolR at h
    split at h
    · rfl
    · exact h.elim
  · unfold sp_poolR at h
    split at h
    · obtain ⟨hp, q⟩ := h
      rename_i pl
      rw [st__law_lists_right]
      refine ⟨hp, by decide, by decide, fun i0 H0 h0 h1 p0 k0 => ?_⟩
      refine ⟨i0, rfl, by omega, by omega, fun D nD => ?_⟩
      refine lcr (fr_keep (p0.ne nD)) (fun _ v _ => ∃ z, v = .str z ∧ TextOk 10 z) p0 nD (by omega) (fun _ _ _ _ h _ => h) (fun _ => rfl) (fun i H3 hi p3 k3 => ?_) (fun H3 ys p3 k3 l3 e3 q3 => ?_)
      · exact ⟨p3, fun z H4 tz p4 k4 => ⟨p4, k4, z, rfl, tz⟩⟩
      obtain ⟨zs, rfl, tz⟩ := strs_of q3
      rw [List.length_map] at l3
      have lz : zs.length ≤ 5 := by omega
      refine ⟨_, .inl ⟨sqL_of e3, fun a na => ?_⟩⟩
      have nea := p3.ne na
      have pA : Pool (upd H3 a (.tup (zs.map V.str))) pl := p3.new nea
      have kA : Keep pl H (upd H3 a (.tup (zs.map V.str))) := (k0.trans k3).trans (keep_of (same_new na))
      have hA : upd H3 a (.tup (zs.map V.str)) a = some (.tup (zs.map V.str)) := upd_same
      simp only [List.set_cons_succ, List.set_cons_zero]
      revert pA kA hA
      generalize upd H3 a (.tup (zs.map V.str)) = HA
      intro pA kA hA
      clear q3 e3 k3 p3 na nea nD
      intro E nE
      refine ⟨Nat.le_of_ble_eq_true rfl, fun b nb R nR => ?_⟩
      have nEb : E ≠ b := fun z => by rw [z] at nb; rw [upd_same] at nb; cases nb
      have nER : E ≠ R := fun z => by rw [z] at nR; rw [upd_ne (z ▸ nEb), upd_same] at nR; cases nR
      have nbR : b ≠ R := fun z => by rw [z] at nR; rw [upd_same] at nR; cases nR
      refine ⟨upd_same, kvsQ a, rfl, Nat.le_of_ble_eq_true rfl, (upd_ne nER).trans ((upd_ne nER).trans ((upd_ne nEb).trans upd_same)), kvsL a b R, rfl, Nat.le_of_ble_eq_true rfl, ?_⟩
      have S0 : Same HA (upd (upd (upd (upd (upd HA E (.dK [])) b (.tup [])) R (.dK [])) R (.dK (mergeK [] (kvsQ a)))) E (.dK (mergeK [] (kvsL a b R)))) := fun c o hc => by
        have n1 := ne_of_none hc nE
        have n2 := ne_of_none hc (upd_none nb).2
        have n3 := ne_of_none hc (upd_none (upd_none nR).2).2
        rw [upd_ne n1, upd_ne n3, upd_ne n3, upd_ne n2, upd_ne n1]
        exact hc
      have G0 : EnvL (upd (upd (upd (upd (upd HA E (.dK [])) b (.tup [])) R (.dK [])) R (.dK (mergeK [] (kvsQ a)))) E (.dK (mergeK [] (kvsL a b R)))) E a R zs :=
        ⟨⟨b, upd_same, (upd_ne nEb.symm).trans ((upd_ne nbR).trans ((upd_ne nbR).trans upd_same))⟩, (upd_ne nER.symm).trans upd_same, S0 _ _ hA⟩
      simp only [List.set_cons_succ, List.set_cons_zero]
      revert G0 S0
      generalize upd (upd (upd (upd (upd HA E (.dK [])) b (.tup [])) R (.dK [])) R (.dK (mergeK [] (kvsQ a)))) E (.dK (mergeK [] (kvsL a b R))) = G
      intro S0 G0
      clear nE nR nER nb nEb nbR
      have tT := fun {X : Hp} (s : Same G X) => (G0.same s).ha
      refine ⟨_, .inr (sqT_of G0.ha), Same.refl _, fun A1 a1 => ⟨Same.refl _, fun A2 a2 => ⟨_, .inr (sqT_of (tT (a1.trans a2))), Same.refl _, fun A3 a3 => ⟨_, .inr (sqT_of (tT ((a1.trans a2).trans a3))), Same.refl _, fun A4 a4 vs0 pv0 => ⟨by rw [pv0.len]; exact Nat.le_of_ble_eq_true rfl, fun L0 nL0 => ?_⟩⟩⟩⟩⟩
      obtain ⟨S1, R1⟩ := rows_first (((a1.trans a2).trans a3).trans a4) pv0 nL0
      simp only [List.set_cons_succ, List.set_cons_zero]
      revert S1 R1
      generalize upd A4 L0 (.lst vs0) = G1
      intro S1 R1
      clear nL0 pv0 a1 a2 a3 a4
      have G1e := G0.same S1
      have t1 := fun {X : Hp} (s : Same G1 X) => (G1e.same s).ha
      have log : (((zs.map V.str).length : Nat) : Int).natAbs ≤ 10 ^ 29 := by
        rw [List.length_map]
        have : (10 : Nat) ^ 29 = 100000000000000000000000000000 := by decide
        omega
      have lg := int_log (Nat.le_trans log (by decide +kernel) : (((zs.map V.str).length : Nat) : Int).natAbs ≤ 10 ^ 30)
      have sn := num_small log
      have sn1 := sn.1
      have l0 : ("0" : Str).length = 1 := rfl
      refine ⟨Nat.le_of_ble_eq_true rfl, fun c nc => ⟨.tuple (zs.map PyData.str), .tuple [], .tup (sqT_of (same_new nc _ _ G1e.ha)) (dpS zs), .tup (sqT_of upd_same) .nil, shpS zs, rfl, same_new nc, fun A1 a1 => ⟨_, .inr (sqT_of (t1 ((same_new nc).trans a1))), lg, size_le (by omega), Same.refl _, fun A2 a2 vs1 pv1 => ⟨by rw [pv1.len]; exact Nat.le_of_ble_eq_true rfl, fun q1 nq1 => ?_⟩⟩⟩⟩
      obtain ⟨xs1, x1, y1, z1, n1⟩ := rows_cat R1 (((same_new nc).trans a1).trans a2) pv1 nq1 (Nat.le_of_ble_eq_true rfl)
      refine .inl ⟨L0, q1, xs1, vs1, rfl, rfl, x1, y1, z1, fun L1 nL1 => ?_⟩
      obtain ⟨S2, R2⟩ := n1 L1 nL1
      simp only [List.set_cons_succ, List.set_cons_zero]
      revert S2 R2
      generalize upd (upd A2 q1 (.lst vs1)) L1 (.lst (xs1 ++ vs1)) = G2
      intro S2 R2
      clear n1 x1 y1 z1 nq1 pv1 a1 a2 nL1 nc
      refine ⟨Same.refl _, fun A1 a1 => ⟨Same.refl _, fun A2 a2 => ⟨Same.refl _, fun A3 a3 => fun Q2 nQ2 => ⟨upd_same, kvsQ a, rfl, Nat.le_of_ble_eq_true rfl, ?_⟩⟩⟩⟩
      have sQ : Same A3 (upd (upd A3 Q2 (.dK [])) Q2 (.dK (mergeK [] (kvsQ a)))) := fun c o hc => by
        have n1 := ne_of_none hc nQ2
        rw [upd_ne n1, upd_ne n1]
        exact hc
      have hQ : upd (upd A3 Q2 (.dK [])) Q2 (.dK (mergeK [] (kvsQ a))) Q2 = some (.dK (kvsQ a)) := upd_same
      refine ⟨sQ, fun A4 a4 => ⟨Same.refl _, fun A5 a5 vs2 pv2 => ⟨by rw [pv2.len]; exact Nat.le_of_ble_eq_true rfl, fun q2 nq2 => ?_⟩⟩⟩
      obtain ⟨xs2, x2, y2, z2, n2⟩ := rows_cat R2 ((((a1.trans a2).trans a3).trans sQ).trans (a4.trans a5)) pv2 nq2 (Nat.le_of_ble_eq_true rfl)
      refine .inl ⟨L1, q2, xs2, vs2, rfl, rfl, x2, y2, z2, fun L7 nL2 => ?_⟩
      obtain ⟨S3, R8⟩ := n2 L7 nL2
      have hQ8 : upd (upd A5 q2 (.lst vs2)) L7 (.lst (xs2 ++ vs2)) Q2 = some (.dK (kvsQ a)) := same_new nL2 _ _ (same_new nq2 _ _ (a5 _ _ (a4 _ _ hQ)))
      simp only [List.set_cons_succ, List.set_cons_zero]
      revert S3 R8 hQ8
      generalize upd (upd A5 q2 (.lst vs2)) L7 (.lst (xs2 ++ vs2)) = G8
      intro S3 R8 hQ8
      clear n2 x2 y2 z2 nq2 pv2 a1 a2 a3 a4 a5 nL2 sQ hQ nQ2 R1 R2
      have SG : Same G G8 := (S1.trans S2).trans S3
      have SH : Same HA G8 := S0.trans SG
      have G := G0.same SG
      clear S1 S2 S3 SG t1 tT
      obtain ⟨bE, gE, hbE⟩ := G.gE
      have eL : evV G8 (.ref E) (.get [[108]]) = some (.ref a) := G.gL
      have eE : evV G8 (.ref E) (.get [[101]]) = some (.ref bE) := gE
      have eO : evV G8 (.ref E) vO = some .non := G.gO
      have eR : evV G8 (.ref E) (.get [[114]]) = some (.ref R) := G.gR
      have eRL : evV G8 (.ref E) (.get [[114], [108]]) = some (.ref a) := G.gRL
      have sizeL : evV G8 (.ref E) (.call "size" [.get [[108]]]) = some (.int (zs.map V.str).length) := (ev1 eL).trans (ap_size G.ha)
      have sizeE : evV G8 (.ref E) (.call "size" [.get [[101]]]) = some (.int 0) := (ev1 eE).trans (ap_size hbE)
      have orL : evV G8 (.ref E) (.call "or_else" [vO, .get [[108]]]) = some (.ref a) := (ev2 eO eL).trans rfl
      have small : (((zs.map V.str).length : Nat) : Int).natAbs ≤ 10 ^ 30 := Nat.le_trans log (by decide +kernel)
      have dA : Dr G8 (.ref a) (.tuple (zs.map PyData.str)) := .tup G.ha (drs zs)
      have shA : ShD (.tuple (zs.map PyData.str)) 2000 20 := (shds tz lz).mono (by decide) (by decide)
      have tL : TextOk 1 "l" := ⟨by decide, List.all_eq_true.mp (by decide +kernel)⟩
      have t0 : TextOk 1 "0" := ⟨by decide, List.all_eq_true.mp (by decide +kernel)⟩
      have RO : RowsOk G8 (.ref E) (rsOf R8) _ :=
        .cons (row_int (.call "size" [.get [[108]]]) (by kernel_rfl) rfl rfl rfl sizeL small)
        (.cons (row_int (.call "size" [.get [[101]]]) (by kernel_rfl) rfl rfl rfl sizeE (by decide))
        (.cons (row_int (.call "size" [.get [[114], [108]]]) (by kernel_rfl) rfl rfl rfl ((ev1 eRL).trans (ap_size G.ha)) small)
        (.cons (row_int (.call "size" [.call "or_else" [vO, .get [[108]]]]) (by kernel_rfl) rfl rfl rfl ((ev1 orL).trans (ap_size G.ha)) small)
        (.cons (row_bl (.call "less" [.call "size" [.get [[101]]], .call "size" [.get [[108]]]]) (by kernel_rfl) rfl rfl rfl ((ev2 sizeE sizeL).trans ((ap_less _ _).trans (by
          show some (V.bl (decide ((0 : Int) < (((zs.map V.str).length : Nat) : Int)))) = some (V.bl (!PyData.eqv (.tuple (zs.map PyData.str)) (.tuple [])))
          rw [eqvS]
          cases zs with
          | nil => rfl
          | cons z r =>
            rw [decide_eq_true (by simp)]
            rfl))))
        (.cons (row_str (.call "joined" [.call "size" [.get [[108]]], .call "size" [.get [[101]]]]) (by kernel_rfl) rfl rfl rfl ((ev2 sizeL sizeE).trans (by
          rw [ap_joined (zs := [Str.ofString (toString (((zs.map V.str).length : Nat) : Int)), Str.ofString (toString (0 : Int))]) (by simp only [textsOf, text_m (H := G8) (env := .non) log, text_m (H := G8) (env := .non) (i := 0) (by decide)]) (Nat.ble_eq_true_of_le (by show (Str.ofString (toString (((zs.map V.str).length : Nat) : Int))).length + (1 + 0) + 2 ≤ _; omega)), join_two]
          rfl)) ((sn.app t0).mono (by decide)))
        (.cons (row_ref (.call "or_else" [vO, .get [[108]]]) (by kernel_rfl) rfl rfl rfl orL dA dA shA)
        (.cons (row_ref (.call "or_else" [.get [[108]], .get [[101]]]) (by kernel_rfl) rfl rfl rfl ((ev2 eL eE).trans rfl) dA dA shA)
        (.cons (row_ref (.get [[108]]) (by kernel_rfl) rfl rfl rfl eL dA dA shA)
        (.cons (row_ref (.get [[114]]) (by kernel_rfl) rfl rfl rfl eR (dr_dict G.hR G.ha) (dr_dict hQ8 G.ha) ((ShD.dict1 tL (shds tz lz)).mono (by decide) (by decide)))
        (.cons (row_bl (.call "has" [.get [[108]]]) (by kernel_rfl) rfl rfl rfl ((ev1 eL).trans rfl))
        .nil))))))))))
      obtain ⟨rs, R8, ds, RO, lr⟩ : ∃ rs, RowsIn G8 L7 rs ∧ ∃ ds, RowsOk G8 (.ref E) rs ds ∧ rs.length ≤ 30 := ⟨_, R8, _, RO, Nat.le_of_ble_eq_true rfl⟩
      have ld := RO.len
      have sh := ShD.list (ShL.of RO.sh)
      have sw : ds.length * (2000 + 2) + 3 ≤ 100000 := by omega
      clear eL eE eO eR eRL sizeL sizeE orL dA shA
      obtain ⟨us, hL, pu⟩ := R8
      have l8 := pu.len
      refine ⟨L7, rfl, ⟨_, sqL_of hL⟩, fun D nD => ?_⟩
      refine lcw (walk_list (xs := us)) fr_same (fun i v H' => ∃ d, ds[i]? = some d ∧ Dr H' v d) trivial nD (by omega) gm_name (fun H1 _ s1 => sqL_of (s1 _ _ hL)) (fun i v H1 H2 h st => by
        obtain ⟨d, h1, h2⟩ := h
        exact ⟨d, h1, Dr.stay st h2⟩) (fun i x H1 H1' hi _ s1 hy => ?_) (fun H1 ys _ s1 l1 e1 q1 => ?_)
      · obtain ⟨rfl, hx⟩ := hy
        obtain ⟨a, p, rfl, hp, ha⟩ := pu.at i x hx
        obtain ⟨d, hd, z, e, v, e1, hz, pe, hl, hw, ev, dv, dp, _⟩ := RO.at i p hp
        obtain ⟨p1, p2⟩ := p
        have e1 : p1 = .str z := e1
        subst e1
        refine ⟨rfl, rfl, _, _, .inr (sqT_of (s1 _ _ ha)), rfl, rfl, hz, e, pe, fun x H2 s2 nx ob => ?_⟩
        refine ⟨?_, e, v, ob, hl, hw, evV_same (s1.trans s2) e v ev, fun H3 s3 => ⟨trivial, s2.trans s3, d, hd, Dr.stay (stay_of ((s1.trans s2).trans s3)) dv⟩⟩
        obtain ⟨dx, t', hx', _⟩ := ob
        exact ⟨dx, _, hx'⟩
      · have dl1 : DL H1 (.ref D) (.list ds) := .lst e1 (dls_of (by omega) q1)
        simp only [List.set_cons_succ, List.set_cons_zero]
        refine ⟨.list ds, dl1, sh.1, size_le (Nat.le_trans sh.2.1 sw), Nat.le_trans sh.2.2 (by decide), ?_⟩
        refine ⟨L7, rfl, ⟨_, sqL_of (s1 _ _ hL)⟩, fun D2 nD2 => ?_⟩
        refine lcw (walk_list (xs := us)) fr_same (fun i v H' => ∃ d, ds[i]? = some d ∧ Dr H' v d) trivial nD2 (by omega) gm_tup2 (fun H2 _ s2 => sqL_of ((s1.trans s2) _ _ hL)) (fun i v H1 H2 h st => by
          obtain ⟨d, h1, h2⟩ := h
          exact ⟨d, h1, Dr.stay st h2⟩) (fun i x H2 H2' hi _ s2 hy => ?_) (fun H2 ys2 _ s2 l2 e2 q2 => ?_)
        · obtain ⟨rfl, hx⟩ := hy
          obtain ⟨a, p, rfl, hp, ha⟩ := pu.at i x hx
          obtain ⟨d, hd, z, e, v, e1, hz, pe, hl, hw, ev, dv, dp, _⟩ := RO.at i p hp
          refine ⟨a, _, rfl, sqT_of ((s1.trans s2) _ _ ha), rfl, rfl, trivial, Same.refl _, d, hd, Dr.stay (stay_of (s1.trans s2)) dp⟩
        · refine ⟨.list ds, .lst e2 (dls_of (by omega) q2), sh.1, size_le (Nat.le_trans sh.2.1 sw), Nat.le_trans sh.2.2 (by decide), ?_⟩
          have e3 : decide (V.str (PyData.shown (.list ds)) = V.str (PyData.shown (.list ds))) = true := decide_eq_true rfl
          have q3 := q H2 (pA.same ((SH.trans s1).trans s2)) (kA.trans (keep_of ((SH.trans s1).trans s2)))
          rw [← e3] at q3
          exact q3
    · exact h.elim
end
end Sk
namespace Sk
open PySem PySem.Spec PyProof.Rows L2
theorem sqL_on {K : PySem.W.Frag} {H H' : Hp} {a : Addr} {xs : List V} (s : Same H H') (h : SqL K H a xs) : SqL K H' a xs := by
  rcases h with (h | ⟨o, h⟩) | h
  · exact .inl (.inl (s _ _ h))
  · exact .inl (.inr ⟨o, s _ _ h⟩)
  · exact .inr h
section
variable {P : Program} {w : World} {K : PySem.W.Frag} {mg : Str → Option Value} {base : Heap}
abbrev OkG_rt (P : Program) (w : World) (base : Heap) (T : Top K mg) (k : Nat) (sp : Sp) : Prop := FnG P w K mg base k (He.ga K "_law_right") T.fd__law_right ["_law_pool_here"] sp
theorem ok_right15 (T : Top K mg) (U : TopD K w) (k : Nat) : OkG_rt P w base T (k + 23) sp_poolR := by
  have G__law_number : Ok__law_number P w base T 2 sp_num := ok_num T 0
  have G__law_chars : Ok__law_chars P w base T 2 sp_chars := ok_chars T 0
  have G__law_two_right : OkG_two P w base T 22 sp_two := ok_two T U 0
  have G__law_lists_right : OkG_lists P w base T 22 sp_poolR := ok_lists T U 0
  refine fnG_of T.F__law_right sc__law_right (fun vs H Q E h => ?_) (fun cdv A outer s H vs Q E gd hr h => ⟨_, (pss_cons (ps_for PassesOwn.never rfl (pi_range1 (by rfl) T.n_range (pa_cons pe_int pa_nil)) (pg_name (i := 1) sc__law_right.nd rfl (by first | exact .inl rfl | exact .inr rfl)) (pss_cons (ps_par (by rfl) sc__law_right.nd (i := 2) (j := 3) rfl rfl (by decide) rfl rfl (pa_cons (pe_call G__law_number (hr.mono (by omega)) (by rfl) T.g__law_number T.F__law_number.kp (b__law_number T) .nil pass0 (pa_cons (vr 0) pa_nil)) (pa_cons (pe_call G__law_number (hr.mono (by omega)) (by rfl) T.g__law_number T.F__law_number.kp (b__law_number T) .nil pass0 (pa_cons (vr 0) pa_nil)) pa_nil)) (by rfl))
      (pss_cons (ps_par (by rfl) sc__law_right.nd (i := 4) (j := 5) rfl rfl (by decide) rfl rfl (pa_cons (pe_call G__law_chars (hr.mono (by omega)) (by rfl) T.g__law_chars T.F__law_chars.kp (b__law_chars T) .nil pass0 (pa_cons (vr 0) pa_nil)) (pa_cons (pe_call G__law_chars (hr.mono (by omega)) (by rfl) T.g__law_chars T.F__law_chars.kp (b__law_chars T) .nil pass0 (pa_cons (vr 0) pa_nil)) pa_nil)) (by rfl))
      (pss_one (sif (PW.pt (wor (pt_not (tst (pecallG G__law_two_right gd (hr.mono (by omega)) (by rfl) T.g__law_two_right T.F__law_two_right.kp (b__law_two_right T) (pa_cons (vr 2) (pa_cons (vr 3) (pa_cons (vr 4) (pa_cons (vr 5) pa_nil))))))) (wor (pt_not (tst (pecallG G__law_two_right gd (hr.mono (by omega)) (by rfl) T.g__law_two_right T.F__law_two_right.kp (b__law_two_right T) (pa_cons (vr 2) (pa_cons (vr 2) (pa_cons (vr 4) (pa_cons (vr 4) pa_nil))))))) (pw_or1 (pt_not (tst (pecallG G__law_lists_right gd (hr.mono (by omega)) (by rfl) T.g__law_lists_right T.F__law_lists_right.kp (b__law_lists_right T) (pa_cons (vr 0) pa_nil)))))))) (pss_one (ps_ret pe_bl)) pss_nil)))))
      (pss_one (ps_ret pe_bl))), ?_⟩)
  · unfold sp_poolR at h
    split at h
    · rfl
    · exact h.elim
  · unfold sp_poolR at h
    split at h
    · obtain ⟨hp, q⟩ := h
      rename_i a
      rw [st__law_right]
      refine ⟨6, rfl, by decide, by decide, ?_⟩
      refine for_range (n := 6) (fun i σ H' => (∃ y1 y2 y3 y4 y5, σ = [some (.ref a), y1, y2, y3, y4, y5]) ∧ Pool H' a ∧ Keep a H H') ⟨⟨_, _, _, _, _, rfl⟩, hp, Keep.refl a H⟩ (fun i σ H0 hi hv => ?_) (fun σ H0 hv => ?_)
      · obtain ⟨⟨y1, y2, y3, y4, y5, rfl⟩, p0, k0⟩ := hv
        refine ⟨p0, fun m H1 hm p1 k1 => ⟨p1, fun n H2 hn p2 k2 => ⟨_, _, rfl, ?_⟩⟩⟩
        simp only [List.set_cons_succ, List.set_cons_zero]
        refine ⟨p2, fun s H3 hs p3 k3 => ⟨p3, fun t H4 ht p4 k4 => ⟨_, _, rfl, ?_⟩⟩⟩
        simp only [List.set_cons_succ, List.set_cons_zero]
        have k : Keep a H H4 := (((k0.trans k1).trans k2).trans k3).trans k4
        refine ⟨hm, hn, hs, ht, fun H5 s5 => ⟨hm, hm, hs, hs, fun H6 s6 => ⟨p4.same (s5.trans s6), fun H7 p7 k7 => ?_⟩⟩⟩
        exact ⟨⟨_, _, _, _, _, rfl⟩, p7, (k.trans (keep_of (s5.trans s6))).trans k7⟩
      · obtain ⟨_, p0, k0⟩ := hv
        exact q H0 p0 k0
    · exact h.elim
def sp_law (K : PySem.W.Frag) : Sp := fun vs H Q _ => match vs with
  | [.ref a] => (∃ ns : List Int, ns.length ≤ 63 ∧ SqL K H a (ns.map V.int)) ∧ ∀ H', Q (.bl true) H'
  | _ => False
abbrev OkG_law (P : Program) (w : World) (base : Heap) (T : Top K mg) (k : Nat) (sp : Sp) : Prop := FnG P w K mg base k (He.ga K "law") T.fd_law ["_law_script"] sp
theorem ok_law (T : Top K mg) (U : TopD K w) (k : Nat) : OkG_law P w base T (k + 24) (sp_law K) := by
  have G__law_right : OkG_rt P w base T 23 sp_poolR := ok_right15 T U 0
  have G__law_pool : Ok__law_pool P w base T 1 sp_pool := ok_pool T 0
  have G__law_cell : Ok__law_cell P w base T 1 (sp_cell K) := ok_cell T 0
  refine fnG_of T.F_law sc_law (fun vs H Q E h => ?_) (fun cdv A outer s H vs Q E gd hr h => ⟨_, (pss_one (ps_ret (pe_callB (kall K rfl) (by rfl) T.n_all (by decide +kernel) (pa_cons (pe_lc (own := [("_law_k", 1)])  rfl sc_law.nd (pi_range1 (by rfl) T.n_range (pa_cons (pe_callB (call_maxU rfl) (by rfl) T.n_max (by decide +kernel) (pa_cons pe_int (pa_cons (pe_callB (call_minU rfl) (by rfl) T.n_min (by decide +kernel) (pa_cons (pe_callB (klen K) (by rfl) T.n_len (by decide +kernel) (pa_cons (vr 0) pa_nil)) (pa_cons pe_int pa_nil))) pa_nil))) pa_nil)) (blkOk_by (own := [("_law_k", 1)]) (N := ["_law_script", "_law_k"]) (sc := defScope s_law) (by decide +kernel)) (fun _ _ _ _ _ => (pg_name (i := 1) sc_law.nd rfl (by first | exact .inl rfl | exact .inr rfl))) (fun _ _ _ _ _ => pts_nil) (fun _ _ _ _ _ => up (pecallG G__law_right gd (hr.mono (by omega)) (by rfl) T.g__law_right T.F__law_right.kp (b__law_right T) (pa_cons (pe_call G__law_pool (hr.mono (by omega)) (by rfl) T.g__law_pool T.F__law_pool.kp (b__law_pool T) .nil pass0 (pa_cons (pe_call G__law_cell (hr.mono (by omega)) (by rfl) T.g__law_cell T.F__law_cell.kp (b__law_cell T) .nil pass0 (pa_cons (vr 0) (pa_cons (vr 1) pa_nil))) pa_nil)) pa_nil)))) pa_nil)))), ?_⟩)
  · unfold sp_law at h
    split at h
    · rfl
    · exact h.elim
  · unfold sp_law at h
    split at h
    · obtain ⟨⟨ns, hns, hS⟩, q⟩ := h
      rename_i a
      rw [st_law]
      refine ⟨_, .inl hS, ?_⟩
      refine ⟨_, rfl, ?_, ?_, fun D2 nD2 => ?_⟩
      · rw [List.length_map]
        split <;> split <;> omega
      · rw [List.length_map]
        split <;> split <;> omega
      refine lcr fr_same (fun _ v _ => v = .bl true) trivial nD2 ?_ (fun _ _ _ _ h _ => h) (fun _ => rfl) (fun i H2 hi _ s2 => ?_) (fun H2 ys2 _ s2 l2 e2 q2 => ?_)
      · rw [List.length_map]
        split <;> split <;> omega
      · have hi8 : i < 64 := by
          rw [List.length_map] at hi
          split at hi <;> split at hi <;> omega
        refine ⟨⟨ns, sqL_on s2 hS⟩, by omega, by omega, fun z H3 s3 b H4 s4 nb p4 => ⟨p4, fun H5 p5 k5 => ⟨trivial, ?_, rfl⟩⟩⟩
        intro x o hx
        have h3 := s3 _ _ hx
        exact k5 x o (ne_of_none h3 nb) (s4 _ _ h3)
      · obtain ⟨bs2, rfl, hb2⟩ := bls_true q2
        refine ⟨_, bs2, rfl, sqL_of e2, ?_⟩
        rw [hb2]
        exact q _
    · exact h.elim
end
end Sk
namespace Sk
open PySem PySem.Spec PyProof.Rows L2
theorem top_of {K : PySem.W.Frag} {h : Heap} {mg : Str → Option Value} (X : K.In h) (G : h.Ns mainGlobals mg) (c : He5.SaysA fa fn K) (m : ex K = true) : Nonempty (Top K mg) := by
  unfold ex at m
  obtain ⟨m0, m⟩ := He.ba m
  obtain ⟨m1, m⟩ := He.ba m
  obtain ⟨m2, m⟩ := He.ba m
  obtain ⟨m3, m⟩ := He.ba m
  obtain ⟨m4, m⟩ := He.ba m
  obtain ⟨m5, m⟩ := He.ba m
  obtain ⟨fd0, F0⟩ := c.def_ 0 (d := d__wall) rfl
  obtain ⟨fd1, F1⟩ := c.def_ 1 (d := d_is_name) rfl
  obtain ⟨fd2, F2⟩ := c.def_ 2 (d := d_same_values) rfl
  obtain ⟨fd3, F3⟩ := c.def_ 3 (d := d_value_at) rfl
  obtain ⟨fd4, F4⟩ := c.def_ 4 (d := d_name_from) rfl
  obtain ⟨fd5, F5⟩ := c.def_ 5 (d := d_read_quoted) rfl
  obtain ⟨fd6, F6⟩ := c.def_ 6 (d := d_read_digits) rfl
  obtain ⟨fd7, F7⟩ := c.def_ 7 (d := d_read_variable) rfl
  obtain ⟨fd8, F8⟩ := c.def_ 8 (d := d_read_call) rfl
  obtain ⟨fd9, F9⟩ := c.def_ 9 (d := d_read_tree) rfl
  obtain ⟨fd10, F10⟩ := c.def_ 10 (d := d_parse_expression) rfl
  obtain ⟨fd11, F11⟩ := c.def_ 11 (d := d_expression_text) rfl
  obtain ⟨fd12, F12⟩ := c.def_ 12 (d := d_value_of) rfl
  obtain ⟨fd13, F13⟩ := c.def_ 13 (d := d_applied) rfl
  obtain ⟨fd14, F14⟩ := c.def_ 14 (d := d__law_cell) rfl
  obtain ⟨fd15, F15⟩ := c.def_ 15 (d := d__law_pool) rfl
  obtain ⟨fd16, F16⟩ := c.def_ 16 (d := d__law_draw) rfl
  obtain ⟨fd17, F17⟩ := c.def_ 17 (d := d__law_chars) rfl
  obtain ⟨fd18, F18⟩ := c.def_ 18 (d := d__law_number) rfl
  obtain ⟨fd19, F19⟩ := c.def_ 19 (d := d__law_two_right) rfl
  obtain ⟨fd20, F20⟩ := c.def_ 20 (d := d__law_lists_right) rfl
  obtain ⟨fd21, F21⟩ := c.def_ 21 (d := d__law_right) rfl
  obtain ⟨fd22, F22⟩ := c.def_ 22 (d := d_law) rfl
  obtain ⟨fd23, F23⟩ := c.def_ 23 (d := d_Expression___init__) rfl
  obtain ⟨fd24, F24⟩ := c.def_ 24 (d := d_Expression_read) rfl
  obtain ⟨fd25, F25⟩ := c.def_ 25 (d := d_Expression___eq__) rfl
  obtain ⟨fd26, F26⟩ := c.def_ 26 (d := d_Expression___str__) rfl
  obtain ⟨fd27, F27⟩ := c.def_ 27 (d := d_Expression___repr__) rfl
  obtain ⟨fd28, F28⟩ := c.def_ 28 (d := d_Expression___call__) rfl
  obtain ⟨t0, c0⟩ := He.str_ok X G (c.fact 29 (f := .str "LETTERS" "abcdefghijklmnopqrstuvwxyz") rfl)
  obtain ⟨t1, c1⟩ := He.str_ok X G (c.fact 30 (f := .str "DIGITS" "0123456789") rfl)
  obtain ⟨t2, c2⟩ := He.int_ok X G (c.fact 34 (f := .int "MOST_LEVELS" 8) rfl)
  obtain ⟨t3, c3⟩ := He.int_ok X G (c.fact 35 (f := .int "MOST_DIGITS" 15) rfl)
  obtain ⟨t4, c4⟩ := He.int_ok X G (c.fact 36 (f := .int "MOST_CHARS" 60) rfl)
  exact ⟨{ sys := m0, fd__wall := fd0, F__wall := F0, g__wall := He.glo_ok X G (c.fact 0 (f := .glo "_wall") rfl), fd_is_name := fd1, F_is_name := F1, g_is_name := He.glo_ok X G (c.fact 1 (f := .glo "is_name") rfl), fd_same_values := fd2, F_same_values := F2, g_same_values := He.glo_ok X G (c.fact 2 (f := .glo "same_values") rfl), fd_value_at := fd3, F_value_at := F3, g_value_at := He.glo_ok X G (c.fact 3 (f := .glo "value_at") rfl), fd_name_from := fd4, F_name_from := F4, g_name_from := He.glo_ok X G (c.fact 4 (f := .glo "name_from") rfl), fd_read_quoted := fd5, F_read_quoted := F5, g_read_quoted := He.glo_ok X G (c.fact 5 (f := .glo "read_quoted") rfl), fd_read_digits := fd6, F_read_digits := F6, g_read_digits := He.glo_ok X G (c.fact 6 (f := .glo "read_digits") rfl), fd_read_variable := fd7, F_read_variable := F7, g_read_variable := He.glo_ok X G (c.fact 7 (f := .glo "read_variable") rfl), fd_read_call := fd8, F_read_call := F8, g_read_call := He.glo_ok X G (c.fact 8 (f := .glo "read_call") rfl), fd_read_tree := fd9, F_read_tree := F9, g_read_tree := He.glo_ok X G (c.fact 9 (f := .glo "read_tree") rfl), fd_parse_expression := fd10, F_parse_expression := F10, g_parse_expression := He.glo_ok X G (c.fact 10 (f := .glo "parse_expression") rfl), fd_expression_text := fd11, F_expression_text := F11, g_expression_text := He.glo_ok X G (c.fact 11 (f := .glo "expression_text") rfl), fd_value_of := fd12, F_value_of := F12, g_value_of := He.glo_ok X G (c.fact 12 (f := .glo "value_of") rfl), fd_applied := fd13, F_applied := F13, g_applied := He.glo_ok X G (c.fact 13 (f := .glo "applied") rfl), fd__law_cell := fd14, F__law_cell := F14, g__law_cell := He.glo_ok X G (c.fact 14 (f := .glo "_law_cell") rfl), fd__law_pool := fd15, F__law_pool := F15, g__law_pool := He.glo_ok X G (c.fact 15 (f := .glo "_law_pool") rfl), fd__law_draw := fd16, F__law_draw := F16, g__law_draw := He.glo_ok X G (c.fact 16 (f := .glo "_law_draw") rfl), fd__law_chars := fd17, F__law_chars := F17, g__law_chars := He.glo_ok X G (c.fact 17 (f := .glo "_law_chars") rfl), fd__law_number := fd18, F__law_number := F18, g__law_number := He.glo_ok X G (c.fact 18 (f := .glo "_law_number") rfl), fd__law_two_right := fd19, F__law_two_right := F19, g__law_two_right := He.glo_ok X G (c.fact 19 (f := .glo "_law_two_right") rfl), fd__law_lists_right := fd20, F__law_lists_right := F20, g__law_lists_right := He.glo_ok X G (c.fact 20 (f := .glo "_law_lists_right") rfl), fd__law_right := fd21, F__law_right := F21, g__law_right := He.glo_ok X G (c.fact 21 (f := .glo "_law_right") rfl), fd_law := fd22, F_law := F22, g_law := He.glo_ok X G (c.fact 22 (f := .glo "law") rfl), fd_Expression___init__ := fd23, F_Expression___init__ := F23, fd_Expression_read := fd24, F_Expression_read := F24, fd_Expression___eq__ := fd25, F_Expression___eq__ := F25, fd_Expression___str__ := fd26, F_Expression___str__ := F26, fd_Expression___repr__ := fd27, F_Expression___repr__ := F27, fd_Expression___call__ := fd28, F_Expression___call__ := F28, g_ShapeError := He.glo_ok X G (c.fact 23 (f := .glo "ShapeError") rfl), g_InvalidText := He.glo_ok X G (c.fact 24 (f := .glo "InvalidText") rfl), g_Expression := He.glo_ok X G (c.fact 25 (f := .glo "Expression") rfl), cls_Expression := He.cls_ok (c.fact 26 (f := .cls "Expression") rfl), mk_Expression := He.mkr_ok (c.fact 27 (f := .mkr "Expression") rfl), cr_Expression := creadB_ok m1, na_Expression_tree_form := He.noat_ok (c.fact 28 (f := .noat "Expression" "tree_form") rfl), cm_Expression_read := cmetB_ok m2, co_Expression := callB_ok m3, t_LETTERS := t0, c_LETTERS := c0, t_DIGITS := t1, c_DIGITS := c1, g_LEAST := He.glo_ok X G (c.fact 31 (f := .glo "LEAST") rfl), g_OPEN := He.glo_ok X G (c.fact 32 (f := .glo "OPEN") rfl), q_OPEN := fun H => He.tupB_ok m4 H, g_NOT_VARIABLES := He.glo_ok X G (c.fact 33 (f := .glo "NOT_VARIABLES") rfl), q_NOT_VARIABLES := fun H => He.tupB_ok m5 H, t_MOST_LEVELS := t2, c_MOST_LEVELS := c2, t_MOST_DIGITS := t3, c_MOST_DIGITS := c3, t_MOST_CHARS := t4, c_MOST_CHARS := c4, n_ValueError := He.free_ok X G (c.fact 37 (f := .free "ValueError") rfl), n_abs := He.free_ok X G (c.fact 38 (f := .free "abs") rfl), n_all := He.free_ok X G (c.fact 39 (f := .free "all") rfl), n_bool := He.free_ok X G (c.fact 40 (f := .free "bool") rfl), n_dict := He.free_ok X G (c.fact 41 (f := .free "dict") rfl), n_divmod := He.free_ok X G (c.fact 42 (f := .free "divmod") rfl), n_int := He.free_ok X G (c.fact 43 (f := .free "int") rfl), n_isinstance := He.free_ok X G (c.fact 44 (f := .free "isinstance") rfl), n_len := He.free_ok X G (c.fact 45 (f := .free "len") rfl), n_max := He.free_ok X G (c.fact 46 (f := .free "max") rfl), n_min := He.free_ok X G (c.fact 47 (f := .free "min") rfl), n_range := He.free_ok X G (c.fact 48 (f := .free "range") rfl), n_repr := He.free_ok X G (c.fact 49 (f := .free "repr") rfl), n_sorted := He.free_ok X G (c.fact 50 (f := .free "sorted") rfl), n_str := He.free_ok X G (c.fact 51 (f := .free "str") rfl), n_sum := He.free_ok X G (c.fact 52 (f := .free "sum") rfl), n_tuple := He.free_ok X G (c.fact 53 (f := .free "tuple") rfl), n_zip := He.free_ok X G (c.fact 54 (f := .free "zip") rfl) }⟩
theorem topD_of {K : PySem.W.Frag} {w : World} (ht : (ts.map fun t => He.dicW K (t.1 K)) = ts.map fun t => some (He.keysIn w.params t.2)) (m : ex K = true) : TopD K w := by
  unfold ex at m
  obtain ⟨m0, m⟩ := He.ba m
  obtain ⟨m1, m⟩ := He.ba m
  obtain ⟨m2, m⟩ := He.ba m
  obtain ⟨m3, m⟩ := He.ba m
  obtain ⟨m4, m⟩ := He.ba m
  obtain ⟨m5, m⟩ := He.ba m
  obtain ⟨m6, m⟩ := He.ba m
  exact { dic_LEAST := kdic_of ht 0 (at_ := fun K => He.ga K "LEAST") (kvs := tab_LEAST) rfl m6 }
end Sk
open PySem PySem.W PySem.Calls PyProof.Rows
theorem PySem.Challenge.cw_shapekeep_k15_functions_by_hand_holds : PySem.Challenge.rw_shapekeep_k15_functions_by_hand.Holds := by
  w_on; o_law
  refine HandSHeadRun.head_any (r := OpenLaw.row PySem.Challenge.rw_shapekeep_k15_functions_by_hand) (q := view (OpenLaw.row PySem.Challenge.rw_shapekeep_k15_functions_by_hand).prog [38]) (H := Sk.hk) (ob := Sk.ob) (M := 4000) (loose := Sk.loose) (d := HandSHeadRun.topDef (OpenLaw.row PySem.Challenge.rw_shapekeep_k15_functions_by_hand).prog 38) (kwd := []) Sk.ob_eq
    (by kernel_rfl) (fun s => by kernel_rfl) Sk.run (by kernel_rfl) (by kernel_rfl) (by kernel_rfl) (by rfl) (by first | assumption | decide +kernel) (by decide +kernel) ⟨rfl, rfl, rfl, rfl, rfl, by decide +kernel⟩ ?hw ?hc
  case hw => w_witness2
  case hc =>
    refine Sk.walk_G (l := PySem.Challenge.rw_shapekeep_k15_functions_by_hand) (n := 63) (k := 24) (x := "_law_script") rfl (by decide) (by kernel_rfl) ⟨rfl, by decide, by decide⟩ ?F
    intro w mg fa h Y G hmg0
    obtain ⟨K, KX, c⟩ := Y
    have hmg : mg ("law" : PySem.Str) = some (.ref fa) := by
      have e : (HandSHeadRun.topDef (OpenLaw.row PySem.Challenge.rw_shapekeep_k15_functions_by_hand).prog 38).name = ("law" : PySem.Str) := by kernel_rfl
      rw [← e]
      exact hmg0
    obtain ⟨T⟩ := Sk.top_of KX G c.defs c.also
    have U := Sk.topD_of c.tabs c.also
    have e := hmg.symm.trans T.g_law
    cases e
    have b := L2.FunD.bindsA (ps := ["_law_script"]) T.F_law fun _ _ _ _ _ _ us hl => match us, hl with | [_], _ => rfl
    exact ⟨K, T.fd_law, Sk.sp_law K, KX, fun s v => b s [v] rfl, fun H a ns hl hS => ⟨⟨ns, hl, hS⟩, fun _ => rfl⟩, fun base _ _ => Sk.ok_law T U 0⟩
