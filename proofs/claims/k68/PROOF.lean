import PyProof.Rows.All
import HandS.ForMost
import HandS.ForExc
import HandS.IsInst
import HandS.Zip
import HandS.Wide
import HandS.TupAny
import HandS.TupMul
import HandS.Conv
import HandS.Strs
import HandS.Deep
import HandS.Style
import KE.DataMinMax
import KE.SortData
import HandS.ExcIs
import KE.GoesMore
import KE.GoesEnum
import HandS.TupSets
import HandS.More
import HandS.Codes
import PySem.Challenge.RW_lightsteps_k68_formats
set_option Elab.async false
set_option autoImplicit false
set_option linter.all false
set_option maxRecDepth 100000
set_option maxHeartbeats 4000000
namespace PD
open PySem L2

/-! ### results -/
abbrev D := PyData
inductive Res (α : Type) where
  | ok (a : α)
  | err (c : Str)
  | bad
def Res.bind {α β : Type} (r : Res α) (k : α → Res β) : Res β := match r with
  | .ok a => k a
  | .err c => .err c
  | .bad => .bad
theorem bind_ok {α β : Type} (a : α) (k : α → Res β) : (Res.ok a).bind k = k a := rfl
theorem bind_err {α β : Type} (c : Str) (k : α → Res β) : (Res.err c : Res α).bind k = .err c := rfl
theorem bind_bad {α β : Type} (k : α → Res β) : (Res.bad : Res α).bind k = .bad := rfl
def kD : Key → D
  | .inl i => .int i
  | .inr x => .str x

/-! ### data in a heap -/
/-- a list that is read: tracked, known, or a plain list of the written part -/
def LsAt (K : PySem.W.Frag) (S : Hp) (a : Addr) (xs : List V) : Prop :=
  Rd S a (.lst xs) ∨ ∃ (its : List Value) (n : Nat), K.lookup a = some { cls := .type "list", data := .seq its.toArray n } ∧ its.length ≤ sizeLine ∧ Vals xs its
theorem rd_same {S S' : Hp} {a : Addr} {u : HO} (e : Same S S') (h : Rd S a u) : Rd S' a u := by
  rcases h with h | ⟨o, h⟩
  · exact .inl (e _ _ h)
  · exact .inr ⟨o, e _ _ h⟩
theorem ls_of {K : PySem.W.Frag} {S : Hp} {a : Addr} {xs : List V} (h : S a = some (.lst xs)) : LsAt K S a xs := .inl (.inl h)
theorem ls_mono {K : PySem.W.Frag} {S S' : Hp} {a : Addr} {xs : List V} (e : Same S S') (h : LsAt K S a xs) : LsAt K S' a xs := by
  rcases h with (h | ⟨o, h⟩) | h
  · exact .inl (.inl (e _ _ h))
  · exact .inl (.inr ⟨o, e _ _ h⟩)
  · exact .inr h
theorem ls_sq {K : PySem.W.Frag} {S : Hp} {a : Addr} {xs : List V} (h : LsAt K S a xs) : SqL K S a xs := by
  rcases h with h | ⟨its, n, h1, h2, h3⟩
  · exact .inl h
  · exact .inr ⟨_, its.toArray, n, h1, rfl, rfl, rfl, by simpa using h2, by simpa using h3⟩
/-- tuples of ints alone are tracked (all but the one of signs) -/
def allInt (ds : List D) : Bool := ds.all fun d => match d with
  | .int _ => true
  | _ => false
def isSigns : List D → Bool
  | [.int a, .int b, .int c] => decide (a = 1) && decide (b = 1) && decide (c = -1)
  | _ => false
def keyT (ds : List D) : Bool := allInt ds && !isSigns ds
def TpAt (K : PySem.W.Frag) (S : Hp) (a : Addr) (xs : List V) (ds : List D) : Prop := SqT K S a xs ∧ (keyT ds = true → S a = some (.tup xs))
theorem tp_of {K : PySem.W.Frag} {S : Hp} {a : Addr} {xs : List V} {ds : List D} (h : S a = some (.tup xs)) : TpAt K S a xs ds := ⟨SqT.of h, fun _ => h⟩
mutual
def DV (K : PySem.W.Frag) (S : Hp) : V → D → Prop
  | v, .none => v = .non
  | v, .bool b => v = .bl b
  | v, .int i => v = .int i
  | v, .str x => v = .str x
  | v, .list ds => ∃ a xs, v = .ref a ∧ LsAt K S a xs ∧ DVs K S xs ds
  | v, .tuple ds => ∃ a xs, v = .ref a ∧ TpAt K S a xs ds ∧ DVs K S xs ds
  | v, .dict kvs => ∃ a, v = .ref a ∧ ((∃ es : List (Key × V), Rd S a (.dK es) ∧ kvs.map (·.1) = es.map (fun e => kD e.1) ∧ DVp K S (es.map (·.2)) kvs) ∨
      (∃ es : List (List Key × V), Rd S a (.dT es) ∧ kvs.map (·.1) = es.map (fun e => PyData.tuple (e.1.map kD)) ∧ DVp K S (es.map (·.2)) kvs))
def DVs (K : PySem.W.Frag) (S : Hp) : List V → List D → Prop
  | [], [] => True
  | v :: vs, d :: ds => DV K S v d ∧ DVs K S vs ds
  | [], _ :: _ => False
  | _ :: _, [] => False
def DVp (K : PySem.W.Frag) (S : Hp) : List V → List (D × D) → Prop
  | [], [] => True
  | v :: vs, (_, d) :: ds => DV K S v d ∧ DVp K S vs ds
  | [], _ :: _ => False
  | _ :: _, [] => False
end
example (K : PySem.W.Frag) (S : Hp) (v : V) (i : Int) : DV K S v (.int i) = (v = .int i) := rfl
theorem DV_tuple (K : PySem.W.Frag) (S : Hp) (v : V) (ds : List D) : DV K S v (.tuple ds) = (∃ a xs, v = .ref a ∧ TpAt K S a xs ds ∧ DVs K S xs ds) := by rw [DV]
mutual
theorem DV.mono {K : PySem.W.Frag} {S S' : Hp} (e : Same S S') : ∀ (d : D) (v : V), DV K S v d → DV K S' v d
  | .none, v, h => by rw [DV] at h ⊢; exact h
  | .bool b, v, h => by rw [DV] at h ⊢; exact h
  | .int b, v, h => by rw [DV] at h ⊢; exact h
  | .str b, v, h => by rw [DV] at h ⊢; exact h
  | .list ds, v, h => by
    rw [DV] at h ⊢
    obtain ⟨a, xs, h1, h2, h3⟩ := h
    exact ⟨a, xs, h1, ls_mono e h2, DVs.mono e ds xs h3⟩
  | .tuple ds, v, h => by
    rw [DV] at h ⊢
    obtain ⟨a, xs, h1, h2, h3⟩ := h
    refine ⟨a, xs, h1, ⟨?_, fun z => e _ _ (h2.2 z)⟩, DVs.mono e ds xs h3⟩
    rcases h2.1 with (h | ⟨o, h⟩) | h
    · exact .inl (.inl (e _ _ h))
    · exact .inl (.inr ⟨o, e _ _ h⟩)
    · exact .inr h
  | .dict kvs, v, h => by
    rw [DV] at h ⊢
    obtain ⟨a, h1, h2⟩ := h
    refine ⟨a, h1, ?_⟩
    rcases h2 with ⟨es, h2, h3, h4⟩ | ⟨es, h2, h3, h4⟩
    · exact .inl ⟨es, rd_same e h2, h3, DVp.mono e kvs _ h4⟩
    · exact .inr ⟨es, rd_same e h2, h3, DVp.mono e kvs _ h4⟩
theorem DVs.mono {K : PySem.W.Frag} {S S' : Hp} (e : Same S S') : ∀ (ds : List D) (vs : List V), DVs K S vs ds → DVs K S' vs ds
  | [], [], _ => by rw [DVs]; trivial
  | d :: ds, v :: vs, h => by
    rw [DVs] at h ⊢
    exact ⟨DV.mono e d v h.1, DVs.mono e ds vs h.2⟩
  | [], _ :: _, h => by rw [DVs] at h; exact h.elim
  | _ :: _, [], h => by rw [DVs] at h; exact h.elim
theorem DVp.mono {K : PySem.W.Frag} {S S' : Hp} (e : Same S S') : ∀ (ds : List (D × D)) (vs : List V), DVp K S vs ds → DVp K S' vs ds
  | [], [], _ => by rw [DVp]; trivial
  | (_, d) :: ds, v :: vs, h => by
    rw [DVp] at h ⊢
    exact ⟨DV.mono e d v h.1, DVp.mono e ds vs h.2⟩
  | [], _ :: _, h => by rw [DVp] at h; exact h.elim
  | _ :: _, [], h => by rw [DVp] at h; exact h.elim
end
end PD
namespace PD
open PySem L2

/-! ### two heaps: what is shared (S) within what is tracked (H) -/
structure Ext (S H S' H' : Hp) : Prop where
  s : Same S S'
  h : Same H H'
  sh : Same S' H'
  old : ∀ x, H x ≠ none → S' x = S x
theorem same_upd {H : Hp} {p : Addr} {o : HO} (h : H p = none) : Same H (upd H p o) := fun b x e => by
  rw [upd_ne (ne_of_none e h)]
  exact e
theorem Ext.refl {S H : Hp} (h : Same S H) : Ext S H S H := ⟨Same.refl S, Same.refl H, h, fun _ _ => rfl⟩
theorem Ext.trans {S H S1 H1 S2 H2 : Hp} (a : Ext S H S1 H1) (b : Ext S1 H1 S2 H2) : Ext S H S2 H2 :=
  ⟨a.s.trans b.s, a.h.trans b.h, b.sh, fun x hx => by
    refine (b.old x ?_).trans (a.old x hx)
    cases e : H x with
    | none => exact absurd e hx
    | some o => rw [a.h x o e]; exact (fun z => nomatch z)⟩
theorem same_upd2 {S H : Hp} {p : Addr} {o : HO} (h : Same S H) : Same (upd S p o) (upd H p o) := fun b x e => by
  by_cases hb : b = p
  · subst hb
    rw [upd_same] at e ⊢
    exact e
  · rw [upd_ne hb] at e ⊢
    exact h b x e
theorem Ext.new {S H : Hp} {p : Addr} {o : HO} (h : Same S H) (hp : H p = none) : Ext S H (upd S p o) (upd H p o) :=
  ⟨same_upd (h.free hp), same_upd hp, same_upd2 h, fun x hx => upd_ne fun z => hx (by rw [z]; exact hp)⟩
theorem Ext.same {S H S' H' : Hp} (x : Ext S H S' H') : Same S H' := x.s.trans x.sh

/-! ### what is wanted of a result -/
def PostG {α W : Type} (mg : Str → Option Value) (E : XK) (S H : Hp) (R : Hp → W → α → Prop) (r : Res α) (Q : W → Hp → Prop) : Prop := match r with
  | .ok a => ∀ w S' H', Ext S H S' H' → R S' w a → Q w H'
  | .err c => ∀ u H', mg c = some u → Same H H' → E u none H'
  | .bad => False
section
variable {α β W Z : Type} {mg : Str → Option Value} {E : XK} {S H S' H' : Hp}
theorem PostG.mono {R : Hp → W → α → Prop} {r : Res α} {Q : W → Hp → Prop} (x : Ext S H S' H') (h : PostG mg E S H R r Q) : PostG mg E S' H' R r Q := by
  cases r with
  | ok a => exact fun w S2 H2 x2 hr => h w S2 H2 (x.trans x2) hr
  | err c => exact fun u H2 e sm => h u H2 e (x.h.trans sm)
  | bad => exact h
theorem PostG.bind {R1 : Hp → W → α → Prop} {R2 : Hp → Z → β → Prop} {r : Res α} {k : α → Res β} {Q : Z → Hp → Prop} {Q1 : W → Hp → Prop} (h : PostG mg E S H R2 (r.bind k) Q)
    (hk : ∀ a w S' H', Ext S H S' H' → R1 S' w a → PostG mg E S' H' R2 (k a) Q → Q1 w H') : PostG mg E S H R1 r Q1 := by
  cases r with
  | ok a => exact fun w S2 H2 x2 hr => hk a w S2 H2 x2 hr (PostG.mono x2 h)
  | err c => exact h
  | bad => exact h
theorem PostG.ok {R : Hp → W → α → Prop} {a : α} {Q : W → Hp → Prop} (h : PostG mg E S H R (.ok a) Q) {w : W} (x : Ext S H S' H') (hr : R S' w a) : Q w H' := h w S' H' x hr
theorem PostG.ok0 {R : Hp → W → α → Prop} {a : α} {Q : W → Hp → Prop} (h : PostG mg E S H R (.ok a) Q) {w : W} (x : Same S H) (hr : R S w a) : Q w H := h w S H (Ext.refl x) hr
end

/-! ### slots -/
inductive Slot where
  | un
  | d (x : D)
  | own (xs : List D)
  | ownK (kvs : List (Key × D))
  | ownT (kvs : List (List Key × D))
  | raw (v : V)
abbrev DEnv := List Slot
structure RelE (K : PySem.W.Frag) (S H : Hp) (σ : St) (ρ : DEnv) : Prop where
  sh : Same S H
  len : σ.length = ρ.length
  dt : ∀ (i : Nat) (x : D), ρ[i]? = some (Slot.d x) → ∃ v, σ[i]? = some (some v) ∧ DV K S v x
  rw : ∀ (i : Nat) (v : V), ρ[i]? = some (Slot.raw v) → σ[i]? = some (some v)
theorem RelE.mono {K : PySem.W.Frag} {S H S' H' : Hp} {σ : St} {ρ : DEnv} (r : RelE K S H σ ρ) (x : Ext S H S' H') : RelE K S' H' σ ρ :=
  ⟨x.sh, r.len, fun i y e => let ⟨v, h1, h2⟩ := r.dt i y e; ⟨v, h1, h2.mono x.s⟩, r.rw⟩

/-! ### judgements -/
abbrev EqB : Hp → Bool → Bool → Prop := fun _ b c => b = c
structure PD (K : PySem.W.Frag) (mg : Str → Option Value) (X : Cx) (E : XK) (e : Expr) (t : TE) (f : DEnv → Res D) : Prop where
  pe : PE X e t
  sd : ∀ (S H : Hp) (σ : St) (ρ : DEnv) (Q : VK), RelE K S H σ ρ → PostG mg E S H (DV K) (f ρ) Q → t σ H Q
structure TD (K : PySem.W.Frag) (mg : Str → Option Value) (X : Cx) (E : XK) (e : Expr) (t : TT) (f : DEnv → Res Bool) : Prop where
  pe : PT X e t
  sd : ∀ (S H : Hp) (σ : St) (ρ : DEnv) (Q : Bool → Hp → Prop), RelE K S H σ ρ → PostG mg E S H EqB (f ρ) Q → t σ H Q
structure WD (K : PySem.W.Frag) (mg : Str → Option Value) (X : Cx) (E : XK) (e : Expr) (t : TT) (f : DEnv → Res Bool) : Prop where
  pe : PW X e t
  sd : ∀ (S H : Hp) (σ : St) (ρ : DEnv) (Q : Bool → Hp → Prop), RelE K S H σ ρ → PostG mg E S H EqB (f ρ) Q → t σ H Q
structure AD (K : PySem.W.Frag) (mg : Str → Option Value) (X : Cx) (E : XK) (es : List Expr) (t : TA) (f : DEnv → Res (List D)) : Prop where
  pe : PA X es t
  sd : ∀ (S H : Hp) (σ : St) (ρ : DEnv) (Q : List V → Hp → Prop), RelE K S H σ ρ → PostG mg E S H (DVs K) (f ρ) Q → t σ H Q

section
variable {K : PySem.W.Frag} {mg : Str → Option Value} {X : Cx} {E : XK}
/-! ### names, constants -/
def fVar (i : Nat) : DEnv → Res D := fun ρ => match ρ[i]? with
  | some (Slot.d x) => .ok x
  | _ => .bad
theorem pd_var (i : Nat) {x : Str} {pos : Pos} (h : PE X (.Name x pos) (tVar i)) : PD K mg X E (.Name x pos) (tVar i) (fVar i) := ⟨h, fun S H σ ρ Q r h => by
  unfold fVar at h
  split at h
  · rename_i x e
    obtain ⟨v, h1, h2⟩ := r.dt i x e
    exact ⟨v, h1, h.ok0 r.sh h2⟩
  · exact h.elim⟩
theorem pdv (i : Nat) {x : Str} {pos : Pos} (hN : X.N[i]? = some x := by rfl) (hv : Vis X.env.scope x := by first | exact Or.inl rfl | exact Or.inr (Or.inl rfl) | exact Or.inr (Or.inr rfl)) (hd : (x == ("__debug__" : Str)) = false := by decide)
    (hcd : (x == ("__classdict__" : Str)) = false := by decide) : PD K mg X E (.Name x pos) (tVar i) (fVar i) := pd_var i (pe_var hN hv hd hcd)
def fC (d : D) : DEnv → Res D := fun _ => .ok d
theorem pd_c {e : Expr} {v : V} {d : D} (h : PE X e (tC v)) (hd : ∀ S, DV K S v d) : PD K mg X E e (tC v) (fC d) := ⟨h, fun S H σ ρ Q r h => h.ok0 r.sh (hd S)⟩
theorem pd_int {i j pos} : PD K mg X E (.Constant (.int i) j pos) (tC (.int i)) (fC (.int i)) := pd_c pe_int fun _ => rfl
theorem pd_bl {b j pos} : PD K mg X E (.Constant (.bool b) j pos) (tC (.bl b)) (fC (.bool b)) := pd_c pe_bl fun _ => rfl
theorem pd_non {j pos} : PD K mg X E (.Constant .none j pos) (tC .non) (fC .none) := pd_c pe_non fun _ => rfl
theorem pd_str {x j pos} : PD K mg X E (.Constant (.str x) j pos) (tC (.str x)) (fC (.str x)) := pd_c pe_str fun _ => rfl

/-! ### operators -/
def OpS (K : PySem.W.Frag) (mg : Str → Option Value) (E : XK) (r : R2) (g : D → D → Res D) : Prop := ∀ (S H : Hp) (x y : V) (a b : D) (Q : VK), Same S H → DV K S x a → DV K S y b → PostG mg E S H (DV K) (g a b) Q → r x y H Q
def fBin (g : D → D → Res D) (f1 f2 : DEnv → Res D) : DEnv → Res D := fun ρ => (f1 ρ).bind fun a => (f2 ρ).bind fun b => g a b
variable {a b c : Expr} {ta tb tc : TE} {fa fb fc : DEnv → Res D} {pos : Pos}
theorem bin_sd {r : R2} {g : D → D → Res D} (hs : OpS K mg E r g) (ha : PD K mg X E a ta fa) (hb : PD K mg X E b tb fb) (S H : Hp) (σ : St) (ρ : DEnv) (Q : VK) (rl : RelE K S H σ ρ)
    (h : PostG mg E S H (DV K) (fBin g fa fb ρ) Q) : tOp r ta tb σ H Q := by
  refine ha.sd S H σ ρ _ rl (h.bind fun x v S1 H1 x1 d1 h1 => ?_)
  refine hb.sd S1 H1 σ ρ _ (rl.mono x1) (h1.bind fun y u S2 H2 x2 d2 h2 => ?_)
  exact hs S2 H2 v u x y Q x2.sh (d1.mono x2.s) d2 h2
theorem pd_op {op : Operator} {r : R2} {g : D → D → Res D} (ho : OpR X (binaryOp op) r) (hs : OpS K mg E r g) (ha : PD K mg X E a ta fa) (hb : PD K mg X E b tb fb) : PD K mg X E (.BinOp a op b pos) (tOp r ta tb) (fBin g fa fb) :=
  ⟨pe_op ho ha.pe hb.pe, bin_sd hs ha hb⟩
theorem pd_cmp {op : CmpOp} {r : R2} {g : D → D → Res D} (ho : OpR X (compareOp op) r) (hs : OpS K mg E r g) (ha : PD K mg X E a ta fa) (hb : PD K mg X E b tb fb) (hm : behindInMarks op b = false := by first | exact nomark _ | rfl) :
    PD K mg X E (.Compare a [op] [b] pos) (tOp r ta tb) (fBin g fa fb) := ⟨pe_cmpR ho ha.pe hb.pe hm, bin_sd hs ha hb⟩
/-- the truth of a value that is a bool -/
def asB : D → Res Bool
  | .bool b => .ok b
  | _ => .bad
def fTest (f : DEnv → Res D) : DEnv → Res Bool := fun ρ => (f ρ).bind asB
theorem test_sd {e : Expr} {te : TE} {f : DEnv → Res D} (he : PD K mg X E e te f) (S H : Hp) (σ : St) (ρ : DEnv) (Q : Bool → Hp → Prop) (rl : RelE K S H σ ρ) (h : PostG mg E S H EqB (fTest f ρ) Q) : te σ H fun x H1 => ∃ k, x = .bl k ∧ Q k H1 := by
  refine he.sd S H σ ρ _ rl (h.bind fun x v S1 H1 x1 d1 h1 => ?_)
  cases x with
  | bool k => exact ⟨k, d1, h1.ok0 x1.sh rfl⟩
  | _ => exact h1.elim
theorem td_cmp {op : CmpOp} {r : R2} {g : D → D → Res D} (ho : OpR X (compareOp op) r) (hs : OpS K mg E r g) (ha : PD K mg X E a ta fa) (hb : PD K mg X E b tb fb) (hm : behindInMarks op b = false := by first | exact nomark _ | rfl) :
    TD K mg X E (.Compare a [op] [b] pos) (tTest (tOp r ta tb)) (fTest (fBin g fa fb)) :=
  ⟨pt_cmpR ho ha.pe hb.pe hm, fun S H σ ρ Q rl h => test_sd (pd_cmp (pos := pos) ho hs ha hb hm) S H σ ρ Q rl h⟩
theorem td_val {e : Expr} {te : TE} {f : DEnv → Res D} (he : PD K mg X E e te f) (hw : ∀ whole, isTrue e X.env whole = (do let v ← whole; standAt e.pos; holding [v] (truthy v)) := by intro _; rfl) : TD K mg X E e (tB te) (fTest f) :=
  ⟨pt_val he.pe hw, fun S H σ ρ Q rl h => test_sd he S H σ ρ Q rl h⟩
/-! ### not, and, or, if else -/
def fNot (f : DEnv → Res Bool) : DEnv → Res Bool := fun ρ => (f ρ).bind fun b => .ok (!b)
theorem td_not {tA : TT} {f : DEnv → Res Bool} (ha : TD K mg X E a tA f) : TD K mg X E (.UnaryOp .Not a pos) (tNot tA) (fNot f) :=
  ⟨pt_not ha.pe, fun S H σ ρ Q rl h => ha.sd S H σ ρ _ rl (h.bind fun b w S1 H1 x1 e h1 => by cases e; exact h1.ok0 x1.sh rfl)⟩
def fAnd (f g : DEnv → Res Bool) : DEnv → Res Bool := fun ρ => (f ρ).bind fun b => if b = true then g ρ else .ok false
def fOr (f g : DEnv → Res Bool) : DEnv → Res Bool := fun ρ => (f ρ).bind fun b => if b = true then .ok true else g ρ
variable {tA tB' : TT} {gA gB : DEnv → Res Bool} {rest : List Expr}
theorem WD.td {e : Expr} {t : TT} {f : DEnv → Res Bool} (h : WD K mg X E e t f) : TD K mg X E e t f := ⟨h.pe.pt, h.sd⟩
theorem wd_and1 (ha : TD K mg X E a tA gA) : WD K mg X E (.BoolOp .And [a] pos) tA gA := ⟨pw_and1 ha.pe, ha.sd⟩
theorem wd_or1 (ha : TD K mg X E a tA gA) : WD K mg X E (.BoolOp .Or [a] pos) tA gA := ⟨pw_or1 ha.pe, ha.sd⟩
theorem wd_and (ha : TD K mg X E a tA gA) (hb : WD K mg X E (.BoolOp .And (b :: rest) pos) tB' gB) : WD K mg X E (.BoolOp .And (a :: b :: rest) pos) (tAnd tA tB') (fAnd gA gB) :=
  ⟨pw_and ha.pe hb.pe, fun S H σ ρ Q rl h => ha.sd S H σ ρ _ rl (h.bind fun k w S1 H1 x1 e h1 => by
    cases e
    cases k with
    | true => exact hb.sd S1 H1 σ ρ Q (rl.mono x1) h1
    | false => exact h1.ok0 x1.sh rfl)⟩
theorem wd_or (ha : TD K mg X E a tA gA) (hb : WD K mg X E (.BoolOp .Or (b :: rest) pos) tB' gB) : WD K mg X E (.BoolOp .Or (a :: b :: rest) pos) (tOr tA tB') (fOr gA gB) :=
  ⟨pw_or ha.pe hb.pe, fun S H σ ρ Q rl h => ha.sd S H σ ρ _ rl (h.bind fun k w S1 H1 x1 e h1 => by
    cases e
    cases k with
    | false => exact hb.sd S1 H1 σ ρ Q (rl.mono x1) h1
    | true => exact h1.ok0 x1.sh rfl)⟩
/-- .. as values, bools -/
def fAndV (f g : DEnv → Res D) : DEnv → Res D := fun ρ => (fTest f ρ).bind fun b => if b = true then g ρ else .ok (.bool false)
def fOrV (f g : DEnv → Res D) : DEnv → Res D := fun ρ => (fTest f ρ).bind fun b => if b = true then .ok (.bool true) else g ρ
def fNotV (f : DEnv → Res D) : DEnv → Res D := fun ρ => (fTest f ρ).bind fun b => .ok (.bool !b)
theorem pd_one {op} {t : TE} (h : PD K mg X E a t fa) : PD K mg X E (.BoolOp op [a] pos) t fa := ⟨pe_one h.pe, h.sd⟩
theorem pd_and (ha : PD K mg X E a ta fa) (hb : PD K mg X E (.BoolOp .And (b :: rest) pos) tb fb) : PD K mg X E (.BoolOp .And (a :: b :: rest) pos) (tAndV ta tb) (fAndV fa fb) :=
  ⟨pe_and ha.pe hb.pe, fun S H σ ρ Q rl h => by
    refine ha.sd S H σ ρ _ rl ?_
    unfold fAndV fTest at h
    cases e : fa ρ with
    | bad => rw [e] at h; exact h
    | err c => rw [e] at h; exact h
    | ok x =>
      rw [e] at h
      intro v S1 H1 x1 d1
      cases x with
      | bool k =>
        refine ⟨k, d1, ?_⟩
        cases k with
        | true => exact hb.sd S1 H1 σ ρ Q (rl.mono x1) (h.mono x1)
        | false => exact PostG.ok0 (PostG.mono x1 h) x1.sh rfl
      | _ => exact h.elim⟩
theorem pd_or (ha : PD K mg X E a ta fa) (hb : PD K mg X E (.BoolOp .Or (b :: rest) pos) tb fb) : PD K mg X E (.BoolOp .Or (a :: b :: rest) pos) (tOrV ta tb) (fOrV fa fb) :=
  ⟨pe_or ha.pe hb.pe, fun S H σ ρ Q rl h => by
    refine ha.sd S H σ ρ _ rl ?_
    unfold fOrV fTest at h
    cases e : fa ρ with
    | bad => rw [e] at h; exact h
    | err c => rw [e] at h; exact h
    | ok x =>
      rw [e] at h
      intro v S1 H1 x1 d1
      cases x with
      | bool k =>
        refine ⟨k, d1, ?_⟩
        cases k with
        | false => exact hb.sd S1 H1 σ ρ Q (rl.mono x1) (h.mono x1)
        | true => exact PostG.ok0 (PostG.mono x1 h) x1.sh rfl
      | _ => exact h.elim⟩
theorem pd_not (ha : PD K mg X E a ta fa) : PD K mg X E (.UnaryOp .Not a pos) (tNotV ta) (fNotV fa) :=
  ⟨pe_not ha.pe, fun S H σ ρ Q rl h => by
    refine ha.sd S H σ ρ _ rl ?_
    unfold fNotV fTest at h
    cases e : fa ρ with
    | bad => rw [e] at h; exact h
    | err c => rw [e] at h; exact h
    | ok x =>
      rw [e] at h
      intro v S1 H1 x1 d1
      cases x with
      | bool k => exact ⟨k, d1, PostG.ok0 (PostG.mono x1 h) x1.sh rfl⟩
      | _ => exact h.elim⟩
def fIf (g : DEnv → Res Bool) (f1 f2 : DEnv → Res D) : DEnv → Res D := fun ρ => (g ρ).bind fun b => if b = true then f1 ρ else f2 ρ
theorem pd_if (hc : TD K mg X E c tA gA) (ha : PD K mg X E a ta fa) (hb : PD K mg X E b tb fb) : PD K mg X E (.IfExp c a b pos) (tIf tA ta tb) (fIf gA fa fb) :=
  ⟨pe_ifExp hc.pe ha.pe hb.pe, fun S H σ ρ Q rl h => hc.sd S H σ ρ _ rl (h.bind fun k w S1 H1 x1 e h1 => by
    cases e
    cases k with
    | true => exact ha.sd S1 H1 σ ρ Q (rl.mono x1) h1
    | false => exact hb.sd S1 H1 σ ρ Q (rl.mono x1) h1)⟩
/-! ### arguments, displays -/
def fNil : DEnv → Res (List D) := fun _ => .ok []
def fCons (f : DEnv → Res D) (g : DEnv → Res (List D)) : DEnv → Res (List D) := fun ρ => (f ρ).bind fun x => (g ρ).bind fun xs => .ok (x :: xs)
theorem ad_nil : AD K mg X E [] tNil fNil := ⟨pa_nil, fun S H σ ρ Q rl h => h.ok0 rl.sh trivial⟩
theorem ad_cons {e : Expr} {es : List Expr} {te : TE} {t : TA} {f : DEnv → Res D} {g : DEnv → Res (List D)} (ha : PD K mg X E e te f) (hr : AD K mg X E es t g) (hs : starEach (e :: es) X.env = (false, eval e X.env) :: starEach es X.env := by rfl) :
    AD K mg X E (e :: es) (tCons te t) (fCons f g) := ⟨pa_cons ha.pe hr.pe hs, fun S H σ ρ Q rl h => by
  refine ha.sd S H σ ρ _ rl (h.bind fun x v S1 H1 x1 d1 h1 => ?_)
  refine hr.sd S1 H1 σ ρ _ (rl.mono x1) (h1.bind fun xs vs S2 H2 x2 d2 h2 => ?_)
  exact h2.ok0 x2.sh ⟨d1.mono x2.s, d2⟩⟩
theorem DVs.length {K : PySem.W.Frag} {S : Hp} : ∀ {vs : List V} {ds : List D}, DVs K S vs ds → vs.length = ds.length
  | [], [], _ => rfl
  | _ :: vs, _ :: ds, h => congrArg (· + 1) (DVs.length (vs := vs) (ds := ds) h.2)
  | [], _ :: _, h => h.elim
  | _ :: _, [], h => h.elim
def lenOk (n : Nat) : Bool := decide (n ≤ 1000000)
theorem lenOk.le {n : Nat} (h : lenOk n = true) : n ≤ sizeLine := Nat.le_trans (of_decide_eq_true h) (by decide)
theorem lenOk.lt {n : Nat} (h : lenOk n = true) : n < sizeLine := Nat.lt_of_le_of_lt (of_decide_eq_true h) (by decide)
def mkT (xs : List D) : Res D := if lenOk xs.length = true then .ok (.tuple xs) else .bad
def mkL (xs : List D) : Res D := if lenOk xs.length = true then .ok (.list xs) else .bad
def fTup (g : DEnv → Res (List D)) : DEnv → Res D := fun ρ => (g ρ).bind mkT
def fLst (g : DEnv → Res (List D)) : DEnv → Res D := fun ρ => (g ρ).bind mkL
/-- a new tuple, a new list -/
theorem new_tup {S H : Hp} {xs : List V} {ds : List D} {Q : VK} {p : Addr} (sh : Same S H) (d : DVs K S xs ds) (h : PostG mg E S H (DV K) (.ok (.tuple ds)) Q) (hp : H p = none) : Q (.ref p) (upd H p (.tup xs)) :=
  h.ok (Ext.new sh hp) ⟨p, xs, rfl, tp_of upd_same, d.mono (same_upd (sh.free hp))⟩
theorem new_lst {S H : Hp} {xs : List V} {ds : List D} {Q : VK} {p : Addr} (sh : Same S H) (d : DVs K S xs ds) (h : PostG mg E S H (DV K) (.ok (.list ds)) Q) (hp : H p = none) : Q (.ref p) (upd H p (.lst xs)) :=
  h.ok (Ext.new sh hp) ⟨p, xs, rfl, ls_of upd_same, d.mono (same_upd (sh.free hp))⟩
theorem pd_tup {es : List Expr} {t : TA} {g : DEnv → Res (List D)} {k} (h : AD K mg X E es t g) : PD K mg X E (.Tuple es k pos) (tTup t) (fTup g) := ⟨pe_tup h.pe, fun S H σ ρ Q rl hp => by
  refine h.sd S H σ ρ _ rl (hp.bind fun ds vs S1 H1 x1 d1 h1 => ?_)
  unfold mkT at h1
  split at h1
  · rename_i hz
    exact ⟨by rw [d1.length]; exact lenOk.le hz, fun p hn => new_tup (S := S1) x1.sh d1 h1 hn⟩
  · exact h1.elim⟩
theorem pd_lst {es : List Expr} {t : TA} {g : DEnv → Res (List D)} (h : AD K mg X E es t g) : PD K mg X E (.List es pos) (tLst t) (fLst g) := ⟨pe_lst h.pe, fun S H σ ρ Q rl hp => by
  refine h.sd S H σ ρ _ rl (hp.bind fun ds vs S1 H1 x1 d1 h1 => ?_)
  unfold mkL at h1
  split at h1
  · rename_i hz
    exact ⟨by rw [d1.length]; exact lenOk.le hz, fun p hn => new_lst (S := S1) x1.sh d1 h1 hn⟩
  · exact h1.elim⟩
/-! ### calls -/
/-- the promise of a def that is a function of data -/
def spD (K : PySem.W.Frag) (mg : Str → Option Value) (n : Nat) (F : List D → Res D) : Sp := fun vs H Q E => ∃ S ds, Same S H ∧ DVs K S vs ds ∧ vs.length = n ∧ PostG mg E S H (DV K) (F ds) Q
def fCall (n : Nat) (F : List D → Res D) (g : DEnv → Res (List D)) : DEnv → Res D := fun ρ => (g ρ).bind fun ds => if ds.length = n then F ds else .bad
theorem pd_call {n k : Nat} {f : Addr} {fd : FuncData} {ps : List Str} {F : List D → Res D} {x : Str} {p : Pos} {e : Expr} {es : List Expr} {t : TA} {g : DEnv → Res (List D)} (G : FnOk X.prog X.w X.K X.mg X.base (L2.CX X.prog X.w) k f fd ps (spD K mg n F)) (hr : Room k X.A) (hg : Gl X x) (hm : X.mg x = some (.ref f)) (hk : PySem.W.keepIn X.K (.ref f) = true)
    (hb : Binds X.K fd ps []) (hx : Passes (L2.CX X.prog X.w) X E) (ha : AD K mg X E (e :: es) t g) (hdb : (x == ("__debug__" : Str)) = false := by decide) (he : starEach (e :: es) X.env = (false, eval e X.env) :: starEach es X.env := by rfl)
    (hpl : (backTo pos (starEach es X.env)).any (·.1) = false := by rfl) : PD K mg X E (.Call (.Name x p) (e :: es) [] pos) (tCall (spD K mg n F) [] E t) (fCall n F g) :=
  ⟨pe_call G hr hg hm hk hb .nil hx ha.pe hdb he hpl, fun S H σ ρ Q rl h => by
    refine ha.sd S H σ ρ _ rl (h.bind fun ds vs S1 H1 x1 d1 h1 => ?_)
    split at h1
    · rename_i hn
      refine ⟨S1, ds, x1.sh, by rw [List.append_nil]; exact d1, by rw [List.append_nil, d1.length]; exact hn, h1⟩
    · exact h1.elim⟩
theorem pd_call0 {k : Nat} {f : Addr} {fd : FuncData} {ps : List Str} {F : List D → Res D} {x : Str} {p : Pos} (G : FnOk X.prog X.w X.K X.mg X.base (L2.CX X.prog X.w) k f fd ps (spD K mg 0 F)) (hr : Room k X.A) (hg : Gl X x) (hm : X.mg x = some (.ref f)) (hk : PySem.W.keepIn X.K (.ref f) = true)
    (hb : Binds X.K fd ps []) (hx : Passes (L2.CX X.prog X.w) X E) (hdb : (x == ("__debug__" : Str)) = false := by decide) : PD K mg X E (.Call (.Name x p) [] [] pos) (tCall (spD K mg 0 F) [] E tNil) (fCall 0 F fNil) :=
  ⟨pe_call0 G hr hg hm hk hb .nil hx hdb, fun S H σ ρ Q rl h => ⟨S, [], rl.sh, trivial, rfl, h⟩⟩
/-! ### builtins by values -/
def CaS (K : PySem.W.Frag) (mg : Str → Option Value) (E : XK) (r : List V → Hp → VK → Prop) (g : List D → Res D) : Prop := ∀ (S H : Hp) (xs : List V) (ds : List D) (Q : VK), Same S H → DVs K S xs ds → PostG mg E S H (DV K) (g ds) Q → r xs H Q
def fB (g : List D → Res D) (f : DEnv → Res (List D)) : DEnv → Res D := fun ρ => (f ρ).bind g
variable {e : Expr} {es : List Expr} {t : TA} {ga : DEnv → Res (List D)} {x : Str} {p : Pos}
theorem cb_sd {r : List V → Hp → VK → Prop} {g : List D → Res D} (hs : CaS K mg E r g) (ha : AD K mg X E es t ga) (S H : Hp) (σ : St) (ρ : DEnv) (Q : VK) (rl : RelE K S H σ ρ) (h : PostG mg E S H (DV K) (fB g ga ρ) Q) : tCB r t σ H Q :=
  ha.sd S H σ ρ _ rl (h.bind fun ds vs S1 H1 x1 d1 h1 => hs S1 H1 vs ds Q x1.sh d1 h1)
theorem pd_callB {id : String} {r : List V → Hp → VK → Prop} {g : List D → Res D} (hc : CallR X (.builtin id) r) (hs : CaS K mg E r g) (hg : Gl X x) (hm : X.mg x = none) (hv : bootBuiltins x = some (.builtin id)) (ha : AD K mg X E (e :: es) t ga) (hn : x ≠ "__name__" := by decide) (hdb : (x == ("__debug__" : Str)) = false := by decide)
    (he : starEach (e :: es) X.env = (false, eval e X.env) :: starEach es X.env := by rfl) (hpl : (backTo pos (starEach es X.env)).any (·.1) = false := by rfl) : PD K mg X E (.Call (.Name x p) (e :: es) [] pos) (tCB r t) (fB g ga) :=
  ⟨pe_callB hc hg hm hv ha.pe hn hdb he hpl, cb_sd hs ha⟩
theorem pd_callTy {T : String} {r : List V → Hp → VK → Prop} {g : List D → Res D} (hc : CallR X (.type T) r) (hs : CaS K mg E r g) (hg : Gl X x) (hm : X.mg x = none) (hv : bootBuiltins x = some (.type T)) (ha : AD K mg X E (e :: es) t ga) (hn : x ≠ "__name__" := by decide) (hdb : (x == ("__debug__" : Str)) = false := by decide)
    (he : starEach (e :: es) X.env = (false, eval e X.env) :: starEach es X.env := by rfl) (hpl : (backTo pos (starEach es X.env)).any (·.1) = false := by rfl) : PD K mg X E (.Call (.Name x p) (e :: es) [] pos) (tCB r t) (fB g ga) :=
  ⟨pe_callTy hc hg hm hv ha.pe hn hdb he hpl, cb_sd hs ha⟩
/-! ### subscripts -/
theorem pd_ix {r : R2} {g : D → D → Res D} (hr : IxR X r) (hs : OpS K mg E r g) (ha : PD K mg X E a ta fa) (hb : PD K mg X E b tb fb) (hp : PlainIx b := by exact fun _ _ => rfl) : PD K mg X E (.Subscript a b pos) (tOp r ta tb) (fBin g fa fb) :=
  ⟨pe_ix hr ha.pe hb.pe hp, bin_sd hs ha hb⟩
def SlS (K : PySem.W.Frag) (mg : Str → Option Value) (E : XK) (r : V → Option Int → Option Int → Hp → VK → Prop) (g : D → Option Int → Option Int → Res D) : Prop := ∀ (S H : Hp) (x : V) (lo hi : Option Int) (a : D) (Q : VK), Same S H → DV K S x a → PostG mg E S H (DV K) (g a lo hi) Q → r x lo hi H Q
abbrev EqO : Hp → Option Int → Option Int → Prop := fun _ b c => b = c
structure OD (K : PySem.W.Frag) (mg : Str → Option Value) (X : Cx) (E : XK) (e : Option Expr) (t : TO) (f : DEnv → Res (Option Int)) : Prop where
  pe : PO X e t
  sd : ∀ (S H : Hp) (σ : St) (ρ : DEnv) (Q : Option Int → Hp → Prop), RelE K S H σ ρ → PostG mg E S H EqO (f ρ) Q → t σ H Q
def fNoPart : DEnv → Res (Option Int) := fun _ => .ok none
def asI : D → Res (Option Int)
  | .int i => .ok (some i)
  | _ => .bad
def fPart (f : DEnv → Res D) : DEnv → Res (Option Int) := fun ρ => (f ρ).bind asI
theorem od_none : OD K mg X E none tNoPart fNoPart := ⟨po_none, fun S H σ ρ Q rl h => h.ok0 rl.sh rfl⟩
theorem od_some (ha : PD K mg X E a ta fa) : OD K mg X E (some a) (tPart ta) (fPart fa) := ⟨po_some ha.pe, fun S H σ ρ Q rl h => ha.sd S H σ ρ _ rl (h.bind fun y v S1 H1 x1 d1 h1 => by
  cases y with
  | int i => exact ⟨i, d1, h1.ok0 x1.sh rfl⟩
  | _ => exact h1.elim)⟩
def fSl (g : D → Option Int → Option Int → Res D) (f : DEnv → Res D) (fl fh : DEnv → Res (Option Int)) : DEnv → Res D := fun ρ => (f ρ).bind fun x => (fl ρ).bind fun lo => (fh ρ).bind fun hi => g x lo hi
theorem pd_slice {r : V → Option Int → Option Int → Hp → VK → Prop} {g : D → Option Int → Option Int → Res D} {lo hi : Option Expr} {tl th : TO} {fl fh : DEnv → Res (Option Int)} {p2 : Pos} (hr : SlR X r) (hs : SlS K mg E r g) (ha : PD K mg X E a ta fa) (hl : OD K mg X E lo tl fl) (hh : OD K mg X E hi th fh) :
    PD K mg X E (.Subscript a (.Slice lo hi none p2) pos) (tSl r ta tl th) (fSl g fa fl fh) := ⟨pe_slice hr ha.pe hl.pe hh.pe, fun S H σ ρ Q rl h => by
  refine ha.sd S H σ ρ _ rl (h.bind fun y v S1 H1 x1 d1 h1 => ?_)
  refine hl.sd S1 H1 σ ρ _ (rl.mono x1) (h1.bind fun l w S2 H2 x2 e2 h2 => ?_)
  cases e2
  refine hh.sd S2 H2 σ ρ _ ((rl.mono x1).mono x2) (h2.bind fun u w' S3 H3 x3 e3 h3 => ?_)
  cases e3
  exact hs S3 H3 v l u y Q x3.sh ((d1.mono x2.s).mono x3.s) h3⟩
/-- a chain of two comparisons -/
def fChain (g g' : D → D → Res D) (f1 f2 f3 : DEnv → Res D) : DEnv → Res D := fun ρ => (f1 ρ).bind fun x => (f2 ρ).bind fun y => (g x y).bind fun z => (asB z).bind fun k => if k = true then (f3 ρ).bind fun w => g' y w else .ok (.bool false)
theorem asB_bind {β : Type} {z : D} {k : Bool → Res β} {mg : Str → Option Value} {S H : Hp} {W : Type} {R : Hp → W → β → Prop} {Q : W → Hp → Prop} (h : PostG mg E S H R ((asB z).bind k) Q) : ∃ b, z = .bool b ∧ PostG mg E S H R (k b) Q := by
  cases z with
  | bool b => exact ⟨b, rfl, h⟩
  | _ => exact h.elim
theorem chain_sd {r r' : R2} {g g' : D → D → Res D} (hs : OpS K mg E r g) (hs' : OpS K mg E r' g') (ha : PD K mg X E a ta fa) (hb : PD K mg X E b tb fb) (hc : PD K mg X E c tc fc) (S H : Hp) (σ : St) (ρ : DEnv) (Q : VK) (rl : RelE K S H σ ρ)
    (h : PostG mg E S H (DV K) (fChain g g' fa fb fc ρ) Q) : tChain r r' ta tb tc σ H Q := by
  refine ha.sd S H σ ρ _ rl (h.bind fun x v S1 H1 x1 d1 h1 => ?_)
  refine hb.sd S1 H1 σ ρ _ (rl.mono x1) (h1.bind fun y u S2 H2 x2 d2 h2 => ?_)
  refine hs S2 H2 v u x y _ x2.sh (d1.mono x2.s) d2 (h2.bind fun z w S3 H3 x3 d3 h3 => ?_)
  obtain ⟨k, rfl, h3⟩ := asB_bind h3
  refine ⟨k, d3, ?_⟩
  cases k with
  | true =>
    refine hc.sd S3 H3 σ ρ _ (((rl.mono x1).mono x2).mono x3) (PostG.bind h3 fun w2 u2 S4 H4 x4 d4 h4 => ?_)
    exact hs' S4 H4 u u2 y w2 Q x4.sh ((d2.mono x3.s).mono x4.s) d4 h4
  | false => exact h3.ok0 x3.sh rfl
end
end PD
namespace PD
open PySem L2
theorem hU {k : Nat} {A : Around} (r : Room k A) : A.units + 65 < cLine := by have := r.un; omega
theorem hU4 {A : Around} (h : A.units + 65 < cLine) : A.units + 64 < cLine := by omega
/-! ### data for the library's comparison -/
theorem same_t {K : PySem.W.Frag} {H H' : Hp} {a : Addr} {xs : List V} (e : Same H H') (h : SqT K H a xs) : SqT K H' a xs := by
  rcases h with (h | ⟨o, h⟩) | h
  · exact .inl (.inl (e _ _ h))
  · exact .inl (.inr ⟨o, e _ _ h⟩)
  · exact .inr h
mutual
theorem DV.dp {K : PySem.W.Frag} {S H : Hp} (e : Same S H) : ∀ (d : D) (v : V), d.canLay0 = true → DV K S v d → Dp K H v d
  | .none, v, _, h => by rw [DV] at h; subst h; exact .non
  | .bool b, v, _, h => by rw [DV] at h; subst h; exact .bl b
  | .int i, v, _, h => by rw [DV] at h; subst h; exact .int i
  | .str x, v, _, h => by rw [DV] at h; subst h; exact .str x
  | .list ds, v, c, h => by
    rw [DV] at h
    obtain ⟨a, xs, rfl, h2, h3⟩ := h
    exact .lst (ls_sq (ls_mono e h2)) (DVs.dp e ds xs (by rw [PyData.canLay0] at c; exact c) h3)
  | .tuple ds, v, c, h => by
    rw [DV] at h
    obtain ⟨a, xs, rfl, h2, h3⟩ := h
    exact .tup (same_t e h2.1) (DVs.dp e ds xs (by rw [PyData.canLay0] at c; exact c) h3)
  | .dict kvs, v, c, h => by rw [PyData.canLay0] at c; cases c
theorem DVs.dp {K : PySem.W.Frag} {S H : Hp} (e : Same S H) : ∀ (ds : List D) (vs : List V), PyData.canLayAll0 ds = true → DVs K S vs ds → DpAll K H vs ds
  | [], [], _, _ => .nil
  | d :: ds, v :: vs, c, h => by
    rw [PyData.canLayAll0, Bool.and_eq_true] at c
    exact .cons (DV.dp e d v c.1 h.1) (DVs.dp e ds vs c.2 h.2)
  | [], _ :: _, _, h => h.elim
  | _ :: _, [], _, h => h.elim
end
theorem dp_of {K : PySem.W.Frag} {S H : Hp} {d : D} {v : V} (e : Same S H) (c : SeqAt.shaped d = true) (h : DV K S v d) : Dp K H v d := DV.dp e d v (SeqAt.canLay_of_shaped c) h
theorem and_split {a b : Bool} (h : (a && b) = true) : a = true ∧ b = true := by rw [Bool.and_eq_true] at h; exact h
section
variable {K : PySem.W.Frag} {mg : Str → Option Value} {X : Cx} {E : XK}
theorem OpR.imp {f : Value → Value → Sem Value} {r r' : R2} (h : OpR X f r) (i : ∀ x y H Q, r' x y H Q → r x y H Q) : OpR X f r' := fun pins s σ H x y v u Q I rx ry q => h pins s σ H x y v u Q I rx ry (i x y H Q q)
theorem OpS.or {r r' : R2} {g : D → D → Res D} (h : ∀ (S H : Hp) (x y : V) (a b : D) (Q : VK), Same S H → DV K S x a → DV K S y b → PostG mg E S H (DV K) (g a b) Q → r x y H Q ∨ r' x y H Q) : OpS K mg E (fun x y H Q => r x y H Q ∨ r' x y H Q) g := h
/-! ### == and != -/
def gEq (a b : D) : Res D := if (SeqAt.shaped a && SeqAt.shaped b) = true then .ok (.bool (PyData.eqv a b)) else .bad
def gNe (a b : D) : Res D := if (SeqAt.shaped a && SeqAt.shaped b) = true then .ok (.bool (!PyData.eqv a b)) else .bad
theorem os_eq : OpS K mg E (rEqD K) gEq := fun S H x y a b Q sh dx dy h => by
  unfold gEq at h
  split at h
  · rename_i c
    obtain ⟨c1, c2⟩ := and_split c
    exact ⟨a, b, dp_of sh c1 dx, dp_of sh c2 dy, c1, c2, h.ok0 sh rfl⟩
  · exact h.elim
theorem os_ne : OpS K mg E (rNeD K) gNe := fun S H x y a b Q sh dx dy h => by
  unfold gNe at h
  split at h
  · rename_i c
    obtain ⟨c1, c2⟩ := and_split c
    exact ⟨a, b, dp_of sh c1 dx, dp_of sh c2 dy, c1, c2, h.ok0 sh rfl⟩
  · exact h.elim
/-! ### orders of ints -/
def gI (C : Int → Int → Bool) (k : Int → Int → D) : D → D → Res D
  | .int i, .int j => if C i j = true then .ok (k i j) else .bad
  | _, _ => .bad
def gI0 (k : Int → Int → D) : D → D → Res D
  | .int i, .int j => .ok (k i j)
  | _, _ => .bad
theorem os_I0 {k : Int → Int → D} {g : Int → Int → V} (hk : ∀ S i j, DV K S (g i j) (k i j)) : OpS K mg E (rI0 g) (gI0 k) := fun S H x y a b Q sh dx dy h => by
  cases a with
  | int i =>
    cases b with
    | int j => exact ⟨i, j, dx, dy, h.ok0 sh (hk S i j)⟩
    | _ => exact h.elim
  | _ => exact h.elim
theorem os_I {C : Int → Int → Bool} {P : Int → Int → Prop} {k : Int → Int → D} {g : Int → Int → V} (hC : ∀ i j, C i j = true → P i j) (hk : ∀ S i j, DV K S (g i j) (k i j)) : OpS K mg E (rI P g) (gI C k) := fun S H x y a b Q sh dx dy h => by
  cases a with
  | int i =>
    cases b with
    | int j =>
      unfold gI at h
      dsimp only at h
      split at h
      · rename_i c
        exact ⟨i, j, dx, dy, hC i j c, h.ok0 sh (hk S i j)⟩
      · exact h.elim
    | _ => exact h.elim
  | _ => exact h.elim
def gLt : D → D → Res D := gI0 fun i j => .bool (decide (i < j))
def gLe : D → D → Res D := gI0 fun i j => .bool (decide (i ≤ j))
def gGt : D → D → Res D := gI0 fun i j => .bool (decide (j < i))
def gGe : D → D → Res D := gI0 fun i j => .bool (decide (j ≤ i))
def gSub : D → D → Res D := gI0 fun i j => .int (i - j)
theorem os_lt : OpS K mg E (rI0 fun i j => .bl (decide (i < j))) gLt := os_I0 fun _ _ _ => rfl
theorem os_le : OpS K mg E (rI0 fun i j => .bl (decide (i ≤ j))) gLe := os_I0 fun _ _ _ => rfl
theorem os_gt : OpS K mg E (rI0 fun i j => .bl (decide (j < i))) gGt := os_I0 fun _ _ _ => rfl
theorem os_ge : OpS K mg E (rI0 fun i j => .bl (decide (j ≤ i))) gGe := os_I0 fun _ _ _ => rfl
theorem os_sub : OpS K mg E (rI0 fun i j => .int (i - j)) gSub := os_I0 fun _ _ _ => rfl
/-! ### // % ** -/
def divOk (_ j : Int) : Bool := decide (0 < j) && decide (j ≤ 1000000000000000000)
def gDiv : D → D → Res D := gI divOk fun i j => .int (i / j)
theorem os_div : OpS K mg E (rI CDivW fun i j => .int (i / j)) gDiv := os_I (fun i j h => by
  obtain ⟨h1, h2⟩ := and_split h
  have h1 := of_decide_eq_true h1
  have h2 := of_decide_eq_true h2
  refine wide_div (b := 64) h1 ?_ (by decide) (by decide)
  have : (2 : Nat) ^ 64 = 18446744073709551616 := by decide
  omega) fun _ _ _ => rfl
def gMod : D → D → Res D := gI (fun _ j => decide (0 < j)) fun i j => .int (i % j)
theorem os_mod : OpS K mg E (rI (fun _ j => 0 < j) fun i j => .int (i % j)) gMod := os_I (fun i j h => of_decide_eq_true h) fun _ _ _ => rfl
def powOk (i j : Int) : Bool := decide (0 ≤ j) && decide (j ≤ 1000) && decide (0 ≤ i) && decide (i ≤ 1000)
def gPow : D → D → Res D := gI powOk fun i j => .int (i ^ j.toNat)
theorem os_pow : OpS K mg E (rI CPow fun i j => .int (i ^ j.toNat)) gPow := os_I (fun i j h => by
  obtain ⟨h, h4⟩ := and_split h
  obtain ⟨h, h3⟩ := and_split h
  obtain ⟨h1, h2⟩ := and_split h
  have h1 := of_decide_eq_true h1
  have h2 := of_decide_eq_true h2
  have h3 := of_decide_eq_true h3
  have h4 := of_decide_eq_true h4
  have e : (2 : Nat) ^ 64 = 18446744073709551616 := by decide
  exact ⟨h1, by omega, by omega⟩) fun _ _ _ => rfl
/-! ### + -/
theorem DVs.append {K : PySem.W.Frag} {S : Hp} : ∀ {vs ws : List V} {ds es : List D}, DVs K S vs ds → DVs K S ws es → DVs K S (vs ++ ws) (ds ++ es)
  | [], _, [], _, _, h => h
  | _ :: vs, _, _ :: ds, _, h, h' => ⟨h.1, DVs.append (vs := vs) (ds := ds) h.2 h'⟩
  | [], _, _ :: _, _, h, _ => h.elim
  | _ :: _, _, [], _, h, _ => h.elim
/-- xs + ys, of any two lists that are read -/
def rCatR (K : PySem.W.Frag) : R2 := fun x y H Q => ∃ l b xs zs, x = .ref l ∧ y = .ref b ∧ LsAt K H l xs ∧ LsAt K H b zs ∧ xs.length + zs.length ≤ sizeLine ∧ ∀ p, H p = none → Q (.ref p) (upd H p (.lst (xs ++ zs)))
theorem rd_lst {pins : List (Addr × Obj)} {σ : L2.St} {H : Hp} {s : Shared} {a : Addr} {xs : List V} (I : Inv X pins σ H s) (h : LsAt X.K H a xs) : ∃ (its : List Value) (n : Nat), Vals xs its ∧ xs.length = its.length ∧ s.heap.get? a = some { cls := .type "list", data := .seq its.toArray n } := by
  rcases h with h | ⟨its, n, h1, h2, h3⟩
  · obtain ⟨z, its, n, r, e⟩ := h.ok I.hok
    exact ⟨its, n, r, r.length, e⟩
  · exact ⟨its, n, h3, h3.length, I.kIn a _ h1⟩
theorem op_catR : OpR X (binaryOp .Add) (rCatR X.K) := by
  intro pins s σ H x y v u Q I rx ry h
  obtain ⟨l, b, xs, zs, rfl, rfl, hH, hB, hz, q⟩ := h
  cases rx
  cases ry
  obtain ⟨its, n, r, hl, e⟩ := rd_lst I hH
  obtain ⟨its2, n2, r2, hl2, e2⟩ := rd_lst I hB
  refine PySem.P.add_list e e2 ?_ (by rw [List.size_toArray, List.size_toArray]; omega)
  have ea : its.toArray ++ its2.toArray = (its ++ its2).toArray := by simp
  rw [ea]
  exact ⟨.ref _, _, I.lnew (t' := s.toks) (r.append r2) (by rw [List.length_append]; omega), rfl, q _ I.fresh⟩
def rStrAdd : R2 := fun x y H Q => ∃ i j, x = .str i ∧ y = .str j ∧ i.length + j.length ≤ sizeLine ∧ Q (.str (i ++ j)) H
def rAddA (K : PySem.W.Frag) : R2 := fun x y H Q => rI0 (fun i j => .int (i + j)) x y H Q ∨ (rCatR K x y H Q ∨ (rCatA K x y H Q ∨ rStrAdd x y H Q))
theorem op_addA (hK : X.K = K := by rfl) : OpR X (binaryOp .Add) (rAddA K) := by subst hK; exact op_add.or (op_catR.or (op_catA.or op_add_str))
theorem op_eqK (hu : X.A.units + 65 < cLine) (hK : X.K = K := by rfl) : OpR X (compareOp .Eq) (rEqD K) := by subst hK; exact op_eqD (hU4 hu)
theorem op_neK (hu : X.A.units + 65 < cLine) (hK : X.K = K := by rfl) : OpR X (compareOp .NotEq) (rNeD K) := by subst hK; exact op_neD (hU4 hu)
def gAdd : D → D → Res D
  | .int i, .int j => .ok (.int (i + j))
  | .list xs, .list ys => if lenOk (xs.length + ys.length) = true then .ok (.list (xs ++ ys)) else .bad
  | .tuple xs, .tuple ys => if lenOk (xs.length + ys.length) = true then .ok (.tuple (xs ++ ys)) else .bad
  | .str i, .str j => if lenOk (i.length + j.length) = true then .ok (.str (i ++ j)) else .bad
  | _, _ => .bad
theorem os_add : OpS K mg E (rAddA K) gAdd := fun S H x y a b Q sh dx dy h => by
  unfold gAdd at h
  split at h
  · rename_i i j
    exact .inl ⟨i, j, dx, dy, h.ok0 sh rfl⟩
  · rename_i xs ys
    split at h
    · rename_i hz
      rw [DV] at dx dy
      obtain ⟨p, us, rfl, h1, h2⟩ := dx
      obtain ⟨q, ws, rfl, h3, h4⟩ := dy
      refine .inr (.inl ⟨p, q, us, ws, rfl, rfl, ls_mono sh h1, ls_mono sh h3, ?_, fun n hn => new_lst sh (h2.append h4) h hn⟩)
      rw [h2.length, h4.length]
      exact lenOk.le hz
    · exact h.elim
  · rename_i xs ys
    split at h
    · rename_i hz
      rw [DV] at dx dy
      obtain ⟨p, us, rfl, h1, h2⟩ := dx
      obtain ⟨q, ws, rfl, h3, h4⟩ := dy
      have hl : us.length + ws.length ≤ sizeLine := by
        rw [h2.length, h4.length]
        exact lenOk.le hz
      refine .inr (.inr (.inl ⟨p, q, us, ws, rfl, rfl, same_t sh h1.1, same_t sh h3.1, hl, fun e => ?_, fun e e' => ?_, fun _ _ n hn => new_tup sh (h2.append h4) h hn⟩))
      · subst e
        cases xs with
        | nil => exact h.ok0 sh (by rw [DV]; exact ⟨q, ws, rfl, h3, h4⟩)
        | cons _ _ => exact h2.elim
      · subst e'
        cases ys with
        | nil => exact h.ok0 sh (by rw [List.append_nil, DV]; exact ⟨p, us, rfl, h1, h2⟩)
        | cons _ _ => exact h4.elim
    · exact h.elim
  · rename_i i j
    split at h
    · rename_i hz
      exact .inr (.inr (.inr ⟨i, j, dx, dy, lenOk.le hz, h.ok0 sh rfl⟩))
    · exact h.elim
  · exact h.elim
/-! ### * -/
def rRepR : R2 := fun x y H Q => ∃ l k xs, x = .ref l ∧ y = .int k ∧ H l = some (.lst xs) ∧ -(2 ^ 63) ≤ k ∧ k < 2 ^ 63 ∧ xs.length * k.toNat ≤ sizeLine ∧
  ∀ p, H p = none → Q (.ref p) (upd H p (.lst (List.replicate k.toNat xs).flatten))
def mulOk (i j : Int) : Bool := (decide (-1000000000000000000 ≤ i) && decide (i ≤ 1000000000000000000)) || (decide (-1000000000000000000 ≤ j) && decide (j ≤ 1000000000000000000))
def gMulI : D → D → Res D := gI mulOk fun i j => .int (i * j)
theorem os_mulI : OpS K mg E (rI CMul fun i j => .int (i * j)) gMulI := os_I (fun i j h => by
  unfold mulOk at h
  rw [Bool.or_eq_true] at h
  have e : (2 : Int) ^ 64 = 18446744073709551616 := by decide
  rcases h with h | h
  · obtain ⟨h1, h2⟩ := and_split h
    have h1 := of_decide_eq_true h1
    have h2 := of_decide_eq_true h2
    exact .inl ⟨by omega, by omega⟩
  · obtain ⟨h1, h2⟩ := and_split h
    have h1 := of_decide_eq_true h1
    have h2 := of_decide_eq_true h2
    exact .inr ⟨by omega, by omega⟩) fun _ _ _ => rfl
/-! ### in, not in -/
def rInT (K : PySem.W.Frag) : R2 := fun x y H Q => ∃ d ds, Dp K H x d ∧ Dp K H y (.tuple ds) ∧ SeqAt.shaped d = true ∧ SeqAt.shaped (.tuple ds) = true ∧ Q (.bl (ds.any fun z => PyData.eqv z d)) H
def rNotInT (K : PySem.W.Frag) : R2 := fun x y H Q => ∃ d ds, Dp K H x d ∧ Dp K H y (.tuple ds) ∧ SeqAt.shaped d = true ∧ SeqAt.shaped (.tuple ds) = true ∧ Q (.bl (!ds.any fun z => PyData.eqv z d)) H
theorem op_inT (hu : X.A.units + 65 < cLine) : OpR X (compareOp .In) (rInT X.K) := by
  intro pins s σ H x y v u Q I rx ry h
  obtain ⟨d, ds, hd, he, sd, se, q⟩ := h
  obtain ⟨as, r1⟩ := Dp.reads I d x v hd rx
  obtain ⟨bs, r2⟩ := Dp.reads I (.tuple ds) y u he ry
  exact SeqAt.in_tuple_reads r2 r1 (SeqAt.canLay_of_shaped se) (SeqAt.canLay_of_shaped sd) (PyProof.Rows.room_in_shaped sd hu) ⟨.bl _, H, I, rfl, q⟩
theorem op_notInT (hu : X.A.units + 65 < cLine) : OpR X (compareOp .NotIn) (rNotInT X.K) := by
  intro pins s σ H x y v u Q I rx ry h
  obtain ⟨d, ds, hd, he, sd, se, q⟩ := h
  obtain ⟨as, r1⟩ := Dp.reads I d x v hd rx
  obtain ⟨bs, r2⟩ := Dp.reads I (.tuple ds) y u he ry
  exact SeqAt.notIn_tuple_reads r2 r1 (SeqAt.canLay_of_shaped se) (SeqAt.canLay_of_shaped sd) (PyProof.Rows.room_in_shaped sd hu) ⟨.bl _, H, I, rfl, q⟩
theorem op_inK (hu : X.A.units + 65 < cLine) (hK : X.K = K := by rfl) : OpR X (compareOp .In) (fun x y H Q => rInD K x y H Q ∨ rInT K x y H Q) := by subst hK; exact (op_inD hu).or (op_inT hu)
theorem op_notInK (hu : X.A.units + 65 < cLine) (hK : X.K = K := by rfl) : OpR X (compareOp .NotIn) (fun x y H Q => rNotInD K x y H Q ∨ rNotInT K x y H Q) := by subst hK; exact (op_notInD hu).or (op_notInT hu)
def inD (a : D) (ds : List D) : Bool := ds.any fun z => PyData.eqv z a
def gIn (neg : Bool) (a b : D) : Res D := match b with
  | .list ds => if (SeqAt.shaped a && SeqAt.shaped (.list ds)) = true then .ok (.bool (if neg then !inD a ds else inD a ds)) else .bad
  | .tuple ds => if (SeqAt.shaped a && SeqAt.shaped (.tuple ds)) = true then .ok (.bool (if neg then !inD a ds else inD a ds)) else .bad
  | _ => .bad
theorem os_in : OpS K mg E (fun x y H Q => rInD K x y H Q ∨ rInT K x y H Q) (gIn false) := fun S H x y a b Q sh dx dy h => by
  unfold gIn at h
  split at h
  · rename_i ds
    split at h
    · rename_i c
      obtain ⟨c1, c2⟩ := and_split c
      exact .inl ⟨a, ds, dp_of sh c1 dx, dp_of sh c2 dy, c1, c2, h.ok0 sh rfl⟩
    · exact h.elim
  · rename_i ds
    split at h
    · rename_i c
      obtain ⟨c1, c2⟩ := and_split c
      exact .inr ⟨a, ds, dp_of sh c1 dx, dp_of sh c2 dy, c1, c2, h.ok0 sh rfl⟩
    · exact h.elim
  · exact h.elim
theorem os_notin : OpS K mg E (fun x y H Q => rNotInD K x y H Q ∨ rNotInT K x y H Q) (gIn true) := fun S H x y a b Q sh dx dy h => by
  unfold gIn at h
  split at h
  · rename_i ds
    split at h
    · rename_i c
      obtain ⟨c1, c2⟩ := and_split c
      exact .inl ⟨a, ds, dp_of sh c1 dx, dp_of sh c2 dy, c1, c2, h.ok0 sh rfl⟩
    · exact h.elim
  · rename_i ds
    split at h
    · rename_i c
      obtain ⟨c1, c2⟩ := and_split c
      exact .inr ⟨a, ds, dp_of sh c1 dx, dp_of sh c2 dy, c1, c2, h.ok0 sh rfl⟩
    · exact h.elim
  · exact h.elim
/-! ### is -/
def rIsA : R2 := fun x y H Q => (y = .non ∧ Q (.bl (decide (x = .non))) H) ∨ rIsB x y H Q
def rIsNotA : R2 := fun x y H Q => (y = .non ∧ Q (.bl (!decide (x = .non))) H) ∨ rNotB x y H Q
theorem op_isA : OpR X (compareOp .Is) rIsA := op_isN.or op_isBl
theorem op_isNotA : OpR X (compareOp .IsNot) rIsNotA := op_notN.or op_notBl
def isNone : D → Bool
  | .none => true
  | _ => false
theorem DV.isNone {K : PySem.W.Frag} {S : Hp} {v : V} {d : D} (h : DV K S v d) : decide (v = .non) = PD.isNone d := by
  cases d with
  | none => rw [DV] at h; subst h; rfl
  | bool b => rw [DV] at h; subst h; rfl
  | int b => rw [DV] at h; subst h; rfl
  | str b => rw [DV] at h; subst h; rfl
  | list b => rw [DV] at h; obtain ⟨a, xs, rfl, _⟩ := h; rfl
  | tuple b => rw [DV] at h; obtain ⟨a, xs, rfl, _⟩ := h; rfl
  | dict b => rw [DV] at h; obtain ⟨a, rfl, _⟩ := h; rfl
def gIs (neg : Bool) (a b : D) : Res D := match b with
  | .none => .ok (.bool (if neg then !isNone a else isNone a))
  | .bool k => match a with
    | .bool j => .ok (.bool (if neg then !decide (j = k) else decide (j = k)))
    | _ => .bad
  | _ => .bad
theorem os_is : OpS K mg E rIsA (gIs false) := fun S H x y a b Q sh dx dy h => by
  unfold gIs at h
  split at h
  · refine .inl ⟨dy, ?_⟩
    rw [dx.isNone]
    exact h.ok0 sh rfl
  · split at h
    · exact .inr ⟨_, _, dx, dy, h.ok0 sh rfl⟩
    · exact h.elim
  · exact h.elim
theorem os_isnot : OpS K mg E rIsNotA (gIs true) := fun S H x y a b Q sh dx dy h => by
  unfold gIs at h
  split at h
  · refine .inl ⟨dy, ?_⟩
    rw [dx.isNone]
    exact h.ok0 sh rfl
  · split at h
    · exact .inr ⟨_, _, dx, dy, h.ok0 sh rfl⟩
    · exact h.elim
  · exact h.elim
/-! ### a[i] -/
def ixD (xs : List D) (i : Int) : Option D := if 0 ≤ i then xs[i.toNat]? else if -(xs.length : Int) ≤ i then xs[(i + xs.length).toNat]? else none
def gIx : D → D → Res D
  | .list xs, .int i => match ixD xs i with
    | some d => .ok d
    | none => .bad
  | .tuple xs, .int i => match ixD xs i with
    | some d => .ok d
    | none => .bad
  | _, _ => .bad
theorem DVs.get {K : PySem.W.Frag} {S : Hp} : ∀ {vs : List V} {ds : List D} {i : Nat} {d : D}, DVs K S vs ds → ds[i]? = some d → ∃ v, vs[i]? = some v ∧ DV K S v d
  | v :: _, d :: _, 0, x, h, e => by
    have e : d = x := Option.some.inj e
    subst e
    exact ⟨v, rfl, h.1⟩
  | _ :: vs, _ :: ds, i + 1, x, h, e => DVs.get (vs := vs) (ds := ds) (i := i) h.2 e
  | [], [], _, _, _, e => by simp at e
  | [], _ :: _, _, _, h, _ => h.elim
  | _ :: _, [], _, _, h, _ => h.elim
theorem ixD_at {K : PySem.W.Frag} {S : Hp} {vs : List V} {ds : List D} {i : Int} {d : D} (h : DVs K S vs ds) (e : ixD ds i = some d) : ∃ v, atI vs i = some v ∧ DV K S v d := by
  unfold ixD at e
  unfold atI ixN
  rw [h.length]
  split at e
  · rename_i h0
    obtain ⟨v, h1, h2⟩ := h.get e
    have hl : i.toNat < ds.length := (List.getElem?_eq_some_iff.mp e).1
    rw [if_pos h0, if_pos (by omega)]
    exact ⟨v, h1, h2⟩
  · rename_i h0
    split at e
    · rename_i h1
      obtain ⟨v, h2, h3⟩ := h.get e
      rw [if_neg h0, if_pos h1]
      exact ⟨v, h2, h3⟩
    · cases e
def rIxA (K : PySem.W.Frag) : R2 := fun x y H Q => rIxL K x y H Q ∨ rIxT K x y H Q
theorem ix_A (hK : X.K = K := by rfl) : IxR X (rIxA K) := by subst hK; exact ix_list.or ix_tup
theorem os_ix : OpS K mg E (rIxA K) gIx := fun S H x y a b Q sh dx dy h => by
  unfold gIx at h
  split at h
  · rename_i xs i
    split at h
    · rename_i d e
      rw [DV] at dx
      obtain ⟨p, us, rfl, h1, h2⟩ := dx
      obtain ⟨v, h3, h4⟩ := ixD_at h2 e
      exact .inl ⟨p, us, i, v, rfl, dy, ls_sq (ls_mono sh h1), h3, h.ok0 sh h4⟩
    · exact h.elim
  · rename_i xs i
    split at h
    · rename_i d e
      rw [DV] at dx
      obtain ⟨p, us, rfl, h1, h2⟩ := dx
      obtain ⟨v, h3, h4⟩ := ixD_at h2 e
      exact .inr ⟨p, us, i, v, rfl, dy, same_t sh h1.1, h3, h.ok0 sh h4⟩
    · exact h.elim
  · exact h.elim
/-! ### a[lo:hi] -/
def cutD (xs : List D) (lo hi : Option Int) : List D := (xs.drop (HT.sIx xs.length 0 lo)).take (HT.sIx xs.length xs.length hi - HT.sIx xs.length 0 lo)
theorem DVs.drop {K : PySem.W.Frag} {S : Hp} : ∀ {vs : List V} {ds : List D} (i : Nat), DVs K S vs ds → DVs K S (vs.drop i) (ds.drop i)
  | _, _, 0, h => h
  | [], [], _ + 1, _ => trivial
  | _ :: vs, _ :: ds, i + 1, h => DVs.drop (vs := vs) (ds := ds) i h.2
  | [], _ :: _, _ + 1, h => h.elim
  | _ :: _, [], _ + 1, h => h.elim
theorem DVs.take {K : PySem.W.Frag} {S : Hp} : ∀ {vs : List V} {ds : List D} (i : Nat), DVs K S vs ds → DVs K S (vs.take i) (ds.take i)
  | _, _, 0, _ => trivial
  | [], [], _ + 1, _ => trivial
  | _ :: vs, _ :: ds, i + 1, h => ⟨h.1, DVs.take (vs := vs) (ds := ds) i h.2⟩
  | [], _ :: _, _ + 1, h => h.elim
  | _ :: _, [], _ + 1, h => h.elim
theorem DVs.cut {K : PySem.W.Frag} {S : Hp} {vs : List V} {ds : List D} (lo hi : Option Int) (h : DVs K S vs ds) : DVs K S (cutV vs lo hi) (cutD ds lo hi) := by
  unfold cutV cutD
  rw [h.length]
  exact (h.drop _).take _
def gSl (a : D) (lo hi : Option Int) : Res D := match a with
  | .list xs => .ok (.list (cutD xs lo hi))
  | .tuple xs => .ok (.tuple (cutD xs lo hi))
  | _ => .bad
def rSlD (K : PySem.W.Frag) : V → Option Int → Option Int → Hp → VK → Prop := fun x lo hi H Q => rSlL K x lo hi H Q ∨ rSlA K x lo hi H Q
theorem sl_D (hK : X.K = K := by rfl) : SlR X (rSlD K) := by subst hK; exact sl_list.or sl_tupA
theorem ss_sl : SlS K mg E (rSlD K) gSl := fun S H x lo hi a Q sh dx h => by
  unfold gSl at h
  split at h
  · rename_i xs
    rw [DV] at dx
    obtain ⟨p, us, rfl, h1, h2⟩ := dx
    exact .inl ⟨p, us, rfl, ls_sq (ls_mono sh h1), fun n hn => new_lst sh (h2.cut lo hi) h hn⟩
  · rename_i xs
    rw [DV] at dx
    obtain ⟨p, us, rfl, h1, h2⟩ := dx
    refine .inr ⟨p, us, rfl, same_t sh h1.1, fun hw => ?_, fun _ n hn => new_tup sh (h2.cut lo hi) h hn⟩
    refine h.ok0 sh ?_
    have e : cutD xs lo hi = xs := by
      unfold cutD
      rw [h2.length] at hw
      rw [hw.1, hw.2, List.drop_zero, Nat.sub_zero, List.take_length]
    rw [e, DV]
    exact ⟨p, us, rfl, h1, h2⟩
  · exact h.elim
end
end PD
namespace PD
open PySem L2
/-! ### targets -/
def setAll (σ : L2.St) : List Nat → List V → L2.St
  | i :: is, v :: vs => setAll (σ.set i (some v)) is vs
  | _, _ => σ
def setD (ρ : DEnv) : List Nat → List D → DEnv
  | i :: is, d :: ds => setD (ρ.set i (.d d)) is ds
  | _, _ => ρ
structure GD (K : PySem.W.Frag) (X : Cx) (tg : Expr) (g : TG) (is : List Nat) (h : D → Option (List D)) : Prop where
  pg : PG X tg g
  sd : ∀ (S H : Hp) (v : V) (σ : L2.St) (d : D) (ds : List D) (Q : L2.St → Hp → Prop), Same S H → DV K S v d → h d = some ds → (∀ vs, DVs K S vs ds → Q (setAll σ is vs) H) → g v σ H Q
def hOne (d : D) : Option (List D) := some [d]
def hTup (n : Nat) : D → Option (List D)
  | .tuple ds => if ds.length = n then some ds else none
  | _ => none
structure GDs (X : Cx) (ts : List Expr) (g : TGs) (is : List Nat) : Prop where
  pg : PGs X ts g
  sd : ∀ (H : Hp) (vs : List V) (σ : L2.St) (Q : L2.St → Hp → Prop), vs.length = is.length → Q (setAll σ is vs) H → g vs σ H Q
section
variable {K : PySem.W.Frag} {mg : Str → Option Value} {X : Cx} {E : XK} {pos : Pos}
theorem gd_name {i : Nat} {x : Str} (h : PG X (.Name x pos) (gName i)) : GD K X (.Name x pos) (gName i) [i] hOne := ⟨h, fun S H v σ d ds Q sh dv e q => by
  cases e
  exact q [v] ⟨dv, trivial⟩⟩
theorem gds_nil : GDs X [] gNil [] := ⟨pgs_nil, fun H vs σ Q hl q => by
  cases vs with
  | nil => exact ⟨rfl, q⟩
  | cons _ _ => cases hl⟩
theorem gds_cons {e : Expr} {es : List Expr} {i : Nat} {u : TGs} {is : List Nat} (h1 : PG X e (gName i)) (h2 : GDs X es u is) (hs : (assignEach (e :: es) X.env).map (·.2) = assign e X.env :: (assignEach es X.env).map (·.2) := by rfl) :
    GDs X (e :: es) (gCons (gName i) u) (i :: is) := ⟨pgs_cons h1 h2.pg hs, fun H vs σ Q hl q => by
  cases vs with
  | nil => cases hl
  | cons v vs => exact ⟨v, vs, rfl, h2.sd H vs _ Q (Nat.succ.inj hl) q⟩⟩
theorem gd_tup {es : List Expr} {k : Nat} {t : TGs} {n : Nat} {is : List Nat} (hc : X.calm = true) (h : GDs X es t is) (hn : (assignEach es X.env).length = n := by rfl) (hst : (assignEach es X.env).findIdx? (·.1) = none := by rfl) (hl : is.length = n := by rfl) (hK : X.K = K := by rfl) :
    GD K X (.Tuple es k pos) (gTup K n t) is (hTup n) := ⟨hK ▸ pg_tup hc h.pg hn hst, fun S H v σ d ds Q sh dv e q => by
  cases d with
  | tuple xs =>
    unfold hTup at e
    dsimp only at e
    split at e
    · rename_i hx
      cases e
      rw [DV] at dv
      obtain ⟨a, us, rfl, h1, h2⟩ := dv
      exact ⟨a, us, rfl, same_t sh h1.1, by rw [h2.length]; exact hx, h.sd H us σ Q (by rw [h2.length, hl]; exact hx) (q us h2)⟩
    · cases e
  | _ => cases e⟩
end
theorem setAll_length : ∀ (is : List Nat) (vs : List V) (σ : L2.St), (setAll σ is vs).length = σ.length
  | [], _, _ => rfl
  | _ :: _, [], _ => rfl
  | i :: is, v :: vs, σ => by
    show (setAll (σ.set i (some v)) is vs).length = σ.length
    rw [setAll_length is vs, List.length_set]
theorem setD_length : ∀ (is : List Nat) (vs : List D) (ρ : DEnv), (setD ρ is vs).length = ρ.length
  | [], _, _ => rfl
  | _ :: _, [], _ => rfl
  | i :: is, v :: vs, ρ => by
    show (setD (ρ.set i (.d v)) is vs).length = ρ.length
    rw [setD_length is vs, List.length_set]
/-! ### slots forgotten -/
def wipeD (ρ : DEnv) : List Nat → DEnv
  | [] => ρ
  | v :: vs => (wipeD ρ vs).set v .un
theorem RelE.set {K : PySem.W.Frag} {S H : Hp} {σ : L2.St} {ρ : DEnv} {i : Nat} {v : V} {d : D} (r : RelE K S H σ ρ) (h : DV K S v d) : RelE K S H (σ.set i (some v)) (ρ.set i (.d d)) := by
  have hl := r.len
  refine ⟨r.sh, by rw [List.length_set, List.length_set]; exact hl, fun j x e => ?_, fun j x e => ?_⟩
  · by_cases hj : i = j
    · subst hj
      by_cases hi : i < ρ.length
      · rw [List.getElem?_set_self hi] at e
        cases e
        exact ⟨v, List.getElem?_set_self (by omega), h⟩
      · rw [List.getElem?_eq_none (by rw [List.length_set]; omega)] at e
        cases e
    · rw [List.getElem?_set_ne hj] at e ⊢
      exact r.dt j x e
  · by_cases hj : i = j
    · subst hj
      by_cases hi : i < ρ.length
      · rw [List.getElem?_set_self hi] at e
        cases e
      · rw [List.getElem?_eq_none (by rw [List.length_set]; omega)] at e
        cases e
    · rw [List.getElem?_set_ne hj] at e ⊢
      exact r.rw j x e
theorem RelE.setAll {K : PySem.W.Frag} {S H : Hp} : ∀ (is : List Nat) (vs : List V) (ds : List D) {σ : L2.St} {ρ : DEnv}, RelE K S H σ ρ → DVs K S vs ds → RelE K S H (PD.setAll σ is vs) (setD ρ is ds)
  | [], _, _, _, _, r, _ => by cases ‹List V› <;> cases ‹List D› <;> exact r
  | _ :: _, [], [], _, _, r, _ => r
  | i :: is, v :: vs, d :: ds, σ, ρ, r, h => by
    show RelE K S H (PD.setAll (σ.set i (some v)) is vs) (setD (ρ.set i (.d d)) is ds)
    exact RelE.setAll is vs ds (r.set h.1) h.2
  | _ :: _, [], _ :: _, _, _, _, h => h.elim
  | _ :: _, _ :: _, [], _, _, _, h => h.elim
theorem wipeD_length (ρ : DEnv) : ∀ vs : List Nat, (wipeD ρ vs).length = ρ.length
  | [] => rfl
  | v :: vs => by unfold wipeD; rw [List.length_set, wipeD_length ρ vs]
theorem RelE.wipe {K : PySem.W.Frag} {S H : Hp} {σ : L2.St} {ρ : DEnv} (r : RelE K S H σ ρ) : ∀ vs : List Nat, RelE K S H (L2.wipe σ vs) (wipeD ρ vs)
  | [] => r
  | v :: vs => by
    have q := RelE.wipe r vs
    unfold L2.wipe wipeD
    refine ⟨q.sh, by rw [List.length_set, List.length_set]; exact q.len, fun j x e => ?_, fun j x e => ?_⟩
    · by_cases hj : v = j
      · subst hj
        by_cases hi : v < (wipeD ρ vs).length
        · rw [List.getElem?_set_self hi] at e
          cases e
        · rw [List.getElem?_eq_none (by rw [List.length_set]; omega)] at e
          cases e
      · rw [List.getElem?_set_ne hj] at e ⊢
        exact q.dt j x e
    · by_cases hj : v = j
      · subst hj
        by_cases hi : v < (wipeD ρ vs).length
        · rw [List.getElem?_set_self hi] at e
          cases e
        · rw [List.getElem?_eq_none (by rw [List.length_set]; omega)] at e
          cases e
      · rw [List.getElem?_set_ne hj] at e ⊢
        exact q.rw j x e
theorem wipe_set {i : Nat} {v : Option V} : ∀ {vs : List Nat} {σ : L2.St}, i ∈ vs → L2.wipe (σ.set i v) vs = L2.wipe σ vs
  | j :: vs, σ, h => by
    show (L2.wipe (σ.set i v) vs).set j none = (L2.wipe σ vs).set j none
    by_cases hm : i ∈ vs
    · rw [wipe_set hm]
    · have e : i = j := by
        rcases List.mem_cons.mp h with z | z
        · exact z
        · exact absurd z hm
      subst e
      have key : ∀ (ws : List Nat) (τ : L2.St), i ∉ ws → L2.wipe (τ.set i v) ws = (L2.wipe τ ws).set i v := by
        intro ws
        induction ws with
        | nil => intro τ _; rfl
        | cons k ws ih =>
          intro τ hk
          show (L2.wipe (τ.set i v) ws).set k none = ((L2.wipe τ ws).set k none).set i v
          rw [ih τ (fun z => hk (List.mem_cons_of_mem _ z)), List.set_comm _ _ (fun z : i = k => hk (by rw [z]; exact List.mem_cons_self))]
      rw [key vs σ hm, List.set_set]
theorem wipe_wipe {σ : L2.St} : ∀ (vs ws : List Nat), (∀ i ∈ ws, i ∈ vs) → L2.wipe (L2.wipe σ ws) vs = L2.wipe σ vs
  | _, [], _ => rfl
  | vs, w :: ws, h => by
    show L2.wipe ((L2.wipe σ ws).set w none) vs = L2.wipe σ vs
    rw [wipe_set (h w List.mem_cons_self), wipe_wipe vs ws fun i hi => h i (List.mem_cons_of_mem _ hi)]
theorem wipe_setAll : ∀ (is : List Nat) (xs : List V) {vs : List Nat} {σ : L2.St}, (∀ i ∈ is, i ∈ vs) → L2.wipe (PD.setAll σ is xs) vs = L2.wipe σ vs
  | [], xs, vs, σ, _ => by cases xs <;> rfl
  | _ :: _, [], vs, σ, _ => rfl
  | i :: is, x :: xs, vs, σ, h => by
    show L2.wipe (PD.setAll (σ.set i (some x)) is xs) vs = L2.wipe σ vs
    rw [wipe_setAll is xs fun j hj => h j (List.mem_cons_of_mem _ hj), wipe_set (h i List.mem_cons_self)]
/-! ### what is walked -/
def Walks (K : PySem.W.Frag) (S : Hp) (J : It) (ds : List D) : Prop := ∀ S' H', Same S S' → Same S' H' →
  (∀ (i : Nat) (d : D), ds[i]? = some d → J.go i H' ∧ ∀ x H'', J.yld i H' x H'' → ∃ S'', Ext S' H' S'' H'' ∧ DV K S'' x d) ∧ J.stop ds.length H'
theorem Walks.mono {K : PySem.W.Frag} {S S1 : Hp} {J : It} {ds : List D} (w : Walks K S J ds) (e : Same S S1) : Walks K S1 J ds := fun S' H' h1 h2 => w S' H' (e.trans h1) h2
structure ID (K : PySem.W.Frag) (mg : Str → Option Value) (X : Cx) (E : XK) (tg iter : Expr) (wi : TI) (f : DEnv → Res (List D)) : Prop where
  pi : PI X tg iter wi
  sd : ∀ (S H : Hp) (σ : L2.St) (ρ : DEnv) (R : It → Hp → Prop), RelE K S H σ ρ → PostG mg E S H (fun S J ds => Walks K S J ds) (f ρ) R → wi σ H R
section
variable {K : PySem.W.Frag} {mg : Str → Option Value} {X : Cx} {E : XK} {pos : Pos} {tg l : Expr} {tl : TE} {f : DEnv → Res D}
def asList : D → Res (List D)
  | .list ds => .ok ds
  | _ => .bad
def asTup : D → Res (List D)
  | .tuple ds => .ok ds
  | _ => .bad
def fItL (f : DEnv → Res D) : DEnv → Res (List D) := fun ρ => (f ρ).bind asList
def fItT (f : DEnv → Res D) : DEnv → Res (List D) := fun ρ => (f ρ).bind asTup
theorem walks_list {K : PySem.W.Frag} {S : Hp} {a : Addr} {us : List V} {ds : List D} (h1 : LsAt K S a us) (h2 : DVs K S us ds) : Walks K S (Itl K a) ds := fun S' H' e1 e2 => by
  have q : SqL K H' a us := ls_sq (ls_mono (e1.trans e2) h1)
  refine ⟨fun i d hi => ?_, us, q, by rw [h2.length]; exact Nat.le_refl _⟩
  obtain ⟨v, g1, g2⟩ := h2.get hi
  refine ⟨⟨us, v, q, g1⟩, fun x H'' hy => ?_⟩
  obtain ⟨rfl, fv⟩ := hy
  have ev : x = v := Option.some.inj ((fv _ q).symm.trans g1)
  subst ev
  exact ⟨S', Ext.refl e2, g2.mono e1⟩
theorem walks_tup {K : PySem.W.Frag} {S : Hp} {a : Addr} {us : List V} {ds : List D} (h1 : SqT K S a us) (h2 : DVs K S us ds) : Walks K S (Itt K a) ds := fun S' H' e1 e2 => by
  have q : SqT K H' a us := same_t (e1.trans e2) h1
  refine ⟨fun i d hi => ?_, us, q, by rw [h2.length]; exact Nat.le_refl _⟩
  obtain ⟨v, g1, g2⟩ := h2.get hi
  refine ⟨⟨us, v, q, g1⟩, fun x H'' hy => ?_⟩
  obtain ⟨rfl, fv⟩ := hy
  have ev : x = v := Option.some.inj ((fv _ q).symm.trans g1)
  subst ev
  exact ⟨S', Ext.refl e2, g2.mono e1⟩
theorem id_list (hl : PD K mg X E l tl f) (hK : X.K = K := by rfl) : ID K mg X E tg l (iList K tl) (fItL f) := ⟨hK ▸ pi_list hl.pe, fun S H σ ρ R rl h => by
  refine hl.sd S H σ ρ _ rl (h.bind fun d v S1 H1 x1 d1 h1 => ?_)
  cases d with
  | list ds =>
    rw [DV] at d1
    obtain ⟨a, us, rfl, g1, g2⟩ := d1
    exact ⟨a, rfl, ⟨us, ls_sq (ls_mono x1.sh g1)⟩, h1.ok0 x1.sh (walks_list g1 g2)⟩
  | _ => exact h1.elim⟩
theorem id_tup (hl : PD K mg X E l tl f) (hK : X.K = K := by rfl) : ID K mg X E tg l (iTup K tl) (fItT f) := ⟨hK ▸ pi_tup hl.pe, fun S H σ ρ R rl h => by
  refine hl.sd S H σ ρ _ rl (h.bind fun d v S1 H1 x1 d1 h1 => ?_)
  cases d with
  | tuple ds =>
    rw [DV] at d1
    obtain ⟨a, us, rfl, g1, g2⟩ := d1
    exact ⟨a, rfl, ⟨us, same_t x1.sh g1.1⟩, h1.ok0 x1.sh (walks_tup g1.1 g2)⟩
  | _ => exact h1.elim⟩
def rngD (lo : Int) (n : Nat) : List D := (List.range n).map fun (i : Nat) => PyData.int (lo + (i : Int))
theorem walks_rng {K : PySem.W.Frag} {S : Hp} (lo : Int) (n : Nat) : Walks K S (Itr lo n) (rngD lo n) := fun S' H' e1 e2 => by
  have hl : (rngD lo n).length = n := by unfold rngD; rw [List.length_map, List.length_range]
  refine ⟨fun i d hi => ?_, by rw [hl]; exact Nat.le_refl n⟩
  have hin : i < n := by
    have := (List.getElem?_eq_some_iff.mp hi).1
    omega
  refine ⟨hin, fun x H'' hy => ?_⟩
  obtain ⟨rfl, rfl⟩ := hy
  refine ⟨S', Ext.refl e2, ?_⟩
  unfold rngD at hi
  rw [List.getElem?_map, List.getElem?_range hin] at hi
  have hi := Option.some.inj hi
  rw [← hi]
  rfl
def rngOk (i : Int) : Bool := decide (-1000000000000 ≤ i) && decide (i ≤ 1000000000000)
theorem rngOk.b {i : Int} (h : rngOk i = true) : -(2 ^ 62) ≤ i ∧ i < 2 ^ 62 := by
  obtain ⟨h1, h2⟩ := and_split h
  have h1 := of_decide_eq_true h1
  have h2 := of_decide_eq_true h2
  have e : (2 : Int) ^ 62 = 4611686018427387904 := by decide
  omega
def gRng1 : List D → Res (List D)
  | [.int j] => if rngOk j = true then .ok (rngD 0 j.toNat) else .bad
  | _ => .bad
def gRng2 : List D → Res (List D)
  | [.int i, .int j] => if (rngOk i && rngOk j) = true then .ok (rngD i (j - i).toNat) else .bad
  | _ => .bad
def fRng (g : List D → Res (List D)) (f : DEnv → Res (List D)) : DEnv → Res (List D) := fun ρ => (f ρ).bind g
variable {a b c : Expr} {ta : TA} {ga : DEnv → Res (List D)} {p : Pos}
theorem dvs1 {K : PySem.W.Frag} {S : Hp} {vs : List V} {d : D} (h : DVs K S vs [d]) : ∃ v, vs = [v] ∧ DV K S v d := by
  cases vs with
  | nil => exact h.elim
  | cons v vs =>
    cases vs with
    | nil => exact ⟨v, rfl, h.1⟩
    | cons _ _ => exact h.2.elim
theorem dvs2 {K : PySem.W.Frag} {S : Hp} {vs : List V} {d e : D} (h : DVs K S vs [d, e]) : ∃ v w, vs = [v, w] ∧ DV K S v d ∧ DV K S w e := by
  cases vs with
  | nil => exact h.elim
  | cons v vs =>
    obtain ⟨w, rfl, h2⟩ := dvs1 h.2
    exact ⟨v, w, rfl, h.1, h2⟩
theorem dvs3 {K : PySem.W.Frag} {S : Hp} {vs : List V} {d e f : D} (h : DVs K S vs [d, e, f]) : ∃ v w u, vs = [v, w, u] ∧ DV K S v d ∧ DV K S w e ∧ DV K S u f := by
  cases vs with
  | nil => exact h.elim
  | cons v vs =>
    obtain ⟨w, u, rfl, h2, h3⟩ := dvs2 h.2
    exact ⟨v, w, u, rfl, h.1, h2, h3⟩
theorem id_range1 (hg : Gl X "range") (hm : X.mg "range" = none) (ha : AD K mg X E [a] ta ga) (hs : starEach [a] X.env = [(false, eval a X.env)] := by rfl) : ID K mg X E tg (.Call (.Name "range" p) [a] [] pos) (iRng1 ta) (fRng gRng1 ga) :=
  ⟨pi_range1 hg hm ha.pe hs, fun S H σ ρ R rl h => ha.sd S H σ ρ _ rl (h.bind fun ds vs S1 H1 x1 d1 h1 => by
    unfold gRng1 at h1
    split at h1
    · rename_i j
      split at h1
      · rename_i hz
        obtain ⟨v, rfl, hv⟩ := dvs1 d1
        cases hv
        exact ⟨j, rfl, (rngOk.b hz).1, (rngOk.b hz).2, h1.ok0 x1.sh (walks_rng _ _)⟩
      · exact h1.elim
    · exact h1.elim)⟩
theorem id_range2 (hg : Gl X "range") (hm : X.mg "range" = none) (ha : AD K mg X E [a, b] ta ga) (hs : starEach [a, b] X.env = [(false, eval a X.env), (false, eval b X.env)] := by rfl) (hs2 : starEach [b] X.env = [(false, eval b X.env)] := by rfl) : ID K mg X E tg (.Call (.Name "range" p) [a, b] [] pos) (iRng2 ta) (fRng gRng2 ga) :=
  ⟨pi_range2 hg hm ha.pe hs hs2, fun S H σ ρ R rl h => ha.sd S H σ ρ _ rl (h.bind fun ds vs S1 H1 x1 d1 h1 => by
    unfold gRng2 at h1
    split at h1
    · rename_i i j
      split at h1
      · rename_i hz
        obtain ⟨hz1, hz2⟩ := and_split hz
        obtain ⟨v, w, rfl, hv, hw⟩ := dvs2 d1
        cases hv
        cases hw
        exact ⟨i, j, rfl, ⟨(rngOk.b hz1).1, (rngOk.b hz1).2, (rngOk.b hz2).1, (rngOk.b hz2).2⟩, h1.ok0 x1.sh (walks_rng _ _)⟩
      · exact h1.elim
    · exact h1.elim)⟩
end
end PD
namespace PD
open PySem L2
/-! ### list comprehensions -/
def Res.strict {α : Type} : Res α → Res α
  | .ok a => .ok a
  | .err _ => .bad
  | .bad => .bad
def lcGo (step : D → Res (List D)) : List D → Res (List D)
  | [] => .ok []
  | d :: ds => (step d).strict.bind fun o => (lcGo step ds).bind fun r => .ok (o ++ r)
theorem lcGo_snoc (step : D → Res (List D)) (d : D) : ∀ (xs : List D) {r : List D}, lcGo step xs = .ok r → lcGo step (xs ++ [d]) = (step d).strict.bind fun o => .ok (r ++ o)
  | [], r, h => by
    cases h
    show (step d).strict.bind (fun o => (Res.ok []).bind fun r => .ok (o ++ r)) = _
    cases (step d).strict with
    | ok o => show Res.ok (o ++ []) = Res.ok ([] ++ o); rw [List.append_nil, List.nil_append]
    | err c => rfl
    | bad => rfl
  | x :: xs, r, h => by
    have h : ((step x).strict.bind fun o => (lcGo step xs).bind fun r => .ok (o ++ r)) = .ok r := h
    show ((step x).strict.bind fun o => (lcGo step (xs ++ [d])).bind fun r => .ok (o ++ r)) = _
    cases e1 : (step x).strict with
    | ok o =>
      rw [e1] at h
      cases e2 : lcGo step xs with
      | ok r1 =>
        rw [e2] at h
        have h : Res.ok (o ++ r1) = Res.ok r := h
        cases h
        have q := lcGo_snoc step d xs e2
        show (lcGo step (xs ++ [d])).bind (fun r => .ok (o ++ r)) = _
        rw [q]
        cases (step d).strict with
        | ok o2 => show Res.ok (o ++ (r1 ++ o2)) = Res.ok (o ++ r1 ++ o2); rw [List.append_assoc]
        | err c => rfl
        | bad => rfl
      | err c => rw [e2] at h; cases h
      | bad => rw [e2] at h; cases h
    | err c => rw [e1] at h; cases h
    | bad => rw [e1] at h; cases h
/-- where the whole is ok, each part is -/
theorem lcGo_part {step : D → Res (List D)} : ∀ {xs : List D} {r : List D} (i : Nat), lcGo step xs = .ok r → ∃ r', lcGo step (xs.take i) = .ok r' ∧ ∀ d, xs[i]? = some d → ∃ o, step d = .ok o ∧ lcGo step (xs.take (i + 1)) = .ok (r' ++ o)
  | [], r, i, h => ⟨[], by rw [List.take_nil]; rfl, fun d e => by simp at e⟩
  | x :: xs, r, i, h => by
    have h : ((step x).strict.bind fun o => (lcGo step xs).bind fun r => .ok (o ++ r)) = .ok r := h
    cases e0 : step x with
    | ok o =>
      rw [e0] at h
      cases e2 : lcGo step xs with
      | ok r1 =>
        cases i with
        | zero =>
          refine ⟨[], rfl, fun d e => ?_⟩
          have e : x = d := Option.some.inj e
          subst e
          refine ⟨o, e0, ?_⟩
          show ((step x).strict.bind fun o => (Res.ok []).bind fun r => .ok (o ++ r)) = .ok ([] ++ o)
          rw [e0]
          show Res.ok (o ++ []) = Res.ok ([] ++ o)
          rw [List.append_nil, List.nil_append]
        | succ i =>
          obtain ⟨r', g1, g2⟩ := lcGo_part i e2
          refine ⟨o ++ r', ?_, fun d e => ?_⟩
          · show ((step x).strict.bind fun o => (lcGo step (xs.take i)).bind fun r => .ok (o ++ r)) = _
            rw [e0, g1]
            rfl
          · obtain ⟨o2, g3, g4⟩ := g2 d e
            refine ⟨o2, g3, ?_⟩
            show ((step x).strict.bind fun o => (lcGo step (xs.take (i + 1))).bind fun r => .ok (o ++ r)) = _
            rw [e0, g4]
            show Res.ok (o ++ (r' ++ o2)) = Res.ok (o ++ r' ++ o2)
            rw [List.append_assoc]
      | err c => rw [e2] at h; cases h
      | bad => rw [e2] at h; cases h
    | err c => rw [e0] at h; cases h
    | bad => rw [e0] at h; cases h
theorem lcGo_noerr (step : D → Res (List D)) : ∀ (xs : List D) (c : Str), lcGo step xs ≠ .err c
  | [], c, h => by cases h
  | x :: xs, c, h => by
    have h : ((step x).strict.bind fun o => (lcGo step xs).bind fun r => .ok (o ++ r)) = .err c := h
    cases e0 : step x with
    | ok o =>
      rw [e0] at h
      cases e2 : lcGo step xs with
      | ok r1 => rw [e2] at h; cases h
      | err c => exact lcGo_noerr step xs c e2
      | bad => rw [e2] at h; cases h
    | err c => rw [e0] at h; cases h
    | bad => rw [e0] at h; cases h
/-- the step: the item to the slots, the tests, the element -/
def lcStep (ρ : DEnv) (own is : List Nat) (h : D → Option (List D)) (tt : DEnv → Res Bool) (fe : DEnv → Res D) (d : D) : Res (List D) := match h d with
  | none => .bad
  | some xs => (tt (setD (wipeD ρ own) is xs)).bind fun b => if b = true then (fe (setD (wipeD ρ own) is xs)).bind fun y => .ok [y] else .ok []
def lcEnd (r : Res (List D)) : Res D := r.bind fun ys => if lenOk (ys.length + 1) = true then .ok (.list ys) else .bad
def fLc (src : DEnv → Res (List D)) (own is : List Nat) (h : D → Option (List D)) (tt : DEnv → Res Bool) (fe : DEnv → Res D) : DEnv → Res D := fun ρ => (src ρ).bind fun ds => lcEnd (lcGo (lcStep ρ own is h tt fe) ds)
structure TDs (K : PySem.W.Frag) (mg : Str → Option Value) (X : Cx) (E : XK) (ifs : List Expr) (t : TT) (f : DEnv → Res Bool) : Prop where
  pe : PTs X ifs t
  sd : ∀ (S H : Hp) (σ : L2.St) (ρ : DEnv) (Q : Bool → Hp → Prop), RelE K S H σ ρ → PostG mg E S H EqB (f ρ) Q → t σ H Q
def fYes : DEnv → Res Bool := fun _ => .ok true
section
variable {K : PySem.W.Frag} {mg : Str → Option Value} {X : Cx} {E : XK}
theorem tds_nil : TDs K mg X E [] tYes fYes := ⟨pts_nil, fun S H σ ρ Q rl h => h.ok0 rl.sh rfl⟩
theorem tds_one {c : Expr} {t : TT} {f : DEnv → Res Bool} (h : TD K mg X E c t f) : TDs K mg X E [c] t f := ⟨pts_one h.pe, h.sd⟩
/-- the state of a comprehension that grows the list at D -/
structure LcAt (K : PySem.W.Frag) (S1 H1 : Hp) (D0 : Addr) (acc : List V) (r : List D) (S H : Hp) : Prop where
  s : Same S1 S
  h : Same H1 H
  sh : Same S H
  old : ∀ x, H1 x ≠ none → S x = S1 x
  sD : S D0 = none
  hD : H D0 = some (.lst acc)
  dv : DVs K S acc r
theorem LcAt.start {K : PySem.W.Frag} {S1 H1 : Hp} {D0 : Addr} (sh : Same S1 H1) (hD : H1 D0 = none) : LcAt K S1 H1 D0 [] [] S1 (upd H1 D0 (.lst [])) :=
  ⟨Same.refl _, same_upd hD, sh.trans (same_upd hD), fun _ _ => rfl, sh.free hD, upd_same, trivial⟩
theorem LcAt.ext {K : PySem.W.Frag} {S1 H1 S H S' H' : Hp} {D0 : Addr} {acc : List V} {r : List D} (l : LcAt K S1 H1 D0 acc r S H) (x : Ext S H S' H') : LcAt K S1 H1 D0 acc r S' H' :=
  ⟨l.s.trans x.s, l.h.trans x.h, x.sh, fun a ha => by
    refine (x.old a ?_).trans (l.old a ha)
    cases e : H1 a with
    | none => exact absurd e ha
    | some o => rw [l.h a o e]; exact (fun z => nomatch z),
   by rw [x.old D0 (by rw [l.hD]; exact (fun z => nomatch z))]; exact l.sD, x.h _ _ l.hD, l.dv.mono x.s⟩
theorem LcAt.push {K : PySem.W.Frag} {S1 H1 S H : Hp} {D0 : Addr} {acc : List V} {r : List D} {y : V} {d : D} (l : LcAt K S1 H1 D0 acc r S H) (h1 : H1 D0 = none) (hy : DV K S y d) : LcAt K S1 H1 D0 (acc ++ [y]) (r ++ [d]) S (upd H D0 (.lst (acc ++ [y]))) :=
  ⟨l.s, fun b o e => by rw [upd_ne (ne_of_none e h1)]; exact l.h b o e, fun b o e => by rw [upd_ne (ne_of_none e l.sD)]; exact l.sh b o e, l.old, l.sD, upd_same, l.dv.append ⟨hy, trivial⟩⟩
theorem LcAt.done {K : PySem.W.Frag} {S1 H1 S H : Hp} {D0 : Addr} {acc : List V} {r : List D} (l : LcAt K S1 H1 D0 acc r S H) (h1 : H1 D0 = none) : Ext S1 H1 (upd S D0 (.lst acc)) H ∧ DV K (upd S D0 (.lst acc)) (.ref D0) (.list r) := by
  have sm : Same S (upd S D0 (.lst acc)) := same_upd l.sD
  refine ⟨⟨l.s.trans sm, l.h, fun b o e => ?_, fun x hx => ?_⟩, D0, acc, rfl, ls_of upd_same, l.dv.mono sm⟩
  · by_cases hb : b = D0
    · subst hb
      rw [upd_same] at e
      rw [l.hD]
      exact e
    · rw [upd_ne hb] at e
      exact l.sh b o e
  · rw [upd_ne (fun z => hx (by rw [z]; exact h1))]
    exact l.old x hx
theorem ok_of_noerr {α : Type} {mg : Str → Option Value} {S H : Hp} {W : Type} {R : Hp → W → α → Prop} {r : Res α} {Q : W → Hp → Prop} (h : PostG mg E S H R r Q) (hn : ∀ c, r ≠ .err c) : ∃ a, r = .ok a ∧ PostG mg E S H R (.ok a) Q := by
  cases r with
  | ok a => exact ⟨a, rfl, h⟩
  | err c => exact absurd rfl (hn c)
  | bad => exact h.elim
theorem lcEnd_ok {S H : Hp} {r : Res (List D)} {Q : VK} (h : PostG mg E S H (DV K) (lcEnd r) Q) (hn : ∀ c, r ≠ .err c) : ∃ ys, r = .ok ys ∧ lenOk (ys.length + 1) = true ∧ PostG mg E S H (DV K) (.ok (.list ys)) Q := by
  cases r with
  | ok ys =>
    unfold lcEnd at h
    rw [bind_ok] at h
    split at h
    · rename_i hz
      exact ⟨ys, rfl, hz, h⟩
    · exact h.elim
  | err c => exact absurd rfl (hn c)
  | bad => exact h.elim
theorem lcGo_le {step : D → Res (List D)} {xs ys : List D} (h : lcGo step xs = .ok ys) (i : Nat) {r : List D} (hr : lcGo step (xs.take i) = .ok r) : r.length ≤ ys.length := by
  have key : ∀ (as bs : List D) (ra r : List D), lcGo step (as ++ bs) = .ok r → lcGo step as = .ok ra → ra.length ≤ r.length := by
    intro as
    induction as with
    | nil => intro bs ra r _ h2; cases h2; exact Nat.zero_le _
    | cons a as ih =>
      intro bs ra r h1 h2
      have h1 : ((step a).strict.bind fun o => (lcGo step (as ++ bs)).bind fun r => .ok (o ++ r)) = .ok r := h1
      have h2 : ((step a).strict.bind fun o => (lcGo step as).bind fun r => .ok (o ++ r)) = .ok ra := h2
      cases e0 : (step a).strict with
      | ok o =>
        rw [e0] at h1 h2
        cases e1 : lcGo step (as ++ bs) with
        | ok r1 =>
          rw [e1] at h1
          cases e2 : lcGo step as with
          | ok r2 =>
            rw [e2] at h2
            have h1 : Res.ok (o ++ r1) = Res.ok r := h1
            have h2 : Res.ok (o ++ r2) = Res.ok ra := h2
            cases h1
            cases h2
            have := ih bs r2 r1 e1 e2
            rw [List.length_append, List.length_append]
            omega
          | err c => rw [e2] at h2; cases h2
          | bad => rw [e2] at h2; cases h2
        | err c => rw [e1] at h1; cases h1
        | bad => rw [e1] at h1; cases h1
      | err c => rw [e0] at h1; cases h1
      | bad => rw [e0] at h1; cases h1
  refine key (xs.take i) (xs.drop i) r ys ?_ hr
  rw [List.take_append_drop]
  exact h
variable {elt tg iter : Expr} {ifs : List Expr} {scope : Scope} {own : List (Str × Nat)} {pos : Pos} {wi : TI} {g : TG} {tt : TT} {te : TE} {src : DEnv → Res (List D)} {is : List Nat} {h : D → Option (List D)} {ft : DEnv → Res Bool} {fe : DEnv → Res D}
/-- the step is sound -/
theorem lcStep_ok {ρ : DEnv} {own is : List Nat} {h : D → Option (List D)} {ft : DEnv → Res Bool} {fe : DEnv → Res D} {d : D} {o : List D} (e : lcStep ρ own is h ft fe d = .ok o) : ∃ xs b, h d = some xs ∧ ft (setD (wipeD ρ own) is xs) = .ok b ∧
    ((b = false ∧ o = []) ∨ (b = true ∧ ∃ y, fe (setD (wipeD ρ own) is xs) = .ok y ∧ o = [y])) := by
  unfold lcStep at e
  split at e
  · cases e
  · rename_i xs hx
    cases e1 : ft (setD (wipeD ρ own) is xs) with
    | ok b =>
      rw [e1, bind_ok] at e
      refine ⟨xs, b, hx, e1, ?_⟩
      cases b with
      | false =>
        cases e
        exact .inl ⟨rfl, rfl⟩
      | true =>
        cases e2 : fe (setD (wipeD ρ own) is xs) with
        | ok y =>
          rw [e2] at e
          cases e
          exact .inr ⟨rfl, y, rfl, rfl⟩
        | err c => rw [e2] at e; cases e
        | bad => rw [e2] at e; cases e
    | err c => rw [e1] at e; cases e
    | bad => rw [e1] at e; cases e
theorem lc_sd' {X' : Cx} {S H : Hp} {σ : L2.St} {ρ : DEnv} (hsrc : ∀ R : It → Hp → Prop, PostG mg E S H (fun S J ds => Walks K S J ds) (src ρ) R → wi σ H R) (hg : GD K X' tg g is h) (ht : TDs K mg X' E0 ifs tt ft) (he : PD K mg X' E0 elt te fe) {vs : List Nat} (his : ∀ i ∈ is, i ∈ vs)
    (Q : VK) (rl : RelE K S H σ ρ) (hp : PostG mg E S H (DV K) (fLc src vs is h ft fe ρ) Q) : tLc wi g tt te vs σ H Q := by
  refine hsrc _ (hp.bind fun ds J S1 H1 x1 wk hq => ?_)
  intro D0 hD
  obtain ⟨ys, hgo, hlen, hq⟩ := lcEnd_ok hq (lcGo_noerr _ _)
  refine ⟨fun i m H => i + m = ds.length ∧ ∃ S acc r, LcAt K S1 H1 D0 acc r S H ∧ lcGo (lcStep ρ vs is h ft fe) (ds.take i) = .ok r, ⟨ds.length, by omega, S1, [], [], LcAt.start x1.sh hD, rfl⟩, ?_⟩
  rintro i m H2 ⟨him, S2, acc, r, la, hr⟩
  have wk2 := wk S2 H2 la.s la.sh
  by_cases hi : i < ds.length
  · obtain ⟨go, yl⟩ := wk2.1 i ds[i] (List.getElem?_eq_getElem hi)
    obtain ⟨r', g1, g2⟩ := lcGo_part i hgo
    obtain ⟨o, g3, g4⟩ := g2 ds[i] (List.getElem?_eq_getElem hi)
    rw [hr] at g1
    cases g1
    have hrl : (r ++ o).length ≤ ys.length := lcGo_le hgo (i + 1) g4
    have hz := lenOk.le hlen
    obtain ⟨xs, b, k1, k2, k3⟩ := lcStep_ok g3
    refine .inr ⟨go, fun H' => ∃ S acc, LcAt K S1 H1 D0 acc (r ++ o) S H', fun H' ⟨S', acc', l'⟩ => ⟨m - 1, by omega, by omega, S', acc', _, l', g4⟩, fun x H3 hy => ?_⟩
    obtain ⟨S3, x3, dx⟩ := yl x H3 hy
    have l3 := la.ext x3
    refine hg.sd S3 H3 x _ ds[i] xs _ x3.sh dx k1 fun us hus => ?_
    refine ⟨by rw [wipe_setAll is us his, wipe_wipe vs vs fun _ z => z], ?_⟩
    have x13 : Ext S H S3 H3 := by
      refine x1.trans ⟨l3.s, l3.h, l3.sh, l3.old⟩
    have rl3 : RelE K S3 H3 (PD.setAll (L2.wipe σ vs) is us) (setD (wipeD ρ vs) is xs) := ((rl.mono x13).wipe vs).setAll is us xs hus
    refine ht.sd S3 H3 _ (setD (wipeD ρ vs) is xs) _ rl3 ?_
    rw [k2]
    intro b' S4 H4 x4 eb
    cases eb
    have l4 := l3.ext x4
    rcases k3 with ⟨rfl, rfl⟩ | ⟨rfl, y, ey, rfl⟩
    · refine iteF ?_
      exact ⟨S4, acc, by rw [List.append_nil]; exact l4⟩
    · refine iteT ?_
      refine he.sd S4 H4 _ (setD (wipeD ρ vs) is xs) _ (rl3.mono x4) ?_
      rw [ey]
      intro v S5 H5 x5 dv
      have l5 := l4.ext x5
      refine ⟨acc, l5.hD, ?_, S5, acc ++ [v], l5.push hD dv⟩
      rw [la.dv.length]
      rw [List.length_append] at hrl
      have : ([y] : List D).length = 1 := rfl
      omega
  · have ei : ds.take i = ds := List.take_of_length_le (by omega)
    have e2 : i = ds.length := by omega
    subst e2
    rw [ei, hgo] at hr
    cases hr
    obtain ⟨xx, dd⟩ := la.done hD
    exact .inl ⟨wk2.2, hq.ok xx dd⟩
theorem lc_sd {X' : Cx} (hsrc : ID K mg X E tg iter wi src) (hg : GD K X' tg g is h) (ht : TDs K mg X' E0 ifs tt ft) (he : PD K mg X' E0 elt te fe) {vs : List Nat} (his : ∀ i ∈ is, i ∈ vs)
    (S H : Hp) (σ : L2.St) (ρ : DEnv) (Q : VK) (rl : RelE K S H σ ρ) (hp : PostG mg E S H (DV K) (fLc src vs is h ft fe ρ) Q) : tLc wi g tt te vs σ H Q :=
  lc_sd' (fun R q => hsrc.sd S H σ ρ R rl q) hg ht he his Q rl hp
end
end PD
namespace PD
open PySem L2
section
variable {K : PySem.W.Frag} {mg : Str → Option Value} {X : Cx} {E : XK}
variable {elt tg iter tg1 iter1 : Expr} {ifs ifs1 : List Expr} {scope : Scope} {own : List (Str × Nat)} {pos : Pos} {wi wi1 : TI} {g g1 : TG} {tt tt1 : TT} {te : TE} {src src1 : DEnv → Res (List D)} {is is1 : List Nat} {h h1 : D → Option (List D)} {ft ft1 : DEnv → Res Bool} {fe : DEnv → Res D}
abbrev Blk (X : Cx) (scope : Scope) (s : Shared) (H : Hp) (C : Addr) (cl : List (Str × Addr)) (fp : List Addr) : Cx := X.blk s H scope (compEnvC scope cl C X.env) fp
theorem pd_lc {vs : List Nat} (hc : X.calm = true) (hN : X.N.Nodup) (hi : ID K mg X E tg iter wi src) (ok : BlkOk X.N X.env.scope scope own)
    (hg : ∀ (s : Shared) (H : Hp) (C : Addr) (cl : List (Str × Addr)) (fp : List Addr), GD K (Blk X scope s H C cl fp) tg g is h) (ht : ∀ (s : Shared) (H : Hp) (C : Addr) (cl : List (Str × Addr)) (fp : List Addr), TDs K mg (Blk X scope s H C cl fp) E0 ifs tt ft)
    (he : ∀ (s : Shared) (H : Hp) (C : Addr) (cl : List (Str × Addr)) (fp : List Addr), PD K mg (Blk X scope s H C cl fp) E0 elt te fe) (hvs : own.map (·.2) = vs := by rfl) (his : ∀ i ∈ is, i ∈ vs := by decide) (hs : ∀ x, foldedSetIterable iter X.env x = pure x := by intro _; rfl) :
    PD K mg X E (.ListComp elt [⟨tg, iter, ifs, 0⟩] scope pos) (tLc wi g tt te vs) (fLc src vs is h ft fe) :=
  ⟨hvs ▸ pe_lc hc hN hi.pi ok (fun s H C cl fp => (hg s H C cl fp).pg) (fun s H C cl fp => (ht s H C cl fp).pe) (fun s H C cl fp => (he s H C cl fp).pe) hs,
   fun S H σ ρ Q rl hp => lc_sd (X := X) (X' := Blk X scope X.s_0 X.H_0 0 [] []) hi (hg _ _ _ _ _) (ht _ _ _ _ _) (he _ _ _ _ _) his S H σ ρ Q rl hp⟩
def lc2Step (ρ : DEnv) (own is : List Nat) (h : D → Option (List D)) (ft : DEnv → Res Bool) (src1 : DEnv → Res (List D)) (own1 is1 : List Nat) (h1 : D → Option (List D)) (ft1 : DEnv → Res Bool) (fe : DEnv → Res D) (d : D) : Res (List D) := match h d with
  | none => .bad
  | some xs => (ft (setD (wipeD ρ own) is xs)).bind fun b => if b = true then (src1 (setD (wipeD ρ own) is xs)).bind fun es => lcGo (lcStep (setD (wipeD ρ own) is xs) own1 is1 h1 ft1 fe) es else .ok []
def fLc2 (src : DEnv → Res (List D)) (own is : List Nat) (h : D → Option (List D)) (ft : DEnv → Res Bool) (src1 : DEnv → Res (List D)) (own1 is1 : List Nat) (h1 : D → Option (List D)) (ft1 : DEnv → Res Bool) (fe : DEnv → Res D) : DEnv → Res D :=
  fun ρ => (src ρ).bind fun ds => lcEnd (lcGo (lc2Step ρ own is h ft src1 own1 is1 h1 ft1 fe) ds)
theorem lc2Step_ok {ρ : DEnv} {own is : List Nat} {h : D → Option (List D)} {ft : DEnv → Res Bool} {src1 : DEnv → Res (List D)} {own1 is1 : List Nat} {h1 : D → Option (List D)} {ft1 : DEnv → Res Bool} {fe : DEnv → Res D} {d : D} {o : List D} (e : lc2Step ρ own is h ft src1 own1 is1 h1 ft1 fe d = .ok o) :
    ∃ xs b, h d = some xs ∧ ft (setD (wipeD ρ own) is xs) = .ok b ∧ ((b = false ∧ o = []) ∨ (b = true ∧ ∃ es, src1 (setD (wipeD ρ own) is xs) = .ok es ∧ lcGo (lcStep (setD (wipeD ρ own) is xs) own1 is1 h1 ft1 fe) es = .ok o)) := by
  unfold lc2Step at e
  split at e
  · cases e
  · rename_i xs hx
    cases e1 : ft (setD (wipeD ρ own) is xs) with
    | ok b =>
      rw [e1, bind_ok] at e
      refine ⟨xs, b, hx, e1, ?_⟩
      cases b with
      | false =>
        cases e
        exact .inl ⟨rfl, rfl⟩
      | true =>
        cases e2 : src1 (setD (wipeD ρ own) is xs) with
        | ok y =>
          rw [e2] at e
          exact .inr ⟨rfl, y, rfl, e⟩
        | err c => rw [e2] at e; cases e
        | bad => rw [e2] at e; cases e
    | err c => rw [e1] at e; cases e
    | bad => rw [e1] at e; cases e
theorem lc2_sd {X' : Cx} (hsrc : ID K mg X E tg iter wi src) (hg : GD K X' tg g is h) (ht : TDs K mg X' E0 ifs tt ft) (hsrc1 : ID K mg X' E0 tg1 iter1 wi1 src1) (hg1 : GD K X' tg1 g1 is1 h1) (ht1 : TDs K mg X' E0 ifs1 tt1 ft1) (he : PD K mg X' E0 elt te fe) {vs vs1 : List Nat} (his : ∀ i ∈ is, i ∈ vs) (his1 : ∀ i ∈ is1, i ∈ vs1)
    (S H : Hp) (σ : L2.St) (ρ : DEnv) (Q : VK) (rl : RelE K S H σ ρ) (hp : PostG mg E S H (DV K) (fLc2 src vs is h ft src1 vs1 is1 h1 ft1 fe ρ) Q) : tLc2 wi g tt wi1 g1 tt1 te vs vs1 σ H Q := by
  refine hsrc.sd S H σ ρ _ rl (hp.bind fun ds J S1 H1 x1 wk hq => ?_)
  intro D0 hD
  obtain ⟨ys, hgo, hlen, hq⟩ := lcEnd_ok hq (lcGo_noerr _ _)
  refine ⟨fun i m H => i + m = ds.length ∧ ∃ S acc r, LcAt K S1 H1 D0 acc r S H ∧ lcGo (lc2Step ρ vs is h ft src1 vs1 is1 h1 ft1 fe) (ds.take i) = .ok r, ⟨ds.length, by omega, S1, [], [], LcAt.start x1.sh hD, rfl⟩, ?_⟩
  rintro i m H2 ⟨him, S2, acc, r, la, hr⟩
  have wk2 := wk S2 H2 la.s la.sh
  by_cases hi : i < ds.length
  · obtain ⟨go, yl⟩ := wk2.1 i ds[i] (List.getElem?_eq_getElem hi)
    obtain ⟨r', g1', g2⟩ := lcGo_part i hgo
    obtain ⟨o, g3, g4⟩ := g2 ds[i] (List.getElem?_eq_getElem hi)
    rw [hr] at g1'
    cases g1'
    have hrl : (r ++ o).length ≤ ys.length := lcGo_le hgo (i + 1) g4
    have hz := lenOk.le hlen
    obtain ⟨xs, b, k1, k2, k3⟩ := lc2Step_ok g3
    refine .inr ⟨go, fun H' => ∃ S acc, LcAt K S1 H1 D0 acc (r ++ o) S H', fun H' ⟨S', acc', l'⟩ => ⟨m - 1, by omega, by omega, S', acc', _, l', g4⟩, fun x H3 hy => ?_⟩
    obtain ⟨S3, x3, dx⟩ := yl x H3 hy
    have l3 := la.ext x3
    refine hg.sd S3 H3 x _ ds[i] xs _ x3.sh dx k1 fun us hus => ?_
    refine ⟨by rw [wipe_setAll is us his, wipe_wipe vs vs fun _ z => z], ?_⟩
    have x13 : Ext S H S3 H3 := x1.trans ⟨l3.s, l3.h, l3.sh, l3.old⟩
    have rl3 : RelE K S3 H3 (PD.setAll (L2.wipe σ vs) is us) (setD (wipeD ρ vs) is xs) := ((rl.mono x13).wipe vs).setAll is us xs hus
    refine ht.sd S3 H3 _ (setD (wipeD ρ vs) is xs) _ rl3 ?_
    rw [k2]
    intro b' S4 H4 x4 eb
    cases eb
    have l4 := l3.ext x4
    rcases k3 with ⟨rfl, rfl⟩ | ⟨rfl, es, ee, hin⟩
    · refine iteF ?_
      exact ⟨S4, acc, by rw [List.append_nil]; exact l4⟩
    · refine iteT ?_
      have rl4 := rl3.mono x4
      refine hsrc1.sd S4 H4 _ (setD (wipeD ρ vs) is xs) _ rl4 ?_
      rw [ee]
      intro J1 S5 H5 x5 wk5
      have l5 := l4.ext x5
      have rl5 := rl4.mono x5
      refine ⟨fun j k H => j + k = es.length ∧ ∃ S acc rj, LcAt K S1 H1 D0 acc (r ++ rj) S H ∧ Ext S5 (fun a => if a = D0 then none else H5 a) S (fun a => if a = D0 then none else H a) ∧ lcGo (lcStep (setD (wipeD ρ vs) is xs) vs1 is1 h1 ft1 fe) (es.take j) = .ok rj, ⟨es.length, by omega, S5, acc, [], by rw [List.append_nil]; exact l5, ?_, rfl⟩, ?_⟩
      · refine Ext.refl fun a o e => ?_
        have : a ≠ D0 := ne_of_none e l5.sD
        show (if a = D0 then none else H5 a) = some o
        rw [if_neg this]
        exact l5.sh a o e
      rintro j k H6 ⟨hjk, S6, acc6, rj, l6, x6, hrj⟩
      have s56 : Same S5 S6 := x6.s
      have wk6 := wk5 S6 H6 s56 l6.sh
      by_cases hj : j < es.length
      · obtain ⟨go1, yl1⟩ := wk6.1 j es[j] (List.getElem?_eq_getElem hj)
        obtain ⟨rj', q1, q2⟩ := lcGo_part j hin
        obtain ⟨o1, q3, q4⟩ := q2 es[j] (List.getElem?_eq_getElem hj)
        rw [hrj] at q1
        cases q1
        have hrl1 : (rj ++ o1).length ≤ o.length := lcGo_le hin (j + 1) q4
        obtain ⟨xs1, b1, p1, p2, p3⟩ := lcStep_ok q3
        have push : ∀ {S' H'}, Ext S6 H6 S' H' → Ext S5 (fun a => if a = D0 then none else H5 a) S' (fun a => if a = D0 then none else H' a) := fun {S' H'} xx => by
          refine x6.trans ⟨xx.s, fun a o e => ?_, fun a o e => ?_, fun a ha => ?_⟩
          · have e : (if a = D0 then none else H6 a) = some o := e
            show (if a = D0 then none else H' a) = some o
            split at e
            · cases e
            · rename_i hn
              rw [if_neg hn]
              exact xx.h a o e
          · have hn : a ≠ D0 := by
              intro z
              subst z
              rw [xx.old a (by rw [l6.hD]; exact (fun z => nomatch z)), l6.sD] at e
              cases e
            show (if a = D0 then none else H' a) = some o
            rw [if_neg hn]
            exact xx.sh a o e
          · refine xx.old a fun z => ha ?_
            show (if a = D0 then none else H6 a) = none
            split
            · rfl
            · exact z
        refine .inr ⟨go1, fun H' => ∃ S acc, LcAt K S1 H1 D0 acc (r ++ (rj ++ o1)) S H' ∧ Ext S5 (fun a => if a = D0 then none else H5 a) S (fun a => if a = D0 then none else H' a), fun H' ⟨S', acc', l', xx⟩ => ⟨k - 1, by omega, by omega, S', acc', _, l', xx, q4⟩, fun x' H7 hy' => ?_⟩
        obtain ⟨S7, x7, dx7⟩ := yl1 x' H7 hy'
        have l7 := l6.ext x7
        refine hg1.sd S7 H7 x' _ es[j] xs1 _ x7.sh dx7 p1 fun us1 hus1 => ?_
        refine ⟨by rw [wipe_setAll is1 us1 his1, wipe_wipe vs1 vs1 fun _ z => z], ?_⟩
        have rl7 : RelE K S7 H7 (PD.setAll (L2.wipe σ vs) is us) (setD (wipeD ρ vs) is xs) :=
          ⟨x7.sh, rl5.len, fun a y e => let ⟨v, e1, e2⟩ := rl5.dt a y e; ⟨v, e1, (e2.mono s56).mono x7.s⟩, rl5.rw⟩
        have rl8 := (rl7.wipe vs1).setAll is1 us1 xs1 hus1
        refine ht1.sd S7 H7 _ _ _ rl8 ?_
        rw [p2]
        intro b'' S8 H8 x8 eb
        cases eb
        have l8 := l7.ext x8
        rcases p3 with ⟨rfl, rfl⟩ | ⟨rfl, y, ey, rfl⟩
        · refine iteF ?_
          exact ⟨S8, acc6, by rw [List.append_nil]; exact l8, push (x7.trans x8)⟩
        · refine iteT ?_
          refine he.sd S8 H8 _ _ _ (rl8.mono x8) ?_
          rw [ey]
          intro v S9 H9 x9 dv
          have l9 := l8.ext x9
          refine ⟨acc6, l9.hD, ?_, S9, acc6 ++ [v], ?_, ?_⟩
          · rw [l6.dv.length, List.length_append]
            rw [List.length_append] at hrl hrl1
            have : ([y] : List D).length = 1 := rfl
            omega
          · rw [← List.append_assoc]
            exact l9.push hD dv
          · have q := push ((x7.trans x8).trans x9)
            have eqh : (fun a => if a = D0 then none else upd H9 D0 (.lst (acc6 ++ [v])) a) = (fun a => if a = D0 then none else H9 a) := by
              funext a
              by_cases ha : a = D0
              · rw [if_pos ha, if_pos ha]
              · rw [if_neg ha, if_neg ha, upd_ne ha]
            show Ext S5 (fun a => if a = D0 then none else H5 a) S9 (fun a => if a = D0 then none else upd H9 D0 (.lst (acc6 ++ [v])) a)
            rw [eqh]
            exact q
      · have ei : es.take j = es := List.take_of_length_le (by omega)
        have e2 : j = es.length := by omega
        subst e2
        rw [ei, hin] at hrj
        cases hrj
        exact .inl ⟨wk6.2, S6, acc6, l6⟩
  · have ei : ds.take i = ds := List.take_of_length_le (by omega)
    have e2 : i = ds.length := by omega
    subst e2
    rw [ei, hgo] at hr
    cases hr
    obtain ⟨xx, dd⟩ := la.done hD
    exact .inl ⟨wk2.2, hq.ok xx dd⟩
theorem pd_lc2 {vs vs1 : List Nat} (hc : X.calm = true) (hN : X.N.Nodup) (hi : ID K mg X E tg iter wi src) (ok : BlkOk X.N X.env.scope scope own) (hv : ∀ i ∈ vs1, i ∈ own.map (·.2))
    (hg : ∀ (s : Shared) (H : Hp) (C : Addr) (cl : List (Str × Addr)) (fp : List Addr), GD K (Blk X scope s H C cl fp) tg g is h) (ht : ∀ (s : Shared) (H : Hp) (C : Addr) (cl : List (Str × Addr)) (fp : List Addr), TDs K mg (Blk X scope s H C cl fp) E0 ifs tt ft)
    (hi1 : ∀ (s : Shared) (H : Hp) (C : Addr) (cl : List (Str × Addr)) (fp : List Addr), ID K mg (Blk X scope s H C cl fp) E0 tg1 iter1 wi1 src1)
    (hg1 : ∀ (s : Shared) (H : Hp) (C : Addr) (cl : List (Str × Addr)) (fp : List Addr), GD K (Blk X scope s H C cl fp) tg1 g1 is1 h1) (ht1 : ∀ (s : Shared) (H : Hp) (C : Addr) (cl : List (Str × Addr)) (fp : List Addr), TDs K mg (Blk X scope s H C cl fp) E0 ifs1 tt1 ft1)
    (he : ∀ (s : Shared) (H : Hp) (C : Addr) (cl : List (Str × Addr)) (fp : List Addr), PD K mg (Blk X scope s H C cl fp) E0 elt te fe) (hvs : own.map (·.2) = vs := by rfl) (his : ∀ i ∈ is, i ∈ vs := by decide) (his1 : ∀ i ∈ is1, i ∈ vs1 := by decide)
    (hs : ∀ x, foldedSetIterable iter X.env x = pure x := by intro _; rfl) (hs1 : ∀ (env : Env) x, foldedSetIterable iter1 env x = pure x := by intro _ _; rfl) :
    PD K mg X E (.ListComp elt [⟨tg, iter, ifs, 0⟩, ⟨tg1, iter1, ifs1, 0⟩] scope pos) (tLc2 wi g tt wi1 g1 tt1 te vs vs1) (fLc2 src vs is h ft src1 vs1 is1 h1 ft1 fe) :=
  ⟨hvs ▸ pe_lc2 hc hN hi.pi ok hv (fun s H C cl fp => (hg s H C cl fp).pg) (fun s H C cl fp => (ht s H C cl fp).pe) (fun s H C cl fp => (hi1 s H C cl fp).pi) (fun s H C cl fp => (hg1 s H C cl fp).pg) (fun s H C cl fp => (ht1 s H C cl fp).pe) (fun s H C cl fp => (he s H C cl fp).pe) hs hs1,
   fun S H σ ρ Q rl hp => lc2_sd (X := X) (X' := Blk X scope X.s_0 X.H_0 0 [] []) hi (hg _ _ _ _ _) (ht _ _ _ _ _) (hi1 _ _ _ _ _) (hg1 _ _ _ _ _) (ht1 _ _ _ _ _) (he _ _ _ _ _) his his1 S H σ ρ Q rl hp⟩
end
end PD
namespace PD
open PySem L2
/-! ### states of a body: what is shared, what a slot owns -/
def isOwn : Slot → Bool
  | .own _ => true
  | .ownK _ => true
  | .ownT _ => true
  | _ => false
def OwnOk (K : PySem.W.Frag) (S H : Hp) (p : Addr) : Slot → Prop
  | .own xs => ∃ vs, H p = some (.lst vs) ∧ DVs K S vs xs
  | .ownK kvs => ∃ es : List (Key × V), H p = some (.dK es) ∧ es.map (·.1) = kvs.map (·.1) ∧ DVs K S (es.map (·.2)) (kvs.map (·.2))
  | .ownT kvs => ∃ es : List (List Key × V), H p = some (.dT es) ∧ es.map (·.1) = kvs.map (·.1) ∧ DVs K S (es.map (·.2)) (kvs.map (·.2))
  | _ => False
theorem OwnOk.mono {K : PySem.W.Frag} {S H S' H' : Hp} {p : Addr} {s : Slot} (o : OwnOk K S H p s) (e : Same S S') (h : ∀ u, H p = some u → H' p = some u) : OwnOk K S' H' p s := by
  cases s with
  | own xs => obtain ⟨vs, h1, h2⟩ := o; exact ⟨vs, h _ h1, h2.mono e⟩
  | ownK kvs => obtain ⟨vs, h1, h2, h3⟩ := o; exact ⟨vs, h _ h1, h2, h3.mono e⟩
  | ownT kvs => obtain ⟨vs, h1, h2, h3⟩ := o; exact ⟨vs, h _ h1, h2, h3.mono e⟩
  | _ => exact o.elim
theorem OwnOk.some {K : PySem.W.Frag} {S H : Hp} {p : Addr} {s : Slot} (o : OwnOk K S H p s) : ∃ u, H p = some u := by
  cases s with
  | own xs => obtain ⟨vs, h1, h2⟩ := o; exact ⟨_, h1⟩
  | ownK kvs => obtain ⟨vs, h1, h2, h3⟩ := o; exact ⟨_, h1⟩
  | ownT kvs => obtain ⟨vs, h1, h2, h3⟩ := o; exact ⟨_, h1⟩
  | _ => exact o.elim
structure Rel (K : PySem.W.Frag) (S0 H0 S H : Hp) (σ : L2.St) (ρ : DEnv) : Prop where
  x : Ext S0 H0 S H
  len : σ.length = ρ.length
  dt : ∀ (i : Nat) (y : D), ρ[i]? = some (Slot.d y) → ∃ v, σ[i]? = some (some v) ∧ DV K S v y
  rw : ∀ (i : Nat) (v : V), ρ[i]? = some (Slot.raw v) → σ[i]? = some (some v)
  own : ∀ (i : Nat) (s : Slot), ρ[i]? = some s → isOwn s = true → ∃ p, σ[i]? = some (some (.ref p)) ∧ S p = none ∧ H0 p = none ∧ OwnOk K S H p s
  dis : ∀ (i j : Nat) (s s' : Slot) (p : Addr), ρ[i]? = some s → ρ[j]? = some s' → isOwn s = true → isOwn s' = true → σ[i]? = some (some (.ref p)) → σ[j]? = some (some (.ref p)) → i = j
def view : Slot → Slot
  | .own xs => .d (.list xs)
  | .ownK kvs => .d (.dict (kvs.map fun e => (kD e.1, e.2)))
  | .ownT kvs => .d (.dict (kvs.map fun e => (.tuple (e.1.map kD), e.2)))
  | s => s
def viewAll (ρ : DEnv) : DEnv := ρ.map view
section
variable {K : PySem.W.Frag} {S0 H0 S H S' H' : Hp} {σ : L2.St} {ρ : DEnv}
theorem Rel.relE (r : Rel K S0 H0 S H σ ρ) : RelE K S H σ ρ := ⟨r.x.sh, r.len, r.dt, r.rw⟩
theorem DVp_of {K : PySem.W.Frag} {S : Hp} {κ : Type} (f : κ → D) : ∀ {vs : List V} {kvs : List (κ × D)}, DVs K S vs (kvs.map (·.2)) → DVp K S vs (kvs.map fun e => (f e.1, e.2))
  | [], [], _ => by rw [List.map_nil, DVp]; trivial
  | v :: vs, e :: kvs, h => by
    rw [List.map_cons, DVp]
    exact ⟨h.1, DVp_of f (vs := vs) (kvs := kvs) h.2⟩
  | [], _ :: _, h => h.elim
  | _ :: _, [], h => h.elim
theorem own_dv {p : Addr} {s : Slot} {y : D} (o : OwnOk K S H p s) (e : view s = .d y) (hs : isOwn s = true) (T : Hp) (st : Same S T) (ht : ∀ u, H p = some u → T p = some u) : DV K T (.ref p) y := by
  cases s with
  | own xs =>
    obtain ⟨vs, h1, h2⟩ := o
    cases e
    exact ⟨p, vs, rfl, ls_of (ht _ h1), h2.mono st⟩
  | ownK kvs =>
    obtain ⟨vs, h1, h2, h3⟩ := o
    cases e
    refine ⟨p, rfl, .inl ⟨vs, .inl (ht _ h1), ?_, DVp_of _ (h3.mono st)⟩⟩
    have := congrArg (List.map kD) h2
    simp only [List.map_map] at this ⊢
    exact this.symm
  | ownT kvs =>
    obtain ⟨vs, h1, h2, h3⟩ := o
    cases e
    refine ⟨p, rfl, .inr ⟨vs, .inl (ht _ h1), ?_, DVp_of (fun k : List Key => PyData.tuple (k.map kD)) (h3.mono st)⟩⟩
    have := congrArg (List.map fun k : List Key => PyData.tuple (k.map kD)) h2
    simp only [List.map_map] at this ⊢
    exact this.symm
  | _ => cases hs
theorem view_d {s : Slot} {y : D} (e : view s = .d y) : (isOwn s = true) ∨ s = .d y := by
  cases s with
  | un => cases e
  | d x => exact .inr e
  | own xs => exact .inl rfl
  | ownK kvs => exact .inl rfl
  | ownT kvs => exact .inl rfl
  | raw v => cases e
theorem view_raw {s : Slot} {v : V} (e : view s = .raw v) : s = .raw v := by
  cases s with
  | raw w => exact e
  | _ => cases e
/-- all that is tracked, read: nothing is owned for the while -/
theorem Rel.relV (r : Rel K S0 H0 S H σ ρ) : RelE K H H σ (viewAll ρ) := by
  refine ⟨Same.refl H, by unfold viewAll; rw [List.length_map]; exact r.len, fun i y e => ?_, fun i v e => ?_⟩
  · unfold viewAll at e
    rw [List.getElem?_map] at e
    cases e1 : ρ[i]? with
    | none => rw [e1] at e; cases e
    | some s =>
      rw [e1] at e
      have e2 : view s = .d y := Option.some.inj e
      rcases view_d e2 with hs | hs
      · obtain ⟨p, h1, h2, h3, h4⟩ := r.own i s e1 hs
        exact ⟨_, h1, own_dv h4 e2 hs H r.x.sh fun _ z => z⟩
      · rw [hs] at e1
        obtain ⟨v, h1, h2⟩ := r.dt i y e1
        exact ⟨v, h1, h2.mono r.x.sh⟩
  · unfold viewAll at e
    rw [List.getElem?_map] at e
    cases e1 : ρ[i]? with
    | none => rw [e1] at e; cases e
    | some s =>
      rw [e1] at e
      have e2 : view s = .raw v := Option.some.inj e
      rw [view_raw e2] at e1
      exact r.rw i v e1
theorem Rel.ext (r : Rel K S0 H0 S H σ ρ) (y : Ext S H S' H') : Rel K S0 H0 S' H' σ ρ :=
  ⟨r.x.trans y, r.len, fun i z e => let ⟨v, h1, h2⟩ := r.dt i z e; ⟨v, h1, h2.mono y.s⟩, r.rw, fun i s e hs => by
    obtain ⟨p, h1, h2, h3, h4⟩ := r.own i s e hs
    obtain ⟨u, hu⟩ := h4.some
    exact ⟨p, h1, by rw [y.old p (by rw [hu]; exact (fun z => nomatch z))]; exact h2, h3, h4.mono y.s fun _ z => y.h _ _ z⟩, r.dis⟩
theorem Rel.grow (r : Rel K S0 H0 S H σ ρ) (y : Same H H') : Rel K S0 H0 S H' σ ρ :=
  ⟨⟨r.x.s, r.x.h.trans y, r.x.sh.trans y, r.x.old⟩, r.len, r.dt, r.rw, fun i s e hs => by
    obtain ⟨p, h1, h2, h3, h4⟩ := r.own i s e hs
    exact ⟨p, h1, h2, h3, h4.mono (Same.refl _) fun _ z => y _ _ z⟩, r.dis⟩
theorem set_at {α : Type} {l : List α} {i j : Nat} {x y : α} (e : (l.set i x)[j]? = some y) : (i = j ∧ i < l.length ∧ x = y) ∨ (i ≠ j ∧ l[j]? = some y) := by
  by_cases hj : i = j
  · subst hj
    by_cases hi : i < l.length
    · rw [List.getElem?_set_self hi] at e
      exact .inl ⟨rfl, hi, Option.some.inj e⟩
    · rw [List.getElem?_eq_none (by rw [List.length_set]; omega)] at e
      cases e
  · rw [List.getElem?_set_ne hj] at e
    exact .inr ⟨hj, e⟩
theorem Rel.setV (r : Rel K S0 H0 S H σ ρ) {i : Nat} {v : V} {y : D} (h : DV K S v y) : Rel K S0 H0 S H (σ.set i (some v)) (ρ.set i (.d y)) := by
  have hl := r.len
  refine ⟨r.x, by rw [List.length_set, List.length_set]; exact hl, fun j z e => ?_, fun j z e => ?_, fun j s e hs => ?_, fun j k s s' p e1 e2 h1 h2 g1 g2 => ?_⟩
  · rcases set_at e with ⟨rfl, hi, e⟩ | ⟨hj, e⟩
    · cases e
      exact ⟨v, List.getElem?_set_self (by omega), h⟩
    · rw [List.getElem?_set_ne hj]
      exact r.dt j z e
  · rcases set_at e with ⟨rfl, hi, e⟩ | ⟨hj, e⟩
    · cases e
    · rw [List.getElem?_set_ne hj]
      exact r.rw j z e
  · rcases set_at e with ⟨rfl, hi, e⟩ | ⟨hj, e⟩
    · subst e
      cases hs
    · rw [List.getElem?_set_ne hj]
      exact r.own j s e hs
  · rcases set_at e1 with ⟨rfl, hi, e1⟩ | ⟨hj, e1⟩
    · subst e1
      cases h1
    · rcases set_at e2 with ⟨rfl, hi, e2⟩ | ⟨hk, e2⟩
      · subst e2
        cases h2
      · rw [List.getElem?_set_ne hj] at g1
        rw [List.getElem?_set_ne hk] at g2
        exact r.dis j k s s' p e1 e2 h1 h2 g1 g2
theorem Rel.setAll (is : List Nat) : ∀ (vs : List V) (ds : List D) {σ : L2.St} {ρ : DEnv}, Rel K S0 H0 S H σ ρ → DVs K S vs ds → Rel K S0 H0 S H (PD.setAll σ is vs) (setD ρ is ds) := by
  induction is with
  | nil => intro vs ds σ ρ r _; cases vs <;> cases ds <;> exact r
  | cons i is ih =>
    intro vs ds σ ρ r h
    cases vs with
    | nil =>
      cases ds with
      | nil => exact r
      | cons _ _ => exact h.elim
    | cons v vs =>
      cases ds with
      | nil => exact h.elim
      | cons d ds => exact ih vs ds (r.setV h.1) h.2
/-- a slot takes what is new and owned -/
theorem Rel.setOwn (r : Rel K S0 H0 S H σ ρ) {i : Nat} {p : Addr} {s : Slot} (hs : isOwn s = true) (h1 : S p = none) (h2 : H0 p = none) (h3 : OwnOk K S H p s) (h4 : ∀ (j : Nat) (s' : Slot), ρ[j]? = some s' → isOwn s' = true → σ[j]? ≠ some (some (.ref p))) :
    Rel K S0 H0 S H (σ.set i (some (.ref p))) (ρ.set i s) := by
  have hl := r.len
  refine ⟨r.x, by rw [List.length_set, List.length_set]; exact hl, fun j z e => ?_, fun j z e => ?_, fun j s' e hs' => ?_, fun j k s1 s2 q e1 e2 k1 k2 g1 g2 => ?_⟩
  · rcases set_at e with ⟨rfl, hi, e⟩ | ⟨hj, e⟩
    · subst e
      cases hs
    · rw [List.getElem?_set_ne hj]
      exact r.dt j z e
  · rcases set_at e with ⟨rfl, hi, e⟩ | ⟨hj, e⟩
    · subst e
      cases hs
    · rw [List.getElem?_set_ne hj]
      exact r.rw j z e
  · rcases set_at e with ⟨rfl, hi, e⟩ | ⟨hj, e⟩
    · subst e
      exact ⟨p, List.getElem?_set_self (by omega), h1, h2, h3⟩
    · rw [List.getElem?_set_ne hj]
      exact r.own j s' e hs'
  · rcases set_at e1 with ⟨rfl, hi, e1⟩ | ⟨hj, e1⟩
    · rcases set_at e2 with ⟨z, _, _⟩ | ⟨hk, e2⟩
      · exact z
      · rw [List.getElem?_set_self (by omega)] at g1
        rw [List.getElem?_set_ne hk] at g2
        cases g1
        exact absurd g2 (h4 k s2 e2 k2)
    · rcases set_at e2 with ⟨rfl, hi, e2⟩ | ⟨hk, e2⟩
      · rw [List.getElem?_set_self (by omega)] at g2
        rw [List.getElem?_set_ne hj] at g1
        cases g2
        exact absurd g1 (h4 j s1 e1 k1)
      · rw [List.getElem?_set_ne hj] at g1
        rw [List.getElem?_set_ne hk] at g2
        exact r.dis j k s1 s2 q e1 e2 k1 k2 g1 g2
/-- what a slot owns is changed -/
theorem Rel.mut (r : Rel K S0 H0 S H σ ρ) {i : Nat} {p : Addr} {s s' : Slot} {o : HO} (e : ρ[i]? = some s) (hs : isOwn s = true) (hs' : isOwn s' = true) (hp : σ[i]? = some (some (.ref p))) (h3 : OwnOk K S (upd H p o) p s') :
    Rel K S0 H0 S (upd H p o) σ (ρ.set i s') := by
  have hl := r.len
  obtain ⟨p', g1, g2, g3, g4⟩ := r.own i s e hs
  have ep : p' = p := by
    rw [hp] at g1
    cases g1
    rfl
  subst ep
  have il : i < ρ.length := (List.getElem?_eq_some_iff.mp e).1
  refine ⟨⟨r.x.s, fun b u q => ?_, fun b u q => ?_, r.x.old⟩, by rw [List.length_set]; exact hl, fun j z e' => ?_, fun j z e' => ?_, fun j s2 e' hs2 => ?_, fun j k s1 s2 q e1 e2 k1 k2 q1 q2 => ?_⟩
  · rw [upd_ne (ne_of_none q g3)]
    exact r.x.h b u q
  · rw [upd_ne (ne_of_none q g2)]
    exact r.x.sh b u q
  · rcases set_at e' with ⟨rfl, hi, e'⟩ | ⟨hj, e'⟩
    · subst e'
      cases hs'
    · exact r.dt j z e'
  · rcases set_at e' with ⟨rfl, hi, e'⟩ | ⟨hj, e'⟩
    · subst e'
      cases hs'
    · exact r.rw j z e'
  · rcases set_at e' with ⟨rfl, hi, e'⟩ | ⟨hj, e'⟩
    · subst e'
      exact ⟨p', hp, g2, g3, h3⟩
    · obtain ⟨q, q1, q2, q3, q4⟩ := r.own j s2 e' hs2
      have hq : q ≠ p' := fun z => hj (by
        subst z
        exact r.dis i j s s2 q e e' hs hs2 hp q1)
      exact ⟨q, q1, q2, q3, q4.mono (Same.refl _) fun u z => by rw [upd_ne hq]; exact z⟩
  · have w1 : ∃ t, ρ[j]? = some t ∧ isOwn t = true := by
      rcases set_at e1 with ⟨rfl, hi, e1⟩ | ⟨hj, e1⟩
      · exact ⟨s, e, hs⟩
      · exact ⟨s1, e1, k1⟩
    have w2 : ∃ t, ρ[k]? = some t ∧ isOwn t = true := by
      rcases set_at e2 with ⟨rfl, hi, e2⟩ | ⟨hj, e2⟩
      · exact ⟨s, e, hs⟩
      · exact ⟨s2, e2, k2⟩
    obtain ⟨t1, f1, f2⟩ := w1
    obtain ⟨t2, f3, f4⟩ := w2
    exact r.dis j k t1 t2 q f1 f3 f2 f4 q1 q2
/-- a slot gives up what it owns: it is shared -/
def frz1 (ρ : DEnv) (i : Nat) : DEnv := match ρ[i]? with
  | some s => ρ.set i (view s)
  | none => ρ
def frz (ρ : DEnv) : List Nat → DEnv
  | [] => ρ
  | i :: is => frz (frz1 ρ i) is
theorem Rel.frz1 (r : Rel K S0 H0 S H σ ρ) (i : Nat) : ∃ S', Same S S' ∧ Rel K S0 H0 S' H σ (PD.frz1 ρ i) := by
  unfold PD.frz1
  cases e : ρ[i]? with
  | none => exact ⟨S, Same.refl _, r⟩
  | some s =>
    show ∃ S', Same S S' ∧ Rel K S0 H0 S' H σ (ρ.set i (view s))
    by_cases hs : isOwn s = true
    · obtain ⟨p, g1, g2, g3, g4⟩ := r.own i s e hs
      obtain ⟨u, hu⟩ := g4.some
      have sm : Same S (upd S p u) := same_upd g2
      have il : i < ρ.length := (List.getElem?_eq_some_iff.mp e).1
      refine ⟨upd S p u, sm, ⟨r.x.s.trans sm, r.x.h, fun b o q => ?_, fun a ha => ?_⟩, by rw [List.length_set]; exact r.len, fun j z e' => ?_, fun j z e' => ?_, fun j s2 e' hs2 => ?_, fun j k s1 s2 q e1 e2 k1 k2 q1 q2 => ?_⟩
      · by_cases hb : b = p
        · subst hb
          rw [upd_same] at q
          rw [hu]
          exact q
        · rw [upd_ne hb] at q
          exact r.x.sh b o q
      · rw [upd_ne (fun z => ha (by rw [z]; exact g3))]
        exact r.x.old a ha
      · rcases set_at e' with ⟨rfl, hi, e'⟩ | ⟨hj, e'⟩
        · exact ⟨_, g1, own_dv g4 e' hs _ sm fun v hv => by rw [upd_same]; rw [hu] at hv; exact hv⟩
        · obtain ⟨v, h1, h2⟩ := r.dt j z e'
          exact ⟨v, h1, h2.mono sm⟩
      · rcases set_at e' with ⟨rfl, hi, e'⟩ | ⟨hj, e'⟩
        · have := view_raw e'
          subst this
          cases hs
        · exact r.rw j z e'
      · rcases set_at e' with ⟨rfl, hi, e'⟩ | ⟨hj, e'⟩
        · subst e'
          cases s <;> first | cases hs2 | cases hs
        · obtain ⟨q, q1, q2, q3, q4⟩ := r.own j s2 e' hs2
          have hq : q ≠ p := fun z => hj (by
            subst z
            exact r.dis i j s s2 q e e' hs hs2 g1 q1)
          exact ⟨q, q1, by rw [upd_ne hq]; exact q2, q3, q4.mono sm fun _ z => z⟩
      · have w1 : i ≠ j ∧ ρ[j]? = some s1 := by
          rcases set_at e1 with ⟨rfl, hi, e1⟩ | h
          · subst e1
            cases s <;> first | cases k1 | cases hs
          · exact h
        have w2 : i ≠ k ∧ ρ[k]? = some s2 := by
          rcases set_at e2 with ⟨rfl, hi, e2⟩ | h
          · subst e2
            cases s <;> first | cases k2 | cases hs
          · exact h
        exact r.dis j k s1 s2 q w1.2 w2.2 k1 k2 q1 q2
    · have ev : view s = s := by
        cases s <;> first | rfl | exact absurd rfl hs
      rw [ev]
      have es : ρ.set i s = ρ := by
        obtain ⟨h1, h2⟩ := List.getElem?_eq_some_iff.mp e
        rw [← h2, List.set_getElem_self]
      rw [es]
      exact ⟨S, Same.refl _, r⟩
theorem Rel.frz (is : List Nat) : ∀ {S : Hp} {ρ : DEnv}, Rel K S0 H0 S H σ ρ → ∃ S', Same S S' ∧ Rel K S0 H0 S' H σ (PD.frz ρ is) := by
  induction is with
  | nil => intro S ρ r; exact ⟨S, Same.refl _, r⟩
  | cons i is ih =>
    intro S ρ r
    obtain ⟨S1, s1, r1⟩ := r.frz1 i
    obtain ⟨S2, s2, r2⟩ := ih r1
    exact ⟨S2, s1.trans s2, r2⟩
end
end PD
namespace PD
open PySem L2
/-! ### statements -/
inductive SR where
  | next (ρ : DEnv)
  | ret (d : D)
  | err (c : Str)
  | brk (ρ : DEnv)
  | cont (ρ : DEnv)
  | bad
def SPost (K : PySem.W.Frag) (mg : Str → Option Value) (E : XK) (S0 H0 S : Hp) (r : SR) (N : Ends) : Prop := match r with
  | .next ρ => ∀ S' H' σ', Same S S' → Rel K S0 H0 S' H' σ' ρ → N.nx σ' H'
  | .ret d => ∀ v S' H', Ext S0 H0 S' H' → DV K S' v d → N.rt v H'
  | .err c => ∀ u H', mg c = some u → Same H0 H' → E u none H'
  | .brk ρ => ∀ S' H' σ', Same S S' → Rel K S0 H0 S' H' σ' ρ → N.bk σ' H'
  | .cont ρ => ∀ S' H' σ', Same S S' → Rel K S0 H0 S' H' σ' ρ → N.ct σ' H'
  | .bad => False
theorem SPost.mono {K : PySem.W.Frag} {mg : Str → Option Value} {E : XK} {S0 H0 S S1 : Hp} {r : SR} {N : Ends} (h : SPost K mg E S0 H0 S r N) (e : Same S S1) : SPost K mg E S0 H0 S1 r N := by
  cases r with
  | next ρ => exact fun S' H' σ' e' q => h S' H' σ' (e.trans e') q
  | ret d => exact h
  | err c => exact h
  | brk ρ => exact fun S' H' σ' e' q => h S' H' σ' (e.trans e') q
  | cont ρ => exact fun S' H' σ' e' q => h S' H' σ' (e.trans e') q
  | bad => exact h
structure SD (K : PySem.W.Frag) (mg : Str → Option Value) (X : Cx) (E : XK) (st : Stmt) (t : TS) (F : DEnv → SR) : Prop where
  ps : PS X st t
  sd : ∀ (S0 H0 S H : Hp) (σ : L2.St) (ρ : DEnv) (N : Ends), Rel K S0 H0 S H σ ρ → SPost K mg E S0 H0 S (F ρ) N → t N σ H
structure SDs (K : PySem.W.Frag) (mg : Str → Option Value) (X : Cx) (E : XK) (st : List Stmt) (t : TS) (F : DEnv → SR) : Prop where
  ps : PSs X st t
  sd : ∀ (S0 H0 S H : Hp) (σ : L2.St) (ρ : DEnv) (N : Ends), Rel K S0 H0 S H σ ρ → SPost K mg E S0 H0 S (F ρ) N → t N σ H
def SR.seq (r : SR) (k : DEnv → SR) : SR := match r with
  | .next ρ => k ρ
  | .ret d => .ret d
  | .err c => .err c
  | .brk ρ => .brk ρ
  | .cont ρ => .cont ρ
  | .bad => .bad
def ofRes {α : Type} (r : Res α) (k : α → SR) : SR := match r with
  | .ok a => k a
  | .err c => .err c
  | .bad => .bad
section
variable {K : PySem.W.Frag} {mg : Str → Option Value} {X : Cx} {E : XK} {st : Stmt} {rest : List Stmt} {t u : TS} {e : Expr} {te : TE} {pos : Pos} {F G : DEnv → SR} {f : DEnv → Res D}
def sNext : DEnv → SR := fun ρ => .next ρ
def sSeq (F G : DEnv → SR) : DEnv → SR := fun ρ => (F ρ).seq G
theorem sds_nil : SDs K mg X E [] tNext sNext := ⟨pss_nil, fun S0 H0 S H σ ρ N r h => h S H σ (Same.refl _) r⟩
theorem sds_one (h : SD K mg X E st t F) : SDs K mg X E [st] t F := ⟨pss_one h.ps, h.sd⟩
theorem sds_cons (h1 : SD K mg X E st t F) (h2 : SDs K mg X E rest u G) : SDs K mg X E (st :: rest) (tSeq t u) (sSeq F G) := ⟨pss_cons h1.ps h2.ps, fun S0 H0 S H σ ρ N r h => by
  refine h1.sd S0 H0 S H σ ρ _ r ?_
  unfold sSeq at h
  cases e : F ρ with
  | next ρ1 =>
    rw [e] at h
    intro S' H' σ' e' r'
    exact h2.sd S0 H0 S' H' σ' ρ1 N r' (SPost.mono h e')
  | ret d => rw [e] at h; exact h
  | err c => rw [e] at h; exact h
  | brk ρ1 => rw [e] at h; exact h
  | cont ρ1 => rw [e] at h; exact h
  | bad => rw [e] at h; exact h⟩
/-- from what is wanted of a statement to what is wanted of its expression -/
theorem post_of {α W : Type} {K : PySem.W.Frag} {mg : Str → Option Value} {S0 H0 S H T : Hp} {σ : L2.St} {ρ : DEnv} {N : Ends} {R : Hp → W → α → Prop} {r : Res α} {k : α → SR} {Q : W → Hp → Prop} (rl : Rel K S0 H0 S H σ ρ) (h : SPost K mg E S0 H0 S (ofRes r k) N)
    (hk : ∀ a w S' H', r = .ok a → Ext T H S' H' → R S' w a → SPost K mg E S0 H0 S (k a) N → Q w H') : PostG mg E T H R r Q := by
  cases r with
  | ok a => exact fun w S' H' x q => hk a w S' H' rfl x q h
  | err c => exact fun u H' e sm => h u H' e (rl.x.h.trans sm)
  | bad => exact h
def sExpr (f : DEnv → Res D) : DEnv → SR := fun ρ => ofRes (f ρ) fun _ => .next ρ
theorem sd_expr (he : PD K mg X E e te f) (hs : swapsWith e none pos.line X.env = pure false := by rfl) : SD K mg X E (.Expr e pos) (tDrop te) (sExpr f) := ⟨ps_expr he.pe hs, fun S0 H0 S H σ ρ N r h =>
  he.sd S H σ ρ _ r.relE (post_of r h fun a w S' H' _ x q h => h S' H' σ x.s (r.ext x))⟩
def sRet (f : DEnv → Res D) : DEnv → SR := fun ρ => ofRes (f ρ) fun d => .ret d
theorem sd_ret (he : PD K mg X E e te f) : SD K mg X E (.Return (some e) pos) (tRet te) (sRet f) := ⟨ps_ret he.pe, fun S0 H0 S H σ ρ N r h =>
  he.sd S H σ ρ _ r.relE (post_of r h fun a w S' H' _ x q h => h w S' H' (r.x.trans x) q)⟩
def sRetN : DEnv → SR := fun _ => .ret .none
theorem sd_retN : SD K mg X E (.Return none pos) tRetN sRetN := ⟨ps_retN, fun S0 H0 S H σ ρ N r h => h .non S H r.x rfl⟩
theorem sd_pass : SD K mg X E (.Pass pos) tNext sNext := ⟨ps_pass, fun S0 H0 S H σ ρ N r h => h S H σ (Same.refl _) r⟩
def sIf (g : DEnv → Res Bool) (F G : DEnv → SR) : DEnv → SR := fun ρ => ofRes (g (viewAll ρ)) fun b => if b = true then F ρ else G ρ
theorem sd_if {c : Expr} {a b : List Stmt} {tc : TT} {g : DEnv → Res Bool} (hc : TD K mg X E c tc g) (ha : SDs K mg X E a t F) (hb : SDs K mg X E b u G) : SD K mg X E (.If c a b pos) (tIfS tc t u) (sIf g F G) := ⟨ps_if hc.pe ha.ps hb.ps, fun S0 H0 S H σ ρ N r h =>
  hc.sd H H σ (viewAll ρ) _ r.relV (post_of r h fun k w S' H' _ x q h => by
    cases q
    have r' := r.grow x.h
    cases k with
    | true => exact ha.sd S0 H0 S H' σ ρ N r' h
    | false => exact hb.sd S0 H0 S H' σ ρ N r' h)⟩
/-! ### assignments -/
def sAsg (f : DEnv → Res D) (is : List Nat) (hh : D → Option (List D)) : DEnv → SR := fun ρ => ofRes (f ρ) fun d => match hh d with
  | some ds => .next (setD ρ is ds)
  | none => .bad
theorem asg_sd {g : TG} {is : List Nat} {hh : D → Option (List D)} {tg : Expr} (he : PD K mg X E e te f) (hg : GD K X tg g is hh) (S0 H0 S H : Hp) (σ : L2.St) (ρ : DEnv) (N : Ends) (r : Rel K S0 H0 S H σ ρ) (h : SPost K mg E S0 H0 S (sAsg f is hh ρ) N) : tAsg te g N σ H :=
  he.sd S H σ ρ _ r.relE (post_of r h fun a w S' H' _ x q h => by
    cases e1 : hh a with
    | none => rw [e1] at h; exact h.elim
    | some ds =>
      rw [e1] at h
      exact hg.sd S' H' w σ a ds _ x.sh q e1 fun vs hv => h S' H' _ x.s ((r.ext x).setAll is vs ds hv))
theorem sd_asg {tg : Expr} {g : TG} {is : List Nat} {hh : D → Option (List D)} (he : PD K mg X E e te f) (hg : GD K X tg g is hh) (hs : swapsWithSole [tg] e pos.line X.env = pure false := by rfl) (hw : swappedStores [tg] e X.env = pure none := by rfl) (h1 : (assignEach [tg] X.env).map (·.2) = [assign tg X.env] := by rfl) :
    SD K mg X E (.Assign [tg] e pos) (tAsg te g) (sAsg f is hh) := ⟨ps_asg he.pe hg.pg hs hw h1, asg_sd he hg⟩
theorem sd_set {i : Nat} {x : Str} {pos' : Pos} (he : PD K mg X E e te f) (hN : X.N.Nodup) (hi : X.N[i]? = some x) (hx : Loc X.env.scope x := by first | exact Or.inl rfl | exact Or.inr rfl) (hs : swapsWith e (some (.Name x pos')) pos.line X.env = pure false := by rfl) (hf : X.fn x = true ∨ X.env.scope.names.lookup x = some .local := by first | exact .inl rfl | exact .inr rfl | assumption) :
    SD K mg X E (.Assign [.Name x pos'] e pos) (tAsg te (gName i)) (sAsg f [i] hOne) := ⟨ps_set hN hi hx he.pe hs hf, asg_sd he (gd_name (pg_name (pos := pos') hN hi hx hf))⟩
/-- x = [..] on one line -/
theorem sd_setLc {i : Nat} {vs : List Nat} {y : Str} {py : Pos} {elt tg iter : Expr} {ifs : List Expr} {scope : Scope} {own : List (Str × Nat)} {spos : Pos} {wi : TI} {g : TG} {tt : TT} {src : DEnv → Res (List D)} {is : List Nat} {h : D → Option (List D)} {ft : DEnv → Res Bool} {fe : DEnv → Res D} (hc : X.calm = true) (hN : X.N.Nodup) (hy : X.N[i]? = some y) (hyl : X.env.scope.names.lookup y = some .local)
    (hsw : swapsWith (.ListComp elt [⟨tg, iter, ifs, 0⟩] scope pos) (some (.Name y py)) spos.line X.env = pure true) (hi : ID K mg X E tg iter wi src) (ok : BlkOk X.N X.env.scope scope own)
    (hg : ∀ (s : Shared) (H : Hp) (C : Addr) (cl : List (Str × Addr)) (fp : List Addr), GD K (Blk X scope s H C cl fp) tg g is h) (ht : ∀ (s : Shared) (H : Hp) (C : Addr) (cl : List (Str × Addr)) (fp : List Addr), TDs K mg (Blk X scope s H C cl fp) E0 ifs tt ft)
    (he : ∀ (s : Shared) (H : Hp) (C : Addr) (cl : List (Str × Addr)) (fp : List Addr), PD K mg (Blk X scope s H C cl fp) E0 elt te fe) (hvs : own.map (·.2) = vs := by rfl) (his : ∀ i ∈ is, i ∈ vs := by decide) (hs : ∀ x, foldedSetIterable iter X.env x = pure x := by intro _; rfl) :
    SD K mg X E (.Assign [.Name y py] (.ListComp elt [⟨tg, iter, ifs, 0⟩] scope pos) spos) (tAsg (tLc wi g tt te vs) (gName i)) (sAsg (fLc src vs is h ft fe) [i] hOne) :=
  ⟨hvs ▸ ps_setLc hc hN hy hyl hsw hi.pi ok (fun s H C cl fp => (hg s H C cl fp).pg) (fun s H C cl fp => (ht s H C cl fp).pe) (fun s H C cl fp => (he s H C cl fp).pe) hs, asg_sd (pd_lc (pos := pos) hc hN hi ok hg ht he hvs his hs) (gd_name (pg_name (pos := py) hN hy (.inl hyl) (.inr hyl)))⟩
theorem sd_setLc2 {i : Nat} {vs : List Nat} {y : Str} {py : Pos} {elt tg iter tg1 iter1 : Expr} {ifs ifs1 : List Expr} {scope : Scope} {own : List (Str × Nat)} {spos : Pos} {wi wi1 : TI} {g g1 : TG} {tt tt1 : TT} {src src1 : DEnv → Res (List D)} {is is1 : List Nat} {h h1 : D → Option (List D)} {ft ft1 : DEnv → Res Bool} {fe : DEnv → Res D} {vs1 : List Nat} (hc : X.calm = true) (hN : X.N.Nodup) (hy : X.N[i]? = some y) (hyl : X.env.scope.names.lookup y = some .local)
    (hsw : swapsWith (.ListComp elt [⟨tg, iter, ifs, 0⟩, ⟨tg1, iter1, ifs1, 0⟩] scope pos) (some (.Name y py)) spos.line X.env = pure true) (hi : ID K mg X E tg iter wi src) (ok : BlkOk X.N X.env.scope scope own) (hv : ∀ i ∈ vs1, i ∈ own.map (·.2))
    (hg : ∀ (s : Shared) (H : Hp) (C : Addr) (cl : List (Str × Addr)) (fp : List Addr), GD K (Blk X scope s H C cl fp) tg g is h) (ht : ∀ (s : Shared) (H : Hp) (C : Addr) (cl : List (Str × Addr)) (fp : List Addr), TDs K mg (Blk X scope s H C cl fp) E0 ifs tt ft)
    (hi1 : ∀ (s : Shared) (H : Hp) (C : Addr) (cl : List (Str × Addr)) (fp : List Addr), ID K mg (Blk X scope s H C cl fp) E0 tg1 iter1 wi1 src1)
    (hg1 : ∀ (s : Shared) (H : Hp) (C : Addr) (cl : List (Str × Addr)) (fp : List Addr), GD K (Blk X scope s H C cl fp) tg1 g1 is1 h1) (ht1 : ∀ (s : Shared) (H : Hp) (C : Addr) (cl : List (Str × Addr)) (fp : List Addr), TDs K mg (Blk X scope s H C cl fp) E0 ifs1 tt1 ft1)
    (he : ∀ (s : Shared) (H : Hp) (C : Addr) (cl : List (Str × Addr)) (fp : List Addr), PD K mg (Blk X scope s H C cl fp) E0 elt te fe) (hvs : own.map (·.2) = vs := by rfl) (his : ∀ i ∈ is, i ∈ vs := by decide) (his1 : ∀ i ∈ is1, i ∈ vs1 := by decide)
    (hs : ∀ x, foldedSetIterable iter X.env x = pure x := by intro _; rfl) (hs1 : ∀ (env : Env) x, foldedSetIterable iter1 env x = pure x := by intro _ _; rfl) :
    SD K mg X E (.Assign [.Name y py] (.ListComp elt [⟨tg, iter, ifs, 0⟩, ⟨tg1, iter1, ifs1, 0⟩] scope pos) spos) (tAsg (tLc2 wi g tt wi1 g1 tt1 te vs vs1) (gName i)) (sAsg (fLc2 src vs is h ft src1 vs1 is1 h1 ft1 fe) [i] hOne) :=
  ⟨hvs ▸ ps_setLc2 hc hN hy hyl hsw hi.pi ok hv (fun s H C cl fp => (hg s H C cl fp).pg) (fun s H C cl fp => (ht s H C cl fp).pe) (fun s H C cl fp => (hi1 s H C cl fp).pi) (fun s H C cl fp => (hg1 s H C cl fp).pg) (fun s H C cl fp => (ht1 s H C cl fp).pe) (fun s H C cl fp => (he s H C cl fp).pe) hs hs1,
   asg_sd (pd_lc2 (pos := pos) hc hN hi ok hv hg ht hi1 hg1 ht1 he hvs his his1 hs hs1) (gd_name (pg_name (pos := py) hN hy (.inl hyl) (.inr hyl)))⟩
/-- what a slot owns is given up ahead of a statement -/
def sFrz (is : List Nat) (F : DEnv → SR) : DEnv → SR := fun ρ => F (frz ρ is)
theorem sd_frz (is : List Nat) (h : SD K mg X E st t F) : SD K mg X E st t (sFrz is F) := ⟨h.ps, fun S0 H0 S H σ ρ N r q => by
  obtain ⟨S', e, r'⟩ := r.frz is
  exact h.sd S0 H0 S' H σ _ N r' (SPost.mono q e)⟩
/-! ### for -/
def forGo (asg : D → DEnv → Option DEnv) (body : DEnv → SR) : List D → DEnv → SR
  | [], ρ => .next ρ
  | d :: ds, ρ => match asg d ρ with
    | none => .bad
    | some ρ1 => match body ρ1 with
      | .next ρ' => forGo asg body ds ρ'
      | .cont ρ' => forGo asg body ds ρ'
      | .brk ρ' => .next ρ'
      | .ret x => .ret x
      | .err c => .err c
      | .bad => .bad
def asgOf (is : List Nat) (hh : D → Option (List D)) (d : D) (ρ : DEnv) : Option DEnv := (hh d).map fun ds => setD ρ is ds
def sFor (src : DEnv → Res (List D)) (is : List Nat) (hh : D → Option (List D)) (body : DEnv → SR) : DEnv → SR := fun ρ => ofRes (src ρ) fun ds => forGo (asgOf is hh) body ds ρ
theorem sd_for {tg iter : Expr} {body : List Stmt} {wi : TI} {g : TG} {tb : TS} {src : DEnv → Res (List D)} {is : List Nat} {hh : D → Option (List D)} {B : DEnv → SR} (hp : PassesOwn (model X.prog X.w) X.A X.env X.xe) (hc : X.calm = true) (hi : ID K mg X E tg iter wi src) (hg : GD K X tg g is hh) (hb : SDs K mg X E body tb B)
    (hps : PS X (.For tg iter body [] pos) (tFor wi g tb)) : SD K mg X E (.For tg iter body [] pos) (tFor wi g tb) (sFor src is hh B) := ⟨hps, fun S0 H0 S H σ ρ N r h => by
  refine hi.sd S H σ ρ _ r.relE (post_of r h fun ds J S1 H1 _ x1 wk h => ?_)
  refine ⟨fun i m σ' H' => i + m = ds.length ∧ ∃ S' ρ', Same S1 S' ∧ Rel K S0 H0 S' H' σ' ρ' ∧ SPost K mg E S0 H0 S' (forGo (asgOf is hh) B (ds.drop i) ρ') N, ⟨ds.length, by omega, S1, ρ, Same.refl _, r.ext x1, SPost.mono h x1.s⟩, ?_⟩
  rintro i m σ2 H2 ⟨him, S2, ρ2, e2, r2, h2⟩
  have wk2 := wk S2 H2 e2 r2.x.sh
  by_cases hil : i < ds.length
  · obtain ⟨go, yl⟩ := wk2.1 i ds[i] (List.getElem?_eq_getElem hil)
    have ed : ds.drop i = ds[i] :: ds.drop (i + 1) := (List.drop_eq_getElem_cons hil)
    rw [ed] at h2
    unfold forGo at h2
    refine .inr ⟨go, fun σ' H' => ∃ S' ρ', Same S1 S' ∧ Rel K S0 H0 S' H' σ' ρ' ∧ SPost K mg E S0 H0 S' (forGo (asgOf is hh) B (ds.drop (i + 1)) ρ') N, fun σ' H' ⟨S', ρ', a1, a2, a3⟩ => ⟨m - 1, by omega, by omega, S', ρ', a1, a2, a3⟩, fun x H3 hy => ?_⟩
    obtain ⟨S3, x3, dx⟩ := yl x H3 hy
    cases e1 : hh ds[i] with
    | none =>
      unfold asgOf at h2
      rw [e1] at h2
      exact h2.elim
    | some xs =>
      have ea : asgOf is hh ds[i] ρ2 = some (setD ρ2 is xs) := by unfold asgOf; rw [e1]; rfl
      rw [ea] at h2
      dsimp only at h2
      refine hg.sd S3 H3 x σ2 ds[i] xs _ x3.sh dx e1 fun vs hv => ?_
      have r3 := (r2.ext x3).setAll is vs xs hv
      refine hb.sd S0 H0 S3 H3 _ _ _ r3 ?_
      have h3 := SPost.mono h2 x3.s
      cases eb : B (setD ρ2 is xs) with
      | next ρ' =>
        rw [eb] at h3
        exact fun S' H' σ' e' r' => ⟨S', ρ', (e2.trans x3.s).trans e', r', SPost.mono h3 e'⟩
      | cont ρ' =>
        rw [eb] at h3
        exact fun S' H' σ' e' r' => ⟨S', ρ', (e2.trans x3.s).trans e', r', SPost.mono h3 e'⟩
      | brk ρ' => rw [eb] at h3; exact h3
      | ret d => rw [eb] at h3; exact h3
      | err c => rw [eb] at h3; exact h3
      | bad => rw [eb] at h3; exact h3
  · have ed : ds.drop i = [] := List.drop_eq_nil_of_le (by omega)
    have e3 : i = ds.length := by omega
    rw [ed] at h2
    refine .inl ⟨by rw [e3]; exact wk2.2, ?_⟩
    exact h2 S2 H2 σ2 (Same.refl _) r2⟩
/-! ### while -/
def whileGo (g : DEnv → Res Bool) (body : DEnv → SR) : Nat → DEnv → SR
  | 0, _ => .bad
  | n + 1, ρ => match g (viewAll ρ) with
    | .bad => .bad
    | .err c => .err c
    | .ok b => if b = true then (match body ρ with
      | .next ρ' => whileGo g body n ρ'
      | .cont ρ' => whileGo g body n ρ'
      | .brk ρ' => .next ρ'
      | .ret x => .ret x
      | .err c => .err c
      | .bad => .bad) else .next ρ
theorem sd_while (n : Nat) {c : Expr} {body : List Stmt} {tc : TT} {tb : TS} {g : DEnv → Res Bool} {B : DEnv → SR} (hp : PassesOwn (model X.prog X.w) X.A X.env X.xe) (hc : TD K mg X E c tc g) (hb : SDs K mg X E body tb B) : SD K mg X E (.While c body [] pos) (tWhile tc tb) (whileGo g B n) :=
  ⟨ps_while hp hc.pe hb.ps, fun S0 H0 S H σ ρ N r h => by
    refine ⟨fun m σ' H' => ∃ S' ρ', Rel K S0 H0 S' H' σ' ρ' ∧ SPost K mg E S0 H0 S' (whileGo g B m ρ') N, ⟨n, S, ρ, r, h⟩, ?_⟩
    rintro m σ2 H2 ⟨S2, ρ2, r2, h2⟩
    cases m with
    | zero => exact h2.elim
    | succ m =>
      unfold whileGo at h2
      refine hc.sd H2 H2 σ2 (viewAll ρ2) _ r2.relV ?_
      cases eg : g (viewAll ρ2) with
      | bad => rw [eg] at h2; exact h2
      | err c =>
        rw [eg] at h2
        exact fun u H' e sm => h2 u H' e (r2.x.h.trans sm)
      | ok b =>
        rw [eg] at h2
        intro w S' H' x q
        cases q
        have r' := r2.grow x.h
        cases b with
        | false => exact h2 S2 H' σ2 (Same.refl _) r'
        | true =>
          dsimp only at h2
          rw [if_pos rfl] at h2
          refine iteT ⟨fun σ' H' => ∃ S' ρ', Rel K S0 H0 S' H' σ' ρ' ∧ SPost K mg E S0 H0 S' (whileGo g B m ρ') N, fun σ' H' q => ⟨m, Nat.lt_succ_self m, q⟩, ?_⟩
          refine hb.sd S0 H0 S2 H' σ2 ρ2 _ r' ?_
          cases eb : B ρ2 with
          | next ρ' =>
            rw [eb] at h2
            exact fun S' H' σ' e' r' => ⟨S', ρ', r', SPost.mono h2 e'⟩
          | cont ρ' =>
            rw [eb] at h2
            exact fun S' H' σ' e' r' => ⟨S', ρ', r', SPost.mono h2 e'⟩
          | brk ρ' => rw [eb] at h2; exact h2
          | ret d => rw [eb] at h2; exact h2
          | err c => rw [eb] at h2; exact h2
          | bad => rw [eb] at h2; exact h2⟩
/-! ### raise -/
def sRaise (c : Str) : DEnv → SR := fun _ => .err c
theorem sd_raise {x m : Str} {j : Nat} {p p2 pos2 : Pos} {C : Addr} (hc : X.calm = true) (tk : Takes X (fun cls d _ H => E cls d H)) (q : PySem.W.excIn X.K C [.type "ValueError", .type "Exception", .type "BaseException", .type "object"] "ValueError.__new__" = true) (gC : X.mg x = some (.ref C)) (kC : PySem.W.keepIn X.K (.ref C) = true)
    (bC : PySem.W.subIn X.K (.ref C) (.type "BaseException") = some true) (tC : PySem.W.typeIn X.K (.ref C) = some (.type "type")) (hg : Gl X x) (hdb : (x == ("__debug__" : Str)) = false := by decide) (hM : X.mg = mg := by rfl) :
    SD K mg X E (.Raise (some (.Call (.Name x p) [.Constant (.str m) j p2] [] pos2)) none pos) (fun _ σ H => E (.ref C) none H) (sRaise x) :=
  ⟨ps_raise hc tk (pmk_own PySem.F.excBase_ValueError q gC kC (raises_own bC tC) hg hdb), fun S0 H0 S H σ ρ N r h => h (.ref C) H (hM ▸ gC) r.x.h⟩
end
end PD
namespace PD
open PySem L2
/-! ### new things for slots -/
def SlotNew (K : PySem.W.Frag) (H S' H' : Hp) (v : V) (s : Slot) : Prop := match s with
  | .d x => DV K S' v x
  | .un => False
  | .raw _ => False
  | s => ∃ p, v = .ref p ∧ S' p = none ∧ H p = none ∧ OwnOk K S' H' p s
def OwnIn (p : Addr) : List V → List Slot → Prop
  | v :: vs, s :: ss => (v = .ref p ∧ isOwn s = true) ∨ OwnIn p vs ss
  | _, _ => False
def SlotsNew (K : PySem.W.Frag) (H S' H' : Hp) : List V → List Slot → Prop
  | [], [] => True
  | v :: vs, s :: ss => SlotNew K H S' H' v s ∧ SlotsNew K H S' H' vs ss ∧ ∀ p, v = .ref p → isOwn s = true → ¬ OwnIn p vs ss
  | _, _ => False
def PostS (K : PySem.W.Frag) (mg : Str → Option Value) (E : XK) (S H : Hp) (r : Res (List Slot)) (Q : List V → Hp → Prop) : Prop := match r with
  | .ok ss => ∀ vs S' H', Ext S H S' H' → SlotsNew K H S' H' vs ss → Q vs H'
  | .err c => ∀ u H', mg c = some u → Same H H' → E u none H'
  | .bad => False
structure ZD (K : PySem.W.Frag) (mg : Str → Option Value) (X : Cx) (E : XK) (es : List Expr) (t : TA) (f : DEnv → Res (List Slot)) : Prop where
  pe : PA X es t
  sd : ∀ (S H : Hp) (σ : L2.St) (ρ : DEnv) (Q : List V → Hp → Prop), RelE K S H σ ρ → PostS K mg E S H (f ρ) Q → t σ H Q
def zNil : DEnv → Res (List Slot) := fun _ => .ok []
def zD (f : DEnv → Res D) (g : DEnv → Res (List Slot)) : DEnv → Res (List Slot) := fun ρ => (f ρ).bind fun x => (g ρ).bind fun xs => .ok (.d x :: xs)
def zL (f : DEnv → Res (List D)) (g : DEnv → Res (List Slot)) : DEnv → Res (List Slot) := fun ρ => (f ρ).bind fun ds => if lenOk ds.length = true then (g ρ).bind fun xs => .ok (.own ds :: xs) else .bad
theorem refs_lt {K : PySem.W.Frag} {H S' H' : Hp} : ∀ {vs : List V} {ss : List Slot} {p : Addr}, SlotsNew K H S' H' vs ss → OwnIn p vs ss → H p = none
  | v :: vs, s :: ss, p, h, hp => by
    obtain ⟨h1, h2, h3⟩ := h
    rcases hp with ⟨rfl, ho⟩ | hp
    · cases s with
      | own xs => obtain ⟨q, e, _, g, _⟩ := h1; cases e; exact g
      | ownK xs => obtain ⟨q, e, _, g, _⟩ := h1; cases e; exact g
      | ownT xs => obtain ⟨q, e, _, g, _⟩ := h1; cases e; exact g
      | _ => cases ho
    · exact refs_lt h2 hp
  | [], [], _, _, hp => hp.elim
  | [], _ :: _, _, h, _ => h.elim
  | _ :: _, [], _, h, _ => h.elim
theorem SlotsNew.weak {K : PySem.W.Frag} {H H1 S' H' : Hp} (e : Same H H1) : ∀ {vs : List V} {ss : List Slot}, SlotsNew K H1 S' H' vs ss → SlotsNew K H S' H' vs ss
  | [], [], _ => trivial
  | v :: vs, s :: ss, h => by
    obtain ⟨h1, h2, h3⟩ := h
    refine ⟨?_, SlotsNew.weak e h2, h3⟩
    cases s with
    | d x => exact h1
    | un => exact h1
    | raw _ => exact h1
    | own xs => obtain ⟨q, e1, e2, g, e3⟩ := h1; exact ⟨q, e1, e2, e.free g, e3⟩
    | ownK xs => obtain ⟨q, e1, e2, g, e3⟩ := h1; exact ⟨q, e1, e2, e.free g, e3⟩
    | ownT xs => obtain ⟨q, e1, e2, g, e3⟩ := h1; exact ⟨q, e1, e2, e.free g, e3⟩
  | [], _ :: _, h => h.elim
  | _ :: _, [], h => h.elim
section
variable {K : PySem.W.Frag} {mg : Str → Option Value} {X : Cx} {E : XK} {e : Expr} {es : List Expr} {te : TE} {t tr : TA} {f : DEnv → Res D} {fa : DEnv → Res (List D)} {g : DEnv → Res (List Slot)} {pos : Pos}
theorem zd_nil : ZD K mg X E [] tNil zNil := ⟨pa_nil, fun S H σ ρ Q rl h => h [] S H (Ext.refl rl.sh) trivial⟩
theorem zd_d (ha : PD K mg X E e te f) (hr : ZD K mg X E es tr g) (hs : starEach (e :: es) X.env = (false, eval e X.env) :: starEach es X.env := by rfl) : ZD K mg X E (e :: es) (tCons te tr) (zD f g) := ⟨pa_cons ha.pe hr.pe hs, fun S H σ ρ Q rl h => by
  refine ha.sd S H σ ρ _ rl ?_
  unfold zD at h
  cases e1 : f ρ with
  | ok x =>
    rw [e1] at h
    intro v S1 H1 x1 d1
    refine hr.sd S1 H1 σ ρ _ (rl.mono x1) ?_
    cases e2 : g ρ with
    | ok ss =>
      rw [e2] at h
      exact fun vs S2 H2 x2 d2 => h (v :: vs) S2 H2 (x1.trans x2) ⟨d1.mono x2.s, d2.weak x1.h, fun p _ z => by cases z⟩
    | err c =>
      rw [e2] at h
      exact fun u H' e sm => h u H' e (x1.h.trans sm)
    | bad => rw [e2] at h; exact h
  | err c => rw [e1] at h; exact h
  | bad => rw [e1] at h; exact h⟩
theorem zd_lst {ls : List Expr} (ha : AD K mg X E ls t fa) (hr : ZD K mg X E es tr g) (hs : starEach (.List ls pos :: es) X.env = (false, eval (.List ls pos) X.env) :: starEach es X.env := by rfl) : ZD K mg X E (.List ls pos :: es) (tCons (tLst t) tr) (zL fa g) := ⟨pa_cons (pe_lst ha.pe) hr.pe hs, fun S H σ ρ Q rl h => by
  refine ha.sd S H σ ρ _ rl ?_
  unfold zL at h
  cases e1 : fa ρ with
  | ok ds =>
    rw [e1, bind_ok] at h
    intro xs S1 H1 x1 d1
    split at h
    · rename_i hz
      refine ⟨by rw [d1.length]; exact lenOk.le hz, fun p hp => ?_⟩
      have sm : Same H1 (upd H1 p (.lst xs)) := same_upd hp
      have rl1 : RelE K S1 (upd H1 p (.lst xs)) σ ρ := ⟨x1.sh.trans sm, rl.len, (rl.mono x1).dt, rl.rw⟩
      refine hr.sd S1 _ σ ρ _ rl1 ?_
      cases e2 : g ρ with
      | ok ss =>
        rw [e2] at h
        refine fun vs S2 H2 x2 d2 => h (.ref p :: vs) S2 H2 ⟨x1.s.trans x2.s, (x1.h.trans sm).trans x2.h, x2.sh, fun a ha => ?_⟩ ⟨⟨p, rfl, ?_, x1.h.free hp, xs, x2.h _ _ upd_same, d1.mono x2.s⟩, d2.weak (x1.h.trans sm), fun q e _ hq => ?_⟩
        · refine (x2.old a ?_).trans (x1.old a ha)
          cases e : H a with
          | none => exact absurd e ha
          | some o => rw [sm _ _ (x1.h a o e)]; exact (fun z => nomatch z)
        · rw [x2.old p (by rw [upd_same]; exact (fun z => nomatch z))]
          exact x1.sh.free hp
        · cases e
          have := refs_lt d2 hq
          rw [upd_same] at this
          cases this
      | err c =>
        rw [e2] at h
        exact fun u H' e sm' => h u H' e ((x1.h.trans sm).trans sm')
      | bad => rw [e2] at h; exact h
    · exact h.elim
  | err c => rw [e1] at h; exact h
  | bad => rw [e1] at h; exact h⟩
end
def setS (ρ : DEnv) : List Nat → List Slot → DEnv
  | i :: is, s :: ss => setS (ρ.set i s) is ss
  | _, _ => ρ
theorem Rel.setSlots {K : PySem.W.Frag} {S0 H0 Hb S H : Hp} (hb : Same H0 Hb) : ∀ (is : List Nat) (vs : List V) (ss : List Slot) {σ : L2.St} {ρ : DEnv}, Rel K S0 H0 S H σ ρ → SlotsNew K Hb S H vs ss →
    (∀ p, OwnIn p vs ss → ∀ (j : Nat) (s' : Slot), ρ[j]? = some s' → isOwn s' = true → σ[j]? ≠ some (some (.ref p))) → Rel K S0 H0 S H (PD.setAll σ is vs) (setS ρ is ss)
  | [], vs, ss, _, _, r, _, _ => by cases vs <;> cases ss <;> exact r
  | _ :: _, [], [], _, _, r, _, _ => r
  | i :: is, v :: vs, s :: ss, σ, ρ, r, h, hd => by
    obtain ⟨h1, h2, h3⟩ := h
    show Rel K S0 H0 S H (PD.setAll (σ.set i (some v)) is vs) (setS (ρ.set i s) is ss)
    have own : ∀ p, v = .ref p → isOwn s = true → S p = none → Hb p = none → OwnOk K S H p s → Rel K S0 H0 S H (PD.setAll (σ.set i (some v)) is vs) (setS (ρ.set i s) is ss) := fun p e ho g1 g2 g3 => by
      subst e
      refine Rel.setSlots hb is vs ss (r.setOwn ho g1 (hb.free g2) g3 (hd p (.inl ⟨rfl, ho⟩))) h2 fun q hq j s' e1 e2 e3 => ?_
      rcases set_at e1 with ⟨rfl, hi, _⟩ | ⟨hj, e1⟩
      · rw [List.getElem?_set_self (by rw [r.len]; exact hi)] at e3
        cases e3
        exact h3 _ rfl ho hq
      · rw [List.getElem?_set_ne hj] at e3
        exact hd q (.inr hq) j s' e1 e2 e3
    cases s with
    | d x =>
      refine Rel.setSlots hb is vs ss (r.setV h1) h2 fun q hq j s' e1 e2 e3 => ?_
      rcases set_at e1 with ⟨rfl, hi, e1⟩ | ⟨hj, e1⟩
      · subst e1
        cases e2
      · rw [List.getElem?_set_ne hj] at e3
        exact hd q (.inr hq) j s' e1 e2 e3
    | un => exact h1.elim
    | raw _ => exact h1.elim
    | own xs => obtain ⟨p, e1, e2, g, e3⟩ := h1; exact own p e1 rfl e2 g e3
    | ownK xs => obtain ⟨p, e1, e2, g, e3⟩ := h1; exact own p e1 rfl e2 g e3
    | ownT xs => obtain ⟨p, e1, e2, g, e3⟩ := h1; exact own p e1 rfl e2 g e3
  | _ :: _, [], _ :: _, _, _, _, h, _ => h.elim
  | _ :: _, _ :: _, [], _, _, _, h, _ => h.elim
theorem Rel.slots {K : PySem.W.Frag} {S0 H0 S H S' H' : Hp} {σ : L2.St} {ρ : DEnv} {vs : List V} {ss : List Slot} (r : Rel K S0 H0 S H σ ρ) (x : Ext S H S' H') (h : SlotsNew K H S' H' vs ss) (is : List Nat) : Rel K S0 H0 S' H' (PD.setAll σ is vs) (setS ρ is ss) := by
  refine Rel.setSlots r.x.h is vs ss (r.ext x) h fun p hp j s' e1 e2 e3 => ?_
  obtain ⟨q, g1, _, _, g4⟩ := r.own j s' e1 e2
  obtain ⟨u, hu⟩ := g4.some
  rw [e3] at g1
  cases g1
  have := refs_lt h hp
  rw [hu] at this
  cases this
section
variable {K : PySem.W.Frag} {mg : Str → Option Value} {X : Cx} {E : XK} {e : Expr} {te : TE} {t : TA} {f : DEnv → Res D} {fa : DEnv → Res (List D)} {g : DEnv → Res (List Slot)} {pos : Pos}
def sPar (g : DEnv → Res (List Slot)) (is : List Nat) : DEnv → SR := fun ρ => ofRes (g ρ) fun ss => if ss.length = is.length then .next (setS ρ is ss) else .bad
theorem SlotsNew.length {K : PySem.W.Frag} {H S' H' : Hp} : ∀ {vs : List V} {ss : List Slot}, SlotsNew K H S' H' vs ss → vs.length = ss.length
  | [], [], _ => rfl
  | _ :: vs, _ :: ss, h => congrArg (· + 1) (SlotsNew.length (vs := vs) (ss := ss) h.2.1)
  | [], _ :: _, h => h.elim
  | _ :: _, [], h => h.elim
theorem posts_of {mg : Str → Option Value} {K : PySem.W.Frag} {S0 H0 S H T : Hp} {σ : L2.St} {ρ : DEnv} {N : Ends} {r : Res (List Slot)} {k : List Slot → SR} {Q : List V → Hp → Prop} (rl : Rel K S0 H0 S H σ ρ) (h : SPost K mg E S0 H0 S (ofRes r k) N)
    (hk : ∀ ss vs S' H', Ext T H S' H' → SlotsNew K H S' H' vs ss → SPost K mg E S0 H0 S (k ss) N → Q vs H') : PostS K mg E T H r Q := by
  cases r with
  | ok a => exact fun vs S' H' x q => hk a vs S' H' x q h
  | err c => exact fun u H' e sm => h u H' e (rl.x.h.trans sm)
  | bad => exact h
/-- x, y = a, b -/
theorem sd_par {i j : Nat} {x y : Str} {a b : Expr} {px py pt : Pos} {kt k2 pt2} (hz : ZD K mg X E [a, b] t g)
    (hp : PS X (.Assign [.Tuple [.Name x px, .Name y py] kt pt] (.Tuple [a, b] k2 pt2) pos) (tPar i j t)) : SD K mg X E (.Assign [.Tuple [.Name x px, .Name y py] kt pt] (.Tuple [a, b] k2 pt2) pos) (tPar i j t) (sPar g [i, j]) := ⟨hp, fun S0 H0 S H σ ρ N r h => by
  refine hz.sd S H σ ρ _ r.relE (posts_of r h fun ss vs S' H' x' q h => ?_)
  split at h
  · rename_i hl
    have lv := q.length
    match vs, lv with
    | [v, w], _ => exact ⟨v, w, rfl, h S' H' _ x'.s (r.slots x' q [i, j])⟩
    | [], lv => rw [hl] at lv; cases lv
    | [_], lv => rw [hl] at lv; cases lv
    | _ :: _ :: _ :: _, lv => rw [hl] at lv; cases lv
  · exact h.elim⟩
theorem sd_par3 {i j l : Nat} {x y z : Str} {a b c : Expr} {px py pz pt : Pos} {kt k2 pt2} (hz : ZD K mg X E [a, b, c] t g)
    (hp : PS X (.Assign [.Tuple [.Name x px, .Name y py, .Name z pz] kt pt] (.Tuple [a, b, c] k2 pt2) pos) (tPar3 i j l t)) : SD K mg X E (.Assign [.Tuple [.Name x px, .Name y py, .Name z pz] kt pt] (.Tuple [a, b, c] k2 pt2) pos) (tPar3 i j l t) (sPar g [i, j, l]) := ⟨hp, fun S0 H0 S H σ ρ N r h => by
  refine hz.sd S H σ ρ _ r.relE (posts_of r h fun ss vs S' H' x' q h => ?_)
  split at h
  · rename_i hl
    have lv := q.length
    match vs, lv with
    | [v, w, u], _ => exact ⟨v, w, u, rfl, h S' H' _ x'.s (r.slots x' q [i, j, l])⟩
    | [], lv => rw [hl] at lv; cases lv
    | [_], lv => rw [hl] at lv; cases lv
    | [_, _], lv => rw [hl] at lv; cases lv
    | _ :: _ :: _ :: _ :: _, lv => rw [hl] at lv; cases lv
  · exact h.elim⟩
/-- x = [a, ..], owned -/
def sOwnL (fa : DEnv → Res (List D)) (i : Nat) : DEnv → SR := fun ρ => ofRes (fa ρ) fun ds => if lenOk ds.length = true then .next (ρ.set i (.own ds)) else .bad
theorem sd_ownL {i : Nat} {x : Str} {pos' pos2 : Pos} {ls : List Expr} (ha : AD K mg X E ls t fa) (hN : X.N.Nodup) (hi : X.N[i]? = some x) (hx : Loc X.env.scope x := by first | exact Or.inl rfl | exact Or.inr rfl) (hs : swapsWith (.List ls pos2) (some (.Name x pos')) pos.line X.env = pure false := by rfl) (hf : X.fn x = true ∨ X.env.scope.names.lookup x = some .local := by first | exact .inl rfl | exact .inr rfl | assumption) :
    SD K mg X E (.Assign [.Name x pos'] (.List ls pos2) pos) (tAsg (tLst t) (gName i)) (sOwnL fa i) := ⟨ps_set hN hi hx (pe_lst ha.pe) hs hf, fun S0 H0 S H σ ρ N r h => by
  refine ha.sd S H σ ρ _ r.relE (post_of r h fun ds vs S1 H1 _ x1 d1 h => ?_)
  split at h
  · rename_i hz
    refine ⟨by rw [d1.length]; exact lenOk.le hz, fun p hp => ?_⟩
    have sm : Same H1 (upd H1 p (.lst vs)) := same_upd hp
    refine h S1 _ _ x1.s (((r.ext x1).grow sm).setOwn rfl (x1.sh.free hp) ((r.x.h.trans x1.h).free hp) ⟨vs, upd_same, d1⟩ fun k s' e1 e2 e3 => ?_)
    obtain ⟨q, g1, _, _, g4⟩ := (r.ext x1).own k s' e1 e2
    obtain ⟨u, hu⟩ := g4.some
    rw [e3] at g1
    cases g1
    rw [hp] at hu
    cases hu
  · exact h.elim⟩
/-- the value of an expression, read where all is shared for the while: what comes out is flat -/
def flatD : D → Bool
  | .none => true
  | .bool _ => true
  | .int _ => true
  | .str _ => true
  | _ => false
theorem DV.flat {K : PySem.W.Frag} {S T : Hp} {v : V} {d : D} (h : DV K S v d) (hf : flatD d = true) : DV K T v d := by
  cases d with
  | none => exact h
  | bool b => exact h
  | int b => exact h
  | str b => exact h
  | _ => cases hf
def fBor (f : DEnv → Res D) : DEnv → Res D := fun ρ => (f (viewAll ρ)).bind fun d => if flatD d = true then .ok d else .bad
/-- x.append(e) -/
def sApp (f : DEnv → Res D) (i : Nat) : DEnv → SR := fun ρ => match ρ[i]? with
  | some (.own xs) => ofRes (f ρ) fun d => if lenOk (xs.length + 1) = true then .next (ρ.set i (.own (xs ++ [d]))) else .bad
  | _ => .bad
def Use (K : PySem.W.Frag) (mg : Str → Option Value) (E : XK) (te : TE) (f : DEnv → Res D) : Prop := ∀ (S0 H0 S H : Hp) (σ : L2.St) (ρ : DEnv) (N : Ends) (k : D → SR) (Q : VK), Rel K S0 H0 S H σ ρ → SPost K mg E S0 H0 S (ofRes (f ρ) k) N →
  (∀ a w S' H', Rel K S0 H0 S' H' σ ρ → Same S S' → Same H H' → DV K S' w a → SPost K mg E S0 H0 S (k a) N → Q w H') → te σ H Q
theorem own_at {ρ : DEnv} {i : Nat} {k : List D → SR} {K : PySem.W.Frag} {mg : Str → Option Value} {S0 H0 S : Hp} {N : Ends} (h : SPost K mg E S0 H0 S (match ρ[i]? with | some (.own xs) => k xs | _ => .bad) N) : ∃ xs, ρ[i]? = some (Slot.own xs) ∧ SPost K mg E S0 H0 S (k xs) N := by
  cases e2 : ρ[i]? with
  | none => rw [e2] at h; exact h.elim
  | some s =>
    rw [e2] at h
    cases s with
    | own xs => exact ⟨xs, rfl, h⟩
    | _ => exact h.elim
theorem app_sd {i : Nat} (he : Use K mg E te f) (S0 H0 S H : Hp) (σ : L2.St) (ρ : DEnv) (N : Ends) (r : Rel K S0 H0 S H σ ρ) (h : SPost K mg E S0 H0 S (sApp f i ρ) N) : tDrop (tBM K "list" rAppend (tVar i) (tCons te tNil)) N σ H := by
  obtain ⟨xs, ex, h⟩ := own_at h
  obtain ⟨p, g1, g2, g3, vs, g4, g5⟩ := r.own i _ ex rfl
  refine ⟨.ref p, g1, .inl ⟨rfl, vs, SqL.of g4⟩, ?_⟩
  refine he S0 H0 S H σ ρ N _ _ r h fun a w S' H' r' e1 e2 d1 h => ?_
  split at h
  · rename_i hz
    refine ⟨p, vs, w, rfl, rfl, e2 _ _ g4, ?_, ?_⟩
    · rw [g5.length]
      exact Nat.lt_of_lt_of_le (Nat.lt_succ_self _) (lenOk.le hz)
    · exact h S' _ σ e1 (r'.mut ex rfl rfl g1 ⟨vs ++ [w], upd_same, (g5.mono e1).append ⟨d1, trivial⟩⟩)
  · exact h.elim
/-- x.extend(e) -/
def sExt (f : DEnv → Res D) (i : Nat) : DEnv → SR := fun ρ => match ρ[i]? with
  | some (.own xs) => ofRes (f ρ) fun d => match d with
    | .list ys => if lenOk (xs.length + ys.length) = true then .next (ρ.set i (.own (xs ++ ys))) else .bad
    | _ => .bad
  | _ => .bad
def rExtR (K : PySem.W.Frag) : V → List V → Hp → VK → Prop := fun x vs H Q => ∃ l b xs zs, x = .ref l ∧ vs = [.ref b] ∧ H l = some (.lst xs) ∧ LsAt K H b zs ∧ xs.length + zs.length ≤ sizeLine ∧ Q .non (upd H l (.lst (xs ++ zs)))
theorem mt_extR (hK : X.K = K := by rfl) : MtM X "list.extend" (rExtR K) := by
  subst hK
  intro pins s σ H x vs v us Q I rx rv h
  obtain ⟨l, b, xs, zs, rfl, rfl, hH, hB, hz, q⟩ := h
  cases rx
  obtain ⟨u, rfl, ru⟩ := rv.one
  cases ru
  obtain ⟨z, its, n, r, hl, e⟩ := I.lstM hH
  obtain ⟨its2, n2, r2, hl2, e2⟩ := rd_lst I hB
  have hsz : its.toArray.size + its2.toArray.size ≤ sizeLine := by rw [List.size_toArray, List.size_toArray]; omega
  have hlong : ¬ (!its.toArray.isEmpty && Builtin.List.listTooLong (its.toArray.size + its2.toArray.size)) = true := by
    rw [notLongL hsz, Bool.and_false]
    exact Bool.false_ne_true
  refine call_meets F.slot_list_extend ⟨_, e, rfl⟩ F.entry_list_extend (F.args_list_extend_2 _ _)
    (AutoSeq1.list_extend_list_list_0 l its.toArray n b its2.toArray n2 hlong (by rw [List.size_toArray]; omega) (by omega)) ⟨e, e2, ?_⟩
  refine ⟨.non, _, I.lset (its' := its ++ its2) hH e (by simp) (r.append r2) ?_, rfl, q⟩
  rw [List.length_append]
  omega
theorem ext_sd {i : Nat} (he : Use K mg E te f) (S0 H0 S H : Hp) (σ : L2.St) (ρ : DEnv) (N : Ends) (r : Rel K S0 H0 S H σ ρ) (h : SPost K mg E S0 H0 S (sExt f i ρ) N) : tDrop (tBM K "list" (rExtR K) (tVar i) (tCons te tNil)) N σ H := by
  obtain ⟨xs, ex, h⟩ := own_at h
  obtain ⟨p, g1, g2, g3, vs, g4, g5⟩ := r.own i _ ex rfl
  refine ⟨.ref p, g1, .inl ⟨rfl, vs, SqL.of g4⟩, ?_⟩
  refine he S0 H0 S H σ ρ N _ _ r h fun a w S' H' r' e1 e2 d1 h => ?_
  cases a with
  | list ys =>
    dsimp only at h
    split at h
    · rename_i hz
      rw [DV] at d1
      obtain ⟨b, us, rfl, h1, h2⟩ := d1
      refine ⟨p, b, vs, us, rfl, rfl, e2 _ _ g4, ls_mono r'.x.sh h1, ?_, ?_⟩
      · rw [g5.length, h2.length]
        exact lenOk.le hz
      · exact h S' _ σ e1 (r'.mut ex rfl rfl g1 ⟨vs ++ us, upd_same, (g5.mono e1).append h2⟩)
    · exact h.elim
  | _ => exact h.elim
theorem use_plain (he : PD K mg X E e te f) : Use K mg E te f := fun S0 H0 S H σ ρ N k Q r h hk =>
  he.sd S H σ ρ _ r.relE (post_of r h fun a w S' H' _ x q h => hk a w S' H' (r.ext x) x.s x.h q h)
theorem use_bor (he : PD K mg X E e te f) : Use K mg E te (fBor f) := fun S0 H0 S H σ ρ N k Q r h hk => by
  refine he.sd H H σ (viewAll ρ) _ r.relV ?_
  unfold fBor at h
  cases e1 : f (viewAll ρ) with
  | ok d =>
    rw [e1, bind_ok] at h
    intro w S' H' x q
    split at h
    · rename_i hf
      exact hk d w S H' (r.grow x.h) (Same.refl _) x.h (q.flat hf) h
    · exact h.elim
  | err c =>
    rw [e1] at h
    exact fun u H' e sm => h u H' e (r.x.h.trans sm)
  | bad => rw [e1] at h; exact h
/-- x = e, the value read with all shared, flat -/
theorem sd_setU {i : Nat} {x : Str} {pos' : Pos} (pe : PE X e te) (he : Use K mg E te f) (hN : X.N.Nodup) (hi : X.N[i]? = some x) (hx : Loc X.env.scope x := by first | exact Or.inl rfl | exact Or.inr rfl) (hs : swapsWith e (some (.Name x pos')) pos.line X.env = pure false := by rfl) (hf : X.fn x = true ∨ X.env.scope.names.lookup x = some .local := by first | exact .inl rfl | exact .inr rfl | assumption) :
    SD K mg X E (.Assign [.Name x pos'] e pos) (tAsg te (gName i)) (sAsg f [i] hOne) := ⟨ps_set hN hi hx pe hs hf, fun S0 H0 S H σ ρ N r h =>
  he S0 H0 S H σ ρ N _ _ r h fun a w S' H' r' e1 e2 d1 h => h S' H' _ e1 (r'.setAll [i] [w] [a] ⟨d1, trivial⟩)⟩
theorem sd_retU (pe : PE X e te) (he : Use K mg E te f) : SD K mg X E (.Return (some e) pos) (tRet te) (sRet f) := ⟨ps_ret pe, fun S0 H0 S H σ ρ N r h =>
  he S0 H0 S H σ ρ N _ _ r h fun a w S' H' r' e1 e2 d1 h => h w S' H' r'.x d1⟩
/-! ### a def -/
def toRes (r : SR) : Res D := match r with
  | .next _ => .ok .none
  | .ret d => .ok d
  | .err c => .err c
  | .brk _ => .bad
  | .cont _ => .bad
  | .bad => .bad
def startD (n : Nat) (ds : List D) : DEnv := ds.map Slot.d ++ List.replicate (n - ds.length) Slot.un
def fnF (n : Nat) (B : DEnv → SR) (ds : List D) : Res D := toRes (B (startD n ds))
theorem start_rel {K : PySem.W.Frag} {S H : Hp} {N : List Str} {vs : List V} {ds : List D} (sh : Same S H) (h : DVs K S vs ds) : Rel K S H S H (start N vs) (startD N.length ds) := by
  have hn : ∀ (i : Nat) (s : Slot), (startD N.length ds)[i]? = some s → (∃ d, ds[i]? = some d ∧ s = .d d) ∨ s = .un := fun i s e => by
    unfold startD at e
    by_cases hi : i < ds.length
    · rw [List.getElem?_append_left (by rw [List.length_map]; exact hi), List.getElem?_map] at e
      cases e2 : ds[i]? with
      | none => rw [e2] at e; cases e
      | some d => rw [e2] at e; cases e; exact .inl ⟨d, rfl, rfl⟩
    · rw [List.getElem?_append_right (by rw [List.length_map]; omega)] at e
      have := List.mem_of_getElem? e
      exact .inr (List.eq_of_mem_replicate this)
  refine ⟨Ext.refl sh, ?_, fun i y e => ?_, fun i v e => ?_, fun i s e hs => ?_, fun i j s s' p e _ hs => ?_⟩
  · unfold L2.start startD
    rw [List.length_append, List.length_append, List.length_map, List.length_map, List.length_replicate, List.length_replicate, h.length]
  · rcases hn i _ e with ⟨d, e1, e2⟩ | e2
    · cases e2
      obtain ⟨v, g1, g2⟩ := h.get e1
      refine ⟨v, ?_, g2⟩
      unfold L2.start
      have hi := (List.getElem?_eq_some_iff.mp g1).1
      rw [List.getElem?_append_left (by rw [List.length_map]; exact hi), List.getElem?_map, g1]
      rfl
    · cases e2
  · rcases hn i _ e with ⟨d, e1, e2⟩ | e2 <;> cases e2
  · rcases hn i _ e with ⟨d, e1, e2⟩ | e2 <;> (subst e2; cases hs)
  · rcases hn i _ e with ⟨d, e1, e2⟩ | e2 <;> (subst e2; cases hs)
end
/-- THE RULE for a def that is a function of data -/
theorem fnD {P : Program} {w : World} {K : PySem.W.Frag} {mg : Str → Option Value} {base : Heap} {x qual : Str} {st : Stmt} {f : Addr} {fd : FuncData} {N ps : List Str} {k n : Nat} {B : DEnv → SR} (F : Fun K x qual st f fd) (S : FnScope N ps (defScope st)) (hn : ps.length = n)
    (hbody : ∀ (cdv : Value) (A : Around) (outer : List Env) (s : Shared) (H : Hp) (E : XK), Room k (A.deeper (PyProof.Rows.envOfC qual (defScope st) s.heap.objs.size f cdv)) →
      ∃ t, SDs K mg (cxOf (L2.CX P w) P w K mg base N qual (defScope st) f cdv A outer s H E) E (defBody st) t B) : FnOk P w K mg base (L2.CX P w) (k + 1) f fd ps (spD K mg n (fnF N.length B)) := by
  refine F.okX S (fun vs H Q E h => ?_) (fun cdv A outer s H vs Q E hr h => ?_)
  · obtain ⟨_, _, _, _, hl, _⟩ := h
    rw [hl, hn]
  · obtain ⟨S1, ds, sh, dv, hl, hp⟩ := h
    obtain ⟨t, hb⟩ := hbody cdv A outer s H E hr
    refine ⟨t, hb.ps, hb.sd S1 H S1 H (start N vs) (startD N.length ds) _ (start_rel sh dv) ?_⟩
    unfold fnF at hp
    cases e : B (startD N.length ds) with
    | next ρ => rw [e] at hp; exact fun S' H' σ' _ r => hp .non S' H' r.x rfl
    | ret d => rw [e] at hp; exact fun v S' H' x dv => hp v S' H' x dv
    | err c => rw [e] at hp; exact hp
    | brk ρ => rw [e] at hp; exact hp.elim
    | cont ρ => rw [e] at hp; exact hp.elim
    | bad => rw [e] at hp; exact hp.elim
end PD
namespace PD
open PySem L2
section
variable {K : PySem.W.Frag} {mg : Str → Option Value} {X : Cx} {E : XK} {e : Expr} {es : List Expr} {te : TE} {t : TA} {f : DEnv → Res D} {fa : DEnv → Res (List D)} {pos p : Pos}
/-! ### len -/
def rLenA (K : PySem.W.Frag) : List V → Hp → VK → Prop := fun xs H Q => ∃ x n, xs = [x] ∧ LenV K x H n ∧ Q (.int n) H
def rTupOf (K : PySem.W.Frag) : List V → Hp → VK → Prop := fun xs H Q => ∃ p ys, xs = [.ref p] ∧ ((SqL K H p ys ∧ ∀ l, H l = none → Q (.ref l) (upd H l (.tup ys))) ∨ (SqT K H p ys ∧ Q (.ref p) H))
def rListOf (K : PySem.W.Frag) : List V → Hp → VK → Prop := fun xs H Q => ∃ p ys, xs = [.ref p] ∧ (SqL K H p ys ∨ SqT K H p ys) ∧ ∀ l, H l = none → Q (.ref l) (upd H l (.lst ys))
theorem c_len (hK : X.K = K := by rfl) : CallR X (.builtin "len") (rLenA K) := by subst hK; exact call_len
theorem c_tup (hK : X.K = K := by rfl) : CallR X (.type "tuple") (rTupOf K) := by subst hK; exact call_tuple_of
theorem c_list (hK : X.K = K := by rfl) : CallR X (.type "list") (rListOf K) := by subst hK; exact call_list_of
theorem c_all (hc : X.calm = true) (hK : X.K = K := by rfl) : CallR X (.builtin "all") (rAll K) := by subst hK; exact cr_all hc
theorem c_any (hc : X.calm = true) (hK : X.K = K := by rfl) : CallR X (.builtin "any") (rAny K) := by subst hK; exact cr_any hc
theorem c_sum (hc : X.calm = true) (hK : X.K = K := by rfl) : CallR X (.builtin "sum") (rSum K) := by subst hK; exact cr_sum hc
theorem c_max (hc : X.calm = true) (hK : X.K = K := by rfl) : CallR X (.builtin "max") (rMax K) := by subst hK; exact cr_max hc
theorem c_min (hc : X.calm = true) (hK : X.K = K := by rfl) : CallR X (.builtin "min") (rMin K) := by subst hK; exact cr_min hc
def gLen : List D → Res D
  | [.list xs] => .ok (.int xs.length)
  | [.tuple xs] => .ok (.int xs.length)
  | [.str s] => if lenOk s.length = true then .ok (.int s.length) else .bad
  | _ => .bad
theorem cs_len : CaS K mg E (rLenA K) gLen := fun S H xs ds Q sh dv h => by
  unfold gLen at h
  split at h
  · obtain ⟨v, rfl, hv⟩ := dvs1 dv
    rw [DV] at hv
    obtain ⟨a, us, rfl, h1, h2⟩ := hv
    refine ⟨_, us.length, rfl, .inl ⟨us, ls_sq (ls_mono sh h1), rfl⟩, ?_⟩
    rw [h2.length]
    exact h.ok0 sh rfl
  · obtain ⟨v, rfl, hv⟩ := dvs1 dv
    rw [DV] at hv
    obtain ⟨a, us, rfl, h1, h2⟩ := hv
    refine ⟨_, us.length, rfl, .inr ⟨us, same_t sh h1.1, rfl⟩, ?_⟩
    rw [h2.length]
    exact h.ok0 sh rfl
  · split at h
    · rename_i hz
      obtain ⟨v, rfl, hv⟩ := dvs1 dv
      rw [DV] at hv
      subst hv
      exact ⟨_, _, rfl, ⟨lenOk.le hz, rfl⟩, h.ok0 sh rfl⟩
    · exact h.elim
  · exact h.elim
/-! ### abs, max, min of two -/
def gAbs : List D → Res D
  | [.int i] => .ok (.int (if i < 0 then -i else i))
  | _ => .bad
theorem cs_abs : CaS K mg E (fun xs H Q => ∃ i, xs = [.int i] ∧ Q (.int (if i < 0 then -i else i)) H) gAbs := fun S H xs ds Q sh dv h => by
  unfold gAbs at h
  split at h
  · obtain ⟨v, rfl, hv⟩ := dvs1 dv
    cases hv
    exact ⟨_, rfl, h.ok0 sh rfl⟩
  · exact h.elim
def gMax2 : List D → Res D
  | [.int i, .int j] => .ok (.int (if j > i then j else i))
  | _ => .bad
def gMin2 : List D → Res D
  | [.int i, .int j] => .ok (.int (if j < i then j else i))
  | _ => .bad
theorem cs_max2 : CaS K mg E (fun xs H Q => ∃ i j, xs = [.int i, .int j] ∧ Q (.int (if j > i then j else i)) H) gMax2 := fun S H xs ds Q sh dv h => by
  unfold gMax2 at h
  split at h
  · obtain ⟨v, w, rfl, hv, hw⟩ := dvs2 dv
    cases hv
    cases hw
    exact ⟨_, _, rfl, h.ok0 sh rfl⟩
  · exact h.elim
theorem cs_min2 : CaS K mg E (fun xs H Q => ∃ i j, xs = [.int i, .int j] ∧ Q (.int (if j < i then j else i)) H) gMin2 := fun S H xs ds Q sh dv h => by
  unfold gMin2 at h
  split at h
  · obtain ⟨v, w, rfl, hv, hw⟩ := dvs2 dv
    cases hv
    cases hw
    exact ⟨_, _, rfl, h.ok0 sh rfl⟩
  · exact h.elim
/-! ### lists of bools, of ints -/
def asBs : List D → Option (List Bool)
  | [] => some []
  | .bool b :: r => (asBs r).map (b :: ·)
  | _ :: _ => none
def asIs : List D → Option (List Int)
  | [] => some []
  | .int b :: r => (asIs r).map (b :: ·)
  | _ :: _ => none
theorem asBs_dv {K : PySem.W.Frag} {S : Hp} : ∀ {vs : List V} {ds : List D} {bs : List Bool}, asBs ds = some bs → DVs K S vs ds → vs = bs.map V.bl
  | [], [], bs, h, _ => by cases h; rfl
  | v :: vs, d :: ds, bs, h, hd => by
    cases d with
    | bool b =>
      unfold asBs at h
      cases e : asBs ds with
      | none => rw [e] at h; cases h
      | some r =>
        rw [e] at h
        cases h
        have h1 : v = .bl b := hd.1
        rw [h1, asBs_dv e hd.2]
        rfl
    | _ => cases h
  | [], _ :: _, _, _, h => h.elim
  | _ :: _, [], _, _, h => h.elim
theorem asIs_dv {K : PySem.W.Frag} {S : Hp} : ∀ {vs : List V} {ds : List D} {bs : List Int}, asIs ds = some bs → DVs K S vs ds → vs = bs.map V.int
  | [], [], bs, h, _ => by cases h; rfl
  | v :: vs, d :: ds, bs, h, hd => by
    cases d with
    | int b =>
      unfold asIs at h
      cases e : asIs ds with
      | none => rw [e] at h; cases h
      | some r =>
        rw [e] at h
        cases h
        have h1 : v = .int b := hd.1
        rw [h1, asIs_dv e hd.2]
        rfl
    | _ => cases h
  | [], _ :: _, _, _, h => h.elim
  | _ :: _, [], _, _, h => h.elim
theorem asIs_map : ∀ ns : List Int, asIs (ns.map PyData.int) = some ns
  | [] => rfl
  | n :: ns => by show (asIs (ns.map PyData.int)).map (n :: ·) = _; rw [asIs_map ns]; rfl
theorem asBs_map : ∀ ns : List Bool, asBs (ns.map PyData.bool) = some ns
  | [] => rfl
  | n :: ns => by show (asBs (ns.map PyData.bool)).map (n :: ·) = _; rw [asBs_map ns]; rfl
def gBs (k : List Bool → D) : List D → Res D
  | [.list xs] => match asBs xs with
    | some bs => .ok (k bs)
    | none => .bad
  | _ => .bad
def gAll : List D → Res D := gBs fun bs => .bool (bs.all id)
def gAny : List D → Res D := gBs fun bs => .bool (bs.any id)
theorem bs_of {k : List Bool → D} {S H : Hp} {xs : List V} {ds : List D} {Q : VK} (dv : DVs K S xs ds) (h : PostG mg E S H (DV K) (gBs k ds) Q) : ∃ a bs, xs = [.ref a] ∧ LsAt K S a (bs.map V.bl) ∧ PostG mg E S H (DV K) (.ok (k bs)) Q := by
  unfold gBs at h
  split at h
  · split at h
    · rename_i bs e
      obtain ⟨v, rfl, hv⟩ := dvs1 dv
      rw [DV] at hv
      obtain ⟨a, us, rfl, h1, h2⟩ := hv
      rw [asBs_dv e h2] at h1
      exact ⟨a, bs, rfl, h1, h⟩
    · exact h.elim
  · exact h.elim
theorem cs_all : CaS K mg E (rAll K) gAll := fun S H xs ds Q sh dv h => by
  obtain ⟨a, bs, rfl, h1, h⟩ := bs_of dv h
  exact ⟨a, bs, rfl, ls_sq (ls_mono sh h1), h.ok0 sh rfl⟩
theorem cs_any : CaS K mg E (rAny K) gAny := fun S H xs ds Q sh dv h => by
  obtain ⟨a, bs, rfl, h1, h⟩ := bs_of dv h
  exact ⟨a, bs, rfl, ls_sq (ls_mono sh h1), h.ok0 sh rfl⟩
def gIsL (ne : Bool) (k : List Int → D) : List D → Res D
  | [.list xs] => match asIs xs with
    | some ns => if (ne && ns.isEmpty) = true then .bad else .ok (k ns)
    | none => .bad
  | _ => .bad
theorem is_of {ne : Bool} {k : List Int → D} {S H : Hp} {xs : List V} {ds : List D} {Q : VK} (dv : DVs K S xs ds) (h : PostG mg E S H (DV K) (gIsL ne k ds) Q) : ∃ a ns, xs = [.ref a] ∧ LsAt K S a (ns.map V.int) ∧ (ne && ns.isEmpty) = false ∧ PostG mg E S H (DV K) (.ok (k ns)) Q := by
  unfold gIsL at h
  split at h
  · split at h
    · rename_i bs e
      split at h
      · exact h.elim
      · rename_i hne
        obtain ⟨v, rfl, hv⟩ := dvs1 dv
        rw [DV] at hv
        obtain ⟨a, us, rfl, h1, h2⟩ := hv
        rw [asIs_dv e h2] at h1
        exact ⟨a, bs, rfl, h1, by cases hx : (ne && bs.isEmpty) with | true => exact absurd hx hne | false => rfl, h⟩
    · exact h.elim
  · exact h.elim
def gSum : List D → Res D := gIsL false fun ns => .int ns.sum
theorem cs_sum : CaS K mg E (rSum K) gSum := fun S H xs ds Q sh dv h => by
  obtain ⟨a, ns, rfl, h1, _, h⟩ := is_of dv h
  exact ⟨a, ns, rfl, ls_sq (ls_mono sh h1), h.ok0 sh rfl⟩
def maxI : List Int → Int
  | [] => 0
  | [x] => x
  | x :: y :: r => if maxI (y :: r) > x then maxI (y :: r) else x
def minI : List Int → Int
  | [] => 0
  | [x] => x
  | x :: y :: r => if minI (y :: r) < x then minI (y :: r) else x
theorem maxI_spec : ∀ (ns : List Int), ns ≠ [] → maxI ns ∈ ns ∧ ∀ y ∈ ns, y ≤ maxI ns
  | [], h => absurd rfl h
  | [x], _ => ⟨List.mem_singleton.mpr rfl, fun y hy => by rw [List.mem_singleton.mp hy]; exact Int.le_refl _⟩
  | x :: y :: r, _ => by
    obtain ⟨h1, h2⟩ := maxI_spec (y :: r) (by simp)
    show (if maxI (y :: r) > x then maxI (y :: r) else x) ∈ x :: y :: r ∧ ∀ z ∈ x :: y :: r, z ≤ (if maxI (y :: r) > x then maxI (y :: r) else x)
    split
    · rename_i hg
      refine ⟨List.mem_cons_of_mem _ h1, fun z hz => ?_⟩
      rcases List.mem_cons.mp hz with q | q
      · omega
      · exact h2 z q
    · rename_i hg
      refine ⟨List.mem_cons_self, fun z hz => ?_⟩
      rcases List.mem_cons.mp hz with q | q
      · omega
      · have := h2 z q
        omega
theorem minI_spec : ∀ (ns : List Int), ns ≠ [] → minI ns ∈ ns ∧ ∀ y ∈ ns, minI ns ≤ y
  | [], h => absurd rfl h
  | [x], _ => ⟨List.mem_singleton.mpr rfl, fun y hy => by rw [List.mem_singleton.mp hy]; exact Int.le_refl _⟩
  | x :: y :: r, _ => by
    obtain ⟨h1, h2⟩ := minI_spec (y :: r) (by simp)
    show (if minI (y :: r) < x then minI (y :: r) else x) ∈ x :: y :: r ∧ ∀ z ∈ x :: y :: r, (if minI (y :: r) < x then minI (y :: r) else x) ≤ z
    split
    · rename_i hg
      refine ⟨List.mem_cons_of_mem _ h1, fun z hz => ?_⟩
      rcases List.mem_cons.mp hz with q | q
      · omega
      · exact h2 z q
    · rename_i hg
      refine ⟨List.mem_cons_self, fun z hz => ?_⟩
      rcases List.mem_cons.mp hz with q | q
      · omega
      · have := h2 z q
        omega
def gMaxL : List D → Res D := gIsL true fun ns => .int (maxI ns)
def gMinL : List D → Res D := gIsL true fun ns => .int (minI ns)
theorem ne_of_flag {ns : List Int} (h : (true && ns.isEmpty) = false) : ns ≠ [] := by
  intro z
  subst z
  cases h
theorem cs_maxL : CaS K mg E (rMax K) gMaxL := fun S H xs ds Q sh dv h => by
  obtain ⟨a, ns, rfl, h1, hn, h⟩ := is_of dv h
  have hn := ne_of_flag hn
  refine ⟨a, ns, rfl, ls_sq (ls_mono sh h1), List.length_pos_iff.mpr hn, fun m hm hle => ?_⟩
  obtain ⟨g1, g2⟩ := maxI_spec ns hn
  have e : m = maxI ns := Int.le_antisymm (g2 m hm) (hle _ g1)
  rw [e]
  exact h.ok0 sh rfl
theorem cs_minL : CaS K mg E (rMin K) gMinL := fun S H xs ds Q sh dv h => by
  obtain ⟨a, ns, rfl, h1, hn, h⟩ := is_of dv h
  have hn := ne_of_flag hn
  refine ⟨a, ns, rfl, ls_sq (ls_mono sh h1), List.length_pos_iff.mpr hn, fun m hm hle => ?_⟩
  obtain ⟨g1, g2⟩ := minI_spec ns hn
  have e : m = minI ns := Int.le_antisymm (hle _ g1) (g2 m hm)
  rw [e]
  exact h.ok0 sh rfl
/-! ### tuple(x), list(x) -/
def gTupOf : List D → Res D
  | [.list xs] => .ok (.tuple xs)
  | [.tuple xs] => .ok (.tuple xs)
  | _ => .bad
def gListOf : List D → Res D
  | [.list xs] => .ok (.list xs)
  | [.tuple xs] => .ok (.list xs)
  | _ => .bad
theorem cs_tupOf : CaS K mg E (rTupOf K) gTupOf := fun S H xs ds Q sh dv h => by
  unfold gTupOf at h
  split at h
  · obtain ⟨v, rfl, hv⟩ := dvs1 dv
    rw [DV] at hv
    obtain ⟨a, us, rfl, h1, h2⟩ := hv
    exact ⟨a, us, rfl, .inl ⟨ls_sq (ls_mono sh h1), fun l hl => new_tup sh h2 h hl⟩⟩
  · obtain ⟨v, rfl, hv⟩ := dvs1 dv
    rw [DV] at hv
    obtain ⟨a, us, rfl, h1, h2⟩ := hv
    exact ⟨a, us, rfl, .inr ⟨same_t sh h1.1, h.ok0 sh ⟨a, us, rfl, h1, h2⟩⟩⟩
  · exact h.elim
theorem cs_listOf : CaS K mg E (rListOf K) gListOf := fun S H xs ds Q sh dv h => by
  unfold gListOf at h
  split at h
  · obtain ⟨v, rfl, hv⟩ := dvs1 dv
    rw [DV] at hv
    obtain ⟨a, us, rfl, h1, h2⟩ := hv
    exact ⟨a, us, rfl, .inl (ls_sq (ls_mono sh h1)), fun l hl => new_lst sh h2 h hl⟩
  · obtain ⟨v, rfl, hv⟩ := dvs1 dv
    rw [DV] at hv
    obtain ⟨a, us, rfl, h1, h2⟩ := hv
    exact ⟨a, us, rfl, .inr (same_t sh h1.1), fun l hl => new_lst sh h2 h hl⟩
  · exact h.elim
/-! ### isinstance(x, T), T built-in -/
def tyName : D → String
  | .none => "NoneType"
  | .bool _ => "bool"
  | .int _ => "int"
  | .str _ => "str"
  | .list _ => "list"
  | .tuple _ => "tuple"
  | .dict _ => "dict"
def isiN (n T : String) : Bool := decide (n = T) || (decide (T = "int") && decide (n = "bool"))
def isiD (T : String) (d : D) : Bool := isiN (tyName d) T
theorem kit_N : ∀ n ∈ ["NoneType", "bool", "int", "str", "list", "tuple", "dict"], ∀ T ∈ ["int", "bool", "tuple", "list", "str"], kitB n T = some (isiN n T) := by decide +kernel
theorem tyName_mem (d : D) : tyName d ∈ ["NoneType", "bool", "int", "str", "list", "tuple", "dict"] := by
  cases d <;> simp [tyName]
theorem kit_D (T : String) (hT : T ∈ ["int", "bool", "tuple", "list", "str"]) (d : D) : kitB (tyName d) T = some (isiD T d) := kit_N _ (tyName_mem d) T hT
/-- .. a dict that is being walked too -/
def TyY (K : PySem.W.Frag) (H : Hp) (x : V) (t : Value) : Prop := TyX K H x t ∨ ∃ (a : Addr) (ob : Obj) (kvs : List (List Key × V)), x = .ref a ∧ H a = some (.frz ob (.dT kvs)) ∧ t = .type "dict"
theorem kit_ofY {X : Cx} {pins : List (Addr × Obj)} {σ : L2.St} {H : Hp} {s : Shared} {x : V} {u t : Value} (I : Inv X pins σ H s) (rx : RelV x u) (ty : TyY X.K H x t) : ∃ P : Heap → Prop, PySem.W.KitX X.K u t P ∧ P s.heap ∧ u ≠ .builtin "__main__.__loader__#opaque" := by
  rcases ty with ty | ⟨a, ob, kvs, rfl, ea, rfl⟩
  · exact kit_of I rx ty
  · cases (show u = Value.ref a from rx)
    obtain ⟨_, _, _, xs, _, o, es, ep, h1, h2, _⟩ := (show ObjOk X.prog X.w H s.heap a (.frz ob (.dT kvs)) from I.hok a _ ea)
    exact ⟨_, PySem.W.kitx_dict, ⟨o, h1, h2.1⟩, fun z => nomatch z⟩
def rIsiY (K : PySem.W.Frag) : List V → Hp → VK → Prop := fun xs H Q => ∃ (x c : V) (t u : Value) (b : Bool), xs = [x, c] ∧ ClsV c u ∧ TyY K H x t ∧ PySem.W.kitOne K t u = some b ∧ Q (.bl b) H
theorem call_isiY {X : Cx} : CallR X (.builtin "isinstance") (rIsiY X.K) := by
  intro pins s σ H xs us Q I r h
  obtain ⟨x, c, t, u, b, rfl, k, ty, e, q⟩ := h
  obtain ⟨u1, u2, rfl, r1, r2⟩ := vals2 r
  have e2 := k.eq r2
  subst e2
  obtain ⟨P, Z, p, hx⟩ := kit_ofY I r1 ty
  exact PySem.W.kia_one Z I.kIn p e hx fun tk => ⟨.bl b, H, I.tok tk, rfl, q⟩
theorem tyX_of {K : PySem.W.Frag} {S H : Hp} {v : V} {d : D} (sh : Same S H) (h : DV K S v d) : TyY K H v (.type (tyName d)) := by
  cases d with
  | none => rw [DV] at h; subst h; exact .inl (.base .non)
  | bool b => rw [DV] at h; subst h; exact .inl (.base (.bl b))
  | int b => rw [DV] at h; subst h; exact .inl (.base (.int b))
  | str b => rw [DV] at h; subst h; exact .inl (.base (.str b))
  | list b =>
    rw [DV] at h
    obtain ⟨a, us, rfl, (h1 | ⟨o, h1⟩) | ⟨its, n, h1, _⟩, _⟩ := h
    · exact .inl (.base (.lst (sh _ _ h1)))
    · exact .inl (.base (.frz (sh _ _ h1)))
    · exact .inl (.kList h1 rfl)
  | tuple b =>
    rw [DV] at h
    obtain ⟨a, us, rfl, ⟨(h1 | ⟨o, h1⟩) | ⟨o, its, n, h1, h2, _⟩, _⟩, _⟩ := h
    · exact .inl (.base (.tup (sh _ _ h1)))
    · exact .inl (.fTuple (sh _ _ h1))
    · exact .inl (.kTuple h1 h2)
  | dict b =>
    rw [DV] at h
    obtain ⟨a, rfl, ⟨es, h1 | ⟨o, h1⟩, _⟩ | ⟨es, h1 | ⟨o, h1⟩, _⟩⟩ := h
    · exact .inl (.base (.dK (sh _ _ h1)))
    · exact .inl (.fDict (sh _ _ h1))
    · exact .inl (.base (.dT (sh _ _ h1)))
    · exact .inr ⟨a, o, es, rfl, sh _ _ h1, rfl⟩
def fIsi (T : String) (f : DEnv → Res D) : DEnv → Res D := fun ρ => (f ρ).bind fun d => .ok (.bool (isiD T d))
theorem pd_isi {T : String} {x : Str} {p1 p2 : Pos} (hT : T ∈ ["int", "bool", "tuple", "list", "str"]) (he : PD K mg X E e te f) (hg : Gl X "isinstance") (hm : X.mg "isinstance" = none) (hv : bootBuiltins "isinstance" = some (.builtin "isinstance")) (hgT : Gl X x) (hmT : X.mg x = none) (hvT : bootBuiltins x = some (.type T))
    (hn : x ≠ "__name__" := by decide) (hd : (x == ("__debug__" : Str)) = false := by decide)
    (h1 : starEach [e, .Name x p1] X.env = (false, eval e X.env) :: starEach [.Name x p1] X.env := by rfl) (h2 : starEach [.Name x p1] X.env = (false, eval (.Name x p1) X.env) :: starEach [] X.env := by rfl) (hpl : (backTo pos (starEach [.Name x p1] X.env)).any (·.1) = false := by rfl) (hK : X.K = K := by rfl) :
    PD K mg X E (.Call (.Name "isinstance" p2) [e, .Name x p1] [] pos) (tCB (rIsiY K) (tCons te (tCons (tC (.ty T)) tNil))) (fIsi T f) :=
  ⟨hK ▸ pe_callB call_isiY hg hm hv (pa_cons he.pe (pa_cons (pe_bltn (v := .ty T) hgT hmT hvT rfl hn hd) pa_nil h2) h1) (by decide) (by decide) h1 hpl, fun S H σ ρ Q rl h =>
    he.sd S H σ ρ _ rl (h.bind fun d v S1 H1 x1 d1 h1 => ⟨v, .ty T, _, _, isiD T d, rfl, .ty T, tyX_of x1.sh d1, kit_ty (kit_D T hT d), h1.ok0 x1.sh rfl⟩)⟩
/-! ### NAMES.index(x), a tuple of texts of the written part -/
def gNamesIx (ys : List Str) : D → Res D
  | .str z => match ys.idxOf? z with
    | some j => .ok (.int (j : Nat))
    | none => .bad
  | _ => .bad
def rNamesIx (K : PySem.W.Frag) : V → List V → Hp → VK → Prop := fun x xs H Q => ∃ p, ∃ ys : List Str, ∃ z j, x = .ref p ∧ xs = [.str z] ∧ SqT K H p (ys.map V.str) ∧ ys[j]? = some z ∧ (∀ m, m < j → ys[m]? ≠ some z) ∧ Q (.int (j : Nat)) H
theorem mt_nix (hK : X.K = K := by rfl) : MtR X "tuple.index" (rNamesIx K) := by subst hK; exact mt_tup_index
def fNix (ys : List Str) (f : DEnv → Res D) : DEnv → Res D := fun ρ => (f ρ).bind (gNamesIx ys)
theorem pd_namesIx {a : Addr} {ys : List Str} {o : Expr} {apos : Pos} (hk : ∃ ob, K.lookup a = some ob ∧ ob.cls = .type "tuple" ∧ ob.dict = none) (hs : ∀ H, SqT K H a (ys.map V.str)) (he : PD K mg X E e te f)
    (hp : PE X (.Call (.Attribute o "index" apos) [e] [] pos) (tBM K "tuple" (rNamesIx K) (tC (.ref a)) (tCons te tNil))) :
    PD K mg X E (.Call (.Attribute o "index" apos) [e] [] pos) (tBM K "tuple" (rNamesIx K) (tC (.ref a)) (tCons te tNil)) (fNix ys f) :=
  ⟨hp, fun S H σ ρ Q rl h => ⟨.inr (.inl ⟨rfl, hk⟩), he.sd S H σ ρ _ rl (h.bind fun d v S1 H1 x1 d1 h1 => by
    cases d with
    | str z =>
      unfold gNamesIx at h1
      dsimp only at h1
      split at h1
      · rename_i j ej
        rw [DV] at d1
        subst d1
        have q := List.findIdx?_eq_some_iff_getElem.mp ej
        obtain ⟨hj, e1, e2⟩ := q
        refine ⟨a, ys, z, j, rfl, rfl, hs H1, ?_, fun m hm em => ?_, h1.ok0 x1.sh rfl⟩
        · rw [List.getElem?_eq_getElem hj]
          exact congrArg some (by simpa using e1)
        · have hml : m < ys.length := by omega
          rw [List.getElem?_eq_getElem hml] at em
          have := e2 m hm
          have em := Option.some.inj em
          rw [em] at this
          simp at this
      · exact h1.elim
    | _ => exact h1.elim)⟩⟩
end
end PD
namespace PD
open PySem L2
def zipD : List D → List D → List D
  | x :: xs, y :: ys => .tuple [x, y] :: zipD xs ys
  | _, _ => []
theorem zipD_get : ∀ {xs ys : List D} {i : Nat} {d : D}, (zipD xs ys)[i]? = some d → ∃ x y, xs[i]? = some x ∧ ys[i]? = some y ∧ d = .tuple [x, y]
  | x :: xs, y :: ys, 0, d, h => ⟨x, y, rfl, rfl, (Option.some.inj h).symm⟩
  | x :: xs, y :: ys, i + 1, d, h => zipD_get (xs := xs) (ys := ys) (i := i) h
  | [], _, _, _, h => by simp [zipD] at h
  | _ :: _, [], _, _, h => by simp [zipD] at h
theorem zipD_len : ∀ (xs ys : List D), (zipD xs ys).length = min xs.length ys.length
  | x :: xs, y :: ys => by show (zipD xs ys).length + 1 = min (xs.length + 1) (ys.length + 1); rw [zipD_len xs ys]; omega
  | [], ys => by simp [zipD]
  | _ :: _, [] => by simp [zipD]
theorem walks_zip {K : PySem.W.Frag} {S : Hp} {a b : Addr} {us ws : List V} {ds es : List D} (h1 : LsAt K S a us) (h2 : DVs K S us ds) (h3 : LsAt K S b ws) (h4 : DVs K S ws es) : Walks K S (Itz K a b) (zipD ds es) := fun S' H' e1 e2 => by
  have q1 : SqL K H' a us := ls_sq (ls_mono (e1.trans e2) h1)
  have q2 : SqL K H' b ws := ls_sq (ls_mono (e1.trans e2) h3)
  refine ⟨fun i d hi => ?_, us, ws, q1, q2, ?_⟩
  · obtain ⟨x, y, g1, g2, rfl⟩ := zipD_get hi
    obtain ⟨v, k1, k2⟩ := h2.get g1
    obtain ⟨w, k3, k4⟩ := h4.get g2
    refine ⟨⟨us, ws, v, w, q1, q2, k1, k3⟩, fun z H'' hy => ?_⟩
    obtain ⟨T, x1, x2, rfl, nT, rfl, f1, f2⟩ := hy
    have ex : x1 = v := Option.some.inj ((f1 _ q1).symm.trans k1)
    have ey : x2 = w := Option.some.inj ((f2 _ q2).symm.trans k3)
    subst ex ey
    have sm : Same S (upd S' T (.tup [x1, x2])) := e1.trans (same_upd (e2.free nT))
    exact ⟨_, Ext.new e2 nT, T, [x1, x2], rfl, tp_of upd_same, k2.mono sm, k4.mono sm, trivial⟩
  · rw [zipD_len, h2.length, h4.length]
    omega
theorem walks_zipT {K : PySem.W.Frag} {S : Hp} {a b : Addr} {us ws : List V} {ds es : List D} (h1 : SqT K S a us) (h2 : DVs K S us ds) (h3 : SqT K S b ws) (h4 : DVs K S ws es) : Walks K S (RZ.ItzT K a b) (zipD ds es) := fun S' H' e1 e2 => by
  have q1 : SqT K H' a us := same_t (e1.trans e2) h1
  have q2 : SqT K H' b ws := same_t (e1.trans e2) h3
  refine ⟨fun i d hi => ?_, us, ws, q1, q2, ?_⟩
  · obtain ⟨x, y, g1, g2, rfl⟩ := zipD_get hi
    obtain ⟨v, k1, k2⟩ := h2.get g1
    obtain ⟨w, k3, k4⟩ := h4.get g2
    refine ⟨⟨us, ws, v, w, q1, q2, k1, k3⟩, fun z H'' hy => ?_⟩
    obtain ⟨T, x1, x2, rfl, nT, rfl, f1, f2⟩ := hy
    have ex : x1 = v := Option.some.inj ((f1 _ q1).symm.trans k1)
    have ey : x2 = w := Option.some.inj ((f2 _ q2).symm.trans k3)
    subst ex ey
    have sm : Same S (upd S' T (.tup [x1, x2])) := e1.trans (same_upd (e2.free nT))
    exact ⟨_, Ext.new e2 nT, T, [x1, x2], rfl, tp_of upd_same, k2.mono sm, k4.mono sm, trivial⟩
  · rw [zipD_len, h2.length, h4.length]
    omega
def gZip : List D → Res (List D)
  | [.list xs, .list ys] => .ok (zipD xs ys)
  | [.tuple xs, .tuple ys] => .ok (zipD xs ys)
  | _ => .bad
section
variable {K : PySem.W.Frag} {mg : Str → Option Value} {X : Cx} {E : XK} {e e2 : Expr} {ta : TA} {ga : DEnv → Res (List D)} {p pos tpos : Pos} {elts : List Expr} {kk : Nat}
theorem id_zip (hg : Gl X "zip") (hm : X.mg "zip" = none) (ha : AD K mg X E [e, e2] ta ga) (hs : starEach [e, e2] X.env = (false, eval e X.env) :: starEach [e2] X.env := by rfl) (hpl : (backTo pos (starEach [e2] X.env)).any (·.1) = false := by rfl) (hK : X.K = K := by rfl) :
    ID K mg X E (.Tuple elts kk tpos) (.Call (.Name "zip" p) [e, e2] [] pos) (RZ.iZipA K ta) (fRng gZip ga) := ⟨hK ▸ RZ.pi_zipA hg hm ha.pe hs hpl, fun S H σ ρ R rl h => by
  refine ha.sd S H σ ρ _ rl (h.bind fun ds vs S1 H1 x1 d1 h1 => ?_)
  unfold gZip at h1
  split at h1
  · obtain ⟨v, w, rfl, hv, hw⟩ := dvs2 d1
    rw [DV] at hv hw
    obtain ⟨a, us, rfl, k1, k2⟩ := hv
    obtain ⟨b, ws, rfl, k3, k4⟩ := hw
    exact ⟨a, b, us, ws, rfl, .inl ⟨ls_sq (ls_mono x1.sh k1), ls_sq (ls_mono x1.sh k3), h1.ok0 x1.sh (walks_zip k1 k2 k3 k4)⟩⟩
  · obtain ⟨v, w, rfl, hv, hw⟩ := dvs2 d1
    rw [DV] at hv hw
    obtain ⟨a, us, rfl, k1, k2⟩ := hv
    obtain ⟨b, ws, rfl, k3, k4⟩ := hw
    exact ⟨a, b, us, ws, rfl, .inr ⟨same_t x1.sh k1.1, same_t x1.sh k3.1, h1.ok0 x1.sh (walks_zipT k1.1 k2 k3.1 k4)⟩⟩
  · exact h1.elim⟩
/-! ### ranges with a step; list(range(..)) -/
def rngS (lo c : Int) (n : Nat) : List D := (List.range n).map fun (i : Nat) => PyData.int (lo + (i : Int) * c)
/-- how many: a, a + c, .. below b -/
def rngN (a b c : Int) : Nat := if a < b then ((b - a - 1) / c + 1).toNat else 0
def rng3Ok (a b c : Int) : Bool := decide (-1000000 ≤ a) && decide (a ≤ 1000000) && decide (-1000000 ≤ b) && decide (b ≤ 1000000) && decide (0 < c) && decide (c ≤ 1000000)
theorem rng3Ok.bd {a b c : Int} (h : rng3Ok a b c = true) : -1000000 ≤ a ∧ a ≤ 1000000 ∧ -1000000 ≤ b ∧ b ≤ 1000000 ∧ 0 < c ∧ c ≤ 1000000 := by
  unfold rng3Ok at h
  simp only [Bool.and_eq_true, decide_eq_true_eq] at h
  omega
theorem rng_size {a b c : Int} (h : 0 < c) : Builtin.Range.rangeSize a b c = (rngN a b c : Nat) := by
  unfold Builtin.Range.rangeSize rngN
  rw [if_pos h]
  split
  · have : 0 ≤ (b - a - 1) / c := Int.ediv_nonneg (by omega) (by omega)
    omega
  · rfl
theorem rngN_le {a b c : Int} (h : rng3Ok a b c = true) : rngN a b c ≤ 2000001 := by
  obtain ⟨h1, h2, h3, h4, h5, h6⟩ := rng3Ok.bd h
  unfold rngN
  split
  · have : (b - a - 1) / c ≤ b - a - 1 := Int.ediv_le_self _ (by omega)
    omega
  · omega
theorem rng_small {a b c : Int} (h : rng3Ok a b c = true) : Builtin.Range.small a b c = true := by
  have hn := rngN_le h
  obtain ⟨h1, h2, h3, h4, h5, h6⟩ := rng3Ok.bd h
  unfold Builtin.Range.small
  rw [rng_size h5]
  simp only [Builtin.Range.rangeFitsLong, Bool.and_eq_true, Bool.or_eq_true, decide_eq_true_eq, beq_iff_eq, h5, gt_iff_lt, if_true]
  have e : (2 : Int) ^ 63 = 9223372036854775808 := by decide
  omega
theorem rgC_of {a b c : Int} (h : rng3Ok a b c = true) : RgC a b c (rngN a b c) := by
  obtain ⟨h1, h2, h3, h4, h5, h6⟩ := rng3Ok.bd h
  exact ⟨by omega, by omega, rng_small h, rng_size h5⟩
theorem walks_rngC {K : PySem.W.Frag} {S : Hp} (lo c : Int) (n : Nat) : Walks K S (Itc lo c n) (rngS lo c n) := fun S' H' e1 e2 => by
  have hl : (rngS lo c n).length = n := by unfold rngS; rw [List.length_map, List.length_range]
  refine ⟨fun i d hi => ?_, by rw [hl]; exact Nat.le_refl n⟩
  have hin : i < n := by
    have := (List.getElem?_eq_some_iff.mp hi).1
    omega
  refine ⟨hin, fun x H'' hy => ?_⟩
  obtain ⟨rfl, rfl⟩ := hy
  refine ⟨S', Ext.refl e2, ?_⟩
  unfold rngS at hi
  rw [List.getElem?_map, List.getElem?_range hin] at hi
  have hi := Option.some.inj hi
  rw [← hi]
  rfl
def gRng3 : List D → Res (List D)
  | [.int i, .int j, .int c] => if rng3Ok i j c = true then .ok (rngS i c (rngN i j c)) else .bad
  | _ => .bad
variable {a b c tg : Expr}
theorem id_range3 (hg : Gl X "range") (hm : X.mg "range" = none) (ha : AD K mg X E [a, b, c] ta ga) (hs : starEach [a, b, c] X.env = (false, eval a X.env) :: starEach [b, c] X.env := by rfl) (hpl : (backTo pos (starEach [b, c] X.env)).any (·.1) = false := by rfl) :
    ID K mg X E tg (.Call (.Name "range" p) [a, b, c] [] pos) (iRng3 ta) (fRng gRng3 ga) := ⟨pi_range3 hg hm ha.pe hs hpl, fun S H σ ρ R rl h => ha.sd S H σ ρ _ rl (h.bind fun ds vs S1 H1 x1 d1 h1 => by
    unfold gRng3 at h1
    split at h1
    · rename_i i j k
      split at h1
      · rename_i hz
        obtain ⟨v, w, u, rfl, hv, hw, hu⟩ := dvs3 d1
        cases hv
        cases hw
        cases hu
        exact ⟨i, j, k, _, rfl, rgC_of hz, h1.ok0 x1.sh (walks_rngC _ _ _)⟩
      · exact h1.elim
    · exact h1.elim)⟩
/-- list(range(a, b, c)) -/
def rgS (lo c : Int) (n : Nat) : List V := (List.range n).map fun (i : Nat) => V.int (lo + (i : Int) * c)
theorem vals_rgS {lo c : Int} {n : Nat} {acc : Array Value} (h : PySem.ItemsOf (fun i v => ∃ t, v = .int (lo + i * c) t) acc n) : Vals (rgS lo c n) acc.toList := by
  have e : acc.toList.length = n := by rw [Array.length_toList]; exact h.1
  unfold rgS
  rw [← e]
  refine vals_of_get acc.toList _ fun j u hj => ?_
  obtain ⟨t, rfl⟩ := h.2 j u (by rw [← hj, Array.getElem?_toList])
  exact ⟨t, rfl⟩
theorem dvs_rgS {K : PySem.W.Frag} {S : Hp} (lo c : Int) : ∀ l : List Nat, DVs K S (l.map fun (i : Nat) => V.int (lo + (i : Int) * c)) (l.map fun (i : Nat) => PyData.int (lo + (i : Int) * c))
  | [] => trivial
  | _ :: l => ⟨rfl, dvs_rgS lo c l⟩
def tLR3 (ta : TA) : TE := fun σ H Q => ta σ H fun vs H1 => ∃ (i j c : Int), vs = [.int i, .int j, .int c] ∧ rng3Ok i j c = true ∧ ∀ q, H1 q = none → Q (.ref q) (upd H1 q (.lst (rgS i c (rngN i j c))))
theorem pe_listR3 {p1 p2 pos2 : Pos} (hc : X.calm = true) (hgL : Gl X "list") (hmL : X.mg "list" = none) (hg : Gl X "range") (hm : X.mg "range" = none) (ha : PA X [a, b, c] ta)
    (hs : starEach [a, b, c] X.env = (false, eval a X.env) :: starEach [b, c] X.env := by rfl) (hpl : (backTo pos2 (starEach [b, c] X.env)).any (·.1) = false := by rfl)
    (na : starEach [.Call (.Name "range" p2) [a, b, c] [] pos2] X.env = (false, eval (.Call (.Name "range" p2) [a, b, c] [] pos2) X.env) :: starEach [] X.env := by rfl) :
    PE X (.Call (.Name "list" p1) [.Call (.Name "range" p2) [a, b, c] [] pos2] [] pos) (tLR3 ta) := by
  refine ⟨fun pins s σ H Q I h => ?_⟩
  refine PyProof.Rows.Call_ (ld_blt I hgL hmL PyProof.Rows.boot_list (PyProof.Rows.callWith_type1 (PyProof.Rows.args_cons ?_ na) na))
  refine PyProof.Rows.Call_ (ld_blt I hg hm PyProof.Rows.boot_range (PyProof.Rows.callWith_type1 (thn (ha.run pos2 pins s σ H _ I h) fun us s1 ⟨vs, H1, I1, r1, q1⟩ => ?_) hs hpl))
  obtain ⟨i, j, k, ev, ok, q⟩ := q1
  subst ev
  have rc := rgC_of ok
  obtain ⟨c0, c1, c2, c3⟩ := rc
  cases r1 with
  | cons r rr =>
    cases rr with
    | cons r' rr =>
      cases rr with
      | cons r'' rr =>
        cases rr
        obtain ⟨t, rfl⟩ := r
        obtain ⟨t', rfl⟩ := r'
        obtain ⟨t'', rfl⟩ := r''
        refine PySem.call_range_3 c0 ?_ (.inl (PyProof.noPylong_small c1))
        refine PyProof.Rows.args_nil ?_
        have I2 : Inv X pins σ H1 { s1 with heap := s1.heap.push { cls := .type "range", data := .fields #[.int i t, .int j t', .int k t''] } } := I1.kept (t' := s1.toks) fun b o e => Heap.get?_push_of_some _ e
        have hn := rngN_le ok
        refine PySem.call_list_range (n := rngN i j k) (I2.ok.hd hc) (IsRange.new ..) c2 c3 (Nat.le_trans hn (by decide)) fun h' tk acc c' hk e' hi => ?_
        refine ⟨.ref _, upd H1 _ (.lst (rgS i k (rngN i j k))), I2.laid hk (Nat.le_refl _) (show ObjOk X.prog X.w _ _ _ (.lst (rgS i k (rngN i j k))) from ⟨?_, acc.toList, c', vals_rgS hi, ?_⟩), rfl, q _ (I2.hok.fresh (Nat.le_refl _))⟩
        · unfold rgS
          rw [List.length_map, List.length_range, sizeLine_eq]
          omega
        · rw [Array.toArray_toList]
          exact e'
def gLR3 : List D → Res D
  | [.int i, .int j, .int c] => if rng3Ok i j c = true then .ok (.list (rngS i c (rngN i j c))) else .bad
  | _ => .bad
theorem pd_listR3 {p1 p2 pos2 : Pos} (hc : X.calm = true) (hgL : Gl X "list") (hmL : X.mg "list" = none) (hg : Gl X "range") (hm : X.mg "range" = none) (ha : AD K mg X E [a, b, c] ta ga)
    (hs : starEach [a, b, c] X.env = (false, eval a X.env) :: starEach [b, c] X.env := by rfl) (hpl : (backTo pos2 (starEach [b, c] X.env)).any (·.1) = false := by rfl)
    (na : starEach [.Call (.Name "range" p2) [a, b, c] [] pos2] X.env = (false, eval (.Call (.Name "range" p2) [a, b, c] [] pos2) X.env) :: starEach [] X.env := by rfl) :
    PD K mg X E (.Call (.Name "list" p1) [.Call (.Name "range" p2) [a, b, c] [] pos2] [] pos) (tLR3 ta) (fB gLR3 ga) := ⟨pe_listR3 hc hgL hmL hg hm ha.pe hs hpl na, fun S H σ ρ Q rl h => ha.sd S H σ ρ _ rl (h.bind fun ds vs S1 H1 x1 d1 h1 => by
    unfold gLR3 at h1
    split at h1
    · rename_i i j k
      split at h1
      · rename_i hz
        obtain ⟨v, w, u, rfl, hv, hw, hu⟩ := dvs3 d1
        cases hv
        cases hw
        cases hu
        exact ⟨i, j, k, rfl, hz, fun q hq => new_lst x1.sh (dvs_rgS i k _) h1 hq⟩
      · exact h1.elim
    · exact h1.elim)⟩
/-- list(range(a)), list(range(a, b)) -/
theorem dvs_rg {K : PySem.W.Frag} {S : Hp} (lo : Int) : ∀ l : List Nat, DVs K S (l.map fun (i : Nat) => V.int (lo + (i : Nat))) (l.map fun (i : Nat) => PyData.int (lo + (i : Int)))
  | [] => trivial
  | _ :: l => ⟨rfl, dvs_rg lo l⟩
def rng2Ok (a b : Int) : Bool := decide (-1000000 ≤ a) && decide (a ≤ 1000000) && decide (-1000000 ≤ b) && decide (b ≤ 1000000)
theorem rng2Ok.bd {a b : Int} (h : rng2Ok a b = true) : RgOk a b := by
  unfold rng2Ok at h
  simp only [Bool.and_eq_true, decide_eq_true_eq] at h
  have e : (2 : Int) ^ 62 = 4611686018427387904 := by decide
  exact ⟨by omega, by omega, by omega, by omega, by omega⟩
def gLR (a b : D) : Res D := match a, b with
  | .int i, .int j => if rng2Ok i j = true then .ok (.list (rngD i (j - i).toNat)) else .bad
  | _, _ => .bad
def fLR1 (f : DEnv → Res D) : DEnv → Res D := fun ρ => (f ρ).bind fun x => gLR (.int 0) x
variable {t1 t2 : TE} {f1 f2 : DEnv → Res D}
theorem pd_listR1 {p1 p2 pos2 : Pos} (hc : X.calm = true) (hgL : Gl X "list") (hmL : X.mg "list" = none) (hg : Gl X "range") (hm : X.mg "range" = none) (ha : PD K mg X E a t1 f1) (na : starEach [a] X.env = (false, eval a X.env) :: starEach [] X.env := by rfl)
    (nb : starEach [.Call (.Name "range" p2) [a] [] pos2] X.env = (false, eval (.Call (.Name "range" p2) [a] [] pos2) X.env) :: starEach [] X.env := by rfl) :
    PD K mg X E (.Call (.Name "list" p1) [.Call (.Name "range" p2) [a] [] pos2] [] pos) (tLstRg (tRg1 t1)) (fLR1 f1) := ⟨pe_listRg hc hgL hmL (prg_1 hg hm ha.pe na) nb, fun S H σ ρ Q rl h => ha.sd S H σ ρ _ rl (h.bind fun d v S1 H1 x1 d1 h1 => by
    unfold gLR at h1
    split at h1
    · rename_i i j e
      cases e
      split at h1
      · rename_i hz
        cases d1
        exact ⟨j, rfl, rng2Ok.bd hz, fun q hq => new_lst x1.sh (dvs_rg 0 _) h1 hq⟩
      · exact h1.elim
    · exact h1.elim)⟩
theorem pd_listR2 {p1 p2 pos2 : Pos} (hc : X.calm = true) (hgL : Gl X "list") (hmL : X.mg "list" = none) (hg : Gl X "range") (hm : X.mg "range" = none) (ha : PD K mg X E a t1 f1) (hb : PD K mg X E b t2 f2) (na : starEach [a, b] X.env = (false, eval a X.env) :: starEach [b] X.env := by rfl)
    (nb : starEach [b] X.env = (false, eval b X.env) :: starEach [] X.env := by rfl) (hp : (backTo pos2 (starEach [b] X.env)).any (·.1) = false := by rfl)
    (nc : starEach [.Call (.Name "range" p2) [a, b] [] pos2] X.env = (false, eval (.Call (.Name "range" p2) [a, b] [] pos2) X.env) :: starEach [] X.env := by rfl) :
    PD K mg X E (.Call (.Name "list" p1) [.Call (.Name "range" p2) [a, b] [] pos2] [] pos) (tLstRg (tRg2 t1 t2)) (fBin gLR f1 f2) := ⟨pe_listRg hc hgL hmL (prg_2 hg hm ha.pe hb.pe na nb hp) nc, fun S H σ ρ Q rl h => ha.sd S H σ ρ _ rl (h.bind fun d v S1 H1 x1 d1 h1 =>
    hb.sd S1 H1 σ ρ _ (rl.mono x1) (h1.bind fun d' v' S2 H2 x2 d2 h2 => by
    unfold gLR at h2
    split at h2
    · rename_i i j
      split at h2
      · rename_i hz
        cases d1
        cases d2
        exact ⟨i, j, rfl, rfl, rng2Ok.bd hz, fun q hq => new_lst x2.sh (dvs_rg i _) h2 hq⟩
      · exact h2.elim
    · exact h2.elim))⟩
end
end PD
namespace PD
open PySem L2
section
variable {K : PySem.W.Frag} {mg : Str → Option Value} {X : Cx} {E : XK} {a b c e : Expr} {ta tb tc : TE} {fa fb fc : DEnv → Res D} {pos : Pos}
theorem pd_chain {op op' : CmpOp} {r r' : R2} {g g' : D → D → Res D} (ho : OpR X (compareOp op) r) (ho' : OpR X (compareOp op') r') (hs : OpS K mg E r g) (hs' : OpS K mg E r' g') (ha : PD K mg X E a ta fa) (hb : PD K mg X E b tb fb) (hc : PD K mg X E c tc fc) (hm : lastMarks [op, op'] [b, c] = false := by with_unfolding_all rfl) :
    PD K mg X E (.Compare a [op, op'] [b, c] pos) (tChain r r' ta tb tc) (fChain g g' fa fb fc) := ⟨pe_chain ho ho' ha.pe hb.pe hc.pe hm, chain_sd hs hs' ha hb hc⟩
theorem td_chain {op op' : CmpOp} {r r' : R2} {g g' : D → D → Res D} (ho : OpR X (compareOp op) r) (ho' : OpR X (compareOp op') r') (hs : OpS K mg E r g) (hs' : OpS K mg E r' g') (ha : PD K mg X E a ta fa) (hb : PD K mg X E b tb fb) (hc : PD K mg X E c tc fc) (hm : lastMarks [op, op'] [b, c] = false := by with_unfolding_all rfl) :
    TD K mg X E (.Compare a [op, op'] [b, c] pos) (tTest (tChain r r' ta tb tc)) (fTest (fChain g g' fa fb fc)) := ⟨pt_chain ho ho' ha.pe hb.pe hc.pe hm, fun S H σ ρ Q rl h => by
  refine chain_sd hs hs' ha hb hc S H σ ρ _ rl (h.bind fun x v S1 H1 x1 d1 h1 => ?_)
  cases x with
  | bool k => exact ⟨k, d1, h1.ok0 x1.sh rfl⟩
  | _ => exact h1.elim⟩
/-- -e -/
def gNeg : D → Res D
  | .int i => .ok (.int (-i))
  | _ => .bad
def fUn (g : D → Res D) (f : DEnv → Res D) : DEnv → Res D := fun ρ => (f ρ).bind g
theorem pd_neg (ha : PD K mg X E a ta fa) : PD K mg X E (.UnaryOp .USub a pos) (tUn (rU fun i => .int (-i)) ta) (fUn gNeg fa) := ⟨pe_un un_neg ha.pe, fun S H σ ρ Q rl h => ha.sd S H σ ρ _ rl (h.bind fun d v S1 H1 x1 d1 h1 => by
  cases d with
  | int i => exact ⟨i, d1, h1.ok0 x1.sh rfl⟩
  | _ => exact h1.elim)⟩
/-- the module's constants -/
theorem pd_gint {x : Str} {i : Int} (h : ∃ t, X.mg x = some (.int i t)) (hg : Gl X x := by rfl) (hd : (x == ("__debug__" : Str)) = false := by decide) : PD K mg X E (.Name x pos) (tC (.int i)) (fC (.int i)) :=
  pd_c (by obtain ⟨t, h⟩ := h; exact pe_glob hg h ⟨t, rfl⟩ hd) fun _ => rfl
theorem pd_gstr {x : Str} {i : Str} (h : ∃ t, X.mg x = some (.str i t)) (hg : Gl X x := by rfl) (hd : (x == ("__debug__" : Str)) = false := by decide) : PD K mg X E (.Name x pos) (tC (.str i)) (fC (.str i)) :=
  pd_c (by obtain ⟨t, h⟩ := h; exact pe_glob hg h ⟨t, rfl⟩ hd) fun _ => rfl
theorem pd_gref {x : Str} {r : Addr} {d : D} (h : X.mg x = some (.ref r)) (hd' : ∀ S, DV K S (.ref r) d) (hg : Gl X x := by rfl) (hd : (x == ("__debug__" : Str)) = false := by decide) : PD K mg X E (.Name x pos) (tC (.ref r)) (fC d) :=
  pd_c (pe_glob hg h rfl hd) hd'
/-- a[::-1] -/
def gRev : D → Res D
  | .list xs => .ok (.list xs.reverse)
  | _ => .bad
theorem DVs.reverse {K : PySem.W.Frag} {S : Hp} : ∀ {vs : List V} {ds : List D}, DVs K S vs ds → DVs K S vs.reverse ds.reverse
  | [], [], _ => trivial
  | v :: vs, d :: ds, h => by
    rw [List.reverse_cons, List.reverse_cons]
    exact (DVs.reverse (vs := vs) (ds := ds) h.2).append ⟨h.1, trivial⟩
  | [], _ :: _, h => h.elim
  | _ :: _, [], h => h.elim
theorem pd_rev {k : Nat} {p1 p2 p3 : Pos} (ha : PD K mg X E a ta fa) (hK : X.K = K := by rfl) : PD K mg X E (.Subscript a (.Slice none none (some (.UnaryOp .USub (.Constant (.int 1) k p1) p2)) p3) pos) (tRevL K ta) (fUn gRev fa) := ⟨hK ▸ pe_revL ha.pe, fun S H σ ρ Q rl h => ha.sd S H σ ρ _ rl (h.bind fun d v S1 H1 x1 d1 h1 => by
  cases d with
  | list xs =>
    rw [DV] at d1
    obtain ⟨p, us, rfl, g1, g2⟩ := d1
    exact ⟨p, us, rfl, ls_sq (ls_mono x1.sh g1), fun q hq => new_lst x1.sh g2.reverse h1 hq⟩
  | _ => exact h1.elim)⟩
theorem sd_forI {tg iter : Expr} {body : List Stmt} {wi : TI} {g : TG} {tb : TS} {src : DEnv → Res (List D)} {is : List Nat} {hh : D → Option (List D)} {B : DEnv → SR} (hp : PassesOwn (model X.prog X.w) X.A X.env X.xe) (hc : X.calm = true) (hi : ID K mg X E tg iter wi src) (hg : GD K X tg g is hh) (hb : SDs K mg X E body tb B)
    (hs : ∀ x, foldedSetIterable iter X.env x = pure x := by intro _; rfl) : SD K mg X E (.For tg iter body [] pos) (tFor wi g tb) (sFor src is hh B) := sd_for hp hc hi hg hb (ps_for hp hc hi.pi hg.pg hb.ps hs)
/-- names as targets -/
theorem gn (i : Nat) {x : Str} (hN : X.N.Nodup) (hi : X.N[i]? = some x := by rfl) (hx : Loc X.env.scope x := by first | exact Or.inl rfl | exact Or.inr rfl) (hf : X.fn x = true ∨ X.env.scope.names.lookup x = some .local := by first | exact .inl rfl | exact .inr rfl) : PG X (.Name x pos) (gName i) := pg_name hN hi hx hf
end
section
variable {P : Program} {w : World} {K : PySem.W.Frag} {mg : Str → Option Value} {base : Heap} {N : List Str} {qual : Str} {scope : Scope} {f : Addr} {cdv : Value} {A : Around} {outer : List Env} {s : Shared} {H : Hp} {E : XK}
theorem tkX : Takes (cxOf (L2.CX P w) P w K mg base N qual scope f cdv A outer s H E) (fun cls d _ H => E cls d H) := takes_of rfl rfl rfl rfl
theorem pX : Passes (L2.CX P w) (cxOf (L2.CX P w) P w K mg base N qual scope f cdv A outer s H E) E := passes_call tkX (fun _ _ _ _ h => h)
theorem poX : PassesOwn (model P w) (cxOf (L2.CX P w) P w K mg base N qual scope f cdv A outer s H E).A (cxOf (L2.CX P w) P w K mg base N qual scope f cdv A outer s H E).env (cxOf (L2.CX P w) P w K mg base N qual scope f cdv A outer s H E).xe := passes_of (X := cxOf (L2.CX P w) P w K mg base N qual scope f cdv A outer s H E) rfl
end
end PD
namespace PD
open PySem L2
section
variable {K : PySem.W.Frag} {mg : Str → Option Value} {X : Cx} {E : XK} {e : Expr} {te : TE} {t : TA} {f : DEnv → Res D} {g : DEnv → Res (List Slot)} {pos : Pos}
/-! ### a list or a tuple, walked -/
def asSeq : D → Res (List D)
  | .list ds => .ok ds
  | .tuple ds => .ok ds
  | _ => .bad
def fSeq (f : DEnv → Res D) : DEnv → Res (List D) := fun ρ => (f ρ).bind asSeq
def iSeq (K : PySem.W.Frag) (tl : TE) : TI := fun σ H R => iList K tl σ H R ∨ iTup K tl σ H R
theorem id_seq {tg : Expr} (hl : PD K mg X E e te f) (hK : X.K = K := by rfl) : ID K mg X E tg e (iSeq K te) (fSeq f) := ⟨⟨hK ▸ fun pins s σ H R I h => h.elim (fun h => (pi_list hl.pe).run pins s σ H R I h) fun h => (pi_tup hl.pe).run pins s σ H R I h⟩, fun S H σ ρ R rl h => by
  unfold fSeq at h
  cases e1 : f ρ with
  | ok d =>
    cases d with
    | tuple ds =>
      refine .inr (hl.sd S H σ ρ _ rl ?_)
      rw [e1] at h ⊢
      intro v S1 H1 x1 d1
      rw [DV] at d1
      obtain ⟨a, us, rfl, g1, g2⟩ := d1
      exact ⟨a, rfl, ⟨us, same_t x1.sh g1.1⟩, PostG.ok h x1 (walks_tup g1.1 g2)⟩
    | list ds =>
      refine .inl (hl.sd S H σ ρ _ rl ?_)
      rw [e1] at h ⊢
      intro v S1 H1 x1 d1
      rw [DV] at d1
      obtain ⟨a, us, rfl, g1, g2⟩ := d1
      exact ⟨a, rfl, ⟨us, ls_sq (ls_mono x1.sh g1)⟩, PostG.ok h x1 (walks_list g1 g2)⟩
    | _ => rw [e1] at h; exact h.elim
  | err c =>
    refine .inl (hl.sd S H σ ρ _ rl ?_)
    rw [e1] at h ⊢
    exact h
  | bad => rw [e1] at h; exact h.elim⟩
/-! ### append, extend -/
section
variable {i : Nat} {x : Str} {p1 p2 p3 : Pos}
theorem sd_app' (m : Bool) (hv : PE X (.Name x p1) (tVar i)) (he : PD K mg X E e te f)
    (hbase : attributeBase (.Name x p1) "append" X.env (eval (.Name x p1) X.env) = eval (.Name x p1) X.env := by rfl)
    (hfew : ((backTo p3 (starEach [e] X.env)).all (fun x => !x.1) && (backToKw p3 (keywordEach [] X.env)).all (fun x => x.1.isSome) && decide ([e].length + ([] : List Keyword).length + (if ([] : List Keyword).isEmpty then 0 else 1) < 30)) = true := by rfl)
    (hline : (p2.endLine == p3.line) = true := by rfl) (hs : starEach [e] X.env = (false, eval e X.env) :: starEach [] X.env := by rfl) (hplain : (backTo p3 (starEach [] X.env)).any (·.1) = false := by rfl)
    (hw : swapsWith (.Call (.Attribute (.Name x p1) "append" p2) [e] [] p3) none pos.line X.env = pure false := by rfl) (hK : X.K = K := by rfl) : SD K mg X E (.Expr (.Call (.Attribute (.Name x p1) "append" p2) [e] [] p3) pos) (tDrop (tBM K "list" rAppend (tVar i) (tCons te tNil))) (sApp (if m = true then fBor f else f) i) :=
  ⟨hK ▸ ps_expr (pe_bm PySem.F.plainAttrs_list PySem.F.slot_list_append PySem.F.type_list_append mt_append hv (pa_cons he.pe pa_nil hs) hbase hfew hline hs hplain) hw, by
    cases m with
    | true => exact app_sd (use_bor he)
    | false => exact app_sd (use_plain he)⟩
theorem sd_ext' (m : Bool) (hv : PE X (.Name x p1) (tVar i)) (he : PD K mg X E e te f)
    (hbase : attributeBase (.Name x p1) "extend" X.env (eval (.Name x p1) X.env) = eval (.Name x p1) X.env := by rfl)
    (hfew : ((backTo p3 (starEach [e] X.env)).all (fun x => !x.1) && (backToKw p3 (keywordEach [] X.env)).all (fun x => x.1.isSome) && decide ([e].length + ([] : List Keyword).length + (if ([] : List Keyword).isEmpty then 0 else 1) < 30)) = true := by rfl)
    (hline : (p2.endLine == p3.line) = true := by rfl) (hs : starEach [e] X.env = (false, eval e X.env) :: starEach [] X.env := by rfl) (hplain : (backTo p3 (starEach [] X.env)).any (·.1) = false := by rfl)
    (hw : swapsWith (.Call (.Attribute (.Name x p1) "extend" p2) [e] [] p3) none pos.line X.env = pure false := by rfl) (hK : X.K = K := by rfl) : SD K mg X E (.Expr (.Call (.Attribute (.Name x p1) "extend" p2) [e] [] p3) pos) (tDrop (tBM K "list" (rExtR K) (tVar i) (tCons te tNil))) (sExt (if m = true then fBor f else f) i) :=
  ⟨hK ▸ ps_expr (pe_bm PySem.F.plainAttrs_list PySem.F.slot_list_extend PySem.F.type_list_extend (mt_extR rfl) hv (pa_cons he.pe pa_nil hs) hbase hfew hline hs hplain) hw, by
    cases m with
    | true => exact ext_sd (use_bor he)
    | false => exact ext_sd (use_plain he)⟩
end
/-! ### x, y = a, b -/
theorem sd_p2 {i j : Nat} {x y : Str} {a b : Expr} {px py pt : Pos} {kt k2 pt2} (hN : X.N.Nodup) (hz : ZD K mg X E [a, b] t g) (hc : X.calm = true := by rfl) (hi : X.N[i]? = some x := by rfl) (hj : X.N[j]? = some y := by rfl) (hij : i ≠ j := by decide)
    (hx : X.env.scope.names.lookup x = some .local := by rfl) (hy : X.env.scope.names.lookup y = some .local := by rfl) (hw : swappedStores [.Tuple [.Name x px, .Name y py] kt pt] (.Tuple [a, b] k2 pt2) X.env = pure (some [x, y]) := by rfl)
    (hs : swapsWithSole [.Tuple [.Name x px, .Name y py] kt pt] (.Tuple [a, b] k2 pt2) pos.line X.env = pure false := by rfl) : SD K mg X E (.Assign [.Tuple [.Name x px, .Name y py] kt pt] (.Tuple [a, b] k2 pt2) pos) (tPar i j t) (sPar g [i, j]) :=
  sd_par hz (ps_par hc hN hi hj hij hx hy hz.pe hw hs)
theorem sd_p3 {i j l : Nat} {x y z : Str} {a b c : Expr} {px py pz pt : Pos} {kt k2 pt2} (hN : X.N.Nodup) (hz : ZD K mg X E [a, b, c] t g) (hc : X.calm = true := by rfl) (hi : X.N[i]? = some x := by rfl) (hj : X.N[j]? = some y := by rfl) (hl : X.N[l]? = some z := by rfl) (hij : i ≠ j := by decide) (hil : i ≠ l := by decide) (hjl : j ≠ l := by decide)
    (hx : X.env.scope.names.lookup x = some .local := by rfl) (hy : X.env.scope.names.lookup y = some .local := by rfl) (hz' : X.env.scope.names.lookup z = some .local := by rfl) (hw : swappedStores [.Tuple [.Name x px, .Name y py, .Name z pz] kt pt] (.Tuple [a, b, c] k2 pt2) X.env = pure (some [x, y, z]) := by rfl)
    (hs : swapsWithSole [.Tuple [.Name x px, .Name y py, .Name z pz] kt pt] (.Tuple [a, b, c] k2 pt2) pos.line X.env = pure false := by rfl) : SD K mg X E (.Assign [.Tuple [.Name x px, .Name y py, .Name z pz] kt pt] (.Tuple [a, b, c] k2 pt2) pos) (tPar3 i j l t) (sPar g [i, j, l]) :=
  sd_par3 hz (ps_par3 hc hN hi hj hl hij hil hjl hx hy hz' hz.pe hw hs)
/-! ### names of the builtins -/
theorem bt_len : bootBuiltins "len" = some (.builtin "len") := by decide +kernel
theorem bt_abs : bootBuiltins "abs" = some (.builtin "abs") := by decide +kernel
theorem bt_max : bootBuiltins "max" = some (.builtin "max") := by decide +kernel
theorem bt_min : bootBuiltins "min" = some (.builtin "min") := by decide +kernel
theorem bt_all : bootBuiltins "all" = some (.builtin "all") := by decide +kernel
theorem bt_any : bootBuiltins "any" = some (.builtin "any") := by decide +kernel
theorem bt_sum : bootBuiltins "sum" = some (.builtin "sum") := by decide +kernel
theorem bt_isinstance : bootBuiltins "isinstance" = some (.builtin "isinstance") := by decide +kernel
theorem bt_sorted : bootBuiltins "sorted" = some (.builtin "sorted") := by decide +kernel
theorem bt_list : bootBuiltins "list" = some (.type "list") := by decide +kernel
theorem bt_tuple : bootBuiltins "tuple" = some (.type "tuple") := by decide +kernel
theorem bt_int : bootBuiltins "int" = some (.type "int") := by decide +kernel
theorem bt_bool : bootBuiltins "bool" = some (.type "bool") := by decide +kernel
theorem bt_str : bootBuiltins "str" = some (.type "str") := by decide +kernel
theorem bt_range : bootBuiltins "range" = some (.type "range") := by decide +kernel
theorem bt_zip : bootBuiltins "zip" = some (.type "zip") := by decide +kernel
theorem bt_enumerate : bootBuiltins "enumerate" = some (.type "enumerate") := by decide +kernel
theorem bt_set : bootBuiltins "set" = some (.type "set") := by decide +kernel
theorem bt_dict : bootBuiltins "dict" = some (.type "dict") := by decide +kernel
/-! ### the law's own end -/
def spLaw (K : PySem.W.Frag) (mg : Str → Option Value) (F : List D → Res D) : Sp := spD K mg 1 F
end
end PD
namespace PD
open PySem L2
theorem dvs_ints {K : PySem.W.Frag} {S : Hp} : ∀ ns : List Int, DVs K S (ns.map V.int) (ns.map PyData.int)
  | [] => trivial
  | _ :: ns => ⟨rfl, dvs_ints ns⟩
theorem script_at {K : PySem.W.Frag} {H : Hp} {h : Heap} {a : Addr} {xs : List V} {vs : List Value} (KX : K.In h) (ho : h.get? a = some { cls := .type "list", data := .seq vs.toArray }) (hS : SqL K H a xs) : LsAt K H a xs := by
  rcases hS with h1 | ⟨o, its, n, hk, _, _, hd, hz, r⟩
  · exact .inl h1
  · have e := KX a o hk
    rw [ho] at e
    have e := Option.some.inj e
    subst e
    injection hd with e1 _
    subst e1
    exact .inr ⟨vs, 0, hk, by simpa using hz, by simpa using r⟩
/-- a law whose def computes F: True at every script -/
theorem walkD {l : PySem.W.OpenLaw} {k : Nat} {q : Program} {loose : List Str} {XP : (Str → Option Value) → Heap → Prop} {YP : World → Heap → Prop} {d : DefRec} {K : Params → PySem.W.Frag} {F : List D → Res D} (hn : l.most = some 63) (hdf : d.params.defaults = []) (hr : Room k callerA)
    (hY : ∀ (w : World) (h : Heap), YP w h → (K w.params).In h)
    (hF : ∀ (w : World) (mg : Str → Option Value) (fa : Addr) (h : Heap), (K w.params).In h → h.Ns mainGlobals mg → mg d.name = some (.ref fa) → ∃ fd : FuncData, (∀ (s : Shared) (u : Value), BindsTo s fd ⟨[u], []⟩ [("script", u)]) ∧
      ∀ base : Heap, (K w.params).In base → base.Ns mainGlobals mg → FnOk l.prog w (K w.params) mg base (L2.CX l.prog w) k fa fd ["script"] (spD (K w.params) mg 1 F))
    (ht : ∀ ns : List Int, ns.length ≤ 63 → F [.list (ns.map PyData.int)] = .ok (.bool true)) : PySem.W.WalkO q loose XP YP l.row.toRowW d [] (fun f vs => PySem.call f vs) := by
  refine Att.attach_call hn hdf fun w s0 s1 mg mb fa o pm cd doc a vs ns G Y ho hd hcd hmg hobj hints hlen hg => ?_
  have KX := hY w _ Y
  obtain ⟨fd, hb, hG⟩ := hF w mg fa _ KX G.T.g hmg
  refine law_call KX G.T.g G.T.b G.T.builtins G.T.nolimit hg hobj hints (Nat.le_trans hlen (by decide)) hr hG hb (fun H hO hS => ?_) (fun H e s' c => ?_)
  · refine ⟨H, [.list (ns.map PyData.int)], Same.refl _, ⟨⟨a, ns.map V.int, rfl, script_at KX hobj hS, dvs_ints ns⟩, trivial⟩, rfl, ?_⟩
    rw [ht ns hlen]
    exact fun v S' H' _ dv => dv
  · obtain ⟨_, _, _, _, _, _, _, _, _, _, _, _, z⟩ := c
    exact z.elim
/-- a constant tuple of the written part -/
theorem dv_written {K : PySem.W.Frag} {S : Hp} {a : Addr} {o : Obj} {its : Array Value} {n : Nat} {vs : List V} {ds : List D} (hk : K.lookup a = some o) (hc : o.cls = .type "tuple") (hd : o.data = .seq its n) (hz : its.size ≤ sizeLine) (hv : Vals vs its.toList) (dv : DVs K S vs ds) (hkt : keyT ds = false := by rfl) : DV K S (.ref a) (.tuple ds) := ⟨a, vs, rfl, ⟨.inr ⟨o, its, n, hk, hc, hd, hz, hv⟩, fun z => by rw [hkt] at z; cases z⟩, dv⟩
end PD
namespace PD
open PySem L2
theorem hV {k : Nat} {A : Around} (r : Room k A) : A.units + 70 < cLine := by have := r.un; omega
/-! ### data in order: x < y, min, sorted -/
def allAl (ds : List D) : Bool := ds.all fun x => ds.all fun y => PySem.W.alike x y
def noNone (ds : List D) : Bool := ds.all fun x => !isNone x
def ordOk (ds : List D) : Bool := allAl ds && noNone ds && SeqAt.shaped (.list ds)
theorem allAl_iff {ds : List D} : allAl ds = true ↔ ∀ x ∈ ds, ∀ y ∈ ds, PySem.W.alike x y = true := by
  unfold allAl
  simp only [List.all_eq_true]
theorem noNone_ne {ds : List D} (h : noNone ds = true) : ∀ x ∈ ds, x ≠ PyData.none := fun x hx e => by
  unfold noNone at h
  have := List.all_eq_true.mp h x hx
  subst e
  cases this
def rMinD (K : PySem.W.Frag) : List V → Hp → VK → Prop := fun vs H Q => ∃ (a : Addr) (xs : List V) (d : D) (ds : List D), vs = [.ref a] ∧ SqL K H a xs ∧ DpAll K H xs (d :: ds) ∧ PySem.W.AlikeAll (d :: ds) ∧ PyData.depthAll (d :: ds) ≤ 63 ∧
  ∀ (i : Nat) (x : V), xs[i]? = some x → (d :: ds)[i]? = some (PySem.W.minD d ds) → Q x H
theorem minD_mem (d : D) : ∀ ds : List D, PySem.W.minD d ds ∈ d :: ds := by
  intro ds
  unfold PySem.W.minD
  induction ds generalizing d with
  | nil => exact List.mem_cons_self
  | cons e ds ih =>
    rw [List.foldl_cons]
    split
    · exact List.mem_cons_of_mem _ (ih e)
    · rcases List.mem_cons.mp (ih d) with q | q
      · rw [q]; exact List.mem_cons_self
      · exact List.mem_cons_of_mem _ (List.mem_cons_of_mem _ q)
theorem vals_back' : ∀ {xs : List V} {us : List Value} {i : Nat} {u : Value}, Vals xs us → us[i]? = some u → ∃ x, xs[i]? = some x ∧ RelV x u := fun {xs us i u} r e => by
  have hl := r.length
  have hi : i < us.length := by
    rcases Nat.lt_or_ge i us.length with h | h
    · exact h
    · rw [List.getElem?_eq_none h] at e; cases e
  have hx : xs[i]? = some xs[i] := List.getElem?_eq_getElem (by omega)
  obtain ⟨u', e', rv⟩ := r.get hx
  rw [e] at e'
  cases e'
  exact ⟨_, hx, rv⟩
section
variable {K : PySem.W.Frag} {mg : Str → Option Value} {X : Cx} {E : XK}
theorem c_minD (hc : X.calm = true) (hu : X.A.units + 70 < cLine) (hK : X.K = K := by rfl) : CallR X (.builtin "min") (rMinD K) := by
  subst hK
  intro pins s σ H vs us Q I r h
  obtain ⟨a, xs, d, ds, rfl, hs, hd, ha, hz, q⟩ := h
  obtain ⟨its, rv, hl, _⟩ := I.list hs
  rw [Vals.ref1 r]
  obtain ⟨as, hr⟩ := Dp.readsAll I (d :: ds) xs its hd rv
  have hr' : PySem.ReadsAll s.heap its.toArray.toList (d :: ds) as := by simpa using hr
  refine PySem.W.min_list_data (I.ok.hd hc) hl.isList hr' ha (by omega) fun i v h' tk bs hv hrd hk => ?_
  have hv' : its[i]? = some v := by simpa using hv
  obtain ⟨x, hx, rvx⟩ := vals_back' rv hv'
  obtain ⟨cs, hrd2, hi, hm, _⟩ := PySem.W.readsAll_atA hr' i v hv
  have e : (d :: ds).getD i .none = PySem.W.minD d ds := PySem.W.alike_unique _ _ v _ _ (ha.1 _ hm _ (minD_mem d ds)) (PySem.W.reads_keeps hk hrd2) hrd
  refine ⟨x, H, I.kept hk, rvx, q i x hx ?_⟩
  rw [← e, List.getD_eq_getElem?_getD, List.getElem?_eq_getElem hi]
  rfl
def gMinD : List D → Res D
  | [.list (d :: ds)] => if ordOk (d :: ds) = true then .ok (PySem.W.minD d ds) else .bad
  | _ => .bad
theorem ord_parts {ds : List D} (h : ordOk ds = true) : PySem.W.AlikeAll ds ∧ PyData.canLayAll0 ds = true ∧ PyData.depthAll ds ≤ 63 := by
  unfold ordOk at h
  obtain ⟨h, h3⟩ := and_split h
  obtain ⟨h1, h2⟩ := and_split h
  refine ⟨⟨allAl_iff.mp h1, noNone_ne h2⟩, ?_⟩
  have h4 : (PyData.canLayAll0 ds && decide (PyData.depthAll ds + 1 ≤ 64)) = true := h3
  obtain ⟨h5, h6⟩ := and_split h4
  exact ⟨h5, by have := of_decide_eq_true h6; omega⟩
theorem cs_minD : CaS K mg E (rMinD K) gMinD := fun S H xs ds Q sh dv h => by
  unfold gMinD at h
  split at h
  · rename_i d es
    obtain ⟨v, rfl, hv⟩ := dvs1 dv
    rw [DV] at hv
    obtain ⟨a, us, rfl, h1, h2⟩ := hv
    split at h
    · rename_i ho
      obtain ⟨o1, o2, o3⟩ := ord_parts ho
      refine ⟨a, us, d, es, rfl, ls_sq (ls_mono sh h1), DVs.dp sh _ _ o2 h2, o1, o3, fun i x hx hd => ?_⟩
      obtain ⟨w, hw, dw⟩ := h2.get hd
      rw [hx] at hw
      cases hw
      exact h.ok0 sh dw
    · exact h.elim
  · exact h.elim
/-! sorted -/
def sortOk (ds : List D) : Bool := ordOk ds && ((ds.all fun d => match d with | .tuple (_ :: _) => true | _ => false) || (ds.all fun d => match d with | .tuple _ => false | _ => true)) && lenOk ds.length
def rSortD (K : PySem.W.Frag) : List V → Hp → VK → Prop := fun vs H Q => ∃ (a : Addr) (xs : List V) (ds : List D), vs = [.ref a] ∧ SqL K H a xs ∧ DpAll K H xs ds ∧ sortOk ds = true ∧
  ∀ p, H p = none → Q (.ref p) (upd H p (.lst (((xs.zip ds).mergeSort (PySem.W.dataLe false Prod.snd)).map Prod.fst)))
theorem sort_parts {ds : List D} (h : sortOk ds = true) : ordOk ds = true ∧ PySem.W.Sortable ds ∧ ds.length ≤ 1000000 := by
  unfold sortOk at h
  obtain ⟨h, h3⟩ := and_split h
  obtain ⟨h1, h2⟩ := and_split h
  refine ⟨h1, ?_, of_decide_eq_true h3⟩
  obtain ⟨o, _⟩ := ord_parts h1
  rw [Bool.or_eq_true] at h2
  rcases h2 with h2 | h2
  · refine .inl fun d hd => ?_
    have := List.all_eq_true.mp h2 d hd
    match d, this with
    | .tuple (x :: r), _ => exact ⟨x, r, rfl⟩
  · refine .inr fun d hd => ⟨o.2 d hd, fun xs e => ?_⟩
    have := List.all_eq_true.mp h2 d hd
    subst e
    cases this
theorem zip_snd : ∀ {α β : Type} {xs : List α} {ys : List β}, xs.length = ys.length → (xs.zip ys).map Prod.snd = ys
  | _, _, [], [], _ => rfl
  | _, _, x :: xs, y :: ys, h => by
    show y :: (xs.zip ys).map Prod.snd = _
    rw [zip_snd (by simpa using h)]
theorem dpAll_len {H : Hp} : ∀ {xs : List V} {ds : List D}, DpAll K H xs ds → xs.length = ds.length
  | _, _, .nil => rfl
  | _, _, .cons _ h => congrArg (· + 1) (dpAll_len h)
theorem each_zip {R : Value → V × D → Prop} : ∀ {xs : List V} {us : List Value} {ds : List D}, Vals xs us → xs.length = ds.length → (∀ u x d, RelV x u → (x, d) ∈ xs.zip ds → R u (x, d)) → PySem.W.EachIs R us (xs.zip ds)
  | [], us, ds, r, hl, _ => by
    rw [Vals.zero r]
    cases ds with
    | nil => exact .nil
    | cons _ _ => cases hl
  | x :: xs, us, ds, r, hl, h => by
    cases us with
    | nil => exact absurd r.length (by simp)
    | cons u us =>
      cases ds with
      | nil => cases hl
      | cons d ds =>
        obtain ⟨r1, r2⟩ : RelV x u ∧ Vals xs us := by cases r with | cons a b => exact ⟨a, b⟩
        exact .cons (h u x d r1 List.mem_cons_self) (each_zip (ds := ds) r2 (by simpa using hl) fun u' x' d' rv hm => h u' x' d' rv (List.mem_cons_of_mem _ hm))
theorem dp_zip {H : Hp} : ∀ {xs : List V} {ds : List D}, DpAll K H xs ds → ∀ {x : V} {d : D}, (x, d) ∈ xs.zip ds → Dp K H x d
  | _, _, .nil, _, _, h => absurd h List.not_mem_nil
  | _, _, .cons h1 h2, x, d, h => by
    rcases List.mem_cons.mp h with e | e
    · cases e; exact h1
    · exact dp_zip h2 e
theorem vals_each : ∀ {bs : List (V × D)} {out : List Value}, PySem.W.EachIs (fun u (b : V × D) => RelV b.1 u) out bs → Vals (bs.map Prod.fst) out
  | _, _, .nil => .nil
  | _, _, .cons h1 h2 => .cons h1 (vals_each h2)
theorem depth_mem : ∀ {ds : List D} {d : D}, d ∈ ds → d.depth ≤ PyData.depthAll ds
  | [], _, h => absurd h List.not_mem_nil
  | e :: ds, d, h => by
    show d.depth ≤ max e.depth (PyData.depthAll ds)
    rcases List.mem_cons.mp h with q | q
    · rw [q]; omega
    · have := depth_mem q; omega
theorem c_sortD (hu : X.A.units + 70 < cLine) (hK : X.K = K := by rfl) : CallR X (.builtin "sorted") (rSortD K) := by
  subst hK
  intro pins s σ H vs us Q I r h
  obtain ⟨a, xs, ds, rfl, hs, hd, ho, q⟩ := h
  obtain ⟨its, rv, hl, hzl⟩ := I.list hs
  rw [Vals.ref1 r]
  have hlen := dpAll_len hd
  obtain ⟨o1, o2, o3⟩ := sort_parts ho
  obtain ⟨p1, p2, p3⟩ := ord_parts o1
  have hz := zip_snd hlen
  have hzn : (xs.zip ds).length = xs.length := by rw [List.length_zip]; omega
  have e : PySem.W.EachIs (fun u (b : V × D) => RelV b.1 u) its (xs.zip ds) := each_zip rv hlen fun u x d h _ => h
  have er : PySem.W.EachIs (fun u (b : V × D) => ∃ as, Reads s.heap u (Prod.snd b) as) its (xs.zip ds) := each_zip rv hlen fun u x d h hm => Dp.reads I d x u (dp_zip hd hm) h
  refine PySem.W.sorted_data (enc := Prod.snd) (R := fun u (b : V × D) => RelV b.1 u) hl.isList e er (by rw [hz]; exact p1.1) (by rw [hz]; exact o2) (by rw [hzn]; exact hzl) (fun b hb => ?_) fun out hol eo => ?_
  · have hb2 : b.2 ∈ ds := by rw [← hz]; exact List.mem_map_of_mem hb
    have := depth_mem hb2
    omega
  · obtain ⟨ep, he'⟩ := PyProof.Rows.sortedAll_at s.heap its out.toArray
    have hv := vals_each eo
    have hle : (((xs.zip ds).mergeSort (PySem.W.dataLe false Prod.snd)).map Prod.fst).length ≤ sizeLine := by rw [List.length_map, List.length_mergeSort, hzn]; exact hzl
    exact ⟨.ref _, upd H (s.heap.objs.size + 1) (.lst _), I.laid (t' := s.toks) (fun _ _ => PyProof.Rows.sortedAll_old) (Nat.le_succ _) ⟨hle, out, ep, hv, by simpa using he'⟩, rfl, q _ (I.hok.fresh (Nat.le_succ _))⟩
def gSortD : List D → Res D
  | [.list ds] => if sortOk ds = true then .ok (.list (ds.mergeSort (PySem.W.dataLe false id))) else .bad
  | _ => .bad
theorem dvs_len {S : Hp} : ∀ {vs : List V} {ds : List D}, DVs K S vs ds → vs.length = ds.length
  | [], [], _ => rfl
  | _ :: vs, _ :: ds, h => congrArg (· + 1) (dvs_len (vs := vs) (ds := ds) h.2)
  | [], _ :: _, h => h.elim
  | _ :: _, [], h => h.elim
theorem dvs_zip {S : Hp} : ∀ {vs : List V} {ds : List D}, DVs K S vs ds → ∀ b ∈ vs.zip ds, DV K S b.1 b.2
  | [], [], _, _, h => absurd h List.not_mem_nil
  | v :: vs, d :: ds, h, b, hb => by
    rcases List.mem_cons.mp hb with e | e
    · rw [e]; exact h.1
    · exact dvs_zip (vs := vs) (ds := ds) h.2 b e
  | [], _ :: _, h, _, _ => h.elim
  | _ :: _, [], h, _, _ => h.elim
theorem dvs_unzip {S : Hp} : ∀ {bs : List (V × D)}, (∀ b ∈ bs, DV K S b.1 b.2) → DVs K S (bs.map Prod.fst) (bs.map Prod.snd)
  | [], _ => trivial
  | b :: bs, h => ⟨h b List.mem_cons_self, dvs_unzip fun c hc => h c (List.mem_cons_of_mem _ hc)⟩
theorem cs_sortD : CaS K mg E (rSortD K) gSortD := fun S H xs ds Q sh dv h => by
  unfold gSortD at h
  split at h
  · rename_i es
    obtain ⟨v, rfl, hv⟩ := dvs1 dv
    rw [DV] at hv
    obtain ⟨a, us, rfl, h1, h2⟩ := hv
    split at h
    · rename_i ho
      obtain ⟨o1, _, _⟩ := sort_parts ho
      obtain ⟨_, p2, _⟩ := ord_parts o1
      have hl := dvs_len h2
      have em : ((us.zip es).mergeSort (PySem.W.dataLe false Prod.snd)).map Prod.snd = es.mergeSort (PySem.W.dataLe false id) := by
        rw [List.map_mergeSort (r := PySem.W.dataLe false Prod.snd) (s := PySem.W.dataLe false id) (f := Prod.snd) (fun a _ b _ => rfl), zip_snd hl]
      refine ⟨a, us, es, rfl, ls_sq (ls_mono sh h1), DVs.dp sh _ _ p2 h2, ho, fun p hp => ?_⟩
      rw [← em] at h
      exact new_lst sh (dvs_unzip fun b hb => dvs_zip h2 b (List.mem_mergeSort.mp hb)) h hp
    · exact h.elim
  · exact h.elim
/-! x < y -/
def rLtD (K : PySem.W.Frag) : R2 := fun x y H Q => ∃ d e, Dp K H x d ∧ Dp K H y e ∧ SeqAt.shaped d = true ∧ SeqAt.shaped e = true ∧ PySem.W.alike d e = true ∧ d ≠ .none ∧ Q (.bl (PySem.W.dataLt d e)) H
theorem op_ltD (hu : X.A.units + 70 < cLine) (hK : X.K = K := by rfl) : OpR X (compareOp .Lt) (rLtD K) := by
  subst hK
  intro pins s σ H x y v u Q I rx ry h
  obtain ⟨d, e, hd, he, sd, se, al, hn, q⟩ := h
  obtain ⟨as, r1⟩ := Dp.reads I d x v hd rx
  obtain ⟨bs, r2⟩ := Dp.reads I e y u he ry
  have hdp : d.depth ≤ 64 := by
    unfold SeqAt.shaped at sd
    exact of_decide_eq_true (and_split sd).2
  have := Nat.min_le_left d.depth e.depth
  exact PySem.W.rcLt_alike d e X.A s v u as bs r1 r2 al hn (by omega) _ _ _ _ ⟨.bl _, H, I, rfl, q⟩
def gLtD (a b : D) : Res D := if (SeqAt.shaped a && SeqAt.shaped b && PySem.W.alike a b && !isNone a) = true then .ok (.bool (PySem.W.dataLt a b)) else .bad
theorem os_ltD : OpS K mg E (rLtD K) gLtD := fun S H x y a b Q sh dx dy h => by
  unfold gLtD at h
  split at h
  · rename_i c
    obtain ⟨c, c4⟩ := and_split c
    obtain ⟨c, c3⟩ := and_split c
    obtain ⟨c1, c2⟩ := and_split c
    exact ⟨a, b, dp_of sh c1 dx, dp_of sh c2 dy, c1, c2, c3, (fun e => by subst e; cases c4), h.ok0 sh rfl⟩
  · exact h.elim
end
end PD
namespace PD
open PySem L2
theorem foldl_repA (its : List Value) : ∀ (m : Nat) (acc : List Value), List.foldl (fun (x1 x2 : Array Value) => x1 ++ x2) acc.toArray (List.replicate m its.toArray) = (acc ++ (List.replicate m its).flatten).toArray
  | 0, acc => by simp
  | m + 1, acc => by
    rw [List.replicate_succ, List.foldl_cons, List.replicate_succ, List.flatten_cons]
    have e : acc.toArray ++ its.toArray = (acc ++ its).toArray := by simp
    rw [e, foldl_repA its m, List.append_assoc]
section
variable {K : PySem.W.Frag} {mg : Str → Option Value} {X : Cx} {E : XK} {e o : Expr} {te to : TE} {f fo : DEnv → Res D} {pos : Pos}
/-! ### xs * n, of lists and tuples -/
def rRepL (K : PySem.W.Frag) : R2 := fun x y H Q => ∃ l k xs, x = .ref l ∧ y = .int k ∧ LsAt K H l xs ∧ 0 ≤ k ∧ k ≤ 1000 ∧ xs.length ≤ 1000 ∧ ∀ p, H p = none → Q (.ref p) (upd H p (.lst (List.replicate k.toNat xs).flatten))
theorem op_repL : OpR X (binaryOp .Mult) (rRepL X.K) := by
  intro pins s σ H x y v u Q I rx ry h
  obtain ⟨l, k, xs, rfl, rfl, hH, h1, h2, hz, q⟩ := h
  cases rx
  obtain ⟨t, rfl⟩ := ry
  obtain ⟨its, n, r, hl, e⟩ := rd_lst I hH
  have hb : xs.length * k.toNat ≤ 1000000 := by
    have : xs.length * k.toNat ≤ 1000 * 1000 := Nat.mul_le_mul hz (by omega)
    omega
  have hlen : its.toArray.size * k.toNat ≤ sizeLine := by rw [List.size_toArray, ← hl, sizeLine_eq]; omega
  have hcap : ¬ its.toArray.size * k.toNat > (2 ^ 63 - 1) / 8 := by
    have : (sizeLine : Nat) ≤ (2 ^ 63 - 1) / 8 := by decide
    omega
  have hfit : ¬ (!Builtin.List.listFitsIndex k) = true := by
    rw [fitsIndex_both (by omega) (by omega)]
    exact Bool.false_ne_true
  have hlong : ¬ Builtin.List.listTooLong (its.toArray.size * k.toNat) = true := by
    rw [notLongL hlen]
    exact Bool.false_ne_true
  have hnew : List.foldl (fun x1 x2 => x1 ++ x2) #[] (List.replicate (if its.toArray.isEmpty = true then 0 else k.toNat) its.toArray) = (List.replicate k.toNat its).flatten.toArray := by
    have f0 : ∀ m : Nat, List.foldl (fun x1 x2 => x1 ++ x2) #[] (List.replicate m its.toArray) = (List.replicate m its).flatten.toArray := fun m => by
      have := foldl_repA its m []
      rw [List.nil_append] at this
      exact this
    rw [f0]
    cases its with
    | nil => simp
    | cons a r' => rw [if_neg (by simp)]
  refine wpAny_binaryOp_repeat_ref (T := "list") (U := "int") (by decide) ⟨_, e, rfl⟩ (fun s' => typeIs_int s' k t) noFill_list_mul F.fills_int_mul F.slot_int_rmul repeat_list F.slot_int_index.lookup
    (call_meets F.slot_int_rmul (typeIs_int s k t) F.entry_int_rmul (F.args_int_rmul_2 _ _) (int___rmul___int_list k t l its.toArray n)
      ⟨e, rfl, ⟨_, e, rfl⟩, call_meets F.slot_list_mul ⟨_, e, rfl⟩ F.entry_list_mul (F.args_list_mul_2 _ _) (AutoListH.list___mul___list_int_3 l its.toArray n k t hfit hcap hlong) ⟨e, ?_⟩⟩)
  rw [hnew]
  exact ⟨.ref _, _, I.lnew (t' := s.toks) (r.rep k.toNat) (by rw [PyProof.Rows.lm_len_rep_flat, Nat.mul_comm, sizeLine_eq]; omega), rfl, q _ I.fresh⟩
theorem DVs.rep {K : PySem.W.Frag} {S : Hp} {vs : List V} {ds : List D} (h : DVs K S vs ds) : ∀ n : Nat, DVs K S (List.replicate n vs).flatten (List.replicate n ds).flatten
  | 0 => trivial
  | n + 1 => by
    rw [List.replicate_succ, List.replicate_succ, List.flatten_cons, List.flatten_cons]
    exact h.append (DVs.rep h n)
def rRepA (K : PySem.W.Frag) : R2 := fun x y H Q => rRepL K x y H Q ∨ rRepT K x y H Q
theorem op_repA (hK : X.K = K := by rfl) : OpR X (binaryOp .Mult) (rRepA K) := by subst hK; exact op_repL.or op_repT
def gRep : D → D → Res D
  | .list xs, .int k => if (decide (0 ≤ k) && decide (k ≤ 1000) && decide (xs.length ≤ 1000)) = true then .ok (.list (List.replicate k.toNat xs).flatten) else .bad
  | .tuple xs, .int k => if (decide (2 ≤ k) && decide (k ≤ 1000) && decide (xs.length ≤ 1000) && decide (xs.length ≠ 0)) = true then .ok (.tuple (List.replicate k.toNat xs).flatten) else .bad
  | _, _ => .bad
theorem os_rep : OpS K mg E (rRepA K) gRep := fun S H x y a b Q sh dx dy h => by
  unfold gRep at h
  split at h
  · rename_i xs k
    split at h
    · rename_i c
      simp only [Bool.and_eq_true, decide_eq_true_eq] at c
      rw [DV] at dx
      obtain ⟨p, us, rfl, h1, h2⟩ := dx
      exact .inl ⟨p, k, us, rfl, dy, ls_mono sh h1, c.1.1, c.1.2, by rw [h2.length]; exact c.2, fun n hn => new_lst sh (h2.rep _) h hn⟩
    · exact h.elim
  · rename_i xs k
    split at h
    · rename_i c
      simp only [Bool.and_eq_true, decide_eq_true_eq] at c
      rw [DV] at dx
      obtain ⟨p, us, rfl, h1, h2⟩ := dx
      refine .inr ⟨p, k, us, rfl, dy, same_t sh h1.1, fun e => ?_, c.1.1.1, c.1.1.2, by rw [h2.length]; exact c.1.2, fun n hn => new_tup sh (h2.rep _) h hn⟩
      have := h2.length
      rw [e] at this
      exact c.2 this.symm
    · exact h.elim
  · exact h.elim
/-! ### str(int) -/
def strOk (i : Int) : Bool := decide (-1000000000000 ≤ i) && decide (i ≤ 1000000000000)
def gStr : List D → Res D
  | [.int i] => if strOk i = true then .ok (.str (toString i)) else .bad
  | _ => .bad
theorem cs_str : CaS K mg E (fun xs H Q => ∃ i, xs = [.int i] ∧ i.natAbs.log2 < 1920 ∧ Q (.str (toString i)) H) gStr := fun S H xs ds Q sh dv h => by
  unfold gStr at h
  split at h
  · rename_i i
    split at h
    · rename_i hz
      obtain ⟨v, rfl, hv⟩ := dvs1 dv
      cases hv
      refine ⟨_, rfl, ?_, h.ok0 sh rfl⟩
      simp only [strOk, Bool.and_eq_true, decide_eq_true_eq] at hz
      have hb : i.natAbs < 2 ^ 64 := by omega
      by_cases h0 : i.natAbs = 0
      · rw [h0]; decide
      · exact Nat.lt_trans ((Nat.log2_lt h0).mpr hb) (by decide)
    · exact h.elim
  · exact h.elim
/-! ### xs.index(y), xs a list -/
def idxD (ds : List D) (d : D) : Option Nat := ds.findIdx? fun z => PyData.eqv z d
def gIndex (ds : List D) (b : D) : Res D := if (SeqAt.shaped (.list ds) && SeqAt.shaped b) = true then (match idxD ds b with
    | some j => .ok (.int (j : Nat))
    | none => .bad) else .bad
/-- a method of a list with one argument -/
def fLM (g : List D → D → Res D) (fo f : DEnv → Res D) : DEnv → Res D := fun ρ => ((fo ρ).bind asList).bind fun ds => (f ρ).bind fun b => g ds b
theorem pd_index {apos : Pos} (hu : X.A.units + 65 < cLine) (ho : PD K mg X E o to fo) (he : PD K mg X E e te f)
    (hbase : attributeBase o "index" X.env (eval o X.env) = eval o X.env := by rfl)
    (hfew : ((backTo pos (starEach [e] X.env)).all (fun x => !x.1) && (backToKw pos (keywordEach [] X.env)).all (fun x => x.1.isSome) && decide ([e].length + ([] : List Keyword).length + (if ([] : List Keyword).isEmpty then 0 else 1) < 30)) = true := by rfl)
    (hline : (apos.endLine == pos.line) = true := by rfl) (hs : starEach [e] X.env = (false, eval e X.env) :: starEach [] X.env := by rfl) (hplain : (backTo pos (starEach [] X.env)).any (·.1) = false := by rfl) (hK : X.K = K := by rfl) :
    PD K mg X E (.Call (.Attribute o "index" apos) [e] [] pos) (tBM K "list" (rIndexD K) to (tCons te tNil)) (fLM gIndex fo f) :=
  ⟨hK ▸ pe_bm PySem.F.plainAttrs_list PySem.F.slot_list_index PySem.F.type_list_index (mt_indexD hu) ho.pe (pa_cons he.pe pa_nil hs) hbase hfew hline hs hplain, fun S H σ ρ Q rl h => by
    have h : PostG mg E S H (DV K) ((fo ρ).bind fun d => (asList d).bind fun ds => (f ρ).bind fun b => gIndex ds b) Q := by
      unfold fLM at h
      cases eo : fo ρ <;> (rw [eo] at h; exact h)
    refine ho.sd S H σ ρ _ rl (h.bind fun d v S1 H1 x1 d1 h1 => ?_)
    cases d with
    | list ds =>
      have d1' := d1
      rw [DV] at d1
      obtain ⟨a, us, rfl, g1, g2⟩ := d1
      refine ⟨.inl ⟨rfl, us, ls_sq (ls_mono x1.sh g1)⟩, ?_⟩
      have h1 : PostG mg E S1 H1 (DV K) ((f ρ).bind fun b => gIndex ds b) Q := h1
      refine he.sd S1 H1 σ ρ _ (rl.mono x1) (h1.bind fun b w S2 H2 x2 d2 h2 => ?_)
      unfold gIndex at h2
      split at h2
      · rename_i c
        obtain ⟨c1, c2⟩ := and_split c
        cases ej : idxD ds b with
        | none => rw [ej] at h2; exact h2.elim
        | some j =>
          rw [ej] at h2
          obtain ⟨hj, e1, e2⟩ := List.findIdx?_eq_some_iff_getElem.mp ej
          refine ⟨a, w, b, ds, j, ds[j], rfl, rfl, dp_of x2.sh c1 (d1'.mono x2.s), dp_of x2.sh c2 d2, c1, c2, List.getElem?_eq_getElem hj, e1, fun m z' hm em => ?_, h2.ok0 x2.sh rfl⟩
          have hml : m < ds.length := by omega
          rw [List.getElem?_eq_getElem hml] at em
          have em := Option.some.inj em
          rw [← em]
          have := e2 m hm
          simpa using this
      · exact h2.elim
    | _ => exact h1.elim⟩
end
end PD
namespace PD
open PySem L2
theorem PostG.unstrict {α W : Type} {mg : Str → Option Value} {E E' : XK} {S H : Hp} {R : Hp → W → α → Prop} {r : Res α} {Q : W → Hp → Prop} (h : PostG mg E S H R r.strict Q) : PostG mg E' S H R r Q := by
  cases r with
  | ok a => exact h
  | err c => exact h.elim
  | bad => exact h
def fSt {α : Type} (f : DEnv → Res α) : DEnv → Res α := fun ρ => (f ρ).strict
theorem hUs {k : Nat} {A : Around} {v : Option Value} (r : Room k A) : (A.mark v).units + 65 < cLine := by have h := hU r; exact h
/-! ### expressions in the body of a try: what a call raises goes to W -/
structure PDS (K : PySem.W.Frag) (mg : Str → Option Value) (X : Cx) (W : WX) (e : Expr) (t : TE) (f : DEnv → Res D) : Prop where
  pe : PE X e t
  sd : ∀ (S H : Hp) (σ : L2.St) (ρ : DEnv) (Q : VK), RelE K S H σ ρ → PostG mg (WE W σ) S H (DV K) (f ρ) Q → t σ H Q
structure ADS (K : PySem.W.Frag) (mg : Str → Option Value) (X : Cx) (W : WX) (es : List Expr) (t : TA) (f : DEnv → Res (List D)) : Prop where
  pe : PA X es t
  sd : ∀ (S H : Hp) (σ : L2.St) (ρ : DEnv) (Q : List V → Hp → Prop), RelE K S H σ ρ → PostG mg (WE W σ) S H (DVs K) (f ρ) Q → t σ H Q
section
variable {K : PySem.W.Frag} {mg : Str → Option Value} {X : Cx} {W : WX} {e : Expr} {es : List Expr} {te : TE} {t : TA} {f : DEnv → Res D} {g : DEnv → Res (List D)} {pos : Pos}
theorem pds_of (h : PD K mg X E0 e te f) : PDS K mg X W e te (fSt f) := ⟨h.pe, fun S H σ ρ Q rl q => h.sd S H σ ρ Q rl (PostG.unstrict q)⟩
theorem ads_of (h : AD K mg X E0 es t g) : ADS K mg X W es t (fSt g) := ⟨h.pe, fun S H σ ρ Q rl q => h.sd S H σ ρ Q rl (PostG.unstrict q)⟩
theorem ads_one (ha : PDS K mg X W e te f) (hs : starEach [e] X.env = (false, eval e X.env) :: starEach [] X.env := by rfl) : ADS K mg X W [e] (tCons te tNil) (fCons f fNil) := ⟨pa_cons ha.pe pa_nil hs, fun S H σ ρ Q rl h => by
  refine ha.sd S H σ ρ _ rl (h.bind fun x v S1 H1 x1 d1 h1 => ?_)
  exact h1.ok0 x1.sh ⟨d1, trivial⟩⟩
theorem pds_call {n k : Nat} {fa : Addr} {fd : FuncData} {ps : List Str} {F : List D → Res D} {x : Str} {p : Pos} (G : FnOk X.prog X.w X.K X.mg X.base (L2.CX X.prog X.w) k fa fd ps (spD K mg n F)) (hr : Room k X.A) (hg : Gl X x) (hm : X.mg x = some (.ref fa)) (hk : PySem.W.keepIn X.K (.ref fa) = true)
    (hb : Binds X.K fd ps []) (tk : Takes X W) (ha : ADS K mg X W (e :: es) t g) (hdb : (x == ("__debug__" : Str)) = false := by decide) (he : starEach (e :: es) X.env = (false, eval e X.env) :: starEach es X.env := by rfl)
    (hpl : (backTo pos (starEach es X.env)).any (·.1) = false := by rfl) : PDS K mg X W (.Call (.Name x p) (e :: es) [] pos) (tCallS (spD K mg n F) (WE W) t) (fCall n F g) :=
  ⟨pe_callS G hr hg hm hk hb (fun σ => passAt tk σ) ha.pe hdb he hpl, fun S H σ ρ Q rl h => by
    refine ha.sd S H σ ρ _ rl (h.bind fun ds vs S1 H1 x1 d1 h1 => ?_)
    split at h1
    · rename_i hn
      exact ⟨S1, ds, x1.sh, d1, by rw [d1.length]; exact hn, h1⟩
    · exact h1.elim⟩
/-- [f, g, ..][i](..) -/
structure FnIs (K : PySem.W.Frag) (mg : Str → Option Value) (X : Cx) (n : Nat) (fa : Addr) (F : List D → Res D) : Prop where
  ex : ∃ k fd ps, FnOk X.prog X.w X.K X.mg X.base (L2.CX X.prog X.w) k fa fd ps (spD K mg n F) ∧ Room k X.A ∧ PySem.W.keepIn X.K (.ref fa) = true ∧ Binds X.K fd ps []
theorem fn_is {n k : Nat} {fa : Addr} {F : List D → Res D} {fd : FuncData} {ps : List Str} (G : FnOk X.prog X.w X.K X.mg X.base (L2.CX X.prog X.w) k fa fd ps (spD K mg n F)) (hr : Room k X.A) (hk : PySem.W.keepIn X.K (.ref fa) = true) (hb : Binds X.K fd ps []) : FnIs K mg X n fa F := ⟨k, fd, ps, G, hr, hk, hb⟩
theorem nm_of {x : Str} {c : Value} (hg : Gl X x) (hm : X.mg x = some c) (hd : (x == ("__debug__" : Str)) = false := by decide) : Names X x c := ⟨hg, hd, .inl hm⟩
inductive FnsAre (K : PySem.W.Frag) (mg : Str → Option Value) (X : Cx) (n : Nat) : List Addr → List (List D → Res D) → Prop
  | nil : FnsAre K mg X n [] []
  | cons {fa : Addr} {F : List D → Res D} {as : List Addr} {Fs : List (List D → Res D)} : FnIs K mg X n fa F → FnsAre K mg X n as Fs → FnsAre K mg X n (fa :: as) (F :: Fs)
theorem FnsAre.get {n : Nat} {as : List Addr} {Fs : List (List D → Res D)} (h : FnsAre K mg X n as Fs) : ∀ {i : Nat} {F : List D → Res D}, Fs[i]? = some F → ∃ fa, as[i]? = some fa ∧ FnIs K mg X n fa F := by
  induction h with
  | nil => intro i F e; simp at e
  | cons hf _ ih =>
    intro i F e
    cases i with
    | zero =>
      cases e
      exact ⟨_, rfl, hf⟩
    | succ i => exact ih e
def tVia (tf : TE) (S : Addr → Sp → Prop) (E : L2.St → XK) (t : TA) : TE := fun σ H Q => tf σ H fun v H1 => ∃ fa sp, v = .ref fa ∧ S fa sp ∧ t σ H1 fun vs H2 => sp vs H2 Q (E σ)
theorem pe_via {func : Expr} {tf : TE} {S : Addr → Sp → Prop} (hf : PE X func tf) (hS : ∀ fa sp, S fa sp → ∃ k fd ps, FnOk X.prog X.w X.K X.mg X.base (L2.CX X.prog X.w) k fa fd ps sp ∧ Room k X.A ∧ PySem.W.keepIn X.K (.ref fa) = true ∧ Binds X.K fd ps [])
    (tk : Takes X W) (ha : PA X (e :: es) t) (he : starEach (e :: es) X.env = (false, eval e X.env) :: starEach es X.env := by rfl) (hpl : (backTo pos (starEach es X.env)).any (·.1) = false := by rfl)
    (hev : eval (.Call func (e :: es) [] pos) X.env = (do callWith pos (← eval func X.env) [] (backTo pos (starEach (e :: es) X.env)) (backToKw pos (keywordEach [] X.env))) := by rfl) :
    PE X (.Call func (e :: es) [] pos) (tVia tf S (WE W) t) := by
  refine ⟨fun pins s σ H Q I h => ?_⟩
  refine PyProof.Rows.Call_ (thn (hf.run pins s σ H _ I h) fun v s1 ⟨x, H1, I1, r1, q1⟩ => ?_) hev
  obtain ⟨fa, sp, rfl, hs, q⟩ := q1
  cases r1
  obtain ⟨k, fd, ps, G, hr, hk, hb⟩ := hS fa sp hs
  refine PySem.W.callWith_K (h₀ := X.base) I.ok.mod.kin hk (thn (ha.run pos pins s1 σ H1 _ I1 q) fun us s2 ⟨vs, H2, I2, r, q2⟩ => ⟨I2.kIn, ?_⟩) he hpl
  exact run_fnS G hr hb (passAt tk σ) I2 r q2
def ixF (Fs : List (List D → Res D)) : D → Res (List D → Res D)
  | .int i => if 0 ≤ i then (match Fs[i.toNat]? with
    | some F => .ok F
    | none => .bad) else .bad
  | _ => .bad
def fVia (n : Nat) (Fs : List (List D → Res D)) (fi : DEnv → Res D) (g : DEnv → Res (List D)) : DEnv → Res D := fun ρ => (fi ρ).strict.bind fun i => (ixF Fs i).bind fun F => (g ρ).bind fun ds => if ds.length = n then F ds else .bad
/-- the names of defs, as a list's items -/
structure FA (X : Cx) (es : List Expr) (t : TA) (as : List Addr) : Prop where
  pa : PA X es t
  sd : ∀ (σ : L2.St) (H : Hp) (Q : List V → Hp → Prop), Q (as.map V.ref) H → t σ H Q
theorem fa_nil : FA X [] tNil [] := ⟨pa_nil, fun σ H Q h => h⟩
theorem fa_cons {x : Str} {fa : Addr} {as : List Addr} {p : Pos} (hm : X.mg x = some (.ref fa)) (h : FA X es t as) (hg : Gl X x := by rfl) (hd : (x == ("__debug__" : Str)) = false := by decide) (hs : starEach (.Name x p :: es) X.env = (false, eval (.Name x p) X.env) :: starEach es X.env := by rfl) :
    FA X (.Name x p :: es) (tCons (tC (.ref fa)) t) (fa :: as) := ⟨pa_cons (pe_glob hg hm rfl hd) h.pa hs, fun σ H Q q => h.sd σ H _ q⟩
theorem pds_via {n : Nat} {as : List Addr} {Fs : List (List D → Res D)} {ls : List Expr} {tl : TA} {b : Expr} {tb : TE} {fb : DEnv → Res D} {p1 p2 : Pos} (hl : FA X ls tl as) (hF : FnsAre K mg X n as Fs) (hb : PD K mg X E0 b tb fb) (tk : Takes X W) (ha : ADS K mg X W (e :: es) t g)
    (hz : as.length ≤ 100 := by simp) (hp : PlainIx b := by exact fun _ _ => rfl)
    (he : starEach (e :: es) X.env = (false, eval e X.env) :: starEach es X.env := by rfl) (hpl : (backTo pos (starEach es X.env)).any (·.1) = false := by rfl)
    (hev : eval (.Call (.Subscript (.List ls p1) b p2) (e :: es) [] pos) X.env = (do callWith pos (← eval (.Subscript (.List ls p1) b p2) X.env) [] (backTo pos (starEach (e :: es) X.env)) (backToKw pos (keywordEach [] X.env))) := by rfl) (hK : X.K = K := by rfl) :
    PDS K mg X W (.Call (.Subscript (.List ls p1) b p2) (e :: es) [] pos) (tVia (tOp (rIxL K) (tLst tl) tb) (fun fa sp => ∃ F, ∃ i : Nat, as[i]? = some fa ∧ Fs[i]? = some F ∧ sp = spD K mg n F) (WE W) t) (fVia n Fs fb g) := by
  subst hK
  refine ⟨pe_via (pe_ix ix_list (pe_lst hl.pa) hb.pe hp) (fun fa sp ⟨F, i, h1, h2, e⟩ => by
    subst e
    obtain ⟨fa', h3, h4⟩ := hF.get h2
    rw [h1] at h3
    cases h3
    exact h4.ex) tk ha.pe he hpl hev, fun S H σ ρ Q rl h => ?_⟩
  refine hl.sd σ H _ ⟨by rw [List.length_map, sizeLine_eq]; omega, fun p hn => ?_⟩
  have x0 : Ext S H S (upd H p (.lst (as.map V.ref))) := ⟨Same.refl _, same_upd hn, rl.sh.trans (same_upd hn), fun _ _ => rfl⟩
  refine hb.sd S _ σ ρ _ (rl.mono x0) (PostG.unstrict (PostG.bind (PostG.mono x0 h) fun d v S1 H1 x1 d1 h1 => ?_))
  unfold ixF at h1
  cases d with
  | int i =>
    dsimp only at h1
    split at h1
    · rename_i h0
      cases eF : Fs[i.toNat]? with
      | none => rw [eF] at h1; exact h1.elim
      | some F =>
        rw [eF] at h1
        have h1 : PostG mg (WE W σ) S1 H1 (DV X.K) ((g ρ).bind fun ds => if ds.length = n then F ds else .bad) Q := h1
        obtain ⟨fa, e1, e2⟩ := hF.get eF
        have hl2 : i.toNat < as.length := (List.getElem?_eq_some_iff.mp e1).1
        refine ⟨p, as.map V.ref, i, .ref fa, rfl, d1, SqL.of (x1.h _ _ upd_same), ?_, fa, spD X.K mg n F, rfl, ⟨F, i.toNat, e1, eF, rfl⟩, ?_⟩
        · unfold atI ixN
          rw [if_pos h0, if_pos (by rw [List.length_map]; omega)]
          show (as.map V.ref)[i.toNat]? = some (.ref fa)
          rw [List.getElem?_map, e1]
          rfl
        · refine ha.sd S1 H1 σ ρ _ ((rl.mono x0).mono x1) (h1.bind fun ds vs S2 H2 x2 d2 h2 => ?_)
          split at h2
          · rename_i hn2
            exact ⟨S2, ds, x2.sh, d2, by rw [d2.length]; exact hn2, h2⟩
          · exact h2.elim
    · exact h1.elim
  | _ => exact h1.elim
theorem pds_if {c a b : Expr} {tA : TT} {ta tb : TE} {gA : DEnv → Res Bool} {fa fb : DEnv → Res D} (hc : TD K mg X E0 c tA gA) (ha : PDS K mg X W a ta fa) (hb : PDS K mg X W b tb fb) : PDS K mg X W (.IfExp c a b pos) (tIf tA ta tb) (fIf (fSt gA) fa fb) :=
  ⟨pe_ifExp hc.pe ha.pe hb.pe, fun S H σ ρ Q rl h => hc.sd S H σ ρ _ rl (PostG.unstrict (PostG.bind h fun k w S1 H1 x1 e h1 => by
    cases e
    cases k with
    | true => exact ha.sd S1 H1 σ ρ Q (rl.mono x1) h1
    | false => exact hb.sd S1 H1 σ ρ Q (rl.mono x1) h1))⟩
/-! ### the body of a try: nothing is stored -/
def BPost (K : PySem.W.Frag) (mg : Str → Option Value) (W : WX) (σ : L2.St) (H : Hp) (r : Res (Option D)) (N : Ends) : Prop := match r with
  | .ok none => ∀ H', Same H H' → N.nx σ H'
  | .ok (some d) => ∀ v H', Same H H' → (∀ T, DV K T v d) → N.rt v H'
  | .err c => ∀ u H', mg c = some u → Same H H' → W u none σ H'
  | .bad => False
theorem BPost.mono {σ : L2.St} {H H1 : Hp} {r : Res (Option D)} {N : Ends} (h : BPost K mg W σ H r N) (x : Same H H1) : BPost K mg W σ H1 r N := by
  cases r with
  | ok o =>
    cases o with
    | none => exact fun H' e => h H' (x.trans e)
    | some d => exact fun v H' e q => h v H' (x.trans e) q
  | err c => exact fun u H' e q => h u H' e (x.trans q)
  | bad => exact h
structure BD (K : PySem.W.Frag) (mg : Str → Option Value) (X : Cx) (W : WX) (st : Stmt) (t : TS) (F : DEnv → Res (Option D)) : Prop where
  ps : PS X st t
  sd : ∀ (H : Hp) (σ : L2.St) (ρ : DEnv) (N : Ends), RelE K H H σ ρ → BPost K mg W σ H (F ρ) N → t N σ H
structure BDs (K : PySem.W.Frag) (mg : Str → Option Value) (X : Cx) (W : WX) (st : List Stmt) (t : TS) (F : DEnv → Res (Option D)) : Prop where
  ps : PSs X st t
  sd : ∀ (H : Hp) (σ : L2.St) (ρ : DEnv) (N : Ends), RelE K H H σ ρ → BPost K mg W σ H (F ρ) N → t N σ H
theorem RelE.up {H H1 : Hp} {σ : L2.St} {ρ : DEnv} (r : RelE K H H σ ρ) (x : Same H H1) : RelE K H1 H1 σ ρ := ⟨Same.refl _, r.len, fun i y e => let ⟨v, h1, h2⟩ := r.dt i y e; ⟨v, h1, h2.mono x⟩, r.rw⟩
theorem bds_one {st : Stmt} {ts : TS} {F : DEnv → Res (Option D)} (h : BD K mg X W st ts F) : BDs K mg X W [st] ts F := ⟨pss_one h.ps, h.sd⟩
theorem bds_nil : BDs K mg X W [] tNext (fun _ => .ok none) := ⟨pss_nil, fun H σ ρ N r h => h H (Same.refl _)⟩
def bSeq (F G : DEnv → Res (Option D)) : DEnv → Res (Option D) := fun ρ => (F ρ).bind fun o => match o with
  | none => G ρ
  | some d => .ok (some d)
theorem bds_cons {st : Stmt} {rest : List Stmt} {ts us : TS} {F G : DEnv → Res (Option D)} (h : BD K mg X W st ts F) (h2 : BDs K mg X W rest us G) : BDs K mg X W (st :: rest) (tSeq ts us) (bSeq F G) := ⟨pss_cons h.ps h2.ps, fun H σ ρ N r q => by
  refine h.sd H σ ρ _ r ?_
  unfold bSeq at q
  cases e1 : F ρ with
  | ok o =>
    rw [e1] at q
    cases o with
    | none => exact fun H' e => h2.sd H' σ ρ N (r.up e) (BPost.mono q e)
    | some d => exact q
  | err c => rw [e1] at q; exact q
  | bad => rw [e1] at q; exact q⟩
def bExpr (f : DEnv → Res D) : DEnv → Res (Option D) := fun ρ => (f ρ).bind fun _ => .ok none
def bRet (f : DEnv → Res D) : DEnv → Res (Option D) := fun ρ => (f ρ).bind fun d => if flatD d = true then .ok (some d) else .bad
def bIf (g : DEnv → Res Bool) (F G : DEnv → Res (Option D)) : DEnv → Res (Option D) := fun ρ => (g ρ).strict.bind fun b => if b = true then F ρ else G ρ
theorem bd_expr (he : PDS K mg X W e te f) (hs : swapsWith e none pos.line X.env = pure false := by rfl) : BD K mg X W (.Expr e pos) (tDrop te) (bExpr f) := ⟨ps_expr he.pe hs, fun H σ ρ N r q => by
  refine he.sd H H σ ρ _ r ?_
  unfold bExpr at q
  cases e1 : f ρ with
  | ok d => rw [e1] at q; exact fun w S' H' x dv => q H' x.h
  | err c => rw [e1] at q; exact q
  | bad => rw [e1] at q; exact q⟩
theorem bd_ret (he : PDS K mg X W e te f) : BD K mg X W (.Return (some e) pos) (tRet te) (bRet f) := ⟨ps_ret he.pe, fun H σ ρ N r q => by
  refine he.sd H H σ ρ _ r ?_
  unfold bRet at q
  cases e1 : f ρ with
  | ok d =>
    rw [e1, bind_ok] at q
    intro w S' H' x dv
    split at q
    · rename_i hf
      exact q w H' x.h fun T => dv.flat hf
    · exact q.elim
  | err c => rw [e1] at q; exact q
  | bad => rw [e1] at q; exact q⟩
theorem bd_if {c : Expr} {a b : List Stmt} {tc : TT} {ta tb : TS} {gc : DEnv → Res Bool} {F G : DEnv → Res (Option D)} (hc : TD K mg X E0 c tc gc) (ha : BDs K mg X W a ta F) (hb : BDs K mg X W b tb G) : BD K mg X W (.If c a b pos) (tIfS tc ta tb) (bIf gc F G) :=
  ⟨ps_if hc.pe ha.ps hb.ps, fun H σ ρ N r q => by
    refine hc.sd H H σ ρ _ r ?_
    unfold bIf at q
    cases e1 : gc ρ with
    | ok k =>
      rw [e1] at q
      intro w S' H' x ek
      cases ek
      cases k with
      | true => exact ha.sd H' σ ρ N (r.up x.h) (BPost.mono q x.h)
      | false => exact hb.sd H' σ ρ N (r.up x.h) (BPost.mono q x.h)
    | err c => rw [e1] at q; exact q.elim
    | bad => rw [e1] at q; exact q⟩
end
/-! ### try -/
theorem Rel.setRaw {K : PySem.W.Frag} {S0 H0 S H : Hp} {σ : L2.St} {ρ : DEnv} (r : Rel K S0 H0 S H σ ρ) {i : Nat} {v : V} : Rel K S0 H0 S H (σ.set i (some v)) (ρ.set i (.raw v)) := by
  have hl := r.len
  refine ⟨r.x, by rw [List.length_set, List.length_set]; exact hl, fun j z e => ?_, fun j z e => ?_, fun j s e hs => ?_, fun j k s s' p e1 e2 h1 h2 g1 g2 => ?_⟩
  · rcases set_at e with ⟨rfl, hi, e⟩ | ⟨hj, e⟩
    · cases e
    · rw [List.getElem?_set_ne hj]
      exact r.dt j z e
  · rcases set_at e with ⟨rfl, hi, e⟩ | ⟨hj, e⟩
    · cases e
      exact List.getElem?_set_self (by omega)
    · rw [List.getElem?_set_ne hj]
      exact r.rw j z e
  · rcases set_at e with ⟨rfl, hi, e⟩ | ⟨hj, e⟩
    · subst e
      cases hs
    · rw [List.getElem?_set_ne hj]
      exact r.own j s e hs
  · rcases set_at e1 with ⟨rfl, hi, e1⟩ | ⟨hj, e1⟩
    · subst e1
      cases h1
    · rcases set_at e2 with ⟨rfl, hi, e2⟩ | ⟨hk, e2⟩
      · subst e2
        cases h2
      · rw [List.getElem?_set_ne hj] at g1
        rw [List.getElem?_set_ne hk] at g2
        exact r.dis j k s s' p e1 e2 h1 h2 g1 g2
theorem kit_sub {K : PySem.W.Frag} {C D : Addr} {b : Bool} (hd : PySem.W.hasDictIn K D = true) (ht : PySem.W.typeIn K (.ref D) = some (.type "type")) (hs : PySem.W.subIn K (.ref C) (.ref D) = some b) (h0 : PySem.W.subIn K (.ref D) (.ref D) = some true) : PySem.W.kitOne K (.ref C) (.ref D) = some b := by
  obtain ⟨cd, hc, _⟩ := PySem.W.any_some hd
  unfold PySem.W.kitOne
  split
  · rename_i e
    have e : C = D := Value.ref.inj (beq_iff_eq.mp e)
    subst e
    rw [hs] at h0
    exact h0.symm
  · show (if ((PySem.W.clsIn K D).isSome && PySem.W.typeIn K (.ref D) == some (.type "type")) = true then PySem.W.subIn K (.ref C) (.ref D) else none) = some b
    have e2 : ((PySem.W.clsIn K D).isSome && PySem.W.typeIn K (.ref D) == some (.type "type")) = true := by rw [hc, ht] <;> rfl
    rw [if_pos e2]
    exact hs
def sTry (B : DEnv → Res (Option D)) (Lx : List Str) (FS : Str → DEnv → Res D) : DEnv → SR := fun ρ => match B (viewAll ρ) with
  | .ok none => .next ρ
  | .ok (some d) => .ret d
  | .err c => if Lx.contains c = true then (match FS c ρ with
    | .ok d => .ret d
    | _ => .bad) else .bad
  | .bad => .bad
/-- what is known of the classes that may be caught -/
structure Caught (K : PySem.W.Frag) (mg : Str → Option Value) (Lx : List Str) (cL : Value) : Prop where
  ex : ∀ c u, Lx.contains c = true → mg c = some u → ∃ C, u = .ref C ∧ ExcC K C ∧ PySem.W.exmOne K (.ref C) cL = some true
section
variable {K : PySem.W.Frag} {mg : Str → Option Value} {X : Cx} {E : XK} {x n : Str} {c : Value} {i : Nat} {body suite : List Stmt} {b₀ : Stmt} {np pos pos' : Pos} {tb : WX → TS} {tsu : Addr → Addr → Str → TS} {Lx : List Str} {B : DEnv → Res (Option D)} {FSa : Addr → Str → DEnv → SR}
theorem sd_try {FS : Str → DEnv → Res D} (hN : X.N.Nodup) (hi : X.N[i]? = some n) (hc : Names X x c) (tk : Takes X (fun cls d _ H => E cls d H)) (hk : Caught K mg Lx c)
    (hFS : ∀ a c ρ d, FS c ρ = .ok d → FSa a c (ρ.set i (.raw (.ref a))) = .ret d)
    (hb : ∀ (W : WX) (pn : List (Addr × Obj)) (xe : Value → Shared → Prop), Takes (X.tr pn xe) W → BDs K mg (X.tr pn xe) W body (tb W) B)
    (hsu : ∀ (a : Addr) (oe : Obj) (C : Addr) (pn : List (Addr × Obj)) (c : Str), Zc (.ref C) none oe → (∃ vs, oe.data = .fields vs) → ExcC K C → mg c = some (.ref C) → Lx.contains c = true → SDs K mg (X.suite a ((a, oe) :: pn)) E0 (b₀ :: suite) (tsu a C c) (FSa a c))
    (hs : X.stack = X.env :: X.outer := by rfl) (hf : X.env.frame = some X.env.locals := by rfl) (hln : X.env.kindOf n = some .local := by rfl) (hK : X.K = K := by rfl) :
    SD K mg X E (.Try body [.ExceptHandler (some (.Name x np)) (some n) (b₀ :: suite) pos'] [] [] pos)
      (fun D σ H => tb (wAs K c i (fun a cls d N σ H => ∃ C k, cls = .ref C ∧ d = none ∧ ExcC K C ∧ mg k = some (.ref C) ∧ Lx.contains k = true ∧ tsu a C k N σ H) (fun cls d _ H => E cls d H) D) D σ H) (sTry B Lx FS) := by
  subst hK
  refine ⟨ps_try_as hs hf hN hi hln hc tk (fun W pn xe tkb _ => (hb W pn xe tkb).ps) (fun a oe cls d pn hz hfd => ⟨fun pins s σ H D I h => ?_⟩), fun S0 H0 S H σ ρ N r h => ?_⟩
  · obtain ⟨C, k, rfl, rfl, he, hm, hL, h⟩ := h
    exact (hsu a oe C pn k hz hfd he hm hL).ps.run pins s σ H D I h
  · refine (hb _ X.pn (fun u s' => False ∨ XE X (fun cls d _ H => E cls d H) u s' ∨ True) (fun _ _ _ => .inr (.inr trivial))).sd H σ (viewAll ρ) N r.relV ?_
    unfold sTry at h
    cases e1 : B (viewAll ρ) with
    | ok o =>
      rw [e1] at h
      cases o with
      | none => exact fun H' e => h S H' σ (Same.refl _) (r.grow e)
      | some d => exact fun v H' e dv => h v S H' ((r.grow e).x) (dv S)
    | bad => rw [e1] at h; exact h
    | err k =>
      rw [e1] at h
      dsimp only at h
      split at h
      · rename_i hL
        cases eF : FS k ρ with
        | ok d =>
          rw [eF] at h
          intro u H' hm e
          obtain ⟨C, rfl, he, hx⟩ := hk.ex k u hL hm
          refine ⟨true, hx, fun _ a ha => ⟨C, k, rfl, rfl, he, hm, hL, ?_⟩, fun z => nomatch z⟩
          have r2 : Rel X.K S0 H0 S H' (σ.set i (some (.ref a))) (ρ.set i (.raw (.ref a))) := (r.grow e).setRaw
          refine (hsu a { cls := .ref C, data := .fields #[] } C [] k ⟨rfl, rfl⟩ ⟨_, rfl⟩ he hm hL).sd S0 H0 S H' _ _ _ r2 ?_
          rw [hFS a k ρ d eF]
          exact h
        | err c => rw [eF] at h; exact h.elim
        | bad => rw [eF] at h; exact h.elim
      · exact h.elim
/-- isinstance(e, D), e the exception that the suite holds -/
def fIsE (i : Nat) (a : Addr) (b : Bool) : DEnv → Res D := fun ρ => match ρ[i]? with
  | some (.raw (.ref a')) => if a' = a then .ok (.bool b) else .bad
  | _ => .bad
theorem pd_isE {a C CD : Addr} {oe : Obj} {pn : List (Addr × Obj)} {xe xD : Str} {p1 p2 p3 : Pos} {b : Bool} (hC : ExcC X.K C) (hz : Zc (.ref C) none oe) (hf : ∃ vs, oe.data = .fields vs) (hkit : PySem.W.kitOne K (.ref C) (.ref CD) = some b) (hv : PE (X.suite a ((a, oe) :: pn)) (.Name xe p1) (tVar i))
    (hg : Gl X "isinstance") (hm : X.mg "isinstance" = none) (hgD : Gl X xD) (hmD : X.mg xD = some (.ref CD)) (hd : (xD == ("__debug__" : Str)) = false := by decide)
    (h1 : starEach [.Name xe p1, .Name xD p2] X.env = (false, eval (.Name xe p1) X.env) :: starEach [.Name xD p2] X.env := by rfl) (h2 : starEach [.Name xD p2] X.env = (false, eval (.Name xD p2) X.env) :: starEach [] X.env := by rfl) (hpl : (backTo pos (starEach [.Name xD p2] X.env)).any (·.1) = false := by rfl) (hK : X.K = K := by rfl) :
    PD K mg (X.suite a ((a, oe) :: pn)) E0 (.Call (.Name "isinstance" p3) [.Name xe p1, .Name xD p2] [] pos) (tCB (rIsE K C a) (tCons (tVar i) (tCons (tC (.ref CD)) tNil))) (fIsE i a b) := by
  subst hK
  refine ⟨pe_callB (X := X.suite a ((a, oe) :: pn)) (call_isE hC hz hf) hg hm bt_isinstance (pa_cons hv (pa_cons (pe_glob (v := .ref CD) hgD hmD rfl hd) pa_nil h2) h1) (by decide) (by decide) h1 hpl, fun S H σ ρ Q rl h => ?_⟩
  unfold fIsE at h
  split at h
  · rename_i a' e
    split at h
    · rename_i ea
      subst ea
      exact ⟨_, rl.rw _ _ e, _, _, b, rfl, fun u hu => hu, hkit, h.ok0 rl.sh rfl⟩
    · exact h.elim
  · exact h.elim
end
end PD
namespace PD
open PySem L2
/-! ### zip of three tuples -/
def Itz3 (K : PySem.W.Frag) (a b c : Addr) : It :=
  ⟨fun i H => ∃ (xs ys zs : List V) (x y z : V), SqT K H a xs ∧ SqT K H b ys ∧ SqT K H c zs ∧ xs[i]? = some x ∧ ys[i]? = some y ∧ zs[i]? = some z,
    fun i H v H' => ∃ T x y z, v = .ref T ∧ H T = none ∧ H' = upd H T (.tup [x, y, z]) ∧ (∀ xs, SqT K H a xs → xs[i]? = some x) ∧ (∀ ys, SqT K H b ys → ys[i]? = some y) ∧ ∀ zs, SqT K H c zs → zs[i]? = some z,
    fun i H => ∃ xs ys zs : List V, SqT K H a xs ∧ SqT K H b ys ∧ SqT K H c zs ∧ i = min (min xs.length ys.length) zs.length⟩
theorem lt_of_get {α : Type} {xs : List α} {i : Nat} {x : α} (h : xs[i]? = some x) : i < xs.length := (List.getElem?_eq_some_iff.mp h).1
theorem turn_zip3 {P : Program} {w : World} {K : PySem.W.Frag} {elts : List Expr} {kk : Nat} {tpos : Pos} {a b c z TI TO i1 i2 i3 : Addr} (D : ZipSep3 z TI TO i1 i2 i3 [i1, a] [i2, b] [i3, c]) (na : a ≠ i1) (nb : b ≠ i2) (nc : c ≠ i3) :
    Turn P w K (.Tuple elts kk tpos) (Itz3 K a b c) [z, TI, TO, i1, i2, i3] z (fun i h => IsZip h z TI TO .none ∧ IsTupOf3 h TI (.ref i1) (.ref i2) (.ref i3) ∧ (∃ x y u, IsTupOf3 h TO x y u) ∧ h.IsTupleIter i1 a i ∧ h.IsTupleIter i2 b i ∧ h.IsTupleIter i3 c i) where
  mem := by simp
  obj := fun i h st c' hc => by
    obtain ⟨hz, hTI, ⟨x, y, u, hTO⟩, ⟨o1, e1, _, d1⟩, ⟨o2, e2, _, d2⟩, ⟨o3, e3, _, d3⟩⟩ := st
    have e' : c' = z ∨ c' = TI ∨ c' = TO ∨ c' = i1 ∨ c' = i2 ∨ c' = i3 := by simpa using hc
    rcases e' with q | q | q | q | q | q
    · rw [q]; exact ⟨_, hz, fun v q => nomatch q⟩
    · rw [q]; exact ⟨_, hTI, fun v q => nomatch q⟩
    · rw [q]; exact ⟨_, hTO, fun v q => nomatch q⟩
    · rw [q]; exact ⟨o1, e1, fun v q => by rw [d1] at q; cases q⟩
    · rw [q]; exact ⟨o2, e2, fun v q => by rw [d2] at q; cases q⟩
    · rw [q]; exact ⟨o3, e3, fun v q => by rw [d3] at q; cases q⟩
  keep := fun i h h' st k => by
    obtain ⟨hz, hTI, ⟨x, y, u, hTO⟩, h1, h2, h3⟩ := st
    exact ⟨k z (by simp) _ hz, k TI (by simp) _ hTI, ⟨x, y, u, k TO (by simp) _ hTO⟩, h1.at fun o q => k i1 (by simp) o q, h2.at fun o q => k i2 (by simp) o q, h3.at fun o q => k i3 (by simp) o q⟩
  item := by
    intro X hP hw hK hc i pins s σ H E I hf st hg
    subst hP hw hK
    obtain ⟨hz, hTI, hTO, h1, h2, h3⟩ := st
    obtain ⟨xs, ys, zs, x, y, u, hqx, hqy, hqz, hx, hy, hu⟩ := hg
    obtain ⟨its, rv, p, _⟩ := I.tuple hqx
    obtain ⟨its2, rv2, p2, _⟩ := I.tuple hqy
    obtain ⟨its3, rv3, p3, _⟩ := I.tuple hqz
    obtain ⟨u1, hu1, ru1⟩ := rv.get hx
    obtain ⟨u2, hu2, ru2⟩ := rv2.get hy
    obtain ⟨u3, hu3, ru3⟩ := rv3.get hu
    have hh : X.A.in1.handled = none := I.ok.hd hc
    have W := WalksT.zipD3 (prog := X.prog) (w := X.w) (A := X.A) D (Draws.tuple hh i1 a na its.toArray) (Draws.tuple hh i2 b nb its2.toArray) (Draws.tuple hh i3 c nc its3.toArray)
    have hlt : i < min (min its.toArray.size its2.toArray.size) its3.toArray.size := by
      have a1 := lt_of_get hu1
      have a2 := lt_of_get hu2
      have a3 := lt_of_get hu3
      simp only [List.size_toArray]
      omega
    refine W.item i s _ _ hlt ⟨hz, hTI, hTO, ⟨h1, p⟩, ⟨h2, p2⟩, h3, p3⟩ fun T vals h' tk hP hT hTu hM hk => ?_
    obtain ⟨v1, v2, v3, e1, e2, e3, rfl⟩ := hP
    have q1 : u1 = v1 := Option.some.inj (hu1.symm.trans (by simpa using e1))
    have q2 : u2 = v2 := Option.some.inj (hu2.symm.trans (by simpa using e2))
    have q3 : u3 = v3 := Option.some.inj (hu3.symm.trans (by simpa using e3))
    subst q1 q2 q3
    refine ⟨_, rfl, W.go elts kk tpos i T { s with heap := h', toks := tk } _ _ hM fun h'' st'' hk2 => ?_⟩
    have nT : T ∉ [z, TO, i1, i2, i3] := W.apart i T h' hM
    have hT2 : h''.IsTuple T #[u1, u2, u3] := hTu.at fun o e => hk2 T o nT e
    have new : ObjOk X.prog X.w (upd H T (.tup [x, y, u])) h'' T (.tup [x, y, u]) :=
      ⟨by show 3 ≤ sizeLine; decide, [u1, u2, u3], .cons ru1 (.cons ru2 (.cons ru3 .nil)), hT2⟩
    have sub : ∀ b', b' ∉ [z, TI, TO, i1, i2, i3] → b' ∉ [z, TO, i1, i2, i3] := fun b' hb hm => hb (by
      have e' : b' = z ∨ b' = TO ∨ b' = i1 ∨ b' = i2 ∨ b' = i3 := by simpa using hm
      rcases e' with q | q | q | q | q <;> simp [q])
    have I1 : Inv X pins σ (upd H T (.tup [x, y, u])) { s with heap := h'', toks := tk } :=
      I.turnedNew (t' := tk) (ch := [z, TI, TO, i1, i2, i3]) (fun b' o hb q => hk2 b' o (sub b' hb) (hk b' o (sub b' hb) q)) hf hT new
    obtain ⟨hz', hTI', hTO', ⟨h1', _⟩, ⟨h2', _⟩, h3', _⟩ := st''
    refine ⟨.ref T, _, I1, rfl, ⟨T, x, y, u, rfl, I.hok.fresh hT, rfl, fun l hl => by rw [I.tuple_inj hl hqx]; exact hx, fun l hl => by rw [I.tuple_inj hl hqy]; exact hy, fun l hl => by rw [I.tuple_inj hl hqz]; exact hu⟩, ⟨hz', hTI', hTO', h1', h2', h3'⟩, fun c' hcm => ?_⟩
    have hlt : c' < s.heap.objs.size := by
      obtain ⟨x0, y0, u0, hTO⟩ := hTO
      have e' : c' = z ∨ c' = TI ∨ c' = TO ∨ c' = i1 ∨ c' = i2 ∨ c' = i3 := by simpa using hcm
      rcases e' with q | q | q | q | q | q
      · rw [q]; exact Heap.lt_size hz
      · rw [q]; exact Heap.lt_size hTI
      · rw [q]; exact Heap.lt_size hTO
      · rw [q]; obtain ⟨_, e1, _⟩ := h1; exact Heap.lt_size e1
      · rw [q]; obtain ⟨_, e2, _⟩ := h2; exact Heap.lt_size e2
      · rw [q]; obtain ⟨_, e3, _⟩ := h3; exact Heap.lt_size e3
    rw [upd_ne (Nat.ne_of_lt (Nat.lt_of_lt_of_le hlt hT))]
    exact (hf c' hcm).1
  done := by
    intro X hP hw hK hc i pins s σ H E I hf st hg
    subst hP hw hK
    obtain ⟨hz, hTI, hTO, h1, h2, h3⟩ := st
    obtain ⟨xs, ys, zs, hqx, hqy, hqz, hend⟩ := hg
    obtain ⟨its, rv, p, _⟩ := I.tuple hqx
    obtain ⟨its2, rv2, p2, _⟩ := I.tuple hqy
    obtain ⟨its3, rv3, p3, _⟩ := I.tuple hqz
    have hh : X.A.in1.handled = none := I.ok.hd hc
    have W := WalksT.zipD3 (prog := X.prog) (w := X.w) (A := X.A) D (Draws.tuple hh i1 a na its.toArray) (Draws.tuple hh i2 b nb its2.toArray) (Draws.tuple hh i3 c nc its3.toArray)
    have hi : i = min (min its.toArray.size its2.toArray.size) its3.toArray.size := by
      rw [hend, rv.length, rv2.length, rv3.length]
      simp only [List.size_toArray]
    subst hi
    refine W.done s _ _ ⟨hz, hTI, hTO, ⟨h1, p⟩, ⟨h2, p2⟩, h3, p3⟩ fun h' tk hk => ⟨rfl, I.turnedL (t' := tk) (ch := [z, TI, TO, i1, i2, i3]) (fun b' o hb q => hk b' o (fun hm => hb ?_) q) hf⟩
    have e' : b' = z ∨ b' = TO ∨ b' = i1 ∨ b' = i2 ∨ b' = i3 := by simpa using hm
    rcases e' with q | q | q | q | q <;> simp [q]
  self := fun A i s Q E st h => wpAny_pyIter_zip st.1 h
def iZip3 (K : PySem.W.Frag) (ta : TA) : TI := fun σ H R => ta σ H fun vs H1 => ∃ a b c xs ys zs, vs = [.ref a, .ref b, .ref c] ∧ SqT K H1 a xs ∧ SqT K H1 b ys ∧ SqT K H1 c zs ∧ R (Itz3 K a b c) H1
theorem pi_zip3 {X : Cx} {e e2 e3 : Expr} {ta : TA} {p pos tpos : Pos} {elts : List Expr} {kk : Nat} (hg : Gl X "zip") (hm : X.mg "zip" = none) (ha : PA X [e, e2, e3] ta)
    (hs : starEach [e, e2, e3] X.env = (false, eval e X.env) :: starEach [e2, e3] X.env := by rfl) (hpl : (backTo pos (starEach [e2, e3] X.env)).any (·.1) = false := by rfl) :
    PI X (.Tuple elts kk tpos) (.Call (.Name "zip" p) [e, e2, e3] [] pos) (iZip3 X.K ta) := by
  refine ⟨fun pins s σ H R I h => ?_⟩
  refine PyProof.Rows.Call_ (ld_blt I hg hm PyProof.Rows.boot_zip (PyProof.Rows.callWith_type1 (thn (ha.run pos pins s σ H _ I h) fun us s1 ⟨vs, H1, I1, r1, q1⟩ => ?_) hs hpl))
  obtain ⟨a, b, c, xs, ys, zs, ex, hqx, hqy, hqz, q⟩ := q1
  subst ex
  cases r1 with
  | cons r rr =>
    cases rr with
    | cons r' rr =>
      cases rr with
      | cons r'' rr =>
        cases rr
        cases r
        cases r'
        cases r''
        obtain ⟨its, rv, p1, _⟩ := I1.tuple hqx
        obtain ⟨its2, rv2, p2, _⟩ := I1.tuple hqy
        obtain ⟨its3, rv3, p3, _⟩ := I1.tuple hqz
        obtain ⟨o1, ho1, _⟩ := id p1
        obtain ⟨o2, ho2, _⟩ := id p2
        obtain ⟨o3, ho3, _⟩ := id p3
        have la : a < s1.heap.objs.size := Heap.lt_size ho1
        have lb : b < s1.heap.objs.size := Heap.lt_size ho2
        have lc : c < s1.heap.objs.size := Heap.lt_size ho3
        refine zip_begins3 (begins_tuple a its.toArray) (begins_tuple b its2.toArray) (begins_tuple c its3.toArray) p1 p2 p3 fun h' hz hTI hTO g1 g2 g3 hsz hk => wpAny_pyIter_zip hz ?_
        have I2 : Inv X pins σ H1 { s1 with heap := h' } := I1.kept (t' := s1.toks) hk
        have D : ZipSep3 (s1.heap.objs.size + 5) (s1.heap.objs.size + 3) (s1.heap.objs.size + 4) s1.heap.objs.size (s1.heap.objs.size + 1) (s1.heap.objs.size + 2) [s1.heap.objs.size, a] [s1.heap.objs.size + 1, b] [s1.heap.objs.size + 2, c] :=
          zip_sep3 (fun x hx => by rw [List.mem_singleton.mp hx]; exact la) (fun x hx => by rw [List.mem_singleton.mp hx]; exact lb) (fun x hx => by rw [List.mem_singleton.mp hx]; exact lc)
        refine ⟨s1.heap.objs.size + 5, [s1.heap.objs.size + 5, s1.heap.objs.size + 3, s1.heap.objs.size + 4, s1.heap.objs.size, s1.heap.objs.size + 1, s1.heap.objs.size + 2], _, _, H1, rfl, I2,
          turn_zip3 D (Nat.ne_of_lt la) (Nat.ne_of_lt (Nat.lt_succ_of_lt lb)) (Nat.ne_of_lt (Nat.lt_succ_of_lt (Nat.lt_succ_of_lt lc))), ⟨hz, hTI, ⟨_, _, _, hTO⟩, ⟨_, g1, rfl, rfl⟩, ⟨_, g2, rfl, rfl⟩, ⟨_, g3, rfl, rfl⟩⟩, fun x hx => ?_, q⟩
        have e' : x = s1.heap.objs.size + 5 ∨ x = s1.heap.objs.size + 3 ∨ x = s1.heap.objs.size + 4 ∨ x = s1.heap.objs.size ∨ x = s1.heap.objs.size + 1 ∨ x = s1.heap.objs.size + 2 := by simpa using hx
        have hle : s1.heap.objs.size ≤ x := by
          rcases e' with z | z | z | z | z | z
          · rw [z]; exact Nat.le_add_right _ _
          · rw [z]; exact Nat.le_add_right _ _
          · rw [z]; exact Nat.le_add_right _ _
          · rw [z]; exact Nat.le_refl _
          · rw [z]; exact Nat.le_add_right _ _
          · rw [z]; exact Nat.le_add_right _ _
        exact I1.fpOk hle (I1.hok.fresh hle)
def zip3D : List D → List D → List D → List D
  | x :: xs, y :: ys, z :: zs => .tuple [x, y, z] :: zip3D xs ys zs
  | _, _, _ => []
theorem zip3D_get : ∀ {xs ys zs : List D} {i : Nat} {d : D}, (zip3D xs ys zs)[i]? = some d → ∃ x y z, xs[i]? = some x ∧ ys[i]? = some y ∧ zs[i]? = some z ∧ d = .tuple [x, y, z]
  | x :: xs, y :: ys, z :: zs, 0, d, h => ⟨x, y, z, rfl, rfl, rfl, (Option.some.inj h).symm⟩
  | x :: xs, y :: ys, z :: zs, i + 1, d, h => zip3D_get (xs := xs) (ys := ys) (zs := zs) (i := i) h
  | [], _, _, _, _, h => by simp [zip3D] at h
  | _ :: _, [], _, _, _, h => by simp [zip3D] at h
  | _ :: _, _ :: _, [], _, _, h => by simp [zip3D] at h
theorem zip3D_len : ∀ (xs ys zs : List D), (zip3D xs ys zs).length = min (min xs.length ys.length) zs.length
  | x :: xs, y :: ys, z :: zs => by show (zip3D xs ys zs).length + 1 = min (min (xs.length + 1) (ys.length + 1)) (zs.length + 1); rw [zip3D_len xs ys zs]; omega
  | [], ys, zs => by simp [zip3D]
  | _ :: _, [], _ => by simp [zip3D]
  | _ :: _, _ :: _, [] => by simp [zip3D]
theorem walks_zip3 {K : PySem.W.Frag} {S : Hp} {a b c : Addr} {us ws ts : List V} {ds es fs : List D} (h1 : SqT K S a us) (h2 : DVs K S us ds) (h3 : SqT K S b ws) (h4 : DVs K S ws es) (h5 : SqT K S c ts) (h6 : DVs K S ts fs) : Walks K S (Itz3 K a b c) (zip3D ds es fs) := fun S' H' e1 e2 => by
  have q1 : SqT K H' a us := same_t (e1.trans e2) h1
  have q2 : SqT K H' b ws := same_t (e1.trans e2) h3
  have q3 : SqT K H' c ts := same_t (e1.trans e2) h5
  refine ⟨fun i d hi => ?_, us, ws, ts, q1, q2, q3, ?_⟩
  · obtain ⟨x, y, z, g1, g2, g3, rfl⟩ := zip3D_get hi
    obtain ⟨v, k1, k2⟩ := h2.get g1
    obtain ⟨w, k3, k4⟩ := h4.get g2
    obtain ⟨t, k5, k6⟩ := h6.get g3
    refine ⟨⟨us, ws, ts, v, w, t, q1, q2, q3, k1, k3, k5⟩, fun x' H'' hy => ?_⟩
    obtain ⟨T, x1, x2, x3, rfl, nT, rfl, f1, f2, f3⟩ := hy
    have ex : x1 = v := Option.some.inj ((f1 _ q1).symm.trans k1)
    have ey : x2 = w := Option.some.inj ((f2 _ q2).symm.trans k3)
    have ez : x3 = t := Option.some.inj ((f3 _ q3).symm.trans k5)
    subst ex ey ez
    have sm : Same S (upd S' T (.tup [x1, x2, x3])) := e1.trans (same_upd (e2.free nT))
    exact ⟨_, Ext.new e2 nT, T, [x1, x2, x3], rfl, tp_of upd_same, k2.mono sm, k4.mono sm, k6.mono sm, trivial⟩
  · rw [zip3D_len, h2.length, h4.length, h6.length]
def gZip3 : List D → Res (List D)
  | [.tuple xs, .tuple ys, .tuple zs] => .ok (zip3D xs ys zs)
  | _ => .bad
section
variable {K : PySem.W.Frag} {mg : Str → Option Value} {X : Cx} {E : XK} {e e2 e3 : Expr} {ta : TA} {ga : DEnv → Res (List D)} {p pos tpos : Pos} {elts : List Expr} {kk : Nat}
theorem id_zip3 (hg : Gl X "zip") (hm : X.mg "zip" = none) (ha : AD K mg X E [e, e2, e3] ta ga) (hs : starEach [e, e2, e3] X.env = (false, eval e X.env) :: starEach [e2, e3] X.env := by rfl) (hpl : (backTo pos (starEach [e2, e3] X.env)).any (·.1) = false := by rfl) (hK : X.K = K := by rfl) :
    ID K mg X E (.Tuple elts kk tpos) (.Call (.Name "zip" p) [e, e2, e3] [] pos) (iZip3 K ta) (fRng gZip3 ga) := ⟨hK ▸ pi_zip3 hg hm ha.pe hs hpl, fun S H σ ρ R rl h => by
  refine ha.sd S H σ ρ _ rl (h.bind fun ds vs S1 H1 x1 d1 h1 => ?_)
  unfold gZip3 at h1
  split at h1
  · obtain ⟨v, w, u, rfl, hv, hw, hu⟩ := dvs3 d1
    rw [DV] at hv hw hu
    obtain ⟨a, us, rfl, k1, k2⟩ := hv
    obtain ⟨b, ws, rfl, k3, k4⟩ := hw
    obtain ⟨c, ts, rfl, k5, k6⟩ := hu
    exact ⟨a, b, c, us, ws, ts, rfl, same_t x1.sh k1.1, same_t x1.sh k3.1, same_t x1.sh k5.1, h1.ok0 x1.sh (walks_zip3 k1.1 k2 k3.1 k4 k5.1 k6)⟩
  · exact h1.elim⟩
end
/-! ### enumerate of a list -/
def enumD (n : Nat) : List D → List D
  | [] => []
  | x :: xs => .tuple [.int (n : Int), x] :: enumD (n + 1) xs
theorem enumD_get : ∀ {xs : List D} {n i : Nat} {d : D}, (enumD n xs)[i]? = some d → ∃ x, xs[i]? = some x ∧ d = .tuple [.int ((n + i : Nat) : Int), x]
  | x :: xs, n, 0, d, h => ⟨x, rfl, (Option.some.inj h).symm⟩
  | x :: xs, n, i + 1, d, h => by
    obtain ⟨y, h1, h2⟩ := enumD_get (xs := xs) (n := n + 1) (i := i) h
    refine ⟨y, h1, ?_⟩
    rw [h2, show n + 1 + i = n + (i + 1) from by omega]
  | [], _, _, _, h => by simp [enumD] at h
theorem enumD_len : ∀ (xs : List D) (n : Nat), (enumD n xs).length = xs.length
  | [], _ => rfl
  | x :: xs, n => by show (enumD (n + 1) xs).length + 1 = _; rw [enumD_len xs]; rfl
theorem walks_enum {K : PySem.W.Frag} {S : Hp} {a : Addr} {us : List V} {ds : List D} (h1 : LsAt K S a us) (h2 : DVs K S us ds) : Walks K S (Ite K a) (enumD 0 ds) := fun S' H' e1 e2 => by
  have q1 : SqL K H' a us := ls_sq (ls_mono (e1.trans e2) h1)
  refine ⟨fun i d hi => ?_, us, q1, by rw [enumD_len, h2.length]; exact Nat.le_refl _⟩
  obtain ⟨x, g1, rfl⟩ := enumD_get hi
  obtain ⟨v, k1, k2⟩ := h2.get g1
  refine ⟨⟨us, v, q1, k1⟩, fun x' H'' hy => ?_⟩
  obtain ⟨T, x1, rfl, nT, rfl, f1⟩ := hy
  have ex : x1 = v := Option.some.inj ((f1 _ q1).symm.trans k1)
  subst ex
  have sm : Same S (upd S' T (.tup [.int (i : Nat), x1])) := e1.trans (same_upd (e2.free nT))
  exact ⟨_, Ext.new e2 nT, T, [.int (i : Nat), x1], rfl, tp_of upd_same, by show V.int (i : Nat) = V.int ((0 + i : Nat) : Int); rw [Nat.zero_add], k2.mono sm, trivial⟩
def gEnum : List D → Res (List D)
  | [.list xs] => .ok (enumD 0 xs)
  | _ => .bad
section
variable {K : PySem.W.Frag} {mg : Str → Option Value} {X : Cx} {E : XK} {e : Expr} {ta : TA} {ga : DEnv → Res (List D)} {p pos tpos : Pos} {elts : List Expr} {kk : Nat}
theorem id_enum (hg : Gl X "enumerate") (hm : X.mg "enumerate" = none) (ha : AD K mg X E [e] ta ga) (hs : starEach [e] X.env = [(false, eval e X.env)] := by rfl) (hK : X.K = K := by rfl) :
    ID K mg X E (.Tuple elts kk tpos) (.Call (.Name "enumerate" p) [e] [] pos) (iEnum K ta) (fRng gEnum ga) := ⟨hK ▸ pi_enum hg hm ha.pe hs, fun S H σ ρ R rl h => by
  refine ha.sd S H σ ρ _ rl (h.bind fun ds vs S1 H1 x1 d1 h1 => ?_)
  unfold gEnum at h1
  split at h1
  · obtain ⟨v, rfl, hv⟩ := dvs1 d1
    rw [DV] at hv
    obtain ⟨a, us, rfl, k1, k2⟩ := hv
    exact ⟨a, us, rfl, ls_sq (ls_mono x1.sh k1), h1.ok0 x1.sh (walks_enum k1 k2)⟩
  · exact h1.elim⟩
end
/-! ### x, y, z = a, [], [], where a target is captured: by a tuple -/
section
variable {K : PySem.W.Frag} {mg : Str → Option Value} {X : Cx} {E : XK} {ts es : List Expr} {t : TA} {gg : TGs} {is : List Nat} {g : DEnv → Res (List Slot)} {pos pt pt2 : Pos} {kt k2 : Nat} {n : Nat}
theorem sd_asgZ (hc : X.calm = true) (hz : ZD K mg X E es t g) (hg : GDs X ts gg is) (hn : (assignEach ts X.env).length = n := by rfl) (hst : (assignEach ts X.env).findIdx? (·.1) = none := by rfl) (hl : is.length = n := by rfl) (hz2 : is.length ≤ 100 := by decide) (hK : X.K = K := by rfl)
    (hs : swapsWithSole [.Tuple ts kt pt] (.Tuple es k2 pt2) pos.line X.env = pure false := by rfl) (hw : swappedStores [.Tuple ts kt pt] (.Tuple es k2 pt2) X.env = pure none := by rfl) (h1 : (assignEach [.Tuple ts kt pt] X.env).map (·.2) = [assign (.Tuple ts kt pt) X.env] := by rfl) :
    SD K mg X E (.Assign [.Tuple ts kt pt] (.Tuple es k2 pt2) pos) (tAsg (tTup t) (gTup K n gg)) (sPar g is) := ⟨ps_asg (pe_tup hz.pe) (hK ▸ pg_tup hc hg.pg hn hst) hs hw h1, fun S0 H0 S H σ ρ N r h => by
  refine hz.sd S H σ ρ _ r.relE (posts_of r h fun ss vs S' H' x' q h => ?_)
  split at h
  · rename_i hsl
    have lv : vs.length = is.length := q.length.trans hsl
    refine ⟨by rw [lv, sizeLine_eq]; omega, fun p hp => ?_⟩
    have sm : Same H' (upd H' p (.tup vs)) := same_upd hp
    refine ⟨p, vs, rfl, SqT.of upd_same, by rw [lv, hl], hg.sd _ vs σ _ lv ?_⟩
    exact h S' _ _ x'.s ((r.slots x' q is).grow sm)
  · exact h.elim⟩
end
end PD
namespace PD
open PySem L2
/-! ### dicts whose keys are ints or texts -/
def toKey : D → Option Key
  | .int i => some (.inl i)
  | .str x => some (.inr x)
  | _ => none
theorem toKey_kD (k : Key) : toKey (kD k) = some k := by cases k <;> rfl
theorem toKey_dv {K : PySem.W.Frag} {S : Hp} {v : V} {d : D} {k : Key} (h : DV K S v d) (e : toKey d = some k) : v = kV k := by
  cases d with
  | int i => cases e; exact h
  | str x => cases e; exact h
  | _ => cases e
/-- what stands at a key -/
def dAt : List (D × D) → Key → Option D
  | [], _ => none
  | (a, d) :: r, k => if toKey a = some k then some d else dAt r k
theorem dAt_val {K : PySem.W.Frag} {S : Hp} (k : Key) : ∀ {kvs : List (D × D)} {es : List (Key × V)}, kvs.map (·.1) = es.map (fun e => kD e.1) → DVp K S (es.map (·.2)) kvs → (dAt kvs k = none ∧ valV es k = none) ∨ ∃ d v, dAt kvs k = some d ∧ valV es k = some v ∧ DV K S v d
  | [], [], _, _ => .inl ⟨rfl, rfl⟩
  | (a, d) :: r, (e, v) :: es, hk, hd => by
    have h1 : a = kD e := (List.cons.inj hk).1
    have h2 : r.map (·.1) = es.map (fun e => kD e.1) := (List.cons.inj hk).2
    rw [List.map_cons, DVp] at hd
    by_cases he : e = k
    · refine .inr ⟨d, v, ?_, valV_pos he, hd.1⟩
      unfold dAt
      rw [h1, toKey_kD, he, if_pos rfl]
    · have e1 : dAt ((a, d) :: r) k = dAt r k := by
        conv => lhs; unfold dAt
        rw [h1, toKey_kD, if_neg (fun z => he (Option.some.inj z))]
      have e2 : valV ((e, v) :: es) k = valV es k := by
        unfold valV
        rw [List.find?_cons]
        have : decide ((e, v).1 = k) = false := decide_eq_false he
        rw [this]
      rw [e1, e2]
      exact dAt_val k h2 hd.2
  | [], _ :: _, hk, _ => by cases hk
  | _ :: _, [], hk, _ => by cases hk
theorem dv_dict {K : PySem.W.Frag} {S : Hp} {v : V} {kvs : List (D × D)} (h : DV K S v (.dict kvs)) : ∃ a, v = .ref a ∧ ((∃ es : List (Key × V), Rd S a (.dK es) ∧ kvs.map (·.1) = es.map (fun e => kD e.1) ∧ DVp K S (es.map (·.2)) kvs) ∨
      (∃ es : List (List Key × V), Rd S a (.dT es) ∧ kvs.map (·.1) = es.map (fun e => PyData.tuple (e.1.map kD)) ∧ DVp K S (es.map (·.2)) kvs)) := by
  rw [DV] at h
  exact h
/-- a dict with keys that are ints or texts -/
def plainK : List (D × D) → Bool
  | [] => true
  | (a, _) :: r => (toKey a).isSome && plainK r
theorem plain_of {K : PySem.W.Frag} {S : Hp} {a : Addr} {kvs : List (D × D)} (hp : plainK kvs = true) (hn : kvs ≠ []) (h : (∃ es : List (Key × V), Rd S a (.dK es) ∧ kvs.map (·.1) = es.map (fun e => kD e.1) ∧ DVp K S (es.map (·.2)) kvs) ∨
      (∃ es : List (List Key × V), Rd S a (.dT es) ∧ kvs.map (·.1) = es.map (fun e => PyData.tuple (e.1.map kD)) ∧ DVp K S (es.map (·.2)) kvs)) : ∃ es : List (Key × V), Rd S a (.dK es) ∧ kvs.map (·.1) = es.map (fun e => kD e.1) ∧ DVp K S (es.map (·.2)) kvs := by
  rcases h with h | ⟨es, h1, h2, h3⟩
  · exact h
  · cases kvs with
    | nil => exact absurd rfl hn
    | cons kv r =>
      obtain ⟨x, d⟩ := kv
      cases es with
      | nil => cases h2
      | cons e es =>
        have h4 : x = PyData.tuple (e.1.map kD) := (List.cons.inj h2).1
        subst h4
        unfold plainK at hp
        cases hp
theorem same_rd {S H : Hp} {a : Addr} {u : HO} (e : Same S H) (h : Rd S a u) : Rd H a u := rd_same e h
section
variable {K : PySem.W.Frag} {mg : Str → Option Value} {X : Cx} {E : XK} {o i e f : Expr} {td ty tx te : TE} {fd fk fx ff : DEnv → Res D} {pos : Pos}
/-! d[k] -/
def gDix : D → D → Res D
  | .dict kvs, kd => if (plainK kvs && !kvs.isEmpty) = true then (match toKey kd with
    | some k => (match dAt kvs k with
      | some d => .ok d
      | none => .bad)
    | none => .bad) else .bad
  | _, _ => .bad
theorem hu1 {A : Around} (h : A.units + 65 < cLine) : A.units + 1 < cLine := by omega
theorem ne_emp {kvs : List (D × D)} (h : (!kvs.isEmpty) = true) : kvs ≠ [] := fun z => by subst z; cases h
theorem pd_dget (hu : X.A.units + 65 < cLine) (hd : PD K mg X E o td fd) (hk : PD K mg X E i ty fk) (hs : NoSl i := by exact fun _ _ => rfl) : PD K mg X E (.Subscript o i pos) (tDGet td ty) (fBin gDix fd fk) := ⟨pe_dget (hu1 hu) hd.pe hk.pe hs, fun S H σ ρ Q rl h => by
  refine hd.sd S H σ ρ _ rl (h.bind fun d v S1 H1 x1 d1 h1 => ?_)
  refine hk.sd S1 H1 σ ρ _ (rl.mono x1) (h1.bind fun kd y S2 H2 x2 d2 h2 => ?_)
  unfold gDix at h2
  split at h2
  · rename_i kvs
    split at h2
    · rename_i c
      obtain ⟨c1, c2⟩ := and_split c
      cases ek : toKey kd with
      | none => rw [ek] at h2; exact h2.elim
      | some k =>
        rw [ek] at h2
        dsimp only at h2
        cases ed : dAt kvs k with
        | none => rw [ed] at h2; exact h2.elim
        | some dd =>
          rw [ed] at h2
          obtain ⟨a, rfl, q⟩ := dv_dict (d1.mono x2.s)
          obtain ⟨es, g1, g2, g3⟩ := plain_of c1 (ne_emp c2) q
          rcases dAt_val k g2 g3 with ⟨z, _⟩ | ⟨d', v', z1, z2, z3⟩
          · rw [z] at ed; cases ed
          · rw [z1] at ed
            cases ed
            exact ⟨a, v', rfl, .inl ⟨es, k, same_rd x2.sh g1, toKey_dv d2 ek, z2.symm⟩, h2.ok0 x2.sh z3⟩
    · exact h2.elim
  · exact h2.elim⟩
/-! k in d, k not in d -/
def gDin (neg : Bool) (kd d : D) : Res D := match d with
  | .dict kvs => if (plainK kvs && !kvs.isEmpty) = true then (match toKey kd with
    | some k => .ok (.bool (if neg then !(dAt kvs k).isSome else (dAt kvs k).isSome))
    | none => .bad) else .bad
  | _ => .bad
theorem din_sd (neg : Bool) (hk : PD K mg X E i ty fk) (hd : PD K mg X E o td fd) (S H : Hp) (σ : L2.St) (ρ : DEnv) (Q : VK) (rl : RelE K S H σ ρ) (h : PostG mg E S H (DV K) (fBin (gDin neg) fk fd ρ) Q) :
    ty σ H fun y H1 => td σ H1 fun x H2 => ∃ a o, x = .ref a ∧ DGet H2 a y o ∧ Q (.bl (if neg then !o.isSome else o.isSome)) H2 := by
  refine hk.sd S H σ ρ _ rl (h.bind fun kd y S1 H1 x1 d1 h1 => ?_)
  refine hd.sd S1 H1 σ ρ _ (rl.mono x1) (h1.bind fun d v S2 H2 x2 d2 h2 => ?_)
  unfold gDin at h2
  split at h2
  · rename_i kvs
    split at h2
    · rename_i c
      obtain ⟨c1, c2⟩ := and_split c
      cases ek : toKey kd with
      | none => rw [ek] at h2; exact h2.elim
      | some k =>
        rw [ek] at h2
        dsimp only at h2
        obtain ⟨a, rfl, q⟩ := dv_dict d2
        obtain ⟨es, g1, g2, g3⟩ := plain_of c1 (ne_emp c2) q
        refine ⟨a, valV es k, rfl, .inl ⟨es, k, same_rd x2.sh g1, toKey_dv (d1.mono x2.s) ek, rfl⟩, ?_⟩
        have e : (valV es k).isSome = (dAt kvs k).isSome := by
          rcases dAt_val k g2 g3 with ⟨z1, z2⟩ | ⟨d', v', z1, z2, z3⟩
          · rw [z1, z2]; rfl
          · rw [z1, z2]; rfl
        rw [e]
        exact h2.ok0 x2.sh rfl
    · exact h2.elim
  · exact h2.elim
theorem pd_din (hu : X.A.units + 65 < cLine) (hk : PD K mg X E i ty fk) (hd : PD K mg X E o td fd) (hm : behindInMarks .In o = false := by rfl) : PD K mg X E (.Compare i [.In] [o] pos) (tDIn ty td) (fBin (gDin false) fk fd) := ⟨pe_cmp (pc_din (hu1 hu) hk.pe hd.pe) hm, din_sd false hk hd⟩
theorem pd_dnotin (hu : X.A.units + 65 < cLine) (hk : PD K mg X E i ty fk) (hd : PD K mg X E o td fd) (hm : behindInMarks .NotIn o = false := by rfl) : PD K mg X E (.Compare i [.NotIn] [o] pos) (tDNotIn ty td) (fBin (gDin true) fk fd) := ⟨pe_cmp (pc_dnotin (hu1 hu) hk.pe hd.pe) hm, din_sd true hk hd⟩
theorem td_din (hu : X.A.units + 65 < cLine) (hk : PD K mg X E i ty fk) (hd : PD K mg X E o td fd) (hm : behindInMarks .In o = false := by rfl) : TD K mg X E (.Compare i [.In] [o] pos) (tTest (tDIn ty td)) (fTest (fBin (gDin false) fk fd)) := ⟨pt_cmp (pc_din (hu1 hu) hk.pe hd.pe) hm, fun S H σ ρ Q rl h => test_sd (pd_din (pos := pos) hu hk hd hm) S H σ ρ Q rl h⟩
theorem td_dnotin (hu : X.A.units + 65 < cLine) (hk : PD K mg X E i ty fk) (hd : PD K mg X E o td fd) (hm : behindInMarks .NotIn o = false := by rfl) : TD K mg X E (.Compare i [.NotIn] [o] pos) (tTest (tDNotIn ty td)) (fTest (fBin (gDin true) fk fd)) := ⟨pt_cmp (pc_dnotin (hu1 hu) hk.pe hd.pe) hm, fun S H σ ρ Q rl h => test_sd (pd_dnotin (pos := pos) hu hk hd hm) S H σ ρ Q rl h⟩
/-! d.get(k, x) -/
def asDict : D → Res (List (D × D))
  | .dict kvs => if plainK kvs = true then .ok kvs else .bad
  | _ => .bad
def gGet2 (kvs : List (D × D)) (kd x : D) : Res D := match toKey kd with
  | some k => .ok ((dAt kvs k).getD x)
  | none => .bad
def fGet2 (fd fk fx : DEnv → Res D) : DEnv → Res D := fun ρ => (fd ρ).bind fun d => (asDict d).bind fun kvs => (fk ρ).bind fun kd => (fx ρ).bind fun x => gGet2 kvs kd x
theorem dk_of_plain {S : Hp} {a : Addr} {kvs : List (D × D)} (hp : plainK kvs = true) (h : (∃ es : List (Key × V), Rd S a (.dK es) ∧ kvs.map (·.1) = es.map (fun e => kD e.1) ∧ DVp K S (es.map (·.2)) kvs) ∨
      (∃ es : List (List Key × V), Rd S a (.dT es) ∧ kvs.map (·.1) = es.map (fun e => PyData.tuple (e.1.map kD)) ∧ DVp K S (es.map (·.2)) kvs)) : (∃ es : List (Key × V), Rd S a (.dK es) ∧ kvs.map (·.1) = es.map (fun e => kD e.1) ∧ DVp K S (es.map (·.2)) kvs) ∨ (kvs = [] ∧ Rd S a (.dT [])) := by
  by_cases hn : kvs = []
  · subst hn
    rcases h with h | ⟨es, h1, h2, h3⟩
    · exact .inl h
    · cases es with
      | nil => exact .inr ⟨rfl, h1⟩
      | cons _ _ => cases h2
  · exact .inl (plain_of hp hn h)
end
end PD
namespace PD
open PySem L2
/-! ### expressions and tests that may read what a slot owns -/
structure PDO (K : PySem.W.Frag) (mg : Str → Option Value) (X : Cx) (E : XK) (e : Expr) (t : TE) (f : DEnv → Res D) : Prop where
  pe : PE X e t
  sd : ∀ (S0 H0 S H : Hp) (σ : L2.St) (ρ : DEnv) (Q : VK), Rel K S0 H0 S H σ ρ → PostG mg E S H (DV K) (f ρ) Q → t σ H Q
structure TDO (K : PySem.W.Frag) (mg : Str → Option Value) (X : Cx) (E : XK) (e : Expr) (t : TT) (f : DEnv → Res Bool) : Prop where
  pe : PT X e t
  sd : ∀ (S0 H0 S H : Hp) (σ : L2.St) (ρ : DEnv) (Q : Bool → Hp → Prop), Rel K S0 H0 S H σ ρ → PostG mg E S H EqB (f ρ) Q → t σ H Q
def kAt {κ : Type} [DecidableEq κ] : List (κ × D) → κ → Option D
  | [], _ => none
  | (a, d) :: r, k => if a = k then some d else kAt r k
theorem kAt_val {K : PySem.W.Frag} {S : Hp} {κ : Type} [DecidableEq κ] (k : κ) : ∀ {kvs : List (κ × D)} {es : List (κ × V)}, es.map (·.1) = kvs.map (·.1) → DVs K S (es.map (·.2)) (kvs.map (·.2)) → (kAt kvs k = none ∧ valV es k = none) ∨ ∃ d v, kAt kvs k = some d ∧ valV es k = some v ∧ DV K S v d
  | [], [], _, _ => .inl ⟨rfl, rfl⟩
  | (a, d) :: r, (e, v) :: es, hk, hd => by
    have h1 : e = a := (List.cons.inj hk).1
    have h2 : es.map (·.1) = r.map (·.1) := (List.cons.inj hk).2
    subst h1
    by_cases he : e = k
    · refine .inr ⟨d, v, ?_, valV_pos he, hd.1⟩
      unfold kAt
      rw [if_pos he]
    · have e1 : kAt ((e, d) :: r) k = kAt r k := by
        conv => lhs; unfold kAt
        rw [if_neg he]
      have e2 : valV ((e, v) :: es) k = valV es k := by
        unfold valV
        rw [List.find?_cons]
        have : decide ((e, v).1 = k) = false := decide_eq_false he
        rw [this]
      rw [e1, e2]
      exact kAt_val k h2 hd.2
  | [], _ :: _, hk, _ => by cases hk
  | _ :: _, [], hk, _ => by cases hk
/-- stored: in its place, or at the end -/
def kPut {κ : Type} [DecidableEq κ] (kvs : List (κ × D)) (k : κ) (d : D) : List (κ × D) := if (kvs.any fun kv => decide (kv.1 = k)) = true then kvs.map (fun kv => if kv.1 = k then (kv.1, d) else kv) else kvs ++ [(k, d)]
theorem keys_any {α β κ : Type} [DecidableEq κ] {es : List (κ × α)} {kvs : List (κ × β)} (k : κ) (h : es.map (·.1) = kvs.map (·.1)) : (es.any fun kv => decide (kv.1 = k)) = kvs.any fun kv => decide (kv.1 = k) := by
  have e1 : (es.any fun kv => decide (kv.1 = k)) = (es.map (·.1)).any fun a => decide (a = k) := by rw [List.any_map]; rfl
  have e2 : (kvs.any fun kv => decide (kv.1 = k)) = (kvs.map (·.1)).any fun a => decide (a = k) := by rw [List.any_map]; rfl
  rw [e1, e2, h]
theorem put_in {K : PySem.W.Frag} {S : Hp} {κ : Type} [DecidableEq κ] (k : κ) {v : V} {d : D} (hv : DV K S v d) : ∀ {es : List (κ × V)} {kvs : List (κ × D)}, es.map (·.1) = kvs.map (·.1) → DVs K S (es.map (·.2)) (kvs.map (·.2)) →
    (es.map (fun kv => if kv.1 = k then (kv.1, v) else kv)).map (·.1) = (kvs.map (fun kv => if kv.1 = k then (kv.1, d) else kv)).map (·.1) ∧ DVs K S ((es.map (fun kv => if kv.1 = k then (kv.1, v) else kv)).map (·.2)) ((kvs.map (fun kv => if kv.1 = k then (kv.1, d) else kv)).map (·.2))
  | [], [], _, _ => ⟨rfl, trivial⟩
  | (e, u) :: es, (a, b) :: kvs, hk, hd => by
    have h1 : e = a := (List.cons.inj hk).1
    subst h1
    obtain ⟨i1, i2⟩ := put_in k hv (es := es) (kvs := kvs) (List.cons.inj hk).2 hd.2
    simp only [List.map_cons]
    by_cases he : e = k
    · simp only [he, if_true]
      exact ⟨by rw [i1], hv, i2⟩
    · simp only [he, if_false]
      exact ⟨by rw [i1], hd.1, i2⟩
  | [], _ :: _, hk, _ => by cases hk
  | _ :: _, [], hk, _ => by cases hk
theorem kPut_ok {K : PySem.W.Frag} {S : Hp} {κ : Type} [DecidableEq κ] (k : κ) {v : V} {d : D} (hv : DV K S v d) {es : List (κ × V)} {kvs : List (κ × D)} (h1 : es.map (·.1) = kvs.map (·.1)) (h2 : DVs K S (es.map (·.2)) (kvs.map (·.2))) :
    (putK es k v).map (·.1) = (kPut kvs k d).map (·.1) ∧ DVs K S ((putK es k v).map (·.2)) ((kPut kvs k d).map (·.2)) := by
  unfold putK kPut
  rw [keys_any k h1]
  split
  · exact put_in k hv h1 h2
  · rw [List.map_append, List.map_append, List.map_append, List.map_append, h1]
    exact ⟨rfl, h2.append ⟨hv, trivial⟩⟩
/-- keys that are tuples of ints -/
def kOf : D → Key
  | .int i => Sum.inl i
  | _ => Sum.inl 0
def toKeyT : D → Option (List Key)
  | .tuple ds => if keyT ds = true then some (ds.map kOf) else none
  | _ => none
theorem dvs_keys {K : PySem.W.Frag} {S : Hp} : ∀ {vs : List V} {ds : List D}, allInt ds = true → DVs K S vs ds → vs = (ds.map kOf).map kV
  | [], [], _, _ => rfl
  | v :: vs, d :: ds, ha, h => by
    unfold allInt at ha
    rw [List.all_cons, Bool.and_eq_true] at ha
    rw [List.map_cons, List.map_cons, dvs_keys (vs := vs) (ds := ds) ha.2 h.2]
    cases d with
    | int i =>
      have : v = V.int i := h.1
      rw [this]
      rfl
    | _ => cases ha.1
  | [], _ :: _, _, h => h.elim
  | _ :: _, [], _, h => h.elim
theorem toKeyT_dv {K : PySem.W.Frag} {S : Hp} {v : V} {d : D} {k : List Key} (h : DV K S v d) (e : toKeyT d = some k) : ∃ b, v = .ref b ∧ S b = some (.tup (k.map kV)) := by
  cases d with
  | tuple ds =>
    unfold toKeyT at e
    dsimp only at e
    split at e
    · rename_i hk
      cases e
      rw [DV] at h
      obtain ⟨a, us, rfl, h1, h2⟩ := h
      have ha : allInt ds = true := (and_split hk).1
      refine ⟨a, rfl, ?_⟩
      rw [← dvs_keys ha h2]
      exact h1.2 hk
    · cases e
  | _ => cases e
/-- a slot's dict, read at a key: by the kind of the keys -/
def ownAt (s : Slot) (kd : D) : Option (Option D) := match s with
  | .ownK kvs => (toKey kd).map fun k => kAt kvs k
  | .ownT kvs => (toKeyT kd).map fun k => kAt kvs k
  | _ => none
theorem ownAt_get {K : PySem.W.Frag} {S H : Hp} {p : Addr} {s : Slot} {kd : D} {y : V} {o : Option D} (sh : Same S H) (hs : OwnOk K S H p s) (hy : DV K S y kd) (e : ownAt s kd = some o) : ∃ ov : Option V, DGet H p y ov ∧ ((o = none ∧ ov = none) ∨ ∃ d v, o = some d ∧ ov = some v ∧ DV K S v d) := by
  cases s with
  | ownK kvs =>
    obtain ⟨es, h1, h2, h3⟩ := hs
    unfold ownAt at e
    dsimp only at e
    cases ek : toKey kd with
    | none => rw [ek] at e; cases e
    | some k =>
      rw [ek] at e
      cases e
      refine ⟨valV es k, .inl ⟨es, k, .inl h1, toKey_dv hy ek, rfl⟩, kAt_val k h2 h3⟩
  | ownT kvs =>
    obtain ⟨es, h1, h2, h3⟩ := hs
    unfold ownAt at e
    dsimp only at e
    cases ek : toKeyT kd with
    | none => rw [ek] at e; cases e
    | some k =>
      rw [ek] at e
      cases e
      obtain ⟨b, rfl, hb⟩ := toKeyT_dv hy ek
      refine ⟨valV es k, .inr ⟨es, k, b, .inl h1, rfl, sh _ _ hb, rfl⟩, kAt_val k h2 h3⟩
  | _ => cases e
theorem ownOk_isD {K : PySem.W.Frag} {S H : Hp} {p : Addr} {s : Slot} {kd : D} {o : Option D} (hs : OwnOk K S H p s) (e : ownAt s kd = some o) : IsD H p := by
  cases s with
  | ownK kvs => obtain ⟨es, h1, _⟩ := hs; exact .inl ⟨es, .inl h1⟩
  | ownT kvs => obtain ⟨es, h1, _⟩ := hs; exact .inr ⟨es, .inl h1⟩
  | _ => cases e
theorem own_of {s : Slot} {kd : D} {o : Option D} (e : ownAt s kd = some o) : isOwn s = true := by
  cases s with
  | ownK kvs => rfl
  | ownT kvs => rfl
  | _ => cases e
section
variable {K : PySem.W.Frag} {mg : Str → Option Value} {X : Cx} {E : XK} {a b e o : Expr} {ta tb te ty tx : TE} {fa fb f fk fx : DEnv → Res D} {pos : Pos}
theorem pdo_of (h : PD K mg X E e te f) : PDO K mg X E e te f := ⟨h.pe, fun S0 H0 S H σ ρ Q r q => h.sd S H σ ρ Q r.relE q⟩
theorem pdo_op {op : Operator} {r : R2} {g : D → D → Res D} (ho : OpR X (binaryOp op) r) (hs : OpS K mg E r g) (ha : PDO K mg X E a ta fa) (hb : PDO K mg X E b tb fb) : PDO K mg X E (.BinOp a op b pos) (tOp r ta tb) (fBin g fa fb) :=
  ⟨pe_op ho ha.pe hb.pe, fun S0 H0 S H σ ρ Q rl h => by
    refine ha.sd S0 H0 S H σ ρ _ rl (h.bind fun x v S1 H1 x1 d1 h1 => ?_)
    refine hb.sd S0 H0 S1 H1 σ ρ _ (rl.ext x1) (h1.bind fun y u S2 H2 x2 d2 h2 => ?_)
    exact hs S2 H2 v u x y Q x2.sh (d1.mono x2.s) d2 h2⟩
theorem use_pdo (he : PDO K mg X E e te f) : Use K mg E te f := fun S0 H0 S H σ ρ N k Q r h hk =>
  he.sd S0 H0 S H σ ρ _ r (post_of r h fun a w S' H' _ x q h => hk a w S' H' (r.ext x) x.s x.h q h)
/-- a slot that owns a dict -/
def isDk : Slot → Bool
  | .ownK _ => true
  | .ownT _ => true
  | _ => false
theorem isDk_own {s : Slot} (h : isDk s = true) : isOwn s = true := by cases s <;> first | rfl | cases h
theorem isDk_isD {S H : Hp} {p : Addr} {s : Slot} (h : isDk s = true) (hs : OwnOk K S H p s) : IsD H p := by
  cases s with
  | ownK kvs => obtain ⟨es, h1, _⟩ := hs; exact .inl ⟨es, .inl h1⟩
  | ownT kvs => obtain ⟨es, h1, _⟩ := hs; exact .inr ⟨es, .inl h1⟩
  | _ => cases h
def onDk {α : Type} (i : Nat) (k : Slot → DEnv → Res α) : DEnv → Res α := fun ρ => match ρ[i]? with
  | some s => if isDk s = true then k s ρ else .bad
  | none => .bad
theorem onDk_of {α W : Type} {i : Nat} {k : Slot → DEnv → Res α} {S0 H0 S H : Hp} {σ : L2.St} {ρ : DEnv} {R : Hp → W → α → Prop} {Q : W → Hp → Prop} (rl : Rel K S0 H0 S H σ ρ) (h : PostG mg E S H R (onDk i k ρ) Q) : ∃ s q, ρ[i]? = some s ∧ isDk s = true ∧ σ[i]? = some (some (.ref q)) ∧ S q = none ∧ H0 q = none ∧ OwnOk K S H q s ∧ PostG mg E S H R (k s ρ) Q := by
  unfold onDk at h
  cases es : ρ[i]? with
  | none => rw [es] at h; exact h.elim
  | some s =>
    rw [es] at h
    dsimp only at h
    split at h
    · rename_i hd
      obtain ⟨q, g1, g2, g3, g4⟩ := rl.own i s es (isDk_own hd)
      exact ⟨s, q, rfl, hd, g1, g2, g3, g4, h⟩
    · exact h.elim
/-- x[k], x owned -/
def fOget (i : Nat) (fk : DEnv → Res D) : DEnv → Res D := onDk i fun s ρ => (fk ρ).bind fun kd => match ownAt s kd with
    | some (some d) => .ok d
    | _ => .bad
theorem pdo_get {i : Nat} {x : Str} {p : Pos} (hu : X.A.units + 65 < cLine) (hv : PE X (.Name x p) (tVar i)) (hk : PD K mg X E e ty fk) (hs : NoSl e := by exact fun _ _ => rfl) : PDO K mg X E (.Subscript (.Name x p) e pos) (tDGet (tVar i) ty) (fOget i fk) :=
  ⟨pe_dget (hu1 hu) hv hk.pe hs, fun S0 H0 S H σ ρ Q rl h => by
    obtain ⟨s, q, es, hd, g1, g2, g3, g4, h⟩ := onDk_of rl h
    refine ⟨_, g1, hk.sd S H σ ρ _ rl.relE (h.bind fun kd y S1 H1 x1 d1 h1 => ?_)⟩
    cases ea : ownAt s kd with
    | none => rw [ea] at h1; exact h1.elim
    | some od =>
      rw [ea] at h1
      cases od with
      | none => exact h1.elim
      | some d =>
        obtain ⟨ov, k1, k2⟩ := ownAt_get x1.sh (g4.mono x1.s fun _ z => x1.h _ _ z) d1 ea
        rcases k2 with ⟨z, _⟩ | ⟨d', v, z1, z2, z3⟩
        · cases z
        · cases z1
          subst z2
          exact ⟨q, v, rfl, k1, h1.ok0 x1.sh z3⟩⟩
/-- x.get(k, d), x owned -/
def fOget2 (i : Nat) (fk fx : DEnv → Res D) : DEnv → Res D := onDk i fun s ρ => (fk ρ).bind fun kd => (fx ρ).bind fun x => match ownAt s kd with
    | some o => .ok (o.getD x)
    | _ => .bad
theorem pdo_get2 {i : Nat} {x : Str} {p apos : Pos} (hu : X.A.units + 65 < cLine) (hv : PE X (.Name x p) (tVar i)) (hk : PD K mg X E a ty fk) (hx : PD K mg X E b tx fx)
    (h1 : attributeBase (.Name x p) "get" X.env (eval (.Name x p) X.env) = eval (.Name x p) X.env := by rfl)
    (h2 : ((backTo pos (starEach [a, b] X.env)).all (fun x => !x.1) && (backToKw pos (keywordEach [] X.env)).all (fun x => x.1.isSome) && decide (([a, b] : List Expr).length + ([] : List Keyword).length + (if ([] : List Keyword).isEmpty then 0 else 1) < 30)) = true := by rfl)
    (h3 : (apos.endLine == pos.line) = true := by rfl) (h4 : backTo pos (starEach [a, b] X.env) = [(false, eval a X.env), (false, eval b X.env)] := by rfl) :
    PDO K mg X E (.Call (.Attribute (.Name x p) "get" apos) [a, b] [] pos) (tDGet2 (tVar i) ty tx) (fOget2 i fk fx) :=
  ⟨pe_dget2 (hu1 hu) hv hk.pe hx.pe ⟨h1, h2, h3, h4⟩, fun S0 H0 S H σ ρ Q rl h => by
    obtain ⟨s, q, es, hd, g1, g2, g3, g4, h⟩ := onDk_of rl h
    refine ⟨_, g1, q, rfl, isDk_isD hd g4, hk.sd S H σ ρ _ rl.relE (h.bind fun kd y S1 H1 x1 d1 h1 => ?_)⟩
    refine hx.sd S1 H1 σ ρ _ (rl.relE.mono x1) (h1.bind fun dx z S2 H2 x2 d2 h2 => ?_)
    cases ea : ownAt s kd with
    | none => rw [ea] at h2; exact h2.elim
    | some o =>
      rw [ea] at h2
      obtain ⟨ov, k1, k2⟩ := ownAt_get x2.sh (g4.mono (x1.s.trans x2.s) fun _ z => x2.h _ _ (x1.h _ _ z)) (d1.mono x2.s) ea
      rcases k2 with ⟨z1, z2⟩ | ⟨d', v, z1, z2, z3⟩
      · subst z1 z2
        exact ⟨none, k1, h2.ok0 x2.sh d2⟩
      · subst z1 z2
        exact ⟨some v, k1, h2.ok0 x2.sh z3⟩⟩
/-- k in x, k not in x, x owned -/
def gOin (neg : Bool) (i : Nat) (fk : DEnv → Res D) : DEnv → Res Bool := fun ρ => (fk ρ).bind fun kd => onDk i (fun s _ => match ownAt s kd with
    | some o => .ok (if neg then !o.isSome else o.isSome)
    | _ => .bad) ρ
theorem oin_sd (neg : Bool) {i : Nat} (hk : PD K mg X E e ty fk) (S0 H0 S H : Hp) (σ : L2.St) (ρ : DEnv) (Q : Bool → Hp → Prop) (rl : Rel K S0 H0 S H σ ρ) (h : PostG mg E S H EqB (gOin neg i fk ρ) Q) :
    ty σ H fun y H1 => tVar i σ H1 fun x H2 => ∃ a o, x = .ref a ∧ DGet H2 a y o ∧ ∃ c, V.bl (if neg then !o.isSome else o.isSome) = .bl c ∧ Q c H2 := by
  refine hk.sd S H σ ρ _ rl.relE (h.bind fun kd y S1 H1 x1 d1 h1 => ?_)
  obtain ⟨s, q, es, hd, g1, g2, g3, g4, h1⟩ := onDk_of (rl.ext x1) h1
  cases ea : ownAt s kd with
  | none => rw [ea] at h1; exact h1.elim
  | some o =>
    rw [ea] at h1
    obtain ⟨ov, k1, k2⟩ := ownAt_get x1.sh g4 d1 ea
    refine ⟨_, g1, q, ov, rfl, k1, ?_⟩
    have e : ov.isSome = o.isSome := by
      rcases k2 with ⟨z1, z2⟩ | ⟨d', v, z1, z2, z3⟩
      · rw [z1, z2]; rfl
      · rw [z1, z2]; rfl
    rw [e]
    exact ⟨_, rfl, h1.ok0 x1.sh rfl⟩
theorem tdo_in {i : Nat} {x : Str} {p : Pos} (hu : X.A.units + 65 < cLine) (hv : PE X (.Name x p) (tVar i)) (hk : PD K mg X E e ty fk) (hm : behindInMarks .In (.Name x p) = false := by rfl) : TDO K mg X E (.Compare e [.In] [.Name x p] pos) (tB (tDIn ty (tVar i))) (gOin false i fk) :=
  ⟨pt_cmp (pc_din (hu1 hu) hk.pe hv) hm, fun S0 H0 S H σ ρ Q rl h => oin_sd false hk S0 H0 S H σ ρ Q rl h⟩
theorem tdo_notin {i : Nat} {x : Str} {p : Pos} (hu : X.A.units + 65 < cLine) (hv : PE X (.Name x p) (tVar i)) (hk : PD K mg X E e ty fk) (hm : behindInMarks .NotIn (.Name x p) = false := by rfl) : TDO K mg X E (.Compare e [.NotIn] [.Name x p] pos) (tB (tDNotIn ty (tVar i))) (gOin true i fk) :=
  ⟨pt_cmp (pc_dnotin (hu1 hu) hk.pe hv) hm, fun S0 H0 S H σ ρ Q rl h => oin_sd true hk S0 H0 S H σ ρ Q rl h⟩
theorem tdo_of {t : TT} {g : DEnv → Res Bool} (h : TD K mg X E e t g) : TDO K mg X E e t g := ⟨h.pe, fun S0 H0 S H σ ρ Q rl q => h.sd S H σ ρ Q rl.relE q⟩
/-- a and b, of two -/
theorem tdo_and {tA tB' : TT} {gA gB : DEnv → Res Bool} (ha : TDO K mg X E a tA gA) (hb : TDO K mg X E b tB' gB) : TDO K mg X E (.BoolOp .And [a, b] pos) (tAnd tA tB') (fAnd gA gB) :=
  ⟨(pw_and ha.pe (pw_and1 hb.pe)).pt, fun S0 H0 S H σ ρ Q rl h => ha.sd S0 H0 S H σ ρ _ rl (h.bind fun k w S1 H1 x1 e h1 => by
    cases e
    cases k with
    | true => exact hb.sd S0 H0 S1 H1 σ ρ Q (rl.ext x1) h1
    | false => exact h1.ok0 x1.sh rfl)⟩
def sIfO (g : DEnv → Res Bool) (F G : DEnv → SR) : DEnv → SR := fun ρ => ofRes (g ρ) fun b => if b = true then F ρ else G ρ
theorem sd_ifO {c : Expr} {as bs : List Stmt} {tc : TT} {t u : TS} {F G : DEnv → SR} {g : DEnv → Res Bool} (hc : TDO K mg X E c tc g) (ha : SDs K mg X E as t F) (hb : SDs K mg X E bs u G) : SD K mg X E (.If c as bs pos) (tIfS tc t u) (sIfO g F G) := ⟨ps_if hc.pe ha.ps hb.ps, fun S0 H0 S H σ ρ N r h =>
  hc.sd S0 H0 S H σ ρ _ r (post_of r h fun k w S' H' _ x q h => by
    cases q
    have r' := r.ext x
    cases k with
    | true => exact ha.sd S0 H0 S' H' σ ρ N r' (SPost.mono h x.s)
    | false => exact hb.sd S0 H0 S' H' σ ρ N r' (SPost.mono h x.s))⟩
/-- x = {} -/
def sOwnD (tk : Bool) (i : Nat) : DEnv → SR := fun ρ => .next (ρ.set i (if tk = true then .ownT [] else .ownK []))
theorem sd_ownK {i : Nat} {x : Str} {pos' p2 : Pos} (hN : X.N.Nodup) (hi : X.N[i]? = some x) (hx : Loc X.env.scope x := by first | exact Or.inl rfl | exact Or.inr rfl) (hs : swapsWith (.Dict [] [] p2) (some (.Name x pos')) pos.line X.env = pure false := by rfl) (hf : X.fn x = true ∨ X.env.scope.names.lookup x = some .local := by first | exact .inl rfl | exact .inr rfl | assumption) :
    SD K mg X E (.Assign [.Name x pos'] (.Dict [] [] p2) pos) (tAsg tDNewK (gName i)) (sOwnD false i) := ⟨ps_set hN hi hx pe_dnewK hs hf, fun S0 H0 S H σ ρ N r h p hp => by
  have sm : Same H (upd H p (.dK [])) := same_upd hp
  refine h S _ _ (Same.refl _) ((r.grow sm).setOwn (s := .ownK []) rfl (r.x.sh.free hp) (r.x.h.free hp) ⟨[], upd_same, rfl, trivial⟩ fun k s' e1 e2 e3 => ?_)
  obtain ⟨q, g1, _, _, g4⟩ := r.own k s' e1 e2
  obtain ⟨u, hu⟩ := g4.some
  rw [e3] at g1
  cases g1
  rw [hp] at hu
  cases hu⟩
theorem sd_ownT {i : Nat} {x : Str} {pos' p2 : Pos} (hN : X.N.Nodup) (hi : X.N[i]? = some x) (hx : Loc X.env.scope x := by first | exact Or.inl rfl | exact Or.inr rfl) (hs : swapsWith (.Dict [] [] p2) (some (.Name x pos')) pos.line X.env = pure false := by rfl) (hf : X.fn x = true ∨ X.env.scope.names.lookup x = some .local := by first | exact .inl rfl | exact .inr rfl | assumption) :
    SD K mg X E (.Assign [.Name x pos'] (.Dict [] [] p2) pos) (tAsg tDNewT (gName i)) (sOwnD true i) := ⟨ps_set hN hi hx pe_dnewT hs hf, fun S0 H0 S H σ ρ N r h p hp => by
  have sm : Same H (upd H p (.dT [])) := same_upd hp
  refine h S _ _ (Same.refl _) ((r.grow sm).setOwn (s := .ownT []) rfl (r.x.sh.free hp) (r.x.h.free hp) ⟨[], upd_same, rfl, trivial⟩ fun k s' e1 e2 e3 => ?_)
  obtain ⟨q, g1, _, _, g4⟩ := r.own k s' e1 e2
  obtain ⟨u, hu⟩ := g4.some
  rw [e3] at g1
  cases g1
  rw [hp] at hu
  cases hu⟩
/-- x[k] = e, x owned -/
def slotPut (s : Slot) (kd d : D) : Option Slot := match s with
  | .ownK kvs => if lenOk (kvs.length + 1) = true then (toKey kd).map fun k => .ownK (kPut kvs k d) else none
  | .ownT kvs => if lenOk (kvs.length + 1) = true then (toKeyT kd).map fun k => .ownT (kPut kvs k d) else none
  | _ => none
theorem slotPut_ok {S H : Hp} {p : Addr} {s s' : Slot} {kd d : D} {y v : V} (sh : Same S H) (hs : OwnOk K S H p s) (hy : DV K S y kd) (hv : DV K S v d) (e : slotPut s kd d = some s') : ∃ o, DPut H p y v (upd H p o) ∧ OwnOk K S (upd H p o) p s' ∧ isOwn s' = true := by
  cases s with
  | ownK kvs =>
    obtain ⟨es, h1, h2, h3⟩ := hs
    unfold slotPut at e
    dsimp only at e
    split at e
    · rename_i hz
      cases ek : toKey kd with
      | none => rw [ek] at e; cases e
      | some k =>
        rw [ek] at e
        cases e
        obtain ⟨q1, q2⟩ := kPut_ok k hv h2 h3
        refine ⟨.dK (putK es k v), .inl ⟨es, k, h1, toKey_dv hy ek, ?_, rfl⟩, ⟨_, upd_same, q1, q2⟩, rfl⟩
        have : es.length = kvs.length := by
          have := congrArg List.length h2
          rw [List.length_map, List.length_map] at this
          exact this
        rw [this]
        exact Nat.lt_of_lt_of_le (Nat.lt_succ_self _) (lenOk.le hz)
    · cases e
  | ownT kvs =>
    obtain ⟨es, h1, h2, h3⟩ := hs
    unfold slotPut at e
    dsimp only at e
    split at e
    · rename_i hz
      cases ek : toKeyT kd with
      | none => rw [ek] at e; cases e
      | some k =>
        rw [ek] at e
        cases e
        obtain ⟨q1, q2⟩ := kPut_ok k hv h2 h3
        obtain ⟨b, rfl, hb⟩ := toKeyT_dv hy ek
        refine ⟨.dT (putK es k v), .inr ⟨es, k, b, h1, rfl, sh _ _ hb, ?_, rfl⟩, ⟨_, upd_same, q1, q2⟩, rfl⟩
        have : es.length = kvs.length := by
          have := congrArg List.length h2
          rw [List.length_map, List.length_map] at this
          exact this
        rw [this]
        exact Nat.lt_of_lt_of_le (Nat.lt_succ_self _) (lenOk.le hz)
    · cases e
  | _ => cases e
def sDput (i : Nat) (fv fk : DEnv → Res D) : DEnv → SR := fun ρ => match ρ[i]? with
  | some s => if isDk s = true then ofRes (fv ρ) fun d => ofRes (fk ρ) fun kd => (match slotPut s kd d with
    | some s' => .next (ρ.set i s')
    | none => .bad) else .bad
  | none => .bad
theorem sd_dput {i : Nat} {x : Str} {p pos' : Pos} {k value : Expr} {tv : TE} {fv : DEnv → Res D} (hu : X.A.units + 65 < cLine) (hv : PE X (.Name x p) (tVar i)) (hk : PD K mg X E k ty fk) (he : PDO K mg X E value tv fv)
    (hs : swapsWith value (some (.Subscript (.Name x p) k pos')) pos.line X.env = pure false := by rfl) : SD K mg X E (.Assign [.Subscript (.Name x p) k pos'] value pos) (sDPut (tVar i) ty tv) (sDput i fv fk) := ⟨ps_dput (hu1 hu) hv hk.pe he.pe hs, fun S0 H0 S H σ ρ N r h => by
  unfold sDput at h
  cases es : ρ[i]? with
  | none => rw [es] at h; exact h.elim
  | some s =>
    rw [es] at h
    dsimp only at h
    split at h
    · rename_i hd
      obtain ⟨q, g1, g2, g3, g4⟩ := r.own i s es (isDk_own hd)
      refine use_pdo he S0 H0 S H σ ρ N _ _ r h fun d v S1 H1 r1 e1 e2 d1 h1 => ?_
      refine ⟨_, g1, hk.sd S1 H1 σ ρ _ r1.relE ?_⟩
      refine post_of r1 (SPost.mono h1 e1) fun kd y S2 H2 _ x2 d2 h2 => ?_
      cases ep : slotPut s kd d with
      | none => rw [ep] at h2; exact h2.elim
      | some s' =>
        rw [ep] at h2
        have r2 := r1.ext x2
        obtain ⟨q', k1, k2, k3, k4⟩ := r2.own i s es (isDk_own hd)
        rw [g1] at k1
        cases k1
        obtain ⟨o, w1, w2, w3⟩ := slotPut_ok x2.sh k4 d2 (d1.mono x2.s) ep
        exact ⟨q, _, rfl, w1, h2 S2 _ σ x2.s (r2.mut es (isDk_own hd) w3 g1 w2)⟩
    · exact h.elim⟩
end
end PD
namespace PD
open PySem L2
/-! ### shared dicts, of either kind of keys -/
def tupK : List (D × D) → Bool
  | [] => true
  | (a, _) :: r => (toKeyT a).isSome && tupK r
def dAtT : List (D × D) → List Key → Option D
  | [], _ => none
  | (a, d) :: r, k => if toKeyT a = some k then some d else dAtT r k
def dLook (kvs : List (D × D)) (kd : D) : Option (Option D) := if kvs.isEmpty = true then none else if plainK kvs = true then (toKey kd).map (dAt kvs) else if tupK kvs = true then (toKeyT kd).map (dAtT kvs) else none
theorem kOf_kD : ∀ {k : List Key}, allInt (k.map kD) = true → (k.map kD).map kOf = k
  | [], _ => rfl
  | x :: k, h => by
    unfold allInt at h
    rw [List.map_cons, List.all_cons, Bool.and_eq_true] at h
    rw [List.map_cons, List.map_cons, kOf_kD (k := k) h.2]
    cases x with
    | inl i => rfl
    | inr z => cases h.1
theorem toKeyT_tup {k : List Key} {k' : List Key} (h : toKeyT (.tuple (k.map kD)) = some k') : k = k' := by
  unfold toKeyT at h
  dsimp only at h
  split at h
  · rename_i hk
    cases h
    exact (kOf_kD (and_split hk).1).symm
  · cases h
theorem dAtT_val {K : PySem.W.Frag} {S : Hp} (k : List Key) : ∀ {kvs : List (D × D)} {es : List (List Key × V)}, tupK kvs = true → kvs.map (·.1) = es.map (fun e => PyData.tuple (e.1.map kD)) → DVp K S (es.map (·.2)) kvs → (dAtT kvs k = none ∧ valV es k = none) ∨ ∃ d v, dAtT kvs k = some d ∧ valV es k = some v ∧ DV K S v d
  | [], [], _, _, _ => .inl ⟨rfl, rfl⟩
  | (a, d) :: r, (e, v) :: es, ht, hk, hd => by
    have h1 : a = PyData.tuple (e.map kD) := (List.cons.inj hk).1
    have h2 : r.map (·.1) = es.map (fun e => PyData.tuple (e.1.map kD)) := (List.cons.inj hk).2
    rw [List.map_cons, DVp] at hd
    unfold tupK at ht
    rw [Bool.and_eq_true] at ht
    obtain ⟨k0, ek0⟩ := Option.isSome_iff_exists.mp ht.1
    have e0 : e = k0 := toKeyT_tup (by rw [← h1]; exact ek0)
    subst e0
    by_cases he : e = k
    · refine .inr ⟨d, v, ?_, valV_pos he, hd.1⟩
      unfold dAtT
      rw [ek0, he, if_pos rfl]
    · have e1 : dAtT ((a, d) :: r) k = dAtT r k := by
        conv => lhs; unfold dAtT
        rw [ek0, if_neg (fun z => he (Option.some.inj z))]
      have e2 : valV ((e, v) :: es) k = valV es k := by
        unfold valV
        rw [List.find?_cons]
        have : decide ((e, v).1 = k) = false := decide_eq_false he
        rw [this]
      rw [e1, e2]
      exact dAtT_val k ht.2 h2 hd.2
  | [], _ :: _, _, hk, _ => by cases hk
  | _ :: _, [], _, hk, _ => by cases hk
theorem tup_of {K : PySem.W.Frag} {S : Hp} {a : Addr} {kvs : List (D × D)} (hp : tupK kvs = true) (hn : kvs ≠ []) (h : (∃ es : List (Key × V), Rd S a (.dK es) ∧ kvs.map (·.1) = es.map (fun e => kD e.1) ∧ DVp K S (es.map (·.2)) kvs) ∨
      (∃ es : List (List Key × V), Rd S a (.dT es) ∧ kvs.map (·.1) = es.map (fun e => PyData.tuple (e.1.map kD)) ∧ DVp K S (es.map (·.2)) kvs)) : ∃ es : List (List Key × V), Rd S a (.dT es) ∧ kvs.map (·.1) = es.map (fun e => PyData.tuple (e.1.map kD)) ∧ DVp K S (es.map (·.2)) kvs := by
  rcases h with ⟨es, h1, h2, h3⟩ | h
  · cases kvs with
    | nil => exact absurd rfl hn
    | cons kv r =>
      obtain ⟨x, d⟩ := kv
      cases es with
      | nil => cases h2
      | cons e es =>
        obtain ⟨k, w⟩ := e
        have h4 : x = kD k := (List.cons.inj h2).1
        subst h4
        unfold tupK at hp
        cases k <;> cases hp
  · exact h
theorem look_get {K : PySem.W.Frag} {S H : Hp} {v y : V} {kvs : List (D × D)} {kd : D} {o : Option D} (sh : Same S H) (hd : DV K S v (.dict kvs)) (hy : DV K S y kd) (e : dLook kvs kd = some o) : ∃ a ov, v = .ref a ∧ IsD H a ∧ DGet H a y ov ∧ ((o = none ∧ ov = none) ∨ ∃ d w, o = some d ∧ ov = some w ∧ DV K S w d) := by
  unfold dLook at e
  split at e
  · cases e
  · rename_i hn
    have hn : kvs ≠ [] := fun z => hn (by rw [z]; rfl)
    obtain ⟨a, rfl, q⟩ := dv_dict hd
    split at e
    · rename_i hp
      obtain ⟨es, g1, g2, g3⟩ := plain_of hp hn q
      cases ek : toKey kd with
      | none => rw [ek] at e; cases e
      | some k =>
        rw [ek] at e
        cases e
        exact ⟨a, valV es k, rfl, .inl ⟨es, rd_same sh g1⟩, .inl ⟨es, k, rd_same sh g1, toKey_dv hy ek, rfl⟩, dAt_val k g2 g3⟩
    · split at e
      · rename_i hp
        obtain ⟨es, g1, g2, g3⟩ := tup_of hp hn q
        cases ek : toKeyT kd with
        | none => rw [ek] at e; cases e
        | some k =>
          rw [ek] at e
          cases e
          obtain ⟨b, rfl, hb⟩ := toKeyT_dv hy ek
          exact ⟨a, valV es k, rfl, .inr ⟨es, rd_same sh g1⟩, .inr ⟨es, k, b, rd_same sh g1, rfl, sh _ _ hb, rfl⟩, dAtT_val k hp g2 g3⟩
      · cases e
theorem look_isD {K : PySem.W.Frag} {S H : Hp} {v : V} {kvs : List (D × D)} (sh : Same S H) (hd : DV K S v (.dict kvs)) : ∃ a, v = .ref a ∧ IsD H a := by
  obtain ⟨a, rfl, q⟩ := dv_dict hd
  rcases q with ⟨es, g1, _⟩ | ⟨es, g1, _⟩
  · exact ⟨a, rfl, .inl ⟨es, rd_same sh g1⟩⟩
  · exact ⟨a, rfl, .inr ⟨es, rd_same sh g1⟩⟩
section
variable {K : PySem.W.Frag} {mg : Str → Option Value} {X : Cx} {E : XK} {o i a b : Expr} {td ty tx : TE} {fd fk fx : DEnv → Res D} {pos apos : Pos}
def asD : D → Res (List (D × D))
  | .dict kvs => .ok kvs
  | _ => .bad
/-! d[k] -/
def gSix (d kd : D) : Res D := (asD d).bind fun kvs => match dLook kvs kd with
  | some (some x) => .ok x
  | _ => .bad
theorem pd_sget (hu : X.A.units + 65 < cLine) (hd : PD K mg X E o td fd) (hk : PD K mg X E i ty fk) (hs : NoSl i := by exact fun _ _ => rfl) : PD K mg X E (.Subscript o i pos) (tDGet td ty) (fBin gSix fd fk) := ⟨pe_dget (hu1 hu) hd.pe hk.pe hs, fun S H σ ρ Q rl h => by
  refine hd.sd S H σ ρ _ rl (h.bind fun d v S1 H1 x1 d1 h1 => ?_)
  refine hk.sd S1 H1 σ ρ _ (rl.mono x1) (h1.bind fun kd y S2 H2 x2 d2 h2 => ?_)
  unfold gSix at h2
  cases d with
  | dict kvs =>
    have h2 : PostG mg E S2 H2 (DV K) (match dLook kvs kd with
      | some (some x) => .ok x
      | _ => .bad) Q := h2
    cases el : dLook kvs kd with
    | none => rw [el] at h2; exact h2.elim
    | some od =>
      rw [el] at h2
      cases od with
      | none => exact h2.elim
      | some dd =>
        obtain ⟨a, ov, rfl, _, k1, k2⟩ := look_get x2.sh (d1.mono x2.s) d2 el
        rcases k2 with ⟨z, _⟩ | ⟨d', w, z1, z2, z3⟩
        · cases z
        · cases z1
          subst z2
          exact ⟨a, w, rfl, k1, h2.ok0 x2.sh z3⟩
  | _ => exact h2.elim⟩
/-! k in d, k not in d -/
def gSin (neg : Bool) (kd d : D) : Res D := (asD d).bind fun kvs => match dLook kvs kd with
  | some o => .ok (.bool (if neg then !o.isSome else o.isSome))
  | _ => .bad
theorem sin_sd (neg : Bool) (hk : PD K mg X E i ty fk) (hd : PD K mg X E o td fd) (S H : Hp) (σ : L2.St) (ρ : DEnv) (Q : VK) (rl : RelE K S H σ ρ) (h : PostG mg E S H (DV K) (fBin (gSin neg) fk fd ρ) Q) :
    ty σ H fun y H1 => td σ H1 fun x H2 => ∃ a o, x = .ref a ∧ DGet H2 a y o ∧ Q (.bl (if neg then !o.isSome else o.isSome)) H2 := by
  refine hk.sd S H σ ρ _ rl (h.bind fun kd y S1 H1 x1 d1 h1 => ?_)
  refine hd.sd S1 H1 σ ρ _ (rl.mono x1) (h1.bind fun d v S2 H2 x2 d2 h2 => ?_)
  unfold gSin at h2
  cases d with
  | dict kvs =>
    have h2 : PostG mg E S2 H2 (DV K) (match dLook kvs kd with
      | some o => .ok (.bool (if neg then !o.isSome else o.isSome))
      | _ => .bad) Q := h2
    cases el : dLook kvs kd with
    | none => rw [el] at h2; exact h2.elim
    | some od =>
      rw [el] at h2
      obtain ⟨a, ov, rfl, _, k1, k2⟩ := look_get x2.sh d2 (d1.mono x2.s) el
      refine ⟨a, ov, rfl, k1, ?_⟩
      have e : ov.isSome = od.isSome := by
        rcases k2 with ⟨z1, z2⟩ | ⟨d', w, z1, z2, z3⟩
        · rw [z1, z2]; rfl
        · rw [z1, z2]; rfl
      rw [e]
      exact h2.ok0 x2.sh rfl
  | _ => exact h2.elim
theorem pd_sin (hu : X.A.units + 65 < cLine) (hk : PD K mg X E i ty fk) (hd : PD K mg X E o td fd) (hm : behindInMarks .In o = false := by rfl) : PD K mg X E (.Compare i [.In] [o] pos) (tDIn ty td) (fBin (gSin false) fk fd) := ⟨pe_cmp (pc_din (hu1 hu) hk.pe hd.pe) hm, sin_sd false hk hd⟩
theorem pd_snotin (hu : X.A.units + 65 < cLine) (hk : PD K mg X E i ty fk) (hd : PD K mg X E o td fd) (hm : behindInMarks .NotIn o = false := by rfl) : PD K mg X E (.Compare i [.NotIn] [o] pos) (tDNotIn ty td) (fBin (gSin true) fk fd) := ⟨pe_cmp (pc_dnotin (hu1 hu) hk.pe hd.pe) hm, sin_sd true hk hd⟩
theorem td_sin (hu : X.A.units + 65 < cLine) (hk : PD K mg X E i ty fk) (hd : PD K mg X E o td fd) (hm : behindInMarks .In o = false := by rfl) : TD K mg X E (.Compare i [.In] [o] pos) (tB (tDIn ty td)) (fTest (fBin (gSin false) fk fd)) := ⟨pt_cmp (pc_din (hu1 hu) hk.pe hd.pe) hm, fun S H σ ρ Q rl h => test_sd (pd_sin (pos := pos) hu hk hd hm) S H σ ρ Q rl h⟩
theorem td_snotin (hu : X.A.units + 65 < cLine) (hk : PD K mg X E i ty fk) (hd : PD K mg X E o td fd) (hm : behindInMarks .NotIn o = false := by rfl) : TD K mg X E (.Compare i [.NotIn] [o] pos) (tB (tDNotIn ty td)) (fTest (fBin (gSin true) fk fd)) := ⟨pt_cmp (pc_dnotin (hu1 hu) hk.pe hd.pe) hm, fun S H σ ρ Q rl h => test_sd (pd_snotin (pos := pos) hu hk hd hm) S H σ ρ Q rl h⟩
/-! d.get(k), d.get(k, x) -/
def fSget2 (fd fk fx : DEnv → Res D) : DEnv → Res D := fun ρ => (fd ρ).bind fun d => (asD d).bind fun kvs => (fk ρ).bind fun kd => (fx ρ).bind fun x => match dLook kvs kd with
  | some o => .ok (o.getD x)
  | _ => .bad
def fSget1 (fd fk : DEnv → Res D) : DEnv → Res D := fun ρ => (fd ρ).bind fun d => (asD d).bind fun kvs => (fk ρ).bind fun kd => match dLook kvs kd with
  | some o => .ok (o.getD .none)
  | _ => .bad
theorem pd_sget2 (hu : X.A.units + 65 < cLine) (hd : PD K mg X E o td fd) (hk : PD K mg X E a ty fk) (hx : PD K mg X E b tx fx)
    (h1 : attributeBase o "get" X.env (eval o X.env) = eval o X.env := by rfl)
    (h2 : ((backTo pos (starEach [a, b] X.env)).all (fun x => !x.1) && (backToKw pos (keywordEach [] X.env)).all (fun x => x.1.isSome) && decide (([a, b] : List Expr).length + ([] : List Keyword).length + (if ([] : List Keyword).isEmpty then 0 else 1) < 30)) = true := by rfl)
    (h3 : (apos.endLine == pos.line) = true := by rfl) (h4 : backTo pos (starEach [a, b] X.env) = [(false, eval a X.env), (false, eval b X.env)] := by rfl) :
    PD K mg X E (.Call (.Attribute o "get" apos) [a, b] [] pos) (tDGet2 td ty tx) (fSget2 fd fk fx) :=
  ⟨pe_dget2 (hu1 hu) hd.pe hk.pe hx.pe ⟨h1, h2, h3, h4⟩, fun S H σ ρ Q rl h => by
    refine hd.sd S H σ ρ _ rl (h.bind fun d v S1 H1 x1 d1 h1 => ?_)
    cases d with
    | dict kvs =>
      obtain ⟨q, rfl, g⟩ := look_isD x1.sh d1
      have h1 : PostG mg E S1 H1 (DV K) ((fk ρ).bind fun kd => (fx ρ).bind fun x => match dLook kvs kd with
        | some o => .ok (o.getD x)
        | _ => .bad) Q := h1
      refine ⟨q, rfl, g, hk.sd S1 H1 σ ρ _ (rl.mono x1) (h1.bind fun kd y S2 H2 x2 d2 h2 => ?_)⟩
      refine hx.sd S2 H2 σ ρ _ ((rl.mono x1).mono x2) (h2.bind fun dx z S3 H3 x3 d3 h3 => ?_)
      cases el : dLook kvs kd with
      | none => rw [el] at h3; exact h3.elim
      | some od =>
        rw [el] at h3
        obtain ⟨a', ov, e', _, k1, k2⟩ := look_get x3.sh ((d1.mono x2.s).mono x3.s) (d2.mono x3.s) el
        cases e'
        rcases k2 with ⟨z1, z2⟩ | ⟨d', w, z1, z2, z3⟩
        · subst z1 z2
          exact ⟨none, k1, h3.ok0 x3.sh d3⟩
        · subst z1 z2
          exact ⟨some w, k1, h3.ok0 x3.sh z3⟩
    | _ => exact h1.elim⟩
theorem pd_sget1 (hu : X.A.units + 65 < cLine) (hd : PD K mg X E o td fd) (hk : PD K mg X E a ty fk)
    (h1 : attributeBase o "get" X.env (eval o X.env) = eval o X.env := by rfl)
    (h2 : ((backTo pos (starEach [a] X.env)).all (fun x => !x.1) && (backToKw pos (keywordEach [] X.env)).all (fun x => x.1.isSome) && decide (([a] : List Expr).length + ([] : List Keyword).length + (if ([] : List Keyword).isEmpty then 0 else 1) < 30)) = true := by rfl)
    (h3 : (apos.endLine == pos.line) = true := by rfl) (h4 : backTo pos (starEach [a] X.env) = [(false, eval a X.env)] := by rfl) :
    PD K mg X E (.Call (.Attribute o "get" apos) [a] [] pos) (tDGet1 td ty) (fSget1 fd fk) :=
  ⟨pe_dget1 (hu1 hu) hd.pe hk.pe ⟨h1, h2, h3, h4⟩, fun S H σ ρ Q rl h => by
    refine hd.sd S H σ ρ _ rl (h.bind fun d v S1 H1 x1 d1 h1 => ?_)
    cases d with
    | dict kvs =>
      obtain ⟨q, rfl, g⟩ := look_isD x1.sh d1
      have h1 : PostG mg E S1 H1 (DV K) ((fk ρ).bind fun kd => match dLook kvs kd with
        | some o => .ok (o.getD .none)
        | _ => .bad) Q := h1
      refine ⟨q, rfl, g, hk.sd S1 H1 σ ρ _ (rl.mono x1) (h1.bind fun kd y S2 H2 x2 d2 h2 => ?_)⟩
      cases el : dLook kvs kd with
      | none => rw [el] at h2; exact h2.elim
      | some od =>
        rw [el] at h2
        obtain ⟨a', ov, e', _, k1, k2⟩ := look_get x2.sh (d1.mono x2.s) d2 el
        cases e'
        rcases k2 with ⟨z1, z2⟩ | ⟨d', w, z1, z2, z3⟩
        · subst z1 z2
          exact ⟨none, k1, h2.ok0 x2.sh rfl⟩
        · subst z1 z2
          exact ⟨some w, k1, h2.ok0 x2.sh z3⟩
    | _ => exact h1.elim⟩
/-! min(d), max(d), sorted(d), the keys ints -/
def keysI : List (D × D) → Option (List Int)
  | [] => some []
  | (.int i, _) :: r => (keysI r).map (i :: ·)
  | _ :: _ => none
theorem keysI_map : ∀ {kvs : List (D × D)} {is : List Int}, keysI kvs = some is → kvs.map (·.1) = is.map PyData.int
  | [], is, h => by cases h; rfl
  | (a, d) :: r, is, h => by
    cases a with
    | int i =>
      unfold keysI at h
      cases e : keysI r with
      | none => rw [e] at h; cases h
      | some js =>
        rw [e] at h
        cases h
        rw [List.map_cons, keysI_map e]
        rfl
    | _ => cases h
theorem kD_inl : ∀ {ks : List Key} {is : List Int}, is.map PyData.int = ks.map kD → ks = is.map Sum.inl
  | [], [], _ => rfl
  | k :: ks, i :: is, h => by
    have h1 : PyData.int i = kD k := (List.cons.inj h).1
    rw [List.map_cons, kD_inl (List.cons.inj h).2]
    cases k with
    | inl j => cases h1; rfl
    | inr z => cases h1
  | [], _ :: _, h => by cases h
  | _ :: _, [], h => by cases h
theorem keysI_of {S : Hp} {v : V} {kvs : List (D × D)} {is : List Int} (hk : keysI kvs = some is) (hn : is ≠ []) (h : DV K S v (.dict kvs)) : ∃ a es, v = .ref a ∧ Rd S a (.dK es) ∧ es.map (·.1) = is.map Sum.inl := by
  obtain ⟨a, rfl, q⟩ := dv_dict h
  have hm := keysI_map hk
  rcases q with ⟨es, g1, g2, _⟩ | ⟨es, g1, g2, _⟩
  · refine ⟨a, es, rfl, g1, kD_inl ?_⟩
    rw [← hm, g2, List.map_map]
    rfl
  · exfalso
    rw [hm] at g2
    cases is with
    | nil => exact hn rfl
    | cons i is =>
      cases es with
      | nil => cases g2
      | cons e es =>
        have := (List.cons.inj g2).1
        cases this
def rMinR : List V → Hp → VK → Prop := fun vs H Q => ∃ (a : Addr) (kvs : List (Key × V)) (is : List Int), vs = [V.ref a] ∧ Rd H a (.dK kvs) ∧ kvs.map (·.1) = is.map Sum.inl ∧ is ≠ [] ∧ ∀ m, m ∈ is → (∀ j ∈ is, m ≤ j) → Q (.int m) H
def rMaxR : List V → Hp → VK → Prop := fun vs H Q => ∃ (a : Addr) (kvs : List (Key × V)) (is : List Int), vs = [V.ref a] ∧ Rd H a (.dK kvs) ∧ kvs.map (·.1) = is.map Sum.inl ∧ is ≠ [] ∧ ∀ m, m ∈ is → (∀ j ∈ is, j ≤ m) → Q (.int m) H
theorem hval_of {vs : List (Key × Value)} {is : List Int} (hkeys : vs.map (·.1) = is.map Sum.inl) : ∀ (i : Nat) (v : Value), (∃ k x, vs[i]? = some (k, x) ∧ (mixKind X.prog X.w).is k v = true) → ∃ t, v = Value.int (is.getD i 0) t := fun i v ⟨k, x, hk, hkey⟩ => by
  have e1 : (vs.map (·.1))[i]? = some k := by rw [List.getElem?_map, hk] <;> rfl
  rw [hkeys, List.getElem?_map] at e1
  obtain ⟨j, hj, e2⟩ := Option.map_eq_some_iff.mp e1
  subst e2
  have hi : Value.isInt j v = true := hkey
  obtain ⟨t, e3⟩ := Value.isInt_shape (k := j) (v := v) hi
  refine ⟨t, ?_⟩
  rw [e3, List.getD_eq_getElem?_getD, hj] <;> rfl
theorem c_minR (hc : X.calm = true) : CallR X (.builtin "min") rMinR := by
  intro pins s σ H vs us Q I r h
  obtain ⟨a, kvs, is, rfl, ha, hv, hne, q⟩ := h
  rw [Vals.ref1 r]
  obtain ⟨_, hsys, vs, rel, dof⟩ := dk_rd I.hok ha
  obtain ⟨ep, dat⟩ := dof.dictAt
  obtain ⟨ob, es, ho, hex, hdat, hko, hpr, hnd⟩ := id dat
  have hlt : a < s.heap.objs.size := Heap.lt_size ho
  have hkeys : vs.map (·.1) = is.map Sum.inl := (KV.keys rel).symm.trans hv
  have hlv : vs.length = is.length := by
    have e1 := congrArg List.length hkeys
    rw [List.length_map, List.length_map] at e1
    exact e1
  have hlen : 0 < vs.length := by
    rw [hlv]
    exact List.length_pos_iff.mpr hne
  refine call_min_walk (wpAny_pyIter_dict (knd := mixKind X.prog X.w) hsys dat ?_)
  refine ⟨_, _, _, _, _, _, _, rfl, PySem.Walks.dictKeys (knd := mixKind X.prog X.w) (A := X.A.in1) (I.ok.hd hc) s.heap.objs.size a (Nat.ne_of_lt hlt) vs ep,
    ⟨⟨_, Heap.get?_push_size _ rfl, rfl, rfl⟩, dat.keep fun b u e => Heap.get?_push_of_some _ e⟩, fun b hb => ?_, hlen, CmpOf.ints_lt (fun i => is.getD i 0) (hval_of hkeys), fun v h' tk hP hk => ?_⟩
  · show b < (s.heap.push _).objs.size
    rw [Heap.size_push]
    rcases List.mem_cons.mp hb with e | hb
    · rw [e]
      exact Nat.lt_succ_self _
    · rw [List.mem_singleton.mp hb]
      exact Nat.lt_succ_of_lt hlt
  · obtain ⟨t, rfl⟩ := hval_of hkeys _ v hP
    obtain ⟨b1, b2⟩ := argBest_lt (fun i => is.getD i 0) (vs.length - 1)
    refine ⟨.int _, H, I.kept (t' := tk) fun b u e => hk b u (fun hmem => ?_) (Heap.get?_push_of_some _ e), ⟨t, rfl⟩, q _ ?_ fun j hj => ?_⟩
    · have e1 : b = s.heap.objs.size := List.mem_singleton.mp hmem
      have e2 := Heap.lt_size e
      rw [e1] at e2
      exact absurd e2 (Nat.lt_irrefl _)
    · have hb : argBest (fun i j => decide (is.getD i 0 < is.getD j 0)) (vs.length - 1) < is.length := by omega
      rw [List.getD_eq_getElem?_getD, List.getElem?_eq_getElem hb]
      exact List.getElem_mem hb
    · obtain ⟨i, hi, e⟩ := List.mem_iff_getElem.mp hj
      have e2 : is.getD i 0 = j := by rw [List.getD_eq_getElem?_getD, List.getElem?_eq_getElem hi, ← e] <;> rfl
      rw [← e2]
      exact b2 i (by omega)
theorem c_maxR (hc : X.calm = true) : CallR X (.builtin "max") rMaxR := by
  intro pins s σ H vs us Q I r h
  obtain ⟨a, kvs, is, rfl, ha, hv, hne, q⟩ := h
  rw [Vals.ref1 r]
  obtain ⟨_, hsys, vs, rel, dof⟩ := dk_rd I.hok ha
  obtain ⟨ep, dat⟩ := dof.dictAt
  obtain ⟨ob, es, ho, hex, hdat, hko, hpr, hnd⟩ := id dat
  have hlt : a < s.heap.objs.size := Heap.lt_size ho
  have hkeys : vs.map (·.1) = is.map Sum.inl := (KV.keys rel).symm.trans hv
  have hlv : vs.length = is.length := by
    have e1 := congrArg List.length hkeys
    rw [List.length_map, List.length_map] at e1
    exact e1
  have hlen : 0 < vs.length := by
    rw [hlv]
    exact List.length_pos_iff.mpr hne
  refine call_max_walk (wpAny_pyIter_dict (knd := mixKind X.prog X.w) hsys dat ?_)
  refine ⟨_, _, _, _, _, _, _, rfl, PySem.Walks.dictKeys (knd := mixKind X.prog X.w) (A := X.A.in1) (I.ok.hd hc) s.heap.objs.size a (Nat.ne_of_lt hlt) vs ep,
    ⟨⟨_, Heap.get?_push_size _ rfl, rfl, rfl⟩, dat.keep fun b u e => Heap.get?_push_of_some _ e⟩, fun b hb => ?_, hlen, CmpOf.ints_gt (fun i => is.getD i 0) (hval_of hkeys), fun v h' tk hP hk => ?_⟩
  · show b < (s.heap.push _).objs.size
    rw [Heap.size_push]
    rcases List.mem_cons.mp hb with e | hb
    · rw [e]
      exact Nat.lt_succ_self _
    · rw [List.mem_singleton.mp hb]
      exact Nat.lt_succ_of_lt hlt
  · obtain ⟨t, rfl⟩ := hval_of hkeys _ v hP
    obtain ⟨b1, b2⟩ := argBest_gt (fun i => is.getD i 0) (vs.length - 1)
    refine ⟨.int _, H, I.kept (t' := tk) fun b u e => hk b u (fun hmem => ?_) (Heap.get?_push_of_some _ e), ⟨t, rfl⟩, q _ ?_ fun j hj => ?_⟩
    · have e1 : b = s.heap.objs.size := List.mem_singleton.mp hmem
      have e2 := Heap.lt_size e
      rw [e1] at e2
      exact absurd e2 (Nat.lt_irrefl _)
    · have hb : argBest (fun i j => decide (is.getD i 0 > is.getD j 0)) (vs.length - 1) < is.length := by omega
      rw [List.getD_eq_getElem?_getD, List.getElem?_eq_getElem hb]
      exact List.getElem_mem hb
    · obtain ⟨i, hi, e⟩ := List.mem_iff_getElem.mp hj
      have e2 : is.getD i 0 = j := by rw [List.getD_eq_getElem?_getD, List.getElem?_eq_getElem hi, ← e] <;> rfl
      rw [← e2]
      exact b2 i (by omega)
def gMinK : List D → Res D
  | [.dict kvs] => match keysI kvs with
    | some (i :: is) => .ok (.int (minI (i :: is)))
    | _ => .bad
  | _ => .bad
def gMaxK : List D → Res D
  | [.dict kvs] => match keysI kvs with
    | some (i :: is) => .ok (.int (maxI (i :: is)))
    | _ => .bad
  | _ => .bad
theorem cs_minK : CaS K mg E rMinR gMinK := fun S H xs ds Q sh dv h => by
  unfold gMinK at h
  split at h
  · split at h
    · rename_i i is e
      obtain ⟨v, rfl, hv⟩ := dvs1 dv
      obtain ⟨a, es, rfl, g1, g2⟩ := keysI_of e (by simp) hv
      refine ⟨a, es, i :: is, rfl, rd_same sh g1, g2, by simp, fun m hm hle => ?_⟩
      obtain ⟨k1, k2⟩ := minI_spec (i :: is) (by simp)
      have e : m = minI (i :: is) := Int.le_antisymm (hle _ k1) (k2 m hm)
      rw [e]
      exact h.ok0 sh rfl
    · exact h.elim
  · exact h.elim
theorem cs_maxK : CaS K mg E rMaxR gMaxK := fun S H xs ds Q sh dv h => by
  unfold gMaxK at h
  split at h
  · split at h
    · rename_i i is e
      obtain ⟨v, rfl, hv⟩ := dvs1 dv
      obtain ⟨a, es, rfl, g1, g2⟩ := keysI_of e (by simp) hv
      refine ⟨a, es, i :: is, rfl, rd_same sh g1, g2, by simp, fun m hm hle => ?_⟩
      obtain ⟨k1, k2⟩ := maxI_spec (i :: is) (by simp)
      have e : m = maxI (i :: is) := Int.le_antisymm (k2 m hm) (hle _ k1)
      rw [e]
      exact h.ok0 sh rfl
    · exact h.elim
  · exact h.elim
def rSortR : List V → Hp → VK → Prop := fun xs H Q => ∃ (a : Addr) (kvs : List (Key × V)) (ks : List Int), xs = [.ref a] ∧ Rd H a (.dK kvs) ∧ kvs.map (·.1) = ks.map Sum.inl ∧ ks.length < 64 ∧
    ∀ (ys : List Int) (p : Addr), ys.Perm ks → ys.Pairwise (· ≤ ·) → H p = none → Q (.ref p) (upd H p (.lst (ys.map V.int)))
theorem c_sortR (hc : X.calm = true) : CallR X (.builtin "sorted") rSortR := call_sortedDI hc
def sortI (ns : List Int) : List Int := ns.mergeSort (fun a b => decide (a ≤ b))
theorem sortI_perm (ns : List Int) : (sortI ns).Perm ns := List.mergeSort_perm ns _
theorem sortI_sorted (ns : List Int) : (sortI ns).Pairwise (· ≤ ·) := by
  have := List.pairwise_mergeSort (le := fun a b : Int => decide (a ≤ b)) (fun a b c h1 h2 => by simp only [decide_eq_true_eq] at *; omega) (fun a b => by simp only [Bool.or_eq_true, decide_eq_true_eq]; omega) ns
  exact this.imp fun h => of_decide_eq_true h
theorem sort_unique {xs ys : List Int} (h1 : xs.Perm ys) (hx : xs.Pairwise (· ≤ ·)) (hy : ys.Pairwise (· ≤ ·)) : xs = ys := List.Perm.eq_of_pairwise (fun a b _ _ h1 h2 => Int.le_antisymm h1 h2) hx hy h1
def gSortK : List D → Res D
  | [.dict kvs] => match keysI kvs with
    | some (i :: is) => if (i :: is).length < 64 then .ok (.list ((sortI (i :: is)).map PyData.int)) else .bad
    | _ => .bad
  | _ => .bad
theorem cs_sortK : CaS K mg E rSortR gSortK := fun S H xs ds Q sh dv h => by
  unfold gSortK at h
  split at h
  · split at h
    · rename_i i is e
      split at h
      · rename_i hz
        obtain ⟨v, rfl, hv⟩ := dvs1 dv
        obtain ⟨a, es, rfl, g1, g2⟩ := keysI_of e (by simp) hv
        refine ⟨a, es, i :: is, rfl, rd_same sh g1, g2, hz, fun ys p hp hs hn => ?_⟩
        have e : ys = sortI (i :: is) := sort_unique (hp.trans (sortI_perm _).symm) hs (sortI_sorted _)
        subst e
        exact new_lst sh (dvs_ints _) h hn
      · exact h.elim
    · exact h.elim
  · exact h.elim
end
end PD
namespace PD
open PySem L2
/-! ### a dict that is walked is locked for the while -/
def noFz : HO → Bool
  | .frz _ _ => false
  | _ => true
structure RdMap (S T : Hp) : Prop where
  rd : ∀ (b : Addr) (u : HO), noFz u = true → Rd S b u → Rd T b u
  tp : ∀ (b : Addr) (xs : List V), S b = some (.tup xs) → T b = some (.tup xs)
mutual
theorem DV.rdm {K : PySem.W.Frag} {S T : Hp} (e : RdMap S T) : ∀ (d : D) (v : V), DV K S v d → DV K T v d
  | .none, v, h => by rw [DV] at h ⊢; exact h
  | .bool b, v, h => by rw [DV] at h ⊢; exact h
  | .int b, v, h => by rw [DV] at h ⊢; exact h
  | .str b, v, h => by rw [DV] at h ⊢; exact h
  | .list ds, v, h => by
    rw [DV] at h ⊢
    obtain ⟨a, xs, h1, h2, h3⟩ := h
    refine ⟨a, xs, h1, ?_, DVs.rdm e ds xs h3⟩
    rcases h2 with h | h
    · exact .inl (e.rd _ _ rfl h)
    · exact .inr h
  | .tuple ds, v, h => by
    rw [DV] at h ⊢
    obtain ⟨a, xs, h1, h2, h3⟩ := h
    refine ⟨a, xs, h1, ⟨?_, fun z => e.tp _ _ (h2.2 z)⟩, DVs.rdm e ds xs h3⟩
    rcases h2.1 with h | h
    · exact .inl (e.rd _ _ rfl h)
    · exact .inr h
  | .dict kvs, v, h => by
    rw [DV] at h ⊢
    obtain ⟨a, h1, h2⟩ := h
    refine ⟨a, h1, ?_⟩
    rcases h2 with ⟨es, h2, h3, h4⟩ | ⟨es, h2, h3, h4⟩
    · exact .inl ⟨es, e.rd _ _ rfl h2, h3, DVp.rdm e kvs _ h4⟩
    · exact .inr ⟨es, e.rd _ _ rfl h2, h3, DVp.rdm e kvs _ h4⟩
theorem DVs.rdm {K : PySem.W.Frag} {S T : Hp} (e : RdMap S T) : ∀ (ds : List D) (vs : List V), DVs K S vs ds → DVs K T vs ds
  | [], [], _ => by rw [DVs]; trivial
  | d :: ds, v :: vs, h => by
    rw [DVs] at h ⊢
    exact ⟨DV.rdm e d v h.1, DVs.rdm e ds vs h.2⟩
  | [], _ :: _, h => by rw [DVs] at h; exact h.elim
  | _ :: _, [], h => by rw [DVs] at h; exact h.elim
theorem DVp.rdm {K : PySem.W.Frag} {S T : Hp} (e : RdMap S T) : ∀ (ds : List (D × D)) (vs : List V), DVp K S vs ds → DVp K T vs ds
  | [], [], _ => by rw [DVp]; trivial
  | (_, d) :: ds, v :: vs, h => by
    rw [DVp] at h ⊢
    exact ⟨DV.rdm e d v h.1, DVp.rdm e ds vs h.2⟩
  | [], _ :: _, h => by rw [DVp] at h; exact h.elim
  | _ :: _, [], h => by rw [DVp] at h; exact h.elim
end
theorem rdm_lock {S : Hp} {a : Addr} {o : Obj} {es : List (Key × V)} (h : S a = some (.dK es)) : RdMap S (upd S a (.frz o (.dK es))) := by
  refine ⟨fun b u hz r => ?_, fun b xs e => ?_⟩
  · by_cases hb : b = a
    · subst hb
      rcases r with r | ⟨o', r⟩
      · rw [h] at r; cases r; exact .inr ⟨o, upd_same⟩
      · rw [h] at r; cases r
    · rcases r with r | ⟨o', r⟩
      · exact .inl (by rw [upd_ne hb]; exact r)
      · exact .inr ⟨o', by rw [upd_ne hb]; exact r⟩
  · have hb : b ≠ a := fun z => by subst z; rw [h] at e; cases e
    rw [upd_ne hb]
    exact e
theorem rdm_unlock {S : Hp} {a : Addr} {o : Obj} {es : List (Key × V)} (h : S a = some (.frz o (.dK es))) : RdMap S (upd S a (.dK es)) := by
  refine ⟨fun b u hz r => ?_, fun b xs e => ?_⟩
  · by_cases hb : b = a
    · subst hb
      rcases r with r | ⟨o', r⟩
      · rw [h] at r
        cases r
        cases hz
      · rw [h] at r; cases r; exact .inl upd_same
    · rcases r with r | ⟨o', r⟩
      · exact .inl (by rw [upd_ne hb]; exact r)
      · exact .inr ⟨o', by rw [upd_ne hb]; exact r⟩
  · have hb : b ≠ a := fun z => by subst z; rw [h] at e; cases e
    rw [upd_ne hb]
    exact e
/-- the keys, walked: the dict is locked -/
theorem walks_keys {K : PySem.W.Frag} {S : Hp} {a : Addr} {o : Obj} {es : List (Key × V)} {kvs : List (D × D)} (h1 : S a = some (.frz o (.dK es))) (h2 : kvs.map (·.1) = es.map (fun e => kD e.1)) : Walks K S (Itk a o es) (kvs.map (·.1)) := fun S' H' e1 e2 => by
  have q : H' a = some (.frz o (.dK es)) := e2 _ _ (e1 _ _ h1)
  have hl : (kvs.map (·.1)).length = es.length := by rw [h2, List.length_map]
  refine ⟨fun i d hi => ?_, q, by rw [hl]; exact Nat.le_refl _⟩
  have hin : i < es.length := by
    have := (List.getElem?_eq_some_iff.mp hi).1
    omega
  refine ⟨⟨q, hin⟩, fun x H'' hy => ?_⟩
  obtain ⟨rfl, k, v, hk, rfl⟩ := hy
  refine ⟨S', Ext.refl e2, ?_⟩
  rw [h2, List.getElem?_map, hk] at hi
  have hi : kD k = d := Option.some.inj hi
  rw [← hi]
  cases k with
  | inl j => exact rfl
  | inr z => exact rfl
def asKeys : D → Res (List D)
  | .dict kvs => if (plainK kvs && !kvs.isEmpty) = true then .ok (kvs.map (·.1)) else .bad
  | _ => .bad
def fKeys (i : Nat) : DEnv → Res (List D) := fun ρ => (fVar i ρ).bind asKeys
section
variable {K : PySem.W.Frag} {mg : Str → Option Value} {X : Cx} {E : XK} {tg : Expr} {p : Pos} {x : Str} {i : Nat}
/-- in an environment where the dict of slot i is locked -/
structure IDK (K : PySem.W.Frag) (mg : Str → Option Value) (X : Cx) (E : XK) (tg iter : Expr) (wi : TI) (f : DEnv → Res (List D)) (i : Nat) : Prop where
  pi : PI X tg iter wi
  sd : ∀ (S H : Hp) (σ : L2.St) (ρ : DEnv) (R : It → Hp → Prop), RelE K S H σ ρ → (∃ a o es, σ[i]? = some (some (.ref a)) ∧ S a = some (.frz o (.dK es))) → PostG mg E S H (fun S J ds => Walks K S J ds) (f ρ) R → wi σ H R
theorem idk_keys (hv : PE X (.Name x p) (tVar i)) : IDK K mg X E tg (.Name x p) (iKeys (tVar i)) (fKeys i) i := ⟨pi_keys hv, fun S H σ ρ R rl hz h => by
  obtain ⟨a, o, es, e1, e2⟩ := hz
  unfold fKeys fVar at h
  split at h
  · rename_i d ed
    obtain ⟨v, k1, k2⟩ := rl.dt i d ed
    rw [e1] at k1
    cases k1
    rw [bind_ok] at h
    unfold asKeys at h
    split at h
    · rename_i kvs
      split at h
      · rename_i c
        obtain ⟨c1, c2⟩ := and_split c
        obtain ⟨a', ea, q⟩ := dv_dict k2
        cases ea
        obtain ⟨es', g1, g2, g3⟩ := plain_of c1 (ne_emp c2) q
        have : es' = es := by
          rcases g1 with g | ⟨o', g⟩
          · rw [e2] at g; cases g
          · rw [e2] at g; cases g; rfl
        subst this
        exact ⟨.ref a, e1, a, o, rfl, .inl ⟨es', rl.sh _ _ e2, h.ok0 rl.sh (walks_keys e2 g2)⟩⟩
      · exact h.elim
    · exact h.elim
  · exact h.elim⟩
theorem relE_lock {S H : Hp} {σ : L2.St} {ρ : DEnv} {a : Addr} {o : Obj} {es : List (Key × V)} (rl : RelE K S H σ ρ) (h : S a = some (.dK es)) : RelE K (upd S a (.frz o (.dK es))) (upd H a (.frz o (.dK es))) σ ρ :=
  ⟨same_upd2 rl.sh, rl.len, fun i y e => let ⟨v, h1, h2⟩ := rl.dt i y e; ⟨v, h1, DV.rdm (rdm_lock h) _ _ h2⟩, rl.rw⟩
theorem ext_unlock {S H S2 H2 : Hp} {a : Addr} {o : Obj} {u : HO} (sh : Same S H) (h : S a = some u) (x : Ext (upd S a (.frz o u)) (upd H a (.frz o u)) S2 H2) : Ext S H (upd S2 a u) (upd H2 a u) := by
  refine ⟨fun b w e => ?_, fun b w e => ?_, same_upd2 x.sh, fun b hb => ?_⟩
  · by_cases q : b = a
    · subst q; rw [h] at e; cases e; exact upd_same
    · rw [upd_ne q]; exact x.s b w (by rw [upd_ne q]; exact e)
  · by_cases q : b = a
    · subst q; rw [sh _ _ h] at e; cases e; exact upd_same
    · rw [upd_ne q]; exact x.h b w (by rw [upd_ne q]; exact e)
  · by_cases q : b = a
    · subst q; rw [upd_same, h]
    · rw [upd_ne q, x.old b (by rw [upd_ne q]; exact hb), upd_ne q]
end
/-- the comprehension over a dict in slot i: locked for the while, or locked already -/
def tLcK (T : TE) : TE := fun σ H Q => tLockE T σ H Q ∨ T σ H Q
section
variable {K : PySem.W.Frag} {mg : Str → Option Value} {X : Cx} {E : XK} {elt tg iter : Expr} {ifs : List Expr} {scope : Scope} {own : List (Str × Nat)} {pos : Pos} {wi : TI} {g : TG} {tt : TT} {te : TE} {is : List Nat} {h : D → Option (List D)} {ft : DEnv → Res Bool} {fe : DEnv → Res D} {i : Nat} {src : DEnv → Res (List D)}
theorem pd_lcK {vs : List Nat} (hc : X.calm = true) (hN : X.N.Nodup) (hi : IDK K mg X E tg iter wi (fKeys i) i) (ok : BlkOk X.N X.env.scope scope own)
    (hg : ∀ (s : Shared) (H : Hp) (C : Addr) (cl : List (Str × Addr)) (fp : List Addr), GD K (Blk X scope s H C cl fp) tg g is h) (ht : ∀ (s : Shared) (H : Hp) (C : Addr) (cl : List (Str × Addr)) (fp : List Addr), TDs K mg (Blk X scope s H C cl fp) E0 ifs tt ft)
    (he : ∀ (s : Shared) (H : Hp) (C : Addr) (cl : List (Str × Addr)) (fp : List Addr), PD K mg (Blk X scope s H C cl fp) E0 elt te fe) (hvs : own.map (·.2) = vs := by rfl) (his : ∀ i ∈ is, i ∈ vs := by decide) (hs : ∀ x, foldedSetIterable iter X.env x = pure x := by intro _; rfl) :
    PD K mg X E (.ListComp elt [⟨tg, iter, ifs, 0⟩] scope pos) (tLcK (tLc wi g tt te vs)) (fLc (fKeys i) vs is h ft fe) := by
  have pe : PE X (.ListComp elt [⟨tg, iter, ifs, 0⟩] scope pos) (tLc wi g tt te vs) := hvs ▸ pe_lc hc hN hi.pi ok (fun s H C cl fp => (hg s H C cl fp).pg) (fun s H C cl fp => (ht s H C cl fp).pe) (fun s H C cl fp => (he s H C cl fp).pe) hs
  refine ⟨⟨fun pins s σ H Q I q => q.elim (fun q => (pe_lock pe).run pins s σ H Q I q) fun q => pe.run pins s σ H Q I q⟩, fun S H σ ρ Q rl hp => ?_⟩
  have key : ∀ (S H : Hp) (Q : VK), RelE K S H σ ρ → (∃ a o es, σ[i]? = some (some (.ref a)) ∧ S a = some (.frz o (.dK es))) → PostG mg E S H (DV K) (fLc (fKeys i) vs is h ft fe ρ) Q → tLc wi g tt te vs σ H Q := fun S H Q rl hz hp =>
    lc_sd' (X' := Blk X scope X.s_0 X.H_0 0 [] []) (fun R q => hi.sd S H σ ρ R rl hz q) (hg _ _ _ _ _) (ht _ _ _ _ _) (he _ _ _ _ _) his Q rl hp
  cases ev : ρ[i]? with
  | none =>
    unfold fLc fKeys fVar at hp
    rw [ev] at hp
    exact hp.elim
  | some sl =>
    cases sl with
    | d y =>
      obtain ⟨v, k1, k2⟩ := rl.dt i y ev
      cases y with
      | dict kvs =>
        by_cases c : (plainK kvs && !kvs.isEmpty) = true
        · obtain ⟨c1, c2⟩ := and_split c
          obtain ⟨a, rfl, q⟩ := dv_dict k2
          obtain ⟨es, g1, g2, g3⟩ := plain_of c1 (ne_emp c2) q
          rcases g1 with g1 | ⟨o, g1⟩
          · refine .inl ⟨a, .dK es, rl.sh _ _ g1, trivial, fun od => ?_⟩
            refine key _ _ _ (relE_lock rl g1) ⟨a, od, es, k1, upd_same⟩ ?_
            cases er : fLc (fKeys i) vs is h ft fe ρ with
            | ok dd =>
              rw [er] at hp
              intro w S2 H2 x2 dw
              have f2 : S2 a = some (.frz od (.dK es)) := x2.s _ _ upd_same
              exact ⟨x2.h _ _ upd_same, hp w _ _ (ext_unlock rl.sh g1 x2) (DV.rdm (rdm_unlock f2) _ _ dw)⟩
            | err cc =>
              exfalso
              unfold fLc fKeys fVar at er
              rw [ev, bind_ok] at er
              unfold asKeys at er
              dsimp only at er
              rw [if_pos c, bind_ok] at er
              unfold lcEnd at er
              cases eg : lcGo (lcStep ρ vs is h ft fe) (kvs.map (·.1)) with
              | ok ys => rw [eg, bind_ok] at er; split at er <;> cases er
              | err c2 => exact lcGo_noerr _ _ _ eg
              | bad => rw [eg] at er; cases er
            | bad => rw [er] at hp; exact hp.elim
          · exact .inr (key S H Q rl ⟨a, o, es, k1, g1⟩ hp)
        · exfalso
          unfold fLc fKeys fVar at hp
          rw [ev, bind_ok] at hp
          unfold asKeys at hp
          dsimp only at hp
          rw [if_neg c] at hp
          exact hp
      | _ =>
        exfalso
        unfold fLc fKeys fVar at hp
        rw [ev] at hp
        exact hp
    | _ =>
      exfalso
      unfold fLc fKeys fVar at hp
      rw [ev] at hp
      exact hp
end
end PD
namespace PD
open PySem L2
/-! ### evaluation -/
theorem v_nil : viewAll [] = [] := rfl
theorem v_cons (s : Slot) (ρ : DEnv) : viewAll (s :: ρ) = view s :: viewAll ρ := rfl
theorem w_d (x : D) : view (.d x) = .d x := rfl
theorem w_un : view .un = .un := rfl
theorem w_own (x : List D) : view (.own x) = .d (.list x) := rfl
theorem x_var0 (x : D) (ρ : DEnv) : fVar 0 (.d x :: ρ) = .ok x := rfl
theorem x_varS (i : Nat) (s : Slot) (ρ : DEnv) : fVar (i + 1) (s :: ρ) = fVar i ρ := rfl
theorem x_c (d : D) (ρ : DEnv) : fC d ρ = .ok d := rfl
theorem x_bin (g : D → D → Res D) (f1 f2 : DEnv → Res D) (ρ : DEnv) : fBin g f1 f2 ρ = (f1 ρ).bind fun a => (f2 ρ).bind fun b => g a b := rfl
theorem x_un (g : D → Res D) (f : DEnv → Res D) (ρ : DEnv) : fUn g f ρ = (f ρ).bind g := rfl
theorem x_b (g : List D → Res D) (f : DEnv → Res (List D)) (ρ : DEnv) : fB g f ρ = (f ρ).bind g := rfl
theorem x_nil (ρ : DEnv) : fNil ρ = .ok [] := rfl
theorem x_cons (f : DEnv → Res D) (g : DEnv → Res (List D)) (ρ : DEnv) : fCons f g ρ = (f ρ).bind fun x => (g ρ).bind fun xs => .ok (x :: xs) := rfl
theorem x_call1 (F : List D → Res D) (f : DEnv → Res D) (ρ : DEnv) : fCall 1 F (fCons f fNil) ρ = (f ρ).bind fun a => F [a] := by
  unfold fCall fCons fNil
  cases f ρ <;> rfl
theorem x_call2 (F : List D → Res D) (f g : DEnv → Res D) (ρ : DEnv) : fCall 2 F (fCons f (fCons g fNil)) ρ = (f ρ).bind fun a => (g ρ).bind fun b => F [a, b] := by
  unfold fCall fCons fNil
  cases f ρ <;> first | rfl | (cases g ρ <;> rfl)
theorem x_call3 (F : List D → Res D) (f g h : DEnv → Res D) (ρ : DEnv) : fCall 3 F (fCons f (fCons g (fCons h fNil))) ρ = (f ρ).bind fun a => (g ρ).bind fun b => (h ρ).bind fun c => F [a, b, c] := by
  unfold fCall fCons fNil
  cases f ρ <;> first | rfl | (cases g ρ <;> first | rfl | (cases h ρ <;> rfl))
theorem x_call0 (F : List D → Res D) (ρ : DEnv) : fCall 0 F fNil ρ = F [] := rfl
theorem x_test (f : DEnv → Res D) (ρ : DEnv) : fTest f ρ = (f ρ).bind asB := rfl
theorem x_asB (b : Bool) : asB (.bool b) = .ok b := rfl
theorem x_not (f : DEnv → Res Bool) (ρ : DEnv) : fNot f ρ = (f ρ).bind fun b => .ok (!b) := rfl
theorem x_and (f g : DEnv → Res Bool) (ρ : DEnv) : fAnd f g ρ = (f ρ).bind fun b => if b = true then g ρ else .ok false := rfl
theorem x_or (f g : DEnv → Res Bool) (ρ : DEnv) : fOr f g ρ = (f ρ).bind fun b => if b = true then .ok true else g ρ := rfl
theorem x_andV (f g : DEnv → Res D) (ρ : DEnv) : fAndV f g ρ = (fTest f ρ).bind fun b => if b = true then g ρ else .ok (.bool false) := rfl
theorem x_orV (f g : DEnv → Res D) (ρ : DEnv) : fOrV f g ρ = (fTest f ρ).bind fun b => if b = true then .ok (.bool true) else g ρ := rfl
theorem x_notV (f : DEnv → Res D) (ρ : DEnv) : fNotV f ρ = (fTest f ρ).bind fun b => .ok (.bool !b) := rfl
theorem x_if (g : DEnv → Res Bool) (f1 f2 : DEnv → Res D) (ρ : DEnv) : fIf g f1 f2 ρ = (g ρ).bind fun b => if b = true then f1 ρ else f2 ρ := rfl
theorem x_isi (T : String) (f : DEnv → Res D) (ρ : DEnv) : fIsi T f ρ = (f ρ).bind fun d => .ok (.bool (isiD T d)) := rfl
theorem x_chain (g g' : D → D → Res D) (f1 f2 f3 : DEnv → Res D) (ρ : DEnv) : fChain g g' f1 f2 f3 ρ = (f1 ρ).bind fun x => (f2 ρ).bind fun y => (g x y).bind fun z => (asB z).bind fun k => if k = true then (f3 ρ).bind fun w => g' y w else .ok (.bool false) := rfl
theorem x_tup (g : DEnv → Res (List D)) (ρ : DEnv) : fTup g ρ = (g ρ).bind mkT := rfl
theorem x_lst (g : DEnv → Res (List D)) (ρ : DEnv) : fLst g ρ = (g ρ).bind mkL := rfl
theorem x_mkT0 : mkT [] = .ok (.tuple []) := rfl
theorem x_mkT1 (a : D) : mkT [a] = .ok (.tuple [a]) := rfl
theorem x_mkT2 (a b : D) : mkT [a, b] = .ok (.tuple [a, b]) := rfl
theorem x_mkT3 (a b c : D) : mkT [a, b, c] = .ok (.tuple [a, b, c]) := rfl
theorem x_mkL0 : mkL [] = .ok (.list []) := rfl
theorem x_mkL1 (a : D) : mkL [a] = .ok (.list [a]) := rfl
theorem x_mkL2 (a b : D) : mkL [a, b] = .ok (.list [a, b]) := rfl
theorem x_mkL3 (a b c : D) : mkL [a, b, c] = .ok (.list [a, b, c]) := rfl
theorem x_mkL4 (a b c d : D) : mkL [a, b, c, d] = .ok (.list [a, b, c, d]) := rfl
/-! statements -/
theorem y_next (ρ : DEnv) (k : DEnv → SR) : (SR.next ρ).seq k = k ρ := rfl
theorem y_ret (d : D) (k : DEnv → SR) : (SR.ret d).seq k = .ret d := rfl
theorem y_err (d : Str) (k : DEnv → SR) : (SR.err d).seq k = .err d := rfl
theorem y_ok {α : Type} (a : α) (k : α → SR) : ofRes (Res.ok a) k = k a := rfl
theorem y_er {α : Type} (c : Str) (k : α → SR) : ofRes (Res.err c : Res α) k = .err c := rfl
theorem y_seq (F G : DEnv → SR) (ρ : DEnv) : sSeq F G ρ = (F ρ).seq G := rfl
theorem y_if (g : DEnv → Res Bool) (F G : DEnv → SR) (ρ : DEnv) : sIf g F G ρ = ofRes (g (viewAll ρ)) fun b => if b = true then F ρ else G ρ := rfl
theorem y_nx (ρ : DEnv) : sNext ρ = .next ρ := rfl
theorem y_rt (f : DEnv → Res D) (ρ : DEnv) : sRet f ρ = ofRes (f ρ) fun d => .ret d := rfl
theorem y_ex (f : DEnv → Res D) (ρ : DEnv) : sExpr f ρ = ofRes (f ρ) fun _ => .next ρ := rfl
theorem y_rs (c : Str) (ρ : DEnv) : sRaise c ρ = .err c := rfl
theorem y_as1 (f : DEnv → Res D) (i : Nat) (ρ : DEnv) : sAsg f [i] hOne ρ = ofRes (f ρ) fun d => .next (ρ.set i (.d d)) := rfl
theorem y_asT3 (f : DEnv → Res D) (i j k : Nat) (ρ : DEnv) : sAsg f [i, j, k] (hTup 3) ρ = ofRes (f ρ) fun d => match d with
  | .tuple [x, y, z] => .next (((ρ.set i (.d x)).set j (.d y)).set k (.d z))
  | _ => .bad := by
  unfold sAsg
  cases f ρ with
  | ok d =>
    rw [y_ok, y_ok]
    cases d with
    | tuple ds =>
      match ds with
      | [x, y, z] => rfl
      | [] => rfl
      | [_] => rfl
      | [_, _] => rfl
      | _ :: _ :: _ :: _ :: _ => rfl
    | _ => rfl
  | err c => rfl
  | bad => rfl
theorem y_fn (n : Nat) (B : DEnv → SR) (ds : List D) : fnF n B ds = toRes (B (startD n ds)) := rfl
theorem y_t1 (d : D) : toRes (.ret d) = .ok d := rfl
theorem y_t2 (ρ : DEnv) : toRes (.next ρ) = .ok .none := rfl
theorem y_t3 (c : Str) : toRes (.err c) = .err c := rfl
theorem set0 (s t : Slot) (ρ : DEnv) : (s :: ρ).set 0 t = t :: ρ := rfl
theorem setS' (i : Nat) (s t : Slot) (ρ : DEnv) : (s :: ρ).set (i + 1) t = s :: ρ.set i t := rfl
theorem b_or (g : DEnv → Res Bool) : g = g := rfl
/-! values -/
theorem sh_int (i : Int) : SeqAt.shaped (.int i) = true := rfl
theorem sh_bool (i : Bool) : SeqAt.shaped (.bool i) = true := rfl
theorem sh_none : SeqAt.shaped .none = true := rfl
theorem eq_int (i j : Int) : gEq (.int i) (.int j) = .ok (.bool (i == j)) := rfl
theorem ne_int (i j : Int) : gNe (.int i) (.int j) = .ok (.bool (!(i == j))) := rfl
theorem g_lt (i j : Int) : gLt (.int i) (.int j) = .ok (.bool (decide (i < j))) := rfl
theorem g_le (i j : Int) : gLe (.int i) (.int j) = .ok (.bool (decide (i ≤ j))) := rfl
theorem g_gt (i j : Int) : gGt (.int i) (.int j) = .ok (.bool (decide (j < i))) := rfl
theorem g_ge (i j : Int) : gGe (.int i) (.int j) = .ok (.bool (decide (j ≤ i))) := rfl
theorem g_sub (i j : Int) : gSub (.int i) (.int j) = .ok (.int (i - j)) := rfl
theorem g_add (i j : Int) : gAdd (.int i) (.int j) = .ok (.int (i + j)) := rfl
theorem g_div {i j : Int} (h : divOk i j = true) : gDiv (.int i) (.int j) = .ok (.int (i / j)) := by unfold gDiv gI; dsimp only; rw [if_pos h]
theorem g_mod {i j : Int} (h : 0 < j) : gMod (.int i) (.int j) = .ok (.int (i % j)) := by unfold gMod gI; dsimp only; rw [if_pos (decide_eq_true h)]
theorem g_mul {i j : Int} (h : mulOk i j = true) : gMulI (.int i) (.int j) = .ok (.int (i * j)) := by unfold gMulI gI; dsimp only; rw [if_pos h]
theorem g_lenL (xs : List D) : gLen [.list xs] = .ok (.int xs.length) := rfl
theorem g_lenT (xs : List D) : gLen [.tuple xs] = .ok (.int xs.length) := rfl
theorem g_ixT {xs : List D} {i : Int} {d : D} (h : ixD xs i = some d) : gIx (.tuple xs) (.int i) = .ok d := by unfold gIx; dsimp only; rw [h]
theorem g_ixL {xs : List D} {i : Int} {d : D} (h : ixD xs i = some d) : gIx (.list xs) (.int i) = .ok d := by unfold gIx; dsimp only; rw [h]
theorem g_ix30 (a b c : D) : gIx (.tuple [a, b, c]) (.int 0) = .ok a := rfl
theorem g_ix31 (a b c : D) : gIx (.tuple [a, b, c]) (.int 1) = .ok b := rfl
theorem g_ix32 (a b c : D) : gIx (.tuple [a, b, c]) (.int 2) = .ok c := rfl
theorem is_TT : gIs true (.bool true) (.bool true) = .ok (.bool false) := rfl
theorem is_TF (b c : Bool) : gIs true (.bool b) (.bool c) = .ok (.bool (!decide (b = c))) := rfl
theorem is_FF (b c : Bool) : gIs false (.bool b) (.bool c) = .ok (.bool (decide (b = c))) := rfl
theorem isi_TT (xs : List D) : isiD "tuple" (.tuple xs) = true := by simp [isiD, isiN, tyName]
theorem isi_TL (xs : List D) : isiD "tuple" (.list xs) = false := by simp [isiD, isiN, tyName]
theorem isi_LL (xs : List D) : isiD "list" (.list xs) = true := by simp [isiD, isiN, tyName]
theorem isi_SS (x : Str) : isiD "str" (.str x) = true := by simp [isiD, isiN, tyName]
/-! ### loops of comprehensions -/
theorem lcGo_ok {step : D → Res (List D)} {h : D → List D} : ∀ {xs : List D}, (∀ d ∈ xs, step d = .ok (h d)) → lcGo step xs = .ok (xs.flatMap h)
  | [], _ => rfl
  | x :: xs, hx => by
    show ((step x).strict.bind fun o => (lcGo step xs).bind fun r => .ok (o ++ r)) = _
    rw [hx x List.mem_cons_self, lcGo_ok fun d hd => hx d (List.mem_cons_of_mem _ hd)]
    rfl
theorem lcEnd_mk {ys : List D} (h : ys.length < 1000000) : lcEnd (.ok ys) = .ok (.list ys) := by
  unfold lcEnd
  rw [bind_ok, if_pos (show lenOk (ys.length + 1) = true from decide_eq_true (by omega))]
theorem x_lc {src : DEnv → Res (List D)} {own is : List Nat} {h : D → Option (List D)} {ft : DEnv → Res Bool} {fe : DEnv → Res D} {ρ : DEnv} {ds ys : List D} (h1 : src ρ = .ok ds) (h2 : lcGo (lcStep ρ own is h ft fe) ds = .ok ys) (h3 : ys.length < 1000000) : fLc src own is h ft fe ρ = .ok (.list ys) := by
  unfold fLc
  rw [h1, bind_ok, h2, lcEnd_mk h3]
theorem x_lc2 {src : DEnv → Res (List D)} {own is : List Nat} {h : D → Option (List D)} {ft : DEnv → Res Bool} {src1 : DEnv → Res (List D)} {own1 is1 : List Nat} {h1 : D → Option (List D)} {ft1 : DEnv → Res Bool} {fe : DEnv → Res D} {ρ : DEnv} {ds ys : List D} (e1 : src ρ = .ok ds) (e2 : lcGo (lc2Step ρ own is h ft src1 own1 is1 h1 ft1 fe) ds = .ok ys) (e3 : ys.length < 1000000) : fLc2 src own is h ft src1 own1 is1 h1 ft1 fe ρ = .ok (.list ys) := by
  unfold fLc2
  rw [e1, bind_ok, e2, lcEnd_mk e3]
theorem wp_nil (ρ : DEnv) : wipeD ρ [] = ρ := rfl
theorem wp_cons (ρ : DEnv) (v : Nat) (vs : List Nat) : wipeD ρ (v :: vs) = (wipeD ρ vs).set v .un := rfl
theorem l_1 (ρ : DEnv) (own : List Nat) (i : Nat) (fe : DEnv → Res D) (d : D) : lcStep ρ own [i] hOne fYes fe d = (fe ((wipeD ρ own).set i (.d d))).bind fun y => .ok [y] := rfl
theorem l_1t (ρ : DEnv) (own : List Nat) (i : Nat) (tt : DEnv → Res Bool) (fe : DEnv → Res D) (d : D) : lcStep ρ own [i] hOne tt fe d = (tt ((wipeD ρ own).set i (.d d))).bind fun b => if b = true then (fe ((wipeD ρ own).set i (.d d))).bind fun y => .ok [y] else .ok [] := rfl
theorem l_2 (ρ : DEnv) (own : List Nat) (i j : Nat) (fe : DEnv → Res D) (x y : D) : lcStep ρ own [i, j] (hTup 2) fYes fe (.tuple [x, y]) = (fe (((wipeD ρ own).set i (.d x)).set j (.d y))).bind fun y => .ok [y] := rfl
theorem l_2t (ρ : DEnv) (own : List Nat) (i j : Nat) (tt : DEnv → Res Bool) (fe : DEnv → Res D) (x y : D) : lcStep ρ own [i, j] (hTup 2) tt fe (.tuple [x, y]) = (tt (((wipeD ρ own).set i (.d x)).set j (.d y))).bind fun b => if b = true then (fe (((wipeD ρ own).set i (.d x)).set j (.d y))).bind fun y => .ok [y] else .ok [] := rfl
theorem l_3 (ρ : DEnv) (own : List Nat) (i j k : Nat) (fe : DEnv → Res D) (x y z : D) : lcStep ρ own [i, j, k] (hTup 3) fYes fe (.tuple [x, y, z]) = (fe ((((wipeD ρ own).set i (.d x)).set j (.d y)).set k (.d z))).bind fun y => .ok [y] := rfl
theorem l2_11 (ρ : DEnv) (own own1 : List Nat) (i j : Nat) (src1 : DEnv → Res (List D)) (fe : DEnv → Res D) (d : D) : lc2Step ρ own [i] hOne fYes src1 own1 [j] hOne fYes fe d = (src1 ((wipeD ρ own).set i (.d d))).bind fun es => lcGo (lcStep ((wipeD ρ own).set i (.d d)) own1 [j] hOne fYes fe) es := rfl
theorem x_seq (f : DEnv → Res D) (ρ : DEnv) : fSeq f ρ = (f ρ).bind asSeq := rfl
theorem x_asL (ds : List D) : asSeq (.list ds) = .ok ds := rfl
theorem x_asT (ds : List D) : asSeq (.tuple ds) = .ok ds := rfl
theorem x_rng (g : List D → Res (List D)) (f : DEnv → Res (List D)) (ρ : DEnv) : fRng g f ρ = (f ρ).bind g := rfl
theorem x_zipL (xs ys : List D) : gZip [.list xs, .list ys] = .ok (zipD xs ys) := rfl
theorem x_zipT (xs ys : List D) : gZip [.tuple xs, .tuple ys] = .ok (zipD xs ys) := rfl
theorem g_tupL (xs : List D) : gTupOf [.list xs] = .ok (.tuple xs) := rfl
theorem g_tupT (xs : List D) : gTupOf [.tuple xs] = .ok (.tuple xs) := rfl
theorem g_listL (xs : List D) : gListOf [.list xs] = .ok (.list xs) := rfl
theorem g_listT (xs : List D) : gListOf [.tuple xs] = .ok (.list xs) := rfl
/-! ### loops -/
theorem forGo_inv {asg : D → DEnv → Option DEnv} {body : DEnv → SR} (P : DEnv → Prop) : ∀ {ds : List D} {ρ : DEnv}, P ρ → (∀ d ∈ ds, ∀ ρ, P ρ → ∃ ρ1 ρ', asg d ρ = some ρ1 ∧ body ρ1 = .next ρ' ∧ P ρ') → ∃ ρ', forGo asg body ds ρ = .next ρ' ∧ P ρ'
  | [], ρ, h, _ => ⟨ρ, rfl, h⟩
  | d :: ds, ρ, h, hs => by
    obtain ⟨ρ1, ρ', e1, e2, h'⟩ := hs d List.mem_cons_self ρ h
    obtain ⟨ρ2, e3, h2⟩ := forGo_inv P (ds := ds) h' fun d hd => hs d (List.mem_cons_of_mem _ hd)
    refine ⟨ρ2, ?_, h2⟩
    unfold forGo
    rw [e1]
    dsimp only
    rw [e2]
    exact e3
/-- a loop with a state that is told by the items gone -/
theorem forGo_fold {asg : D → DEnv → Option DEnv} {body : DEnv → SR} {α : Type} (st : α → DEnv) (step : α → D → α) : ∀ {ds : List D} {a : α}, (∀ d ∈ ds, ∀ a, ∃ ρ1, asg d (st a) = some ρ1 ∧ body ρ1 = .next (st (step a d))) → forGo asg body ds (st a) = .next (st (ds.foldl step a))
  | [], _, _ => rfl
  | d :: ds, a, hs => by
    obtain ⟨ρ1, e1, e2⟩ := hs d List.mem_cons_self a
    unfold forGo
    rw [e1]
    dsimp only
    rw [e2]
    exact forGo_fold st step fun d hd => hs d (List.mem_cons_of_mem _ hd)
theorem y_for {src : DEnv → Res (List D)} {is : List Nat} {hh : D → Option (List D)} {body : DEnv → SR} {ρ : DEnv} {ds : List D} (h : src ρ = .ok ds) : sFor src is hh body ρ = forGo (asgOf is hh) body ds ρ := by
  unfold sFor
  rw [h]
  rfl
theorem f_cons {asg : D → DEnv → Option DEnv} {body : DEnv → SR} {d : D} {ds : List D} {ρ ρ1 ρ' : DEnv} (h1 : asg d ρ = some ρ1) (h2 : body ρ1 = .next ρ') : forGo asg body (d :: ds) ρ = forGo asg body ds ρ' := by
  conv => lhs; unfold forGo
  rw [h1]
  dsimp only
  rw [h2]
theorem f_nil {asg : D → DEnv → Option DEnv} {body : DEnv → SR} {ρ : DEnv} : forGo asg body [] ρ = .next ρ := rfl
end PD
namespace PD
open PySem L2
def retOf : SR → Res D
  | .ret d => .ok d
  | _ => .bad
theorem retOf_ret' {r : SR} {d : D} (h : retOf r = .ok d) : r = .ret d := by
  cases r with
  | ret x => cases h; rfl
  | _ => cases h
theorem retOf_ret {r : SR} {d : D} (h : retOf r = .ok d) : r = .ret d := retOf_ret' h
theorem w_raw (v : V) : view (.raw v) = .raw v := rfl
theorem x_isE0 (a : Addr) (b : Bool) (ρ : DEnv) : fIsE 0 a b (.raw (.ref a) :: ρ) = .ok (.bool b) := by unfold fIsE; simp
theorem x_isES (i : Nat) (a : Addr) (b : Bool) (s : Slot) (ρ : DEnv) : fIsE (i + 1) a b (s :: ρ) = fIsE i a b ρ := rfl
theorem x_st {α : Type} (f : DEnv → Res α) (ρ : DEnv) : fSt f ρ = (f ρ).strict := rfl
theorem s_ok {α : Type} (a : α) : (Res.ok a).strict = .ok a := rfl
theorem x_lm (g : List D → D → Res D) (fo f : DEnv → Res D) (ρ : DEnv) : fLM g fo f ρ = ((fo ρ).bind asList).bind fun ds => (f ρ).bind fun b => g ds b := rfl
theorem x_asList (ds : List D) : asList (.list ds) = .ok ds := rfl
theorem y_bex (f : DEnv → Res D) (ρ : DEnv) : bExpr f ρ = (f ρ).bind fun _ => .ok none := rfl
theorem y_bret (f : DEnv → Res D) (ρ : DEnv) : bRet f ρ = (f ρ).bind fun d => if flatD d = true then .ok (some d) else .bad := rfl
theorem y_bif (g : DEnv → Res Bool) (F G : DEnv → Res (Option D)) (ρ : DEnv) : bIf g F G ρ = (g ρ).strict.bind fun b => if b = true then F ρ else G ρ := rfl
theorem x_via (n : Nat) (Fs : List (List D → Res D)) (fi : DEnv → Res D) (g : DEnv → Res (List D)) (ρ : DEnv) : fVia n Fs fi g ρ = (fi ρ).strict.bind fun i => (ixF Fs i).bind fun F => (g ρ).bind fun ds => if ds.length = n then F ds else .bad := rfl
theorem y_try {B : DEnv → Res (Option D)} {Lx : List Str} {FS : Str → DEnv → Res D} {ρ : DEnv} {c : Str} {d : D} (h : B (viewAll ρ) = .err c) (hL : Lx.contains c = true) (hF : FS c ρ = .ok d) : sTry B Lx FS ρ = .ret d := by
  unfold sTry
  rw [h]
  dsimp only
  rw [if_pos hL, hF]
theorem y_try_ok {B : DEnv → Res (Option D)} {Lx : List Str} {FS : Str → DEnv → Res D} {ρ : DEnv} (h : B (viewAll ρ) = .ok none) : sTry B Lx FS ρ = .next ρ := by
  unfold sTry
  rw [h]
theorem y_try_ret {B : DEnv → Res (Option D)} {Lx : List Str} {FS : Str → DEnv → Res D} {ρ : DEnv} {d : D} (h : B (viewAll ρ) = .ok (some d)) : sTry B Lx FS ρ = .ret d := by
  unfold sTry
  rw [h]
theorem lx1 {c a1 : Str} (h : List.contains [a1] c = true) : c = a1 := by simpa using h
theorem lx2 {c a1 a2 : Str} (h : List.contains [a1, a2] c = true) : c = a1 ∨ c = a2 := by simpa using h
theorem lx3 {c a1 a2 a3 : Str} (h : List.contains [a1, a2, a3] c = true) : c = a1 ∨ c = a2 ∨ c = a3 := by simpa using h
theorem lx4 {c a1 a2 a3 a4 : Str} (h : List.contains [a1, a2, a3, a4] c = true) : c = a1 ∨ c = a2 ∨ c = a3 ∨ c = a4 := by simpa using h
theorem lx5 {c a1 a2 a3 a4 a5 : Str} (h : List.contains [a1, a2, a3, a4, a5] c = true) : c = a1 ∨ c = a2 ∨ c = a3 ∨ c = a4 ∨ c = a5 := by simpa using h
theorem lx6 {c a1 a2 a3 a4 a5 a6 : Str} (h : List.contains [a1, a2, a3, a4, a5, a6] c = true) : c = a1 ∨ c = a2 ∨ c = a3 ∨ c = a4 ∨ c = a5 ∨ c = a6 := by simpa using h
theorem lx7 {c a1 a2 a3 a4 a5 a6 a7 : Str} (h : List.contains [a1, a2, a3, a4, a5, a6, a7] c = true) : c = a1 ∨ c = a2 ∨ c = a3 ∨ c = a4 ∨ c = a5 ∨ c = a6 ∨ c = a7 := by simpa using h
theorem g_addL11 (a0 b0 : D) : gAdd (.list [a0]) (.list [b0]) = .ok (.list [a0, b0]) := rfl
theorem g_addL21 (a0 a1 b0 : D) : gAdd (.list [a0, a1]) (.list [b0]) = .ok (.list [a0, a1, b0]) := rfl
theorem g_addL31 (a0 a1 a2 b0 : D) : gAdd (.list [a0, a1, a2]) (.list [b0]) = .ok (.list [a0, a1, a2, b0]) := rfl
theorem g_addL32 (a0 a1 a2 b0 b1 : D) : gAdd (.list [a0, a1, a2]) (.list [b0, b1]) = .ok (.list [a0, a1, a2, b0, b1]) := rfl
theorem g_addL51 (a0 a1 a2 a3 a4 b0 : D) : gAdd (.list [a0, a1, a2, a3, a4]) (.list [b0]) = .ok (.list [a0, a1, a2, a3, a4, b0]) := rfl
theorem g_addL41 (a0 a1 a2 a3 b0 : D) : gAdd (.list [a0, a1, a2, a3]) (.list [b0]) = .ok (.list [a0, a1, a2, a3, b0]) := rfl
theorem g_addL22 (a0 a1 b0 b1 : D) : gAdd (.list [a0, a1]) (.list [b0, b1]) = .ok (.list [a0, a1, b0, b1]) := rfl
theorem x_sl (g : D → Option Int → Option Int → Res D) (f : DEnv → Res D) (fl fh : DEnv → Res (Option Int)) (ρ : DEnv) : fSl g f fl fh ρ = (f ρ).bind fun x => (fl ρ).bind fun lo => (fh ρ).bind fun hi => g x lo hi := rfl
theorem x_np (ρ : DEnv) : fNoPart ρ = .ok none := rfl
theorem x_pt (f : DEnv → Res D) (ρ : DEnv) : fPart f ρ = (f ρ).bind asI := rfl
theorem x_asI (i : Int) : asI (.int i) = .ok (some i) := rfl
theorem g_slTa (a b c : D) : gSl (.tuple [a, b, c]) none (some 2) = .ok (.tuple [a, b]) := rfl
theorem g_slTb (a b c : D) : gSl (.tuple [a, b, c]) (some 1) none = .ok (.tuple [b, c]) := rfl
theorem g_addT12 (a b c : D) : gAdd (.tuple [a]) (.tuple [b, c]) = .ok (.tuple [a, b, c]) := rfl
theorem g_addT21 (a b c : D) : gAdd (.tuple [a, b]) (.tuple [c]) = .ok (.tuple [a, b, c]) := rfl
theorem g_addT31 (a b c d : D) : gAdd (.tuple [a, b, c]) (.tuple [d]) = .ok (.tuple [a, b, c, d]) := rfl
theorem x_mkL5 (a b c d e : D) : mkL [a, b, c, d, e] = .ok (.list [a, b, c, d, e]) := rfl
theorem x_mkL6 (a b c d e f : D) : mkL [a, b, c, d, e, f] = .ok (.list [a, b, c, d, e, f]) := rfl
theorem g_addL52 (a b c d e f g : D) : gAdd (.list [a, b, c, d, e]) (.list [f, g]) = .ok (.list [a, b, c, d, e, f, g]) := rfl
theorem g_addL72 (a b c d e f g h i : D) : gAdd (.list [a, b, c, d, e, f, g]) (.list [h, i]) = .ok (.list [a, b, c, d, e, f, g, h, i]) := rfl
theorem x_neg (i : Int) : gNeg (.int i) = .ok (.int (-i)) := rfl
end PD
namespace PD
open PySem L2
/-! ### texts -/
section
variable {K : PySem.W.Frag} {mg : Str → Option Value} {X : Cx} {E : XK} {o e : Expr} {to te : TE} {fo fe : DEnv → Res D} {apos pos : Pos}
/-- x.m(y), x a text -/
def fTM (g : Str → D → Res D) (fo fe : DEnv → Res D) : DEnv → Res D := fun ρ => (fo ρ).bind fun d => match d with
  | .str a => (fe ρ).bind fun b => g a b
  | _ => .bad
theorem tm_sd {r : V → List V → Hp → VK → Prop} {g : Str → D → Res D} (hs : ∀ (S H : Hp) (a : Str) (y : V) (b : D) (Q : VK), Same S H → DV K S y b → PostG mg E S H (DV K) (g a b) Q → r (.str a) [y] H Q) (ho : PD K mg X E o to fo) (he : PD K mg X E e te fe)
    (S H : Hp) (σ : L2.St) (ρ : DEnv) (Q : VK) (rl : RelE K S H σ ρ) (h : PostG mg E S H (DV K) (fTM g fo fe ρ) Q) : tM1 r to te σ H Q := by
  refine ho.sd S H σ ρ _ rl (h.bind fun d v S1 H1 x1 d1 h1 => ?_)
  cases d with
  | str a =>
    cases (show v = .str a from d1)
    refine ⟨⟨a, rfl⟩, he.sd S1 H1 σ ρ _ (rl.mono x1) (h1.bind fun b y S2 H2 x2 d2 h2 => ?_)⟩
    exact hs S2 H2 a y b Q x2.sh d2 h2
  | _ => exact h1.elim
def asStrs : List D → Option (List Str)
  | [] => some []
  | .str x :: r => (asStrs r).map fun l => x :: l
  | _ :: _ => none
theorem asStrs_dv {S : Hp} : ∀ {ds : List D} {ys : List Str} {vs : List V}, asStrs ds = some ys → DVs K S vs ds → vs = ys.map V.str
  | [], ys, vs, e, h => by
    cases e
    cases vs with
    | nil => rfl
    | cons v vs => exact h.elim
  | d :: ds, ys, vs, e, h => by
    cases d with
    | str x =>
      have e : (asStrs ds).map (fun l => x :: l) = some ys := e
      cases er : asStrs ds with
      | none => rw [er] at e; cases e
      | some l =>
        rw [er] at e
        cases e
        cases vs with
        | nil => exact h.elim
        | cons v vs =>
          rw [List.map_cons, ← asStrs_dv er h.2, show v = V.str x from h.1]
    | _ => cases e
theorem dvs_strs {S : Hp} : ∀ ys : List Str, DVs K S (ys.map V.str) (ys.map PyData.str)
  | [] => trivial
  | y :: ys => ⟨rfl, dvs_strs ys⟩
/-! join -/
def gJoin (a : Str) (b : D) : Res D := match b with
  | .list ds => match asStrs ds with
    | some ys => if (ys.map (·.length)).sum + ys.length * a.length ≤ 1000000 then .ok (.str (Txt.join a ys)) else .bad
    | none => .bad
  | _ => .bad
theorem pd_join (ho : PD K mg X E o to fo) (he : PD K mg X E e te fe) (hs : starEach [e] X.env = [(false, eval e X.env)] := by rfl) (hbase : attributeBase o "join" X.env (eval o X.env) = eval o X.env := by rfl) (hline : (apos.endLine == pos.line) = true := by rfl) (hK : X.K = K := by rfl) :
    PD K mg X E (.Call (.Attribute o "join" apos) [e] [] pos) (tM1 (fun x xs H Q => ∃ a p, ∃ ys : List Str, x = .str a ∧ xs = [.ref p] ∧ (SqL K H p (ys.map V.str) ∨ SqT K H p (ys.map V.str)) ∧
      (ys.map (·.length)).sum + ys.length * a.length ≤ 16777216 ∧ Q (.str (Txt.join a ys)) H) to te) (fTM gJoin fo fe) := ⟨hK ▸ pe_join ho.pe he.pe hs hbase hline, tm_sd (fun S H a y b Q sh dy h => by
  unfold gJoin at h
  split at h
  · split at h
    · rename_i ys ey
      split at h
      · rename_i hz
        rw [DV] at dy
        obtain ⟨p, us, rfl, h1, h2⟩ := dy
        rw [asStrs_dv ey h2] at h1
        exact ⟨a, p, ys, rfl, rfl, .inl (ls_sq (ls_mono sh h1)), by omega, h.ok0 sh rfl⟩
      · exact h.elim
    · exact h.elim
  · exact h.elim) ho he⟩
/-! split, partition -/
def gSplit (a : Str) (b : D) : Res D := match b with
  | .str s => if ((s.length == 0) = false ∧ a.length ≤ 1000000) then .ok (.list ((Txt.split a s).map PyData.str)) else .bad
  | _ => .bad
theorem pd_split (ho : PD K mg X E o to fo) (he : PD K mg X E e te fe) (hs : starEach [e] X.env = [(false, eval e X.env)] := by rfl) (hbase : attributeBase o "split" X.env (eval o X.env) = eval o X.env := by rfl) (hline : (apos.endLine == pos.line) = true := by rfl) :
    PD K mg X E (.Call (.Attribute o "split" apos) [e] [] pos) (tM1 (fun x xs H Q => ∃ a b, x = .str a ∧ xs = [.str b] ∧ (b.length == 0) = false ∧ a.length + 2 ≤ sizeLine ∧ rNewStrs (Txt.split a b) H Q) to te) (fTM gSplit fo fe) := ⟨pe_split ho.pe he.pe hs hbase hline, tm_sd (fun S H a y b Q sh dy h => by
  unfold gSplit at h
  split at h
  · rename_i s
    split at h
    · rename_i hz
      cases (show y = .str s from dy)
      exact ⟨a, s, rfl, rfl, hz.1, by rw [sizeLine_eq]; omega, fun p hp => new_lst sh (dvs_strs _) h hp⟩
    · exact h.elim
  · exact h.elim) ho he⟩
def gPart (a : Str) (b : D) : Res D := match b with
  | .str s => if ((s.length == 0) = false ∧ a.length ≤ 1000000) then .ok (.tuple [.str (Txt.partition a s).1, .str (Txt.partition a s).2.1, .str (Txt.partition a s).2.2]) else .bad
  | _ => .bad
theorem pd_partition (ho : PD K mg X E o to fo) (he : PD K mg X E e te fe) (hs : starEach [e] X.env = [(false, eval e X.env)] := by rfl) (hbase : attributeBase o "partition" X.env (eval o X.env) = eval o X.env := by rfl) (hline : (apos.endLine == pos.line) = true := by rfl) :
    PD K mg X E (.Call (.Attribute o "partition" apos) [e] [] pos) (tM1 (fun x xs H Q => ∃ a b, x = .str a ∧ xs = [.str b] ∧ (b.length == 0) = false ∧ a.length ≤ sizeLine ∧
      ∀ p, H p = none → Q (.ref p) (upd H p (.tup [.str (Txt.partition a b).1, .str (Txt.partition a b).2.1, .str (Txt.partition a b).2.2]))) to te) (fTM gPart fo fe) := ⟨pe_partition ho.pe he.pe hs hbase hline, tm_sd (fun S H a y b Q sh dy h => by
  unfold gPart at h
  split at h
  · rename_i s
    split at h
    · rename_i hz
      cases (show y = .str s from dy)
      exact ⟨a, s, rfl, rfl, hz.1, by rw [sizeLine_eq]; omega, fun p hp => new_tup sh (show DVs K S [V.str (Txt.partition a s).1, V.str (Txt.partition a s).2.1, V.str (Txt.partition a s).2.2] [PyData.str (Txt.partition a s).1, .str (Txt.partition a s).2.1, .str (Txt.partition a s).2.2] from ⟨rfl, rfl, rfl, trivial⟩) h hp⟩
    · exact h.elim
  · exact h.elim) ho he⟩
/-! int(text) -/
def gIntS : List D → Res D
  | [.str a] => match PySem.intText? a with
    | some n => if a.length ≤ 640 then .ok (.int n) else .bad
    | none => .bad
  | _ => .bad
theorem cs_intS : CaS K mg E (fun xs H Q => ∃ a n, xs = [.str a] ∧ PySem.intText? a = some n ∧ a.length ≤ 640 ∧ Q (.int n) H) gIntS := fun S H xs ds Q sh dv h => by
  unfold gIntS at h
  split at h
  · rename_i a
    split at h
    · rename_i n en
      split at h
      · rename_i hl
        obtain ⟨v, rfl, hv⟩ := dvs1 dv
        cases (show v = .str a from hv)
        exact ⟨a, n, rfl, en, hl, h.ok0 sh rfl⟩
      · exact h.elim
    · exact h.elim
  · exact h.elim
/-! text[i], text[i:j], a sign in a text -/
def gIxS : D → D → Res D
  | .str z, .int i => if lenOk z.length = true then (match atI z.cps.toList i with
    | some c => .ok (.str ⟨#[c]⟩)
    | none => .bad) else .bad
  | _, _ => .bad
theorem os_ixS : OpS K mg E rIxS gIxS := fun S H x y a b Q sh dx dy h => by
  unfold gIxS at h
  split at h
  · rename_i z i
    split at h
    · rename_i hz
      split at h
      · rename_i c ec
        cases (show x = .str z from dx)
        cases (show y = .int i from dy)
        exact ⟨z, i, c, rfl, rfl, lenOk.le hz, ec, h.ok0 sh rfl⟩
      · exact h.elim
    · exact h.elim
  · exact h.elim
def gSlS (a : D) (lo hi : Option Int) : Res D := match a with
  | .str z => if lenOk z.length = true then .ok (.str (cutS z lo hi)) else .bad
  | _ => .bad
theorem ss_slS : SlS K mg E rSlS gSlS := fun S H x lo hi a Q sh dx h => by
  unfold gSlS at h
  split at h
  · rename_i z
    split at h
    · rename_i hz
      cases (show x = .str z from dx)
      exact ⟨z, rfl, lenOk.le hz, h.ok0 sh rfl⟩
    · exact h.elim
  · exact h.elim
def gInS : D → D → Res D
  | .str x, .str z => match x.cps.toList with
    | [c] => .ok (.bool (decide (c ∈ z.cps.toList)))
    | _ => .bad
  | _, _ => .bad
theorem os_inS : OpS K mg E (fun x y H Q => ∃ (c : Nat) (z : Str), x = .str ⟨#[c]⟩ ∧ y = .str z ∧ Q (.bl (decide (c ∈ z.cps.toList))) H) gInS := fun S H x y a b Q sh dx dy h => by
  unfold gInS at h
  split at h
  · rename_i u z
    split at h
    · rename_i c ec
      cases (show x = .str u from dx)
      cases (show y = .str z from dy)
      obtain ⟨⟨l⟩⟩ := u
      have : l = [c] := ec
      subst this
      exact ⟨c, z, rfl, rfl, h.ok0 sh rfl⟩
    · exact h.elim
  · exact h.elim
end
/-! the signs of a text -/
def charsD (x : Str) : List D := x.cps.toList.map fun c => PyData.str ⟨#[c]⟩
theorem walks_str {K : PySem.W.Frag} {S : Hp} (x : Str) : Walks K S (Its x) (charsD x) := fun S' H' e1 e2 => by
  have hl : (charsD x).length = x.cps.size := by unfold charsD; rw [List.length_map, Array.length_toList]
  refine ⟨fun i d hi => ?_, by show x.cps.size ≤ (charsD x).length; rw [hl]; exact Nat.le_refl _⟩
  have hin : i < x.cps.size := by
    have := (List.getElem?_eq_some_iff.mp hi).1
    omega
  refine ⟨hin, fun v H'' hy => ?_⟩
  obtain ⟨rfl, c, ec, rfl⟩ := hy
  refine ⟨S', Ext.refl e2, ?_⟩
  unfold charsD at hi
  rw [List.getElem?_map, Array.getElem?_toList, ec] at hi
  have hi := Option.some.inj hi
  rw [← hi]
  rfl
def asText : D → Res (List D)
  | .str x => .ok (charsD x)
  | _ => .bad
def fText (f : DEnv → Res D) : DEnv → Res (List D) := fun ρ => (f ρ).bind asText
theorem id_str {K : PySem.W.Frag} {mg : Str → Option Value} {X : Cx} {E : XK} {e tg : Expr} {te : TE} {f : DEnv → Res D} (hl : PD K mg X E e te f) : ID K mg X E tg e (iStr te) (fText f) := ⟨pi_str hl.pe, fun S H σ ρ R rl h => by
  refine hl.sd S H σ ρ _ rl (h.bind fun d v S1 H1 x1 d1 h1 => ?_)
  cases d with
  | str x =>
    cases (show v = .str x from d1)
    exact ⟨x, rfl, h1.ok0 x1.sh (walks_str x)⟩
  | _ => exact h1.elim⟩
end PD
local macro_rules | `(tactic| walk_at "ev") => `(tactic| try simp -implicitDefEqProofs only [PD.startD, List.map_cons, List.map_nil, List.length_cons, List.length_nil, List.cons_append, List.nil_append, Nat.reduceAdd, Nat.reduceSub, List.replicate_succ, List.replicate_zero, PD.v_nil, PD.v_cons, PD.w_d, PD.w_un, PD.w_own, PD.w_raw, PD.x_isE0, PD.x_isES, PD.x_st, PD.s_ok, PD.x_lm, PD.x_asList, PD.y_bex, PD.y_bret, PD.y_bif, PD.x_via, PD.x_var0, PD.x_varS, PD.x_c, PD.x_bin, PD.x_un, PD.x_call1, PD.x_call2, PD.x_call3, PD.x_call0, PD.x_b, PD.x_nil, PD.x_cons, PD.x_test, PD.x_asB, PD.x_not, PD.x_and, PD.x_or, PD.x_andV, PD.x_orV, PD.x_notV, PD.x_if, PD.x_isi, PD.x_chain, PD.x_tup, PD.x_lst, PD.x_mkT0, PD.x_mkT1, PD.x_mkT2, PD.x_mkT3, PD.x_mkL0, PD.x_mkL1, PD.x_mkL2, PD.x_mkL3, PD.x_mkL4, PD.x_mkL5, PD.x_mkL6, PD.x_sl, PD.x_np, PD.x_pt, PD.x_asI, PD.g_slTa, PD.g_slTb, PD.g_addT12, PD.g_addT21, PD.g_addT31, PD.g_addL52, PD.g_addL72, PD.x_neg, PD.g_addL11, PD.g_addL21, PD.g_addL31, PD.g_addL32, PD.g_addL51, PD.g_addL41, PD.g_addL22, PD.bind_ok, PD.bind_err, PD.bind_bad, PD.y_next, PD.y_ret, PD.y_err, PD.y_ok, PD.y_er, PD.y_seq, PD.y_if, PD.y_nx, PD.y_rt, PD.y_ex, PD.y_rs, PD.y_as1, PD.y_asT3, PD.wp_nil, PD.wp_cons, PD.l_1, PD.l_2, PD.l_3, PD.l2_11, PD.x_seq, PD.x_asL, PD.x_asT, PD.x_rng, PD.x_zipL, PD.x_zipT, PD.g_tupL, PD.g_tupT, PD.g_listL, PD.g_listT, PD.y_fn, PD.y_t1, PD.y_t2, PD.y_t3, PD.set0, PD.setS', PD.eq_int, PD.ne_int, PD.g_lt, PD.g_le, PD.g_gt, PD.g_ge, PD.g_sub, PD.g_add, PD.g_lenL, PD.g_lenT, PD.g_ix30, PD.g_ix31, PD.g_ix32, PD.isi_TT, PD.isi_TL, PD.isi_LL, PD.isi_SS, PD.is_TF, PD.is_FF, reduceIte, Bool.false_eq_true, Bool.not_true, Bool.not_false, Int.cast_ofNat_Int, beq_self_eq_true, Int.reduceBEq, decide_true, decide_false])
local macro_rules | `(tactic| simp_arith [$xs,*]) => `(tactic| simp -implicitDefEqProofs only [$xs,*, PD.startD, List.map_cons, List.map_nil, List.length_cons, List.length_nil, List.cons_append, List.nil_append, Nat.reduceAdd, Nat.reduceSub, List.replicate_succ, List.replicate_zero, PD.v_nil, PD.v_cons, PD.w_d, PD.w_un, PD.w_own, PD.w_raw, PD.x_isE0, PD.x_isES, PD.x_st, PD.s_ok, PD.x_lm, PD.x_asList, PD.y_bex, PD.y_bret, PD.y_bif, PD.x_via, PD.x_var0, PD.x_varS, PD.x_c, PD.x_bin, PD.x_un, PD.x_call1, PD.x_call2, PD.x_call3, PD.x_call0, PD.x_b, PD.x_nil, PD.x_cons, PD.x_test, PD.x_asB, PD.x_not, PD.x_and, PD.x_or, PD.x_andV, PD.x_orV, PD.x_notV, PD.x_if, PD.x_isi, PD.x_chain, PD.x_tup, PD.x_lst, PD.x_mkT0, PD.x_mkT1, PD.x_mkT2, PD.x_mkT3, PD.x_mkL0, PD.x_mkL1, PD.x_mkL2, PD.x_mkL3, PD.x_mkL4, PD.x_mkL5, PD.x_mkL6, PD.x_sl, PD.x_np, PD.x_pt, PD.x_asI, PD.g_slTa, PD.g_slTb, PD.g_addT12, PD.g_addT21, PD.g_addT31, PD.g_addL52, PD.g_addL72, PD.x_neg, PD.g_addL11, PD.g_addL21, PD.g_addL31, PD.g_addL32, PD.g_addL51, PD.g_addL41, PD.g_addL22, PD.bind_ok, PD.bind_err, PD.bind_bad, PD.y_next, PD.y_ret, PD.y_err, PD.y_ok, PD.y_er, PD.y_seq, PD.y_if, PD.y_nx, PD.y_rt, PD.y_ex, PD.y_rs, PD.y_as1, PD.y_asT3, PD.wp_nil, PD.wp_cons, PD.l_1, PD.l_2, PD.l_3, PD.l2_11, PD.x_seq, PD.x_asL, PD.x_asT, PD.x_rng, PD.x_zipL, PD.x_zipT, PD.g_tupL, PD.g_tupT, PD.g_listL, PD.g_listT, PD.y_fn, PD.y_t1, PD.y_t2, PD.y_t3, PD.set0, PD.setS', PD.eq_int, PD.ne_int, PD.g_lt, PD.g_le, PD.g_gt, PD.g_ge, PD.g_sub, PD.g_add, PD.g_lenL, PD.g_lenT, PD.g_ix30, PD.g_ix31, PD.g_ix32, PD.isi_TT, PD.isi_TL, PD.isi_LL, PD.isi_SS, PD.is_TF, PD.is_FF, reduceIte, Bool.false_eq_true, Bool.not_true, Bool.not_false, Int.cast_ofNat_Int, beq_self_eq_true, Int.reduceBEq, decide_true, decide_false])
namespace Lw
open PySem L2 PD
-- is_int: 0 value, 1 least, 2 most
def B_is_int : DEnv → SR := sRet (fAndV (fIsi "int" (fVar 0)) (fAndV (fNotV (fIsi "bool" (fVar 0))) (fChain gLe gLe (fVar 1) (fVar 0) (fVar 2))))
def F_is_int : List D → Res D := fnF 3 B_is_int
-- is_wheel: 0 value, 1 least, 2 most, 3 step
def B_is_wheel : DEnv → SR := sSeq (sIf (fOr (fNot (fTest (fIsi "tuple" (fVar 0)))) (fOr (fTest (fBin gNe (fB gLen (fCons (fVar 0) fNil)) (fC (.int 3)))) (fNot (fTest (fCall 3 F_is_int (fCons (fBin gIx (fVar 0) (fC (.int 0))) (fCons (fC (.int 0)) (fCons (fC (.int 40)) fNil)))))))) (sRet (fC (.bool false))) sNext) (sSeq (sAsg (fVar 0) [1, 2, 3] (hTup 3)) (sSeq (sIf (fOr (fNot (fTest (fCall 3 F_is_int (fCons (fVar 2) (fCons (fVar 1) (fCons (fC (.int 60)) fNil)))))) (fNot (fTest (fCall 3 F_is_int (fCons (fVar 3) (fCons (fC (.int 1)) (fCons (fC (.int 3)) fNil))))))) (sRet (fC (.bool false))) sNext) (sRet (fBin gLe (fBin gAdd (fBin gDiv (fBin gSub (fVar 2) (fVar 1)) (fVar 3)) (fC (.int 1))) (fC (.int 13))))))
def F_is_wheel : List D → Res D := fnF 4 B_is_wheel
-- is_camera: 0 candidate, 1 wheel
def B_is_camera : DEnv → SR := sSeq (sIf (fOr (fNot (fTest (fIsi "tuple" (fVar 0)))) (fTest (fBin gNe (fB gLen (fCons (fVar 0) fNil)) (fB gLen (fCons (fC (.tuple [(.str "aperture"), (.str "time"), (.str "sensitivity")])) fNil))))) (sRet (fC (.bool false))) sNext) (sRet (fB gAll (fCons (fLc (fSeq (fVar 0)) [1] [1] hOne fYes (fCall 1 F_is_wheel (fCons (fVar 1) fNil))) fNil)))
def F_is_camera : List D → Res D := fnF 2 B_is_camera
-- check_camera: 0 value
def B_check_camera : DEnv → SR := sIf (fNot (fTest (fCall 1 F_is_camera (fCons (fVar 0) fNil)))) (sRaise "InvalidCamera") sNext
def F_check_camera : List D → Res D := fnF 1 B_check_camera
-- join_camera: 0 camera, 1 least, 2 most, 3 step
def B_join_camera : DEnv → SR := sRet (fTM gJoin (fC (.str " ")) (fLc (fSeq (fVar 0)) [1, 2, 3] [1, 2, 3] (hTup 3) fYes (fBin gAdd (fBin gAdd (fBin gAdd (fBin gAdd (fB gStr (fCons (fVar 1) fNil)) (fC (.str "-"))) (fB gStr (fCons (fVar 2) fNil))) (fC (.str "/"))) (fB gStr (fCons (fVar 3) fNil)))))
def F_join_camera : List D → Res D := fnF 4 B_join_camera
-- format_camera: 0 camera
def B_format_camera : DEnv → SR := sSeq (sExpr (fCall 1 F_check_camera (fCons (fVar 0) fNil))) (sRet (fCall 1 F_join_camera (fCons (fVar 0) fNil)))
def F_format_camera : List D → Res D := fnF 1 B_format_camera
-- read_int: 0 text, 1 sign
def B_read_int : DEnv → SR := sSeq (sIf (fOr (fNot (fTest (fChain gLe gLe (fC (.int 1)) (fB gLen (fCons (fVar 0) fNil)) (fC (.int 2))))) (fNot (fTest (fB gAll (fCons (fLc (fText (fVar 0)) [1] [1] hOne fYes (fBin gInS (fVar 1) (fC (.str "0123456789")))) fNil))))) (sRet (fC .none)) sNext) (sRet (fB gIntS (fCons (fVar 0) fNil)))
def F_read_int : List D → Res D := fnF 2 B_read_int
-- read_wheel: 0 text, 1 least, 2 dash, 3 rest, 4 most, 5 slash, 6 step
def B_read_wheel : DEnv → SR := sSeq (sAsg (fTM gPart (fVar 0) (fC (.str "-"))) [1, 2, 3] (hTup 3)) (sSeq (sAsg (fTM gPart (fVar 3) (fC (.str "/"))) [4, 5, 6] (hTup 3)) (sRet (fTup (fCons (fCall 1 F_read_int (fCons (fVar 1) fNil)) (fCons (fCall 1 F_read_int (fCons (fVar 4) fNil)) (fCons (fCall 1 F_read_int (fCons (fVar 6) fNil)) fNil))))))
def F_read_wheel : List D → Res D := fnF 7 B_read_wheel
-- parse_camera: 0 text, 1 camera, 2 part
def B_parse_camera : DEnv → SR := sSeq (sIf (fNot (fTest (fIsi "str" (fVar 0)))) (sRaise "ParseError") sNext) (sSeq (sAsg (fB gTupOf (fCons (fLc (fSeq (fTM gSplit (fVar 0) (fC (.str " ")))) [2] [2] hOne fYes (fCall 1 F_read_wheel (fCons (fVar 2) fNil))) fNil)) [1] hOne) (sSeq (sIf (fOr (fNot (fTest (fCall 1 F_is_camera (fCons (fVar 1) fNil)))) (fTest (fBin gNe (fCall 1 F_join_camera (fCons (fVar 1) fNil)) (fVar 0)))) (sRaise "ParseError") sNext) (sRet (fVar 1))))
def F_parse_camera : List D → Res D := fnF 3 B_parse_camera
-- join_stops: 0 number, 1 whole, 2 left, 3 parts
def B_join_stops : DEnv → SR := sSeq (sPar (zD (fBin gDiv (fB gAbs (fCons (fVar 0) fNil)) (fC (.int 3))) (zD (fBin gMod (fB gAbs (fCons (fVar 0) fNil)) (fC (.int 3))) zNil)) [1, 2]) (sSeq (sAsg (fBin gAdd (fIf (fOr (fTest (fBin gGt (fVar 1) (fC (.int 0)))) (fTest (fBin gEq (fVar 2) (fC (.int 0))))) (fLst (fCons (fB gStr (fCons (fVar 1) fNil)) fNil)) (fLst fNil)) (fIf (fTest (fBin gGt (fVar 2) (fC (.int 0)))) (fLst (fCons (fBin gAdd (fBin gAdd (fB gStr (fCons (fVar 2) fNil)) (fC (.str "/"))) (fB gStr (fCons (fC (.int 3)) fNil))) fNil)) (fLst fNil))) [3] hOne) (sRet (fBin gAdd (fIf (fTest (fBin gLt (fVar 0) (fC (.int 0)))) (fC (.str "-")) (fC (.str ""))) (fTM gJoin (fC (.str " ")) (fVar 3)))))
def F_join_stops : List D → Res D := fnF 4 B_join_stops
-- stops: 0 number
def B_stops : DEnv → SR := sSeq (sIf (fNot (fTest (fCall 3 F_is_int (fCons (fVar 0) (fCons (fBin gSub (fC (.int 0)) (fC (.int 180))) (fCons (fC (.int 180)) fNil)))))) (sRaise "InvalidNumber") sNext) (sRet (fCall 1 F_join_stops (fCons (fVar 0) fNil)))
def F_stops : List D → Res D := fnF 1 B_stops
-- read_stops: 0 text, 1 number
abbrev L_read_stops_0 : DEnv → SR := sIf (fTest (fBin gEq (fCall 1 F_join_stops (fCons (fVar 1) fNil)) (fVar 0))) (sRet (fVar 1)) sNext
def B_read_stops : DEnv → SR := sSeq (sIf (fTest (fIsi "str" (fVar 0))) (sFor (fRng gRng2 (fCons (fBin gSub (fC (.int 0)) (fC (.int 180))) (fCons (fBin gAdd (fC (.int 180)) (fC (.int 1))) fNil))) [1] hOne L_read_stops_0) sNext) (sRaise "ParseError")
def F_read_stops : List D → Res D := fnF 2 B_read_stops
-- _law_drawn: 0 script, 1 k, 2 many, 3 cell, 4 turn, 5 rest
abbrev L_law_drawn_0 : DEnv → SR := sSeq (sAsg (fBin gDiv (fVar 5) (fC (.int 1000000))) [5] hOne) (sAsg (fBin gSub (fVar 4) (fC (.int 1))) [4] hOne)
def B_law_drawn : DEnv → SR := sSeq (sAsg (fBin gMulI (fC (.int 7)) (fVar 1)) [3] hOne) (sSeq (sIf (fTest (fBin gNe (fVar 0) (fLst fNil))) (sSeq (sAsg (fBin gIx (fVar 0) (fBin gMod (fVar 1) (fB gLen (fCons (fVar 0) fNil)))) [3] hOne) (sSeq (sAsg (fBin gDiv (fVar 1) (fB gLen (fCons (fVar 0) fNil))) [4] hOne) (sSeq (sIf (fAnd (fTest (fBin gGe (fVar 3) (fBin gPow (fC (.int 10)) (fC (.int 18))))) (fTest (fBin gLt (fVar 4) (fC (.int 60))))) (sSeq (sAsg (fBin gDiv (fVar 3) (fBin gPow (fC (.int 10)) (fC (.int 18)))) [5] hOne) (sSeq (whileGo (fAnd (fTest (fBin gGt (fVar 5) (fC (.int 0)))) (fTest (fBin gGt (fVar 4) (fC (.int 0))))) L_law_drawn_0 100000) (sIf (fTest (fBin gGt (fVar 5) (fC (.int 0)))) (sRet (fBin gMod (fBin gMod (fVar 5) (fC (.int 1000000))) (fVar 2))) sNext))) sNext) (sAsg (fBin gAdd (fVar 3) (fBin gMulI (fC (.int 6553)) (fBin gDiv (fVar 1) (fB gLen (fCons (fVar 0) fNil))))) [3] hOne)))) sNext) (sSeq (sAsg (fBin gMod (fBin gAdd (fBin gMulI (fBin gMod (fVar 3) (fC (.int 2147483563))) (fC (.int 69069))) (fBin gMulI (fC (.int 104723)) (fBin gAdd (fVar 1) (fC (.int 1))))) (fC (.int 2147483563))) [3] hOne) (sSeq (sAsg (fBin gMod (fBin gAdd (fBin gMulI (fVar 3) (fVar 3)) (fBin gDiv (fVar 3) (fC (.int 3)))) (fC (.int 2147483399))) [3] hOne) (sRet (fBin gMod (fBin gDiv (fBin gMod (fBin gAdd (fBin gMulI (fVar 3) (fVar 3)) (fBin gDiv (fVar 3) (fC (.int 7)))) (fC (.int 2147483647))) (fC (.int 11))) (fVar 2))))))
def F_law_drawn : List D → Res D := fnF 6 B_law_drawn
-- _law_camera: 0 script, 1 at, 2 found, 3 k, 4 least, 5 step, 6 most
abbrev L_law_camera_0 : DEnv → SR := sSeq (sPar (zD (fCall 3 F_law_drawn (fCons (fVar 0) (fCons (fBin gAdd (fVar 1) (fBin gMulI (fC (.int 3)) (fVar 3))) (fCons (fC (.int 20)) fNil)))) (zD (fBin gAdd (fC (.int 1)) (fCall 3 F_law_drawn (fCons (fVar 0) (fCons (fBin gAdd (fBin gAdd (fVar 1) (fC (.int 1))) (fBin gMulI (fC (.int 3)) (fVar 3))) (fCons (fC (.int 3)) fNil))))) zNil)) [4, 5]) (sSeq (sAsg (fBin gAdd (fBin gAdd (fVar 4) (fBin gMulI (fVar 5) (fCall 3 F_law_drawn (fCons (fVar 0) (fCons (fBin gAdd (fBin gAdd (fVar 1) (fC (.int 2))) (fBin gMulI (fC (.int 3)) (fVar 3))) (fCons (fC (.int 4)) fNil)))))) (fCall 3 F_law_drawn (fCons (fVar 0) (fCons (fBin gAdd (fBin gAdd (fVar 1) (fC (.int 9))) (fVar 3)) (fCons (fVar 5) fNil))))) [6] hOne) (sApp (fTup (fCons (fVar 4) (fCons (fVar 6) (fCons (fVar 5) fNil)))) 2))
def B_law_camera : DEnv → SR := sSeq (sOwnL fNil 2) (sSeq (sFor (fRng gRng1 (fCons (fC (.int 3)) fNil)) [3] hOne L_law_camera_0) (sFrz [2] (sRet (fB gTupOf (fCons (fVar 2) fNil)))))
def F_law_camera : List D → Res D := fnF 7 B_law_camera
-- _law_badcamera: 0 script, 1 at, 2 wheel, 3 bad
def B_law_badcamera : DEnv → SR := sSeq (sAsg (fTup (fCons (fC (.int 0)) (fCons (fC (.int 6)) (fCons (fC (.int 3)) fNil)))) [2] hOne) (sSeq (sAsg (fLst (fCons (fC .none) (fCons (fTup fNil) (fCons (fTup (fCons (fVar 2) (fCons (fVar 2) fNil))) (fCons (fBin gRep (fTup (fCons (fVar 2) fNil)) (fC (.int 4))) (fCons (fTup (fCons (fTup (fCons (fC (.int 41)) (fCons (fC (.int 50)) (fCons (fC (.int 1)) fNil)))) (fCons (fVar 2) (fCons (fVar 2) fNil)))) fNil)))))) [3] hOne) (sSeq (sAsg (fBin gAdd (fVar 3) (fLst (fCons (fTup (fCons (fTup (fCons (fC (.int 0)) (fCons (fC (.int 61)) (fCons (fC (.int 3)) fNil)))) (fCons (fVar 2) (fCons (fVar 2) fNil)))) fNil))) [3] hOne) (sSeq (sAsg (fBin gAdd (fVar 3) (fLst (fCons (fTup (fCons (fTup (fCons (fC (.int 9)) (fCons (fC (.int 8)) (fCons (fC (.int 1)) fNil)))) (fCons (fVar 2) (fCons (fVar 2) fNil)))) (fCons (fTup (fCons (fVar 2) (fCons (fTup (fCons (fC (.int 0)) (fCons (fC (.int 6)) (fCons (fC (.int 4)) fNil)))) (fCons (fVar 2) fNil)))) (fCons (fTup (fCons (fVar 2) (fCons (fTup (fCons (fC (.int 0)) (fCons (fC (.int 6)) (fCons (fC (.int 0)) fNil)))) (fCons (fVar 2) fNil)))) fNil))))) [3] hOne) (sSeq (sAsg (fBin gAdd (fVar 3) (fLst (fCons (fTup (fCons (fTup (fCons (fC (.int 0)) (fCons (fC (.int 13)) (fCons (fC (.int 1)) fNil)))) (fCons (fVar 2) (fCons (fVar 2) fNil)))) fNil))) [3] hOne) (sRet (fBin gIx (fBin gAdd (fVar 3) (fLst (fCons (fBin gRep (fLst (fCons (fVar 2) fNil)) (fC (.int 3))) (fCons (fTup (fCons (fVar 2) (fCons (fVar 2) (fCons (fLst (fCons (fC (.int 0)) (fCons (fC (.int 6)) (fCons (fC (.int 3)) fNil)))) fNil)))) (fCons (fTup (fCons (fVar 2) (fCons (fVar 2) (fCons (fTup (fCons (fC (.int 0)) (fCons (fC (.bool true)) (fCons (fC (.int 1)) fNil)))) fNil)))) fNil))))) (fCall 3 F_law_drawn (fCons (fVar 0) (fCons (fVar 1) (fCons (fC (.int 13)) fNil))))))))))
def F_law_badcamera : List D → Res D := fnF 4 B_law_badcamera
-- _law_text: 0 camera, 1 least, 2 most, 3 step
def B_law_text : DEnv → SR := sRet (fTM gJoin (fC (.str " ")) (fLc (fSeq (fVar 0)) [1, 2, 3] [1, 2, 3] (hTup 3) fYes (fBin gAdd (fBin gAdd (fBin gAdd (fBin gAdd (fB gStr (fCons (fVar 1) fNil)) (fC (.str "-"))) (fB gStr (fCons (fVar 2) fNil))) (fC (.str "/"))) (fB gStr (fCons (fVar 3) fNil)))))
def F_law_text : List D → Res D := fnF 4 B_law_text
-- _law_stops: 0 number, 1 size, 2 text
def B_law_stops : DEnv → SR := sSeq (sAsg (fIf (fTest (fBin gGe (fVar 0) (fC (.int 0)))) (fVar 0) (fBin gSub (fC (.int 0)) (fVar 0))) [1] hOne) (sSeq (sAsg (fBin gIx (fLst (fCons (fC (.str "")) (fCons (fC (.str "1/3")) (fCons (fC (.str "2/3")) fNil)))) (fBin gMod (fVar 1) (fC (.int 3)))) [2] hOne) (sSeq (sIf (fTest (fBin gGe (fVar 1) (fC (.int 3)))) (sAsg (fBin gAdd (fB gStr (fCons (fBin gDiv (fVar 1) (fC (.int 3))) fNil)) (fIf (fTest (fBin gNe (fVar 2) (fC (.str "")))) (fBin gAdd (fC (.str " ")) (fVar 2)) (fC (.str "")))) [2] hOne) sNext) (sRet (fBin gAdd (fIf (fTest (fBin gLt (fVar 0) (fC (.int 0)))) (fC (.str "-")) (fC (.str ""))) (fIf (fTest (fBin gNe (fVar 2) (fC (.str "")))) (fVar 2) (fC (.str "0")))))))
def F_law_stops : List D → Res D := fnF 3 B_law_stops
-- _law_again: 0 way, 1 text, 2 e
def LX_law_again : List Str := ["ParseError"]
def XS_law_again (a : Addr) (c : Str) : DEnv → SR := sRet (fIf (fTest (fIsE 2 a (c == "ParseError"))) (fC .none) (fC (.str "another exception")))
def X_law_again (c : Str) (ρ : DEnv) : Res D := if ρ.length = 3 then retOf (XS_law_again 0 c (ρ.set 2 (.raw (.ref 0)))) else .bad
theorem xs_law_again (a : Addr) (c : Str) (ρ : DEnv) (d : D) (h : X_law_again c ρ = .ok d) : XS_law_again a c (ρ.set 2 (.raw (.ref a))) = .ret d := by
  unfold X_law_again at h
  split at h
  · rename_i hl
    match ρ, hl with
    | [r0, r1, r2], _ =>
      refine retOf_ret (Eq.trans ?_ h)
      unfold XS_law_again
      walk_at "ev"
      all_goals rfl
  · cases h
def B_law_again : DEnv → SR := sTry (bRet (fIf (fSt (fTest (fBin gEq (fVar 0) (fC (.int 0))))) (fCall 1 F_law_text (fCons (fCall 1 F_parse_camera (fSt (fCons (fVar 1) fNil))) fNil)) (fCall 1 F_law_stops (fCons (fCall 1 F_read_stops (fSt (fCons (fVar 1) fNil))) fNil)))) LX_law_again X_law_again
def F_law_again : List D → Res D := fnF 3 B_law_again
-- _law_rejected: 0 bad, 1 one
def B_law_rejected : DEnv → SR := sSeq (sAsg (fLst (fCons (fC .none) (fCons (fC (.int 7)) (fCons (fC (.str "")) (fCons (fC (.str "0-6/3 0-6/3")) (fCons (fC (.str "0-6/3 0-6/3 0-6/3 0-6/3")) (fCons (fC (.str "0-6/3 0-6/3 0-6/4")) fNil))))))) [0] hOne) (sSeq (sAsg (fBin gAdd (fVar 0) (fLst (fCons (fC (.str "0-6/3 0-6/3 6-0/3")) (fCons (fC (.str "00-6/3 0-6/3 0-6/3")) fNil)))) [0] hOne) (sSeq (sAsg (fBin gAdd (fVar 0) (fLst (fCons (fC (.str "0-6/3  0-6/3 0-6/3")) (fCons (fC (.str "0-6/3 0-6/3 0-6/3 ")) (fCons (fC (.str "0-61/3 0-6/3 0-6/3")) fNil))))) [0] hOne) (sSeq (sAsg (fBin gAdd (fVar 0) (fLst (fCons (fC (.str "0-6 0-6/3 0-6/3")) (fCons (fC (.str "0/6-3 0-6/3 0-6/3")) (fCons (fC (.str "a-6/3 0-6/3 0-6/3")) fNil))))) [0] hOne) (sSeq (sAsg (fBin gAdd (fVar 0) (fLst (fCons (fC (.str "41-50/1 0-6/3 0-6/3")) (fCons (fC (.str "0-13/1 0-6/3 0-6/3")) (fCons (fTup (fCons (fC (.str "0-6/3 0-6/3 0-6/3")) fNil)) fNil))))) [0] hOne) (sSeq (sAsg (fBin gAdd (fVar 0) (fLst (fCons (fC (.str "0-6/3,0-6/3,0-6/3")) (fCons (fC (.str "0-6/0 0-6/3 0-6/3")) fNil)))) [0] hOne) (sSeq (sIf (fTest (fBin gNe (fLc (fSeq (fVar 0)) [1] [1] hOne (fTest (fBin (gIs true) (fCall 2 F_law_again (fCons (fC (.int 0)) (fCons (fVar 1) fNil))) (fC .none))) (fVar 1)) (fLst fNil))) (sRet (fC (.bool false))) sNext) (sSeq (sAsg (fLst (fCons (fC .none) (fCons (fC (.int 7)) (fCons (fC (.str "")) (fCons (fC (.str "-")) (fCons (fC (.str "-0")) (fCons (fC (.str "3/3")) (fCons (fC (.str "0/3")) (fCons (fC (.str "0 1/3")) (fCons (fC (.str "1  1/3")) (fCons (fC (.str "1 1/3 ")) (fCons (fC (.str " 1")) (fCons (fC (.str "01")) fNil))))))))))))) [0] hOne) (sSeq (sAsg (fBin gAdd (fVar 0) (fLst (fCons (fC (.str "61")) (fCons (fC (.str "60 1/3")) (fCons (fC (.str "1 3/3")) (fCons (fC (.str "+1")) (fCons (fC (.str "1.5")) (fCons (fTup (fCons (fC (.str "1")) fNil)) (fCons (fC (.str "1/2")) (fCons (fC (.str "2 -1/3")) fNil)))))))))) [0] hOne) (sRet (fBin gEq (fLc (fSeq (fVar 0)) [1] [1] hOne (fTest (fBin (gIs true) (fCall 2 F_law_again (fCons (fC (.int 1)) (fCons (fVar 1) fNil))) (fC .none))) (fVar 1)) (fLst fNil)))))))))))
def F_law_rejected : List D → Res D := fnF 2 B_law_rejected
-- _law_refused: 0 way, 1 one, 2 e
def LX_law_refused : List Str := ["InvalidCamera", "InvalidNumber"]
def XS_law_refused (a : Addr) (c : Str) : DEnv → SR := sRet (fIf (fTest (fBin gEq (fVar 0) (fC (.int 0)))) (fIsE 2 a (c == "InvalidCamera")) (fIsE 2 a (c == "InvalidNumber")))
def X_law_refused (c : Str) (ρ : DEnv) : Res D := if ρ.length = 3 then retOf (XS_law_refused 0 c (ρ.set 2 (.raw (.ref 0)))) else .bad
theorem xs_law_refused (a : Addr) (c : Str) (ρ : DEnv) (d : D) (h : X_law_refused c ρ = .ok d) : XS_law_refused a c (ρ.set 2 (.raw (.ref a))) = .ret d := by
  unfold X_law_refused at h
  split at h
  · rename_i hl
    match ρ, hl with
    | [r0, r1, r2], _ =>
      refine retOf_ret (Eq.trans ?_ h)
      unfold XS_law_refused
      walk_at "ev"
      all_goals rfl
  · cases h
def B_law_refused : DEnv → SR := sSeq (sTry (bExpr (fVia 1 [F_format_camera, F_stops] (fVar 0) (fSt (fCons (fVar 1) fNil)))) LX_law_refused X_law_refused) (sRet (fC (.bool false)))
def F_law_refused : List D → Res D := fnF 3 B_law_refused
-- law: 0 script, 1 camera, 2 text, 3 k, 4 number, 5 at, 6 known, 7 cut, 8 sign, 9 new, 10 bent
abbrev L_law_0 : DEnv → SR := sSeq (sAsg (fBin gIx (fLst (fCons (fBin gSub (fCall 3 F_law_drawn (fCons (fVar 0) (fCons (fBin gAdd (fC (.int 30)) (fVar 3)) (fCons (fC (.int 361)) fNil)))) (fC (.int 180))) (fCons (fBin gSub (fCall 3 F_law_drawn (fCons (fVar 0) (fCons (fBin gAdd (fC (.int 30)) (fVar 3)) (fCons (fC (.int 13)) fNil)))) (fC (.int 6))) fNil))) (fBin gMod (fVar 3) (fC (.int 2)))) [4] hOne) (sIf (fOr (fTest (fBin gNe (fCall 1 F_stops (fCons (fVar 4) fNil)) (fCall 1 F_law_stops (fCons (fVar 4) fNil)))) (fTest (fBin gNe (fCall 1 F_read_stops (fCons (fCall 1 F_law_stops (fCons (fVar 4) fNil)) fNil)) (fVar 4)))) (sRet (fC (.bool false))) sNext)
abbrev L_law_1 : DEnv → SR := sSeq (sAsg (fBin gAdd (fC (.int 40)) (fBin gMulI (fC (.int 4)) (fVar 3))) [5] hOne) (sSeq (sAsg (fBin gIx (fLst (fCons (fVar 2) (fCons (fCall 1 F_law_stops (fCons (fVar 4) fNil)) fNil))) (fBin gMod (fVar 3) (fC (.int 2)))) [6] hOne) (sSeq (sPar (zD (fCall 3 F_law_drawn (fCons (fVar 0) (fCons (fVar 5) (fCons (fBin gAdd (fB gLen (fCons (fVar 6) fNil)) (fC (.int 1))) fNil)))) (zD (fBin gIxS (fC (.str "13-/ 0")) (fCall 3 F_law_drawn (fCons (fVar 0) (fCons (fBin gAdd (fVar 5) (fC (.int 1))) (fCons (fC (.int 6)) fNil))))) zNil)) [7, 8]) (sSeq (sAsg (fIf (fTest (fBin gEq (fCall 3 F_law_drawn (fCons (fVar 0) (fCons (fBin gAdd (fVar 5) (fC (.int 2))) (fCons (fC (.int 3)) fNil)))) (fC (.int 0)))) (fC (.str "")) (fVar 8)) [9] hOne) (sSeq (sAsg (fBin gAdd (fBin gAdd (fSl gSlS (fVar 6) fNoPart (fPart (fVar 7))) (fVar 9)) (fSl gSlS (fVar 6) (fPart (fBin gAdd (fVar 7) (fCall 3 F_law_drawn (fCons (fVar 0) (fCons (fBin gAdd (fVar 5) (fC (.int 3))) (fCons (fC (.int 2)) fNil)))))) fNoPart)) [10] hOne) (sIf (fTest (fBin (gIn true) (fCall 2 F_law_again (fCons (fBin gMod (fVar 3) (fC (.int 2))) (fCons (fVar 10) fNil))) (fTup (fCons (fC .none) (fCons (fVar 10) fNil))))) (sRet (fC (.bool false))) sNext)))))
def B_law : DEnv → SR := sSeq (sAsg (fCall 2 F_law_camera (fCons (fVar 0) (fCons (fC (.int 10)) fNil))) [1] hOne) (sSeq (sAsg (fCall 1 F_law_text (fCons (fVar 1) fNil)) [2] hOne) (sSeq (sIf (fOr (fTest (fBin gNe (fCall 1 F_format_camera (fCons (fVar 1) fNil)) (fVar 2))) (fOr (fTest (fBin gNe (fCall 1 F_parse_camera (fCons (fVar 2) fNil)) (fVar 1))) (fNot (fTest (fCall 0 F_law_rejected fNil))))) (sRet (fC (.bool false))) sNext) (sSeq (sFor (fRng gRng1 (fCons (fC (.int 6)) fNil)) [3] hOne L_law_0) (sSeq (sFor (fRng gRng1 (fCons (fC (.int 8)) fNil)) [3] hOne L_law_1) (sSeq (sIf (fNot (fTest (fCall 2 F_law_refused (fCons (fC (.int 0)) (fCons (fCall 2 F_law_badcamera (fCons (fVar 0) (fCons (fC (.int 1)) fNil))) fNil))))) (sRet (fC (.bool false))) sNext) (sRet (fCall 2 F_law_refused (fCons (fC (.int 1)) (fCons (fBin gIx (fLst (fCons (fC .none) (fCons (fUn gNeg (fC (.int 181))) (fCons (fC (.int 181)) (fCons (fC (.bool true)) (fCons (fC (.str "5")) fNil)))))) (fCall 3 F_law_drawn (fCons (fVar 0) (fCons (fC (.int 2)) (fCons (fC (.int 5)) fNil))))) fNil)))))))))
def F_law : List D → Res D := fnF 11 B_law
end Lw
namespace Lw
open PySem L2 PD
def isIntD (d : D) (lo hi : Int) : Bool := match d with
  | .int i => decide (lo ≤ i) && decide (i ≤ hi)
  | _ => false
theorem is_int_eq (d : D) (lo hi : Int) : F_is_int [d, .int lo, .int hi] = .ok (.bool (isIntD d lo hi)) := by
  cases d with
  | int i =>
    show toRes (ofRes ((Res.ok (decide (lo ≤ i))).bind fun k => if k = true then (Res.ok (.bool (decide (i ≤ hi)))) else .ok (.bool false)) fun d => .ret d) = .ok (.bool (decide (lo ≤ i) && decide (i ≤ hi)))
    cases decide (lo ≤ i) <;> rfl
  | _ => rfl
theorem isIntD_int (i lo hi : Int) : isIntD (.int i) lo hi = (decide (lo ≤ i) && decide (i ≤ hi)) := rfl
structure GoodW (l m s : Int) : Prop where
  l0 : 0 ≤ l
  l1 : l ≤ 40
  m0 : l ≤ m
  m1 : m ≤ 60
  s0 : 1 ≤ s
  s1 : s ≤ 3
  n : (m - l) / s + 1 ≤ 13
abbrev wD (l m s : Int) : D := .tuple [.int l, .int m, .int s]
theorem is_wheel_good {l m s : Int} (g : GoodW l m s) : F_is_wheel [wD l m s] = .ok (.bool true) := by
  unfold F_is_wheel B_is_wheel
  have h1 : isIntD (.int l) 0 40 = true := by rw [isIntD_int]; simp [g.l0, g.l1]
  have h2 : isIntD (.int m) l 60 = true := by rw [isIntD_int]; simp [g.m0, g.m1]
  have h3 : isIntD (.int s) 1 3 = true := by rw [isIntD_int]; simp [g.s0, g.s1]
  have h4 : divOk (m - l) s = true := by
    have := g.s0
    have := g.s1
    unfold divOk
    simp only [Bool.and_eq_true, decide_eq_true_eq]
    omega
  walk_at "ev"
  simp only [is_int_eq, h1]
  walk_at "ev"
  simp only [is_int_eq, h2, h3]
  walk_at "ev"
  simp only [g_div h4]
  walk_at "ev"
  simp only [decide_eq_true g.n]

abbrev camD (w1 w2 w3 : D) : D := .tuple [w1, w2, w3]
theorem is_camera_of {w1 w2 w3 : D} {b1 b2 b3 : Bool} (h1 : F_is_wheel [w1] = .ok (.bool b1)) (h2 : F_is_wheel [w2] = .ok (.bool b2)) (h3 : F_is_wheel [w3] = .ok (.bool b3)) : F_is_camera [camD w1 w2 w3] = .ok (.bool (b1 && (b2 && b3))) := by
  unfold F_is_camera B_is_camera
  have e : fLc (fSeq (fVar 0)) [1] [1] hOne fYes (fCall 1 F_is_wheel (fCons (fVar 1) fNil)) [.d (camD w1 w2 w3), .un] = .ok (.list [.bool b1, .bool b2, .bool b3]) := by
    refine x_lc (ds := [w1, w2, w3]) rfl ?_ (by show 3 < 1000000; decide)
    unfold lcGo lcGo lcGo lcGo
    walk_at "ev"
    simp only [h1, h2, h3]
    rfl
  walk_at "ev"
  rw [e]
  walk_at "ev"
  show toRes (ofRes (Res.ok (PyData.bool ([b1, b2, b3].all id))) _) = _
  cases b1 <;> cases b2 <;> cases b3 <;> rfl
structure Cam where
  l1 : Int
  m1 : Int
  s1 : Int
  l2 : Int
  m2 : Int
  s2 : Int
  l3 : Int
  m3 : Int
  s3 : Int
structure GoodC (c : Cam) : Prop where
  w1 : GoodW c.l1 c.m1 c.s1
  w2 : GoodW c.l2 c.m2 c.s2
  w3 : GoodW c.l3 c.m3 c.s3
abbrev cD (c : Cam) : D := .tuple [wD c.l1 c.m1 c.s1, wD c.l2 c.m2 c.s2, wD c.l3 c.m3 c.s3]
theorem is_camera_good {c : Cam} (g : GoodC c) : F_is_camera [cD c] = .ok (.bool true) := is_camera_of (is_wheel_good g.w1) (is_wheel_good g.w2) (is_wheel_good g.w3)
theorem check_camera_good {c : Cam} (g : GoodC c) : F_check_camera [cD c] = .ok .none := by
  unfold F_check_camera B_check_camera
  walk_at "ev"
  simp only [is_camera_good g]
  walk_at "ev"
/-- the values of a wheel -/
def wv (l m s : Int) : List Int := (List.range (rngN l (m + 1) s)).map fun (i : Nat) => l + (i : Int) * s
abbrev iL (ns : List Int) : List D := ns.map PyData.int
theorem wv_D (l m s : Int) : rngS l s (rngN l (m + 1) s) = iL (wv l m s) := by
  unfold rngS iL wv
  rw [List.map_map]
  rfl
theorem wv_len {l m s : Int} (g : GoodW l m s) : (wv l m s).length ≤ 13 := by
  unfold wv
  rw [List.length_map, List.length_range]
  unfold rngN
  have := g.m0
  have := g.n
  have := g.s0
  rw [if_pos (by omega), show m + 1 - l - 1 = m - l by omega]
  omega
/-- a value: from least to most, in steps -/
theorem mem_wv {l m s x : Int} (h : l ≤ m) (hs : 0 < s) : x ∈ wv l m s ↔ l ≤ x ∧ x ≤ m ∧ (x - l) % s = 0 := by
  unfold wv rngN
  rw [if_pos (by omega), show m + 1 - l - 1 = m - l by omega]
  have hd : 0 ≤ (m - l) / s := Int.ediv_nonneg (by omega) (by omega)
  have e1 := Int.mul_ediv_add_emod (m - l) s
  have e2 := Int.emod_nonneg (m - l) (show s ≠ 0 by omega)
  have e3 := Int.emod_lt_of_pos (m - l) hs
  simp only [List.mem_map, List.mem_range]
  constructor
  · rintro ⟨i, hi, rfl⟩
    have hi' : (i : Int) ≤ (m - l) / s := by omega
    have h1 : (i : Int) * s ≤ (m - l) / s * s := Int.mul_le_mul_of_nonneg_right hi' (by omega)
    have h2 : 0 ≤ (i : Int) * s := Int.mul_nonneg (by omega) (by omega)
    have h3 : (m - l) / s * s = s * ((m - l) / s) := Int.mul_comm _ _
    refine ⟨by omega, by omega, ?_⟩
    rw [show l + (i : Int) * s - l = (i : Int) * s by omega, Int.mul_emod_left]
  · rintro ⟨h1, h2, h3⟩
    have e4 := Int.mul_ediv_add_emod (x - l) s
    have hq : 0 ≤ (x - l) / s := Int.ediv_nonneg (by omega) (by omega)
    have hle : (x - l) / s ≤ (m - l) / s := Int.ediv_le_ediv hs (by omega)
    refine ⟨((x - l) / s).toNat, by omega, ?_⟩
    rw [Int.toNat_of_nonneg hq, Int.mul_comm]
    omega

theorem canLay_ints : ∀ ns : List Int, PyData.canLayAll0 (iL ns) = true
  | [] => rfl
  | _ :: ns => by show (PyData.canLay0 (.int _) && PyData.canLayAll0 (iL ns)) = true; rw [canLay_ints ns]; rfl
theorem depth_ints : ∀ ns : List Int, PyData.depthAll (iL ns) = 0
  | [] => rfl
  | _ :: ns => by show max 0 (PyData.depthAll (iL ns)) = 0; rw [depth_ints ns]; rfl
theorem sh_ints (ns : List Int) : SeqAt.shaped (.list (iL ns)) = true := by
  show (PyData.canLayAll0 (iL ns) && decide (PyData.depthAll (iL ns) + 1 ≤ 64)) = true
  rw [canLay_ints, depth_ints]
  rfl
theorem inD_int (v : Int) : ∀ ns : List Int, inD (.int v) (iL ns) = decide (v ∈ ns)
  | [] => rfl
  | n :: ns => by
    have ih := inD_int v ns
    unfold inD at ih ⊢
    show (PyData.eqv (.int n) (.int v) || (iL ns).any fun z => PyData.eqv z (.int v)) = _
    rw [ih]
    show ((n == v) || decide (v ∈ ns)) = _
    by_cases h : n = v
    · subst h
      simp
    · have : (n == v) = false := by simpa using h
      rw [this, Bool.false_or]
      by_cases h2 : v ∈ ns
      · simp [h2]
      · simp [h2, Ne.symm h]
def valB (ns : List Int) (x : D) : Bool := match x with
  | .int v => decide (v ∈ ns)
  | _ => false
theorem sorted_ext : ∀ {xs ys : List Int}, xs.Pairwise (· < ·) → ys.Pairwise (· < ·) → (∀ x, x ∈ xs ↔ x ∈ ys) → xs = ys
  | [], [], _, _, _ => rfl
  | [], y :: ys, _, _, h => by simpa using (h y).mpr List.mem_cons_self
  | x :: xs, [], _, _, h => by simpa using (h x).mp List.mem_cons_self
  | x :: xs, y :: ys, h1, h2, h => by
    obtain ⟨a1, a2⟩ := List.pairwise_cons.mp h1
    obtain ⟨b1, b2⟩ := List.pairwise_cons.mp h2
    have e : x = y := by
      rcases List.mem_cons.mp ((h x).mp List.mem_cons_self) with q | q
      · exact q
      · rcases List.mem_cons.mp ((h y).mpr List.mem_cons_self) with q' | q'
        · exact q'.symm
        · have := a1 y q'
          have := b1 x q
          omega
    subst e
    rw [sorted_ext a2 b2 fun z => ?_]
    constructor
    · intro hz
      rcases List.mem_cons.mp ((h z).mp (List.mem_cons_of_mem _ hz)) with q | q
      · have := a1 z hz
        omega
      · exact q
    · intro hz
      rcases List.mem_cons.mp ((h z).mpr (List.mem_cons_of_mem _ hz)) with q | q
      · have := b1 z hz
        omega
      · exact q
theorem wv_sorted (l m : Int) {s : Int} (hs : 0 < s) : (wv l m s).Pairwise (· < ·) := by
  unfold wv
  refine List.Pairwise.map _ (fun a b hab => ?_) List.pairwise_lt_range
  have : (a : Int) * s < (b : Int) * s := Int.mul_lt_mul_of_pos_right (by omega) hs
  omega
/-- the ints from lo, n of them -/
def up (lo : Int) (n : Nat) : List Int := (List.range n).map fun (i : Nat) => lo + (i : Int)
theorem up_D (lo : Int) (n : Nat) : rngD lo n = iL (up lo n) := by
  unfold rngD iL up
  rw [List.map_map]
  rfl
theorem up_sorted (lo : Int) (n : Nat) : (up lo n).Pairwise (· < ·) := by
  unfold up
  exact List.Pairwise.map _ (fun a b hab => by omega) List.pairwise_lt_range
theorem mem_up {lo x : Int} {n : Nat} : x ∈ up lo n ↔ lo ≤ x ∧ x < lo + n := by
  unfold up
  simp only [List.mem_map, List.mem_range]
  constructor
  · rintro ⟨i, hi, rfl⟩
    omega
  · intro h
    exact ⟨(x - lo).toNat, by omega, by omega⟩
/-- value by value -/
theorem due_eq {l m s : Int} (h : l ≤ m) (hs : 0 < s) : (up l (m + 1 - l).toNat).filter (fun x => (x - l) % s == 0) = wv l m s := by
  refine sorted_ext (List.Pairwise.filter _ (up_sorted _ _)) (wv_sorted l m hs) fun x => ?_
  rw [List.mem_filter, mem_up, mem_wv h hs]
  simp only [beq_iff_eq]
  omega
theorem ev_eq {l m s : Int} (h : l ≤ m) (hs : 0 < s) : ((up 0 (m - l + 1).toNat).filter (fun k => k % s == 0)).map (fun k => l + k) = wv l m s := by
  refine sorted_ext (List.Pairwise.map _ (fun a b hab => by omega) (List.Pairwise.filter _ (up_sorted _ _))) (wv_sorted l m hs) fun x => ?_
  rw [List.mem_map, mem_wv h hs]
  constructor
  · rintro ⟨k, hk, rfl⟩
    rw [List.mem_filter, mem_up] at hk
    simp only [beq_iff_eq] at hk
    refine ⟨by omega, by omega, ?_⟩
    rw [show l + k - l = k by omega]
    exact hk.2
  · rintro ⟨h1, h2, h3⟩
    refine ⟨x - l, ?_, by omega⟩
    rw [List.mem_filter, mem_up]
    simp only [beq_iff_eq]
    omega
theorem lcGo_enc {α : Type} {step : D → Res (List D)} (enc : α → D) (h : α → List D) : ∀ {xs : List α}, (∀ a ∈ xs, step (enc a) = .ok (h a)) → lcGo step (xs.map enc) = .ok (xs.flatMap h)
  | [], _ => rfl
  | x :: xs, hx => by
    show ((step (enc x)).strict.bind fun o => (lcGo step (xs.map enc)).bind fun r => .ok (o ++ r)) = _
    rw [hx x List.mem_cons_self, lcGo_enc enc h fun d hd => hx d (List.mem_cons_of_mem _ hd)]
    rfl
theorem flatMap_one {α β : Type} (f : α → β) : ∀ xs : List α, (xs.flatMap fun x => [f x]) = xs.map f
  | [] => rfl
  | x :: xs => by rw [List.flatMap_cons, flatMap_one f xs]; rfl
theorem flatMap_if {α β : Type} (p : α → Bool) (f : α → β) : ∀ xs : List α, (xs.flatMap fun x => if p x = true then [f x] else []) = (xs.filter p).map f
  | [] => rfl
  | x :: xs => by
    rw [List.flatMap_cons, flatMap_if p f xs]
    cases h : p x with
    | true => rw [List.filter_cons_of_pos h]; rfl
    | false => rw [List.filter_cons_of_neg (by rw [h]; exact Bool.false_ne_true)]; rfl
def ext (fs : List (List D)) (vs : List Int) : List (List D) := fs.flatMap fun xs => vs.map fun v => xs ++ [PyData.int v]
abbrev tL (fs : List (List D)) : List D := fs.map PyData.tuple
theorem ext_cons (f : List D) (fs : List (List D)) (vs : List Int) : ext (f :: fs) vs = (vs.map fun v => f ++ [PyData.int v]) ++ ext fs vs := by
  unfold ext
  rw [List.flatMap_cons]
theorem tL_ext (fs : List (List D)) (vs : List Int) : (fs.flatMap fun xs => vs.map fun v => PyData.tuple (xs ++ [PyData.int v])) = tL (ext fs vs) := by
  unfold tL ext
  rw [List.map_flatMap]
  congr 1
  funext xs
  rw [List.map_map]
  rfl
theorem ext_len (vs : List Int) : ∀ fs : List (List D), (ext fs vs).length = fs.length * vs.length
  | [] => by simp [ext]
  | f :: fs => by
    rw [ext_cons, List.length_append, List.length_map, ext_len vs fs, List.length_cons, Nat.succ_mul]
    omega
theorem mem_ext {fs : List (List D)} {vs : List Int} {x : List D} : x ∈ ext fs vs ↔ ∃ f ∈ fs, ∃ v ∈ vs, x = f ++ [PyData.int v] := by
  unfold ext
  simp only [List.mem_flatMap, List.mem_map]
  constructor
  · rintro ⟨f, hf, v, hv, rfl⟩
    exact ⟨f, hf, v, hv, rfl⟩
  · rintro ⟨f, hf, v, hv, rfl⟩
    exact ⟨f, hf, v, hv, rfl⟩
theorem g_addT {xs ys : List D} (h : xs.length + ys.length ≤ 1000) : gAdd (.tuple xs) (.tuple ys) = .ok (.tuple (xs ++ ys)) := by
  unfold gAdd
  dsimp only
  rw [if_pos (show lenOk (xs.length + ys.length) = true from decide_eq_true (by omega))]
def sets (c : Cam) : List (List D) := ext (ext (ext [[]] (wv c.l1 c.m1 c.s1)) (wv c.l2 c.m2 c.s2)) (wv c.l3 c.m3 c.s3)
theorem ext1_len (vs : List Int) : (ext [[]] vs).length = vs.length := by rw [ext_len]; simp
theorem len_ext {fs : List (List D)} {vs : List Int} {k : Nat} (h : ∀ f ∈ fs, f.length ≤ k) : ∀ f ∈ ext fs vs, f.length ≤ k + 1 := fun f hf => by
  obtain ⟨f', h1, v, _, rfl⟩ := mem_ext.mp hf
  have := h f' h1
  rw [List.length_append]
  simp only [List.length_cons, List.length_nil]
  omega
theorem y_par2 (f g : DEnv → Res D) (i j : Nat) (ρ : DEnv) : sPar (zD f (zD g zNil)) [i, j] ρ = ofRes (f ρ) fun a => ofRes (g ρ) fun b => .next ((ρ.set i (.d a)).set j (.d b)) := by
  unfold sPar zD zNil
  cases f ρ <;> first | rfl | (cases g ρ <;> rfl)
theorem y_own0 (i : Nat) (ρ : DEnv) : sOwnL fNil i ρ = .next (ρ.set i (.own [])) := rfl
theorem y_frz (is : List Nat) (F : DEnv → SR) (ρ : DEnv) : sFrz is F ρ = F (frz ρ is) := rfl
theorem y_app {f : DEnv → Res D} {i : Nat} {ρ : DEnv} {xs : List D} {d : D} (h1 : ρ[i]? = some (.own xs)) (h2 : f ρ = .ok d) (h3 : xs.length < 1000000) : sApp f i ρ = .next (ρ.set i (.own (xs ++ [d]))) := by
  unfold sApp
  rw [h1]
  dsimp only
  rw [h2, y_ok, if_pos (show lenOk (xs.length + 1) = true from decide_eq_true (by omega))]
theorem y_extL {f : DEnv → Res D} {i : Nat} {ρ : DEnv} {xs ys : List D} (h1 : ρ[i]? = some (.own xs)) (h2 : f ρ = .ok (.list ys)) (h3 : xs.length + ys.length ≤ 1000000) : sExt f i ρ = .next (ρ.set i (.own (xs ++ ys))) := by
  unfold sExt
  rw [h1]
  dsimp only
  rw [h2, y_ok]
  dsimp only
  rw [if_pos (show lenOk (xs.length + ys.length) = true from decide_eq_true h3)]
theorem mul_l {i j : Int} (h1 : -1000000000000000000 ≤ i) (h2 : i ≤ 1000000000000000000) : mulOk i j = true := by
  unfold mulOk
  rw [decide_eq_true h1, decide_eq_true h2]
  rfl
theorem mul_r {i j : Int} (h1 : -1000000000000000000 ≤ j) (h2 : j ≤ 1000000000000000000) : mulOk i j = true := by
  unfold mulOk
  rw [decide_eq_true h1, decide_eq_true h2, Bool.or_eq_true]
  exact .inr rfl
theorem div_ok {i j : Int} (h1 : 0 < j) (h2 : j ≤ 1000000000000000000) : divOk i j = true := by
  unfold divOk
  rw [decide_eq_true h1, decide_eq_true h2]
  rfl
theorem g_mulc {i j : Int} (h1 : -1000000 ≤ i) (h2 : i ≤ 1000000) : gMulI (.int i) (.int j) = .ok (.int (i * j)) := g_mul (mul_l (by omega) (by omega))
structure InS (c : Cam) (x y z : Int) : Prop where
  a : x ∈ wv c.l1 c.m1 c.s1
  b : y ∈ wv c.l2 c.m2 c.s2
  d : z ∈ wv c.l3 c.m3 c.s3
abbrev i3 (x y z : Int) : D := .tuple [.int x, .int y, .int z]
theorem mem_sets {c : Cam} {ds : List D} : ds ∈ sets c ↔ ∃ x y z, ds = [.int x, .int y, .int z] ∧ InS c x y z := by
  unfold sets
  rw [mem_ext]
  constructor
  · rintro ⟨f, hf, z, hz, rfl⟩
    obtain ⟨f2, hf2, y, hy, rfl⟩ := mem_ext.mp hf
    obtain ⟨f3, hf3, x, hx, rfl⟩ := mem_ext.mp hf2
    rw [List.mem_singleton] at hf3
    subst hf3
    exact ⟨x, y, z, rfl, hx, hy, hz⟩
  · rintro ⟨x, y, z, rfl, hx, hy, hz⟩
    exact ⟨[.int x, .int y], mem_ext.mpr ⟨[.int x], mem_ext.mpr ⟨[], List.mem_singleton.mpr rfl, x, hx, rfl⟩, y, hy, rfl⟩, z, hz, rfl⟩
theorem inS_val {c : Cam} {x y z : Int} (h : InS c x y z) : (valB (wv c.l1 c.m1 c.s1) (.int x) && (valB (wv c.l2 c.m2 c.s2) (.int y) && valB (wv c.l3 c.m3 c.s3) (.int z))) = true := by
  unfold valB
  dsimp only
  rw [decide_eq_true h.a, decide_eq_true h.b, decide_eq_true h.d]
  rfl
theorem ne_self {d : D} (h : SeqAt.shaped d = true) (h2 : PyData.eqv d d = true) : gNe d d = .ok (.bool false) := by
  unfold gNe
  rw [h, h2]
  rfl
theorem eqv_ints : ∀ ns : List Int, PyData.eqvAll (iL ns) (iL ns) = true
  | [] => by rw [show iL [] = [] from rfl, PyData.eqvAll]
  | n :: ns => by
    show PyData.eqvAll (.int n :: iL ns) (.int n :: iL ns) = true
    rw [PyData.eqvAll, eqv_ints ns, PyData.eqv]
    simp
theorem eqv_i3 (a b c x y z : Int) : PyData.eqv (i3 a b c) (i3 x y z) = (decide (a = x) && (decide (b = y) && decide (c = z))) := by
  simp only [PyData.eqv, PyData.eqvAll]
  simp only [Bool.and_true]
  rfl
theorem ne_bool (a b : Bool) : gNe (.bool a) (.bool b) = .ok (.bool (!(a == b))) := by
  cases a <;> cases b <;> rfl
theorem sh_i3s : ∀ {ds : List D}, (∀ d ∈ ds, ∃ x y z, d = i3 x y z) → PyData.canLayAll0 ds = true ∧ PyData.depthAll ds ≤ 1
  | [], _ => ⟨rfl, by decide⟩
  | d :: ds, h => by
    obtain ⟨x, y, z, rfl⟩ := h d List.mem_cons_self
    obtain ⟨h1, h2⟩ := sh_i3s fun d' hd => h d' (List.mem_cons_of_mem _ hd)
    refine ⟨?_, ?_⟩
    · show (PyData.canLay0 (i3 x y z) && PyData.canLayAll0 ds) = true
      rw [h1]
      rfl
    · show max (PyData.depth (i3 x y z)) (PyData.depthAll ds) ≤ 1
      have : PyData.depth (i3 x y z) = 1 := rfl
      omega
theorem sets_i3 {c : Cam} : ∀ d ∈ tL (sets c), ∃ x y z, d = i3 x y z ∧ InS c x y z := fun d hd => by
  obtain ⟨ds, h1, rfl⟩ := List.mem_map.mp hd
  obtain ⟨x, y, z, rfl, h⟩ := mem_sets.mp h1
  exact ⟨x, y, z, rfl, h⟩
theorem sh_sets (c : Cam) : SeqAt.shaped (.list (tL (sets c))) = true := by
  obtain ⟨h1, h2⟩ := sh_i3s (ds := tL (sets c)) fun d hd => by obtain ⟨x, y, z, e, _⟩ := sets_i3 d hd; exact ⟨x, y, z, e⟩
  show (PyData.canLayAll0 (tL (sets c)) && decide (PyData.depthAll (tL (sets c)) + 1 ≤ 64)) = true
  rw [h1, decide_eq_true (by omega)]
  rfl
theorem in_sets (c : Cam) (x y z : Int) : gIn false (i3 x y z) (.list (tL (sets c))) = .ok (.bool (valB (wv c.l1 c.m1 c.s1) (.int x) && (valB (wv c.l2 c.m2 c.s2) (.int y) && valB (wv c.l3 c.m3 c.s3) (.int z)))) := by
  unfold gIn
  dsimp only
  rw [sh_sets, if_pos (show (SeqAt.shaped (i3 x y z) && true) = true from rfl)]
  have e : inD (i3 x y z) (tL (sets c)) = (valB (wv c.l1 c.m1 c.s1) (.int x) && (valB (wv c.l2 c.m2 c.s2) (.int y) && valB (wv c.l3 c.m3 c.s3) (.int z))) := by
    rw [Bool.eq_iff_iff]
    unfold inD
    rw [List.any_eq_true]
    constructor
    · rintro ⟨d, hd, he⟩
      obtain ⟨a, b, e, rfl, hi⟩ := sets_i3 d hd
      rw [eqv_i3] at he
      simp only [Bool.and_eq_true, decide_eq_true_eq] at he
      obtain ⟨rfl, rfl, rfl⟩ := he
      exact inS_val hi
    · intro h
      unfold valB at h
      simp only [Bool.and_eq_true, decide_eq_true_eq] at h
      refine ⟨i3 x y z, List.mem_map.mpr ⟨[.int x, .int y, .int z], mem_sets.mpr ⟨x, y, z, rfl, h.1, h.2.1, h.2.2⟩, rfl⟩, ?_⟩
      rw [eqv_i3]
      simp
  rw [e]
  rfl
theorem sets_len (c : Cam) : (sets c).length = (wv c.l1 c.m1 c.s1).length * (wv c.l2 c.m2 c.s2).length * (wv c.l3 c.m3 c.s3).length := by
  unfold sets
  rw [ext_len, ext_len, ext1_len]
theorem wv_pos {l m s : Int} (g : GoodW l m s) : 0 < (wv l m s).length := by
  refine List.length_pos_of_mem (a := l) ((mem_wv g.m0 (by have := g.s0; omega)).mpr ⟨by omega, g.m0, ?_⟩)
  rw [Int.sub_self, Int.zero_emod]
theorem sets_pos {c : Cam} (g : GoodC c) : 0 < (sets c).length := by
  rw [sets_len]
  exact Nat.mul_pos (Nat.mul_pos (wv_pos g.w1) (wv_pos g.w2)) (wv_pos g.w3)
theorem ix_sets {c : Cam} {p : Int} (h0 : 0 ≤ p) (h1 : p < ((tL (sets c)).length : Nat)) : ∃ x y z, gIx (.list (tL (sets c))) (.int p) = .ok (i3 x y z) ∧ InS c x y z := by
  have h3 : p.toNat < (tL (sets c)).length := by omega
  obtain ⟨x, y, z, e, h⟩ := sets_i3 ((tL (sets c))[p.toNat]) (List.getElem_mem h3)
  refine ⟨x, y, z, ?_, h⟩
  refine g_ixL ?_
  unfold ixD
  rw [if_pos h0, List.getElem?_eq_getElem h3, e]
end Lw
namespace Lw
open PySem L2 PD

end Lw
namespace Lw
open PySem L2 PD
/-! ### more of the shared: calls of four and five, tests over bools, filters -/
theorem x_call4 (F : List D → Res D) (f g h i : DEnv → Res D) (ρ : DEnv) : fCall 4 F (fCons f (fCons g (fCons h (fCons i fNil)))) ρ = (f ρ).bind fun a => (g ρ).bind fun b => (h ρ).bind fun c => (i ρ).bind fun d => F [a, b, c, d] := by
  unfold fCall fCons fNil
  cases f ρ <;> first | rfl | (cases g ρ <;> first | rfl | (cases h ρ <;> first | rfl | (cases i ρ <;> rfl)))
theorem x_call5 (F : List D → Res D) (f g h i j : DEnv → Res D) (ρ : DEnv) : fCall 5 F (fCons f (fCons g (fCons h (fCons i (fCons j fNil))))) ρ = (f ρ).bind fun a => (g ρ).bind fun b => (h ρ).bind fun c => (i ρ).bind fun d => (j ρ).bind fun e => F [a, b, c, d, e] := by
  unfold fCall fCons fNil
  cases f ρ <;> first | rfl | (cases g ρ <;> first | rfl | (cases h ρ <;> first | rfl | (cases i ρ <;> first | rfl | (cases j ρ <;> rfl))))
theorem all_bools (bs : List Bool) : gAll [.list (bs.map PyData.bool)] = .ok (.bool (bs.all id)) := by
  unfold gAll gBs
  dsimp only
  rw [asBs_map]
theorem any_bools (bs : List Bool) : gAny [.list (bs.map PyData.bool)] = .ok (.bool (bs.any id)) := by
  unfold gAny gBs
  dsimp only
  rw [asBs_map]
theorem in_ints (v : Int) (ns : List Int) : gIn false (.int v) (.list (iL ns)) = .ok (.bool (decide (v ∈ ns))) := by
  unfold gIn
  dsimp only
  rw [sh_ints, sh_int]
  show Res.ok (PyData.bool (inD (.int v) (iL ns))) = _
  rw [inD_int]
theorem g_addL {xs ys : List D} (h : xs.length + ys.length ≤ 1000) : gAdd (.list xs) (.list ys) = .ok (.list (xs ++ ys)) := by
  unfold gAdd
  dsimp only
  rw [if_pos (show lenOk (xs.length + ys.length) = true from decide_eq_true (by omega))]
theorem filt_none {α : Type} {P : α → Bool} {a : α} : ∀ {xs : List α}, (∀ d ∈ xs, P d = true ↔ d = a) → a ∉ xs → xs.filter P = []
  | [], _, _ => rfl
  | x :: xs, h, hn => by
    rw [List.filter_cons_of_neg fun hp => hn (by rw [← (h x List.mem_cons_self).mp hp]; exact List.mem_cons_self)]
    exact filt_none (fun d hd => h d (List.mem_cons_of_mem _ hd)) fun hm => hn (List.mem_cons_of_mem _ hm)
theorem filt_one {α : Type} {P : α → Bool} {a : α} : ∀ {xs : List α}, xs.Nodup → (∀ d ∈ xs, P d = true ↔ d = a) → a ∈ xs → xs.filter P = [a]
  | [], _, _, hm => absurd hm List.not_mem_nil
  | x :: xs, hd, h, hm => by
    obtain ⟨h1, h2⟩ := List.nodup_cons.mp hd
    by_cases e : x = a
    · subst e
      rw [List.filter_cons_of_pos ((h x List.mem_cons_self).mpr rfl), filt_none (fun d hd => h d (List.mem_cons_of_mem _ hd)) h1]
    · rw [List.filter_cons_of_neg fun hp => e ((h x List.mem_cons_self).mp hp)]
      refine filt_one h2 (fun d hd => h d (List.mem_cons_of_mem _ hd)) ?_
      rcases List.mem_cons.mp hm with q | q
      · exact absurd q.symm e
      · exact q
theorem ext_nodup {fs : List (List D)} {vs : List Int} (h1 : fs.Nodup) (h2 : vs.Nodup) : (ext fs vs).Nodup := by
  unfold ext List.Nodup
  rw [List.pairwise_flatMap]
  refine ⟨fun f _ => ?_, ?_⟩
  · refine List.Pairwise.map _ (fun a b hab e => hab ?_) h2
    have := List.append_cancel_left e
    cases this
    rfl
  · refine List.Pairwise.imp (fun {a b} hab x hx y hy e => hab ?_) h1
    obtain ⟨v, _, rfl⟩ := List.mem_map.mp hx
    obtain ⟨w, _, rfl⟩ := List.mem_map.mp hy
    exact (List.append_inj' e rfl).1
theorem lt_nodup {vs : List Int} (h : vs.Pairwise (· < ·)) : vs.Nodup := List.Pairwise.imp (fun {a b} (hab : a < b) (e : a = b) => by omega) h
theorem sets_nodup {c : Cam} (g : GoodC c) : (tL (sets c)).Nodup := by
  have p1 : 0 < c.s1 := by have := g.w1.s0; omega
  have p2 : 0 < c.s2 := by have := g.w2.s0; omega
  have p3 : 0 < c.s3 := by have := g.w3.s0; omega
  have h : (sets c).Nodup := ext_nodup (ext_nodup (ext_nodup (List.nodup_cons.mpr ⟨List.not_mem_nil, List.nodup_nil⟩) (lt_nodup (wv_sorted c.l1 c.m1 p1))) (lt_nodup (wv_sorted c.l2 c.m2 p2))) (lt_nodup (wv_sorted c.l3 c.m3 p3))
  exact List.Pairwise.map _ (fun a b hab e => hab (by cases e; rfl)) h
theorem is_noneT (d : D) : gIs true d .none = .ok (.bool (!isNone d)) := rfl
theorem g_addL' {xs ys : List D} (h : xs.length + ys.length ≤ 1000000) : gAdd (.list xs) (.list ys) = .ok (.list (xs ++ ys)) := by
  unfold gAdd
  dsimp only
  rw [if_pos (show lenOk (xs.length + ys.length) = true from decide_eq_true (by omega))]
end Lw
namespace Lw
open PySem L2 PD
/-! ### _law_drawn -/
theorem ne_nil2 (n : Int) (ns : List Int) : gNe (.list (iL (n :: ns))) (.list []) = .ok (.bool true) := by
  unfold gNe
  rw [sh_ints]
  rfl
theorem drawn_while (scr kk mm cc : Slot) : ∀ (n : Nat) (rest turn : Int), 0 ≤ turn → turn.toNat < n → ∃ r a : Int, whileGo (fAnd (fTest (fBin gGt (fVar 5) (fC (.int 0)))) (fTest (fBin gGt (fVar 4) (fC (.int 0))))) L_law_drawn_0 n [scr, kk, mm, cc, .d (.int turn), .d (.int rest)] = .next [scr, kk, mm, cc, .d (.int a), .d (.int r)]
  | 0, _, _, _, h => absurd h (Nat.not_lt_zero _)
  | n + 1, rest, turn, h0, h => by
    unfold whileGo
    simp only [v_cons, v_nil, w_d, x_and, x_test, x_bin, x_var0, x_varS, x_c, bind_ok, g_gt, x_asB]
    by_cases h1 : 0 < rest
    · by_cases h2 : 0 < turn
      · simp only [decide_eq_true h1, decide_eq_true h2, if_true]
        simp only [y_seq, y_as1, x_bin, x_varS, x_var0, x_c, bind_ok, g_sub, g_div (div_ok (i := rest) (show (0 : Int) < 1000000 by decide) (by decide)), y_ok, y_next, set0, setS']
        exact drawn_while scr kk mm cc n (rest / 1000000) (turn - 1) (by omega) (by omega)
      · simp only [decide_eq_true h1, decide_eq_false h2, if_true]
        exact ⟨rest, turn, rfl⟩
    · simp only [decide_eq_false h1]
      exact ⟨rest, turn, rfl⟩
/-- the end of _law_drawn: any cell -/
theorem drawn_end (s0 s4 s5 : Slot) (k many cell : Int) (hk : 0 ≤ k) (hk2 : k ≤ 90000) (hm : 0 < many) : ∃ p : Int, 0 ≤ p ∧ p < many ∧
    sSeq (sAsg (fBin gMod (fBin gAdd (fBin gMulI (fBin gMod (fVar 3) (fC (.int 2147483563))) (fC (.int 69069))) (fBin gMulI (fC (.int 104723)) (fBin gAdd (fVar 1) (fC (.int 1))))) (fC (.int 2147483563))) [3] hOne) (sSeq (sAsg (fBin gMod (fBin gAdd (fBin gMulI (fVar 3) (fVar 3)) (fBin gDiv (fVar 3) (fC (.int 3)))) (fC (.int 2147483399))) [3] hOne) (sRet (fBin gMod (fBin gDiv (fBin gMod (fBin gAdd (fBin gMulI (fVar 3) (fVar 3)) (fBin gDiv (fVar 3) (fC (.int 7)))) (fC (.int 2147483647))) (fC (.int 11))) (fVar 2))))
      [s0, .d (.int k), .d (.int many), .d (.int cell), s4, s5] = .ret (.int p) := by
  have b1 := Int.emod_nonneg cell (show (2147483563 : Int) ≠ 0 by decide)
  have b2 := Int.emod_lt_of_pos cell (show (0 : Int) < 2147483563 by decide)
  generalize e1 : cell % 2147483563 = z at b1 b2
  have b3 := Int.emod_nonneg (z * 69069 + 104723 * (k + 1)) (show (2147483563 : Int) ≠ 0 by decide)
  have b4 := Int.emod_lt_of_pos (z * 69069 + 104723 * (k + 1)) (show (0 : Int) < 2147483563 by decide)
  generalize e2 : (z * 69069 + 104723 * (k + 1)) % 2147483563 = y at b3 b4
  have b5 := Int.emod_nonneg (y * y + y / 3) (show (2147483399 : Int) ≠ 0 by decide)
  have b6 := Int.emod_lt_of_pos (y * y + y / 3) (show (0 : Int) < 2147483399 by decide)
  generalize e3 : (y * y + y / 3) % 2147483399 = x at b5 b6
  refine ⟨(x * x + x / 7) % 2147483647 / 11 % many, Int.emod_nonneg _ (by omega), Int.emod_lt_of_pos _ hm, ?_⟩
  walk_at "ev"
  simp only [g_mod (show (0 : Int) < 2147483563 by decide), bind_ok, e1, g_mul (mul_r (i := z) (show (-1000000000000000000 : Int) ≤ 69069 by decide) (by decide)), g_mul (mul_l (j := k + 1) (show (-1000000000000000000 : Int) ≤ 104723 by decide) (by decide)), g_add, e2]
  walk_at "ev"
  simp only [g_mul (mul_r (i := y) (show (-1000000000000000000 : Int) ≤ y by omega) (by omega)), g_div (div_ok (i := y) (show (0 : Int) < 3 by decide) (by decide)), bind_ok, g_add, g_mod (show (0 : Int) < 2147483399 by decide), e3]
  walk_at "ev"
  simp only [g_mul (mul_r (i := x) (show (-1000000000000000000 : Int) ≤ x by omega) (by omega)), g_div (div_ok (i := x) (show (0 : Int) < 7 by decide) (by decide)), bind_ok, g_add, g_mod (show (0 : Int) < 2147483647 by decide)]
  walk_at "ev"
  simp only [g_div (div_ok (i := (x * x + x / 7) % 2147483647) (show (0 : Int) < 11 by decide) (by decide)), bind_ok, g_mod hm]
  rfl
theorem drawn_ok (ns : List Int) (hl : ns.length ≤ 63) (k many : Int) (hk : 0 ≤ k) (hk2 : k ≤ 90000) (hm : 0 < many) : ∃ p : Int, F_law_drawn [.list (iL ns), .int k, .int many] = .ok (.int p) ∧ 0 ≤ p ∧ p < many := by
  have st : startD 6 [PyData.list (iL ns), PyData.int k, PyData.int many] = [Slot.d (PyData.list (iL ns)), Slot.d (PyData.int k), Slot.d (PyData.int many), Slot.un, Slot.un, Slot.un] := rfl
  have hp : gPow (PyData.int 10) (PyData.int 18) = .ok (.int 1000000000000000000) := rfl
  unfold F_law_drawn B_law_drawn
  cases ns with
  | nil =>
    obtain ⟨p, p0, p1, e⟩ := drawn_end (.d (.list [])) .un .un k many (7 * k) hk hk2 hm
    refine ⟨p, ?_, p0, p1⟩
    walk_at "ev"
    rw [g_mulc (i := 7) (by decide) (by decide)]
    walk_at "ev"
    have e0 : gNe (PyData.list []) (PyData.list []) = .ok (.bool false) := rfl
    rw [e0]
    walk_at "ev"
    rw [y_seq] at e
    rw [← y_t1, ← e, y_as1]
    walk_at "ev"
  | cons n ns =>
    have hlen : ((iL (n :: ns)).length : Int) = ns.length + 1 := by rw [List.length_map, List.length_cons]; omega
    rw [List.length_cons] at hl
    have hpos : (0 : Int) < ((iL (n :: ns)).length : Nat) := by omega
    have h1 := Int.emod_nonneg k (show (((iL (n :: ns)).length : Nat) : Int) ≠ 0 by omega)
    have h2 := Int.emod_lt_of_pos k hpos
    have hi : ∃ c : Int, ixD (iL (n :: ns)) (k % ((iL (n :: ns)).length : Nat)) = some (.int c) := by
      unfold ixD
      rw [if_pos h1]
      have h3 : (k % ((iL (n :: ns)).length : Nat)).toNat < (iL (n :: ns)).length := by omega
      rw [List.getElem?_eq_getElem h3]
      exact ⟨(n :: ns)[(k % ((iL (n :: ns)).length : Nat)).toNat]'(by rw [List.length_map] at h3; rw [List.length_map]; exact h3), by rw [List.getElem_map]⟩
    obtain ⟨cell, hc⟩ := hi
    have hne := ne_nil2 n ns
    generalize hL : iL (n :: ns) = L at *
    have ht0 : 0 ≤ k / (L.length : Nat) := Int.ediv_nonneg hk (by omega)
    have ht1 : k / (L.length : Nat) ≤ k := Int.ediv_le_self _ hk
    have hdv := g_div (div_ok (i := k) hpos (by omega))
    generalize k / (L.length : Nat) = turn at *
    obtain ⟨r, a, hw⟩ := drawn_while (.d (.list L)) (.d (.int k)) (.d (.int many)) (.d (.int cell)) 100000 (cell / 1000000000000000000) turn ht0 (by omega)
    have fin : ∀ s4 s5 : Slot, ∃ p : Int, 0 ≤ p ∧ p < many ∧ (sAsg (fBin gAdd (fVar 3) (fBin gMulI (fC (.int 6553)) (fBin gDiv (fVar 1) (fB gLen (fCons (fVar 0) fNil))))) [3] hOne [.d (.list L), .d (.int k), .d (.int many), .d (.int cell), s4, s5]).seq (sSeq (sAsg (fBin gMod (fBin gAdd (fBin gMulI (fBin gMod (fVar 3) (fC (.int 2147483563))) (fC (.int 69069))) (fBin gMulI (fC (.int 104723)) (fBin gAdd (fVar 1) (fC (.int 1))))) (fC (.int 2147483563))) [3] hOne) (sSeq (sAsg (fBin gMod (fBin gAdd (fBin gMulI (fVar 3) (fVar 3)) (fBin gDiv (fVar 3) (fC (.int 3)))) (fC (.int 2147483399))) [3] hOne) (sRet (fBin gMod (fBin gDiv (fBin gMod (fBin gAdd (fBin gMulI (fVar 3) (fVar 3)) (fBin gDiv (fVar 3) (fC (.int 7)))) (fC (.int 2147483647))) (fC (.int 11))) (fVar 2))))) = .ret (.int p) := fun s4 s5 => by
      obtain ⟨p, p0, p1, e⟩ := drawn_end (.d (.list L)) s4 s5 k many (cell + 6553 * turn) hk hk2 hm
      refine ⟨p, p0, p1, ?_⟩
      rw [← e, y_as1]
      simp only [x_bin, x_varS, x_var0, x_c, x_b, x_cons, x_nil, bind_ok, g_lenL, hdv, g_mulc (i := 6553) (j := turn) (by decide) (by decide), g_add, y_ok, y_next, set0, setS']
    have start : ∀ B : DEnv → SR, ∀ F : DEnv → SR, sSeq (sAsg (fBin gMulI (fC (.int 7)) (fVar 1)) [3] hOne) (sSeq (sIf (fTest (fBin gNe (fVar 0) (fLst fNil))) (sSeq (sAsg (fBin gIx (fVar 0) (fBin gMod (fVar 1) (fB gLen (fCons (fVar 0) fNil)))) [3] hOne) (sSeq (sAsg (fBin gDiv (fVar 1) (fB gLen (fCons (fVar 0) fNil))) [4] hOne) B)) sNext) F) [.d (.list L), .d (.int k), .d (.int many), .un, .un, .un] = (B [.d (.list L), .d (.int k), .d (.int many), .d (.int cell), .d (.int turn), .un]).seq F := fun B F => by
      walk_at "ev"
      rw [g_mulc (i := 7) (by decide) (by decide)]
      walk_at "ev"
      rw [hne]
      walk_at "ev"
      rw [g_mod hpos, bind_ok, g_ixL hc]
      walk_at "ev"
      rw [hdv]
      walk_at "ev"
    have st2 : startD 6 [PyData.list L, PyData.int k, PyData.int many] = [Slot.d (PyData.list L), Slot.d (PyData.int k), Slot.d (PyData.int many), Slot.un, Slot.un, Slot.un] := rfl
    rw [y_fn, st2, start, y_seq]
    have test : fAnd (fTest (fBin gGe (fVar 3) (fBin gPow (fC (.int 10)) (fC (.int 18))))) (fTest (fBin gLt (fVar 4) (fC (.int 60)))) (viewAll [.d (.list L), .d (.int k), .d (.int many), .d (.int cell), .d (.int turn), .un]) = .ok (decide (1000000000000000000 ≤ cell) && decide (turn < 60)) := by
      walk_at "ev"
      rw [hp]
      walk_at "ev"
      cases decide (1000000000000000000 ≤ cell) <;> rfl
    rw [y_if, test, y_ok]
    have no : ∀ s4 s5 : Slot, ∃ p : Int, toRes (((SR.next [.d (.list L), .d (.int k), .d (.int many), .d (.int cell), s4, s5]).seq (sAsg (fBin gAdd (fVar 3) (fBin gMulI (fC (.int 6553)) (fBin gDiv (fVar 1) (fB gLen (fCons (fVar 0) fNil))))) [3] hOne)).seq (sSeq (sAsg (fBin gMod (fBin gAdd (fBin gMulI (fBin gMod (fVar 3) (fC (.int 2147483563))) (fC (.int 69069))) (fBin gMulI (fC (.int 104723)) (fBin gAdd (fVar 1) (fC (.int 1))))) (fC (.int 2147483563))) [3] hOne) (sSeq (sAsg (fBin gMod (fBin gAdd (fBin gMulI (fVar 3) (fVar 3)) (fBin gDiv (fVar 3) (fC (.int 3)))) (fC (.int 2147483399))) [3] hOne) (sRet (fBin gMod (fBin gDiv (fBin gMod (fBin gAdd (fBin gMulI (fVar 3) (fVar 3)) (fBin gDiv (fVar 3) (fC (.int 7)))) (fC (.int 2147483647))) (fC (.int 11))) (fVar 2)))))) = .ok (.int p) ∧ 0 ≤ p ∧ p < many := fun s4 s5 => by
      obtain ⟨p, p0, p1, e⟩ := fin s4 s5
      exact ⟨p, by rw [y_next, e]; rfl, p0, p1⟩
    cases hb : (decide (1000000000000000000 ≤ cell) && decide (turn < 60)) with
    | false =>
      exact no _ _
    | true =>
      rw [if_pos rfl, y_seq, y_as1]
      have hd : fBin gDiv (fVar 3) (fBin gPow (fC (.int 10)) (fC (.int 18))) [.d (.list L), .d (.int k), .d (.int many), .d (.int cell), .d (.int turn), .un] = .ok (.int (cell / 1000000000000000000)) := by
        walk_at "ev"
        rw [hp, bind_ok, g_div (div_ok (i := cell) (show (0 : Int) < 1000000000000000000 by decide) (by decide))]
      rw [hd, y_ok, y_next, y_seq]
      simp only [set0, setS']
      rw [hw, y_next, y_if]
      have t2 : fTest (fBin gGt (fVar 5) (fC (.int 0))) (viewAll [.d (.list L), .d (.int k), .d (.int many), .d (.int cell), .d (.int a), .d (.int r)]) = .ok (decide (0 < r)) := rfl
      rw [t2, y_ok]
      cases h0 : decide (0 < r) with
      | false => exact no _ _
      | true =>
        rw [if_pos rfl, y_rt]
        have e9 : fBin gMod (fBin gMod (fVar 5) (fC (.int 1000000))) (fVar 2) [.d (.list L), .d (.int k), .d (.int many), .d (.int cell), .d (.int a), .d (.int r)] = .ok (.int (r % 1000000 % many)) := by
          walk_at "ev"
          rw [g_mod (show (0 : Int) < 1000000 by decide), bind_ok, g_mod hm]
        rw [e9]
        exact ⟨_, rfl, Int.emod_nonneg _ (by omega), Int.emod_lt_of_pos _ hm⟩
end Lw
namespace Lw
open PySem L2 PD
/-! ### _law_camera -/
structure SmallW (l m s : Int) : Prop where
  g : GoodW l m s
  m30 : m ≤ 30
  n : (m - l) / s ≤ 3
  l20 : l < 20
structure SmallC (c : Cam) : Prop where
  g : GoodC c
  w1 : SmallW c.l1 c.m1 c.s1
  w2 : SmallW c.l2 c.m2 c.s2
  w3 : SmallW c.l3 c.m3 c.s3
theorem small_of {l s n r : Int} (l0 : 0 ≤ l) (l1 : l < 20) (s0 : 0 ≤ s) (s1 : s < 3) (n0 : 0 ≤ n) (n1 : n < 4) (r0 : 0 ≤ r) (r1 : r < 1 + s) : SmallW l (l + (1 + s) * n + r) (1 + s) := by
  have e : s = 0 ∨ s = 1 ∨ s = 2 := by omega
  refine ⟨⟨l0, by omega, ?_, ?_, by omega, by omega, ?_⟩, ?_, ?_, l1⟩
  · rcases e with rfl | rfl | rfl <;> omega
  · rcases e with rfl | rfl | rfl <;> omega
  · rcases e with rfl | rfl | rfl <;> omega
  · rcases e with rfl | rfl | rfl <;> omega
  · rcases e with rfl | rfl | rfl <;> omega
theorem camera_step (ns : List Int) (hl : ns.length ≤ 63) (at_ k : Int) (h0 : 0 ≤ at_) (h1 : at_ ≤ 80000) (k0 : 0 ≤ k) (k1 : k ≤ 2) (found : List D) (hf : found.length ≤ 100) (s4 s5 s6 : Slot) :
    ∃ l m s t4 t5 t6, SmallW l m s ∧ L_law_camera_0 [.d (.list (iL ns)), .d (.int at_), .own found, .d (.int k), s4, s5, s6] = .next [.d (.list (iL ns)), .d (.int at_), .own (found ++ [wD l m s]), .d (.int k), t4, t5, t6] := by
  obtain ⟨l, e1, a1, b1⟩ := drawn_ok ns hl (at_ + 3 * k) 20 (by omega) (by omega) (by omega)
  obtain ⟨s, e2, a2, b2⟩ := drawn_ok ns hl (at_ + 1 + 3 * k) 3 (by omega) (by omega) (by omega)
  obtain ⟨n, e3, a3, b3⟩ := drawn_ok ns hl (at_ + 2 + 3 * k) 4 (by omega) (by omega) (by omega)
  obtain ⟨r, e4, a4, b4⟩ := drawn_ok ns hl (at_ + 9 + k) (1 + s) (by omega) (by omega) (by omega)
  refine ⟨l, l + (1 + s) * n + r, 1 + s, .d (.int l), .d (.int (1 + s)), .d (.int (l + (1 + s) * n + r)), small_of a1 b1 a2 b2 a3 b3 a4 b4, ?_⟩
  unfold L_law_camera_0
  simp only [y_seq, y_par2]
  walk_at "ev"
  simp only [g_mulc (i := 3) (j := k) (by decide) (by decide), bind_ok, g_add, e1, e2, y_ok, y_next, y_seq, y_as1, set0, setS', x_call3, x_varS, x_var0, x_bin, x_c]
  simp only [e3, e4, bind_ok, g_mulc (i := 1 + s) (j := n) (by omega) (by omega), g_add, y_ok, y_next, set0, setS']
  exact y_app (xs := found) rfl rfl (by omega)
theorem camera_ok (ns : List Int) (hl : ns.length ≤ 63) (at_ : Int) (h0 : 0 ≤ at_) (h1 : at_ ≤ 80000) : ∃ c, SmallC c ∧ F_law_camera [.list (iL ns), .int at_] = .ok (cD c) := by
  obtain ⟨l1, m1, s1, t5, t6, t7, g1, e1⟩ := camera_step ns hl at_ 0 h0 h1 (by decide) (by decide) [] (by decide) .un .un .un
  obtain ⟨l2, m2, s2, u5, u6, u7, g2, e2⟩ := camera_step ns hl at_ 1 h0 h1 (by decide) (by decide) ([] ++ [wD l1 m1 s1]) (by show 1 ≤ 100; decide) t5 t6 t7
  obtain ⟨l3, m3, s3, v5, v6, v7, g3, e3⟩ := camera_step ns hl at_ 2 h0 h1 (by decide) (by decide) ([] ++ [wD l1 m1 s1] ++ [wD l2 m2 s2]) (by show 2 ≤ 100; decide) u5 u6 u7
  refine ⟨⟨l1, m1, s1, l2, m2, s2, l3, m3, s3⟩, ⟨⟨g1.g, g2.g, g3.g⟩, g1, g2, g3⟩, ?_⟩
  unfold F_law_camera B_law_camera
  have st : startD 7 [PyData.list (iL ns), PyData.int at_] = [Slot.d (PyData.list (iL ns)), Slot.d (PyData.int at_), Slot.un, Slot.un, Slot.un, Slot.un, Slot.un] := rfl
  simp only [y_fn, y_seq, st, y_own0, y_next, set0, setS']
  rw [y_for (ds := [.int 0, .int 1, .int 2]) rfl]
  rw [f_cons rfl e1, f_cons rfl e2, f_cons rfl e3, f_nil]
  rfl
/-! ### _law_settings -/
theorem rng3_good {l m s : Int} (g : GoodW l m s) : gRng3 [.int l, .int (m + 1), .int s] = .ok (iL (wv l m s)) := by
  have h : rng3Ok l (m + 1) s = true := by
    unfold rng3Ok
    have := g.l0
    have := g.l1
    have := g.m0
    have := g.m1
    have := g.s0
    have := g.s1
    simp only [Bool.and_eq_true, decide_eq_true_eq]
    omega
  unfold gRng3
  dsimp only
  rw [if_pos h, wv_D]
end Lw
namespace Lw
open PySem L2 PD
/-! ### settings as triples of ints -/
abbrev T3 := Int × Int × Int
def e3 (t : T3) : D := i3 t.1 t.2.1 t.2.2
def tri (c : Cam) : List T3 := (wv c.l1 c.m1 c.s1).flatMap fun x => (wv c.l2 c.m2 c.s2).flatMap fun y => (wv c.l3 c.m3 c.s3).map fun z => (x, y, z)
theorem flatMap_map' {α β γ : Type} (f : α → β) (g : β → List γ) (xs : List α) : (xs.map f).flatMap g = xs.flatMap fun x => g (f x) := by
  rw [List.flatMap_map]
theorem tri_eq (c : Cam) : tL (sets c) = (tri c).map e3 := by
  unfold tL sets ext tri
  simp only [List.flatMap_cons, List.flatMap_nil, List.append_nil, List.nil_append, List.map_flatMap, List.flatMap_map, List.flatMap_assoc, List.map_map, List.cons_append]
  rfl
def In3 (c : Cam) (t : T3) : Prop := InS c t.1 t.2.1 t.2.2
theorem mem_tri {c : Cam} {t : T3} : t ∈ tri c ↔ In3 c t := by
  obtain ⟨x, y, z⟩ := t
  unfold tri In3
  simp only [List.mem_flatMap, List.mem_map, Prod.mk.injEq]
  constructor
  · rintro ⟨x', hx, y', hy, z', hz, rfl, rfl, rfl⟩
    exact ⟨hx, hy, hz⟩
  · intro h
    exact ⟨x, h.a, y, h.b, z, h.d, rfl, rfl, rfl⟩
def lt3 (t u : T3) : Bool := decide (t.1 < u.1 ∨ t.1 = u.1 ∧ (t.2.1 < u.2.1 ∨ t.2.1 = u.2.1 ∧ t.2.2 < u.2.2))
theorem tri_sorted {c : Cam} (g : GoodC c) : (tri c).Pairwise fun t u => lt3 t u = true := by
  have p1 : 0 < c.s1 := by have := g.w1.s0; omega
  have p2 : 0 < c.s2 := by have := g.w2.s0; omega
  have p3 : 0 < c.s3 := by have := g.w3.s0; omega
  unfold tri
  rw [List.pairwise_flatMap]
  refine ⟨fun x _ => ?_, ?_⟩
  · rw [List.pairwise_flatMap]
    refine ⟨fun y _ => ?_, ?_⟩
    · refine List.Pairwise.map _ (fun a b hab => ?_) (wv_sorted c.l3 c.m3 p3)
      exact decide_eq_true (.inr ⟨rfl, .inr ⟨rfl, hab⟩⟩)
    · refine List.Pairwise.imp (fun {a b} hab t ht u hu => ?_) (wv_sorted c.l2 c.m2 p2)
      obtain ⟨z, _, rfl⟩ := List.mem_map.mp ht
      obtain ⟨z', _, rfl⟩ := List.mem_map.mp hu
      exact decide_eq_true (.inr ⟨rfl, .inl hab⟩)
  · refine List.Pairwise.imp (fun {a b} hab t ht u hu => ?_) (wv_sorted c.l1 c.m1 p1)
    obtain ⟨y, _, ht⟩ := List.mem_flatMap.mp ht
    obtain ⟨z, _, rfl⟩ := List.mem_map.mp ht
    obtain ⟨y', _, hu⟩ := List.mem_flatMap.mp hu
    obtain ⟨z', _, rfl⟩ := List.mem_map.mp hu
    exact decide_eq_true (.inl hab)
def num (t : T3) : Int := t.1 + t.2.1 - t.2.2
theorem tri_len {c : Cam} : (tri c).length = (sets c).length := by
  have := congrArg List.length (tri_eq c)
  rw [List.length_map, List.length_map] at this
  omega
theorem tri_pos {c : Cam} (g : GoodC c) : 0 < (tri c).length := by rw [tri_len]; exact sets_pos g
theorem tri_le {c : Cam} (g : GoodC c) : (tri c).length ≤ 2197 := by
  rw [tri_len, sets_len]
  exact Nat.mul_le_mul (Nat.mul_le_mul (wv_len g.w1) (wv_len g.w2)) (wv_len g.w3)
theorem in3_b {c : Cam} (g : GoodC c) {t : T3} (h : In3 c t) : 0 ≤ t.1 ∧ t.1 ≤ 60 ∧ 0 ≤ t.2.1 ∧ t.2.1 ≤ 60 ∧ 0 ≤ t.2.2 ∧ t.2.2 ≤ 60 := by
  have aux : ∀ {l m s x : Int}, GoodW l m s → x ∈ wv l m s → 0 ≤ x ∧ x ≤ 60 := fun {l m s x} gw h => by
    obtain ⟨h1, h2, _⟩ := (mem_wv gw.m0 (by have := gw.s0; omega)).mp h
    have := gw.l0
    have := gw.m1
    omega
  have a1 := aux g.w1 h.a
  have a2 := aux g.w2 h.b
  have a3 := aux g.w3 h.d
  exact ⟨a1.1, a1.2, a2.1, a2.2, a3.1, a3.2⟩
theorem sh_e3s {α : Type} (f : α → T3) (ts : List α) : SeqAt.shaped (.list (ts.map fun a => e3 (f a))) = true := by
  obtain ⟨h1, h2⟩ := sh_i3s (ds := ts.map fun a => e3 (f a)) fun d hd => by
    obtain ⟨t, _, rfl⟩ := List.mem_map.mp hd
    exact ⟨_, _, _, rfl⟩
  show (PyData.canLayAll0 (ts.map fun a => e3 (f a)) && decide (PyData.depthAll (ts.map fun a => e3 (f a)) + 1 ≤ 64)) = true
  rw [h1, decide_eq_true (by omega)]
  rfl
theorem sh_t3 (ts : List T3) : SeqAt.shaped (.list (ts.map e3)) = true := sh_e3s id ts
theorem ne_same {d : D} (h : SeqAt.shaped d = true) : gNe d d = .ok (.bool false) := ne_self h (SeqAt.eqv_refl d (by
  unfold SeqAt.shaped at h
  rw [Bool.and_eq_true] at h
  exact h.1))
theorem eq_same {d : D} (h : SeqAt.shaped d = true) : gEq d d = .ok (.bool true) := by
  unfold gEq
  rw [h, SeqAt.eqv_refl d (by
    unfold SeqAt.shaped at h
    rw [Bool.and_eq_true] at h
    exact h.1)]
  rfl
theorem eqv_nil (ts : List D) : PyData.eqv (.list ts) (.list []) = ts.isEmpty := by
  cases ts <;> rfl
theorem ne_nilD {ts : List D} (h : SeqAt.shaped (.list ts) = true) : gNe (.list ts) (.list []) = .ok (.bool (!ts.isEmpty)) := by
  unfold gNe
  rw [h, eqv_nil]
  rfl
theorem eq_nilD {ts : List D} (h : SeqAt.shaped (.list ts) = true) : gEq (.list ts) (.list []) = .ok (.bool ts.isEmpty) := by
  unfold gEq
  rw [h, eqv_nil]
  rfl
theorem ix_tri {c : Cam} {p : Int} (h0 : 0 ≤ p) (h1 : p < ((tri c).length : Nat)) : ∃ t, gIx (.list ((tri c).map e3)) (.int p) = .ok (e3 t) ∧ In3 c t := by
  have h3 : p.toNat < (tri c).length := by omega
  refine ⟨(tri c)[p.toNat], ?_, mem_tri.mp (List.getElem_mem h3)⟩
  refine g_ixL ?_
  unfold ixD
  rw [if_pos h0, List.getElem?_eq_getElem (by rw [List.length_map]; exact h3), List.getElem_map]
end Lw
namespace Lw
open PySem L2 PD
/-! ### comprehensions and loops, evaluated -/
theorem lc_fm {α : Type} (enc : α → D) (xs : List α) (P : α → Bool) (h : α → D) {src : DEnv → Res (List D)} {own is : List Nat} {hh : D → Option (List D)} {ft : DEnv → Res Bool} {fe : DEnv → Res D} {ρ : DEnv} (h1 : src ρ = .ok (xs.map enc))
    (h2 : ∀ a ∈ xs, lcStep ρ own is hh ft fe (enc a) = .ok (if P a = true then [h a] else [])) (h3 : xs.length < 1000000) : fLc src own is hh ft fe ρ = .ok (.list ((xs.filter P).map h)) := by
  refine x_lc h1 ?_ (by rw [List.length_map]; exact Nat.lt_of_le_of_lt (List.length_filter_le _ _) h3)
  rw [← flatMap_if P h]
  exact lcGo_enc enc (fun a => if P a = true then [h a] else []) h2
theorem lc_m {α : Type} (enc : α → D) (xs : List α) (h : α → D) {src : DEnv → Res (List D)} {own is : List Nat} {hh : D → Option (List D)} {ft : DEnv → Res Bool} {fe : DEnv → Res D} {ρ : DEnv} (h1 : src ρ = .ok (xs.map enc))
    (h2 : ∀ a ∈ xs, lcStep ρ own is hh ft fe (enc a) = .ok [h a]) (h3 : xs.length < 1000000) : fLc src own is hh ft fe ρ = .ok (.list (xs.map h)) := by
  refine x_lc h1 ?_ (by rw [List.length_map]; exact h3)
  rw [← flatMap_one h]
  exact lcGo_enc enc (fun a => [h a]) h2
/-- a loop whose turns leave what P says -/
theorem for_inv {is : List Nat} {hh : D → Option (List D)} {body : DEnv → SR} (P : DEnv → Prop) {ds : List D} {ρ : DEnv} (h0 : P ρ) (hs : ∀ d ∈ ds, ∀ ρ, P ρ → ∃ ρ1 ρ', asgOf is hh d ρ = some ρ1 ∧ body ρ1 = .next ρ' ∧ P ρ') : ∃ ρ', forGo (asgOf is hh) body ds ρ = .next ρ' ∧ P ρ' := forGo_inv P h0 hs
end Lw
namespace Lw
open PySem L2 PD
theorem iL_app (a b : List Int) : iL (a ++ b) = iL a ++ iL b := List.map_append
theorem iL_map {α : Type} (f : α → Int) (xs : List α) : xs.map (fun x => PyData.int (f x)) = iL (xs.map f) := (List.map_map).symm
theorem iL_len (ns : List Int) : (iL ns).length = ns.length := List.length_map _
theorem maxL_ints {ns : List Int} (h : ns ≠ []) : gMaxL [.list (iL ns)] = .ok (.int (maxI ns)) := by
  unfold gMaxL gIsL
  dsimp only
  rw [asIs_map]
  dsimp only
  cases ns with
  | nil => exact absurd rfl h
  | cons a b => rfl
theorem minL_ints {ns : List Int} (h : ns ≠ []) : gMinL [.list (iL ns)] = .ok (.int (minI ns)) := by
  unfold gMinL gIsL
  dsimp only
  rw [asIs_map]
  dsimp only
  cases ns with
  | nil => exact absurd rfl h
  | cons a b => rfl
end Lw
namespace Lw
open PySem L2 PD
/-! ### values that are none -/
theorem check_camera_bad {d : D} (h : F_is_camera [d] = .ok (.bool false)) : F_check_camera [d] = .err "InvalidCamera" := by
  unfold F_check_camera B_check_camera
  walk_at "ev"
  rw [h]
  rfl
theorem badcam_ok (ns : List Int) (hl : ns.length ≤ 63) (at_ : Int) (h0 : 0 ≤ at_) (h1 : at_ ≤ 80000) : ∃ d, F_law_badcamera [.list (iL ns), .int at_] = .ok d ∧ F_is_camera [d] = .ok (.bool false) := by
  obtain ⟨p, e1, a1, b1⟩ := drawn_ok ns hl at_ 13 h0 (by omega) (by decide)
  have hw : F_is_wheel [wD 0 6 3] = .ok (.bool true) := rfl
  have key : ∀ d, gIx (.list [.none, .tuple [], .tuple [wD 0 6 3, wD 0 6 3], .tuple [wD 0 6 3, wD 0 6 3, wD 0 6 3, wD 0 6 3], .tuple [wD 41 50 1, wD 0 6 3, wD 0 6 3], .tuple [wD 0 61 3, wD 0 6 3, wD 0 6 3], .tuple [wD 9 8 1, wD 0 6 3, wD 0 6 3], .tuple [wD 0 6 3, wD 0 6 4, wD 0 6 3], .tuple [wD 0 6 3, wD 0 6 0, wD 0 6 3],
      .tuple [wD 0 13 1, wD 0 6 3, wD 0 6 3], .list [wD 0 6 3, wD 0 6 3, wD 0 6 3], .tuple [wD 0 6 3, wD 0 6 3, .list [.int 0, .int 6, .int 3]], .tuple [wD 0 6 3, wD 0 6 3, .tuple [.int 0, .bool true, .int 1]]]) (.int p) = .ok d → F_law_badcamera [.list (iL ns), .int at_] = .ok d := fun d h => by
    have e : F_law_badcamera [.list (iL ns), .int at_] = toRes (ofRes ((F_law_drawn [.list (iL ns), .int at_, .int 13]).bind fun p => gIx (.list [.none, .tuple [], .tuple [wD 0 6 3, wD 0 6 3], .tuple [wD 0 6 3, wD 0 6 3, wD 0 6 3, wD 0 6 3], .tuple [wD 41 50 1, wD 0 6 3, wD 0 6 3], .tuple [wD 0 61 3, wD 0 6 3, wD 0 6 3], .tuple [wD 9 8 1, wD 0 6 3, wD 0 6 3], .tuple [wD 0 6 3, wD 0 6 4, wD 0 6 3], .tuple [wD 0 6 3, wD 0 6 0, wD 0 6 3],
      .tuple [wD 0 13 1, wD 0 6 3, wD 0 6 3], .list [wD 0 6 3, wD 0 6 3, wD 0 6 3], .tuple [wD 0 6 3, wD 0 6 3, .list [.int 0, .int 6, .int 3]], .tuple [wD 0 6 3, wD 0 6 3, .tuple [.int 0, .bool true, .int 1]]]) p) fun d => .ret d) := rfl
    rw [e, e1, bind_ok, h]
    rfl
  have hp : p = 0 ∨ p = 1 ∨ p = 2 ∨ p = 3 ∨ p = 4 ∨ p = 5 ∨ p = 6 ∨ p = 7 ∨ p = 8 ∨ p = 9 ∨ p = 10 ∨ p = 11 ∨ p = 12 := by omega
  rcases hp with rfl | rfl | rfl | rfl | rfl | rfl | rfl | rfl | rfl | rfl | rfl | rfl | rfl <;> exact ⟨_, key _ rfl, rfl⟩
theorem wv_first {l m s : Int} (g : GoodW l m s) : l ∈ wv l m s := (mem_wv g.m0 (by have := g.s0; omega)).mpr ⟨Int.le_refl _, g.m0, by rw [Int.sub_self]; exact Int.zero_emod _⟩
theorem valB_int {ns : List Int} {v : Int} (h : v ∉ ns) : valB ns (.int v) = false := by
  unfold valB
  dsimp only
  simp [h]
end Lw
namespace Lw
open PySem L2 PD
theorem x_callSt (n : Nat) (F : List D → Res D) (g : DEnv → Res (List D)) (ρ : DEnv) : fCall n F (fSt g) ρ = ((g ρ).strict).bind fun ds => if ds.length = n then F ds else .bad := rfl
end Lw
namespace Lw
open PySem L2 PD
/-! ### texts: tables that the kernel computes -/
def isT (r : Res D) : Bool := match r with
  | .ok (.bool true) => true
  | _ => false
def isS (r : Res D) (x : Str) : Bool := match r with
  | .ok (.str y) => y == x
  | _ => false
def isI (r : Res D) (n : Int) : Bool := match r with
  | .ok (.int i) => i == n
  | _ => false
theorem isT_of {r : Res D} (h : isT r = true) : r = .ok (.bool true) := by
  unfold isT at h
  split at h
  · rfl
  · cases h
theorem isS_of {r : Res D} {x : Str} (h : isS r x = true) : r = .ok (.str x) := by
  unfold isS at h
  split at h
  · rw [eq_of_beq h]
  · cases h
theorem isI_of {r : Res D} {n : Int} (h : isI r n = true) : r = .ok (.int n) := by
  unfold isI at h
  split at h
  · rw [eq_of_beq h]
  · cases h
def tabS : List Str := (["-60", "-59 2/3", "-59 1/3", "-59", "-58 2/3", "-58 1/3", "-58", "-57 2/3", "-57 1/3", "-57", "-56 2/3", "-56 1/3", "-56", "-55 2/3", "-55 1/3", "-55", "-54 2/3", "-54 1/3", "-54", "-53 2/3", "-53 1/3", "-53", "-52 2/3", "-52 1/3", "-52", "-51 2/3", "-51 1/3", "-51", "-50 2/3", "-50 1/3", "-50", "-49 2/3", "-49 1/3", "-49", "-48 2/3", "-48 1/3", "-48", "-47 2/3", "-47 1/3", "-47", "-46 2/3", "-46 1/3", "-46", "-45 2/3", "-45 1/3", "-45", "-44 2/3", "-44 1/3", "-44", "-43 2/3", "-43 1/3", "-43", "-42 2/3", "-42 1/3", "-42", "-41 2/3", "-41 1/3", "-41", "-40 2/3", "-40 1/3", "-40", "-39 2/3", "-39 1/3", "-39", "-38 2/3", "-38 1/3", "-38", "-37 2/3", "-37 1/3", "-37", "-36 2/3", "-36 1/3", "-36", "-35 2/3", "-35 1/3", "-35", "-34 2/3", "-34 1/3", "-34", "-33 2/3", "-33 1/3", "-33", "-32 2/3", "-32 1/3", "-32", "-31 2/3", "-31 1/3", "-31", "-30 2/3", "-30 1/3", "-30", "-29 2/3", "-29 1/3", "-29", "-28 2/3", "-28 1/3", "-28", "-27 2/3", "-27 1/3", "-27", "-26 2/3", "-26 1/3", "-26", "-25 2/3", "-25 1/3", "-25", "-24 2/3", "-24 1/3", "-24", "-23 2/3", "-23 1/3", "-23", "-22 2/3", "-22 1/3", "-22", "-21 2/3", "-21 1/3", "-21", "-20 2/3", "-20 1/3", "-20", "-19 2/3", "-19 1/3", "-19", "-18 2/3", "-18 1/3", "-18", "-17 2/3", "-17 1/3", "-17", "-16 2/3", "-16 1/3", "-16", "-15 2/3", "-15 1/3", "-15", "-14 2/3", "-14 1/3", "-14", "-13 2/3", "-13 1/3", "-13", "-12 2/3", "-12 1/3", "-12", "-11 2/3", "-11 1/3", "-11", "-10 2/3", "-10 1/3", "-10", "-9 2/3", "-9 1/3", "-9", "-8 2/3", "-8 1/3", "-8", "-7 2/3", "-7 1/3", "-7", "-6 2/3", "-6 1/3", "-6", "-5 2/3", "-5 1/3", "-5", "-4 2/3", "-4 1/3", "-4", "-3 2/3", "-3 1/3", "-3", "-2 2/3", "-2 1/3", "-2", "-1 2/3", "-1 1/3", "-1", "-2/3", "-1/3", "0", "1/3", "2/3", "1", "1 1/3", "1 2/3", "2", "2 1/3", "2 2/3", "3", "3 1/3", "3 2/3", "4", "4 1/3", "4 2/3", "5", "5 1/3", "5 2/3", "6", "6 1/3", "6 2/3", "7", "7 1/3", "7 2/3", "8", "8 1/3", "8 2/3", "9", "9 1/3", "9 2/3", "10", "10 1/3", "10 2/3", "11", "11 1/3", "11 2/3", "12", "12 1/3", "12 2/3", "13", "13 1/3", "13 2/3", "14", "14 1/3", "14 2/3", "15", "15 1/3", "15 2/3", "16", "16 1/3", "16 2/3", "17", "17 1/3", "17 2/3", "18", "18 1/3", "18 2/3", "19", "19 1/3", "19 2/3", "20", "20 1/3", "20 2/3", "21", "21 1/3", "21 2/3", "22", "22 1/3", "22 2/3", "23", "23 1/3", "23 2/3", "24", "24 1/3", "24 2/3", "25", "25 1/3", "25 2/3", "26", "26 1/3", "26 2/3", "27", "27 1/3", "27 2/3", "28", "28 1/3", "28 2/3", "29", "29 1/3", "29 2/3", "30", "30 1/3", "30 2/3", "31", "31 1/3", "31 2/3", "32", "32 1/3", "32 2/3", "33", "33 1/3", "33 2/3", "34", "34 1/3", "34 2/3", "35", "35 1/3", "35 2/3", "36", "36 1/3", "36 2/3", "37", "37 1/3", "37 2/3", "38", "38 1/3", "38 2/3", "39", "39 1/3", "39 2/3", "40", "40 1/3", "40 2/3", "41", "41 1/3", "41 2/3", "42", "42 1/3", "42 2/3", "43", "43 1/3", "43 2/3", "44", "44 1/3", "44 2/3", "45", "45 1/3", "45 2/3", "46", "46 1/3", "46 2/3", "47", "47 1/3", "47 2/3", "48", "48 1/3", "48 2/3", "49", "49 1/3", "49 2/3", "50", "50 1/3", "50 2/3", "51", "51 1/3", "51 2/3", "52", "52 1/3", "52 2/3", "53", "53 1/3", "53 2/3", "54", "54 1/3", "54 2/3", "55", "55 1/3", "55 2/3", "56", "56 1/3", "56 2/3", "57", "57 1/3", "57 2/3", "58", "58 1/3", "58 2/3", "59", "59 1/3", "59 2/3", "60"] : List String).map Str.ofString
def JS (n : Int) : Str := tabS.getD (n + 180).toNat ""
theorem tab_len : tabS.length = 361 := by decide +kernel
def dgq : List Nat → Nat → Nat → Nat
  | [], a, t => t + 3 * a
  | c :: cs, a, t => if c == 47 then t + a else if c == 32 then dgq cs 0 (t + 3 * a) else dgq cs (a * 10 + (c - 48)) t
def decS (x : Str) : Int := match x.cps.toList with
  | [] => 0
  | c :: cs => if c == 45 then - ((dgq cs 0 0 : Nat) : Int) else ((dgq (c :: cs) 0 0 : Nat) : Int)
theorem tab_dec : ((List.range 361).all fun i => decS (tabS.getD i "") == (i : Int) - 180) = true := by decide +kernel
theorem tab_ok : ((List.range 361).all fun i => isS (F_join_stops [.int ((i : Int) - 180)]) (tabS.getD i "") && isS (F_law_stops [.int ((i : Int) - 180)]) (tabS.getD i "")) = true := by decide +kernel
theorem tab_short : tabS.all (fun x => decide (x.length ≤ 10)) = true := by decide +kernel
theorem js_i {n : Int} (h1 : -180 ≤ n) (h2 : n ≤ 180) : F_join_stops [.int n] = .ok (.str (JS n)) ∧ F_law_stops [.int n] = .ok (.str (JS n)) := by
  have h := List.all_eq_true.mp tab_ok (n + 180).toNat (List.mem_range.mpr (by omega))
  have e : (((n + 180).toNat : Nat) : Int) - 180 = n := by omega
  rw [e] at h
  obtain ⟨a, b⟩ := and_split h
  exact ⟨isS_of a, isS_of b⟩
theorem js_get {n : Int} (h1 : -180 ≤ n) (h2 : n ≤ 180) : tabS[(n + 180).toNat]? = some (JS n) := by
  have hl := tab_len
  unfold JS
  rw [List.getD_eq_getElem?_getD, List.getElem?_eq_getElem (by omega)]
  rfl
theorem js_dec {n : Int} (h1 : -180 ≤ n) (h2 : n ≤ 180) : decS (JS n) = n := by
  have h := eq_of_beq (List.all_eq_true.mp tab_dec (n + 180).toNat (List.mem_range.mpr (by omega)))
  refine Eq.trans h ?_
  omega
theorem js_inj {n m : Int} (h1 : -180 ≤ n) (h2 : n ≤ 180) (h3 : -180 ≤ m) (h4 : m ≤ 180) (e : JS n = JS m) : n = m := by
  rw [← js_dec h1 h2, e, js_dec h3 h4]
theorem js_short {n : Int} (h1 : -180 ≤ n) (h2 : n ≤ 180) : (JS n).length ≤ 10 := by
  have := List.mem_of_getElem? (js_get h1 h2)
  exact of_decide_eq_true (List.all_eq_true.mp tab_short _ this)
abbrev SO (x : Str) : Prop := SeqAt.shaped (.str x) = true
theorem tab_sh : tabS.all (fun x => SeqAt.shaped (.str x)) = true := by decide +kernel
theorem js_so {n : Int} (h1 : -180 ≤ n) (h2 : n ≤ 180) : SO (JS n) := List.all_eq_true.mp tab_sh _ (List.mem_of_getElem? (js_get h1 h2))
theorem eq_str {a b : Str} (ha : SO a) (hb : SO b) : gEq (.str a) (.str b) = .ok (.bool (a == b)) := by
  unfold gEq
  rw [PyData.eqv, ha, hb]
  rfl
theorem ne_str {a b : Str} (ha : SO a) (hb : SO b) : gNe (.str a) (.str b) = .ok (.bool (!(a == b))) := by
  unfold gNe
  rw [PyData.eqv, ha, hb]
  rfl
/-! ### read_stops -/
theorem rs_loop {x : Str} (hx : SO x) : ∀ (ns : List Int) (s1 : Slot), (∀ n ∈ ns, -180 ≤ n ∧ n ≤ 180) → ∃ t1, forGo (asgOf [1] hOne) L_read_stops_0 (iL ns) [.d (.str x), s1] = (match ns.find? (fun n => JS n == x) with | some n => SR.ret (.int n) | none => SR.next [.d (.str x), t1])
  | [], s1, _ => ⟨s1, rfl⟩
  | n :: ns, s1, h => by
    obtain ⟨h1, h2⟩ := h n List.mem_cons_self
    obtain ⟨t1, ih⟩ := rs_loop hx ns (.d (.int n)) fun m hm => h m (List.mem_cons_of_mem _ hm)
    refine ⟨t1, ?_⟩
    have e : L_read_stops_0 [.d (.str x), .d (.int n)] = if (JS n == x) = true then SR.ret (.int n) else SR.next [.d (.str x), .d (.int n)] := by
      unfold L_read_stops_0
      simp_arith [(js_i h1 h2).1, eq_str (js_so h1 h2) hx]
    rw [List.find?_cons]
    show forGo (asgOf [1] hOne) L_read_stops_0 (.int n :: iL ns) _ = _
    cases hb : JS n == x with
    | true =>
      rw [hb, if_pos rfl] at e
      conv => lhs; unfold forGo
      show (match L_read_stops_0 [.d (.str x), .d (.int n)] with
        | .next ρ' => forGo (asgOf [1] hOne) L_read_stops_0 (iL ns) ρ'
        | .cont ρ' => forGo (asgOf [1] hOne) L_read_stops_0 (iL ns) ρ'
        | .brk ρ' => .next ρ'
        | .ret x => .ret x
        | .err c => .err c
        | .bad => .bad) = _
      rw [e]
    | false =>
      rw [hb, if_neg (by decide)] at e
      rw [f_cons rfl e, ih]
def RS (x : Str) : Option Int := (up (-180) 361).find? fun n => JS n == x
theorem read_stops_eq {x : Str} (hx : SO x) : F_read_stops [.str x] = match RS x with | some n => .ok (.int n) | none => .err "ParseError" := by
  obtain ⟨t1, e⟩ := rs_loop hx (up (-180) 361) .un fun n hn => by
    have := mem_up.mp hn
    omega
  unfold F_read_stops B_read_stops RS
  rw [y_fn, show startD 2 [PyData.str x] = [.d (.str x), .un] from rfl, y_seq, y_if, show fTest (fIsi "str" (fVar 0)) (viewAll [.d (.str x), .un]) = .ok true from rfl, y_ok, if_pos rfl, y_for (ds := iL (up (-180) 361)) (by
    rw [← up_D]
    rfl)]
  refine Eq.trans (congrArg (fun r => toRes (SR.seq r _)) e) ?_
  cases (up (-180) 361).find? (fun n => JS n == x) with
  | none => rfl
  | some n => rfl
theorem RS_js {n : Int} (h1 : -180 ≤ n) (h2 : n ≤ 180) : RS (JS n) = some n := by
  unfold RS
  cases h : (up (-180) 361).find? (fun m => JS m == JS n) with
  | none =>
    have := List.find?_eq_none.mp h n (mem_up.mpr ⟨h1, by omega⟩)
    simp at this
  | some m =>
    have hm := mem_up.mp (List.mem_of_find?_eq_some h)
    have e := List.find?_some h
    rw [js_inj (by omega) (by omega) h1 h2 (eq_of_beq e)]
theorem RS_some {x : Str} {n : Int} (h : RS x = some n) : -180 ≤ n ∧ n ≤ 180 ∧ JS n = x := by
  unfold RS at h
  have hm := mem_up.mp (List.mem_of_find?_eq_some h)
  have e : (JS n == x) = true := List.find?_some (p := fun n => JS n == x) h
  exact ⟨by omega, by omega, eq_of_beq e⟩
end Lw
namespace Lw
open PySem L2 PD
/-! ### texts of numbers -/
abbrev tS (n : Int) : Str := toString n
def dg (n : Int) : List Nat := (tS n).cps.toList
theorem dg_all : ((List.range 61).all fun i => decide ((tS (i : Int)).length ≤ 2) && (dg (i : Int)).all (fun ch => decide (48 ≤ ch) && decide (ch ≤ 57)) && isI (F_read_int [.str (tS (i : Int))]) (i : Int)) = true := by decide +kernel
theorem dg_of {n : Int} (h1 : 0 ≤ n) (h2 : n ≤ 60) : (tS n).length ≤ 2 ∧ (∀ ch ∈ dg n, 48 ≤ ch ∧ ch ≤ 57) ∧ F_read_int [.str (tS n)] = .ok (.int n) := by
  have h := List.all_eq_true.mp dg_all n.toNat (List.mem_range.mpr (by omega))
  have e : ((n.toNat : Nat) : Int) = n := by omega
  rw [e] at h
  obtain ⟨h, h3⟩ := and_split h
  obtain ⟨h1', h2'⟩ := and_split h
  refine ⟨of_decide_eq_true h1', fun ch hc => ?_, isI_of h3⟩
  obtain ⟨a, b⟩ := and_split (List.all_eq_true.mp h2' ch hc)
  exact ⟨of_decide_eq_true a, of_decide_eq_true b⟩
theorem S_dg (n : Int) : SX.S (dg n) = tS n := SX.S_tl _
/-- the signs of a wheel -/
def wL (l m s : Int) : List Nat := dg l ++ ([45] ++ (dg m ++ ([47] ++ dg s)))
theorem so_of {x : Str} (h : ∀ ch ∈ x.cps.toList, ch < 1114112) : SO x := by
  have e : x.cps.all (fun c => decide (c < 1114112)) = true := by
    rw [← Array.all_toList, List.all_eq_true]
    exact fun ch hc => decide_eq_true (h ch hc)
  show (x.cps.all (fun c => decide (c < 1114112)) && decide (0 ≤ 64)) = true
  rw [e]
  rfl
theorem so_mem {x : Str} (h : SO x) : ∀ ch ∈ x.cps.toList, ch < 1114112 := by
  have h : (x.cps.all (fun c => decide (c < 1114112)) && decide (0 ≤ 64)) = true := h
  have e := (and_split h).1
  rw [← Array.all_toList, List.all_eq_true] at e
  exact fun ch hc => of_decide_eq_true (e ch hc)
theorem s_dash : (Str.ofString "-") = SX.S [45] := by decide +kernel
theorem s_slash : (Str.ofString "/") = SX.S [47] := by decide +kernel
theorem s_space : (Str.ofString " ") = SX.S [32] := by decide +kernel
theorem add_S {a b : List Nat} (h : a.length + b.length ≤ 1000) : gAdd (.str (SX.S a)) (.str (SX.S b)) = .ok (.str (SX.S (a ++ b))) := by
  unfold gAdd
  dsimp only
  rw [SX.S_len, SX.S_len, if_pos (show lenOk (a.length + b.length) = true from decide_eq_true (by omega)), SX.S_cat]
theorem dg_len {n : Int} (h1 : 0 ≤ n) (h2 : n ≤ 60) : (dg n).length ≤ 2 := by
  have := (dg_of h1 h2).1
  unfold dg
  rw [Array.length_toList]
  exact this
theorem wL_len {l m s : Int} (g : GoodW l m s) : (wL l m s).length ≤ 8 := by
  have a := dg_len g.l0 (by have := g.l1; omega)
  have b := dg_len (n := m) (by have := g.l0; have := g.m0; omega) g.m1
  have d := dg_len (n := s) (by have := g.s0; omega) (by have := g.s1; omega)
  unfold wL
  simp only [List.length_append, List.length_cons, List.length_nil]
  omega
theorem str_i {n : Int} (h1 : 0 ≤ n) (h2 : n ≤ 60) : gStr [.int n] = .ok (.str (SX.S (dg n))) := by
  unfold gStr
  dsimp only
  rw [if_pos (show strOk n = true by unfold strOk; simp only [Bool.and_eq_true, decide_eq_true_eq]; omega), S_dg]
theorem wheel_str {l m s : Int} (g : GoodW l m s) {ρ : DEnv} {i j k : Nat} (h1 : fVar i ρ = .ok (.int l)) (h2 : fVar j ρ = .ok (.int m)) (h3 : fVar k ρ = .ok (.int s)) :
    fBin gAdd (fBin gAdd (fBin gAdd (fBin gAdd (fB gStr (fCons (fVar i) fNil)) (fC (.str "-"))) (fB gStr (fCons (fVar j) fNil))) (fC (.str "/"))) (fB gStr (fCons (fVar k) fNil)) ρ = .ok (.str (SX.S (wL l m s))) := by
  have hm0 : 0 ≤ m := by have := g.l0; have := g.m0; omega
  have hl60 : l ≤ 60 := by have := g.l1; omega
  have hs0 : 0 ≤ s := by have := g.s0; omega
  have hs60 : s ≤ 60 := by have := g.s1; omega
  have a := dg_len g.l0 hl60
  have b := dg_len hm0 g.m1
  have d := dg_len hs0 hs60
  simp_arith [h1, h2, h3, str_i g.l0 hl60, str_i hm0 g.m1, str_i hs0 hs60, s_dash, s_slash]
  rw [add_S (by simp only [List.length_cons, List.length_nil]; omega)]
  walk_at "ev"
  rw [add_S (by simp only [List.length_append, List.length_cons, List.length_nil]; omega)]
  walk_at "ev"
  rw [add_S (by simp only [List.length_append, List.length_cons, List.length_nil]; omega)]
  walk_at "ev"
  rw [add_S (by simp only [List.length_append, List.length_cons, List.length_nil]; omega)]
  unfold wL
  simp only [List.append_assoc]
theorem x_tm {g : Str → D → Res D} {fo fe : DEnv → Res D} {ρ : DEnv} {a : Str} (h : fo ρ = .ok (.str a)) : fTM g fo fe ρ = (fe ρ).bind fun b => g a b := by
  unfold fTM
  rw [h]
  rfl
def fmtL (c : Cam) : List Nat := TL.joinL [32] [wL c.l1 c.m1 c.s1, wL c.l2 c.m2 c.s2, wL c.l3 c.m3 c.s3]
theorem fmt_len {c : Cam} (g : GoodC c) : (fmtL c).length ≤ 26 := by
  have a := wL_len g.w1
  have b := wL_len g.w2
  have d := wL_len g.w3
  unfold fmtL TL.joinL TL.joinL TL.joinL
  simp only [List.length_append, List.length_cons, List.length_nil]
  omega
theorem join_camera_eq {c : Cam} (g : GoodC c) : F_join_camera [cD c] = .ok (.str (SX.S (fmtL c))) := by
  have a := wL_len g.w1
  have b := wL_len g.w2
  have d := wL_len g.w3
  have e : fLc (fSeq (fVar 0)) [1, 2, 3] [1, 2, 3] (hTup 3) fYes (fBin gAdd (fBin gAdd (fBin gAdd (fBin gAdd (fB gStr (fCons (fVar 1) fNil)) (fC (.str "-"))) (fB gStr (fCons (fVar 2) fNil))) (fC (.str "/"))) (fB gStr (fCons (fVar 3) fNil))) [.d (cD c), .un, .un, .un] = .ok (.list [.str (SX.S (wL c.l1 c.m1 c.s1)), .str (SX.S (wL c.l2 c.m2 c.s2)), .str (SX.S (wL c.l3 c.m3 c.s3))]) := by
    refine x_lc (ds := [wD c.l1 c.m1 c.s1, wD c.l2 c.m2 c.s2, wD c.l3 c.m3 c.s3]) rfl ?_ (by show 3 < 1000000; decide)
    unfold lcGo lcGo lcGo lcGo
    rw [l_3, l_3, l_3, wheel_str g.w1 rfl rfl rfl, wheel_str g.w2 rfl rfl rfl, wheel_str g.w3 rfl rfl rfl]
    rfl
  have ej : gJoin " " (.list [.str (SX.S (wL c.l1 c.m1 c.s1)), .str (SX.S (wL c.l2 c.m2 c.s2)), .str (SX.S (wL c.l3 c.m3 c.s3))]) = .ok (.str (SX.S (fmtL c))) := by
    show (if (([SX.S (wL c.l1 c.m1 c.s1), SX.S (wL c.l2 c.m2 c.s2), SX.S (wL c.l3 c.m3 c.s3)] : List Str).map (·.length)).sum + 3 * (Str.ofString " ").length ≤ 1000000 then Res.ok (PyData.str (Txt.join (Str.ofString " ") ([wL c.l1 c.m1 c.s1, wL c.l2 c.m2 c.s2, wL c.l3 c.m3 c.s3].map SX.S))) else .bad) = _
    rw [s_space, SX.join_S, if_pos]
    · rfl
    · simp only [List.map_cons, List.map_nil, List.sum_cons, List.sum_nil, SX.S_len, List.length_cons, List.length_nil]
      omega
  unfold F_join_camera B_join_camera
  rw [y_fn, show startD 4 [cD c] = [.d (cD c), .un, .un, .un] from rfl, y_rt]
  rw [x_tm (a := " ") rfl, e, bind_ok, ej]
  rfl
theorem law_text_eq {c : Cam} (g : GoodC c) : F_law_text [cD c] = .ok (.str (SX.S (fmtL c))) := join_camera_eq g
theorem format_eq {c : Cam} (g : GoodC c) : F_format_camera [cD c] = .ok (.str (SX.S (fmtL c))) := by
  unfold F_format_camera B_format_camera
  simp_arith [check_camera_good g, join_camera_eq g]
/-! ### reading -/
def RD (d : D) : Prop := d = .none ∨ ∃ n, d = .int n
theorem digits_all : ([48, 49, 50, 51, 52, 53, 54, 55, 56, 57] : List Nat).all (fun a => (PySem.intText? (SX.S [a])).isSome && ([48, 49, 50, 51, 52, 53, 54, 55, 56, 57] : List Nat).all fun b => (PySem.intText? (SX.S [a, b])).isSome) = true := by decide +kernel
theorem s_digits : (Str.ofString "0123456789") = SX.S [48, 49, 50, 51, 52, 53, 54, 55, 56, 57] := by decide +kernel
theorem read_int_total {x : Str} (hl : x.length ≤ 100000) : ∃ d, F_read_int [.str x] = .ok d ∧ RD d := by
  have hlen : gLen [.str x] = .ok (.int (x.length : Nat)) := by
    show (if lenOk x.length = true then Res.ok (PyData.int (x.length : Nat)) else .bad) = _
    rw [if_pos (show lenOk x.length = true from decide_eq_true (by omega))]
  have hll : x.cps.toList.length = x.length := Array.length_toList
  have elc : ∀ r1 : Slot, fLc (fText (fVar 0)) [1] [1] hOne fYes (fBin gInS (fVar 1) (fC (.str "0123456789"))) [.d (.str x), r1] = .ok (.list ((x.cps.toList.map fun ch => decide (ch ∈ [48, 49, 50, 51, 52, 53, 54, 55, 56, 57])).map PyData.bool)) := fun r1 => by
    rw [lc_m (fun ch => PyData.str ⟨#[ch]⟩) x.cps.toList (fun ch => .bool (decide (ch ∈ [48, 49, 50, 51, 52, 53, 54, 55, 56, 57]))) rfl (fun ch _ => ?_) (by omega), List.map_map]
    · rfl
    · rw [l_1]
      simp_arith [s_digits]
      rfl
  have est : fOr (fNot (fTest (fChain gLe gLe (fC (.int 1)) (fB gLen (fCons (fVar 0) fNil)) (fC (.int 2))))) (fNot (fTest (fB gAll (fCons (fLc (fText (fVar 0)) [1] [1] hOne fYes (fBin gInS (fVar 1) (fC (.str "0123456789")))) fNil)))) (viewAll [.d (.str x), .un]) = .ok (!(decide (1 ≤ x.length) && decide (x.length ≤ 2) && (x.cps.toList.map fun ch => decide (ch ∈ [48, 49, 50, 51, 52, 53, 54, 55, 56, 57])).all id)) := by
    simp_arith [hlen, elc, all_bools]
    by_cases h1 : 1 ≤ x.length
    · rw [decide_eq_true (show (1 : Int) ≤ (x.length : Nat) by omega), decide_eq_true h1]
      by_cases h2 : x.length ≤ 2
      · rw [decide_eq_true h2]
        walk_at "ev"
        rw [decide_eq_true (show ((x.length : Nat) : Int) ≤ 2 by omega)]
        walk_at "ev"
        cases (x.cps.toList.map fun ch => decide (ch ∈ [48, 49, 50, 51, 52, 53, 54, 55, 56, 57])).all id <;> rfl
      · rw [decide_eq_false h2]
        walk_at "ev"
        rw [decide_eq_false (show ¬ ((x.length : Nat) : Int) ≤ 2 by omega)]
        rfl
    · rw [decide_eq_false (show ¬ (1 : Int) ≤ (x.length : Nat) by omega), decide_eq_false h1]
      rfl
  unfold F_read_int B_read_int
  rw [y_fn, show startD 2 [PyData.str x] = [.d (.str x), .un] from rfl, y_seq, y_if, est, y_ok]
  cases hb : (decide (1 ≤ x.length) && decide (x.length ≤ 2) && (x.cps.toList.map fun ch => decide (ch ∈ [48, 49, 50, 51, 52, 53, 54, 55, 56, 57])).all id) with
  | false => exact ⟨.none, rfl, .inl rfl⟩
  | true =>
    obtain ⟨hb, h3⟩ := and_split hb
    obtain ⟨h1, h2⟩ := and_split hb
    have h1 := of_decide_eq_true h1
    have h2 := of_decide_eq_true h2
    have hd : ∀ ch ∈ x.cps.toList, ch ∈ [48, 49, 50, 51, 52, 53, 54, 55, 56, 57] := fun ch hc => by
      have := List.all_eq_true.mp h3 _ (List.mem_map.mpr ⟨ch, hc, rfl⟩)
      exact of_decide_eq_true this
    have hs : ∃ n, PySem.intText? x = some n := by
      have ex : SX.S x.cps.toList = x := SX.S_tl x
      rw [← ex]
      match hm : x.cps.toList, hll with
      | [], hll => simp at hll; omega
      | [a], hll =>
        rw [hm] at hd
        have := (and_split (List.all_eq_true.mp digits_all a (hd a (by simp)))).1
        exact Option.isSome_iff_exists.mp this
      | [a, b], hll =>
        rw [hm] at hd
        have := List.all_eq_true.mp (and_split (List.all_eq_true.mp digits_all a (hd a (by simp)))).2 b (hd b (by simp))
        exact Option.isSome_iff_exists.mp this
      | _ :: _ :: _ :: _, hll => simp at hll; omega
    obtain ⟨n, en⟩ := hs
    refine ⟨.int n, ?_, .inr ⟨n, rfl⟩⟩
    have eg : gIntS [.str x] = .ok (.int n) := by
      show (match PySem.intText? x with
        | some n => if x.length ≤ 640 then Res.ok (PyData.int n) else .bad
        | none => .bad) = _
      rw [en]
      dsimp only
      rw [if_pos (by omega)]
    show toRes ((SR.next [.d (.str x), .un]).seq (sRet (fB gIntS (fCons (fVar 0) fNil)))) = _
    simp_arith [eg]
end Lw
namespace Lw
open PySem L2 PD
theorem so_fmt {c : Cam} (g : GoodC c) : SO (SX.S (fmtL c)) := by
  have aux : ∀ {l m s : Int}, GoodW l m s → ∀ ch ∈ wL l m s, ch < 1114112 := fun {l m s} G ch z => by
    have hm0 : 0 ≤ m := by have := G.l0; have := G.m0; omega
    unfold wL at z
    simp only [List.mem_append, List.mem_cons, List.not_mem_nil, or_false] at z
    rcases z with z | z | z | z | z
    · have := ((dg_of G.l0 (by have := G.l1; omega)).2.1 ch z).2; omega
    · omega
    · have := ((dg_of hm0 G.m1).2.1 ch z).2; omega
    · omega
    · have := ((dg_of (n := s) (by have := G.s0; omega) (by have := G.s1; omega)).2.1 ch z).2; omega
  refine so_of fun ch hc => ?_
  have hc : ch ∈ fmtL c := hc
  unfold fmtL TL.joinL TL.joinL TL.joinL at hc
  simp only [List.mem_append, List.mem_cons, List.not_mem_nil, or_false] at hc
  rcases hc with z | z | z | z | z
  · exact aux g.w1 ch z
  · omega
  · exact aux g.w2 ch z
  · omega
  · exact aux g.w3 ch z
/-! ### read_wheel -/
theorem part_ok {x : Str} (hl : x.length ≤ 100000) (sep : Str) (hs : (sep.length == 0) = false) : gPart x (.str sep) = .ok (.tuple [.str (Txt.partition x sep).1, .str (Txt.partition x sep).2.1, .str (Txt.partition x sep).2.2]) := by
  show (if ((sep.length == 0) = false ∧ x.length ≤ 1000000) then Res.ok (PyData.tuple [.str (Txt.partition x sep).1, .str (Txt.partition x sep).2.1, .str (Txt.partition x sep).2.2]) else .bad) = _
  rw [if_pos ⟨hs, by omega⟩]
theorem part_len (x : Str) (c : Nat) : (Txt.partition x (SX.S [c])).1.length ≤ x.length ∧ (Txt.partition x (SX.S [c])).2.2.length ≤ x.length := by
  have ex : SX.S x.cps.toList = x := SX.S_tl x
  have hb : ([c] : List Nat) ≠ [] := List.cons_ne_nil _ _
  by_cases h : c ∈ x.cps.toList
  · obtain ⟨p, q, e, hp⟩ : ∃ p q, x.cps.toList = p ++ c :: q ∧ c ∉ p := by
      obtain ⟨p, q, e, hp⟩ := List.eq_append_cons_of_mem h
      exact ⟨p, q, e, hp⟩
    have := SX.partition_some (a := x.cps.toList) hb (p := p) (q := q) (by rw [e]; exact SX.par_head q hp)
    rw [ex] at this
    rw [this]
    dsimp only
    have l1 : (SX.S p).length = p.length := SX.S_len p
    have l2 : (SX.S q).length = q.length := SX.S_len q
    have hl : x.length = p.length + (q.length + 1) := by
      have hll : x.cps.toList.length = x.length := Array.length_toList
      rw [← hll, e, List.length_append, List.length_cons]
    exact ⟨by omega, by omega⟩
  · have := SX.partition_none (a := x.cps.toList) hb (SX.par_head_none h)
    rw [ex] at this
    rw [this]
    exact ⟨Nat.le_refl _, Nat.zero_le _⟩
theorem y_asT3' {f : DEnv → Res D} {i j k : Nat} {ρ : DEnv} {x y z : D} (h : f ρ = .ok (.tuple [x, y, z])) : sAsg f [i, j, k] (hTup 3) ρ = .next (((ρ.set i (.d x)).set j (.d y)).set k (.d z)) := by
  rw [y_asT3, h]
  rfl
theorem read_wheel_of {x : Str} (hl : x.length ≤ 100000) {a b d : D} (h1 : F_read_int [.str (Txt.partition x (SX.S [45])).1] = .ok a) (h2 : F_read_int [.str (Txt.partition (Txt.partition x (SX.S [45])).2.2 (SX.S [47])).1] = .ok b) (h3 : F_read_int [.str (Txt.partition (Txt.partition x (SX.S [45])).2.2 (SX.S [47])).2.2] = .ok d) :
    F_read_wheel [.str x] = .ok (.tuple [a, b, d]) := by
  have hp := part_len x 45
  unfold F_read_wheel B_read_wheel
  rw [y_fn, show startD 7 [PyData.str x] = [.d (.str x), .un, .un, .un, .un, .un, .un] from rfl, y_seq, y_asT3' (by rw [x_tm (a := x) rfl, x_c, bind_ok, s_dash, part_ok hl _ rfl]), y_next, y_seq]
  simp only [set0, setS']
  rw [y_asT3' (by rw [x_tm (a := (Txt.partition x (SX.S [45])).2.2) rfl, x_c, bind_ok, s_slash, part_ok (by omega) _ rfl]), y_next]
  simp only [set0, setS']
  simp_arith [h1, h2, h3]
theorem read_wheel_total {x : Str} (hl : x.length ≤ 100000) : ∃ a b d, F_read_wheel [.str x] = .ok (.tuple [a, b, d]) ∧ RD a ∧ RD b ∧ RD d := by
  have hp := part_len x 45
  have hp2 := part_len (Txt.partition x (SX.S [45])).2.2 47
  obtain ⟨a, e1, r1⟩ := read_int_total (x := (Txt.partition x (SX.S [45])).1) (by omega)
  obtain ⟨b, e2, r2⟩ := read_int_total (x := (Txt.partition (Txt.partition x (SX.S [45])).2.2 (SX.S [47])).1) (by omega)
  obtain ⟨d, e3, r3⟩ := read_int_total (x := (Txt.partition (Txt.partition x (SX.S [45])).2.2 (SX.S [47])).2.2) (by omega)
  exact ⟨a, b, d, read_wheel_of hl e1 e2 e3, r1, r2, r3⟩
theorem dg_no {n : Int} (h1 : 0 ≤ n) (h2 : n ≤ 60) {ch : Nat} (hc : ch < 48) : ch ∉ dg n := fun z => by
  have := ((dg_of h1 h2).2.1 ch z).1
  omega
theorem read_wheel_good {l m s : Int} (g : GoodW l m s) : F_read_wheel [.str (SX.S (wL l m s))] = .ok (wD l m s) := by
  have hm0 : 0 ≤ m := by have := g.l0; have := g.m0; omega
  have hl60 : l ≤ 60 := by have := g.l1; omega
  have hs0 : 0 ≤ s := by have := g.s0; omega
  have hs60 : s ≤ 60 := by have := g.s1; omega
  have hlen := wL_len g
  have p1 : Txt.partition (SX.S (wL l m s)) (SX.S [45]) = (SX.S (dg l), SX.S [45], SX.S (dg m ++ ([47] ++ dg s))) := SX.partition_some (List.cons_ne_nil _ _) (SX.par_head (sep := []) (dg m ++ ([47] ++ dg s)) (dg_no g.l0 hl60 (by decide)))
  have p2 : Txt.partition (SX.S (dg m ++ ([47] ++ dg s))) (SX.S [47]) = (SX.S (dg m), SX.S [47], SX.S (dg s)) := SX.partition_some (List.cons_ne_nil _ _) (SX.par_head (sep := []) (dg s) (dg_no hm0 g.m1 (by decide)))
  refine read_wheel_of (by rw [SX.S_len]; omega) ?_ ?_ ?_
  · rw [p1, S_dg]
    exact (dg_of g.l0 hl60).2.2
  · rw [p1]
    dsimp only
    rw [p2, S_dg]
    exact (dg_of hm0 g.m1).2.2
  · rw [p1]
    dsimp only
    rw [p2, S_dg]
    exact (dg_of hs0 hs60).2.2
/-! ### is_camera of what was read -/
theorem is_wheel_rd {a b d : D} (ha : RD a) (hb : RD b) (hd : RD d) : ∃ w : Bool, F_is_wheel [.tuple [a, b, d]] = .ok (.bool w) ∧ (w = true → ∃ l m s, a = .int l ∧ b = .int m ∧ d = .int s ∧ GoodW l m s) := by
  rcases ha with rfl | ⟨l, rfl⟩
  · exact ⟨false, by unfold F_is_wheel B_is_wheel; simp_arith [is_int_eq, show isIntD .none 0 40 = false from rfl], fun z => nomatch z⟩
  cases h1 : isIntD (.int l) 0 40 with
  | false => exact ⟨false, by unfold F_is_wheel B_is_wheel; simp_arith [is_int_eq, h1], fun z => nomatch z⟩
  | true =>
  cases h2 : isIntD b l 60 with
  | false => exact ⟨false, by unfold F_is_wheel B_is_wheel; simp_arith [is_int_eq, h1, h2], fun z => nomatch z⟩
  | true =>
  cases h3 : isIntD d 1 3 with
  | false => exact ⟨false, by unfold F_is_wheel B_is_wheel; simp_arith [is_int_eq, h1, h2, h3], fun z => nomatch z⟩
  | true =>
  rcases hb with rfl | ⟨m, rfl⟩
  · cases h2
  rcases hd with rfl | ⟨s, rfl⟩
  · cases h3
  rw [isIntD_int] at h1 h2 h3
  obtain ⟨a1, a2⟩ := and_split h1
  obtain ⟨b1, b2⟩ := and_split h2
  obtain ⟨c1, c2⟩ := and_split h3
  have a1 := of_decide_eq_true a1
  have a2 := of_decide_eq_true a2
  have b1 := of_decide_eq_true b1
  have b2 := of_decide_eq_true b2
  have c1 := of_decide_eq_true c1
  have c2 := of_decide_eq_true c2
  refine ⟨decide ((m - l) / s + 1 ≤ 13), ?_, fun z => ⟨l, m, s, rfl, rfl, rfl, a1, a2, b1, b2, c1, c2, of_decide_eq_true z⟩⟩
  unfold F_is_wheel B_is_wheel
  simp_arith [is_int_eq, isIntD_int, decide_eq_true a1, decide_eq_true a2, decide_eq_true b1, decide_eq_true b2, decide_eq_true c1, decide_eq_true c2, Bool.and_self, g_div (show divOk (m - l) s = true from div_ok (by omega) (by omega))]
theorem is_camera_len {ds : List D} (h : ds.length ≠ 3) : F_is_camera [.tuple ds] = .ok (.bool false) := by
  have h' : (((ds.length : Nat) : Int) == 3) = false := beq_eq_false_iff_ne.mpr (by omega)
  unfold F_is_camera B_is_camera
  simp_arith [h']
theorem split_len (x : Str) : (Txt.split x (SX.S [32])).length ≤ x.length + 1 ∧ ∀ y ∈ Txt.split x (SX.S [32]), y.length ≤ x.length := by
  have ex : SX.S x.cps.toList = x := SX.S_tl x
  have e := SX.split_S (a := x.cps.toList) (b := [32]) (List.cons_ne_nil _ _) rfl
  rw [ex] at e
  have aux : ∀ (r acc : List Nat), (TL.spl [32] 0 acc r).length ≤ r.length + 1 ∧ ∀ y ∈ TL.spl [32] 0 acc r, y.length ≤ acc.length + r.length := by
    intro r
    induction r with
    | nil => intro acc; exact ⟨Nat.le_refl _, fun y hy => by rw [List.mem_singleton.mp hy]; exact Nat.le_add_right _ _⟩
    | cons ch r ih =>
      intro acc
      by_cases hp : TL.pre [32] (ch :: r) = true
      · rw [TL.spl_hit hp]
        obtain ⟨i1, i2⟩ := ih []
        refine ⟨by rw [List.length_cons, List.length_cons]; exact Nat.succ_le_succ i1, fun y hy => ?_⟩
        rcases List.mem_cons.mp hy with z | z
        · rw [z]; exact Nat.le_add_right _ _
        · have := i2 y z
          rw [List.length_nil] at this
          rw [List.length_cons]
          omega
      · rw [TL.spl_miss (by simpa using hp)]
        obtain ⟨i1, i2⟩ := ih (acc ++ [ch])
        refine ⟨by rw [List.length_cons]; omega, fun y hy => ?_⟩
        have := i2 y hy
        rw [List.length_append, List.length_cons, List.length_nil] at this
        rw [List.length_cons]
        omega
  obtain ⟨i1, i2⟩ := aux x.cps.toList []
  have hll : x.cps.toList.length = x.length := Array.length_toList
  rw [e]
  refine ⟨by rw [List.length_map]; omega, fun y hy => ?_⟩
  obtain ⟨z, hz, rfl⟩ := List.mem_map.mp hy
  have := i2 z hz
  rw [List.length_nil] at this
  rw [SX.S_len]
  omega
theorem lcGo_rw {step : D → Res (List D)} : ∀ (ys : List Str), (∀ y ∈ ys, y.length ≤ 100000) → (∀ (y : Str) (d : D), F_read_wheel [.str y] = .ok d → step (.str y) = .ok [d]) → ∃ ws : List D, lcGo step (ys.map PyData.str) = .ok ws ∧ ws.length = ys.length ∧ ∀ w ∈ ws, ∃ a b d, w = .tuple [a, b, d] ∧ RD a ∧ RD b ∧ RD d
  | [], _, _ => ⟨[], rfl, rfl, fun w h => absurd h List.not_mem_nil⟩
  | y :: ys, hl, hs => by
    obtain ⟨ws, e, h1, h2⟩ := lcGo_rw ys (fun z hz => hl z (List.mem_cons_of_mem _ hz)) hs
    obtain ⟨a, b, d, er, r1, r2, r3⟩ := read_wheel_total (hl y List.mem_cons_self)
    refine ⟨.tuple [a, b, d] :: ws, ?_, by rw [List.length_cons, List.length_cons, h1], fun w hw => ?_⟩
    · show ((step (.str y)).strict.bind fun o => (lcGo step (ys.map PyData.str)).bind fun r => .ok (o ++ r)) = _
      rw [hs y _ er, e]
      rfl
    · rcases List.mem_cons.mp hw with z | z
      · exact ⟨a, b, d, z, r1, r2, r3⟩
      · exact h2 w z
theorem parse_of {x : Str} (hl : x.length ≤ 50000) {ws : List D} (e : lcGo (lcStep [.d (.str x), .un, .un] [2] [2] hOne fYes (fCall 1 F_read_wheel (fCons (fVar 2) fNil))) ((Txt.split x (SX.S [32])).map PyData.str) = .ok ws) (hw : ws.length ≤ 60000) :
    F_parse_camera [.str x] = toRes ((ofRes ((fOr (fNot (fTest (fCall 1 F_is_camera (fCons (fVar 1) fNil)))) (fTest (fBin gNe (fCall 1 F_join_camera (fCons (fVar 1) fNil)) (fVar 0)))) [.d (.str x), .d (.tuple ws), .un]) fun b => if b = true then SR.err "ParseError" else SR.next [.d (.str x), .d (.tuple ws), .un]).seq (sRet (fVar 1))) := by
  have esp : gSplit x (.str " ") = .ok (.list ((Txt.split x (SX.S [32])).map PyData.str)) := by
    rw [s_space]
    show (if (((SX.S [32]).length == 0) = false ∧ x.length ≤ 1000000) then Res.ok (PyData.list ((Txt.split x (SX.S [32])).map PyData.str)) else .bad) = _
    rw [if_pos ⟨rfl, by omega⟩]
  have elc : fLc (fSeq (fTM gSplit (fVar 0) (fC (.str " ")))) [2] [2] hOne fYes (fCall 1 F_read_wheel (fCons (fVar 2) fNil)) [.d (.str x), .un, .un] = .ok (.list ws) := x_lc (ds := (Txt.split x (SX.S [32])).map PyData.str) (by rw [x_seq, x_tm (a := x) rfl, x_c, bind_ok, esp]; rfl) e (by omega)
  unfold F_parse_camera B_parse_camera
  rw [y_fn, show startD 3 [PyData.str x] = [.d (.str x), .un, .un] from rfl]
  simp_arith [elc]
theorem parse_total {x : Str} (hx : SO x) (hl : x.length ≤ 50000) : F_parse_camera [.str x] = .err "ParseError" ∨ ∃ c, GoodC c ∧ F_parse_camera [.str x] = .ok (cD c) ∧ SX.S (fmtL c) = x := by
  obtain ⟨s1, s2⟩ := split_len x
  obtain ⟨ws, e, h1, h2⟩ := lcGo_rw (step := lcStep [.d (.str x), .un, .un] [2] [2] hOne fYes (fCall 1 F_read_wheel (fCons (fVar 2) fNil))) (Txt.split x (SX.S [32])) (fun y hy => by have := s2 y hy; omega) (fun y d er => by
    rw [l_1]
    simp_arith [er])
  rw [parse_of hl e (by omega)]
  by_cases hw : ws.length = 3
  · obtain ⟨w1, w2, w3, rfl⟩ : ∃ w1 w2 w3, ws = [w1, w2, w3] := by
      match ws, hw with
      | [w1, w2, w3], _ => exact ⟨w1, w2, w3, rfl⟩
    obtain ⟨a1, b1, d1, rfl, p1, p2, p3⟩ := h2 w1 (by simp)
    obtain ⟨a2, b2, d2, rfl, q1, q2, q3⟩ := h2 w2 (by simp)
    obtain ⟨a3, b3, d3, rfl, r1, r2, r3⟩ := h2 w3 (by simp)
    obtain ⟨v1, f1, g1⟩ := is_wheel_rd p1 p2 p3
    obtain ⟨v2, f2, g2⟩ := is_wheel_rd q1 q2 q3
    obtain ⟨v3, f3, g3⟩ := is_wheel_rd r1 r2 r3
    have ec := is_camera_of f1 f2 f3
    cases hv : (v1 && (v2 && v3)) with
    | false =>
      rw [hv] at ec
      left
      simp_arith [ec]
    | true =>
      rw [hv] at ec
      obtain ⟨hv1, hv⟩ := and_split hv
      obtain ⟨hv2, hv3⟩ := and_split hv
      obtain ⟨l1, m1, t1, rfl, rfl, rfl, G1⟩ := g1 hv1
      obtain ⟨l2, m2, t2, rfl, rfl, rfl, G2⟩ := g2 hv2
      obtain ⟨l3, m3, t3, rfl, rfl, rfl, G3⟩ := g3 hv3
      obtain ⟨c, hc⟩ : ∃ c : Cam, c = ⟨l1, m1, t1, l2, m2, t2, l3, m3, t3⟩ := ⟨_, rfl⟩
      have g : GoodC c := by rw [hc]; exact ⟨G1, G2, G3⟩
      have hcd : PyData.tuple [.tuple [.int l1, .int m1, .int t1], .tuple [.int l2, .int m2, .int t2], .tuple [.int l3, .int m3, .int t3]] = cD c := by rw [hc]
      rw [hcd] at *
      have hfs : SO (SX.S (fmtL c)) := so_fmt g
      have ej := join_camera_eq g
      cases hb : SX.S (fmtL c) == x with
      | false =>
        left
        simp_arith [is_camera_good g, ej, ne_str hfs hx, hb]
      | true =>
        right
        refine ⟨c, g, ?_, eq_of_beq hb⟩
        simp_arith [is_camera_good g, ej, ne_str hfs hx, hb]
  · left
    simp_arith [is_camera_len hw]
theorem parse_fmt {c : Cam} (g : GoodC c) : F_parse_camera [.str (SX.S (fmtL c))] = .ok (cD c) := by
  have hln := fmt_len g
  have hsp : Txt.split (SX.S (fmtL c)) (SX.S [32]) = [SX.S (wL c.l1 c.m1 c.s1), SX.S (wL c.l2 c.m2 c.s2), SX.S (wL c.l3 c.m3 c.s3)] := by
    rw [SX.split_S (List.cons_ne_nil _ _) rfl]
    unfold fmtL
    rw [SX.spl_join (sep := []) (List.cons_ne_nil _ _) (fun p hp => ?_)]
    · rfl
    · have aux : ∀ {l m s : Int}, GoodW l m s → 32 ∉ wL l m s := fun {l m s} G z => by
        have hm0 : 0 ≤ m := by have := G.l0; have := G.m0; omega
        unfold wL at z
        simp only [List.mem_append, List.mem_cons, List.not_mem_nil, or_false] at z
        rcases z with z | z | z | z | z
        · exact dg_no G.l0 (by have := G.l1; omega) (by decide) z
        · omega
        · exact dg_no hm0 G.m1 (by decide) z
        · omega
        · exact dg_no (by have := G.s0; omega) (by have := G.s1; omega) (by decide) z
      simp only [List.mem_cons, List.not_mem_nil, or_false] at hp
      rcases hp with rfl | rfl | rfl
      · exact aux g.w1
      · exact aux g.w2
      · exact aux g.w3
  rw [parse_of (ws := [wD c.l1 c.m1 c.s1, wD c.l2 c.m2 c.s2, wD c.l3 c.m3 c.s3]) (by rw [SX.S_len]; omega) (by
    rw [hsp]
    unfold List.map List.map List.map List.map lcGo lcGo lcGo lcGo
    rw [l_1, l_1, l_1]
    simp_arith [read_wheel_good g.w1, read_wheel_good g.w2, read_wheel_good g.w3]) (by show 3 ≤ 60000; decide)]
  simp_arith [is_camera_good g, join_camera_eq g, ne_same (so_fmt g)]
end Lw
namespace Lw
open PySem L2 PD
/-! ### _law_again, _law_refused -/
theorem xa (r0 r1 r2 : Slot) : X_law_again "ParseError" [r0, r1, r2] = .ok .none := by
  unfold X_law_again XS_law_again
  refine Eq.trans (if_pos rfl) ?_
  walk_at "ev"
  rfl
theorem lxa : LX_law_again.contains "ParseError" = true := by decide +kernel
theorem again_0 {x : Str} (hx : SO x) (hl : x.length ≤ 50000) : F_law_again [.int 0, .str x] = .ok .none ∨ F_law_again [.int 0, .str x] = .ok (.str x) := by
  unfold F_law_again B_law_again
  rw [y_fn, show startD 3 [PyData.int 0, PyData.str x] = [.d (.int 0), .d (.str x), .un] from rfl]
  rcases parse_total hx hl with e | ⟨c, g, e, ef⟩
  · left
    rw [y_try (d := .none) (c := "ParseError") ?_ lxa (xa _ _ _)]
    · rfl
    · simp_arith [x_callSt, e]
  · right
    rw [y_try_ret (d := .str x)]
    · rfl
    · simp_arith [x_callSt, e, law_text_eq g, ef]
      rfl
theorem again_1 {x : Str} (hx : SO x) : F_law_again [.int 1, .str x] = .ok .none ∨ F_law_again [.int 1, .str x] = .ok (.str x) := by
  have er := read_stops_eq hx
  unfold F_law_again B_law_again
  rw [y_fn, show startD 3 [PyData.int 1, PyData.str x] = [.d (.int 1), .d (.str x), .un] from rfl]
  cases h : RS x with
  | none =>
    rw [h] at er
    left
    rw [y_try (d := .none) (c := "ParseError") ?_ lxa (xa _ _ _)]
    · rfl
    · simp_arith [show ((1 : Int) == 0) = false from rfl, x_callSt, er]
  | some n =>
    rw [h] at er
    obtain ⟨h1, h2, e⟩ := RS_some h
    right
    rw [y_try_ret (d := .str x)]
    · rfl
    · simp_arith [show ((1 : Int) == 0) = false from rfl, x_callSt, er, (js_i h1 h2).2, e]
      rfl
/-! ### _law_rejected -/
def isN (r : Res D) : Bool := match r with
  | .ok .none => true
  | _ => false
theorem isN_of {r : Res D} (h : isN r = true) : r = .ok .none := by
  unfold isN at h
  split at h
  · rfl
  · cases h
theorem again_none {x : Str} (hx : SO x) (h : RS x = none) : F_law_again [.int 1, .str x] = .ok .none := by
  have er := read_stops_eq hx
  unfold F_law_again B_law_again
  rw [y_fn, show startD 3 [PyData.int 1, PyData.str x] = [.d (.int 1), .d (.str x), .un] from rfl]
  rw [h] at er
  rw [y_try (d := .none) (c := "ParseError") ?_ lxa (xa _ _ _)]
  · rfl
  · simp_arith [show ((1 : Int) == 0) = false from rfl, x_callSt, er]
theorem RS_none {x : Str} (h : tabS.all (fun y => !(y == x)) = true) : RS x = none := by
  cases e : RS x with
  | none => rfl
  | some n =>
    obtain ⟨h1, h2, e'⟩ := RS_some e
    have := List.all_eq_true.mp h _ (List.mem_of_getElem? (js_get h1 h2))
    rw [e'] at this
    simp at this
def badA : List D := [.none, .int 7, .str "", .str "0-6/3 0-6/3", .str "0-6/3 0-6/3 0-6/3 0-6/3", .str "0-6/3 0-6/3 0-6/4", .str "0-6/3 0-6/3 6-0/3", .str "00-6/3 0-6/3 0-6/3", .str "0-6/3  0-6/3 0-6/3", .str "0-6/3 0-6/3 0-6/3 ", .str "0-61/3 0-6/3 0-6/3", .str "0-6 0-6/3 0-6/3", .str "0/6-3 0-6/3 0-6/3", .str "a-6/3 0-6/3 0-6/3", .str "41-50/1 0-6/3 0-6/3", .str "0-13/1 0-6/3 0-6/3", .tuple [.str "0-6/3 0-6/3 0-6/3"], .str "0-6/3,0-6/3,0-6/3", .str "0-6/0 0-6/3 0-6/3"]
def badS : List Str := ["", "-", "-0", "3/3", "0/3", "0 1/3", "1  1/3", "1 1/3 ", " 1", "01", "61", "60 1/3", "1 3/3", "+1", "1.5", "1/2", "2 -1/3"]
def badB : List D := [.none, .int 7, .str "", .str "-", .str "-0", .str "3/3", .str "0/3", .str "0 1/3", .str "1  1/3", .str "1 1/3 ", .str " 1", .str "01", .str "61", .str "60 1/3", .str "1 3/3", .str "+1", .str "1.5", .tuple [.str "1"], .str "1/2", .str "2 -1/3"]
theorem badA_all : badA.all (fun d => isN (F_law_again [.int 0, d])) = true := by decide +kernel
theorem badA_ok : ∀ d ∈ badA, F_law_again [.int 0, d] = .ok .none := fun d hd => isN_of (List.all_eq_true.mp badA_all d hd)
theorem badS_all : badS.all (fun x => SeqAt.shaped (.str x) && tabS.all (fun y => !(y == x))) = true := by decide +kernel
theorem badS_ok : ∀ x ∈ badS, F_law_again [.int 1, .str x] = .ok .none := fun x hx => by
  obtain ⟨a, b⟩ := and_split (List.all_eq_true.mp badS_all x hx)
  exact again_none a (RS_none b)
theorem badB_n : [(.none : D), .int 7, .tuple [.str "1"]].all (fun d => isN (F_law_again [.int 1, d])) = true := by decide +kernel
theorem badB_ok : ∀ d ∈ badB, F_law_again [.int 1, d] = .ok .none := by
  intro d hd
  have h1 : d ∈ [(.none : D), .int 7, .tuple [.str "1"]] ++ badS.map PyData.str := by
    simp only [badB, badS, List.map_cons, List.map_nil, List.cons_append, List.nil_append, List.mem_cons, List.not_mem_nil, or_false] at hd ⊢
    rcases hd with h | h | h | h | h | h | h | h | h | h | h | h | h | h | h | h | h | h | h | h <;> simp [h]
  rcases List.mem_append.mp h1 with h | h
  · exact isN_of (List.all_eq_true.mp badB_n d h)
  · obtain ⟨x, hx, rfl⟩ := List.mem_map.mp h
    exact badS_ok x hx
def lcBad (w : Int) : DEnv → Res D := fLc (fSeq (fVar 0)) [1] [1] hOne (fTest (fBin (gIs true) (fCall 2 F_law_again (fCons (fC (.int w)) (fCons (fVar 1) fNil))) (fC .none))) (fVar 1)
theorem lc_bad (w : Int) (ds : List D) (s : Slot) (h : ∀ d ∈ ds, F_law_again [.int w, d] = .ok .none) (hl : ds.length < 1000000) : lcBad w [.d (.list ds), s] = .ok (.list []) := by
  refine Eq.trans (lc_fm (fun d : D => d) ds (fun _ => false) (fun d => d) (by rw [List.map_id']; rfl) ?_ hl) ?_
  · intro d hd
    unfold lcStep
    show (fTest (fBin (gIs true) (fCall 2 F_law_again (fCons (fC (.int w)) (fCons (fVar 1) fNil))) (fC .none)) [.d (.list ds), .d d]).bind _ = _
    simp_arith [h d hd, show gIs true .none .none = Res.ok (.bool false) from rfl]
  · rw [List.filter_eq_nil_iff.mpr (by intro a _; exact Bool.false_ne_true)]
    rfl
theorem mkL8 (a b c d e f g h : D) : mkL [a, b, c, d, e, f, g, h] = .ok (.list [a, b, c, d, e, f, g, h]) := rfl
theorem mkL12 (a b c d e f g h i j k l : D) : mkL [a, b, c, d, e, f, g, h, i, j, k, l] = .ok (.list [a, b, c, d, e, f, g, h, i, j, k, l]) := rfl
theorem addL {xs ys : List D} (h : decide (xs.length + ys.length ≤ 1000) = true) : gAdd (.list xs) (.list ys) = .ok (.list (xs ++ ys)) := g_addL' (by have := of_decide_eq_true h; omega)
theorem rejected_ok : F_law_rejected [] = .ok (.bool true) := by
  have ea : ∀ s, lcBad 0 [.d (.list badA), s] = .ok (.list []) := fun s => lc_bad 0 badA s badA_ok (by decide)
  have eb : ∀ s, lcBad 1 [.d (.list badB), s] = .ok (.list []) := fun s => lc_bad 1 badB s badB_ok (by decide)
  unfold lcBad badA at ea
  unfold lcBad badB at eb
  unfold F_law_rejected B_law_rejected
  simp_arith [mkL8, mkL12, addL, Nat.reduceLeDiff, ea, eb, show gNe (.list []) (.list []) = Res.ok (.bool false) from rfl, show gEq (.list []) (.list []) = Res.ok (.bool true) from rfl]
theorem stops_eq {n : Int} (h1 : -180 ≤ n) (h2 : n ≤ 180) : F_stops [.int n] = .ok (.str (JS n)) := by
  unfold F_stops B_stops
  simp_arith [is_int_eq, isIntD_int, decide_eq_true (show (0 : Int) - 180 ≤ n by omega), decide_eq_true h2, Bool.and_self, (js_i h1 h2).1]
theorem refused_0 {d : D} (h : F_is_camera [d] = .ok (.bool false)) : F_law_refused [.int 0, d] = .ok (.bool true) := by
  have e := check_camera_bad h
  have ef : F_format_camera [d] = .err "InvalidCamera" := by
    unfold F_format_camera B_format_camera
    simp_arith [e]
  have hX : X_law_refused "InvalidCamera" [.d (.int 0), .d d, .un] = .ok (.bool true) := by
    unfold X_law_refused XS_law_refused
    refine Eq.trans (if_pos rfl) ?_
    simp_arith [show (("InvalidCamera" : Str) == "InvalidCamera") = true from by decide +kernel]
    rfl
  unfold F_law_refused B_law_refused
  rw [y_fn, y_seq, show startD 3 [PyData.int 0, d] = [.d (.int 0), .d d, .un] from rfl, y_try (d := .bool true) (c := "InvalidCamera") ?_ (by decide +kernel) hX]
  · rfl
  · simp_arith [show ixF [F_format_camera, F_stops] (.int 0) = .ok F_format_camera from rfl, ef]
theorem refused_1 {d : D} (h : isIntD d (-180) 180 = false) : F_law_refused [.int 1, d] = .ok (.bool true) := by
  have ef : F_stops [d] = .err "InvalidNumber" := by
    unfold F_stops B_stops
    simp_arith [is_int_eq, show (0 : Int) - 180 = -180 from rfl, h]
  have hX : X_law_refused "InvalidNumber" [.d (.int 1), .d d, .un] = .ok (.bool true) := by
    unfold X_law_refused XS_law_refused
    refine Eq.trans (if_pos rfl) ?_
    simp_arith [show ((1 : Int) == 0) = false from rfl, show (("InvalidNumber" : Str) == "InvalidNumber") = true from by decide +kernel]
    rfl
  unfold F_law_refused B_law_refused
  rw [y_fn, y_seq, show startD 3 [PyData.int 1, d] = [.d (.int 1), .d d, .un] from rfl, y_try (d := .bool true) (c := "InvalidNumber") ?_ (by decide +kernel) hX]
  · rfl
  · simp_arith [show ixF [F_format_camera, F_stops] (.int 1) = .ok F_stops from rfl, ef]
/-! ### the law -/
theorem k68_l0 (ns : List Int) (hl : ns.length ≤ 63) (s1 s2 s5 s6 s7 s8 s9 s10 : Slot) : ∀ (js : List Int) (s3 s4 : Slot), (∀ j ∈ js, 0 ≤ j ∧ j ≤ 10) → js ≠ [] → ∃ (t3 : Slot) (n : Int), -180 ≤ n ∧ n ≤ 180 ∧ forGo (asgOf [3] hOne) L_law_0 (iL js) [.d (.list (iL ns)), s1, s2, s3, s4, s5, s6, s7, s8, s9, s10] = .next [.d (.list (iL ns)), s1, s2, t3, .d (.int n), s5, s6, s7, s8, s9, s10]
  | [], s3, s4, _, h => absurd rfl h
  | j :: js, s3, s4, h, _ => by
    have hj := h j List.mem_cons_self
    obtain ⟨p, ep, p0, p1⟩ := drawn_ok ns hl (30 + j) 361 (by omega) (by omega) (by decide)
    obtain ⟨q, eq, q0, q1⟩ := drawn_ok ns hl (30 + j) 13 (by omega) (by omega) (by decide)
    obtain ⟨n, en, n0, n1⟩ : ∃ n : Int, gIx (.list [.int (p - 180), .int (q - 6)]) (.int (j % 2)) = .ok (.int n) ∧ -180 ≤ n ∧ n ≤ 180 := by
      have h2 : j % 2 = 0 ∨ j % 2 = 1 := by omega
      rcases h2 with z | z <;> rw [z]
      · exact ⟨p - 180, rfl, by omega, by omega⟩
      · exact ⟨q - 6, rfl, by omega, by omega⟩
    have er : F_read_stops [.str (JS n)] = .ok (.int n) := by
      rw [read_stops_eq (js_so n0 n1), RS_js n0 n1]
    have e : L_law_0 [.d (.list (iL ns)), s1, s2, .d (.int j), s4, s5, s6, s7, s8, s9, s10] = .next [.d (.list (iL ns)), s1, s2, .d (.int j), .d (.int n), s5, s6, s7, s8, s9, s10] := by
      unfold L_law_0
      simp_arith [ep, eq, g_mod (i := j) (j := 2) (by decide), en, stops_eq n0 n1, (js_i n0 n1).2, ne_same (js_so n0 n1), er]
    by_cases hz : js = []
    · subst hz
      refine ⟨.d (.int j), n, n0, n1, ?_⟩
      show forGo (asgOf [3] hOne) L_law_0 (.int j :: []) _ = _
      rw [f_cons rfl e]
      rfl
    · obtain ⟨t3, m, m0, m1, ih⟩ := k68_l0 ns hl s1 s2 s5 s6 s7 s8 s9 s10 js (.d (.int j)) (.d (.int n)) (fun i hi => h i (List.mem_cons_of_mem _ hi)) hz
      refine ⟨t3, m, m0, m1, ?_⟩
      show forGo (asgOf [3] hOne) L_law_0 (.int j :: iL js) _ = _
      rw [f_cons rfl e, ih]
theorem str_app (a b : Str) : (a ++ b).length = a.length + b.length ∧ (SO a → SO b → SO (a ++ b)) := by
  have ea : SX.S a.cps.toList = a := SX.S_tl a
  have eb : SX.S b.cps.toList = b := SX.S_tl b
  have e : a ++ b = SX.S (a.cps.toList ++ b.cps.toList) := by rw [← SX.S_cat, ea, eb]
  have la : a.cps.toList.length = a.length := Array.length_toList
  have lb : b.cps.toList.length = b.length := Array.length_toList
  refine ⟨?_, fun ha hb => ?_⟩
  · rw [e]
    have := SX.S_len (a.cps.toList ++ b.cps.toList)
    rw [List.length_append] at this
    omega
  · rw [e]
    refine so_of fun ch hc => ?_
    have hc : ch ∈ a.cps.toList ++ b.cps.toList := hc
    rcases List.mem_append.mp hc with z | z
    · exact so_mem ha ch z
    · exact so_mem hb ch z
theorem add_str {a b : Str} (h : a.length + b.length ≤ 1000) : gAdd (.str a) (.str b) = .ok (.str (a ++ b)) := by
  unfold gAdd
  dsimp only
  rw [if_pos (show lenOk (a.length + b.length) = true from decide_eq_true (by omega))]
theorem cut_str {a : Str} (h : a.length ≤ 1000) (lo hi : Option Int) : gSlS (.str a) lo hi = .ok (.str (cutS a lo hi)) ∧ (cutS a lo hi).length ≤ a.length ∧ (SO a → SO (cutS a lo hi)) := by
  refine ⟨?_, cutS_length a lo hi, fun ha => so_of fun ch hc => ?_⟩
  · unfold gSlS
    dsimp only
    rw [if_pos (show lenOk a.length = true from decide_eq_true (by omega))]
  · have hc : ch ∈ ((a.cps.toList.drop (HT.sIx a.length 0 lo)).take (HT.sIx a.length a.length hi - HT.sIx a.length 0 lo)) := hc
    exact so_mem ha ch (List.mem_of_mem_drop (List.mem_of_mem_take hc))
theorem sign_ok {p : Int} (h0 : 0 ≤ p) (h1 : p < 6) : ∃ y : Str, gIxS (.str "13-/ 0") (.int p) = .ok (.str y) ∧ y.length ≤ 10 ∧ SO y := by
  have hp : p = 0 ∨ p = 1 ∨ p = 2 ∨ p = 3 ∨ p = 4 ∨ p = 5 := by omega
  have e : (Str.ofString "13-/ 0") = SX.S [49, 51, 45, 47, 32, 48] := by decide +kernel
  rw [e]
  rcases hp with rfl | rfl | rfl | rfl | rfl | rfl
  · exact ⟨SX.S [49], rfl, by decide, by decide +kernel⟩
  · exact ⟨SX.S [51], rfl, by decide, by decide +kernel⟩
  · exact ⟨SX.S [45], rfl, by decide, by decide +kernel⟩
  · exact ⟨SX.S [47], rfl, by decide, by decide +kernel⟩
  · exact ⟨SX.S [32], rfl, by decide, by decide +kernel⟩
  · exact ⟨SX.S [48], rfl, by decide, by decide +kernel⟩
theorem notin_self {x : Str} (hx : SO x) {r : Res D} (h : r = .ok .none ∨ r = .ok (.str x)) : (r.bind fun a => gIn true a (.tuple [.none, .str x])) = .ok (.bool false) := by
  have hs : SeqAt.shaped (.tuple [.none, .str x]) = true := by
    have hx : (PyData.canLay0 (.str x) && decide (0 ≤ 64)) = true := hx
    show ((true && (PyData.canLay0 (.str x) && true)) && decide (1 ≤ 64)) = true
    rw [(and_split hx).1]
    rfl
  rcases h with rfl | rfl
  · show gIn true .none (.tuple [.none, .str x]) = _
    unfold gIn
    dsimp only
    rw [hs]
    rfl
  · show gIn true (.str x) (.tuple [.none, .str x]) = _
    unfold gIn
    dsimp only
    rw [hs, hx]
    show Res.ok (PyData.bool (!(PyData.eqv .none (.str x) || (PyData.eqv (.str x) (.str x) || false)))) = _
    rw [show PyData.eqv (.str x) (.str x) = true from by rw [PyData.eqv]; exact beq_self_eq_true x]
    rfl
theorem k68_l1 (ns : List Int) (hl : ns.length ≤ 63) {n : Int} (n0 : -180 ≤ n) (n1 : n ≤ 180) {tx : Str} (htx : SO tx) (htl : tx.length ≤ 100) (s1 : Slot) : ∀ (js : List Int) (s3 s5 s6 s7 s8 s9 s10 : Slot), (∀ j ∈ js, 0 ≤ j ∧ j ≤ 10) → ∃ t3 t5 t6 t7 t8 t9 t10, forGo (asgOf [3] hOne) L_law_1 (iL js) [.d (.list (iL ns)), s1, .d (.str tx), s3, .d (.int n), s5, s6, s7, s8, s9, s10] = .next [.d (.list (iL ns)), s1, .d (.str tx), t3, .d (.int n), t5, t6, t7, t8, t9, t10]
  | [], s3, s5, s6, s7, s8, s9, s10, _ => ⟨s3, s5, s6, s7, s8, s9, s10, rfl⟩
  | j :: js, s3, s5, s6, s7, s8, s9, s10, h => by
    have hj := h j List.mem_cons_self
    have hj2 : j % 2 = 0 ∨ j % 2 = 1 := by omega
    have hsh := js_short n0 n1
    obtain ⟨kn, ek, hks, hkl, hag⟩ : ∃ kn : Str, gIx (.list [.str tx, .str (JS n)]) (.int (j % 2)) = .ok (.str kn) ∧ SO kn ∧ kn.length ≤ 100 ∧ ∀ x : Str, SO x → x.length ≤ 1000 → F_law_again [.int (j % 2), .str x] = .ok .none ∨ F_law_again [.int (j % 2), .str x] = .ok (.str x) := by
      rcases hj2 with z | z <;> rw [z]
      · exact ⟨tx, rfl, htx, htl, fun x h1 h2 => again_0 h1 (by omega)⟩
      · exact ⟨JS n, rfl, js_so n0 n1, by omega, fun x h1 _ => again_1 h1⟩
    have elen : gLen [.str kn] = .ok (.int (kn.length : Nat)) := by
      show (if lenOk kn.length = true then Res.ok (PyData.int (kn.length : Nat)) else .bad) = _
      rw [if_pos (show lenOk kn.length = true from decide_eq_true (by omega))]
    obtain ⟨a, ea, a0, a1⟩ := drawn_ok ns hl (40 + 4 * j) ((kn.length : Nat) + 1) (by omega) (by omega) (by omega)
    obtain ⟨b, eb, b0, b1⟩ := drawn_ok ns hl (40 + 4 * j + 1) 6 (by omega) (by omega) (by decide)
    obtain ⟨d, ed, d0, d1⟩ := drawn_ok ns hl (40 + 4 * j + 2) 3 (by omega) (by omega) (by decide)
    obtain ⟨f, ef, f0, f1⟩ := drawn_ok ns hl (40 + 4 * j + 3) 2 (by omega) (by omega) (by decide)
    obtain ⟨sg, es, sl, so⟩ := sign_ok b0 b1
    obtain ⟨nw', enw, nl, nso⟩ : ∃ y : Str, (if (d == 0) = true then Res.ok (PyData.str "") else Res.ok (PyData.str sg)) = .ok (.str y) ∧ y.length ≤ 10 ∧ SO y := by
      cases (d == 0) with
      | true => exact ⟨"", rfl, by decide +kernel, by decide +kernel⟩
      | false => exact ⟨sg, rfl, sl, so⟩
    obtain ⟨c1, c2, c3⟩ := cut_str (a := kn) (by omega) none (some a)
    obtain ⟨k1, k2, k3⟩ := cut_str (a := kn) (by omega) (some (a + f)) none
    obtain ⟨l1, l2⟩ := str_app (cutS kn none (some a)) nw'
    obtain ⟨m1, m2⟩ := str_app (cutS kn none (some a) ++ nw') (cutS kn (some (a + f)) none)
    generalize hbt : cutS kn none (some a) ++ nw' ++ cutS kn (some (a + f)) none = bt at m1 m2
    have hbs : SO bt := m2 (l2 (c3 hks) nso) (k3 hks)
    have e : L_law_1 [.d (.list (iL ns)), s1, .d (.str tx), .d (.int j), .d (.int n), s5, s6, s7, s8, s9, s10] = .next [.d (.list (iL ns)), s1, .d (.str tx), .d (.int j), .d (.int n), .d (.int (40 + 4 * j)), .d (.str kn), .d (.int a), .d (.str sg), .d (.str nw'), .d (.str bt)] := by
      unfold L_law_1
      simp_arith [g_mulc (i := 4) (j := j) (by decide) (by decide), (js_i n0 n1).2, g_mod (i := j) (j := 2) (by decide), ek, y_par2, elen, ea, eb, es, ed, enw, c1, ef, k1, add_str (a := cutS kn none (some a)) (b := nw') (by omega), add_str (a := cutS kn none (some a) ++ nw') (b := cutS kn (some (a + f)) none) (by omega), hbt, notin_self hbs (hag bt hbs (by omega))]
    obtain ⟨t3, t5, t6, t7, t8, t9, t10, ih⟩ := k68_l1 ns hl n0 n1 htx htl s1 js (.d (.int j)) (.d (.int (40 + 4 * j))) (.d (.str kn)) (.d (.int a)) (.d (.str sg)) (.d (.str nw')) (.d (.str bt)) fun i hi => h i (List.mem_cons_of_mem _ hi)
    refine ⟨t3, t5, t6, t7, t8, t9, t10, ?_⟩
    show forGo (asgOf [3] hOne) L_law_1 (.int j :: iL js) _ = _
    rw [f_cons rfl e, ih]
theorem law_true : ∀ ns : List Int, ns.length ≤ 63 → F_law [.list (ns.map PyData.int)] = .ok (.bool true) := fun ns hl => by
  obtain ⟨c, gs, ec⟩ := camera_ok ns hl 10 (by decide) (by decide)
  have g := gs.g
  have hfl := fmt_len g
  have hsf := so_fmt g
  obtain ⟨odd, f1, o1⟩ := badcam_ok ns hl 1 (by decide) (by decide)
  obtain ⟨p, ep, p0, p1⟩ := drawn_ok ns hl 2 5 (by decide) (by decide) (by decide)
  obtain ⟨w, ew, hw⟩ : ∃ w, gIx (.list [.none, .int (-181), .int 181, .bool true, .str "5"]) (.int p) = .ok w ∧ isIntD w (-180) 180 = false := by
    have hp : p = 0 ∨ p = 1 ∨ p = 2 ∨ p = 3 ∨ p = 4 := by omega
    rcases hp with rfl | rfl | rfl | rfl | rfl <;> exact ⟨_, rfl, rfl⟩
  obtain ⟨t3, n, n0, n1, e1⟩ := k68_l0 ns hl (.d (cD c)) (.d (.str (SX.S (fmtL c)))) .un .un .un .un .un .un [0, 1, 2, 3, 4, 5] .un .un (by decide) (by decide)
  obtain ⟨u3, u5, u6, u7, u8, u9, u10, e2⟩ := k68_l1 ns hl n0 n1 hsf (by rw [SX.S_len]; omega) (.d (cD c)) [0, 1, 2, 3, 4, 5, 6, 7] t3 .un .un .un .un .un .un (by decide)
  have hcs : SeqAt.shaped (cD c) = true := rfl
  unfold F_law B_law
  rw [y_fn, show startD 11 [PyData.list (ns.map PyData.int)] = [.d (.list (iL ns)), .un, .un, .un, .un, .un, .un, .un, .un, .un, .un] from rfl]
  simp_arith [ec, law_text_eq g, format_eq g, ne_same hsf, parse_fmt g, ne_same hcs, rejected_ok]
  rw [y_for (ds := iL [0, 1, 2, 3, 4, 5]) rfl]
  refine Eq.trans (congrArg (fun r => toRes (SR.seq r _)) e1) ?_
  rw [y_next, y_seq, y_for (ds := iL [0, 1, 2, 3, 4, 5, 6, 7]) rfl]
  refine Eq.trans (congrArg (fun r => toRes (SR.seq r _)) e2) ?_
  simp_arith [f1, refused_0 o1, ep, ew, refused_1 hw]
end Lw
namespace Lw
open PySem L2 PD
def topS (i : Nat) : Stmt := PySem.Challenge.pw_lightsteps_k68_formats.main.body.getD i (.Pass ⟨0, 0, 0, 0⟩)
abbrev s_is_int : Stmt := topS 11
abbrev N_is_int : List Str := ["value", "least", "most"]
theorem sc_is_int : FnScope N_is_int ["value", "least", "most"] (defScope s_is_int) := ⟨rfl, rfl, rfl, by decide +kernel, rfl, by decide +kernel, by decide +kernel⟩
abbrev s_is_wheel : Stmt := topS 12
abbrev N_is_wheel : List Str := ["value", "least", "most", "step"]
theorem sc_is_wheel : FnScope N_is_wheel ["value"] (defScope s_is_wheel) := ⟨rfl, rfl, rfl, by decide +kernel, rfl, by decide +kernel, by decide +kernel⟩
abbrev s_is_camera : Stmt := topS 13
abbrev N_is_camera : List Str := ["candidate", "wheel"]
theorem sc_is_camera : FnScope N_is_camera ["candidate"] (defScope s_is_camera) := ⟨rfl, rfl, rfl, by decide +kernel, rfl, by decide +kernel, by decide +kernel⟩
abbrev s_check_camera : Stmt := topS 14
abbrev N_check_camera : List Str := ["value"]
theorem sc_check_camera : FnScope N_check_camera ["value"] (defScope s_check_camera) := ⟨rfl, rfl, rfl, by decide +kernel, rfl, by decide +kernel, by decide +kernel⟩
abbrev s_join_camera : Stmt := topS 23
abbrev N_join_camera : List Str := ["camera", "least", "most", "step"]
theorem sc_join_camera : FnScope N_join_camera ["camera"] (defScope s_join_camera) := ⟨rfl, rfl, rfl, by decide +kernel, rfl, by decide +kernel, by decide +kernel⟩
abbrev s_format_camera : Stmt := topS 24
abbrev N_format_camera : List Str := ["camera"]
theorem sc_format_camera : FnScope N_format_camera ["camera"] (defScope s_format_camera) := ⟨rfl, rfl, rfl, by decide +kernel, rfl, by decide +kernel, by decide +kernel⟩
abbrev s_read_int : Stmt := topS 25
abbrev N_read_int : List Str := ["text", "sign"]
theorem sc_read_int : FnScope N_read_int ["text"] (defScope s_read_int) := ⟨rfl, rfl, rfl, by decide +kernel, rfl, by decide +kernel, by decide +kernel⟩
abbrev s_read_wheel : Stmt := topS 26
abbrev N_read_wheel : List Str := ["text", "least", "dash", "rest", "most", "slash", "step"]
theorem sc_read_wheel : FnScope N_read_wheel ["text"] (defScope s_read_wheel) := ⟨rfl, rfl, rfl, by decide +kernel, rfl, by decide +kernel, by decide +kernel⟩
abbrev s_parse_camera : Stmt := topS 27
abbrev N_parse_camera : List Str := ["text", "camera", "part"]
theorem sc_parse_camera : FnScope N_parse_camera ["text"] (defScope s_parse_camera) := ⟨rfl, rfl, rfl, by decide +kernel, rfl, by decide +kernel, by decide +kernel⟩
abbrev s_join_stops : Stmt := topS 28
abbrev N_join_stops : List Str := ["number", "whole", "left", "parts"]
theorem sc_join_stops : FnScope N_join_stops ["number"] (defScope s_join_stops) := ⟨rfl, rfl, rfl, by decide +kernel, rfl, by decide +kernel, by decide +kernel⟩
abbrev s_stops : Stmt := topS 29
abbrev N_stops : List Str := ["number"]
theorem sc_stops : FnScope N_stops ["number"] (defScope s_stops) := ⟨rfl, rfl, rfl, by decide +kernel, rfl, by decide +kernel, by decide +kernel⟩
abbrev s_read_stops : Stmt := topS 30
abbrev N_read_stops : List Str := ["text", "number"]
theorem sc_read_stops : FnScope N_read_stops ["text"] (defScope s_read_stops) := ⟨rfl, rfl, rfl, by decide +kernel, rfl, by decide +kernel, by decide +kernel⟩
abbrev s_law_drawn : Stmt := topS 32
abbrev N_law_drawn : List Str := ["script", "k", "many", "cell", "turn", "rest"]
theorem sc_law_drawn : FnScope N_law_drawn ["script", "k", "many"] (defScope s_law_drawn) := ⟨rfl, rfl, rfl, by decide +kernel, rfl, by decide +kernel, by decide +kernel⟩
abbrev s_law_camera : Stmt := topS 33
abbrev N_law_camera : List Str := ["script", "at", "found", "k", "least", "step", "most"]
theorem sc_law_camera : FnScope N_law_camera ["script", "at"] (defScope s_law_camera) := ⟨rfl, rfl, rfl, by decide +kernel, rfl, by decide +kernel, by decide +kernel⟩
abbrev s_law_badcamera : Stmt := topS 34
abbrev N_law_badcamera : List Str := ["script", "at", "wheel", "bad"]
theorem sc_law_badcamera : FnScope N_law_badcamera ["script", "at"] (defScope s_law_badcamera) := ⟨rfl, rfl, rfl, by decide +kernel, rfl, by decide +kernel, by decide +kernel⟩
abbrev s_law_text : Stmt := topS 35
abbrev N_law_text : List Str := ["camera", "least", "most", "step"]
theorem sc_law_text : FnScope N_law_text ["camera"] (defScope s_law_text) := ⟨rfl, rfl, rfl, by decide +kernel, rfl, by decide +kernel, by decide +kernel⟩
abbrev s_law_stops : Stmt := topS 36
abbrev N_law_stops : List Str := ["number", "size", "text"]
theorem sc_law_stops : FnScope N_law_stops ["number"] (defScope s_law_stops) := ⟨rfl, rfl, rfl, by decide +kernel, rfl, by decide +kernel, by decide +kernel⟩
abbrev s_law_again : Stmt := topS 37
abbrev N_law_again : List Str := ["way", "text", "e"]
theorem sc_law_again : FnScope N_law_again ["way", "text"] (defScope s_law_again) := ⟨rfl, rfl, rfl, by decide +kernel, rfl, by decide +kernel, by decide +kernel⟩
abbrev s_law_rejected : Stmt := topS 38
abbrev N_law_rejected : List Str := ["bad", "one"]
theorem sc_law_rejected : FnScope N_law_rejected [] (defScope s_law_rejected) := ⟨rfl, rfl, rfl, by decide +kernel, rfl, by decide +kernel, by decide +kernel⟩
abbrev s_law_refused : Stmt := topS 39
abbrev N_law_refused : List Str := ["way", "one", "e"]
theorem sc_law_refused : FnScope N_law_refused ["way", "one"] (defScope s_law_refused) := ⟨rfl, rfl, rfl, by decide +kernel, rfl, by decide +kernel, by decide +kernel⟩
abbrev s_law : Stmt := topS 40
abbrev N_law : List Str := ["script", "camera", "text", "k", "number", "at", "known", "cut", "sign", "new", "bent"]
theorem sc_law : FnScope N_law ["script"] (defScope s_law) := ⟨rfl, rfl, rfl, by decide +kernel, rfl, by decide +kernel, by decide +kernel⟩
structure Ad where
  f_is_int : Addr
  fd_is_int : FuncData
  f_is_wheel : Addr
  fd_is_wheel : FuncData
  f_is_camera : Addr
  fd_is_camera : FuncData
  f_check_camera : Addr
  fd_check_camera : FuncData
  f_join_camera : Addr
  fd_join_camera : FuncData
  f_format_camera : Addr
  fd_format_camera : FuncData
  f_read_int : Addr
  fd_read_int : FuncData
  f_read_wheel : Addr
  fd_read_wheel : FuncData
  f_parse_camera : Addr
  fd_parse_camera : FuncData
  f_join_stops : Addr
  fd_join_stops : FuncData
  f_stops : Addr
  fd_stops : FuncData
  f_read_stops : Addr
  fd_read_stops : FuncData
  f_law_drawn : Addr
  fd_law_drawn : FuncData
  f_law_camera : Addr
  fd_law_camera : FuncData
  f_law_badcamera : Addr
  fd_law_badcamera : FuncData
  f_law_text : Addr
  fd_law_text : FuncData
  f_law_stops : Addr
  fd_law_stops : FuncData
  f_law_again : Addr
  fd_law_again : FuncData
  f_law_rejected : Addr
  fd_law_rejected : FuncData
  f_law_refused : Addr
  fd_law_refused : FuncData
  f_law : Addr
  fd_law : FuncData
  C_InvalidCamera : Addr
  C_InvalidNumber : Addr
  C_LightError : Addr
  C_ParseError : Addr
  a_NAMES : Addr
structure Txt (K : PySem.W.Frag) (mg : Str → Option Value) (a : Ad) : Prop where
  F_is_int : Fun K "is_int" "is_int" s_is_int a.f_is_int a.fd_is_int
  b_is_int : Binds K a.fd_is_int ["value", "least", "most"] []
  g_is_int : mg "is_int" = some (.ref a.f_is_int)
  F_is_wheel : Fun K "is_wheel" "is_wheel" s_is_wheel a.f_is_wheel a.fd_is_wheel
  b_is_wheel : Binds K a.fd_is_wheel ["value"] []
  g_is_wheel : mg "is_wheel" = some (.ref a.f_is_wheel)
  F_is_camera : Fun K "is_camera" "is_camera" s_is_camera a.f_is_camera a.fd_is_camera
  b_is_camera : Binds K a.fd_is_camera ["candidate"] []
  g_is_camera : mg "is_camera" = some (.ref a.f_is_camera)
  F_check_camera : Fun K "check_camera" "check_camera" s_check_camera a.f_check_camera a.fd_check_camera
  b_check_camera : Binds K a.fd_check_camera ["value"] []
  g_check_camera : mg "check_camera" = some (.ref a.f_check_camera)
  F_join_camera : Fun K "join_camera" "join_camera" s_join_camera a.f_join_camera a.fd_join_camera
  b_join_camera : Binds K a.fd_join_camera ["camera"] []
  g_join_camera : mg "join_camera" = some (.ref a.f_join_camera)
  F_format_camera : Fun K "format_camera" "format_camera" s_format_camera a.f_format_camera a.fd_format_camera
  b_format_camera : Binds K a.fd_format_camera ["camera"] []
  g_format_camera : mg "format_camera" = some (.ref a.f_format_camera)
  F_read_int : Fun K "read_int" "read_int" s_read_int a.f_read_int a.fd_read_int
  b_read_int : Binds K a.fd_read_int ["text"] []
  g_read_int : mg "read_int" = some (.ref a.f_read_int)
  F_read_wheel : Fun K "read_wheel" "read_wheel" s_read_wheel a.f_read_wheel a.fd_read_wheel
  b_read_wheel : Binds K a.fd_read_wheel ["text"] []
  g_read_wheel : mg "read_wheel" = some (.ref a.f_read_wheel)
  F_parse_camera : Fun K "parse_camera" "parse_camera" s_parse_camera a.f_parse_camera a.fd_parse_camera
  b_parse_camera : Binds K a.fd_parse_camera ["text"] []
  g_parse_camera : mg "parse_camera" = some (.ref a.f_parse_camera)
  F_join_stops : Fun K "join_stops" "join_stops" s_join_stops a.f_join_stops a.fd_join_stops
  b_join_stops : Binds K a.fd_join_stops ["number"] []
  g_join_stops : mg "join_stops" = some (.ref a.f_join_stops)
  F_stops : Fun K "stops" "stops" s_stops a.f_stops a.fd_stops
  b_stops : Binds K a.fd_stops ["number"] []
  g_stops : mg "stops" = some (.ref a.f_stops)
  F_read_stops : Fun K "read_stops" "read_stops" s_read_stops a.f_read_stops a.fd_read_stops
  b_read_stops : Binds K a.fd_read_stops ["text"] []
  g_read_stops : mg "read_stops" = some (.ref a.f_read_stops)
  F_law_drawn : Fun K "_law_drawn" "_law_drawn" s_law_drawn a.f_law_drawn a.fd_law_drawn
  b_law_drawn : Binds K a.fd_law_drawn ["script", "k", "many"] []
  g_law_drawn : mg "_law_drawn" = some (.ref a.f_law_drawn)
  F_law_camera : Fun K "_law_camera" "_law_camera" s_law_camera a.f_law_camera a.fd_law_camera
  b_law_camera : Binds K a.fd_law_camera ["script", "at"] []
  g_law_camera : mg "_law_camera" = some (.ref a.f_law_camera)
  F_law_badcamera : Fun K "_law_badcamera" "_law_badcamera" s_law_badcamera a.f_law_badcamera a.fd_law_badcamera
  b_law_badcamera : Binds K a.fd_law_badcamera ["script", "at"] []
  g_law_badcamera : mg "_law_badcamera" = some (.ref a.f_law_badcamera)
  F_law_text : Fun K "_law_text" "_law_text" s_law_text a.f_law_text a.fd_law_text
  b_law_text : Binds K a.fd_law_text ["camera"] []
  g_law_text : mg "_law_text" = some (.ref a.f_law_text)
  F_law_stops : Fun K "_law_stops" "_law_stops" s_law_stops a.f_law_stops a.fd_law_stops
  b_law_stops : Binds K a.fd_law_stops ["number"] []
  g_law_stops : mg "_law_stops" = some (.ref a.f_law_stops)
  F_law_again : Fun K "_law_again" "_law_again" s_law_again a.f_law_again a.fd_law_again
  b_law_again : Binds K a.fd_law_again ["way", "text"] []
  g_law_again : mg "_law_again" = some (.ref a.f_law_again)
  F_law_rejected : Fun K "_law_rejected" "_law_rejected" s_law_rejected a.f_law_rejected a.fd_law_rejected
  b_law_rejected : Binds K a.fd_law_rejected [] []
  g_law_rejected : mg "_law_rejected" = some (.ref a.f_law_rejected)
  F_law_refused : Fun K "_law_refused" "_law_refused" s_law_refused a.f_law_refused a.fd_law_refused
  b_law_refused : Binds K a.fd_law_refused ["way", "one"] []
  g_law_refused : mg "_law_refused" = some (.ref a.f_law_refused)
  F_law : Fun K "law" "law" s_law a.f_law a.fd_law
  b_law : Binds K a.fd_law ["script"] []
  g_law : mg "law" = some (.ref a.f_law)
  g_LightError : mg "LightError" = some (.ref a.C_LightError)
  x_InvalidCamera : PySem.W.excIn K a.C_InvalidCamera [.type "ValueError", .type "Exception", .type "BaseException", .type "object"] "ValueError.__new__" = true
  g_InvalidCamera : mg "InvalidCamera" = some (.ref a.C_InvalidCamera)
  k_InvalidCamera : PySem.W.keepIn K (.ref a.C_InvalidCamera) = true
  bx_InvalidCamera : PySem.W.subIn K (.ref a.C_InvalidCamera) (.type "BaseException") = some true
  t_InvalidCamera : PySem.W.typeIn K (.ref a.C_InvalidCamera) = some (.type "type")
  x_InvalidNumber : PySem.W.excIn K a.C_InvalidNumber [.type "ValueError", .type "Exception", .type "BaseException", .type "object"] "ValueError.__new__" = true
  g_InvalidNumber : mg "InvalidNumber" = some (.ref a.C_InvalidNumber)
  k_InvalidNumber : PySem.W.keepIn K (.ref a.C_InvalidNumber) = true
  bx_InvalidNumber : PySem.W.subIn K (.ref a.C_InvalidNumber) (.type "BaseException") = some true
  t_InvalidNumber : PySem.W.typeIn K (.ref a.C_InvalidNumber) = some (.type "type")
  x_ParseError : PySem.W.excIn K a.C_ParseError [.type "ValueError", .type "Exception", .type "BaseException", .type "object"] "ValueError.__new__" = true
  g_ParseError : mg "ParseError" = some (.ref a.C_ParseError)
  k_ParseError : PySem.W.keepIn K (.ref a.C_ParseError) = true
  bx_ParseError : PySem.W.subIn K (.ref a.C_ParseError) (.type "BaseException") = some true
  t_ParseError : PySem.W.typeIn K (.ref a.C_ParseError) = some (.type "type")
  kt_InvalidCamera_InvalidCamera : PySem.W.kitOne K (.ref a.C_InvalidCamera) (.ref a.C_InvalidCamera) = some true
  kt_InvalidCamera_InvalidNumber : PySem.W.kitOne K (.ref a.C_InvalidCamera) (.ref a.C_InvalidNumber) = some false
  kt_InvalidNumber_InvalidCamera : PySem.W.kitOne K (.ref a.C_InvalidNumber) (.ref a.C_InvalidCamera) = some false
  kt_InvalidNumber_InvalidNumber : PySem.W.kitOne K (.ref a.C_InvalidNumber) (.ref a.C_InvalidNumber) = some true
  kt_ParseError_ParseError : PySem.W.kitOne K (.ref a.C_ParseError) (.ref a.C_ParseError) = some true
  e_InvalidCamera : ExcC K a.C_InvalidCamera
  em_InvalidCamera_LightError : PySem.W.exmOne K (.ref a.C_InvalidCamera) (.ref a.C_LightError) = some true
  e_InvalidNumber : ExcC K a.C_InvalidNumber
  em_InvalidNumber_LightError : PySem.W.exmOne K (.ref a.C_InvalidNumber) (.ref a.C_LightError) = some true
  e_ParseError : ExcC K a.C_ParseError
  em_ParseError_LightError : PySem.W.exmOne K (.ref a.C_ParseError) (.ref a.C_LightError) = some true
  c_DASH : ∃ t, mg "DASH" = some (.str "-" t)
  c_DIGITS : ∃ t, mg "DIGITS" = some (.str "0123456789" t)
  c_MAX_DIGITS : ∃ t, mg "MAX_DIGITS" = some (.int (2) t)
  c_MAX_LEAST : ∃ t, mg "MAX_LEAST" = some (.int (40) t)
  c_MAX_MOST : ∃ t, mg "MAX_MOST" = some (.int (60) t)
  c_MAX_STEP : ∃ t, mg "MAX_STEP" = some (.int (3) t)
  c_MAX_THIRDS : ∃ t, mg "MAX_THIRDS" = some (.int (180) t)
  c_MAX_VALUES : ∃ t, mg "MAX_VALUES" = some (.int (13) t)
  c_NAMES : mg "NAMES" = some (.ref a.a_NAMES)
  d_NAMES : ∀ S, DV K S (.ref a.a_NAMES) (.tuple [(.str "aperture"), (.str "time"), (.str "sensitivity")])
  c_SLASH : ∃ t, mg "SLASH" = some (.str "/" t)
  c_SPACE : ∃ t, mg "SPACE" = some (.str " " t)
  c_THIRDS : ∃ t, mg "THIRDS" = some (.int (3) t)
  m_abs : mg "abs" = none
  m_all : mg "all" = none
  m_bool : mg "bool" = none
  m_int : mg "int" = none
  m_isinstance : mg "isinstance" = none
  m_len : mg "len" = none
  m_range : mg "range" = none
  m_str : mg "str" = none
  m_tuple : mg "tuple" = none
section
variable {P : Program} {w : World} {K : PySem.W.Frag} {mg : Str → Option Value} {base : Heap} {a : Ad}
theorem ok_is_int (T : Txt K mg a) : FnOk P w K mg base (L2.CX P w) 1 a.f_is_int a.fd_is_int ["value", "least", "most"] (spD K mg 3 F_is_int) :=
  fnD (N := N_is_int) (B := B_is_int) T.F_is_int sc_is_int rfl fun cdv A outer s H E hr => ⟨_, sds_one (sd_ret (pd_and (pd_isi (T := "int") (by decide) (pdv 0) rfl T.m_isinstance bt_isinstance rfl T.m_int bt_int) (pd_and (pd_not (pd_isi (T := "bool") (by decide) (pdv 0) rfl T.m_isinstance bt_isinstance rfl T.m_bool bt_bool)) (pd_one (pd_chain op_le op_le os_le os_le (pdv 1) (pdv 0) (pdv 2))))))⟩
theorem ok_join_camera (T : Txt K mg a) : FnOk P w K mg base (L2.CX P w) 1 a.f_join_camera a.fd_join_camera ["camera"] (spD K mg 1 F_join_camera) :=
  fnD (N := N_join_camera) (B := B_join_camera) T.F_join_camera sc_join_camera rfl fun cdv A outer s H E hr => ⟨_, sds_one (sd_ret (pd_join (pd_gstr T.c_SPACE) (pd_lc rfl sc_join_camera.nd (id_seq (pdv 0)) (blkOk_by (own := [("least", 1), ("most", 2), ("step", 3)]) (N := N_join_camera) (sc := defScope s_join_camera) (by decide +kernel)) (fun _ _ _ _ _ => gd_tup rfl (gds_cons (gn 1 sc_join_camera.nd) (gds_cons (gn 2 sc_join_camera.nd) (gds_cons (gn 3 sc_join_camera.nd) gds_nil)))) (fun _ _ _ _ _ => tds_nil) (fun _ _ _ _ _ => pd_op op_addA os_add (pd_op op_addA os_add (pd_op op_addA os_add (pd_op op_addA os_add (pd_callTy call_str_int cs_str rfl T.m_str bt_str (ad_cons (pdv 1) ad_nil)) (pd_gstr T.c_DASH)) (pd_callTy call_str_int cs_str rfl T.m_str bt_str (ad_cons (pdv 2) ad_nil))) (pd_gstr T.c_SLASH)) (pd_callTy call_str_int cs_str rfl T.m_str bt_str (ad_cons (pdv 3) ad_nil))))))⟩
theorem ok_read_int (T : Txt K mg a) : FnOk P w K mg base (L2.CX P w) 1 a.f_read_int a.fd_read_int ["text"] (spD K mg 1 F_read_int) :=
  fnD (N := N_read_int) (B := B_read_int) T.F_read_int sc_read_int rfl fun cdv A outer s H E hr => ⟨_, sds_cons (sd_if (WD.td (wd_or (td_not (td_chain op_le op_le os_le os_le pd_int (pd_callB c_len cs_len rfl T.m_len bt_len (ad_cons (pdv 0) ad_nil)) (pd_gint T.c_MAX_DIGITS))) (wd_or1 (td_not (td_val (pd_callB (c_all rfl) cs_all rfl T.m_all bt_all (ad_cons (pd_lc rfl sc_read_int.nd (id_str (pdv 0)) (blkOk_by (own := [("sign", 1)]) (N := N_read_int) (sc := defScope s_read_int) (by decide +kernel)) (fun _ _ _ _ _ => gd_name (gn 1 sc_read_int.nd)) (fun _ _ _ _ _ => tds_nil) (fun _ _ _ _ _ => pd_cmp op_in_sign os_inS (pdv 1) (pd_gstr T.c_DIGITS))) ad_nil))))))) (sds_one (sd_ret pd_non)) sds_nil) (sds_one (sd_ret (pd_callTy call_int_str cs_intS rfl T.m_int bt_int (ad_cons (pdv 0) ad_nil))))⟩
theorem ok_join_stops (T : Txt K mg a) : FnOk P w K mg base (L2.CX P w) 1 a.f_join_stops a.fd_join_stops ["number"] (spD K mg 1 F_join_stops) :=
  fnD (N := N_join_stops) (B := B_join_stops) T.F_join_stops sc_join_stops rfl fun cdv A outer s H E hr => ⟨_, sds_cons (sd_p2 (i := 1) (j := 2) sc_join_stops.nd (zd_d (pd_op op_fdivW os_div (pd_callB call_abs cs_abs rfl T.m_abs bt_abs (ad_cons (pdv 0) ad_nil)) (pd_gint T.c_THIRDS)) (zd_d (pd_op op_mod os_mod (pd_callB call_abs cs_abs rfl T.m_abs bt_abs (ad_cons (pdv 0) ad_nil)) (pd_gint T.c_THIRDS)) zd_nil))) (sds_cons (sd_set (pd_op op_addA os_add (pd_if (WD.td (wd_or (td_cmp op_gt os_gt (pdv 1) pd_int) (wd_or1 (td_cmp (op_eqK (hU hr)) os_eq (pdv 2) pd_int)))) (pd_lst (ad_cons (pd_callTy call_str_int cs_str rfl T.m_str bt_str (ad_cons (pdv 1) ad_nil)) ad_nil)) (pd_lst ad_nil)) (pd_if (td_cmp op_gt os_gt (pdv 2) pd_int) (pd_lst (ad_cons (pd_op op_addA os_add (pd_op op_addA os_add (pd_callTy call_str_int cs_str rfl T.m_str bt_str (ad_cons (pdv 2) ad_nil)) (pd_gstr T.c_SLASH)) (pd_callTy call_str_int cs_str rfl T.m_str bt_str (ad_cons (pd_gint T.c_THIRDS) ad_nil))) ad_nil)) (pd_lst ad_nil))) sc_join_stops.nd rfl) (sds_one (sd_ret (pd_op op_addA os_add (pd_if (td_cmp op_lt os_lt (pdv 0) pd_int) (pd_gstr T.c_DASH) pd_str) (pd_join (pd_gstr T.c_SPACE) (pdv 3))))))⟩
theorem ok_law_drawn (T : Txt K mg a) : FnOk P w K mg base (L2.CX P w) 1 a.f_law_drawn a.fd_law_drawn ["script", "k", "many"] (spD K mg 3 F_law_drawn) :=
  fnD (N := N_law_drawn) (B := B_law_drawn) T.F_law_drawn sc_law_drawn rfl fun cdv A outer s H E hr => ⟨_, sds_cons (sd_set (pd_op op_mul os_mulI pd_int (pdv 1)) sc_law_drawn.nd rfl) (sds_cons (sd_if (td_cmp (op_neK (hU hr)) os_ne (pdv 0) (pd_lst ad_nil)) (sds_cons (sd_set (pd_ix ix_A os_ix (pdv 0) (pd_op op_mod os_mod (pdv 1) (pd_callB c_len cs_len rfl T.m_len bt_len (ad_cons (pdv 0) ad_nil)))) sc_law_drawn.nd rfl) (sds_cons (sd_set (pd_op op_fdivW os_div (pdv 1) (pd_callB c_len cs_len rfl T.m_len bt_len (ad_cons (pdv 0) ad_nil))) sc_law_drawn.nd rfl) (sds_cons (sd_if (WD.td (wd_and (td_cmp op_ge os_ge (pdv 3) (pd_op op_pow os_pow pd_int pd_int)) (wd_and1 (td_cmp op_lt os_lt (pdv 4) pd_int)))) (sds_cons (sd_set (pd_op op_fdivW os_div (pdv 3) (pd_op op_pow os_pow pd_int pd_int)) sc_law_drawn.nd rfl) (sds_cons (sd_while 100000 poX (WD.td (wd_and (td_cmp op_gt os_gt (pdv 5) pd_int) (wd_and1 (td_cmp op_gt os_gt (pdv 4) pd_int)))) (sds_cons (sd_set (pd_op op_fdivW os_div (pdv 5) pd_int) sc_law_drawn.nd rfl) (sds_one (sd_set (pd_op op_sub os_sub (pdv 4) pd_int) sc_law_drawn.nd rfl)))) (sds_one (sd_if (td_cmp op_gt os_gt (pdv 5) pd_int) (sds_one (sd_ret (pd_op op_mod os_mod (pd_op op_mod os_mod (pdv 5) pd_int) (pdv 2)))) sds_nil)))) sds_nil) (sds_one (sd_set (pd_op op_addA os_add (pdv 3) (pd_op op_mul os_mulI pd_int (pd_op op_fdivW os_div (pdv 1) (pd_callB c_len cs_len rfl T.m_len bt_len (ad_cons (pdv 0) ad_nil))))) sc_law_drawn.nd rfl))))) sds_nil) (sds_cons (sd_set (pd_op op_mod os_mod (pd_op op_addA os_add (pd_op op_mul os_mulI (pd_op op_mod os_mod (pdv 3) pd_int) pd_int) (pd_op op_mul os_mulI pd_int (pd_op op_addA os_add (pdv 1) pd_int))) pd_int) sc_law_drawn.nd rfl) (sds_cons (sd_set (pd_op op_mod os_mod (pd_op op_addA os_add (pd_op op_mul os_mulI (pdv 3) (pdv 3)) (pd_op op_fdivW os_div (pdv 3) pd_int)) pd_int) sc_law_drawn.nd rfl) (sds_one (sd_ret (pd_op op_mod os_mod (pd_op op_fdivW os_div (pd_op op_mod os_mod (pd_op op_addA os_add (pd_op op_mul os_mulI (pdv 3) (pdv 3)) (pd_op op_fdivW os_div (pdv 3) pd_int)) pd_int) pd_int) (pdv 2)))))))⟩
theorem ok_law_text (T : Txt K mg a) : FnOk P w K mg base (L2.CX P w) 1 a.f_law_text a.fd_law_text ["camera"] (spD K mg 1 F_law_text) :=
  fnD (N := N_law_text) (B := B_law_text) T.F_law_text sc_law_text rfl fun cdv A outer s H E hr => ⟨_, sds_one (sd_ret (pd_join pd_str (pd_lc rfl sc_law_text.nd (id_seq (pdv 0)) (blkOk_by (own := [("least", 1), ("most", 2), ("step", 3)]) (N := N_law_text) (sc := defScope s_law_text) (by decide +kernel)) (fun _ _ _ _ _ => gd_tup rfl (gds_cons (gn 1 sc_law_text.nd) (gds_cons (gn 2 sc_law_text.nd) (gds_cons (gn 3 sc_law_text.nd) gds_nil)))) (fun _ _ _ _ _ => tds_nil) (fun _ _ _ _ _ => pd_op op_addA os_add (pd_op op_addA os_add (pd_op op_addA os_add (pd_op op_addA os_add (pd_callTy call_str_int cs_str rfl T.m_str bt_str (ad_cons (pdv 1) ad_nil)) pd_str) (pd_callTy call_str_int cs_str rfl T.m_str bt_str (ad_cons (pdv 2) ad_nil))) pd_str) (pd_callTy call_str_int cs_str rfl T.m_str bt_str (ad_cons (pdv 3) ad_nil))))))⟩
theorem ok_law_stops (T : Txt K mg a) : FnOk P w K mg base (L2.CX P w) 1 a.f_law_stops a.fd_law_stops ["number"] (spD K mg 1 F_law_stops) :=
  fnD (N := N_law_stops) (B := B_law_stops) T.F_law_stops sc_law_stops rfl fun cdv A outer s H E hr => ⟨_, sds_cons (sd_set (pd_if (td_cmp op_ge os_ge (pdv 0) pd_int) (pdv 0) (pd_op op_sub os_sub pd_int (pdv 0))) sc_law_stops.nd rfl) (sds_cons (sd_set (pd_ix ix_A os_ix (pd_lst (ad_cons pd_str (ad_cons pd_str (ad_cons pd_str ad_nil)))) (pd_op op_mod os_mod (pdv 1) pd_int)) sc_law_stops.nd rfl) (sds_cons (sd_if (td_cmp op_ge os_ge (pdv 1) pd_int) (sds_one (sd_set (pd_op op_addA os_add (pd_callTy call_str_int cs_str rfl T.m_str bt_str (ad_cons (pd_op op_fdivW os_div (pdv 1) pd_int) ad_nil)) (pd_if (td_cmp (op_neK (hU hr)) os_ne (pdv 2) pd_str) (pd_op op_addA os_add pd_str (pdv 2)) pd_str)) sc_law_stops.nd rfl)) sds_nil) (sds_one (sd_ret (pd_op op_addA os_add (pd_if (td_cmp op_lt os_lt (pdv 0) pd_int) pd_str pd_str) (pd_if (td_cmp (op_neK (hU hr)) os_ne (pdv 2) pd_str) (pdv 2) pd_str))))))⟩
theorem ok_is_wheel (T : Txt K mg a) : FnOk P w K mg base (L2.CX P w) 2 a.f_is_wheel a.fd_is_wheel ["value"] (spD K mg 1 F_is_wheel) :=
  fnD (N := N_is_wheel) (B := B_is_wheel) T.F_is_wheel sc_is_wheel rfl fun cdv A outer s H E hr => ⟨_, sds_cons (sd_if (WD.td (wd_or (td_not (td_val (pd_isi (T := "tuple") (by decide) (pdv 0) rfl T.m_isinstance bt_isinstance rfl T.m_tuple bt_tuple))) (wd_or (td_cmp (op_neK (hU hr)) os_ne (pd_callB c_len cs_len rfl T.m_len bt_len (ad_cons (pdv 0) ad_nil)) pd_int) (wd_or1 (td_not (td_val (pd_call (ok_is_int T) (hr.mono (by decide)) rfl T.g_is_int T.F_is_int.kp T.b_is_int pX (ad_cons (pd_ix ix_A os_ix (pdv 0) pd_int) (ad_cons pd_int (ad_cons (pd_gint T.c_MAX_LEAST) ad_nil)))))))))) (sds_one (sd_ret pd_bl)) sds_nil) (sds_cons (sd_asg (pdv 0) (gd_tup rfl (gds_cons (gn 1 sc_is_wheel.nd) (gds_cons (gn 2 sc_is_wheel.nd) (gds_cons (gn 3 sc_is_wheel.nd) gds_nil))))) (sds_cons (sd_if (WD.td (wd_or (td_not (td_val (pd_call (ok_is_int T) (hr.mono (by decide)) rfl T.g_is_int T.F_is_int.kp T.b_is_int pX (ad_cons (pdv 2) (ad_cons (pdv 1) (ad_cons (pd_gint T.c_MAX_MOST) ad_nil)))))) (wd_or1 (td_not (td_val (pd_call (ok_is_int T) (hr.mono (by decide)) rfl T.g_is_int T.F_is_int.kp T.b_is_int pX (ad_cons (pdv 3) (ad_cons pd_int (ad_cons (pd_gint T.c_MAX_STEP) ad_nil))))))))) (sds_one (sd_ret pd_bl)) sds_nil) (sds_one (sd_ret (pd_cmp op_le os_le (pd_op op_addA os_add (pd_op op_fdivW os_div (pd_op op_sub os_sub (pdv 2) (pdv 1)) (pdv 3)) pd_int) (pd_gint T.c_MAX_VALUES))))))⟩
theorem ok_read_wheel (T : Txt K mg a) : FnOk P w K mg base (L2.CX P w) 2 a.f_read_wheel a.fd_read_wheel ["text"] (spD K mg 1 F_read_wheel) :=
  fnD (N := N_read_wheel) (B := B_read_wheel) T.F_read_wheel sc_read_wheel rfl fun cdv A outer s H E hr => ⟨_, sds_cons (sd_asg (pd_partition (pdv 0) (pd_gstr T.c_DASH)) (gd_tup rfl (gds_cons (gn 1 sc_read_wheel.nd) (gds_cons (gn 2 sc_read_wheel.nd) (gds_cons (gn 3 sc_read_wheel.nd) gds_nil))))) (sds_cons (sd_asg (pd_partition (pdv 3) (pd_gstr T.c_SLASH)) (gd_tup rfl (gds_cons (gn 4 sc_read_wheel.nd) (gds_cons (gn 5 sc_read_wheel.nd) (gds_cons (gn 6 sc_read_wheel.nd) gds_nil))))) (sds_one (sd_ret (pd_tup (ad_cons (pd_call (ok_read_int T) (hr.mono (by decide)) rfl T.g_read_int T.F_read_int.kp T.b_read_int pX (ad_cons (pdv 1) ad_nil)) (ad_cons (pd_call (ok_read_int T) (hr.mono (by decide)) rfl T.g_read_int T.F_read_int.kp T.b_read_int pX (ad_cons (pdv 4) ad_nil)) (ad_cons (pd_call (ok_read_int T) (hr.mono (by decide)) rfl T.g_read_int T.F_read_int.kp T.b_read_int pX (ad_cons (pdv 6) ad_nil)) ad_nil)))))))⟩
theorem ok_stops (T : Txt K mg a) : FnOk P w K mg base (L2.CX P w) 2 a.f_stops a.fd_stops ["number"] (spD K mg 1 F_stops) :=
  fnD (N := N_stops) (B := B_stops) T.F_stops sc_stops rfl fun cdv A outer s H E hr => ⟨_, sds_cons (sd_if (td_not (td_val (pd_call (ok_is_int T) (hr.mono (by decide)) rfl T.g_is_int T.F_is_int.kp T.b_is_int pX (ad_cons (pdv 0) (ad_cons (pd_op op_sub os_sub pd_int (pd_gint T.c_MAX_THIRDS)) (ad_cons (pd_gint T.c_MAX_THIRDS) ad_nil)))))) (sds_one (sd_raise rfl tkX T.x_InvalidNumber T.g_InvalidNumber T.k_InvalidNumber T.bx_InvalidNumber T.t_InvalidNumber rfl)) sds_nil) (sds_one (sd_ret (pd_call (ok_join_stops T) (hr.mono (by decide)) rfl T.g_join_stops T.F_join_stops.kp T.b_join_stops pX (ad_cons (pdv 0) ad_nil))))⟩
theorem ok_read_stops (T : Txt K mg a) : FnOk P w K mg base (L2.CX P w) 2 a.f_read_stops a.fd_read_stops ["text"] (spD K mg 1 F_read_stops) :=
  fnD (N := N_read_stops) (B := B_read_stops) T.F_read_stops sc_read_stops rfl fun cdv A outer s H E hr => ⟨_, sds_cons (sd_if (td_val (pd_isi (T := "str") (by decide) (pdv 0) rfl T.m_isinstance bt_isinstance rfl T.m_str bt_str)) (sds_one (sd_forI poX rfl (id_range2 rfl T.m_range (ad_cons (pd_op op_sub os_sub pd_int (pd_gint T.c_MAX_THIRDS)) (ad_cons (pd_op op_addA os_add (pd_gint T.c_MAX_THIRDS) pd_int) ad_nil))) (gd_name (gn 1 sc_read_stops.nd)) (sds_one (sd_if (td_cmp (op_eqK (hU hr)) os_eq (pd_call (ok_join_stops T) (hr.mono (by decide)) rfl T.g_join_stops T.F_join_stops.kp T.b_join_stops pX (ad_cons (pdv 1) ad_nil)) (pdv 0)) (sds_one (sd_ret (pdv 1))) sds_nil)))) sds_nil) (sds_one (sd_raise rfl tkX T.x_ParseError T.g_ParseError T.k_ParseError T.bx_ParseError T.t_ParseError rfl))⟩
theorem ok_law_camera (T : Txt K mg a) : FnOk P w K mg base (L2.CX P w) 2 a.f_law_camera a.fd_law_camera ["script", "at"] (spD K mg 2 F_law_camera) :=
  fnD (N := N_law_camera) (B := B_law_camera) T.F_law_camera sc_law_camera rfl fun cdv A outer s H E hr => ⟨_, sds_cons (sd_ownL ad_nil sc_law_camera.nd rfl) (sds_cons (sd_forI poX rfl (id_range1 rfl T.m_range (ad_cons pd_int ad_nil)) (gd_name (gn 3 sc_law_camera.nd)) (sds_cons (sd_p2 (i := 4) (j := 5) sc_law_camera.nd (zd_d (pd_call (ok_law_drawn T) (hr.mono (by decide)) rfl T.g_law_drawn T.F_law_drawn.kp T.b_law_drawn pX (ad_cons (pdv 0) (ad_cons (pd_op op_addA os_add (pdv 1) (pd_op op_mul os_mulI pd_int (pdv 3))) (ad_cons pd_int ad_nil)))) (zd_d (pd_op op_addA os_add pd_int (pd_call (ok_law_drawn T) (hr.mono (by decide)) rfl T.g_law_drawn T.F_law_drawn.kp T.b_law_drawn pX (ad_cons (pdv 0) (ad_cons (pd_op op_addA os_add (pd_op op_addA os_add (pdv 1) pd_int) (pd_op op_mul os_mulI pd_int (pdv 3))) (ad_cons pd_int ad_nil))))) zd_nil))) (sds_cons (sd_set (pd_op op_addA os_add (pd_op op_addA os_add (pdv 4) (pd_op op_mul os_mulI (pdv 5) (pd_call (ok_law_drawn T) (hr.mono (by decide)) rfl T.g_law_drawn T.F_law_drawn.kp T.b_law_drawn pX (ad_cons (pdv 0) (ad_cons (pd_op op_addA os_add (pd_op op_addA os_add (pdv 1) pd_int) (pd_op op_mul os_mulI pd_int (pdv 3))) (ad_cons pd_int ad_nil)))))) (pd_call (ok_law_drawn T) (hr.mono (by decide)) rfl T.g_law_drawn T.F_law_drawn.kp T.b_law_drawn pX (ad_cons (pdv 0) (ad_cons (pd_op op_addA os_add (pd_op op_addA os_add (pdv 1) pd_int) (pdv 3)) (ad_cons (pdv 5) ad_nil))))) sc_law_camera.nd rfl) (sds_one (sd_app' false (pv 2) (pd_tup (ad_cons (pdv 4) (ad_cons (pdv 6) (ad_cons (pdv 5) ad_nil))))))))) (sds_one (sd_frz [2] (sd_ret (pd_callTy c_tup cs_tupOf rfl T.m_tuple bt_tuple (ad_cons (pdv 2) ad_nil))))))⟩
theorem ok_law_badcamera (T : Txt K mg a) : FnOk P w K mg base (L2.CX P w) 2 a.f_law_badcamera a.fd_law_badcamera ["script", "at"] (spD K mg 2 F_law_badcamera) :=
  fnD (N := N_law_badcamera) (B := B_law_badcamera) T.F_law_badcamera sc_law_badcamera rfl fun cdv A outer s H E hr => ⟨_, sds_cons (sd_set (pd_tup (ad_cons pd_int (ad_cons pd_int (ad_cons pd_int ad_nil)))) sc_law_badcamera.nd rfl) (sds_cons (sd_set (pd_lst (ad_cons pd_non (ad_cons (pd_tup ad_nil) (ad_cons (pd_tup (ad_cons (pdv 2) (ad_cons (pdv 2) ad_nil))) (ad_cons (pd_op op_repA os_rep (pd_tup (ad_cons (pdv 2) ad_nil)) pd_int) (ad_cons (pd_tup (ad_cons (pd_tup (ad_cons pd_int (ad_cons pd_int (ad_cons pd_int ad_nil)))) (ad_cons (pdv 2) (ad_cons (pdv 2) ad_nil)))) ad_nil)))))) sc_law_badcamera.nd rfl) (sds_cons (sd_set (pd_op op_addA os_add (pdv 3) (pd_lst (ad_cons (pd_tup (ad_cons (pd_tup (ad_cons pd_int (ad_cons pd_int (ad_cons pd_int ad_nil)))) (ad_cons (pdv 2) (ad_cons (pdv 2) ad_nil)))) ad_nil))) sc_law_badcamera.nd rfl) (sds_cons (sd_set (pd_op op_addA os_add (pdv 3) (pd_lst (ad_cons (pd_tup (ad_cons (pd_tup (ad_cons pd_int (ad_cons pd_int (ad_cons pd_int ad_nil)))) (ad_cons (pdv 2) (ad_cons (pdv 2) ad_nil)))) (ad_cons (pd_tup (ad_cons (pdv 2) (ad_cons (pd_tup (ad_cons pd_int (ad_cons pd_int (ad_cons pd_int ad_nil)))) (ad_cons (pdv 2) ad_nil)))) (ad_cons (pd_tup (ad_cons (pdv 2) (ad_cons (pd_tup (ad_cons pd_int (ad_cons pd_int (ad_cons pd_int ad_nil)))) (ad_cons (pdv 2) ad_nil)))) ad_nil))))) sc_law_badcamera.nd rfl) (sds_cons (sd_set (pd_op op_addA os_add (pdv 3) (pd_lst (ad_cons (pd_tup (ad_cons (pd_tup (ad_cons pd_int (ad_cons pd_int (ad_cons pd_int ad_nil)))) (ad_cons (pdv 2) (ad_cons (pdv 2) ad_nil)))) ad_nil))) sc_law_badcamera.nd rfl) (sds_one (sd_ret (pd_ix ix_A os_ix (pd_op op_addA os_add (pdv 3) (pd_lst (ad_cons (pd_op op_repA os_rep (pd_lst (ad_cons (pdv 2) ad_nil)) pd_int) (ad_cons (pd_tup (ad_cons (pdv 2) (ad_cons (pdv 2) (ad_cons (pd_lst (ad_cons pd_int (ad_cons pd_int (ad_cons pd_int ad_nil)))) ad_nil)))) (ad_cons (pd_tup (ad_cons (pdv 2) (ad_cons (pdv 2) (ad_cons (pd_tup (ad_cons pd_int (ad_cons pd_bl (ad_cons pd_int ad_nil)))) ad_nil)))) ad_nil))))) (pd_call (ok_law_drawn T) (hr.mono (by decide)) rfl T.g_law_drawn T.F_law_drawn.kp T.b_law_drawn pX (ad_cons (pdv 0) (ad_cons (pdv 1) (ad_cons pd_int ad_nil)))))))))))⟩
theorem ok_is_camera (T : Txt K mg a) : FnOk P w K mg base (L2.CX P w) 3 a.f_is_camera a.fd_is_camera ["candidate"] (spD K mg 1 F_is_camera) :=
  fnD (N := N_is_camera) (B := B_is_camera) T.F_is_camera sc_is_camera rfl fun cdv A outer s H E hr => ⟨_, sds_cons (sd_if (WD.td (wd_or (td_not (td_val (pd_isi (T := "tuple") (by decide) (pdv 0) rfl T.m_isinstance bt_isinstance rfl T.m_tuple bt_tuple))) (wd_or1 (td_cmp (op_neK (hU hr)) os_ne (pd_callB c_len cs_len rfl T.m_len bt_len (ad_cons (pdv 0) ad_nil)) (pd_callB c_len cs_len rfl T.m_len bt_len (ad_cons (pd_gref T.c_NAMES T.d_NAMES) ad_nil)))))) (sds_one (sd_ret pd_bl)) sds_nil) (sds_one (sd_ret (pd_callB (c_all rfl) cs_all rfl T.m_all bt_all (ad_cons (pd_lc rfl sc_is_camera.nd (id_seq (pdv 0)) (blkOk_by (own := [("wheel", 1)]) (N := N_is_camera) (sc := defScope s_is_camera) (by decide +kernel)) (fun _ _ _ _ _ => gd_name (gn 1 sc_is_camera.nd)) (fun _ _ _ _ _ => tds_nil) (fun _ _ _ _ _ => pd_call (ok_is_wheel T) (hr.mono (by decide)) rfl T.g_is_wheel T.F_is_wheel.kp T.b_is_wheel passL (ad_cons (pdv 1) ad_nil))) ad_nil))))⟩
theorem ok_check_camera (T : Txt K mg a) : FnOk P w K mg base (L2.CX P w) 4 a.f_check_camera a.fd_check_camera ["value"] (spD K mg 1 F_check_camera) :=
  fnD (N := N_check_camera) (B := B_check_camera) T.F_check_camera sc_check_camera rfl fun cdv A outer s H E hr => ⟨_, sds_one (sd_if (td_not (td_val (pd_call (ok_is_camera T) (hr.mono (by decide)) rfl T.g_is_camera T.F_is_camera.kp T.b_is_camera pX (ad_cons (pdv 0) ad_nil)))) (sds_one (sd_raise rfl tkX T.x_InvalidCamera T.g_InvalidCamera T.k_InvalidCamera T.bx_InvalidCamera T.t_InvalidCamera rfl)) sds_nil)⟩
theorem ok_parse_camera (T : Txt K mg a) : FnOk P w K mg base (L2.CX P w) 4 a.f_parse_camera a.fd_parse_camera ["text"] (spD K mg 1 F_parse_camera) :=
  fnD (N := N_parse_camera) (B := B_parse_camera) T.F_parse_camera sc_parse_camera rfl fun cdv A outer s H E hr => ⟨_, sds_cons (sd_if (td_not (td_val (pd_isi (T := "str") (by decide) (pdv 0) rfl T.m_isinstance bt_isinstance rfl T.m_str bt_str))) (sds_one (sd_raise rfl tkX T.x_ParseError T.g_ParseError T.k_ParseError T.bx_ParseError T.t_ParseError rfl)) sds_nil) (sds_cons (sd_set (pd_callTy c_tup cs_tupOf rfl T.m_tuple bt_tuple (ad_cons (pd_lc rfl sc_parse_camera.nd (id_seq (pd_split (pdv 0) (pd_gstr T.c_SPACE))) (blkOk_by (own := [("part", 2)]) (N := N_parse_camera) (sc := defScope s_parse_camera) (by decide +kernel)) (fun _ _ _ _ _ => gd_name (gn 2 sc_parse_camera.nd)) (fun _ _ _ _ _ => tds_nil) (fun _ _ _ _ _ => pd_call (ok_read_wheel T) (hr.mono (by decide)) rfl T.g_read_wheel T.F_read_wheel.kp T.b_read_wheel passL (ad_cons (pdv 2) ad_nil))) ad_nil)) sc_parse_camera.nd rfl) (sds_cons (sd_if (WD.td (wd_or (td_not (td_val (pd_call (ok_is_camera T) (hr.mono (by decide)) rfl T.g_is_camera T.F_is_camera.kp T.b_is_camera pX (ad_cons (pdv 1) ad_nil)))) (wd_or1 (td_cmp (op_neK (hU hr)) os_ne (pd_call (ok_join_camera T) (hr.mono (by decide)) rfl T.g_join_camera T.F_join_camera.kp T.b_join_camera pX (ad_cons (pdv 1) ad_nil)) (pdv 0))))) (sds_one (sd_raise rfl tkX T.x_ParseError T.g_ParseError T.k_ParseError T.bx_ParseError T.t_ParseError rfl)) sds_nil) (sds_one (sd_ret (pdv 1)))))⟩
theorem ok_format_camera (T : Txt K mg a) : FnOk P w K mg base (L2.CX P w) 5 a.f_format_camera a.fd_format_camera ["camera"] (spD K mg 1 F_format_camera) :=
  fnD (N := N_format_camera) (B := B_format_camera) T.F_format_camera sc_format_camera rfl fun cdv A outer s H E hr => ⟨_, sds_cons (sd_expr (pd_call (ok_check_camera T) (hr.mono (by decide)) rfl T.g_check_camera T.F_check_camera.kp T.b_check_camera pX (ad_cons (pdv 0) ad_nil))) (sds_one (sd_ret (pd_call (ok_join_camera T) (hr.mono (by decide)) rfl T.g_join_camera T.F_join_camera.kp T.b_join_camera pX (ad_cons (pdv 0) ad_nil))))⟩
theorem ca_law_again (T : Txt K mg a) : Caught K mg LX_law_again (.ref a.C_LightError) := ⟨fun c u hL hm => by
  rcases lx1 hL with rfl
  · cases hm.symm.trans T.g_ParseError
    exact ⟨_, rfl, T.e_ParseError, T.em_ParseError_LightError⟩⟩
theorem kx_law_again_ParseError (T : Txt K mg a) {c : Str} {C : Addr} (hL : LX_law_again.contains c = true) (hm : mg c = some (.ref C)) : PySem.W.kitOne K (.ref C) (.ref a.C_ParseError) = some (c == "ParseError") := by
  rcases lx1 hL with rfl
  · cases hm.symm.trans T.g_ParseError
    rw [show (("ParseError" : Str) == "ParseError") = true from by decide +kernel]
    exact T.kt_ParseError_ParseError
theorem ok_law_again (T : Txt K mg a) : FnOk P w K mg base (L2.CX P w) 5 a.f_law_again a.fd_law_again ["way", "text"] (spD K mg 2 F_law_again) :=
  fnD (N := N_law_again) (B := B_law_again) T.F_law_again sc_law_again rfl fun cdv A outer s H E hr => ⟨_, sds_one (sd_try (i := 2) sc_law_again.nd rfl (nm_of rfl T.g_LightError) tkX (ca_law_again T) xs_law_again (fun W pn xe tk => bds_one (bd_ret (pds_if (td_cmp (op_eqK (hU hr)) os_eq (pdv 0) pd_int) (pds_call (ok_law_text T) (hr.mono (by decide)) rfl T.g_law_text T.F_law_text.kp T.b_law_text tk (ads_one (pds_call (ok_parse_camera T) (hr.mono (by decide)) rfl T.g_parse_camera T.F_parse_camera.kp T.b_parse_camera tk (ads_of (ad_cons (pdv 1) ad_nil))))) (pds_call (ok_law_stops T) (hr.mono (by decide)) rfl T.g_law_stops T.F_law_stops.kp T.b_law_stops tk (ads_one (pds_call (ok_read_stops T) (hr.mono (by decide)) rfl T.g_read_stops T.F_read_stops.kp T.b_read_stops tk (ads_of (ad_cons (pdv 1) ad_nil)))))))) (fun a oe C pn c hz hf he hm hL => sds_one (sd_ret (pd_if (td_val (pd_isE he hz hf (kx_law_again_ParseError T hL hm) (pv 2) rfl T.m_isinstance rfl T.g_ParseError)) pd_non pd_str))))⟩
theorem ok_law_rejected (T : Txt K mg a) : FnOk P w K mg base (L2.CX P w) 6 a.f_law_rejected a.fd_law_rejected [] (spD K mg 0 F_law_rejected) :=
  fnD (N := N_law_rejected) (B := B_law_rejected) T.F_law_rejected sc_law_rejected rfl fun cdv A outer s H E hr => ⟨_, sds_cons (sd_set (pd_lst (ad_cons pd_non (ad_cons pd_int (ad_cons pd_str (ad_cons pd_str (ad_cons pd_str (ad_cons pd_str ad_nil))))))) sc_law_rejected.nd rfl) (sds_cons (sd_set (pd_op op_addA os_add (pdv 0) (pd_lst (ad_cons pd_str (ad_cons pd_str ad_nil)))) sc_law_rejected.nd rfl) (sds_cons (sd_set (pd_op op_addA os_add (pdv 0) (pd_lst (ad_cons pd_str (ad_cons pd_str (ad_cons pd_str ad_nil))))) sc_law_rejected.nd rfl) (sds_cons (sd_set (pd_op op_addA os_add (pdv 0) (pd_lst (ad_cons pd_str (ad_cons pd_str (ad_cons pd_str ad_nil))))) sc_law_rejected.nd rfl) (sds_cons (sd_set (pd_op op_addA os_add (pdv 0) (pd_lst (ad_cons pd_str (ad_cons pd_str (ad_cons (pd_tup (ad_cons pd_str ad_nil)) ad_nil))))) sc_law_rejected.nd rfl) (sds_cons (sd_set (pd_op op_addA os_add (pdv 0) (pd_lst (ad_cons pd_str (ad_cons pd_str ad_nil)))) sc_law_rejected.nd rfl) (sds_cons (sd_if (td_cmp (op_neK (hU hr)) os_ne (pd_lc rfl sc_law_rejected.nd (id_seq (pdv 0)) (blkOk_by (own := [("one", 1)]) (N := N_law_rejected) (sc := defScope s_law_rejected) (by decide +kernel)) (fun _ _ _ _ _ => gd_name (gn 1 sc_law_rejected.nd)) (fun _ _ _ _ _ => tds_one (td_cmp op_isNotA os_isnot (pd_call (ok_law_again T) (hr.mono (by decide)) rfl T.g_law_again T.F_law_again.kp T.b_law_again passL (ad_cons pd_int (ad_cons (pdv 1) ad_nil))) pd_non)) (fun _ _ _ _ _ => pdv 1)) (pd_lst ad_nil)) (sds_one (sd_ret pd_bl)) sds_nil) (sds_cons (sd_set (pd_lst (ad_cons pd_non (ad_cons pd_int (ad_cons pd_str (ad_cons pd_str (ad_cons pd_str (ad_cons pd_str (ad_cons pd_str (ad_cons pd_str (ad_cons pd_str (ad_cons pd_str (ad_cons pd_str (ad_cons pd_str ad_nil))))))))))))) sc_law_rejected.nd rfl) (sds_cons (sd_set (pd_op op_addA os_add (pdv 0) (pd_lst (ad_cons pd_str (ad_cons pd_str (ad_cons pd_str (ad_cons pd_str (ad_cons pd_str (ad_cons (pd_tup (ad_cons pd_str ad_nil)) (ad_cons pd_str (ad_cons pd_str ad_nil)))))))))) sc_law_rejected.nd rfl) (sds_one (sd_ret (pd_cmp (op_eqK (hU hr)) os_eq (pd_lc rfl sc_law_rejected.nd (id_seq (pdv 0)) (blkOk_by (own := [("one", 1)]) (N := N_law_rejected) (sc := defScope s_law_rejected) (by decide +kernel)) (fun _ _ _ _ _ => gd_name (gn 1 sc_law_rejected.nd)) (fun _ _ _ _ _ => tds_one (td_cmp op_isNotA os_isnot (pd_call (ok_law_again T) (hr.mono (by decide)) rfl T.g_law_again T.F_law_again.kp T.b_law_again passL (ad_cons pd_int (ad_cons (pdv 1) ad_nil))) pd_non)) (fun _ _ _ _ _ => pdv 1)) (pd_lst ad_nil))))))))))))⟩
theorem ca_law_refused (T : Txt K mg a) : Caught K mg LX_law_refused (.ref a.C_LightError) := ⟨fun c u hL hm => by
  rcases lx2 hL with rfl | rfl
  · cases hm.symm.trans T.g_InvalidCamera
    exact ⟨_, rfl, T.e_InvalidCamera, T.em_InvalidCamera_LightError⟩
  · cases hm.symm.trans T.g_InvalidNumber
    exact ⟨_, rfl, T.e_InvalidNumber, T.em_InvalidNumber_LightError⟩⟩
theorem kx_law_refused_InvalidCamera (T : Txt K mg a) {c : Str} {C : Addr} (hL : LX_law_refused.contains c = true) (hm : mg c = some (.ref C)) : PySem.W.kitOne K (.ref C) (.ref a.C_InvalidCamera) = some (c == "InvalidCamera") := by
  rcases lx2 hL with rfl | rfl
  · cases hm.symm.trans T.g_InvalidCamera
    rw [show (("InvalidCamera" : Str) == "InvalidCamera") = true from by decide +kernel]
    exact T.kt_InvalidCamera_InvalidCamera
  · cases hm.symm.trans T.g_InvalidNumber
    rw [show (("InvalidNumber" : Str) == "InvalidCamera") = false from by decide +kernel]
    exact T.kt_InvalidNumber_InvalidCamera
theorem kx_law_refused_InvalidNumber (T : Txt K mg a) {c : Str} {C : Addr} (hL : LX_law_refused.contains c = true) (hm : mg c = some (.ref C)) : PySem.W.kitOne K (.ref C) (.ref a.C_InvalidNumber) = some (c == "InvalidNumber") := by
  rcases lx2 hL with rfl | rfl
  · cases hm.symm.trans T.g_InvalidCamera
    rw [show (("InvalidCamera" : Str) == "InvalidNumber") = false from by decide +kernel]
    exact T.kt_InvalidCamera_InvalidNumber
  · cases hm.symm.trans T.g_InvalidNumber
    rw [show (("InvalidNumber" : Str) == "InvalidNumber") = true from by decide +kernel]
    exact T.kt_InvalidNumber_InvalidNumber
theorem ok_law_refused (T : Txt K mg a) : FnOk P w K mg base (L2.CX P w) 6 a.f_law_refused a.fd_law_refused ["way", "one"] (spD K mg 2 F_law_refused) :=
  fnD (N := N_law_refused) (B := B_law_refused) T.F_law_refused sc_law_refused rfl fun cdv A outer s H E hr => ⟨_, sds_cons (sd_try (i := 2) sc_law_refused.nd rfl (nm_of rfl T.g_LightError) tkX (ca_law_refused T) xs_law_refused (fun W pn xe tk => bds_one (bd_expr (pds_via (fa_cons T.g_format_camera (fa_cons T.g_stops fa_nil)) (FnsAre.cons (fn_is (ok_format_camera T) (hr.mono (by decide)) T.F_format_camera.kp T.b_format_camera) (FnsAre.cons (fn_is (ok_stops T) (hr.mono (by decide)) T.F_stops.kp T.b_stops) FnsAre.nil)) (pdv 0) tk (ads_of (ad_cons (pdv 1) ad_nil))))) (fun a oe C pn c hz hf he hm hL => sds_one (sd_ret (pd_if (td_cmp (op_eqK (hUs hr)) os_eq (pdv 0) pd_int) (pd_isE he hz hf (kx_law_refused_InvalidCamera T hL hm) (pv 2) rfl T.m_isinstance rfl T.g_InvalidCamera) (pd_isE he hz hf (kx_law_refused_InvalidNumber T hL hm) (pv 2) rfl T.m_isinstance rfl T.g_InvalidNumber))))) (sds_one (sd_ret pd_bl))⟩
theorem ok_law (T : Txt K mg a) : FnOk P w K mg base (L2.CX P w) 7 a.f_law a.fd_law ["script"] (spD K mg 1 F_law) :=
  fnD (N := N_law) (B := B_law) T.F_law sc_law rfl fun cdv A outer s H E hr => ⟨_, sds_cons (sd_set (pd_call (ok_law_camera T) (hr.mono (by decide)) rfl T.g_law_camera T.F_law_camera.kp T.b_law_camera pX (ad_cons (pdv 0) (ad_cons pd_int ad_nil))) sc_law.nd rfl) (sds_cons (sd_set (pd_call (ok_law_text T) (hr.mono (by decide)) rfl T.g_law_text T.F_law_text.kp T.b_law_text pX (ad_cons (pdv 1) ad_nil)) sc_law.nd rfl) (sds_cons (sd_if (WD.td (wd_or (td_cmp (op_neK (hU hr)) os_ne (pd_call (ok_format_camera T) (hr.mono (by decide)) rfl T.g_format_camera T.F_format_camera.kp T.b_format_camera pX (ad_cons (pdv 1) ad_nil)) (pdv 2)) (wd_or (td_cmp (op_neK (hU hr)) os_ne (pd_call (ok_parse_camera T) (hr.mono (by decide)) rfl T.g_parse_camera T.F_parse_camera.kp T.b_parse_camera pX (ad_cons (pdv 2) ad_nil)) (pdv 1)) (wd_or1 (td_not (td_val (pd_call0 (ok_law_rejected T) (hr.mono (by decide)) rfl T.g_law_rejected T.F_law_rejected.kp T.b_law_rejected pX))))))) (sds_one (sd_ret pd_bl)) sds_nil) (sds_cons (sd_forI poX rfl (id_range1 rfl T.m_range (ad_cons pd_int ad_nil)) (gd_name (gn 3 sc_law.nd)) (sds_cons (sd_set (pd_ix ix_A os_ix (pd_lst (ad_cons (pd_op op_sub os_sub (pd_call (ok_law_drawn T) (hr.mono (by decide)) rfl T.g_law_drawn T.F_law_drawn.kp T.b_law_drawn pX (ad_cons (pdv 0) (ad_cons (pd_op op_addA os_add pd_int (pdv 3)) (ad_cons pd_int ad_nil)))) pd_int) (ad_cons (pd_op op_sub os_sub (pd_call (ok_law_drawn T) (hr.mono (by decide)) rfl T.g_law_drawn T.F_law_drawn.kp T.b_law_drawn pX (ad_cons (pdv 0) (ad_cons (pd_op op_addA os_add pd_int (pdv 3)) (ad_cons pd_int ad_nil)))) pd_int) ad_nil))) (pd_op op_mod os_mod (pdv 3) pd_int)) sc_law.nd rfl) (sds_one (sd_if (WD.td (wd_or (td_cmp (op_neK (hU hr)) os_ne (pd_call (ok_stops T) (hr.mono (by decide)) rfl T.g_stops T.F_stops.kp T.b_stops pX (ad_cons (pdv 4) ad_nil)) (pd_call (ok_law_stops T) (hr.mono (by decide)) rfl T.g_law_stops T.F_law_stops.kp T.b_law_stops pX (ad_cons (pdv 4) ad_nil))) (wd_or1 (td_cmp (op_neK (hU hr)) os_ne (pd_call (ok_read_stops T) (hr.mono (by decide)) rfl T.g_read_stops T.F_read_stops.kp T.b_read_stops pX (ad_cons (pd_call (ok_law_stops T) (hr.mono (by decide)) rfl T.g_law_stops T.F_law_stops.kp T.b_law_stops pX (ad_cons (pdv 4) ad_nil)) ad_nil)) (pdv 4))))) (sds_one (sd_ret pd_bl)) sds_nil)))) (sds_cons (sd_forI poX rfl (id_range1 rfl T.m_range (ad_cons pd_int ad_nil)) (gd_name (gn 3 sc_law.nd)) (sds_cons (sd_set (pd_op op_addA os_add pd_int (pd_op op_mul os_mulI pd_int (pdv 3))) sc_law.nd rfl) (sds_cons (sd_set (pd_ix ix_A os_ix (pd_lst (ad_cons (pdv 2) (ad_cons (pd_call (ok_law_stops T) (hr.mono (by decide)) rfl T.g_law_stops T.F_law_stops.kp T.b_law_stops pX (ad_cons (pdv 4) ad_nil)) ad_nil))) (pd_op op_mod os_mod (pdv 3) pd_int)) sc_law.nd rfl) (sds_cons (sd_p2 (i := 7) (j := 8) sc_law.nd (zd_d (pd_call (ok_law_drawn T) (hr.mono (by decide)) rfl T.g_law_drawn T.F_law_drawn.kp T.b_law_drawn pX (ad_cons (pdv 0) (ad_cons (pdv 5) (ad_cons (pd_op op_addA os_add (pd_callB c_len cs_len rfl T.m_len bt_len (ad_cons (pdv 6) ad_nil)) pd_int) ad_nil)))) (zd_d (pd_ix ix_str os_ixS pd_str (pd_call (ok_law_drawn T) (hr.mono (by decide)) rfl T.g_law_drawn T.F_law_drawn.kp T.b_law_drawn pX (ad_cons (pdv 0) (ad_cons (pd_op op_addA os_add (pdv 5) pd_int) (ad_cons pd_int ad_nil))))) zd_nil))) (sds_cons (sd_set (pd_if (td_cmp (op_eqK (hU hr)) os_eq (pd_call (ok_law_drawn T) (hr.mono (by decide)) rfl T.g_law_drawn T.F_law_drawn.kp T.b_law_drawn pX (ad_cons (pdv 0) (ad_cons (pd_op op_addA os_add (pdv 5) pd_int) (ad_cons pd_int ad_nil)))) pd_int) pd_str (pdv 8)) sc_law.nd rfl) (sds_cons (sd_set (pd_op op_addA os_add (pd_op op_addA os_add (pd_slice sl_str ss_slS (pdv 6) od_none (od_some (pdv 7))) (pdv 9)) (pd_slice sl_str ss_slS (pdv 6) (od_some (pd_op op_addA os_add (pdv 7) (pd_call (ok_law_drawn T) (hr.mono (by decide)) rfl T.g_law_drawn T.F_law_drawn.kp T.b_law_drawn pX (ad_cons (pdv 0) (ad_cons (pd_op op_addA os_add (pdv 5) pd_int) (ad_cons pd_int ad_nil)))))) od_none)) sc_law.nd rfl) (sds_one (sd_if (td_cmp (op_notInK (hU hr)) os_notin (pd_call (ok_law_again T) (hr.mono (by decide)) rfl T.g_law_again T.F_law_again.kp T.b_law_again pX (ad_cons (pd_op op_mod os_mod (pdv 3) pd_int) (ad_cons (pdv 10) ad_nil))) (pd_tup (ad_cons pd_non (ad_cons (pdv 10) ad_nil)))) (sds_one (sd_ret pd_bl)) sds_nil)))))))) (sds_cons (sd_if (td_not (td_val (pd_call (ok_law_refused T) (hr.mono (by decide)) rfl T.g_law_refused T.F_law_refused.kp T.b_law_refused pX (ad_cons pd_int (ad_cons (pd_call (ok_law_badcamera T) (hr.mono (by decide)) rfl T.g_law_badcamera T.F_law_badcamera.kp T.b_law_badcamera pX (ad_cons (pdv 0) (ad_cons pd_int ad_nil))) ad_nil))))) (sds_one (sd_ret pd_bl)) sds_nil) (sds_one (sd_ret (pd_call (ok_law_refused T) (hr.mono (by decide)) rfl T.g_law_refused T.F_law_refused.kp T.b_law_refused pX (ad_cons pd_int (ad_cons (pd_ix ix_A os_ix (pd_lst (ad_cons pd_non (ad_cons (pd_neg pd_int) (ad_cons pd_int (ad_cons pd_bl (ad_cons pd_str ad_nil)))))) (pd_call (ok_law_drawn T) (hr.mono (by decide)) rfl T.g_law_drawn T.F_law_drawn.kp T.b_law_drawn pX (ad_cons (pdv 0) (ad_cons pd_int (ad_cons pd_int ad_nil))))) ad_nil))))))))))⟩
end
end Lw
namespace Lw
open PySem L2 PD
theorem all_mk {l : PySem.W.OpenLaw} {w : World} {K : PySem.W.Frag} {h : Heap} {mg : Str → Option Value} {fa : Addr} (X : K.In h) (G : h.Ns mainGlobals mg) (hfa : mg "law" = some (.ref fa))
    {f_is_int : Addr} {od_is_int an_is_int : Option Addr} {sl_is_int : Array (Option Value)} {oc_is_int kV_is_int dc_is_int pm_is_int cd_is_int ct_is_int : Value}
    {f_is_wheel : Addr} {od_is_wheel an_is_wheel : Option Addr} {sl_is_wheel : Array (Option Value)} {oc_is_wheel kV_is_wheel dc_is_wheel pm_is_wheel cd_is_wheel ct_is_wheel : Value}
    {f_is_camera : Addr} {od_is_camera an_is_camera : Option Addr} {sl_is_camera : Array (Option Value)} {oc_is_camera kV_is_camera dc_is_camera pm_is_camera cd_is_camera ct_is_camera : Value}
    {f_check_camera : Addr} {od_check_camera an_check_camera : Option Addr} {sl_check_camera : Array (Option Value)} {oc_check_camera kV_check_camera dc_check_camera pm_check_camera cd_check_camera ct_check_camera : Value}
    {f_join_camera : Addr} {od_join_camera an_join_camera : Option Addr} {sl_join_camera : Array (Option Value)} {oc_join_camera kV_join_camera dc_join_camera pm_join_camera cd_join_camera ct_join_camera : Value}
    {f_format_camera : Addr} {od_format_camera an_format_camera : Option Addr} {sl_format_camera : Array (Option Value)} {oc_format_camera kV_format_camera dc_format_camera pm_format_camera cd_format_camera ct_format_camera : Value}
    {f_read_int : Addr} {od_read_int an_read_int : Option Addr} {sl_read_int : Array (Option Value)} {oc_read_int kV_read_int dc_read_int pm_read_int cd_read_int ct_read_int : Value}
    {f_read_wheel : Addr} {od_read_wheel an_read_wheel : Option Addr} {sl_read_wheel : Array (Option Value)} {oc_read_wheel kV_read_wheel dc_read_wheel pm_read_wheel cd_read_wheel ct_read_wheel : Value}
    {f_parse_camera : Addr} {od_parse_camera an_parse_camera : Option Addr} {sl_parse_camera : Array (Option Value)} {oc_parse_camera kV_parse_camera dc_parse_camera pm_parse_camera cd_parse_camera ct_parse_camera : Value}
    {f_join_stops : Addr} {od_join_stops an_join_stops : Option Addr} {sl_join_stops : Array (Option Value)} {oc_join_stops kV_join_stops dc_join_stops pm_join_stops cd_join_stops ct_join_stops : Value}
    {f_stops : Addr} {od_stops an_stops : Option Addr} {sl_stops : Array (Option Value)} {oc_stops kV_stops dc_stops pm_stops cd_stops ct_stops : Value}
    {f_read_stops : Addr} {od_read_stops an_read_stops : Option Addr} {sl_read_stops : Array (Option Value)} {oc_read_stops kV_read_stops dc_read_stops pm_read_stops cd_read_stops ct_read_stops : Value}
    {f_law_drawn : Addr} {od_law_drawn an_law_drawn : Option Addr} {sl_law_drawn : Array (Option Value)} {oc_law_drawn kV_law_drawn dc_law_drawn pm_law_drawn cd_law_drawn ct_law_drawn : Value}
    {f_law_camera : Addr} {od_law_camera an_law_camera : Option Addr} {sl_law_camera : Array (Option Value)} {oc_law_camera kV_law_camera dc_law_camera pm_law_camera cd_law_camera ct_law_camera : Value}
    {f_law_badcamera : Addr} {od_law_badcamera an_law_badcamera : Option Addr} {sl_law_badcamera : Array (Option Value)} {oc_law_badcamera kV_law_badcamera dc_law_badcamera pm_law_badcamera cd_law_badcamera ct_law_badcamera : Value}
    {f_law_text : Addr} {od_law_text an_law_text : Option Addr} {sl_law_text : Array (Option Value)} {oc_law_text kV_law_text dc_law_text pm_law_text cd_law_text ct_law_text : Value}
    {f_law_stops : Addr} {od_law_stops an_law_stops : Option Addr} {sl_law_stops : Array (Option Value)} {oc_law_stops kV_law_stops dc_law_stops pm_law_stops cd_law_stops ct_law_stops : Value}
    {f_law_again : Addr} {od_law_again an_law_again : Option Addr} {sl_law_again : Array (Option Value)} {oc_law_again kV_law_again dc_law_again pm_law_again cd_law_again ct_law_again : Value}
    {f_law_rejected : Addr} {od_law_rejected an_law_rejected : Option Addr} {sl_law_rejected : Array (Option Value)} {oc_law_rejected kV_law_rejected dc_law_rejected pm_law_rejected cd_law_rejected ct_law_rejected : Value}
    {f_law_refused : Addr} {od_law_refused an_law_refused : Option Addr} {sl_law_refused : Array (Option Value)} {oc_law_refused kV_law_refused dc_law_refused pm_law_refused cd_law_refused ct_law_refused : Value}
    {f_law : Addr} {od_law an_law : Option Addr} {sl_law : Array (Option Value)} {oc_law kV_law dc_law pm_law cd_law ct_law : Value}
    {C_InvalidCamera : Addr}
    {C_InvalidNumber : Addr}
    {C_ParseError : Addr}
    {C_LightError : Addr}
    {t_DASH : Tok}
    {t_DIGITS : Tok}
    {t_MAX_DIGITS : Tok}
    {t_MAX_LEAST : Tok}
    {t_MAX_MOST : Tok}
    {t_MAX_STEP : Tok}
    {t_MAX_THIRDS : Tok}
    {t_MAX_VALUES : Tok}
    {a_NAMES : Addr} {t_NAMES0 t_NAMES1 t_NAMES2 : Tok} {n_NAMES : Nat} {sl_NAMES : Array (Option Value)}
    {t_SLASH : Tok}
    {t_SPACE : Tok}
    {t_THIRDS : Tok}
    (a_is_int : PySem.W.nsIn K mainGlobals "is_int" = some (some (.ref f_is_int)))
    (l_is_int : K.lookup f_is_int = some ⟨oc_is_int, od_is_int, .func (PySem.W.fnOf "is_int" "is_int" (defArgs s_is_int) (defBody s_is_int) (defScope s_is_int) .none kV_is_int dc_is_int pm_is_int an_is_int cd_is_int ct_is_int), sl_is_int⟩)
    (c_is_int : PySem.W.codeIn K cd_is_int "is_int" = true)
    (k_is_int : PySem.W.keepIn K (.ref f_is_int) = true)
    (a_is_wheel : PySem.W.nsIn K mainGlobals "is_wheel" = some (some (.ref f_is_wheel)))
    (l_is_wheel : K.lookup f_is_wheel = some ⟨oc_is_wheel, od_is_wheel, .func (PySem.W.fnOf "is_wheel" "is_wheel" (defArgs s_is_wheel) (defBody s_is_wheel) (defScope s_is_wheel) .none kV_is_wheel dc_is_wheel pm_is_wheel an_is_wheel cd_is_wheel ct_is_wheel), sl_is_wheel⟩)
    (c_is_wheel : PySem.W.codeIn K cd_is_wheel "is_wheel" = true)
    (k_is_wheel : PySem.W.keepIn K (.ref f_is_wheel) = true)
    (a_is_camera : PySem.W.nsIn K mainGlobals "is_camera" = some (some (.ref f_is_camera)))
    (l_is_camera : K.lookup f_is_camera = some ⟨oc_is_camera, od_is_camera, .func (PySem.W.fnOf "is_camera" "is_camera" (defArgs s_is_camera) (defBody s_is_camera) (defScope s_is_camera) .none kV_is_camera dc_is_camera pm_is_camera an_is_camera cd_is_camera ct_is_camera), sl_is_camera⟩)
    (c_is_camera : PySem.W.codeIn K cd_is_camera "is_camera" = true)
    (k_is_camera : PySem.W.keepIn K (.ref f_is_camera) = true)
    (a_check_camera : PySem.W.nsIn K mainGlobals "check_camera" = some (some (.ref f_check_camera)))
    (l_check_camera : K.lookup f_check_camera = some ⟨oc_check_camera, od_check_camera, .func (PySem.W.fnOf "check_camera" "check_camera" (defArgs s_check_camera) (defBody s_check_camera) (defScope s_check_camera) .none kV_check_camera dc_check_camera pm_check_camera an_check_camera cd_check_camera ct_check_camera), sl_check_camera⟩)
    (c_check_camera : PySem.W.codeIn K cd_check_camera "check_camera" = true)
    (k_check_camera : PySem.W.keepIn K (.ref f_check_camera) = true)
    (a_join_camera : PySem.W.nsIn K mainGlobals "join_camera" = some (some (.ref f_join_camera)))
    (l_join_camera : K.lookup f_join_camera = some ⟨oc_join_camera, od_join_camera, .func (PySem.W.fnOf "join_camera" "join_camera" (defArgs s_join_camera) (defBody s_join_camera) (defScope s_join_camera) .none kV_join_camera dc_join_camera pm_join_camera an_join_camera cd_join_camera ct_join_camera), sl_join_camera⟩)
    (c_join_camera : PySem.W.codeIn K cd_join_camera "join_camera" = true)
    (k_join_camera : PySem.W.keepIn K (.ref f_join_camera) = true)
    (a_format_camera : PySem.W.nsIn K mainGlobals "format_camera" = some (some (.ref f_format_camera)))
    (l_format_camera : K.lookup f_format_camera = some ⟨oc_format_camera, od_format_camera, .func (PySem.W.fnOf "format_camera" "format_camera" (defArgs s_format_camera) (defBody s_format_camera) (defScope s_format_camera) .none kV_format_camera dc_format_camera pm_format_camera an_format_camera cd_format_camera ct_format_camera), sl_format_camera⟩)
    (c_format_camera : PySem.W.codeIn K cd_format_camera "format_camera" = true)
    (k_format_camera : PySem.W.keepIn K (.ref f_format_camera) = true)
    (a_read_int : PySem.W.nsIn K mainGlobals "read_int" = some (some (.ref f_read_int)))
    (l_read_int : K.lookup f_read_int = some ⟨oc_read_int, od_read_int, .func (PySem.W.fnOf "read_int" "read_int" (defArgs s_read_int) (defBody s_read_int) (defScope s_read_int) .none kV_read_int dc_read_int pm_read_int an_read_int cd_read_int ct_read_int), sl_read_int⟩)
    (c_read_int : PySem.W.codeIn K cd_read_int "read_int" = true)
    (k_read_int : PySem.W.keepIn K (.ref f_read_int) = true)
    (a_read_wheel : PySem.W.nsIn K mainGlobals "read_wheel" = some (some (.ref f_read_wheel)))
    (l_read_wheel : K.lookup f_read_wheel = some ⟨oc_read_wheel, od_read_wheel, .func (PySem.W.fnOf "read_wheel" "read_wheel" (defArgs s_read_wheel) (defBody s_read_wheel) (defScope s_read_wheel) .none kV_read_wheel dc_read_wheel pm_read_wheel an_read_wheel cd_read_wheel ct_read_wheel), sl_read_wheel⟩)
    (c_read_wheel : PySem.W.codeIn K cd_read_wheel "read_wheel" = true)
    (k_read_wheel : PySem.W.keepIn K (.ref f_read_wheel) = true)
    (a_parse_camera : PySem.W.nsIn K mainGlobals "parse_camera" = some (some (.ref f_parse_camera)))
    (l_parse_camera : K.lookup f_parse_camera = some ⟨oc_parse_camera, od_parse_camera, .func (PySem.W.fnOf "parse_camera" "parse_camera" (defArgs s_parse_camera) (defBody s_parse_camera) (defScope s_parse_camera) .none kV_parse_camera dc_parse_camera pm_parse_camera an_parse_camera cd_parse_camera ct_parse_camera), sl_parse_camera⟩)
    (c_parse_camera : PySem.W.codeIn K cd_parse_camera "parse_camera" = true)
    (k_parse_camera : PySem.W.keepIn K (.ref f_parse_camera) = true)
    (a_join_stops : PySem.W.nsIn K mainGlobals "join_stops" = some (some (.ref f_join_stops)))
    (l_join_stops : K.lookup f_join_stops = some ⟨oc_join_stops, od_join_stops, .func (PySem.W.fnOf "join_stops" "join_stops" (defArgs s_join_stops) (defBody s_join_stops) (defScope s_join_stops) .none kV_join_stops dc_join_stops pm_join_stops an_join_stops cd_join_stops ct_join_stops), sl_join_stops⟩)
    (c_join_stops : PySem.W.codeIn K cd_join_stops "join_stops" = true)
    (k_join_stops : PySem.W.keepIn K (.ref f_join_stops) = true)
    (a_stops : PySem.W.nsIn K mainGlobals "stops" = some (some (.ref f_stops)))
    (l_stops : K.lookup f_stops = some ⟨oc_stops, od_stops, .func (PySem.W.fnOf "stops" "stops" (defArgs s_stops) (defBody s_stops) (defScope s_stops) .none kV_stops dc_stops pm_stops an_stops cd_stops ct_stops), sl_stops⟩)
    (c_stops : PySem.W.codeIn K cd_stops "stops" = true)
    (k_stops : PySem.W.keepIn K (.ref f_stops) = true)
    (a_read_stops : PySem.W.nsIn K mainGlobals "read_stops" = some (some (.ref f_read_stops)))
    (l_read_stops : K.lookup f_read_stops = some ⟨oc_read_stops, od_read_stops, .func (PySem.W.fnOf "read_stops" "read_stops" (defArgs s_read_stops) (defBody s_read_stops) (defScope s_read_stops) .none kV_read_stops dc_read_stops pm_read_stops an_read_stops cd_read_stops ct_read_stops), sl_read_stops⟩)
    (c_read_stops : PySem.W.codeIn K cd_read_stops "read_stops" = true)
    (k_read_stops : PySem.W.keepIn K (.ref f_read_stops) = true)
    (a_law_drawn : PySem.W.nsIn K mainGlobals "_law_drawn" = some (some (.ref f_law_drawn)))
    (l_law_drawn : K.lookup f_law_drawn = some ⟨oc_law_drawn, od_law_drawn, .func (PySem.W.fnOf "_law_drawn" "_law_drawn" (defArgs s_law_drawn) (defBody s_law_drawn) (defScope s_law_drawn) .none kV_law_drawn dc_law_drawn pm_law_drawn an_law_drawn cd_law_drawn ct_law_drawn), sl_law_drawn⟩)
    (c_law_drawn : PySem.W.codeIn K cd_law_drawn "_law_drawn" = true)
    (k_law_drawn : PySem.W.keepIn K (.ref f_law_drawn) = true)
    (a_law_camera : PySem.W.nsIn K mainGlobals "_law_camera" = some (some (.ref f_law_camera)))
    (l_law_camera : K.lookup f_law_camera = some ⟨oc_law_camera, od_law_camera, .func (PySem.W.fnOf "_law_camera" "_law_camera" (defArgs s_law_camera) (defBody s_law_camera) (defScope s_law_camera) .none kV_law_camera dc_law_camera pm_law_camera an_law_camera cd_law_camera ct_law_camera), sl_law_camera⟩)
    (c_law_camera : PySem.W.codeIn K cd_law_camera "_law_camera" = true)
    (k_law_camera : PySem.W.keepIn K (.ref f_law_camera) = true)
    (a_law_badcamera : PySem.W.nsIn K mainGlobals "_law_badcamera" = some (some (.ref f_law_badcamera)))
    (l_law_badcamera : K.lookup f_law_badcamera = some ⟨oc_law_badcamera, od_law_badcamera, .func (PySem.W.fnOf "_law_badcamera" "_law_badcamera" (defArgs s_law_badcamera) (defBody s_law_badcamera) (defScope s_law_badcamera) .none kV_law_badcamera dc_law_badcamera pm_law_badcamera an_law_badcamera cd_law_badcamera ct_law_badcamera), sl_law_badcamera⟩)
    (c_law_badcamera : PySem.W.codeIn K cd_law_badcamera "_law_badcamera" = true)
    (k_law_badcamera : PySem.W.keepIn K (.ref f_law_badcamera) = true)
    (a_law_text : PySem.W.nsIn K mainGlobals "_law_text" = some (some (.ref f_law_text)))
    (l_law_text : K.lookup f_law_text = some ⟨oc_law_text, od_law_text, .func (PySem.W.fnOf "_law_text" "_law_text" (defArgs s_law_text) (defBody s_law_text) (defScope s_law_text) .none kV_law_text dc_law_text pm_law_text an_law_text cd_law_text ct_law_text), sl_law_text⟩)
    (c_law_text : PySem.W.codeIn K cd_law_text "_law_text" = true)
    (k_law_text : PySem.W.keepIn K (.ref f_law_text) = true)
    (a_law_stops : PySem.W.nsIn K mainGlobals "_law_stops" = some (some (.ref f_law_stops)))
    (l_law_stops : K.lookup f_law_stops = some ⟨oc_law_stops, od_law_stops, .func (PySem.W.fnOf "_law_stops" "_law_stops" (defArgs s_law_stops) (defBody s_law_stops) (defScope s_law_stops) .none kV_law_stops dc_law_stops pm_law_stops an_law_stops cd_law_stops ct_law_stops), sl_law_stops⟩)
    (c_law_stops : PySem.W.codeIn K cd_law_stops "_law_stops" = true)
    (k_law_stops : PySem.W.keepIn K (.ref f_law_stops) = true)
    (a_law_again : PySem.W.nsIn K mainGlobals "_law_again" = some (some (.ref f_law_again)))
    (l_law_again : K.lookup f_law_again = some ⟨oc_law_again, od_law_again, .func (PySem.W.fnOf "_law_again" "_law_again" (defArgs s_law_again) (defBody s_law_again) (defScope s_law_again) .none kV_law_again dc_law_again pm_law_again an_law_again cd_law_again ct_law_again), sl_law_again⟩)
    (c_law_again : PySem.W.codeIn K cd_law_again "_law_again" = true)
    (k_law_again : PySem.W.keepIn K (.ref f_law_again) = true)
    (a_law_rejected : PySem.W.nsIn K mainGlobals "_law_rejected" = some (some (.ref f_law_rejected)))
    (l_law_rejected : K.lookup f_law_rejected = some ⟨oc_law_rejected, od_law_rejected, .func (PySem.W.fnOf "_law_rejected" "_law_rejected" (defArgs s_law_rejected) (defBody s_law_rejected) (defScope s_law_rejected) .none kV_law_rejected dc_law_rejected pm_law_rejected an_law_rejected cd_law_rejected ct_law_rejected), sl_law_rejected⟩)
    (c_law_rejected : PySem.W.codeIn K cd_law_rejected "_law_rejected" = true)
    (k_law_rejected : PySem.W.keepIn K (.ref f_law_rejected) = true)
    (a_law_refused : PySem.W.nsIn K mainGlobals "_law_refused" = some (some (.ref f_law_refused)))
    (l_law_refused : K.lookup f_law_refused = some ⟨oc_law_refused, od_law_refused, .func (PySem.W.fnOf "_law_refused" "_law_refused" (defArgs s_law_refused) (defBody s_law_refused) (defScope s_law_refused) .none kV_law_refused dc_law_refused pm_law_refused an_law_refused cd_law_refused ct_law_refused), sl_law_refused⟩)
    (c_law_refused : PySem.W.codeIn K cd_law_refused "_law_refused" = true)
    (k_law_refused : PySem.W.keepIn K (.ref f_law_refused) = true)
    (a_law : PySem.W.nsIn K mainGlobals "law" = some (some (.ref f_law)))
    (l_law : K.lookup f_law = some ⟨oc_law, od_law, .func (PySem.W.fnOf "law" "law" (defArgs s_law) (defBody s_law) (defScope s_law) .none kV_law dc_law pm_law an_law cd_law ct_law), sl_law⟩)
    (c_law : PySem.W.codeIn K cd_law "law" = true)
    (k_law : PySem.W.keepIn K (.ref f_law) = true)
    (ax_InvalidCamera : PySem.W.nsIn K mainGlobals "InvalidCamera" = some (some (.ref C_InvalidCamera)))
    (x_InvalidCamera : PySem.W.excIn K C_InvalidCamera [.type "ValueError", .type "Exception", .type "BaseException", .type "object"] "ValueError.__new__" = true)
    (kx_InvalidCamera : PySem.W.keepIn K (.ref C_InvalidCamera) = true)
    (bx_InvalidCamera : PySem.W.subIn K (.ref C_InvalidCamera) (.type "BaseException") = some true)
    (t_InvalidCamera : PySem.W.typeIn K (.ref C_InvalidCamera) = some (.type "type"))
    (ax_InvalidNumber : PySem.W.nsIn K mainGlobals "InvalidNumber" = some (some (.ref C_InvalidNumber)))
    (x_InvalidNumber : PySem.W.excIn K C_InvalidNumber [.type "ValueError", .type "Exception", .type "BaseException", .type "object"] "ValueError.__new__" = true)
    (kx_InvalidNumber : PySem.W.keepIn K (.ref C_InvalidNumber) = true)
    (bx_InvalidNumber : PySem.W.subIn K (.ref C_InvalidNumber) (.type "BaseException") = some true)
    (t_InvalidNumber : PySem.W.typeIn K (.ref C_InvalidNumber) = some (.type "type"))
    (ax_ParseError : PySem.W.nsIn K mainGlobals "ParseError" = some (some (.ref C_ParseError)))
    (x_ParseError : PySem.W.excIn K C_ParseError [.type "ValueError", .type "Exception", .type "BaseException", .type "object"] "ValueError.__new__" = true)
    (kx_ParseError : PySem.W.keepIn K (.ref C_ParseError) = true)
    (bx_ParseError : PySem.W.subIn K (.ref C_ParseError) (.type "BaseException") = some true)
    (t_ParseError : PySem.W.typeIn K (.ref C_ParseError) = some (.type "type"))
    (ax_LightError : PySem.W.nsIn K mainGlobals "LightError" = some (some (.ref C_LightError)))
    (bx_LightError : PySem.W.subIn K (.ref C_LightError) (.type "BaseException") = some true)
    (t_LightError : PySem.W.typeIn K (.ref C_LightError) = some (.type "type"))
    (sb_InvalidCamera_InvalidCamera : PySem.W.subIn K (.ref C_InvalidCamera) (.ref C_InvalidCamera) = some true)
    (sb_InvalidCamera_InvalidNumber : PySem.W.subIn K (.ref C_InvalidCamera) (.ref C_InvalidNumber) = some false)
    (sb_InvalidNumber_InvalidCamera : PySem.W.subIn K (.ref C_InvalidNumber) (.ref C_InvalidCamera) = some false)
    (sb_InvalidNumber_InvalidNumber : PySem.W.subIn K (.ref C_InvalidNumber) (.ref C_InvalidNumber) = some true)
    (sb_ParseError_ParseError : PySem.W.subIn K (.ref C_ParseError) (.ref C_ParseError) = some true)
    (ehn : PySem.W.specialIn K (.builtin "object.__class__") "__get__" = some (some (.builtin "getset_descriptor.__get__")))
    (eht : PySem.W.takesIn K (.builtin "object.__class__") = some true)
    (ehd_InvalidCamera : PySem.W.hasDictIn K C_InvalidCamera = true)
    (ehd_InvalidNumber : PySem.W.hasDictIn K C_InvalidNumber = true)
    (ehd_LightError : PySem.W.hasDictIn K C_LightError = true)
    (ehd_ParseError : PySem.W.hasDictIn K C_ParseError = true)
    (ehg_InvalidCamera : PySem.W.findIn K (.ref C_InvalidCamera) "__getattribute__" = some (some (.builtin "BaseException.__getattribute__")))
    (ehk_InvalidCamera : PySem.W.findIn K (.ref C_InvalidCamera) "__getattr__" = some none)
    (eha_InvalidCamera : PySem.W.findIn K (.ref C_InvalidCamera) "__class__" = some (some (.builtin "object.__class__")))
    (ehm_InvalidCamera : PySem.W.mroIn K C_InvalidCamera (.type "object") = some true)
    (em_InvalidCamera_LightError : PySem.W.subIn K (.ref C_InvalidCamera) (.ref C_LightError) = some true)
    (ehg_InvalidNumber : PySem.W.findIn K (.ref C_InvalidNumber) "__getattribute__" = some (some (.builtin "BaseException.__getattribute__")))
    (ehk_InvalidNumber : PySem.W.findIn K (.ref C_InvalidNumber) "__getattr__" = some none)
    (eha_InvalidNumber : PySem.W.findIn K (.ref C_InvalidNumber) "__class__" = some (some (.builtin "object.__class__")))
    (ehm_InvalidNumber : PySem.W.mroIn K C_InvalidNumber (.type "object") = some true)
    (em_InvalidNumber_LightError : PySem.W.subIn K (.ref C_InvalidNumber) (.ref C_LightError) = some true)
    (ehg_ParseError : PySem.W.findIn K (.ref C_ParseError) "__getattribute__" = some (some (.builtin "BaseException.__getattribute__")))
    (ehk_ParseError : PySem.W.findIn K (.ref C_ParseError) "__getattr__" = some none)
    (eha_ParseError : PySem.W.findIn K (.ref C_ParseError) "__class__" = some (some (.builtin "object.__class__")))
    (ehm_ParseError : PySem.W.mroIn K C_ParseError (.type "object") = some true)
    (em_ParseError_LightError : PySem.W.subIn K (.ref C_ParseError) (.ref C_LightError) = some true)
    (co_DASH : PySem.W.nsIn K mainGlobals "DASH" = some (some (.str "-" t_DASH)))
    (co_DIGITS : PySem.W.nsIn K mainGlobals "DIGITS" = some (some (.str "0123456789" t_DIGITS)))
    (co_MAX_DIGITS : PySem.W.nsIn K mainGlobals "MAX_DIGITS" = some (some (.int (2) t_MAX_DIGITS)))
    (co_MAX_LEAST : PySem.W.nsIn K mainGlobals "MAX_LEAST" = some (some (.int (40) t_MAX_LEAST)))
    (co_MAX_MOST : PySem.W.nsIn K mainGlobals "MAX_MOST" = some (some (.int (60) t_MAX_MOST)))
    (co_MAX_STEP : PySem.W.nsIn K mainGlobals "MAX_STEP" = some (some (.int (3) t_MAX_STEP)))
    (co_MAX_THIRDS : PySem.W.nsIn K mainGlobals "MAX_THIRDS" = some (some (.int (180) t_MAX_THIRDS)))
    (co_MAX_VALUES : PySem.W.nsIn K mainGlobals "MAX_VALUES" = some (some (.int (13) t_MAX_VALUES)))
    (co_NAMES : PySem.W.nsIn K mainGlobals "NAMES" = some (some (.ref a_NAMES)))
    (cl_NAMES : K.lookup a_NAMES = some ⟨.type "tuple", none, .seq #[.str "aperture" t_NAMES0, .str "time" t_NAMES1, .str "sensitivity" t_NAMES2] n_NAMES, sl_NAMES⟩)
    (co_SLASH : PySem.W.nsIn K mainGlobals "SLASH" = some (some (.str "/" t_SLASH)))
    (co_SPACE : PySem.W.nsIn K mainGlobals "SPACE" = some (some (.str " " t_SPACE)))
    (co_THIRDS : PySem.W.nsIn K mainGlobals "THIRDS" = some (some (.int (3) t_THIRDS)))
    (z_abs : PySem.W.nsIn K mainGlobals "abs" = some none)
    (z_all : PySem.W.nsIn K mainGlobals "all" = some none)
    (z_bool : PySem.W.nsIn K mainGlobals "bool" = some none)
    (z_int : PySem.W.nsIn K mainGlobals "int" = some none)
    (z_isinstance : PySem.W.nsIn K mainGlobals "isinstance" = some none)
    (z_len : PySem.W.nsIn K mainGlobals "len" = some none)
    (z_range : PySem.W.nsIn K mainGlobals "range" = some none)
    (z_str : PySem.W.nsIn K mainGlobals "str" = some none)
    (z_tuple : PySem.W.nsIn K mainGlobals "tuple" = some none)
    : ∃ fd : FuncData, (∀ (s : Shared) (u : Value), BindsTo s fd ⟨[u], []⟩ [("script", u)]) ∧ ∀ base : Heap, K.In base → base.Ns mainGlobals mg → FnOk l.prog w K mg base (L2.CX l.prog w) 7 fa fd ["script"] (spD K mg 1 F_law) := by
  have e := hfa.symm.trans (PySem.W.mg_of X G a_law)
  cases e
  have T : Txt K mg { f_is_int := f_is_int, fd_is_int := _, f_is_wheel := f_is_wheel, fd_is_wheel := _, f_is_camera := f_is_camera, fd_is_camera := _, f_check_camera := f_check_camera, fd_check_camera := _, f_join_camera := f_join_camera, fd_join_camera := _, f_format_camera := f_format_camera, fd_format_camera := _, f_read_int := f_read_int, fd_read_int := _, f_read_wheel := f_read_wheel, fd_read_wheel := _, f_parse_camera := f_parse_camera, fd_parse_camera := _, f_join_stops := f_join_stops, fd_join_stops := _, f_stops := f_stops, fd_stops := _, f_read_stops := f_read_stops, fd_read_stops := _, f_law_drawn := f_law_drawn, fd_law_drawn := _, f_law_camera := f_law_camera, fd_law_camera := _, f_law_badcamera := f_law_badcamera, fd_law_badcamera := _, f_law_text := f_law_text, fd_law_text := _, f_law_stops := f_law_stops, fd_law_stops := _, f_law_again := f_law_again, fd_law_again := _, f_law_rejected := f_law_rejected, fd_law_rejected := _, f_law_refused := f_law_refused, fd_law_refused := _, f_law := fa, fd_law := _, C_InvalidCamera := C_InvalidCamera, C_InvalidNumber := C_InvalidNumber, C_LightError := C_LightError, C_ParseError := C_ParseError, a_NAMES := a_NAMES } := {
    F_is_int := fun_mk (st := s_is_int) l_is_int c_is_int k_is_int,
    b_is_int := (fun_mk (st := s_is_int) l_is_int c_is_int k_is_int).binds (ps := ["value", "least", "most"]) fun _ _ _ _ _ _ us hl => match us, hl with | [_, _, _], _ => rfl,
    g_is_int := PySem.W.mg_of X G a_is_int,
    F_is_wheel := fun_mk (st := s_is_wheel) l_is_wheel c_is_wheel k_is_wheel,
    b_is_wheel := (fun_mk (st := s_is_wheel) l_is_wheel c_is_wheel k_is_wheel).binds (ps := ["value"]) fun _ _ _ _ _ _ us hl => match us, hl with | [_], _ => rfl,
    g_is_wheel := PySem.W.mg_of X G a_is_wheel,
    F_is_camera := fun_mk (st := s_is_camera) l_is_camera c_is_camera k_is_camera,
    b_is_camera := (fun_mk (st := s_is_camera) l_is_camera c_is_camera k_is_camera).binds (ps := ["candidate"]) fun _ _ _ _ _ _ us hl => match us, hl with | [_], _ => rfl,
    g_is_camera := PySem.W.mg_of X G a_is_camera,
    F_check_camera := fun_mk (st := s_check_camera) l_check_camera c_check_camera k_check_camera,
    b_check_camera := (fun_mk (st := s_check_camera) l_check_camera c_check_camera k_check_camera).binds (ps := ["value"]) fun _ _ _ _ _ _ us hl => match us, hl with | [_], _ => rfl,
    g_check_camera := PySem.W.mg_of X G a_check_camera,
    F_join_camera := fun_mk (st := s_join_camera) l_join_camera c_join_camera k_join_camera,
    b_join_camera := (fun_mk (st := s_join_camera) l_join_camera c_join_camera k_join_camera).binds (ps := ["camera"]) fun _ _ _ _ _ _ us hl => match us, hl with | [_], _ => rfl,
    g_join_camera := PySem.W.mg_of X G a_join_camera,
    F_format_camera := fun_mk (st := s_format_camera) l_format_camera c_format_camera k_format_camera,
    b_format_camera := (fun_mk (st := s_format_camera) l_format_camera c_format_camera k_format_camera).binds (ps := ["camera"]) fun _ _ _ _ _ _ us hl => match us, hl with | [_], _ => rfl,
    g_format_camera := PySem.W.mg_of X G a_format_camera,
    F_read_int := fun_mk (st := s_read_int) l_read_int c_read_int k_read_int,
    b_read_int := (fun_mk (st := s_read_int) l_read_int c_read_int k_read_int).binds (ps := ["text"]) fun _ _ _ _ _ _ us hl => match us, hl with | [_], _ => rfl,
    g_read_int := PySem.W.mg_of X G a_read_int,
    F_read_wheel := fun_mk (st := s_read_wheel) l_read_wheel c_read_wheel k_read_wheel,
    b_read_wheel := (fun_mk (st := s_read_wheel) l_read_wheel c_read_wheel k_read_wheel).binds (ps := ["text"]) fun _ _ _ _ _ _ us hl => match us, hl with | [_], _ => rfl,
    g_read_wheel := PySem.W.mg_of X G a_read_wheel,
    F_parse_camera := fun_mk (st := s_parse_camera) l_parse_camera c_parse_camera k_parse_camera,
    b_parse_camera := (fun_mk (st := s_parse_camera) l_parse_camera c_parse_camera k_parse_camera).binds (ps := ["text"]) fun _ _ _ _ _ _ us hl => match us, hl with | [_], _ => rfl,
    g_parse_camera := PySem.W.mg_of X G a_parse_camera,
    F_join_stops := fun_mk (st := s_join_stops) l_join_stops c_join_stops k_join_stops,
    b_join_stops := (fun_mk (st := s_join_stops) l_join_stops c_join_stops k_join_stops).binds (ps := ["number"]) fun _ _ _ _ _ _ us hl => match us, hl with | [_], _ => rfl,
    g_join_stops := PySem.W.mg_of X G a_join_stops,
    F_stops := fun_mk (st := s_stops) l_stops c_stops k_stops,
    b_stops := (fun_mk (st := s_stops) l_stops c_stops k_stops).binds (ps := ["number"]) fun _ _ _ _ _ _ us hl => match us, hl with | [_], _ => rfl,
    g_stops := PySem.W.mg_of X G a_stops,
    F_read_stops := fun_mk (st := s_read_stops) l_read_stops c_read_stops k_read_stops,
    b_read_stops := (fun_mk (st := s_read_stops) l_read_stops c_read_stops k_read_stops).binds (ps := ["text"]) fun _ _ _ _ _ _ us hl => match us, hl with | [_], _ => rfl,
    g_read_stops := PySem.W.mg_of X G a_read_stops,
    F_law_drawn := fun_mk (st := s_law_drawn) l_law_drawn c_law_drawn k_law_drawn,
    b_law_drawn := (fun_mk (st := s_law_drawn) l_law_drawn c_law_drawn k_law_drawn).binds (ps := ["script", "k", "many"]) fun _ _ _ _ _ _ us hl => match us, hl with | [_, _, _], _ => rfl,
    g_law_drawn := PySem.W.mg_of X G a_law_drawn,
    F_law_camera := fun_mk (st := s_law_camera) l_law_camera c_law_camera k_law_camera,
    b_law_camera := (fun_mk (st := s_law_camera) l_law_camera c_law_camera k_law_camera).binds (ps := ["script", "at"]) fun _ _ _ _ _ _ us hl => match us, hl with | [_, _], _ => rfl,
    g_law_camera := PySem.W.mg_of X G a_law_camera,
    F_law_badcamera := fun_mk (st := s_law_badcamera) l_law_badcamera c_law_badcamera k_law_badcamera,
    b_law_badcamera := (fun_mk (st := s_law_badcamera) l_law_badcamera c_law_badcamera k_law_badcamera).binds (ps := ["script", "at"]) fun _ _ _ _ _ _ us hl => match us, hl with | [_, _], _ => rfl,
    g_law_badcamera := PySem.W.mg_of X G a_law_badcamera,
    F_law_text := fun_mk (st := s_law_text) l_law_text c_law_text k_law_text,
    b_law_text := (fun_mk (st := s_law_text) l_law_text c_law_text k_law_text).binds (ps := ["camera"]) fun _ _ _ _ _ _ us hl => match us, hl with | [_], _ => rfl,
    g_law_text := PySem.W.mg_of X G a_law_text,
    F_law_stops := fun_mk (st := s_law_stops) l_law_stops c_law_stops k_law_stops,
    b_law_stops := (fun_mk (st := s_law_stops) l_law_stops c_law_stops k_law_stops).binds (ps := ["number"]) fun _ _ _ _ _ _ us hl => match us, hl with | [_], _ => rfl,
    g_law_stops := PySem.W.mg_of X G a_law_stops,
    F_law_again := fun_mk (st := s_law_again) l_law_again c_law_again k_law_again,
    b_law_again := (fun_mk (st := s_law_again) l_law_again c_law_again k_law_again).binds (ps := ["way", "text"]) fun _ _ _ _ _ _ us hl => match us, hl with | [_, _], _ => rfl,
    g_law_again := PySem.W.mg_of X G a_law_again,
    F_law_rejected := fun_mk (st := s_law_rejected) l_law_rejected c_law_rejected k_law_rejected,
    b_law_rejected := (fun_mk (st := s_law_rejected) l_law_rejected c_law_rejected k_law_rejected).binds (ps := []) fun _ _ _ _ _ _ us hl => match us, hl with | [], _ => rfl,
    g_law_rejected := PySem.W.mg_of X G a_law_rejected,
    F_law_refused := fun_mk (st := s_law_refused) l_law_refused c_law_refused k_law_refused,
    b_law_refused := (fun_mk (st := s_law_refused) l_law_refused c_law_refused k_law_refused).binds (ps := ["way", "one"]) fun _ _ _ _ _ _ us hl => match us, hl with | [_, _], _ => rfl,
    g_law_refused := PySem.W.mg_of X G a_law_refused,
    F_law := fun_mk (st := s_law) l_law c_law k_law,
    b_law := (fun_mk (st := s_law) l_law c_law k_law).binds (ps := ["script"]) fun _ _ _ _ _ _ us hl => match us, hl with | [_], _ => rfl,
    g_law := PySem.W.mg_of X G a_law,
    x_InvalidCamera := x_InvalidCamera,
    g_InvalidCamera := PySem.W.mg_of X G ax_InvalidCamera,
    k_InvalidCamera := kx_InvalidCamera,
    bx_InvalidCamera := bx_InvalidCamera,
    t_InvalidCamera := t_InvalidCamera,
    x_InvalidNumber := x_InvalidNumber,
    g_InvalidNumber := PySem.W.mg_of X G ax_InvalidNumber,
    k_InvalidNumber := kx_InvalidNumber,
    bx_InvalidNumber := bx_InvalidNumber,
    t_InvalidNumber := t_InvalidNumber,
    x_ParseError := x_ParseError,
    g_ParseError := PySem.W.mg_of X G ax_ParseError,
    k_ParseError := kx_ParseError,
    bx_ParseError := bx_ParseError,
    t_ParseError := t_ParseError,
    g_LightError := PySem.W.mg_of X G ax_LightError,
    kt_InvalidCamera_InvalidCamera := kit_sub ehd_InvalidCamera t_InvalidCamera sb_InvalidCamera_InvalidCamera sb_InvalidCamera_InvalidCamera,
    kt_InvalidCamera_InvalidNumber := kit_sub ehd_InvalidNumber t_InvalidNumber sb_InvalidCamera_InvalidNumber sb_InvalidNumber_InvalidNumber,
    kt_InvalidNumber_InvalidCamera := kit_sub ehd_InvalidCamera t_InvalidCamera sb_InvalidNumber_InvalidCamera sb_InvalidCamera_InvalidCamera,
    kt_InvalidNumber_InvalidNumber := kit_sub ehd_InvalidNumber t_InvalidNumber sb_InvalidNumber_InvalidNumber sb_InvalidNumber_InvalidNumber,
    kt_ParseError_ParseError := kit_sub ehd_ParseError t_ParseError sb_ParseError_ParseError sb_ParseError_ParseError,
    e_InvalidCamera := ⟨ehg_InvalidCamera, ehk_InvalidCamera, bx_InvalidCamera, ehd_InvalidCamera, eha_InvalidCamera, ehn, eht, ehm_InvalidCamera⟩,
    em_InvalidCamera_LightError := PySem.W.exm_ref bx_LightError ehd_LightError t_LightError em_InvalidCamera_LightError,
    e_InvalidNumber := ⟨ehg_InvalidNumber, ehk_InvalidNumber, bx_InvalidNumber, ehd_InvalidNumber, eha_InvalidNumber, ehn, eht, ehm_InvalidNumber⟩,
    em_InvalidNumber_LightError := PySem.W.exm_ref bx_LightError ehd_LightError t_LightError em_InvalidNumber_LightError,
    e_ParseError := ⟨ehg_ParseError, ehk_ParseError, bx_ParseError, ehd_ParseError, eha_ParseError, ehn, eht, ehm_ParseError⟩,
    em_ParseError_LightError := PySem.W.exm_ref bx_LightError ehd_LightError t_LightError em_ParseError_LightError,
    c_DASH := ⟨_, PySem.W.mg_of X G co_DASH⟩,
    c_DIGITS := ⟨_, PySem.W.mg_of X G co_DIGITS⟩,
    c_MAX_DIGITS := ⟨_, PySem.W.mg_of X G co_MAX_DIGITS⟩,
    c_MAX_LEAST := ⟨_, PySem.W.mg_of X G co_MAX_LEAST⟩,
    c_MAX_MOST := ⟨_, PySem.W.mg_of X G co_MAX_MOST⟩,
    c_MAX_STEP := ⟨_, PySem.W.mg_of X G co_MAX_STEP⟩,
    c_MAX_THIRDS := ⟨_, PySem.W.mg_of X G co_MAX_THIRDS⟩,
    c_MAX_VALUES := ⟨_, PySem.W.mg_of X G co_MAX_VALUES⟩,
    c_NAMES := PySem.W.mg_of X G co_NAMES,
    d_NAMES := fun S => dv_written (vs := [.str "aperture", .str "time", .str "sensitivity"]) cl_NAMES rfl rfl (by show 3 ≤ sizeLine; decide) (.cons ⟨_, rfl⟩ (.cons ⟨_, rfl⟩ (.cons ⟨_, rfl⟩ (.nil)))) (⟨rfl, ⟨rfl, ⟨rfl, trivial⟩⟩⟩),
    c_SLASH := ⟨_, PySem.W.mg_of X G co_SLASH⟩,
    c_SPACE := ⟨_, PySem.W.mg_of X G co_SPACE⟩,
    c_THIRDS := ⟨_, PySem.W.mg_of X G co_THIRDS⟩,
    m_abs := PySem.W.mg_none_of X G z_abs,
    m_all := PySem.W.mg_none_of X G z_all,
    m_bool := PySem.W.mg_none_of X G z_bool,
    m_int := PySem.W.mg_none_of X G z_int,
    m_isinstance := PySem.W.mg_none_of X G z_isinstance,
    m_len := PySem.W.mg_none_of X G z_len,
    m_range := PySem.W.mg_none_of X G z_range,
    m_str := PySem.W.mg_none_of X G z_str,
    m_tuple := PySem.W.mg_none_of X G z_tuple }
  exact ⟨_, fun s v => .of_eq rfl, fun base _ _ => ok_law T⟩
end Lw
open PySem PySem.W PyProof.Rows
theorem PySem.Challenge.cw_lightsteps_k68_formats_holds : PySem.Challenge.rw_lightsteps_k68_formats.Holds := by
  w_on; o_law; k_head; (case hw => w_witness2)
  k_fill
  refine PD.walkD (l := PySem.Challenge.rw_lightsteps_k68_formats) (k := 7) (F := Lw.F_law) rfl rfl ⟨rfl, by decide, by decide⟩ (fun w h Y => PySem.W.kIn_of Y) ?F Lw.law_true
  case F =>
    intro w mg fa h KX G hmg
    refine' Lw.all_mk KX G hmg ?a_is_int ?l_is_int ?c_is_int ?k_is_int ?a_is_wheel ?l_is_wheel ?c_is_wheel ?k_is_wheel ?a_is_camera ?l_is_camera ?c_is_camera ?k_is_camera ?a_check_camera ?l_check_camera ?c_check_camera ?k_check_camera ?a_join_camera ?l_join_camera ?c_join_camera ?k_join_camera ?a_format_camera ?l_format_camera ?c_format_camera ?k_format_camera ?a_read_int ?l_read_int ?c_read_int ?k_read_int ?a_read_wheel ?l_read_wheel ?c_read_wheel ?k_read_wheel ?a_parse_camera ?l_parse_camera ?c_parse_camera ?k_parse_camera ?a_join_stops ?l_join_stops ?c_join_stops ?k_join_stops ?a_stops ?l_stops ?c_stops ?k_stops ?a_read_stops ?l_read_stops ?c_read_stops ?k_read_stops ?a_law_drawn ?l_law_drawn ?c_law_drawn ?k_law_drawn ?a_law_camera ?l_law_camera ?c_law_camera ?k_law_camera ?a_law_badcamera ?l_law_badcamera ?c_law_badcamera ?k_law_badcamera ?a_law_text ?l_law_text ?c_law_text ?k_law_text ?a_law_stops ?l_law_stops ?c_law_stops ?k_law_stops ?a_law_again ?l_law_again ?c_law_again ?k_law_again ?a_law_rejected ?l_law_rejected ?c_law_rejected ?k_law_rejected ?a_law_refused ?l_law_refused ?c_law_refused ?k_law_refused ?a_law ?l_law ?c_law ?k_law ?ax_InvalidCamera ?x_InvalidCamera ?kx_InvalidCamera ?bx_InvalidCamera ?t_InvalidCamera ?ax_InvalidNumber ?x_InvalidNumber ?kx_InvalidNumber ?bx_InvalidNumber ?t_InvalidNumber ?ax_ParseError ?x_ParseError ?kx_ParseError ?bx_ParseError ?t_ParseError ?ax_LightError ?bx_LightError ?t_LightError ?sb_InvalidCamera_InvalidCamera ?sb_InvalidCamera_InvalidNumber ?sb_InvalidNumber_InvalidCamera ?sb_InvalidNumber_InvalidNumber ?sb_ParseError_ParseError ?ehn ?eht ?ehd_InvalidCamera ?ehd_InvalidNumber ?ehd_LightError ?ehd_ParseError ?ehg_InvalidCamera ?ehk_InvalidCamera ?eha_InvalidCamera ?ehm_InvalidCamera ?em_InvalidCamera_LightError ?ehg_InvalidNumber ?ehk_InvalidNumber ?eha_InvalidNumber ?ehm_InvalidNumber ?em_InvalidNumber_LightError ?ehg_ParseError ?ehk_ParseError ?eha_ParseError ?ehm_ParseError ?em_ParseError_LightError ?co_DASH ?co_DIGITS ?co_MAX_DIGITS ?co_MAX_LEAST ?co_MAX_MOST ?co_MAX_STEP ?co_MAX_THIRDS ?co_MAX_VALUES ?co_NAMES ?cl_NAMES ?co_SLASH ?co_SPACE ?co_THIRDS ?z_abs ?z_all ?z_bool ?z_int ?z_isinstance ?z_len ?z_range ?z_str ?z_tuple
    (case a_is_int => k_is)
    (case l_is_int => k_is)
    (case c_is_int => k_is)
    (case k_is_int => k_is)
    (case a_is_wheel => k_is)
    (case l_is_wheel => k_is)
    (case c_is_wheel => k_is)
    (case k_is_wheel => k_is)
    (case a_is_camera => k_is)
    (case l_is_camera => k_is)
    (case c_is_camera => k_is)
    (case k_is_camera => k_is)
    (case a_check_camera => k_is)
    (case l_check_camera => k_is)
    (case c_check_camera => k_is)
    (case k_check_camera => k_is)
    (case a_join_camera => k_is)
    (case l_join_camera => k_is)
    (case c_join_camera => k_is)
    (case k_join_camera => k_is)
    (case a_format_camera => k_is)
    (case l_format_camera => k_is)
    (case c_format_camera => k_is)
    (case k_format_camera => k_is)
    (case a_read_int => k_is)
    (case l_read_int => k_is)
    (case c_read_int => k_is)
    (case k_read_int => k_is)
    (case a_read_wheel => k_is)
    (case l_read_wheel => k_is)
    (case c_read_wheel => k_is)
    (case k_read_wheel => k_is)
    (case a_parse_camera => k_is)
    (case l_parse_camera => k_is)
    (case c_parse_camera => k_is)
    (case k_parse_camera => k_is)
    (case a_join_stops => k_is)
    (case l_join_stops => k_is)
    (case c_join_stops => k_is)
    (case k_join_stops => k_is)
    (case a_stops => k_is)
    (case l_stops => k_is)
    (case c_stops => k_is)
    (case k_stops => k_is)
    (case a_read_stops => k_is)
    (case l_read_stops => k_is)
    (case c_read_stops => k_is)
    (case k_read_stops => k_is)
    (case a_law_drawn => k_is)
    (case l_law_drawn => k_is)
    (case c_law_drawn => k_is)
    (case k_law_drawn => k_is)
    (case a_law_camera => k_is)
    (case l_law_camera => k_is)
    (case c_law_camera => k_is)
    (case k_law_camera => k_is)
    (case a_law_badcamera => k_is)
    (case l_law_badcamera => k_is)
    (case c_law_badcamera => k_is)
    (case k_law_badcamera => k_is)
    (case a_law_text => k_is)
    (case l_law_text => k_is)
    (case c_law_text => k_is)
    (case k_law_text => k_is)
    (case a_law_stops => k_is)
    (case l_law_stops => k_is)
    (case c_law_stops => k_is)
    (case k_law_stops => k_is)
    (case a_law_again => k_is)
    (case l_law_again => k_is)
    (case c_law_again => k_is)
    (case k_law_again => k_is)
    (case a_law_rejected => k_is)
    (case l_law_rejected => k_is)
    (case c_law_rejected => k_is)
    (case k_law_rejected => k_is)
    (case a_law_refused => k_is)
    (case l_law_refused => k_is)
    (case c_law_refused => k_is)
    (case k_law_refused => k_is)
    (case a_law => k_is)
    (case l_law => k_is)
    (case c_law => k_is)
    (case k_law => k_is)
    (case ax_InvalidCamera => k_is)
    (case x_InvalidCamera => k_exc)
    (case kx_InvalidCamera => k_is)
    (case bx_InvalidCamera => k_is)
    (case t_InvalidCamera => k_is)
    (case ax_InvalidNumber => k_is)
    (case x_InvalidNumber => k_exc)
    (case kx_InvalidNumber => k_is)
    (case bx_InvalidNumber => k_is)
    (case t_InvalidNumber => k_is)
    (case ax_ParseError => k_is)
    (case x_ParseError => k_exc)
    (case kx_ParseError => k_is)
    (case bx_ParseError => k_is)
    (case t_ParseError => k_is)
    (case ax_LightError => k_is)
    (case bx_LightError => k_is)
    (case t_LightError => k_is)
    (case sb_InvalidCamera_InvalidCamera => k_is)
    (case sb_InvalidCamera_InvalidNumber => k_is)
    (case sb_InvalidNumber_InvalidCamera => k_is)
    (case sb_InvalidNumber_InvalidNumber => k_is)
    (case sb_ParseError_ParseError => k_is)
    (case ehn => k_is)
    (case eht => k_is)
    (case ehd_InvalidCamera => k_is)
    (case ehd_InvalidNumber => k_is)
    (case ehd_LightError => k_is)
    (case ehd_ParseError => k_is)
    (case ehg_InvalidCamera => k_is)
    (case ehk_InvalidCamera => k_is)
    (case eha_InvalidCamera => k_is)
    (case ehm_InvalidCamera => k_is)
    (case em_InvalidCamera_LightError => k_is)
    (case ehg_InvalidNumber => k_is)
    (case ehk_InvalidNumber => k_is)
    (case eha_InvalidNumber => k_is)
    (case ehm_InvalidNumber => k_is)
    (case em_InvalidNumber_LightError => k_is)
    (case ehg_ParseError => k_is)
    (case ehk_ParseError => k_is)
    (case eha_ParseError => k_is)
    (case ehm_ParseError => k_is)
    (case em_ParseError_LightError => k_is)
    (case co_DASH => k_is)
    (case co_DIGITS => k_is)
    (case co_MAX_DIGITS => k_is)
    (case co_MAX_LEAST => k_is)
    (case co_MAX_MOST => k_is)
    (case co_MAX_STEP => k_is)
    (case co_MAX_THIRDS => k_is)
    (case co_MAX_VALUES => k_is)
    (case co_NAMES => k_is)
    (case cl_NAMES => k_is)
    (case co_SLASH => k_is)
    (case co_SPACE => k_is)
    (case co_THIRDS => k_is)
    (case z_abs => k_is)
    (case z_all => k_is)
    (case z_bool => k_is)
    (case z_int => k_is)
    (case z_isinstance => k_is)
    (case z_len => k_is)
    (case z_range => k_is)
    (case z_str => k_is)
    (case z_tuple => k_is)
