import PyProof.Rows.All
import HandS.ForMost
import HandS.ForExc
import HandS.IsInst
import HandS.Zip
import HandS.Wide
import HandS.TupAny
import HandS.TupMul
import HandS.Conv
import HandS.Strs
import HandS.Deep
import HandS.Style
import KE.DataMinMax
import KE.SortData
import HandS.ExcIs
import KE.GoesMore
import KE.GoesEnum
import HandS.TupSets
import HandS.More
import HandS.Codes
import HandS.SlotsOwn
import PySem.Challenge.RW_lightsteps_k99_repeated_calls
set_option Elab.async false
set_option autoImplicit false
set_option linter.all false
set_option maxRecDepth 100000
set_option maxHeartbeats 4000000
namespace PD
open PySem L2

/-! ### results -/
abbrev D := PyData
inductive Res (α : Type) where
  | ok (a : α)
  | err (c : Str)
  | bad
def Res.bind {α β : Type} (r : Res α) (k : α → Res β) : Res β := match r with
  | .ok a => k a
  | .err c => .err c
  | .bad => .bad
theorem bind_ok {α β : Type} (a : α) (k : α → Res β) : (Res.ok a).bind k = k a := rfl
theorem bind_err {α β : Type} (c : Str) (k : α → Res β) : (Res.err c : Res α).bind k = .err c := rfl
theorem bind_bad {α β : Type} (k : α → Res β) : (Res.bad : Res α).bind k = .bad := rfl
def kD : Key → D
  | .inl i => .int i
  | .inr x => .str x

/-! ### data in a heap -/
/-- a list that is read: tracked, known, or a plain list of the written part -/
def LsAt (K : PySem.W.Frag) (S : Hp) (a : Addr) (xs : List V) : Prop :=
  Rd S a (.lst xs) ∨ ∃ (its : List Value) (n : Nat), K.lookup a = some { cls := .type "list", data := .seq its.toArray n } ∧ its.length ≤ sizeLine ∧ Vals xs its
theorem rd_same {S S' : Hp} {a : Addr} {u : HO} (e : Same S S') (h : Rd S a u) : Rd S' a u := by
  rcases h with h | ⟨o, h⟩
  · exact .inl (e _ _ h)
  · exact .inr ⟨o, e _ _ h⟩
theorem ls_of {K : PySem.W.Frag} {S : Hp} {a : Addr} {xs : List V} (h : S a = some (.lst xs)) : LsAt K S a xs := .inl (.inl h)
theorem ls_mono {K : PySem.W.Frag} {S S' : Hp} {a : Addr} {xs : List V} (e : Same S S') (h : LsAt K S a xs) : LsAt K S' a xs := by
  rcases h with (h | ⟨o, h⟩) | h
  · exact .inl (.inl (e _ _ h))
  · exact .inl (.inr ⟨o, e _ _ h⟩)
  · exact .inr h
theorem ls_sq {K : PySem.W.Frag} {S : Hp} {a : Addr} {xs : List V} (h : LsAt K S a xs) : SqL K S a xs := by
  rcases h with h | ⟨its, n, h1, h2, h3⟩
  · exact .inl h
  · exact .inr ⟨_, its.toArray, n, h1, rfl, rfl, rfl, by simpa using h2, by simpa using h3⟩
/-- tuples of ints alone are tracked (all but the one of signs) -/
def allInt (ds : List D) : Bool := ds.all fun d => match d with
  | .int _ => true
  | _ => false
def isSigns : List D → Bool
  | [.int a, .int b, .int c] => decide (a = 1) && decide (b = 1) && decide (c = -1)
  | _ => false
def keyT (ds : List D) : Bool := allInt ds && !isSigns ds
def TpAt (K : PySem.W.Frag) (S : Hp) (a : Addr) (xs : List V) (ds : List D) : Prop := SqT K S a xs ∧ (keyT ds = true → S a = some (.tup xs))
theorem tp_of {K : PySem.W.Frag} {S : Hp} {a : Addr} {xs : List V} {ds : List D} (h : S a = some (.tup xs)) : TpAt K S a xs ds := ⟨SqT.of h, fun _ => h⟩
mutual
def DV (K : PySem.W.Frag) (S : Hp) : V → D → Prop
  | v, .none => v = .non
  | v, .bool b => v = .bl b
  | v, .int i => v = .int i
  | v, .str x => v = .str x
  | v, .list ds => ∃ a xs, v = .ref a ∧ LsAt K S a xs ∧ DVs K S xs ds
  | v, .tuple ds => ∃ a xs, v = .ref a ∧ TpAt K S a xs ds ∧ DVs K S xs ds
  | v, .dict kvs => ∃ a, v = .ref a ∧ ((∃ es : List (Key × V), Rd S a (.dK es) ∧ kvs.map (·.1) = es.map (fun e => kD e.1) ∧ DVp K S (es.map (·.2)) kvs) ∨
      (∃ es : List (List Key × V), Rd S a (.dT es) ∧ kvs.map (·.1) = es.map (fun e => PyData.tuple (e.1.map kD)) ∧ DVp K S (es.map (·.2)) kvs))
def DVs (K : PySem.W.Frag) (S : Hp) : List V → List D → Prop
  | [], [] => True
  | v :: vs, d :: ds => DV K S v d ∧ DVs K S vs ds
  | [], _ :: _ => False
  | _ :: _, [] => False
def DVp (K : PySem.W.Frag) (S : Hp) : List V → List (D × D) → Prop
  | [], [] => True
  | v :: vs, (_, d) :: ds => DV K S v d ∧ DVp K S vs ds
  | [], _ :: _ => False
  | _ :: _, [] => False
end
example (K : PySem.W.Frag) (S : Hp) (v : V) (i : Int) : DV K S v (.int i) = (v = .int i) := rfl
theorem DV_tuple (K : PySem.W.Frag) (S : Hp) (v : V) (ds : List D) : DV K S v (.tuple ds) = (∃ a xs, v = .ref a ∧ TpAt K S a xs ds ∧ DVs K S xs ds) := by rw [DV]
mutual
theorem DV.mono {K : PySem.W.Frag} {S S' : Hp} (e : Same S S') : ∀ (d : D) (v : V), DV K S v d → DV K S' v d
  | .none, v, h => by rw [DV] at h ⊢; exact h
  | .bool b, v, h => by rw [DV] at h ⊢; exact h
  | .int b, v, h => by rw [DV] at h ⊢; exact h
  | .str b, v, h => by rw [DV] at h ⊢; exact h
  | .list ds, v, h => by
    rw [DV] at h ⊢
    obtain ⟨a, xs, h1, h2, h3⟩ := h
    exact ⟨a, xs, h1, ls_mono e h2, DVs.mono e ds xs h3⟩
  | .tuple ds, v, h => by
    rw [DV] at h ⊢
    obtain ⟨a, xs, h1, h2, h3⟩ := h
    refine ⟨a, xs, h1, ⟨?_, fun z => e _ _ (h2.2 z)⟩, DVs.mono e ds xs h3⟩
    rcases h2.1 with (h | ⟨o, h⟩) | h
    · exact .inl (.inl (e _ _ h))
    · exact .inl (.inr ⟨o, e _ _ h⟩)
    · exact .inr h
  | .dict kvs, v, h => by
    rw [DV] at h ⊢
    obtain ⟨a, h1, h2⟩ := h
    refine ⟨a, h1, ?_⟩
    rcases h2 with ⟨es, h2, h3, h4⟩ | ⟨es, h2, h3, h4⟩
    · exact .inl ⟨es, rd_same e h2, h3, DVp.mono e kvs _ h4⟩
    · exact .inr ⟨es, rd_same e h2, h3, DVp.mono e kvs _ h4⟩
theorem DVs.mono {K : PySem.W.Frag} {S S' : Hp} (e : Same S S') : ∀ (ds : List D) (vs : List V), DVs K S vs ds → DVs K S' vs ds
  | [], [], _ => by rw [DVs]; trivial
  | d :: ds, v :: vs, h => by
    rw [DVs] at h ⊢
    exact ⟨DV.mono e d v h.1, DVs.mono e ds vs h.2⟩
  | [], _ :: _, h => by rw [DVs] at h; exact h.elim
  | _ :: _, [], h => by rw [DVs] at h; exact h.elim
theorem DVp.mono {K : PySem.W.Frag} {S S' : Hp} (e : Same S S') : ∀ (ds : List (D × D)) (vs : List V), DVp K S vs ds → DVp K S' vs ds
  | [], [], _ => by rw [DVp]; trivial
  | (_, d) :: ds, v :: vs, h => by
    rw [DVp] at h ⊢
    exact ⟨DV.mono e d v h.1, DVp.mono e ds vs h.2⟩
  | [], _ :: _, h => by rw [DVp] at h; exact h.elim
  | _ :: _, [], h => by rw [DVp] at h; exact h.elim
end
end PD
namespace PD
open PySem L2

/-! ### two heaps: what is shared (S) within what is tracked (H) -/
structure Ext (S H S' H' : Hp) : Prop where
  s : Same S S'
  h : Same H H'
  sh : Same S' H'
  old : ∀ x, H x ≠ none → S' x = S x
theorem same_upd {H : Hp} {p : Addr} {o : HO} (h : H p = none) : Same H (upd H p o) := fun b x e => by
  rw [upd_ne (ne_of_none e h)]
  exact e
theorem Ext.refl {S H : Hp} (h : Same S H) : Ext S H S H := ⟨Same.refl S, Same.refl H, h, fun _ _ => rfl⟩
theorem Ext.trans {S H S1 H1 S2 H2 : Hp} (a : Ext S H S1 H1) (b : Ext S1 H1 S2 H2) : Ext S H S2 H2 :=
  ⟨a.s.trans b.s, a.h.trans b.h, b.sh, fun x hx => by
    refine (b.old x ?_).trans (a.old x hx)
    cases e : H x with
    | none => exact absurd e hx
    | some o => rw [a.h x o e]; exact (fun z => nomatch z)⟩
theorem same_upd2 {S H : Hp} {p : Addr} {o : HO} (h : Same S H) : Same (upd S p o) (upd H p o) := fun b x e => by
  by_cases hb : b = p
  · subst hb
    rw [upd_same] at e ⊢
    exact e
  · rw [upd_ne hb] at e ⊢
    exact h b x e
theorem Ext.new {S H : Hp} {p : Addr} {o : HO} (h : Same S H) (hp : H p = none) : Ext S H (upd S p o) (upd H p o) :=
  ⟨same_upd (h.free hp), same_upd hp, same_upd2 h, fun x hx => upd_ne fun z => hx (by rw [z]; exact hp)⟩
theorem Ext.same {S H S' H' : Hp} (x : Ext S H S' H') : Same S H' := x.s.trans x.sh

/-! ### what is wanted of a result -/
def PostG {α W : Type} (mg : Str → Option Value) (E : XK) (S H : Hp) (R : Hp → W → α → Prop) (r : Res α) (Q : W → Hp → Prop) : Prop := match r with
  | .ok a => ∀ w S' H', Ext S H S' H' → R S' w a → Q w H'
  | .err c => ∀ u H', mg c = some u → Same H H' → E u none H'
  | .bad => False
section
variable {α β W Z : Type} {mg : Str → Option Value} {E : XK} {S H S' H' : Hp}
theorem PostG.mono {R : Hp → W → α → Prop} {r : Res α} {Q : W → Hp → Prop} (x : Ext S H S' H') (h : PostG mg E S H R r Q) : PostG mg E S' H' R r Q := by
  cases r with
  | ok a => exact fun w S2 H2 x2 hr => h w S2 H2 (x.trans x2) hr
  | err c => exact fun u H2 e sm => h u H2 e (x.h.trans sm)
  | bad => exact h
theorem PostG.bind {R1 : Hp → W → α → Prop} {R2 : Hp → Z → β → Prop} {r : Res α} {k : α → Res β} {Q : Z → Hp → Prop} {Q1 : W → Hp → Prop} (h : PostG mg E S H R2 (r.bind k) Q)
    (hk : ∀ a w S' H', Ext S H S' H' → R1 S' w a → PostG mg E S' H' R2 (k a) Q → Q1 w H') : PostG mg E S H R1 r Q1 := by
  cases r with
  | ok a => exact fun w S2 H2 x2 hr => hk a w S2 H2 x2 hr (PostG.mono x2 h)
  | err c => exact h
  | bad => exact h
theorem PostG.ok {R : Hp → W → α → Prop} {a : α} {Q : W → Hp → Prop} (h : PostG mg E S H R (.ok a) Q) {w : W} (x : Ext S H S' H') (hr : R S' w a) : Q w H' := h w S' H' x hr
theorem PostG.ok0 {R : Hp → W → α → Prop} {a : α} {Q : W → Hp → Prop} (h : PostG mg E S H R (.ok a) Q) {w : W} (x : Same S H) (hr : R S w a) : Q w H := h w S H (Ext.refl x) hr
end

/-! ### slots -/
inductive Slot where
  | un
  | d (x : D)
  | own (xs : List D)
  | ownK (kvs : List (Key × D))
  | ownT (kvs : List (List Key × D))
  | raw (v : V)
abbrev DEnv := List Slot
structure RelE (K : PySem.W.Frag) (S H : Hp) (σ : St) (ρ : DEnv) : Prop where
  sh : Same S H
  len : σ.length = ρ.length
  dt : ∀ (i : Nat) (x : D), ρ[i]? = some (Slot.d x) → ∃ v, σ[i]? = some (some v) ∧ DV K S v x
  rw : ∀ (i : Nat) (v : V), ρ[i]? = some (Slot.raw v) → σ[i]? = some (some v)
theorem RelE.mono {K : PySem.W.Frag} {S H S' H' : Hp} {σ : St} {ρ : DEnv} (r : RelE K S H σ ρ) (x : Ext S H S' H') : RelE K S' H' σ ρ :=
  ⟨x.sh, r.len, fun i y e => let ⟨v, h1, h2⟩ := r.dt i y e; ⟨v, h1, h2.mono x.s⟩, r.rw⟩

/-! ### judgements -/
abbrev EqB : Hp → Bool → Bool → Prop := fun _ b c => b = c
structure PD (K : PySem.W.Frag) (mg : Str → Option Value) (X : Cx) (E : XK) (e : Expr) (t : TE) (f : DEnv → Res D) : Prop where
  pe : PE X e t
  sd : ∀ (S H : Hp) (σ : St) (ρ : DEnv) (Q : VK), RelE K S H σ ρ → PostG mg E S H (DV K) (f ρ) Q → t σ H Q
structure TD (K : PySem.W.Frag) (mg : Str → Option Value) (X : Cx) (E : XK) (e : Expr) (t : TT) (f : DEnv → Res Bool) : Prop where
  pe : PT X e t
  sd : ∀ (S H : Hp) (σ : St) (ρ : DEnv) (Q : Bool → Hp → Prop), RelE K S H σ ρ → PostG mg E S H EqB (f ρ) Q → t σ H Q
structure WD (K : PySem.W.Frag) (mg : Str → Option Value) (X : Cx) (E : XK) (e : Expr) (t : TT) (f : DEnv → Res Bool) : Prop where
  pe : PW X e t
  sd : ∀ (S H : Hp) (σ : St) (ρ : DEnv) (Q : Bool → Hp → Prop), RelE K S H σ ρ → PostG mg E S H EqB (f ρ) Q → t σ H Q
structure AD (K : PySem.W.Frag) (mg : Str → Option Value) (X : Cx) (E : XK) (es : List Expr) (t : TA) (f : DEnv → Res (List D)) : Prop where
  pe : PA X es t
  sd : ∀ (S H : Hp) (σ : St) (ρ : DEnv) (Q : List V → Hp → Prop), RelE K S H σ ρ → PostG mg E S H (DVs K) (f ρ) Q → t σ H Q

section
variable {K : PySem.W.Frag} {mg : Str → Option Value} {X : Cx} {E : XK}
/-! ### names, constants -/
def fVar (i : Nat) : DEnv → Res D := fun ρ => match ρ[i]? with
  | some (Slot.d x) => .ok x
  | _ => .bad
theorem pd_var (i : Nat) {x : Str} {pos : Pos} (h : PE X (.Name x pos) (tVar i)) : PD K mg X E (.Name x pos) (tVar i) (fVar i) := ⟨h, fun S H σ ρ Q r h => by
  unfold fVar at h
  split at h
  · rename_i x e
    obtain ⟨v, h1, h2⟩ := r.dt i x e
    exact ⟨v, h1, h.ok0 r.sh h2⟩
  · exact h.elim⟩
theorem pdv (i : Nat) {x : Str} {pos : Pos} (hN : X.N[i]? = some x := by rfl) (hv : Vis X.env.scope x := by first | exact Or.inl rfl | exact Or.inr (Or.inl rfl) | exact Or.inr (Or.inr rfl)) (hd : (x == ("__debug__" : Str)) = false := by decide)
    (hcd : (x == ("__classdict__" : Str)) = false := by decide) : PD K mg X E (.Name x pos) (tVar i) (fVar i) := pd_var i (pe_var hN hv hd hcd)
def fC (d : D) : DEnv → Res D := fun _ => .ok d
theorem pd_c {e : Expr} {v : V} {d : D} (h : PE X e (tC v)) (hd : ∀ S, DV K S v d) : PD K mg X E e (tC v) (fC d) := ⟨h, fun S H σ ρ Q r h => h.ok0 r.sh (hd S)⟩
theorem pd_int {i j pos} : PD K mg X E (.Constant (.int i) j pos) (tC (.int i)) (fC (.int i)) := pd_c pe_int fun _ => rfl
theorem pd_bl {b j pos} : PD K mg X E (.Constant (.bool b) j pos) (tC (.bl b)) (fC (.bool b)) := pd_c pe_bl fun _ => rfl
theorem pd_non {j pos} : PD K mg X E (.Constant .none j pos) (tC .non) (fC .none) := pd_c pe_non fun _ => rfl
theorem pd_str {x j pos} : PD K mg X E (.Constant (.str x) j pos) (tC (.str x)) (fC (.str x)) := pd_c pe_str fun _ => rfl

/-! ### operators -/
def OpS (K : PySem.W.Frag) (mg : Str → Option Value) (E : XK) (r : R2) (g : D → D → Res D) : Prop := ∀ (S H : Hp) (x y : V) (a b : D) (Q : VK), Same S H → DV K S x a → DV K S y b → PostG mg E S H (DV K) (g a b) Q → r x y H Q
def fBin (g : D → D → Res D) (f1 f2 : DEnv → Res D) : DEnv → Res D := fun ρ => (f1 ρ).bind fun a => (f2 ρ).bind fun b => g a b
variable {a b c : Expr} {ta tb tc : TE} {fa fb fc : DEnv → Res D} {pos : Pos}
theorem bin_sd {r : R2} {g : D → D → Res D} (hs : OpS K mg E r g) (ha : PD K mg X E a ta fa) (hb : PD K mg X E b tb fb) (S H : Hp) (σ : St) (ρ : DEnv) (Q : VK) (rl : RelE K S H σ ρ)
    (h : PostG mg E S H (DV K) (fBin g fa fb ρ) Q) : tOp r ta tb σ H Q := by
  refine ha.sd S H σ ρ _ rl (h.bind fun x v S1 H1 x1 d1 h1 => ?_)
  refine hb.sd S1 H1 σ ρ _ (rl.mono x1) (h1.bind fun y u S2 H2 x2 d2 h2 => ?_)
  exact hs S2 H2 v u x y Q x2.sh (d1.mono x2.s) d2 h2
theorem pd_op {op : Operator} {r : R2} {g : D → D → Res D} (ho : OpR X (binaryOp op) r) (hs : OpS K mg E r g) (ha : PD K mg X E a ta fa) (hb : PD K mg X E b tb fb) : PD K mg X E (.BinOp a op b pos) (tOp r ta tb) (fBin g fa fb) :=
  ⟨pe_op ho ha.pe hb.pe, bin_sd hs ha hb⟩
theorem pd_cmp {op : CmpOp} {r : R2} {g : D → D → Res D} (ho : OpR X (compareOp op) r) (hs : OpS K mg E r g) (ha : PD K mg X E a ta fa) (hb : PD K mg X E b tb fb) (hm : behindInMarks op b = false := by first | exact nomark _ | rfl) :
    PD K mg X E (.Compare a [op] [b] pos) (tOp r ta tb) (fBin g fa fb) := ⟨pe_cmpR ho ha.pe hb.pe hm, bin_sd hs ha hb⟩
/-- the truth of a value that is a bool -/
def asB : D → Res Bool
  | .bool b => .ok b
  | _ => .bad
def fTest (f : DEnv → Res D) : DEnv → Res Bool := fun ρ => (f ρ).bind asB
theorem test_sd {e : Expr} {te : TE} {f : DEnv → Res D} (he : PD K mg X E e te f) (S H : Hp) (σ : St) (ρ : DEnv) (Q : Bool → Hp → Prop) (rl : RelE K S H σ ρ) (h : PostG mg E S H EqB (fTest f ρ) Q) : te σ H fun x H1 => ∃ k, x = .bl k ∧ Q k H1 := by
  refine he.sd S H σ ρ _ rl (h.bind fun x v S1 H1 x1 d1 h1 => ?_)
  cases x with
  | bool k => exact ⟨k, d1, h1.ok0 x1.sh rfl⟩
  | _ => exact h1.elim
theorem td_cmp {op : CmpOp} {r : R2} {g : D → D → Res D} (ho : OpR X (compareOp op) r) (hs : OpS K mg E r g) (ha : PD K mg X E a ta fa) (hb : PD K mg X E b tb fb) (hm : behindInMarks op b = false := by first | exact nomark _ | rfl) :
    TD K mg X E (.Compare a [op] [b] pos) (tTest (tOp r ta tb)) (fTest (fBin g fa fb)) :=
  ⟨pt_cmpR ho ha.pe hb.pe hm, fun S H σ ρ Q rl h => test_sd (pd_cmp (pos := pos) ho hs ha hb hm) S H σ ρ Q rl h⟩
theorem td_val {e : Expr} {te : TE} {f : DEnv → Res D} (he : PD K mg X E e te f) (hw : ∀ whole, isTrue e X.env whole = (do let v ← whole; standAt e.pos; holding [v] (truthy v)) := by intro _; rfl) : TD K mg X E e (tB te) (fTest f) :=
  ⟨pt_val he.pe hw, fun S H σ ρ Q rl h => test_sd he S H σ ρ Q rl h⟩
/-! ### not, and, or, if else -/
def fNot (f : DEnv → Res Bool) : DEnv → Res Bool := fun ρ => (f ρ).bind fun b => .ok (!b)
theorem td_not {tA : TT} {f : DEnv → Res Bool} (ha : TD K mg X E a tA f) : TD K mg X E (.UnaryOp .Not a pos) (tNot tA) (fNot f) :=
  ⟨pt_not ha.pe, fun S H σ ρ Q rl h => ha.sd S H σ ρ _ rl (h.bind fun b w S1 H1 x1 e h1 => by cases e; exact h1.ok0 x1.sh rfl)⟩
def fAnd (f g : DEnv → Res Bool) : DEnv → Res Bool := fun ρ => (f ρ).bind fun b => if b = true then g ρ else .ok false
def fOr (f g : DEnv → Res Bool) : DEnv → Res Bool := fun ρ => (f ρ).bind fun b => if b = true then .ok true else g ρ
variable {tA tB' : TT} {gA gB : DEnv → Res Bool} {rest : List Expr}
theorem WD.td {e : Expr} {t : TT} {f : DEnv → Res Bool} (h : WD K mg X E e t f) : TD K mg X E e t f := ⟨h.pe.pt, h.sd⟩
theorem wd_and1 (ha : TD K mg X E a tA gA) : WD K mg X E (.BoolOp .And [a] pos) tA gA := ⟨pw_and1 ha.pe, ha.sd⟩
theorem wd_or1 (ha : TD K mg X E a tA gA) : WD K mg X E (.BoolOp .Or [a] pos) tA gA := ⟨pw_or1 ha.pe, ha.sd⟩
theorem wd_and (ha : TD K mg X E a tA gA) (hb : WD K mg X E (.BoolOp .And (b :: rest) pos) tB' gB) : WD K mg X E (.BoolOp .And (a :: b :: rest) pos) (tAnd tA tB') (fAnd gA gB) :=
  ⟨pw_and ha.pe hb.pe, fun S H σ ρ Q rl h => ha.sd S H σ ρ _ rl (h.bind fun k w S1 H1 x1 e h1 => by
    cases e
    cases k with
    | true => exact hb.sd S1 H1 σ ρ Q (rl.mono x1) h1
    | false => exact h1.ok0 x1.sh rfl)⟩
theorem wd_or (ha : TD K mg X E a tA gA) (hb : WD K mg X E (.BoolOp .Or (b :: rest) pos) tB' gB) : WD K mg X E (.BoolOp .Or (a :: b :: rest) pos) (tOr tA tB') (fOr gA gB) :=
  ⟨pw_or ha.pe hb.pe, fun S H σ ρ Q rl h => ha.sd S H σ ρ _ rl (h.bind fun k w S1 H1 x1 e h1 => by
    cases e
    cases k with
    | false => exact hb.sd S1 H1 σ ρ Q (rl.mono x1) h1
    | true => exact h1.ok0 x1.sh rfl)⟩
/-- .. as values, bools -/
def fAndV (f g : DEnv → Res D) : DEnv → Res D := fun ρ => (fTest f ρ).bind fun b => if b = true then g ρ else .ok (.bool false)
def fOrV (f g : DEnv → Res D) : DEnv → Res D := fun ρ => (fTest f ρ).bind fun b => if b = true then .ok (.bool true) else g ρ
def fNotV (f : DEnv → Res D) : DEnv → Res D := fun ρ => (fTest f ρ).bind fun b => .ok (.bool !b)
theorem pd_one {op} {t : TE} (h : PD K mg X E a t fa) : PD K mg X E (.BoolOp op [a] pos) t fa := ⟨pe_one h.pe, h.sd⟩
theorem pd_and (ha : PD K mg X E a ta fa) (hb : PD K mg X E (.BoolOp .And (b :: rest) pos) tb fb) : PD K mg X E (.BoolOp .And (a :: b :: rest) pos) (tAndV ta tb) (fAndV fa fb) :=
  ⟨pe_and ha.pe hb.pe, fun S H σ ρ Q rl h => by
    refine ha.sd S H σ ρ _ rl ?_
    unfold fAndV fTest at h
    cases e : fa ρ with
    | bad => rw [e] at h; exact h
    | err c => rw [e] at h; exact h
    | ok x =>
      rw [e] at h
      intro v S1 H1 x1 d1
      cases x with
      | bool k =>
        refine ⟨k, d1, ?_⟩
        cases k with
        | true => exact hb.sd S1 H1 σ ρ Q (rl.mono x1) (h.mono x1)
        | false => exact PostG.ok0 (PostG.mono x1 h) x1.sh rfl
      | _ => exact h.elim⟩
theorem pd_or (ha : PD K mg X E a ta fa) (hb : PD K mg X E (.BoolOp .Or (b :: rest) pos) tb fb) : PD K mg X E (.BoolOp .Or (a :: b :: rest) pos) (tOrV ta tb) (fOrV fa fb) :=
  ⟨pe_or ha.pe hb.pe, fun S H σ ρ Q rl h => by
    refine ha.sd S H σ ρ _ rl ?_
    unfold fOrV fTest at h
    cases e : fa ρ with
    | bad => rw [e] at h; exact h
    | err c => rw [e] at h; exact h
    | ok x =>
      rw [e] at h
      intro v S1 H1 x1 d1
      cases x with
      | bool k =>
        refine ⟨k, d1, ?_⟩
        cases k with
        | false => exact hb.sd S1 H1 σ ρ Q (rl.mono x1) (h.mono x1)
        | true => exact PostG.ok0 (PostG.mono x1 h) x1.sh rfl
      | _ => exact h.elim⟩
theorem pd_not (ha : PD K mg X E a ta fa) : PD K mg X E (.UnaryOp .Not a pos) (tNotV ta) (fNotV fa) :=
  ⟨pe_not ha.pe, fun S H σ ρ Q rl h => by
    refine ha.sd S H σ ρ _ rl ?_
    unfold fNotV fTest at h
    cases e : fa ρ with
    | bad => rw [e] at h; exact h
    | err c => rw [e] at h; exact h
    | ok x =>
      rw [e] at h
      intro v S1 H1 x1 d1
      cases x with
      | bool k => exact ⟨k, d1, PostG.ok0 (PostG.mono x1 h) x1.sh rfl⟩
      | _ => exact h.elim⟩
def fIf (g : DEnv → Res Bool) (f1 f2 : DEnv → Res D) : DEnv → Res D := fun ρ => (g ρ).bind fun b => if b = true then f1 ρ else f2 ρ
theorem pd_if (hc : TD K mg X E c tA gA) (ha : PD K mg X E a ta fa) (hb : PD K mg X E b tb fb) : PD K mg X E (.IfExp c a b pos) (tIf tA ta tb) (fIf gA fa fb) :=
  ⟨pe_ifExp hc.pe ha.pe hb.pe, fun S H σ ρ Q rl h => hc.sd S H σ ρ _ rl (h.bind fun k w S1 H1 x1 e h1 => by
    cases e
    cases k with
    | true => exact ha.sd S1 H1 σ ρ Q (rl.mono x1) h1
    | false => exact hb.sd S1 H1 σ ρ Q (rl.mono x1) h1)⟩
/-! ### arguments, displays -/
def fNil : DEnv → Res (List D) := fun _ => .ok []
def fCons (f : DEnv → Res D) (g : DEnv → Res (List D)) : DEnv → Res (List D) := fun ρ => (f ρ).bind fun x => (g ρ).bind fun xs => .ok (x :: xs)
theorem ad_nil : AD K mg X E [] tNil fNil := ⟨pa_nil, fun S H σ ρ Q rl h => h.ok0 rl.sh trivial⟩
theorem ad_cons {e : Expr} {es : List Expr} {te : TE} {t : TA} {f : DEnv → Res D} {g : DEnv → Res (List D)} (ha : PD K mg X E e te f) (hr : AD K mg X E es t g) (hs : starEach (e :: es) X.env = (false, eval e X.env) :: starEach es X.env := by rfl) :
    AD K mg X E (e :: es) (tCons te t) (fCons f g) := ⟨pa_cons ha.pe hr.pe hs, fun S H σ ρ Q rl h => by
  refine ha.sd S H σ ρ _ rl (h.bind fun x v S1 H1 x1 d1 h1 => ?_)
  refine hr.sd S1 H1 σ ρ _ (rl.mono x1) (h1.bind fun xs vs S2 H2 x2 d2 h2 => ?_)
  exact h2.ok0 x2.sh ⟨d1.mono x2.s, d2⟩⟩
theorem DVs.length {K : PySem.W.Frag} {S : Hp} : ∀ {vs : List V} {ds : List D}, DVs K S vs ds → vs.length = ds.length
  | [], [], _ => rfl
  | _ :: vs, _ :: ds, h => congrArg (· + 1) (DVs.length (vs := vs) (ds := ds) h.2)
  | [], _ :: _, h => h.elim
  | _ :: _, [], h => h.elim
def lenOk (n : Nat) : Bool := decide (n ≤ 1000000)
theorem lenOk.le {n : Nat} (h : lenOk n = true) : n ≤ sizeLine := Nat.le_trans (of_decide_eq_true h) (by decide)
theorem lenOk.lt {n : Nat} (h : lenOk n = true) : n < sizeLine := Nat.lt_of_le_of_lt (of_decide_eq_true h) (by decide)
def mkT (xs : List D) : Res D := if lenOk xs.length = true then .ok (.tuple xs) else .bad
def mkL (xs : List D) : Res D := if lenOk xs.length = true then .ok (.list xs) else .bad
def fTup (g : DEnv → Res (List D)) : DEnv → Res D := fun ρ => (g ρ).bind mkT
def fLst (g : DEnv → Res (List D)) : DEnv → Res D := fun ρ => (g ρ).bind mkL
/-- a new tuple, a new list -/
theorem new_tup {S H : Hp} {xs : List V} {ds : List D} {Q : VK} {p : Addr} (sh : Same S H) (d : DVs K S xs ds) (h : PostG mg E S H (DV K) (.ok (.tuple ds)) Q) (hp : H p = none) : Q (.ref p) (upd H p (.tup xs)) :=
  h.ok (Ext.new sh hp) ⟨p, xs, rfl, tp_of upd_same, d.mono (same_upd (sh.free hp))⟩
theorem new_lst {S H : Hp} {xs : List V} {ds : List D} {Q : VK} {p : Addr} (sh : Same S H) (d : DVs K S xs ds) (h : PostG mg E S H (DV K) (.ok (.list ds)) Q) (hp : H p = none) : Q (.ref p) (upd H p (.lst xs)) :=
  h.ok (Ext.new sh hp) ⟨p, xs, rfl, ls_of upd_same, d.mono (same_upd (sh.free hp))⟩
theorem pd_tup {es : List Expr} {t : TA} {g : DEnv → Res (List D)} {k} (h : AD K mg X E es t g) : PD K mg X E (.Tuple es k pos) (tTup t) (fTup g) := ⟨pe_tup h.pe, fun S H σ ρ Q rl hp => by
  refine h.sd S H σ ρ _ rl (hp.bind fun ds vs S1 H1 x1 d1 h1 => ?_)
  unfold mkT at h1
  split at h1
  · rename_i hz
    exact ⟨by rw [d1.length]; exact lenOk.le hz, fun p hn => new_tup (S := S1) x1.sh d1 h1 hn⟩
  · exact h1.elim⟩
theorem pd_lst {es : List Expr} {t : TA} {g : DEnv → Res (List D)} (h : AD K mg X E es t g) : PD K mg X E (.List es pos) (tLst t) (fLst g) := ⟨pe_lst h.pe, fun S H σ ρ Q rl hp => by
  refine h.sd S H σ ρ _ rl (hp.bind fun ds vs S1 H1 x1 d1 h1 => ?_)
  unfold mkL at h1
  split at h1
  · rename_i hz
    exact ⟨by rw [d1.length]; exact lenOk.le hz, fun p hn => new_lst (S := S1) x1.sh d1 h1 hn⟩
  · exact h1.elim⟩
/-! ### calls -/
/-- the promise of a def that is a function of data -/
def spD (K : PySem.W.Frag) (mg : Str → Option Value) (n : Nat) (F : List D → Res D) : Sp := fun vs H Q E => ∃ S ds, Same S H ∧ DVs K S vs ds ∧ vs.length = n ∧ PostG mg E S H (DV K) (F ds) Q
def fCall (n : Nat) (F : List D → Res D) (g : DEnv → Res (List D)) : DEnv → Res D := fun ρ => (g ρ).bind fun ds => if ds.length = n then F ds else .bad
theorem pd_call {n k : Nat} {f : Addr} {fd : FuncData} {ps : List Str} {F : List D → Res D} {x : Str} {p : Pos} {e : Expr} {es : List Expr} {t : TA} {g : DEnv → Res (List D)} (G : FnOk X.prog X.w X.K X.mg X.base (L2.CX X.prog X.w) k f fd ps (spD K mg n F)) (hr : Room k X.A) (hg : Gl X x) (hm : X.mg x = some (.ref f)) (hk : PySem.W.keepIn X.K (.ref f) = true)
    (hb : Binds X.K fd ps []) (hx : Passes (L2.CX X.prog X.w) X E) (ha : AD K mg X E (e :: es) t g) (hdb : (x == ("__debug__" : Str)) = false := by decide) (he : starEach (e :: es) X.env = (false, eval e X.env) :: starEach es X.env := by rfl)
    (hpl : (backTo pos (starEach es X.env)).any (·.1) = false := by rfl) : PD K mg X E (.Call (.Name x p) (e :: es) [] pos) (tCall (spD K mg n F) [] E t) (fCall n F g) :=
  ⟨pe_call G hr hg hm hk hb .nil hx ha.pe hdb he hpl, fun S H σ ρ Q rl h => by
    refine ha.sd S H σ ρ _ rl (h.bind fun ds vs S1 H1 x1 d1 h1 => ?_)
    split at h1
    · rename_i hn
      refine ⟨S1, ds, x1.sh, by rw [List.append_nil]; exact d1, by rw [List.append_nil, d1.length]; exact hn, h1⟩
    · exact h1.elim⟩
theorem pd_call0 {k : Nat} {f : Addr} {fd : FuncData} {ps : List Str} {F : List D → Res D} {x : Str} {p : Pos} (G : FnOk X.prog X.w X.K X.mg X.base (L2.CX X.prog X.w) k f fd ps (spD K mg 0 F)) (hr : Room k X.A) (hg : Gl X x) (hm : X.mg x = some (.ref f)) (hk : PySem.W.keepIn X.K (.ref f) = true)
    (hb : Binds X.K fd ps []) (hx : Passes (L2.CX X.prog X.w) X E) (hdb : (x == ("__debug__" : Str)) = false := by decide) : PD K mg X E (.Call (.Name x p) [] [] pos) (tCall (spD K mg 0 F) [] E tNil) (fCall 0 F fNil) :=
  ⟨pe_call0 G hr hg hm hk hb .nil hx hdb, fun S H σ ρ Q rl h => ⟨S, [], rl.sh, trivial, rfl, h⟩⟩
/-! ### builtins by values -/
def CaS (K : PySem.W.Frag) (mg : Str → Option Value) (E : XK) (r : List V → Hp → VK → Prop) (g : List D → Res D) : Prop := ∀ (S H : Hp) (xs : List V) (ds : List D) (Q : VK), Same S H → DVs K S xs ds → PostG mg E S H (DV K) (g ds) Q → r xs H Q
def fB (g : List D → Res D) (f : DEnv → Res (List D)) : DEnv → Res D := fun ρ => (f ρ).bind g
variable {e : Expr} {es : List Expr} {t : TA} {ga : DEnv → Res (List D)} {x : Str} {p : Pos}
theorem cb_sd {r : List V → Hp → VK → Prop} {g : List D → Res D} (hs : CaS K mg E r g) (ha : AD K mg X E es t ga) (S H : Hp) (σ : St) (ρ : DEnv) (Q : VK) (rl : RelE K S H σ ρ) (h : PostG mg E S H (DV K) (fB g ga ρ) Q) : tCB r t σ H Q :=
  ha.sd S H σ ρ _ rl (h.bind fun ds vs S1 H1 x1 d1 h1 => hs S1 H1 vs ds Q x1.sh d1 h1)
theorem pd_callB {id : String} {r : List V → Hp → VK → Prop} {g : List D → Res D} (hc : CallR X (.builtin id) r) (hs : CaS K mg E r g) (hg : Gl X x) (hm : X.mg x = none) (hv : bootBuiltins x = some (.builtin id)) (ha : AD K mg X E (e :: es) t ga) (hn : x ≠ "__name__" := by decide) (hdb : (x == ("__debug__" : Str)) = false := by decide)
    (he : starEach (e :: es) X.env = (false, eval e X.env) :: starEach es X.env := by rfl) (hpl : (backTo pos (starEach es X.env)).any (·.1) = false := by rfl) : PD K mg X E (.Call (.Name x p) (e :: es) [] pos) (tCB r t) (fB g ga) :=
  ⟨pe_callB hc hg hm hv ha.pe hn hdb he hpl, cb_sd hs ha⟩
theorem pd_callTy {T : String} {r : List V → Hp → VK → Prop} {g : List D → Res D} (hc : CallR X (.type T) r) (hs : CaS K mg E r g) (hg : Gl X x) (hm : X.mg x = none) (hv : bootBuiltins x = some (.type T)) (ha : AD K mg X E (e :: es) t ga) (hn : x ≠ "__name__" := by decide) (hdb : (x == ("__debug__" : Str)) = false := by decide)
    (he : starEach (e :: es) X.env = (false, eval e X.env) :: starEach es X.env := by rfl) (hpl : (backTo pos (starEach es X.env)).any (·.1) = false := by rfl) : PD K mg X E (.Call (.Name x p) (e :: es) [] pos) (tCB r t) (fB g ga) :=
  ⟨pe_callTy hc hg hm hv ha.pe hn hdb he hpl, cb_sd hs ha⟩
/-! ### subscripts -/
theorem pd_ix {r : R2} {g : D → D → Res D} (hr : IxR X r) (hs : OpS K mg E r g) (ha : PD K mg X E a ta fa) (hb : PD K mg X E b tb fb) (hp : PlainIx b := by exact fun _ _ => rfl) : PD K mg X E (.Subscript a b pos) (tOp r ta tb) (fBin g fa fb) :=
  ⟨pe_ix hr ha.pe hb.pe hp, bin_sd hs ha hb⟩
def SlS (K : PySem.W.Frag) (mg : Str → Option Value) (E : XK) (r : V → Option Int → Option Int → Hp → VK → Prop) (g : D → Option Int → Option Int → Res D) : Prop := ∀ (S H : Hp) (x : V) (lo hi : Option Int) (a : D) (Q : VK), Same S H → DV K S x a → PostG mg E S H (DV K) (g a lo hi) Q → r x lo hi H Q
abbrev EqO : Hp → Option Int → Option Int → Prop := fun _ b c => b = c
structure OD (K : PySem.W.Frag) (mg : Str → Option Value) (X : Cx) (E : XK) (e : Option Expr) (t : TO) (f : DEnv → Res (Option Int)) : Prop where
  pe : PO X e t
  sd : ∀ (S H : Hp) (σ : St) (ρ : DEnv) (Q : Option Int → Hp → Prop), RelE K S H σ ρ → PostG mg E S H EqO (f ρ) Q → t σ H Q
def fNoPart : DEnv → Res (Option Int) := fun _ => .ok none
def asI : D → Res (Option Int)
  | .int i => .ok (some i)
  | _ => .bad
def fPart (f : DEnv → Res D) : DEnv → Res (Option Int) := fun ρ => (f ρ).bind asI
theorem od_none : OD K mg X E none tNoPart fNoPart := ⟨po_none, fun S H σ ρ Q rl h => h.ok0 rl.sh rfl⟩
theorem od_some (ha : PD K mg X E a ta fa) : OD K mg X E (some a) (tPart ta) (fPart fa) := ⟨po_some ha.pe, fun S H σ ρ Q rl h => ha.sd S H σ ρ _ rl (h.bind fun y v S1 H1 x1 d1 h1 => by
  cases y with
  | int i => exact ⟨i, d1, h1.ok0 x1.sh rfl⟩
  | _ => exact h1.elim)⟩
def fSl (g : D → Option Int → Option Int → Res D) (f : DEnv → Res D) (fl fh : DEnv → Res (Option Int)) : DEnv → Res D := fun ρ => (f ρ).bind fun x => (fl ρ).bind fun lo => (fh ρ).bind fun hi => g x lo hi
theorem pd_slice {r : V → Option Int → Option Int → Hp → VK → Prop} {g : D → Option Int → Option Int → Res D} {lo hi : Option Expr} {tl th : TO} {fl fh : DEnv → Res (Option Int)} {p2 : Pos} (hr : SlR X r) (hs : SlS K mg E r g) (ha : PD K mg X E a ta fa) (hl : OD K mg X E lo tl fl) (hh : OD K mg X E hi th fh) :
    PD K mg X E (.Subscript a (.Slice lo hi none p2) pos) (tSl r ta tl th) (fSl g fa fl fh) := ⟨pe_slice hr ha.pe hl.pe hh.pe, fun S H σ ρ Q rl h => by
  refine ha.sd S H σ ρ _ rl (h.bind fun y v S1 H1 x1 d1 h1 => ?_)
  refine hl.sd S1 H1 σ ρ _ (rl.mono x1) (h1.bind fun l w S2 H2 x2 e2 h2 => ?_)
  cases e2
  refine hh.sd S2 H2 σ ρ _ ((rl.mono x1).mono x2) (h2.bind fun u w' S3 H3 x3 e3 h3 => ?_)
  cases e3
  exact hs S3 H3 v l u y Q x3.sh ((d1.mono x2.s).mono x3.s) h3⟩
/-- a chain of two comparisons -/
def fChain (g g' : D → D → Res D) (f1 f2 f3 : DEnv → Res D) : DEnv → Res D := fun ρ => (f1 ρ).bind fun x => (f2 ρ).bind fun y => (g x y).bind fun z => (asB z).bind fun k => if k = true then (f3 ρ).bind fun w => g' y w else .ok (.bool false)
theorem asB_bind {β : Type} {z : D} {k : Bool → Res β} {mg : Str → Option Value} {S H : Hp} {W : Type} {R : Hp → W → β → Prop} {Q : W → Hp → Prop} (h : PostG mg E S H R ((asB z).bind k) Q) : ∃ b, z = .bool b ∧ PostG mg E S H R (k b) Q := by
  cases z with
  | bool b => exact ⟨b, rfl, h⟩
  | _ => exact h.elim
theorem chain_sd {r r' : R2} {g g' : D → D → Res D} (hs : OpS K mg E r g) (hs' : OpS K mg E r' g') (ha : PD K mg X E a ta fa) (hb : PD K mg X E b tb fb) (hc : PD K mg X E c tc fc) (S H : Hp) (σ : St) (ρ : DEnv) (Q : VK) (rl : RelE K S H σ ρ)
    (h : PostG mg E S H (DV K) (fChain g g' fa fb fc ρ) Q) : tChain r r' ta tb tc σ H Q := by
  refine ha.sd S H σ ρ _ rl (h.bind fun x v S1 H1 x1 d1 h1 => ?_)
  refine hb.sd S1 H1 σ ρ _ (rl.mono x1) (h1.bind fun y u S2 H2 x2 d2 h2 => ?_)
  refine hs S2 H2 v u x y _ x2.sh (d1.mono x2.s) d2 (h2.bind fun z w S3 H3 x3 d3 h3 => ?_)
  obtain ⟨k, rfl, h3⟩ := asB_bind h3
  refine ⟨k, d3, ?_⟩
  cases k with
  | true =>
    refine hc.sd S3 H3 σ ρ _ (((rl.mono x1).mono x2).mono x3) (PostG.bind h3 fun w2 u2 S4 H4 x4 d4 h4 => ?_)
    exact hs' S4 H4 u u2 y w2 Q x4.sh ((d2.mono x3.s).mono x4.s) d4 h4
  | false => exact h3.ok0 x3.sh rfl
end
end PD
namespace PD
open PySem L2
theorem hU {k : Nat} {A : Around} (r : Room k A) : A.units + 65 < cLine := by have := r.un; omega
theorem hU4 {A : Around} (h : A.units + 65 < cLine) : A.units + 64 < cLine := by omega
/-! ### data for the library's comparison -/
theorem same_t {K : PySem.W.Frag} {H H' : Hp} {a : Addr} {xs : List V} (e : Same H H') (h : SqT K H a xs) : SqT K H' a xs := by
  rcases h with (h | ⟨o, h⟩) | h
  · exact .inl (.inl (e _ _ h))
  · exact .inl (.inr ⟨o, e _ _ h⟩)
  · exact .inr h
mutual
theorem DV.dp {K : PySem.W.Frag} {S H : Hp} (e : Same S H) : ∀ (d : D) (v : V), d.canLay0 = true → DV K S v d → Dp K H v d
  | .none, v, _, h => by rw [DV] at h; subst h; exact .non
  | .bool b, v, _, h => by rw [DV] at h; subst h; exact .bl b
  | .int i, v, _, h => by rw [DV] at h; subst h; exact .int i
  | .str x, v, _, h => by rw [DV] at h; subst h; exact .str x
  | .list ds, v, c, h => by
    rw [DV] at h
    obtain ⟨a, xs, rfl, h2, h3⟩ := h
    exact .lst (ls_sq (ls_mono e h2)) (DVs.dp e ds xs (by rw [PyData.canLay0] at c; exact c) h3)
  | .tuple ds, v, c, h => by
    rw [DV] at h
    obtain ⟨a, xs, rfl, h2, h3⟩ := h
    exact .tup (same_t e h2.1) (DVs.dp e ds xs (by rw [PyData.canLay0] at c; exact c) h3)
  | .dict kvs, v, c, h => by rw [PyData.canLay0] at c; cases c
theorem DVs.dp {K : PySem.W.Frag} {S H : Hp} (e : Same S H) : ∀ (ds : List D) (vs : List V), PyData.canLayAll0 ds = true → DVs K S vs ds → DpAll K H vs ds
  | [], [], _, _ => .nil
  | d :: ds, v :: vs, c, h => by
    rw [PyData.canLayAll0, Bool.and_eq_true] at c
    exact .cons (DV.dp e d v c.1 h.1) (DVs.dp e ds vs c.2 h.2)
  | [], _ :: _, _, h => h.elim
  | _ :: _, [], _, h => h.elim
end
theorem dp_of {K : PySem.W.Frag} {S H : Hp} {d : D} {v : V} (e : Same S H) (c : SeqAt.shaped d = true) (h : DV K S v d) : Dp K H v d := DV.dp e d v (SeqAt.canLay_of_shaped c) h
theorem and_split {a b : Bool} (h : (a && b) = true) : a = true ∧ b = true := by rw [Bool.and_eq_true] at h; exact h
section
variable {K : PySem.W.Frag} {mg : Str → Option Value} {X : Cx} {E : XK}
theorem OpR.imp {f : Value → Value → Sem Value} {r r' : R2} (h : OpR X f r) (i : ∀ x y H Q, r' x y H Q → r x y H Q) : OpR X f r' := fun pins s σ H x y v u Q I rx ry q => h pins s σ H x y v u Q I rx ry (i x y H Q q)
theorem OpS.or {r r' : R2} {g : D → D → Res D} (h : ∀ (S H : Hp) (x y : V) (a b : D) (Q : VK), Same S H → DV K S x a → DV K S y b → PostG mg E S H (DV K) (g a b) Q → r x y H Q ∨ r' x y H Q) : OpS K mg E (fun x y H Q => r x y H Q ∨ r' x y H Q) g := h
/-! ### == and != -/
def gEq (a b : D) : Res D := if (SeqAt.shaped a && SeqAt.shaped b) = true then .ok (.bool (PyData.eqv a b)) else .bad
def gNe (a b : D) : Res D := if (SeqAt.shaped a && SeqAt.shaped b) = true then .ok (.bool (!PyData.eqv a b)) else .bad
theorem os_eq : OpS K mg E (rEqD K) gEq := fun S H x y a b Q sh dx dy h => by
  unfold gEq at h
  split at h
  · rename_i c
    obtain ⟨c1, c2⟩ := and_split c
    exact ⟨a, b, dp_of sh c1 dx, dp_of sh c2 dy, c1, c2, h.ok0 sh rfl⟩
  · exact h.elim
theorem os_ne : OpS K mg E (rNeD K) gNe := fun S H x y a b Q sh dx dy h => by
  unfold gNe at h
  split at h
  · rename_i c
    obtain ⟨c1, c2⟩ := and_split c
    exact ⟨a, b, dp_of sh c1 dx, dp_of sh c2 dy, c1, c2, h.ok0 sh rfl⟩
  · exact h.elim
/-! ### orders of ints -/
def gI (C : Int → Int → Bool) (k : Int → Int → D) : D → D → Res D
  | .int i, .int j => if C i j = true then .ok (k i j) else .bad
  | _, _ => .bad
def gI0 (k : Int → Int → D) : D → D → Res D
  | .int i, .int j => .ok (k i j)
  | _, _ => .bad
theorem os_I0 {k : Int → Int → D} {g : Int → Int → V} (hk : ∀ S i j, DV K S (g i j) (k i j)) : OpS K mg E (rI0 g) (gI0 k) := fun S H x y a b Q sh dx dy h => by
  cases a with
  | int i =>
    cases b with
    | int j => exact ⟨i, j, dx, dy, h.ok0 sh (hk S i j)⟩
    | _ => exact h.elim
  | _ => exact h.elim
theorem os_I {C : Int → Int → Bool} {P : Int → Int → Prop} {k : Int → Int → D} {g : Int → Int → V} (hC : ∀ i j, C i j = true → P i j) (hk : ∀ S i j, DV K S (g i j) (k i j)) : OpS K mg E (rI P g) (gI C k) := fun S H x y a b Q sh dx dy h => by
  cases a with
  | int i =>
    cases b with
    | int j =>
      unfold gI at h
      dsimp only at h
      split at h
      · rename_i c
        exact ⟨i, j, dx, dy, hC i j c, h.ok0 sh (hk S i j)⟩
      · exact h.elim
    | _ => exact h.elim
  | _ => exact h.elim
def gLt : D → D → Res D := gI0 fun i j => .bool (decide (i < j))
def gLe : D → D → Res D := gI0 fun i j => .bool (decide (i ≤ j))
def gGt : D → D → Res D := gI0 fun i j => .bool (decide (j < i))
def gGe : D → D → Res D := gI0 fun i j => .bool (decide (j ≤ i))
def gSub : D → D → Res D := gI0 fun i j => .int (i - j)
theorem os_lt : OpS K mg E (rI0 fun i j => .bl (decide (i < j))) gLt := os_I0 fun _ _ _ => rfl
theorem os_le : OpS K mg E (rI0 fun i j => .bl (decide (i ≤ j))) gLe := os_I0 fun _ _ _ => rfl
theorem os_gt : OpS K mg E (rI0 fun i j => .bl (decide (j < i))) gGt := os_I0 fun _ _ _ => rfl
theorem os_ge : OpS K mg E (rI0 fun i j => .bl (decide (j ≤ i))) gGe := os_I0 fun _ _ _ => rfl
theorem os_sub : OpS K mg E (rI0 fun i j => .int (i - j)) gSub := os_I0 fun _ _ _ => rfl
/-! ### // % ** -/
def divOk (_ j : Int) : Bool := decide (0 < j) && decide (j ≤ 1000000000000000000)
def gDiv : D → D → Res D := gI divOk fun i j => .int (i / j)
theorem os_div : OpS K mg E (rI CDivW fun i j => .int (i / j)) gDiv := os_I (fun i j h => by
  obtain ⟨h1, h2⟩ := and_split h
  have h1 := of_decide_eq_true h1
  have h2 := of_decide_eq_true h2
  refine wide_div (b := 64) h1 ?_ (by decide) (by decide)
  have : (2 : Nat) ^ 64 = 18446744073709551616 := by decide
  omega) fun _ _ _ => rfl
def gMod : D → D → Res D := gI (fun _ j => decide (0 < j)) fun i j => .int (i % j)
theorem os_mod : OpS K mg E (rI (fun _ j => 0 < j) fun i j => .int (i % j)) gMod := os_I (fun i j h => of_decide_eq_true h) fun _ _ _ => rfl
def powOk (i j : Int) : Bool := decide (0 ≤ j) && decide (j ≤ 1000) && decide (0 ≤ i) && decide (i ≤ 1000)
def gPow : D → D → Res D := gI powOk fun i j => .int (i ^ j.toNat)
theorem os_pow : OpS K mg E (rI CPow fun i j => .int (i ^ j.toNat)) gPow := os_I (fun i j h => by
  obtain ⟨h, h4⟩ := and_split h
  obtain ⟨h, h3⟩ := and_split h
  obtain ⟨h1, h2⟩ := and_split h
  have h1 := of_decide_eq_true h1
  have h2 := of_decide_eq_true h2
  have h3 := of_decide_eq_true h3
  have h4 := of_decide_eq_true h4
  have e : (2 : Nat) ^ 64 = 18446744073709551616 := by decide
  exact ⟨h1, by omega, by omega⟩) fun _ _ _ => rfl
/-! ### + -/
theorem DVs.append {K : PySem.W.Frag} {S : Hp} : ∀ {vs ws : List V} {ds es : List D}, DVs K S vs ds → DVs K S ws es → DVs K S (vs ++ ws) (ds ++ es)
  | [], _, [], _, _, h => h
  | _ :: vs, _, _ :: ds, _, h, h' => ⟨h.1, DVs.append (vs := vs) (ds := ds) h.2 h'⟩
  | [], _, _ :: _, _, h, _ => h.elim
  | _ :: _, _, [], _, h, _ => h.elim
/-- xs + ys, of any two lists that are read -/
def rCatR (K : PySem.W.Frag) : R2 := fun x y H Q => ∃ l b xs zs, x = .ref l ∧ y = .ref b ∧ LsAt K H l xs ∧ LsAt K H b zs ∧ xs.length + zs.length ≤ sizeLine ∧ ∀ p, H p = none → Q (.ref p) (upd H p (.lst (xs ++ zs)))
theorem rd_lst {pins : List (Addr × Obj)} {σ : L2.St} {H : Hp} {s : Shared} {a : Addr} {xs : List V} (I : Inv X pins σ H s) (h : LsAt X.K H a xs) : ∃ (its : List Value) (n : Nat), Vals xs its ∧ xs.length = its.length ∧ s.heap.get? a = some { cls := .type "list", data := .seq its.toArray n } := by
  rcases h with h | ⟨its, n, h1, h2, h3⟩
  · obtain ⟨z, its, n, r, e⟩ := h.ok I.hok
    exact ⟨its, n, r, r.length, e⟩
  · exact ⟨its, n, h3, h3.length, I.kIn a _ h1⟩
theorem op_catR : OpR X (binaryOp .Add) (rCatR X.K) := by
  intro pins s σ H x y v u Q I rx ry h
  obtain ⟨l, b, xs, zs, rfl, rfl, hH, hB, hz, q⟩ := h
  cases rx
  cases ry
  obtain ⟨its, n, r, hl, e⟩ := rd_lst I hH
  obtain ⟨its2, n2, r2, hl2, e2⟩ := rd_lst I hB
  refine PySem.P.add_list e e2 ?_ (by rw [List.size_toArray, List.size_toArray]; omega)
  have ea : its.toArray ++ its2.toArray = (its ++ its2).toArray := by simp
  rw [ea]
  exact ⟨.ref _, _, I.lnew (t' := s.toks) (r.append r2) (by rw [List.length_append]; omega), rfl, q _ I.fresh⟩
def rStrAdd : R2 := fun x y H Q => ∃ i j, x = .str i ∧ y = .str j ∧ i.length + j.length ≤ sizeLine ∧ Q (.str (i ++ j)) H
def rAddA (K : PySem.W.Frag) : R2 := fun x y H Q => rI0 (fun i j => .int (i + j)) x y H Q ∨ (rCatR K x y H Q ∨ (rCatA K x y H Q ∨ rStrAdd x y H Q))
theorem op_addA (hK : X.K = K := by rfl) : OpR X (binaryOp .Add) (rAddA K) := by subst hK; exact op_add.or (op_catR.or (op_catA.or op_add_str))
theorem op_eqK (hu : X.A.units + 65 < cLine) (hK : X.K = K := by rfl) : OpR X (compareOp .Eq) (rEqD K) := by subst hK; exact op_eqD (hU4 hu)
theorem op_neK (hu : X.A.units + 65 < cLine) (hK : X.K = K := by rfl) : OpR X (compareOp .NotEq) (rNeD K) := by subst hK; exact op_neD (hU4 hu)
def gAdd : D → D → Res D
  | .int i, .int j => .ok (.int (i + j))
  | .list xs, .list ys => if lenOk (xs.length + ys.length) = true then .ok (.list (xs ++ ys)) else .bad
  | .tuple xs, .tuple ys => if lenOk (xs.length + ys.length) = true then .ok (.tuple (xs ++ ys)) else .bad
  | .str i, .str j => if lenOk (i.length + j.length) = true then .ok (.str (i ++ j)) else .bad
  | _, _ => .bad
theorem os_add : OpS K mg E (rAddA K) gAdd := fun S H x y a b Q sh dx dy h => by
  unfold gAdd at h
  split at h
  · rename_i i j
    exact .inl ⟨i, j, dx, dy, h.ok0 sh rfl⟩
  · rename_i xs ys
    split at h
    · rename_i hz
      rw [DV] at dx dy
      obtain ⟨p, us, rfl, h1, h2⟩ := dx
      obtain ⟨q, ws, rfl, h3, h4⟩ := dy
      refine .inr (.inl ⟨p, q, us, ws, rfl, rfl, ls_mono sh h1, ls_mono sh h3, ?_, fun n hn => new_lst sh (h2.append h4) h hn⟩)
      rw [h2.length, h4.length]
      exact lenOk.le hz
    · exact h.elim
  · rename_i xs ys
    split at h
    · rename_i hz
      rw [DV] at dx dy
      obtain ⟨p, us, rfl, h1, h2⟩ := dx
      obtain ⟨q, ws, rfl, h3, h4⟩ := dy
      have hl : us.length + ws.length ≤ sizeLine := by
        rw [h2.length, h4.length]
        exact lenOk.le hz
      refine .inr (.inr (.inl ⟨p, q, us, ws, rfl, rfl, same_t sh h1.1, same_t sh h3.1, hl, fun e => ?_, fun e e' => ?_, fun _ _ n hn => new_tup sh (h2.append h4) h hn⟩))
      · subst e
        cases xs with
        | nil => exact h.ok0 sh (by rw [DV]; exact ⟨q, ws, rfl, h3, h4⟩)
        | cons _ _ => exact h2.elim
      · subst e'
        cases ys with
        | nil => exact h.ok0 sh (by rw [List.append_nil, DV]; exact ⟨p, us, rfl, h1, h2⟩)
        | cons _ _ => exact h4.elim
    · exact h.elim
  · rename_i i j
    split at h
    · rename_i hz
      exact .inr (.inr (.inr ⟨i, j, dx, dy, lenOk.le hz, h.ok0 sh rfl⟩))
    · exact h.elim
  · exact h.elim
/-! ### * -/
def rRepR : R2 := fun x y H Q => ∃ l k xs, x = .ref l ∧ y = .int k ∧ H l = some (.lst xs) ∧ -(2 ^ 63) ≤ k ∧ k < 2 ^ 63 ∧ xs.length * k.toNat ≤ sizeLine ∧
  ∀ p, H p = none → Q (.ref p) (upd H p (.lst (List.replicate k.toNat xs).flatten))
def mulOk (i j : Int) : Bool := (decide (-1000000000000000000 ≤ i) && decide (i ≤ 1000000000000000000)) || (decide (-1000000000000000000 ≤ j) && decide (j ≤ 1000000000000000000))
def gMulI : D → D → Res D := gI mulOk fun i j => .int (i * j)
theorem os_mulI : OpS K mg E (rI CMul fun i j => .int (i * j)) gMulI := os_I (fun i j h => by
  unfold mulOk at h
  rw [Bool.or_eq_true] at h
  have e : (2 : Int) ^ 64 = 18446744073709551616 := by decide
  rcases h with h | h
  · obtain ⟨h1, h2⟩ := and_split h
    have h1 := of_decide_eq_true h1
    have h2 := of_decide_eq_true h2
    exact .inl ⟨by omega, by omega⟩
  · obtain ⟨h1, h2⟩ := and_split h
    have h1 := of_decide_eq_true h1
    have h2 := of_decide_eq_true h2
    exact .inr ⟨by omega, by omega⟩) fun _ _ _ => rfl
/-! ### in, not in -/
def rInT (K : PySem.W.Frag) : R2 := fun x y H Q => ∃ d ds, Dp K H x d ∧ Dp K H y (.tuple ds) ∧ SeqAt.shaped d = true ∧ SeqAt.shaped (.tuple ds) = true ∧ Q (.bl (ds.any fun z => PyData.eqv z d)) H
def rNotInT (K : PySem.W.Frag) : R2 := fun x y H Q => ∃ d ds, Dp K H x d ∧ Dp K H y (.tuple ds) ∧ SeqAt.shaped d = true ∧ SeqAt.shaped (.tuple ds) = true ∧ Q (.bl (!ds.any fun z => PyData.eqv z d)) H
theorem op_inT (hu : X.A.units + 65 < cLine) : OpR X (compareOp .In) (rInT X.K) := by
  intro pins s σ H x y v u Q I rx ry h
  obtain ⟨d, ds, hd, he, sd, se, q⟩ := h
  obtain ⟨as, r1⟩ := Dp.reads I d x v hd rx
  obtain ⟨bs, r2⟩ := Dp.reads I (.tuple ds) y u he ry
  exact SeqAt.in_tuple_reads r2 r1 (SeqAt.canLay_of_shaped se) (SeqAt.canLay_of_shaped sd) (PyProof.Rows.room_in_shaped sd hu) ⟨.bl _, H, I, rfl, q⟩
theorem op_notInT (hu : X.A.units + 65 < cLine) : OpR X (compareOp .NotIn) (rNotInT X.K) := by
  intro pins s σ H x y v u Q I rx ry h
  obtain ⟨d, ds, hd, he, sd, se, q⟩ := h
  obtain ⟨as, r1⟩ := Dp.reads I d x v hd rx
  obtain ⟨bs, r2⟩ := Dp.reads I (.tuple ds) y u he ry
  exact SeqAt.notIn_tuple_reads r2 r1 (SeqAt.canLay_of_shaped se) (SeqAt.canLay_of_shaped sd) (PyProof.Rows.room_in_shaped sd hu) ⟨.bl _, H, I, rfl, q⟩
theorem op_inK (hu : X.A.units + 65 < cLine) (hK : X.K = K := by rfl) : OpR X (compareOp .In) (fun x y H Q => rInD K x y H Q ∨ rInT K x y H Q) := by subst hK; exact (op_inD hu).or (op_inT hu)
theorem op_notInK (hu : X.A.units + 65 < cLine) (hK : X.K = K := by rfl) : OpR X (compareOp .NotIn) (fun x y H Q => rNotInD K x y H Q ∨ rNotInT K x y H Q) := by subst hK; exact (op_notInD hu).or (op_notInT hu)
def inD (a : D) (ds : List D) : Bool := ds.any fun z => PyData.eqv z a
def gIn (neg : Bool) (a b : D) : Res D := match b with
  | .list ds => if (SeqAt.shaped a && SeqAt.shaped (.list ds)) = true then .ok (.bool (if neg then !inD a ds else inD a ds)) else .bad
  | .tuple ds => if (SeqAt.shaped a && SeqAt.shaped (.tuple ds)) = true then .ok (.bool (if neg then !inD a ds else inD a ds)) else .bad
  | _ => .bad
theorem os_in : OpS K mg E (fun x y H Q => rInD K x y H Q ∨ rInT K x y H Q) (gIn false) := fun S H x y a b Q sh dx dy h => by
  unfold gIn at h
  split at h
  · rename_i ds
    split at h
    · rename_i c
      obtain ⟨c1, c2⟩ := and_split c
      exact .inl ⟨a, ds, dp_of sh c1 dx, dp_of sh c2 dy, c1, c2, h.ok0 sh rfl⟩
    · exact h.elim
  · rename_i ds
    split at h
    · rename_i c
      obtain ⟨c1, c2⟩ := and_split c
      exact .inr ⟨a, ds, dp_of sh c1 dx, dp_of sh c2 dy, c1, c2, h.ok0 sh rfl⟩
    · exact h.elim
  · exact h.elim
theorem os_notin : OpS K mg E (fun x y H Q => rNotInD K x y H Q ∨ rNotInT K x y H Q) (gIn true) := fun S H x y a b Q sh dx dy h => by
  unfold gIn at h
  split at h
  · rename_i ds
    split at h
    · rename_i c
      obtain ⟨c1, c2⟩ := and_split c
      exact .inl ⟨a, ds, dp_of sh c1 dx, dp_of sh c2 dy, c1, c2, h.ok0 sh rfl⟩
    · exact h.elim
  · rename_i ds
    split at h
    · rename_i c
      obtain ⟨c1, c2⟩ := and_split c
      exact .inr ⟨a, ds, dp_of sh c1 dx, dp_of sh c2 dy, c1, c2, h.ok0 sh rfl⟩
    · exact h.elim
  · exact h.elim
/-! ### is -/
def rIsA : R2 := fun x y H Q => (y = .non ∧ Q (.bl (decide (x = .non))) H) ∨ rIsB x y H Q
def rIsNotA : R2 := fun x y H Q => (y = .non ∧ Q (.bl (!decide (x = .non))) H) ∨ rNotB x y H Q
theorem op_isA : OpR X (compareOp .Is) rIsA := op_isN.or op_isBl
theorem op_isNotA : OpR X (compareOp .IsNot) rIsNotA := op_notN.or op_notBl
def isNone : D → Bool
  | .none => true
  | _ => false
theorem DV.isNone {K : PySem.W.Frag} {S : Hp} {v : V} {d : D} (h : DV K S v d) : decide (v = .non) = PD.isNone d := by
  cases d with
  | none => rw [DV] at h; subst h; rfl
  | bool b => rw [DV] at h; subst h; rfl
  | int b => rw [DV] at h; subst h; rfl
  | str b => rw [DV] at h; subst h; rfl
  | list b => rw [DV] at h; obtain ⟨a, xs, rfl, _⟩ := h; rfl
  | tuple b => rw [DV] at h; obtain ⟨a, xs, rfl, _⟩ := h; rfl
  | dict b => rw [DV] at h; obtain ⟨a, rfl, _⟩ := h; rfl
def gIs (neg : Bool) (a b : D) : Res D := match b with
  | .none => .ok (.bool (if neg then !isNone a else isNone a))
  | .bool k => match a with
    | .bool j => .ok (.bool (if neg then !decide (j = k) else decide (j = k)))
    | _ => .bad
  | _ => .bad
theorem os_is : OpS K mg E rIsA (gIs false) := fun S H x y a b Q sh dx dy h => by
  unfold gIs at h
  split at h
  · refine .inl ⟨dy, ?_⟩
    rw [dx.isNone]
    exact h.ok0 sh rfl
  · split at h
    · exact .inr ⟨_, _, dx, dy, h.ok0 sh rfl⟩
    · exact h.elim
  · exact h.elim
theorem os_isnot : OpS K mg E rIsNotA (gIs true) := fun S H x y a b Q sh dx dy h => by
  unfold gIs at h
  split at h
  · refine .inl ⟨dy, ?_⟩
    rw [dx.isNone]
    exact h.ok0 sh rfl
  · split at h
    · exact .inr ⟨_, _, dx, dy, h.ok0 sh rfl⟩
    · exact h.elim
  · exact h.elim
/-! ### a[i] -/
def ixD (xs : List D) (i : Int) : Option D := if 0 ≤ i then xs[i.toNat]? else if -(xs.length : Int) ≤ i then xs[(i + xs.length).toNat]? else none
def gIx : D → D → Res D
  | .list xs, .int i => match ixD xs i with
    | some d => .ok d
    | none => .bad
  | .tuple xs, .int i => match ixD xs i with
    | some d => .ok d
    | none => .bad
  | _, _ => .bad
theorem DVs.get {K : PySem.W.Frag} {S : Hp} : ∀ {vs : List V} {ds : List D} {i : Nat} {d : D}, DVs K S vs ds → ds[i]? = some d → ∃ v, vs[i]? = some v ∧ DV K S v d
  | v :: _, d :: _, 0, x, h, e => by
    have e : d = x := Option.some.inj e
    subst e
    exact ⟨v, rfl, h.1⟩
  | _ :: vs, _ :: ds, i + 1, x, h, e => DVs.get (vs := vs) (ds := ds) (i := i) h.2 e
  | [], [], _, _, _, e => by simp at e
  | [], _ :: _, _, _, h, _ => h.elim
  | _ :: _, [], _, _, h, _ => h.elim
theorem ixD_at {K : PySem.W.Frag} {S : Hp} {vs : List V} {ds : List D} {i : Int} {d : D} (h : DVs K S vs ds) (e : ixD ds i = some d) : ∃ v, atI vs i = some v ∧ DV K S v d := by
  unfold ixD at e
  unfold atI ixN
  rw [h.length]
  split at e
  · rename_i h0
    obtain ⟨v, h1, h2⟩ := h.get e
    have hl : i.toNat < ds.length := (List.getElem?_eq_some_iff.mp e).1
    rw [if_pos h0, if_pos (by omega)]
    exact ⟨v, h1, h2⟩
  · rename_i h0
    split at e
    · rename_i h1
      obtain ⟨v, h2, h3⟩ := h.get e
      rw [if_neg h0, if_pos h1]
      exact ⟨v, h2, h3⟩
    · cases e
def rIxA (K : PySem.W.Frag) : R2 := fun x y H Q => rIxL K x y H Q ∨ rIxT K x y H Q
theorem ix_A (hK : X.K = K := by rfl) : IxR X (rIxA K) := by subst hK; exact ix_list.or ix_tup
theorem os_ix : OpS K mg E (rIxA K) gIx := fun S H x y a b Q sh dx dy h => by
  unfold gIx at h
  split at h
  · rename_i xs i
    split at h
    · rename_i d e
      rw [DV] at dx
      obtain ⟨p, us, rfl, h1, h2⟩ := dx
      obtain ⟨v, h3, h4⟩ := ixD_at h2 e
      exact .inl ⟨p, us, i, v, rfl, dy, ls_sq (ls_mono sh h1), h3, h.ok0 sh h4⟩
    · exact h.elim
  · rename_i xs i
    split at h
    · rename_i d e
      rw [DV] at dx
      obtain ⟨p, us, rfl, h1, h2⟩ := dx
      obtain ⟨v, h3, h4⟩ := ixD_at h2 e
      exact .inr ⟨p, us, i, v, rfl, dy, same_t sh h1.1, h3, h.ok0 sh h4⟩
    · exact h.elim
  · exact h.elim
/-! ### a[lo:hi] -/
def cutD (xs : List D) (lo hi : Option Int) : List D := (xs.drop (HT.sIx xs.length 0 lo)).take (HT.sIx xs.length xs.length hi - HT.sIx xs.length 0 lo)
theorem DVs.drop {K : PySem.W.Frag} {S : Hp} : ∀ {vs : List V} {ds : List D} (i : Nat), DVs K S vs ds → DVs K S (vs.drop i) (ds.drop i)
  | _, _, 0, h => h
  | [], [], _ + 1, _ => trivial
  | _ :: vs, _ :: ds, i + 1, h => DVs.drop (vs := vs) (ds := ds) i h.2
  | [], _ :: _, _ + 1, h => h.elim
  | _ :: _, [], _ + 1, h => h.elim
theorem DVs.take {K : PySem.W.Frag} {S : Hp} : ∀ {vs : List V} {ds : List D} (i : Nat), DVs K S vs ds → DVs K S (vs.take i) (ds.take i)
  | _, _, 0, _ => trivial
  | [], [], _ + 1, _ => trivial
  | _ :: vs, _ :: ds, i + 1, h => ⟨h.1, DVs.take (vs := vs) (ds := ds) i h.2⟩
  | [], _ :: _, _ + 1, h => h.elim
  | _ :: _, [], _ + 1, h => h.elim
theorem DVs.cut {K : PySem.W.Frag} {S : Hp} {vs : List V} {ds : List D} (lo hi : Option Int) (h : DVs K S vs ds) : DVs K S (cutV vs lo hi) (cutD ds lo hi) := by
  unfold cutV cutD
  rw [h.length]
  exact (h.drop _).take _
def gSl (a : D) (lo hi : Option Int) : Res D := match a with
  | .list xs => .ok (.list (cutD xs lo hi))
  | .tuple xs => .ok (.tuple (cutD xs lo hi))
  | _ => .bad
def rSlD (K : PySem.W.Frag) : V → Option Int → Option Int → Hp → VK → Prop := fun x lo hi H Q => rSlL K x lo hi H Q ∨ rSlA K x lo hi H Q
theorem sl_D (hK : X.K = K := by rfl) : SlR X (rSlD K) := by subst hK; exact sl_list.or sl_tupA
theorem ss_sl : SlS K mg E (rSlD K) gSl := fun S H x lo hi a Q sh dx h => by
  unfold gSl at h
  split at h
  · rename_i xs
    rw [DV] at dx
    obtain ⟨p, us, rfl, h1, h2⟩ := dx
    exact .inl ⟨p, us, rfl, ls_sq (ls_mono sh h1), fun n hn => new_lst sh (h2.cut lo hi) h hn⟩
  · rename_i xs
    rw [DV] at dx
    obtain ⟨p, us, rfl, h1, h2⟩ := dx
    refine .inr ⟨p, us, rfl, same_t sh h1.1, fun hw => ?_, fun _ n hn => new_tup sh (h2.cut lo hi) h hn⟩
    refine h.ok0 sh ?_
    have e : cutD xs lo hi = xs := by
      unfold cutD
      rw [h2.length] at hw
      rw [hw.1, hw.2, List.drop_zero, Nat.sub_zero, List.take_length]
    rw [e, DV]
    exact ⟨p, us, rfl, h1, h2⟩
  · exact h.elim
end
end PD
namespace PD
open PySem L2
/-! ### targets -/
def setAll (σ : L2.St) : List Nat → List V → L2.St
  | i :: is, v :: vs => setAll (σ.set i (some v)) is vs
  | _, _ => σ
def setD (ρ : DEnv) : List Nat → List D → DEnv
  | i :: is, d :: ds => setD (ρ.set i (.d d)) is ds
  | _, _ => ρ
structure GD (K : PySem.W.Frag) (X : Cx) (tg : Expr) (g : TG) (is : List Nat) (h : D → Option (List D)) : Prop where
  pg : PG X tg g
  sd : ∀ (S H : Hp) (v : V) (σ : L2.St) (d : D) (ds : List D) (Q : L2.St → Hp → Prop), Same S H → DV K S v d → h d = some ds → (∀ vs, DVs K S vs ds → Q (setAll σ is vs) H) → g v σ H Q
def hOne (d : D) : Option (List D) := some [d]
def hTup (n : Nat) : D → Option (List D)
  | .tuple ds => if ds.length = n then some ds else none
  | _ => none
structure GDs (X : Cx) (ts : List Expr) (g : TGs) (is : List Nat) : Prop where
  pg : PGs X ts g
  sd : ∀ (H : Hp) (vs : List V) (σ : L2.St) (Q : L2.St → Hp → Prop), vs.length = is.length → Q (setAll σ is vs) H → g vs σ H Q
section
variable {K : PySem.W.Frag} {mg : Str → Option Value} {X : Cx} {E : XK} {pos : Pos}
theorem gd_name {i : Nat} {x : Str} (h : PG X (.Name x pos) (gName i)) : GD K X (.Name x pos) (gName i) [i] hOne := ⟨h, fun S H v σ d ds Q sh dv e q => by
  cases e
  exact q [v] ⟨dv, trivial⟩⟩
theorem gds_nil : GDs X [] gNil [] := ⟨pgs_nil, fun H vs σ Q hl q => by
  cases vs with
  | nil => exact ⟨rfl, q⟩
  | cons _ _ => cases hl⟩
theorem gds_cons {e : Expr} {es : List Expr} {i : Nat} {u : TGs} {is : List Nat} (h1 : PG X e (gName i)) (h2 : GDs X es u is) (hs : (assignEach (e :: es) X.env).map (·.2) = assign e X.env :: (assignEach es X.env).map (·.2) := by rfl) :
    GDs X (e :: es) (gCons (gName i) u) (i :: is) := ⟨pgs_cons h1 h2.pg hs, fun H vs σ Q hl q => by
  cases vs with
  | nil => cases hl
  | cons v vs => exact ⟨v, vs, rfl, h2.sd H vs _ Q (Nat.succ.inj hl) q⟩⟩
theorem gd_tup {es : List Expr} {k : Nat} {t : TGs} {n : Nat} {is : List Nat} (hc : X.calm = true) (h : GDs X es t is) (hn : (assignEach es X.env).length = n := by rfl) (hst : (assignEach es X.env).findIdx? (·.1) = none := by rfl) (hl : is.length = n := by rfl) (hK : X.K = K := by rfl) :
    GD K X (.Tuple es k pos) (gTup K n t) is (hTup n) := ⟨hK ▸ pg_tup hc h.pg hn hst, fun S H v σ d ds Q sh dv e q => by
  cases d with
  | tuple xs =>
    unfold hTup at e
    dsimp only at e
    split at e
    · rename_i hx
      cases e
      rw [DV] at dv
      obtain ⟨a, us, rfl, h1, h2⟩ := dv
      exact ⟨a, us, rfl, same_t sh h1.1, by rw [h2.length]; exact hx, h.sd H us σ Q (by rw [h2.length, hl]; exact hx) (q us h2)⟩
    · cases e
  | _ => cases e⟩
end
theorem setAll_length : ∀ (is : List Nat) (vs : List V) (σ : L2.St), (setAll σ is vs).length = σ.length
  | [], _, _ => rfl
  | _ :: _, [], _ => rfl
  | i :: is, v :: vs, σ => by
    show (setAll (σ.set i (some v)) is vs).length = σ.length
    rw [setAll_length is vs, List.length_set]
theorem setD_length : ∀ (is : List Nat) (vs : List D) (ρ : DEnv), (setD ρ is vs).length = ρ.length
  | [], _, _ => rfl
  | _ :: _, [], _ => rfl
  | i :: is, v :: vs, ρ => by
    show (setD (ρ.set i (.d v)) is vs).length = ρ.length
    rw [setD_length is vs, List.length_set]
/-! ### slots forgotten -/
def wipeD (ρ : DEnv) : List Nat → DEnv
  | [] => ρ
  | v :: vs => (wipeD ρ vs).set v .un
theorem RelE.set {K : PySem.W.Frag} {S H : Hp} {σ : L2.St} {ρ : DEnv} {i : Nat} {v : V} {d : D} (r : RelE K S H σ ρ) (h : DV K S v d) : RelE K S H (σ.set i (some v)) (ρ.set i (.d d)) := by
  have hl := r.len
  refine ⟨r.sh, by rw [List.length_set, List.length_set]; exact hl, fun j x e => ?_, fun j x e => ?_⟩
  · by_cases hj : i = j
    · subst hj
      by_cases hi : i < ρ.length
      · rw [List.getElem?_set_self hi] at e
        cases e
        exact ⟨v, List.getElem?_set_self (by omega), h⟩
      · rw [List.getElem?_eq_none (by rw [List.length_set]; omega)] at e
        cases e
    · rw [List.getElem?_set_ne hj] at e ⊢
      exact r.dt j x e
  · by_cases hj : i = j
    · subst hj
      by_cases hi : i < ρ.length
      · rw [List.getElem?_set_self hi] at e
        cases e
      · rw [List.getElem?_eq_none (by rw [List.length_set]; omega)] at e
        cases e
    · rw [List.getElem?_set_ne hj] at e ⊢
      exact r.rw j x e
theorem RelE.setAll {K : PySem.W.Frag} {S H : Hp} : ∀ (is : List Nat) (vs : List V) (ds : List D) {σ : L2.St} {ρ : DEnv}, RelE K S H σ ρ → DVs K S vs ds → RelE K S H (PD.setAll σ is vs) (setD ρ is ds)
  | [], _, _, _, _, r, _ => by cases ‹List V› <;> cases ‹List D› <;> exact r
  | _ :: _, [], [], _, _, r, _ => r
  | i :: is, v :: vs, d :: ds, σ, ρ, r, h => by
    show RelE K S H (PD.setAll (σ.set i (some v)) is vs) (setD (ρ.set i (.d d)) is ds)
    exact RelE.setAll is vs ds (r.set h.1) h.2
  | _ :: _, [], _ :: _, _, _, _, h => h.elim
  | _ :: _, _ :: _, [], _, _, _, h => h.elim
theorem wipeD_length (ρ : DEnv) : ∀ vs : List Nat, (wipeD ρ vs).length = ρ.length
  | [] => rfl
  | v :: vs => by unfold wipeD; rw [List.length_set, wipeD_length ρ vs]
theorem RelE.wipe {K : PySem.W.Frag} {S H : Hp} {σ : L2.St} {ρ : DEnv} (r : RelE K S H σ ρ) : ∀ vs : List Nat, RelE K S H (L2.wipe σ vs) (wipeD ρ vs)
  | [] => r
  | v :: vs => by
    have q := RelE.wipe r vs
    unfold L2.wipe wipeD
    refine ⟨q.sh, by rw [List.length_set, List.length_set]; exact q.len, fun j x e => ?_, fun j x e => ?_⟩
    · by_cases hj : v = j
      · subst hj
        by_cases hi : v < (wipeD ρ vs).length
        · rw [List.getElem?_set_self hi] at e
          cases e
        · rw [List.getElem?_eq_none (by rw [List.length_set]; omega)] at e
          cases e
      · rw [List.getElem?_set_ne hj] at e ⊢
        exact q.dt j x e
    · by_cases hj : v = j
      · subst hj
        by_cases hi : v < (wipeD ρ vs).length
        · rw [List.getElem?_set_self hi] at e
          cases e
        · rw [List.getElem?_eq_none (by rw [List.length_set]; omega)] at e
          cases e
      · rw [List.getElem?_set_ne hj] at e ⊢
        exact q.rw j x e
theorem wipe_set {i : Nat} {v : Option V} : ∀ {vs : List Nat} {σ : L2.St}, i ∈ vs → L2.wipe (σ.set i v) vs = L2.wipe σ vs
  | j :: vs, σ, h => by
    show (L2.wipe (σ.set i v) vs).set j none = (L2.wipe σ vs).set j none
    by_cases hm : i ∈ vs
    · rw [wipe_set hm]
    · have e : i = j := by
        rcases List.mem_cons.mp h with z | z
        · exact z
        · exact absurd z hm
      subst e
      have key : ∀ (ws : List Nat) (τ : L2.St), i ∉ ws → L2.wipe (τ.set i v) ws = (L2.wipe τ ws).set i v := by
        intro ws
        induction ws with
        | nil => intro τ _; rfl
        | cons k ws ih =>
          intro τ hk
          show (L2.wipe (τ.set i v) ws).set k none = ((L2.wipe τ ws).set k none).set i v
          rw [ih τ (fun z => hk (List.mem_cons_of_mem _ z)), List.set_comm _ _ (fun z : i = k => hk (by rw [z]; exact List.mem_cons_self))]
      rw [key vs σ hm, List.set_set]
theorem wipe_wipe {σ : L2.St} : ∀ (vs ws : List Nat), (∀ i ∈ ws, i ∈ vs) → L2.wipe (L2.wipe σ ws) vs = L2.wipe σ vs
  | _, [], _ => rfl
  | vs, w :: ws, h => by
    show L2.wipe ((L2.wipe σ ws).set w none) vs = L2.wipe σ vs
    rw [wipe_set (h w List.mem_cons_self), wipe_wipe vs ws fun i hi => h i (List.mem_cons_of_mem _ hi)]
theorem wipe_setAll : ∀ (is : List Nat) (xs : List V) {vs : List Nat} {σ : L2.St}, (∀ i ∈ is, i ∈ vs) → L2.wipe (PD.setAll σ is xs) vs = L2.wipe σ vs
  | [], xs, vs, σ, _ => by cases xs <;> rfl
  | _ :: _, [], vs, σ, _ => rfl
  | i :: is, x :: xs, vs, σ, h => by
    show L2.wipe (PD.setAll (σ.set i (some x)) is xs) vs = L2.wipe σ vs
    rw [wipe_setAll is xs fun j hj => h j (List.mem_cons_of_mem _ hj), wipe_set (h i List.mem_cons_self)]
/-! ### what is walked -/
def Walks (K : PySem.W.Frag) (S : Hp) (J : It) (ds : List D) : Prop := ∀ S' H', Same S S' → Same S' H' →
  (∀ (i : Nat) (d : D), ds[i]? = some d → J.go i H' ∧ ∀ x H'', J.yld i H' x H'' → ∃ S'', Ext S' H' S'' H'' ∧ DV K S'' x d) ∧ J.stop ds.length H'
theorem Walks.mono {K : PySem.W.Frag} {S S1 : Hp} {J : It} {ds : List D} (w : Walks K S J ds) (e : Same S S1) : Walks K S1 J ds := fun S' H' h1 h2 => w S' H' (e.trans h1) h2
structure ID (K : PySem.W.Frag) (mg : Str → Option Value) (X : Cx) (E : XK) (tg iter : Expr) (wi : TI) (f : DEnv → Res (List D)) : Prop where
  pi : PI X tg iter wi
  sd : ∀ (S H : Hp) (σ : L2.St) (ρ : DEnv) (R : It → Hp → Prop), RelE K S H σ ρ → PostG mg E S H (fun S J ds => Walks K S J ds) (f ρ) R → wi σ H R
section
variable {K : PySem.W.Frag} {mg : Str → Option Value} {X : Cx} {E : XK} {pos : Pos} {tg l : Expr} {tl : TE} {f : DEnv → Res D}
def asList : D → Res (List D)
  | .list ds => .ok ds
  | _ => .bad
def asTup : D → Res (List D)
  | .tuple ds => .ok ds
  | _ => .bad
def fItL (f : DEnv → Res D) : DEnv → Res (List D) := fun ρ => (f ρ).bind asList
def fItT (f : DEnv → Res D) : DEnv → Res (List D) := fun ρ => (f ρ).bind asTup
theorem walks_list {K : PySem.W.Frag} {S : Hp} {a : Addr} {us : List V} {ds : List D} (h1 : LsAt K S a us) (h2 : DVs K S us ds) : Walks K S (Itl K a) ds := fun S' H' e1 e2 => by
  have q : SqL K H' a us := ls_sq (ls_mono (e1.trans e2) h1)
  refine ⟨fun i d hi => ?_, us, q, by rw [h2.length]; exact Nat.le_refl _⟩
  obtain ⟨v, g1, g2⟩ := h2.get hi
  refine ⟨⟨us, v, q, g1⟩, fun x H'' hy => ?_⟩
  obtain ⟨rfl, fv⟩ := hy
  have ev : x = v := Option.some.inj ((fv _ q).symm.trans g1)
  subst ev
  exact ⟨S', Ext.refl e2, g2.mono e1⟩
theorem walks_tup {K : PySem.W.Frag} {S : Hp} {a : Addr} {us : List V} {ds : List D} (h1 : SqT K S a us) (h2 : DVs K S us ds) : Walks K S (Itt K a) ds := fun S' H' e1 e2 => by
  have q : SqT K H' a us := same_t (e1.trans e2) h1
  refine ⟨fun i d hi => ?_, us, q, by rw [h2.length]; exact Nat.le_refl _⟩
  obtain ⟨v, g1, g2⟩ := h2.get hi
  refine ⟨⟨us, v, q, g1⟩, fun x H'' hy => ?_⟩
  obtain ⟨rfl, fv⟩ := hy
  have ev : x = v := Option.some.inj ((fv _ q).symm.trans g1)
  subst ev
  exact ⟨S', Ext.refl e2, g2.mono e1⟩
theorem id_list (hl : PD K mg X E l tl f) (hK : X.K = K := by rfl) : ID K mg X E tg l (iList K tl) (fItL f) := ⟨hK ▸ pi_list hl.pe, fun S H σ ρ R rl h => by
  refine hl.sd S H σ ρ _ rl (h.bind fun d v S1 H1 x1 d1 h1 => ?_)
  cases d with
  | list ds =>
    rw [DV] at d1
    obtain ⟨a, us, rfl, g1, g2⟩ := d1
    exact ⟨a, rfl, ⟨us, ls_sq (ls_mono x1.sh g1)⟩, h1.ok0 x1.sh (walks_list g1 g2)⟩
  | _ => exact h1.elim⟩
theorem id_tup (hl : PD K mg X E l tl f) (hK : X.K = K := by rfl) : ID K mg X E tg l (iTup K tl) (fItT f) := ⟨hK ▸ pi_tup hl.pe, fun S H σ ρ R rl h => by
  refine hl.sd S H σ ρ _ rl (h.bind fun d v S1 H1 x1 d1 h1 => ?_)
  cases d with
  | tuple ds =>
    rw [DV] at d1
    obtain ⟨a, us, rfl, g1, g2⟩ := d1
    exact ⟨a, rfl, ⟨us, same_t x1.sh g1.1⟩, h1.ok0 x1.sh (walks_tup g1.1 g2)⟩
  | _ => exact h1.elim⟩
def rngD (lo : Int) (n : Nat) : List D := (List.range n).map fun (i : Nat) => PyData.int (lo + (i : Int))
theorem walks_rng {K : PySem.W.Frag} {S : Hp} (lo : Int) (n : Nat) : Walks K S (Itr lo n) (rngD lo n) := fun S' H' e1 e2 => by
  have hl : (rngD lo n).length = n := by unfold rngD; rw [List.length_map, List.length_range]
  refine ⟨fun i d hi => ?_, by rw [hl]; exact Nat.le_refl n⟩
  have hin : i < n := by
    have := (List.getElem?_eq_some_iff.mp hi).1
    omega
  refine ⟨hin, fun x H'' hy => ?_⟩
  obtain ⟨rfl, rfl⟩ := hy
  refine ⟨S', Ext.refl e2, ?_⟩
  unfold rngD at hi
  rw [List.getElem?_map, List.getElem?_range hin] at hi
  have hi := Option.some.inj hi
  rw [← hi]
  rfl
def rngOk (i : Int) : Bool := decide (-1000000000000 ≤ i) && decide (i ≤ 1000000000000)
theorem rngOk.b {i : Int} (h : rngOk i = true) : -(2 ^ 62) ≤ i ∧ i < 2 ^ 62 := by
  obtain ⟨h1, h2⟩ := and_split h
  have h1 := of_decide_eq_true h1
  have h2 := of_decide_eq_true h2
  have e : (2 : Int) ^ 62 = 4611686018427387904 := by decide
  omega
def gRng1 : List D → Res (List D)
  | [.int j] => if rngOk j = true then .ok (rngD 0 j.toNat) else .bad
  | _ => .bad
def gRng2 : List D → Res (List D)
  | [.int i, .int j] => if (rngOk i && rngOk j) = true then .ok (rngD i (j - i).toNat) else .bad
  | _ => .bad
def fRng (g : List D → Res (List D)) (f : DEnv → Res (List D)) : DEnv → Res (List D) := fun ρ => (f ρ).bind g
variable {a b c : Expr} {ta : TA} {ga : DEnv → Res (List D)} {p : Pos}
theorem dvs1 {K : PySem.W.Frag} {S : Hp} {vs : List V} {d : D} (h : DVs K S vs [d]) : ∃ v, vs = [v] ∧ DV K S v d := by
  cases vs with
  | nil => exact h.elim
  | cons v vs =>
    cases vs with
    | nil => exact ⟨v, rfl, h.1⟩
    | cons _ _ => exact h.2.elim
theorem dvs2 {K : PySem.W.Frag} {S : Hp} {vs : List V} {d e : D} (h : DVs K S vs [d, e]) : ∃ v w, vs = [v, w] ∧ DV K S v d ∧ DV K S w e := by
  cases vs with
  | nil => exact h.elim
  | cons v vs =>
    obtain ⟨w, rfl, h2⟩ := dvs1 h.2
    exact ⟨v, w, rfl, h.1, h2⟩
theorem dvs3 {K : PySem.W.Frag} {S : Hp} {vs : List V} {d e f : D} (h : DVs K S vs [d, e, f]) : ∃ v w u, vs = [v, w, u] ∧ DV K S v d ∧ DV K S w e ∧ DV K S u f := by
  cases vs with
  | nil => exact h.elim
  | cons v vs =>
    obtain ⟨w, u, rfl, h2, h3⟩ := dvs2 h.2
    exact ⟨v, w, u, rfl, h.1, h2, h3⟩
theorem id_range1 (hg : Gl X "range") (hm : X.mg "range" = none) (ha : AD K mg X E [a] ta ga) (hs : starEach [a] X.env = [(false, eval a X.env)] := by rfl) : ID K mg X E tg (.Call (.Name "range" p) [a] [] pos) (iRng1 ta) (fRng gRng1 ga) :=
  ⟨pi_range1 hg hm ha.pe hs, fun S H σ ρ R rl h => ha.sd S H σ ρ _ rl (h.bind fun ds vs S1 H1 x1 d1 h1 => by
    unfold gRng1 at h1
    split at h1
    · rename_i j
      split at h1
      · rename_i hz
        obtain ⟨v, rfl, hv⟩ := dvs1 d1
        cases hv
        exact ⟨j, rfl, (rngOk.b hz).1, (rngOk.b hz).2, h1.ok0 x1.sh (walks_rng _ _)⟩
      · exact h1.elim
    · exact h1.elim)⟩
theorem id_range2 (hg : Gl X "range") (hm : X.mg "range" = none) (ha : AD K mg X E [a, b] ta ga) (hs : starEach [a, b] X.env = [(false, eval a X.env), (false, eval b X.env)] := by rfl) (hs2 : starEach [b] X.env = [(false, eval b X.env)] := by rfl) : ID K mg X E tg (.Call (.Name "range" p) [a, b] [] pos) (iRng2 ta) (fRng gRng2 ga) :=
  ⟨pi_range2 hg hm ha.pe hs hs2, fun S H σ ρ R rl h => ha.sd S H σ ρ _ rl (h.bind fun ds vs S1 H1 x1 d1 h1 => by
    unfold gRng2 at h1
    split at h1
    · rename_i i j
      split at h1
      · rename_i hz
        obtain ⟨hz1, hz2⟩ := and_split hz
        obtain ⟨v, w, rfl, hv, hw⟩ := dvs2 d1
        cases hv
        cases hw
        exact ⟨i, j, rfl, ⟨(rngOk.b hz1).1, (rngOk.b hz1).2, (rngOk.b hz2).1, (rngOk.b hz2).2⟩, h1.ok0 x1.sh (walks_rng _ _)⟩
      · exact h1.elim
    · exact h1.elim)⟩
end
end PD
namespace PD
open PySem L2
/-! ### list comprehensions -/
def Res.strict {α : Type} : Res α → Res α
  | .ok a => .ok a
  | .err _ => .bad
  | .bad => .bad
def lcGo (step : D → Res (List D)) : List D → Res (List D)
  | [] => .ok []
  | d :: ds => (step d).strict.bind fun o => (lcGo step ds).bind fun r => .ok (o ++ r)
theorem lcGo_snoc (step : D → Res (List D)) (d : D) : ∀ (xs : List D) {r : List D}, lcGo step xs = .ok r → lcGo step (xs ++ [d]) = (step d).strict.bind fun o => .ok (r ++ o)
  | [], r, h => by
    cases h
    show (step d).strict.bind (fun o => (Res.ok []).bind fun r => .ok (o ++ r)) = _
    cases (step d).strict with
    | ok o => show Res.ok (o ++ []) = Res.ok ([] ++ o); rw [List.append_nil, List.nil_append]
    | err c => rfl
    | bad => rfl
  | x :: xs, r, h => by
    have h : ((step x).strict.bind fun o => (lcGo step xs).bind fun r => .ok (o ++ r)) = .ok r := h
    show ((step x).strict.bind fun o => (lcGo step (xs ++ [d])).bind fun r => .ok (o ++ r)) = _
    cases e1 : (step x).strict with
    | ok o =>
      rw [e1] at h
      cases e2 : lcGo step xs with
      | ok r1 =>
        rw [e2] at h
        have h : Res.ok (o ++ r1) = Res.ok r := h
        cases h
        have q := lcGo_snoc step d xs e2
        show (lcGo step (xs ++ [d])).bind (fun r => .ok (o ++ r)) = _
        rw [q]
        cases (step d).strict with
        | ok o2 => show Res.ok (o ++ (r1 ++ o2)) = Res.ok (o ++ r1 ++ o2); rw [List.append_assoc]
        | err c => rfl
        | bad => rfl
      | err c => rw [e2] at h; cases h
      | bad => rw [e2] at h; cases h
    | err c => rw [e1] at h; cases h
    | bad => rw [e1] at h; cases h
/-- where the whole is ok, each part is -/
theorem lcGo_part {step : D → Res (List D)} : ∀ {xs : List D} {r : List D} (i : Nat), lcGo step xs = .ok r → ∃ r', lcGo step (xs.take i) = .ok r' ∧ ∀ d, xs[i]? = some d → ∃ o, step d = .ok o ∧ lcGo step (xs.take (i + 1)) = .ok (r' ++ o)
  | [], r, i, h => ⟨[], by rw [List.take_nil]; rfl, fun d e => by simp at e⟩
  | x :: xs, r, i, h => by
    have h : ((step x).strict.bind fun o => (lcGo step xs).bind fun r => .ok (o ++ r)) = .ok r := h
    cases e0 : step x with
    | ok o =>
      rw [e0] at h
      cases e2 : lcGo step xs with
      | ok r1 =>
        cases i with
        | zero =>
          refine ⟨[], rfl, fun d e => ?_⟩
          have e : x = d := Option.some.inj e
          subst e
          refine ⟨o, e0, ?_⟩
          show ((step x).strict.bind fun o => (Res.ok []).bind fun r => .ok (o ++ r)) = .ok ([] ++ o)
          rw [e0]
          show Res.ok (o ++ []) = Res.ok ([] ++ o)
          rw [List.append_nil, List.nil_append]
        | succ i =>
          obtain ⟨r', g1, g2⟩ := lcGo_part i e2
          refine ⟨o ++ r', ?_, fun d e => ?_⟩
          · show ((step x).strict.bind fun o => (lcGo step (xs.take i)).bind fun r => .ok (o ++ r)) = _
            rw [e0, g1]
            rfl
          · obtain ⟨o2, g3, g4⟩ := g2 d e
            refine ⟨o2, g3, ?_⟩
            show ((step x).strict.bind fun o => (lcGo step (xs.take (i + 1))).bind fun r => .ok (o ++ r)) = _
            rw [e0, g4]
            show Res.ok (o ++ (r' ++ o2)) = Res.ok (o ++ r' ++ o2)
            rw [List.append_assoc]
      | err c => rw [e2] at h; cases h
      | bad => rw [e2] at h; cases h
    | err c => rw [e0] at h; cases h
    | bad => rw [e0] at h; cases h
theorem lcGo_noerr (step : D → Res (List D)) : ∀ (xs : List D) (c : Str), lcGo step xs ≠ .err c
  | [], c, h => by cases h
  | x :: xs, c, h => by
    have h : ((step x).strict.bind fun o => (lcGo step xs).bind fun r => .ok (o ++ r)) = .err c := h
    cases e0 : step x with
    | ok o =>
      rw [e0] at h
      cases e2 : lcGo step xs with
      | ok r1 => rw [e2] at h; cases h
      | err c => exact lcGo_noerr step xs c e2
      | bad => rw [e2] at h; cases h
    | err c => rw [e0] at h; cases h
    | bad => rw [e0] at h; cases h
/-- the step: the item to the slots, the tests, the element -/
def lcStep (ρ : DEnv) (own is : List Nat) (h : D → Option (List D)) (tt : DEnv → Res Bool) (fe : DEnv → Res D) (d : D) : Res (List D) := match h d with
  | none => .bad
  | some xs => (tt (setD (wipeD ρ own) is xs)).bind fun b => if b = true then (fe (setD (wipeD ρ own) is xs)).bind fun y => .ok [y] else .ok []
def lcEnd (r : Res (List D)) : Res D := r.bind fun ys => if lenOk (ys.length + 1) = true then .ok (.list ys) else .bad
def fLc (src : DEnv → Res (List D)) (own is : List Nat) (h : D → Option (List D)) (tt : DEnv → Res Bool) (fe : DEnv → Res D) : DEnv → Res D := fun ρ => (src ρ).bind fun ds => lcEnd (lcGo (lcStep ρ own is h tt fe) ds)
structure TDs (K : PySem.W.Frag) (mg : Str → Option Value) (X : Cx) (E : XK) (ifs : List Expr) (t : TT) (f : DEnv → Res Bool) : Prop where
  pe : PTs X ifs t
  sd : ∀ (S H : Hp) (σ : L2.St) (ρ : DEnv) (Q : Bool → Hp → Prop), RelE K S H σ ρ → PostG mg E S H EqB (f ρ) Q → t σ H Q
def fYes : DEnv → Res Bool := fun _ => .ok true
section
variable {K : PySem.W.Frag} {mg : Str → Option Value} {X : Cx} {E : XK}
theorem tds_nil : TDs K mg X E [] tYes fYes := ⟨pts_nil, fun S H σ ρ Q rl h => h.ok0 rl.sh rfl⟩
theorem tds_one {c : Expr} {t : TT} {f : DEnv → Res Bool} (h : TD K mg X E c t f) : TDs K mg X E [c] t f := ⟨pts_one h.pe, h.sd⟩
/-- the state of a comprehension that grows the list at D -/
structure LcAt (K : PySem.W.Frag) (S1 H1 : Hp) (D0 : Addr) (acc : List V) (r : List D) (S H : Hp) : Prop where
  s : Same S1 S
  h : Same H1 H
  sh : Same S H
  old : ∀ x, H1 x ≠ none → S x = S1 x
  sD : S D0 = none
  hD : H D0 = some (.lst acc)
  dv : DVs K S acc r
theorem LcAt.start {K : PySem.W.Frag} {S1 H1 : Hp} {D0 : Addr} (sh : Same S1 H1) (hD : H1 D0 = none) : LcAt K S1 H1 D0 [] [] S1 (upd H1 D0 (.lst [])) :=
  ⟨Same.refl _, same_upd hD, sh.trans (same_upd hD), fun _ _ => rfl, sh.free hD, upd_same, trivial⟩
theorem LcAt.ext {K : PySem.W.Frag} {S1 H1 S H S' H' : Hp} {D0 : Addr} {acc : List V} {r : List D} (l : LcAt K S1 H1 D0 acc r S H) (x : Ext S H S' H') : LcAt K S1 H1 D0 acc r S' H' :=
  ⟨l.s.trans x.s, l.h.trans x.h, x.sh, fun a ha => by
    refine (x.old a ?_).trans (l.old a ha)
    cases e : H1 a with
    | none => exact absurd e ha
    | some o => rw [l.h a o e]; exact (fun z => nomatch z),
   by rw [x.old D0 (by rw [l.hD]; exact (fun z => nomatch z))]; exact l.sD, x.h _ _ l.hD, l.dv.mono x.s⟩
theorem LcAt.push {K : PySem.W.Frag} {S1 H1 S H : Hp} {D0 : Addr} {acc : List V} {r : List D} {y : V} {d : D} (l : LcAt K S1 H1 D0 acc r S H) (h1 : H1 D0 = none) (hy : DV K S y d) : LcAt K S1 H1 D0 (acc ++ [y]) (r ++ [d]) S (upd H D0 (.lst (acc ++ [y]))) :=
  ⟨l.s, fun b o e => by rw [upd_ne (ne_of_none e h1)]; exact l.h b o e, fun b o e => by rw [upd_ne (ne_of_none e l.sD)]; exact l.sh b o e, l.old, l.sD, upd_same, l.dv.append ⟨hy, trivial⟩⟩
theorem LcAt.done {K : PySem.W.Frag} {S1 H1 S H : Hp} {D0 : Addr} {acc : List V} {r : List D} (l : LcAt K S1 H1 D0 acc r S H) (h1 : H1 D0 = none) : Ext S1 H1 (upd S D0 (.lst acc)) H ∧ DV K (upd S D0 (.lst acc)) (.ref D0) (.list r) := by
  have sm : Same S (upd S D0 (.lst acc)) := same_upd l.sD
  refine ⟨⟨l.s.trans sm, l.h, fun b o e => ?_, fun x hx => ?_⟩, D0, acc, rfl, ls_of upd_same, l.dv.mono sm⟩
  · by_cases hb : b = D0
    · subst hb
      rw [upd_same] at e
      rw [l.hD]
      exact e
    · rw [upd_ne hb] at e
      exact l.sh b o e
  · rw [upd_ne (fun z => hx (by rw [z]; exact h1))]
    exact l.old x hx
theorem ok_of_noerr {α : Type} {mg : Str → Option Value} {S H : Hp} {W : Type} {R : Hp → W → α → Prop} {r : Res α} {Q : W → Hp → Prop} (h : PostG mg E S H R r Q) (hn : ∀ c, r ≠ .err c) : ∃ a, r = .ok a ∧ PostG mg E S H R (.ok a) Q := by
  cases r with
  | ok a => exact ⟨a, rfl, h⟩
  | err c => exact absurd rfl (hn c)
  | bad => exact h.elim
theorem lcEnd_ok {S H : Hp} {r : Res (List D)} {Q : VK} (h : PostG mg E S H (DV K) (lcEnd r) Q) (hn : ∀ c, r ≠ .err c) : ∃ ys, r = .ok ys ∧ lenOk (ys.length + 1) = true ∧ PostG mg E S H (DV K) (.ok (.list ys)) Q := by
  cases r with
  | ok ys =>
    unfold lcEnd at h
    rw [bind_ok] at h
    split at h
    · rename_i hz
      exact ⟨ys, rfl, hz, h⟩
    · exact h.elim
  | err c => exact absurd rfl (hn c)
  | bad => exact h.elim
theorem lcGo_le {step : D → Res (List D)} {xs ys : List D} (h : lcGo step xs = .ok ys) (i : Nat) {r : List D} (hr : lcGo step (xs.take i) = .ok r) : r.length ≤ ys.length := by
  have key : ∀ (as bs : List D) (ra r : List D), lcGo step (as ++ bs) = .ok r → lcGo step as = .ok ra → ra.length ≤ r.length := by
    intro as
    induction as with
    | nil => intro bs ra r _ h2; cases h2; exact Nat.zero_le _
    | cons a as ih =>
      intro bs ra r h1 h2
      have h1 : ((step a).strict.bind fun o => (lcGo step (as ++ bs)).bind fun r => .ok (o ++ r)) = .ok r := h1
      have h2 : ((step a).strict.bind fun o => (lcGo step as).bind fun r => .ok (o ++ r)) = .ok ra := h2
      cases e0 : (step a).strict with
      | ok o =>
        rw [e0] at h1 h2
        cases e1 : lcGo step (as ++ bs) with
        | ok r1 =>
          rw [e1] at h1
          cases e2 : lcGo step as with
          | ok r2 =>
            rw [e2] at h2
            have h1 : Res.ok (o ++ r1) = Res.ok r := h1
            have h2 : Res.ok (o ++ r2) = Res.ok ra := h2
            cases h1
            cases h2
            have := ih bs r2 r1 e1 e2
            rw [List.length_append, List.length_append]
            omega
          | err c => rw [e2] at h2; cases h2
          | bad => rw [e2] at h2; cases h2
        | err c => rw [e1] at h1; cases h1
        | bad => rw [e1] at h1; cases h1
      | err c => rw [e0] at h1; cases h1
      | bad => rw [e0] at h1; cases h1
  refine key (xs.take i) (xs.drop i) r ys ?_ hr
  rw [List.take_append_drop]
  exact h
variable {elt tg iter : Expr} {ifs : List Expr} {scope : Scope} {own : List (Str × Nat)} {pos : Pos} {wi : TI} {g : TG} {tt : TT} {te : TE} {src : DEnv → Res (List D)} {is : List Nat} {h : D → Option (List D)} {ft : DEnv → Res Bool} {fe : DEnv → Res D}
/-- the step is sound -/
theorem lcStep_ok {ρ : DEnv} {own is : List Nat} {h : D → Option (List D)} {ft : DEnv → Res Bool} {fe : DEnv → Res D} {d : D} {o : List D} (e : lcStep ρ own is h ft fe d = .ok o) : ∃ xs b, h d = some xs ∧ ft (setD (wipeD ρ own) is xs) = .ok b ∧
    ((b = false ∧ o = []) ∨ (b = true ∧ ∃ y, fe (setD (wipeD ρ own) is xs) = .ok y ∧ o = [y])) := by
  unfold lcStep at e
  split at e
  · cases e
  · rename_i xs hx
    cases e1 : ft (setD (wipeD ρ own) is xs) with
    | ok b =>
      rw [e1, bind_ok] at e
      refine ⟨xs, b, hx, e1, ?_⟩
      cases b with
      | false =>
        cases e
        exact .inl ⟨rfl, rfl⟩
      | true =>
        cases e2 : fe (setD (wipeD ρ own) is xs) with
        | ok y =>
          rw [e2] at e
          cases e
          exact .inr ⟨rfl, y, rfl, rfl⟩
        | err c => rw [e2] at e; cases e
        | bad => rw [e2] at e; cases e
    | err c => rw [e1] at e; cases e
    | bad => rw [e1] at e; cases e
theorem lc_sd' {X' : Cx} {S H : Hp} {σ : L2.St} {ρ : DEnv} (hsrc : ∀ R : It → Hp → Prop, PostG mg E S H (fun S J ds => Walks K S J ds) (src ρ) R → wi σ H R) (hg : GD K X' tg g is h) (ht : TDs K mg X' E0 ifs tt ft) (he : PD K mg X' E0 elt te fe) {vs : List Nat} (his : ∀ i ∈ is, i ∈ vs)
    (Q : VK) (rl : RelE K S H σ ρ) (hp : PostG mg E S H (DV K) (fLc src vs is h ft fe ρ) Q) : tLc wi g tt te vs σ H Q := by
  refine hsrc _ (hp.bind fun ds J S1 H1 x1 wk hq => ?_)
  intro D0 hD
  obtain ⟨ys, hgo, hlen, hq⟩ := lcEnd_ok hq (lcGo_noerr _ _)
  refine ⟨fun i m H => i + m = ds.length ∧ ∃ S acc r, LcAt K S1 H1 D0 acc r S H ∧ lcGo (lcStep ρ vs is h ft fe) (ds.take i) = .ok r, ⟨ds.length, by omega, S1, [], [], LcAt.start x1.sh hD, rfl⟩, ?_⟩
  rintro i m H2 ⟨him, S2, acc, r, la, hr⟩
  have wk2 := wk S2 H2 la.s la.sh
  by_cases hi : i < ds.length
  · obtain ⟨go, yl⟩ := wk2.1 i ds[i] (List.getElem?_eq_getElem hi)
    obtain ⟨r', g1, g2⟩ := lcGo_part i hgo
    obtain ⟨o, g3, g4⟩ := g2 ds[i] (List.getElem?_eq_getElem hi)
    rw [hr] at g1
    cases g1
    have hrl : (r ++ o).length ≤ ys.length := lcGo_le hgo (i + 1) g4
    have hz := lenOk.le hlen
    obtain ⟨xs, b, k1, k2, k3⟩ := lcStep_ok g3
    refine .inr ⟨go, fun H' => ∃ S acc, LcAt K S1 H1 D0 acc (r ++ o) S H', fun H' ⟨S', acc', l'⟩ => ⟨m - 1, by omega, by omega, S', acc', _, l', g4⟩, fun x H3 hy => ?_⟩
    obtain ⟨S3, x3, dx⟩ := yl x H3 hy
    have l3 := la.ext x3
    refine hg.sd S3 H3 x _ ds[i] xs _ x3.sh dx k1 fun us hus => ?_
    refine ⟨by rw [wipe_setAll is us his, wipe_wipe vs vs fun _ z => z], ?_⟩
    have x13 : Ext S H S3 H3 := by
      refine x1.trans ⟨l3.s, l3.h, l3.sh, l3.old⟩
    have rl3 : RelE K S3 H3 (PD.setAll (L2.wipe σ vs) is us) (setD (wipeD ρ vs) is xs) := ((rl.mono x13).wipe vs).setAll is us xs hus
    refine ht.sd S3 H3 _ (setD (wipeD ρ vs) is xs) _ rl3 ?_
    rw [k2]
    intro b' S4 H4 x4 eb
    cases eb
    have l4 := l3.ext x4
    rcases k3 with ⟨rfl, rfl⟩ | ⟨rfl, y, ey, rfl⟩
    · refine iteF ?_
      exact ⟨S4, acc, by rw [List.append_nil]; exact l4⟩
    · refine iteT ?_
      refine he.sd S4 H4 _ (setD (wipeD ρ vs) is xs) _ (rl3.mono x4) ?_
      rw [ey]
      intro v S5 H5 x5 dv
      have l5 := l4.ext x5
      refine ⟨acc, l5.hD, ?_, S5, acc ++ [v], l5.push hD dv⟩
      rw [la.dv.length]
      rw [List.length_append] at hrl
      have : ([y] : List D).length = 1 := rfl
      omega
  · have ei : ds.take i = ds := List.take_of_length_le (by omega)
    have e2 : i = ds.length := by omega
    subst e2
    rw [ei, hgo] at hr
    cases hr
    obtain ⟨xx, dd⟩ := la.done hD
    exact .inl ⟨wk2.2, hq.ok xx dd⟩
theorem lc_sd {X' : Cx} (hsrc : ID K mg X E tg iter wi src) (hg : GD K X' tg g is h) (ht : TDs K mg X' E0 ifs tt ft) (he : PD K mg X' E0 elt te fe) {vs : List Nat} (his : ∀ i ∈ is, i ∈ vs)
    (S H : Hp) (σ : L2.St) (ρ : DEnv) (Q : VK) (rl : RelE K S H σ ρ) (hp : PostG mg E S H (DV K) (fLc src vs is h ft fe ρ) Q) : tLc wi g tt te vs σ H Q :=
  lc_sd' (fun R q => hsrc.sd S H σ ρ R rl q) hg ht he his Q rl hp
end
end PD
namespace PD
open PySem L2
section
variable {K : PySem.W.Frag} {mg : Str → Option Value} {X : Cx} {E : XK}
variable {elt tg iter tg1 iter1 : Expr} {ifs ifs1 : List Expr} {scope : Scope} {own : List (Str × Nat)} {pos : Pos} {wi wi1 : TI} {g g1 : TG} {tt tt1 : TT} {te : TE} {src src1 : DEnv → Res (List D)} {is is1 : List Nat} {h h1 : D → Option (List D)} {ft ft1 : DEnv → Res Bool} {fe : DEnv → Res D}
abbrev Blk (X : Cx) (scope : Scope) (s : Shared) (H : Hp) (C : Addr) (cl : List (Str × Addr)) (fp : List Addr) : Cx := X.blk s H scope (compEnvC scope cl C X.env) fp
theorem pd_lc {vs : List Nat} (hc : X.calm = true) (hN : X.N.Nodup) (hi : ID K mg X E tg iter wi src) (ok : BlkOk X.N X.env.scope scope own)
    (hg : ∀ (s : Shared) (H : Hp) (C : Addr) (cl : List (Str × Addr)) (fp : List Addr), GD K (Blk X scope s H C cl fp) tg g is h) (ht : ∀ (s : Shared) (H : Hp) (C : Addr) (cl : List (Str × Addr)) (fp : List Addr), TDs K mg (Blk X scope s H C cl fp) E0 ifs tt ft)
    (he : ∀ (s : Shared) (H : Hp) (C : Addr) (cl : List (Str × Addr)) (fp : List Addr), PD K mg (Blk X scope s H C cl fp) E0 elt te fe) (hvs : own.map (·.2) = vs := by rfl) (his : ∀ i ∈ is, i ∈ vs := by decide) (hs : ∀ x, foldedSetIterable iter X.env x = pure x := by intro _; rfl) :
    PD K mg X E (.ListComp elt [⟨tg, iter, ifs, 0⟩] scope pos) (tLc wi g tt te vs) (fLc src vs is h ft fe) :=
  ⟨hvs ▸ pe_lc hc hN hi.pi ok (fun s H C cl fp => (hg s H C cl fp).pg) (fun s H C cl fp => (ht s H C cl fp).pe) (fun s H C cl fp => (he s H C cl fp).pe) hs,
   fun S H σ ρ Q rl hp => lc_sd (X := X) (X' := Blk X scope X.s_0 X.H_0 0 [] []) hi (hg _ _ _ _ _) (ht _ _ _ _ _) (he _ _ _ _ _) his S H σ ρ Q rl hp⟩
def lc2Step (ρ : DEnv) (own is : List Nat) (h : D → Option (List D)) (ft : DEnv → Res Bool) (src1 : DEnv → Res (List D)) (own1 is1 : List Nat) (h1 : D → Option (List D)) (ft1 : DEnv → Res Bool) (fe : DEnv → Res D) (d : D) : Res (List D) := match h d with
  | none => .bad
  | some xs => (ft (setD (wipeD ρ own) is xs)).bind fun b => if b = true then (src1 (setD (wipeD ρ own) is xs)).bind fun es => lcGo (lcStep (setD (wipeD ρ own) is xs) own1 is1 h1 ft1 fe) es else .ok []
def fLc2 (src : DEnv → Res (List D)) (own is : List Nat) (h : D → Option (List D)) (ft : DEnv → Res Bool) (src1 : DEnv → Res (List D)) (own1 is1 : List Nat) (h1 : D → Option (List D)) (ft1 : DEnv → Res Bool) (fe : DEnv → Res D) : DEnv → Res D :=
  fun ρ => (src ρ).bind fun ds => lcEnd (lcGo (lc2Step ρ own is h ft src1 own1 is1 h1 ft1 fe) ds)
theorem lc2Step_ok {ρ : DEnv} {own is : List Nat} {h : D → Option (List D)} {ft : DEnv → Res Bool} {src1 : DEnv → Res (List D)} {own1 is1 : List Nat} {h1 : D → Option (List D)} {ft1 : DEnv → Res Bool} {fe : DEnv → Res D} {d : D} {o : List D} (e : lc2Step ρ own is h ft src1 own1 is1 h1 ft1 fe d = .ok o) :
    ∃ xs b, h d = some xs ∧ ft (setD (wipeD ρ own) is xs) = .ok b ∧ ((b = false ∧ o = []) ∨ (b = true ∧ ∃ es, src1 (setD (wipeD ρ own) is xs) = .ok es ∧ lcGo (lcStep (setD (wipeD ρ own) is xs) own1 is1 h1 ft1 fe) es = .ok o)) := by
  unfold lc2Step at e
  split at e
  · cases e
  · rename_i xs hx
    cases e1 : ft (setD (wipeD ρ own) is xs) with
    | ok b =>
      rw [e1, bind_ok] at e
      refine ⟨xs, b, hx, e1, ?_⟩
      cases b with
      | false =>
        cases e
        exact .inl ⟨rfl, rfl⟩
      | true =>
        cases e2 : src1 (setD (wipeD ρ own) is xs) with
        | ok y =>
          rw [e2] at e
          exact .inr ⟨rfl, y, rfl, e⟩
        | err c => rw [e2] at e; cases e
        | bad => rw [e2] at e; cases e
    | err c => rw [e1] at e; cases e
    | bad => rw [e1] at e; cases e
theorem lc2_sd {X' : Cx} (hsrc : ID K mg X E tg iter wi src) (hg : GD K X' tg g is h) (ht : TDs K mg X' E0 ifs tt ft) (hsrc1 : ID K mg X' E0 tg1 iter1 wi1 src1) (hg1 : GD K X' tg1 g1 is1 h1) (ht1 : TDs K mg X' E0 ifs1 tt1 ft1) (he : PD K mg X' E0 elt te fe) {vs vs1 : List Nat} (his : ∀ i ∈ is, i ∈ vs) (his1 : ∀ i ∈ is1, i ∈ vs1)
    (S H : Hp) (σ : L2.St) (ρ : DEnv) (Q : VK) (rl : RelE K S H σ ρ) (hp : PostG mg E S H (DV K) (fLc2 src vs is h ft src1 vs1 is1 h1 ft1 fe ρ) Q) : tLc2 wi g tt wi1 g1 tt1 te vs vs1 σ H Q := by
  refine hsrc.sd S H σ ρ _ rl (hp.bind fun ds J S1 H1 x1 wk hq => ?_)
  intro D0 hD
  obtain ⟨ys, hgo, hlen, hq⟩ := lcEnd_ok hq (lcGo_noerr _ _)
  refine ⟨fun i m H => i + m = ds.length ∧ ∃ S acc r, LcAt K S1 H1 D0 acc r S H ∧ lcGo (lc2Step ρ vs is h ft src1 vs1 is1 h1 ft1 fe) (ds.take i) = .ok r, ⟨ds.length, by omega, S1, [], [], LcAt.start x1.sh hD, rfl⟩, ?_⟩
  rintro i m H2 ⟨him, S2, acc, r, la, hr⟩
  have wk2 := wk S2 H2 la.s la.sh
  by_cases hi : i < ds.length
  · obtain ⟨go, yl⟩ := wk2.1 i ds[i] (List.getElem?_eq_getElem hi)
    obtain ⟨r', g1', g2⟩ := lcGo_part i hgo
    obtain ⟨o, g3, g4⟩ := g2 ds[i] (List.getElem?_eq_getElem hi)
    rw [hr] at g1'
    cases g1'
    have hrl : (r ++ o).length ≤ ys.length := lcGo_le hgo (i + 1) g4
    have hz := lenOk.le hlen
    obtain ⟨xs, b, k1, k2, k3⟩ := lc2Step_ok g3
    refine .inr ⟨go, fun H' => ∃ S acc, LcAt K S1 H1 D0 acc (r ++ o) S H', fun H' ⟨S', acc', l'⟩ => ⟨m - 1, by omega, by omega, S', acc', _, l', g4⟩, fun x H3 hy => ?_⟩
    obtain ⟨S3, x3, dx⟩ := yl x H3 hy
    have l3 := la.ext x3
    refine hg.sd S3 H3 x _ ds[i] xs _ x3.sh dx k1 fun us hus => ?_
    refine ⟨by rw [wipe_setAll is us his, wipe_wipe vs vs fun _ z => z], ?_⟩
    have x13 : Ext S H S3 H3 := x1.trans ⟨l3.s, l3.h, l3.sh, l3.old⟩
    have rl3 : RelE K S3 H3 (PD.setAll (L2.wipe σ vs) is us) (setD (wipeD ρ vs) is xs) := ((rl.mono x13).wipe vs).setAll is us xs hus
    refine ht.sd S3 H3 _ (setD (wipeD ρ vs) is xs) _ rl3 ?_
    rw [k2]
    intro b' S4 H4 x4 eb
    cases eb
    have l4 := l3.ext x4
    rcases k3 with ⟨rfl, rfl⟩ | ⟨rfl, es, ee, hin⟩
    · refine iteF ?_
      exact ⟨S4, acc, by rw [List.append_nil]; exact l4⟩
    · refine iteT ?_
      have rl4 := rl3.mono x4
      refine hsrc1.sd S4 H4 _ (setD (wipeD ρ vs) is xs) _ rl4 ?_
      rw [ee]
      intro J1 S5 H5 x5 wk5
      have l5 := l4.ext x5
      have rl5 := rl4.mono x5
      refine ⟨fun j k H => j + k = es.length ∧ ∃ S acc rj, LcAt K S1 H1 D0 acc (r ++ rj) S H ∧ Ext S5 (fun a => if a = D0 then none else H5 a) S (fun a => if a = D0 then none else H a) ∧ lcGo (lcStep (setD (wipeD ρ vs) is xs) vs1 is1 h1 ft1 fe) (es.take j) = .ok rj, ⟨es.length, by omega, S5, acc, [], by rw [List.append_nil]; exact l5, ?_, rfl⟩, ?_⟩
      · refine Ext.refl fun a o e => ?_
        have : a ≠ D0 := ne_of_none e l5.sD
        show (if a = D0 then none else H5 a) = some o
        rw [if_neg this]
        exact l5.sh a o e
      rintro j k H6 ⟨hjk, S6, acc6, rj, l6, x6, hrj⟩
      have s56 : Same S5 S6 := x6.s
      have wk6 := wk5 S6 H6 s56 l6.sh
      by_cases hj : j < es.length
      · obtain ⟨go1, yl1⟩ := wk6.1 j es[j] (List.getElem?_eq_getElem hj)
        obtain ⟨rj', q1, q2⟩ := lcGo_part j hin
        obtain ⟨o1, q3, q4⟩ := q2 es[j] (List.getElem?_eq_getElem hj)
        rw [hrj] at q1
        cases q1
        have hrl1 : (rj ++ o1).length ≤ o.length := lcGo_le hin (j + 1) q4
        obtain ⟨xs1, b1, p1, p2, p3⟩ := lcStep_ok q3
        have push : ∀ {S' H'}, Ext S6 H6 S' H' → Ext S5 (fun a => if a = D0 then none else H5 a) S' (fun a => if a = D0 then none else H' a) := fun {S' H'} xx => by
          refine x6.trans ⟨xx.s, fun a o e => ?_, fun a o e => ?_, fun a ha => ?_⟩
          · have e : (if a = D0 then none else H6 a) = some o := e
            show (if a = D0 then none else H' a) = some o
            split at e
            · cases e
            · rename_i hn
              rw [if_neg hn]
              exact xx.h a o e
          · have hn : a ≠ D0 := by
              intro z
              subst z
              rw [xx.old a (by rw [l6.hD]; exact (fun z => nomatch z)), l6.sD] at e
              cases e
            show (if a = D0 then none else H' a) = some o
            rw [if_neg hn]
            exact xx.sh a o e
          · refine xx.old a fun z => ha ?_
            show (if a = D0 then none else H6 a) = none
            split
            · rfl
            · exact z
        refine .inr ⟨go1, fun H' => ∃ S acc, LcAt K S1 H1 D0 acc (r ++ (rj ++ o1)) S H' ∧ Ext S5 (fun a => if a = D0 then none else H5 a) S (fun a => if a = D0 then none else H' a), fun H' ⟨S', acc', l', xx⟩ => ⟨k - 1, by omega, by omega, S', acc', _, l', xx, q4⟩, fun x' H7 hy' => ?_⟩
        obtain ⟨S7, x7, dx7⟩ := yl1 x' H7 hy'
        have l7 := l6.ext x7
        refine hg1.sd S7 H7 x' _ es[j] xs1 _ x7.sh dx7 p1 fun us1 hus1 => ?_
        refine ⟨by rw [wipe_setAll is1 us1 his1, wipe_wipe vs1 vs1 fun _ z => z], ?_⟩
        have rl7 : RelE K S7 H7 (PD.setAll (L2.wipe σ vs) is us) (setD (wipeD ρ vs) is xs) :=
          ⟨x7.sh, rl5.len, fun a y e => let ⟨v, e1, e2⟩ := rl5.dt a y e; ⟨v, e1, (e2.mono s56).mono x7.s⟩, rl5.rw⟩
        have rl8 := (rl7.wipe vs1).setAll is1 us1 xs1 hus1
        refine ht1.sd S7 H7 _ _ _ rl8 ?_
        rw [p2]
        intro b'' S8 H8 x8 eb
        cases eb
        have l8 := l7.ext x8
        rcases p3 with ⟨rfl, rfl⟩ | ⟨rfl, y, ey, rfl⟩
        · refine iteF ?_
          exact ⟨S8, acc6, by rw [List.append_nil]; exact l8, push (x7.trans x8)⟩
        · refine iteT ?_
          refine he.sd S8 H8 _ _ _ (rl8.mono x8) ?_
          rw [ey]
          intro v S9 H9 x9 dv
          have l9 := l8.ext x9
          refine ⟨acc6, l9.hD, ?_, S9, acc6 ++ [v], ?_, ?_⟩
          · rw [l6.dv.length, List.length_append]
            rw [List.length_append] at hrl hrl1
            have : ([y] : List D).length = 1 := rfl
            omega
          · rw [← List.append_assoc]
            exact l9.push hD dv
          · have q := push ((x7.trans x8).trans x9)
            have eqh : (fun a => if a = D0 then none else upd H9 D0 (.lst (acc6 ++ [v])) a) = (fun a => if a = D0 then none else H9 a) := by
              funext a
              by_cases ha : a = D0
              · rw [if_pos ha, if_pos ha]
              · rw [if_neg ha, if_neg ha, upd_ne ha]
            show Ext S5 (fun a => if a = D0 then none else H5 a) S9 (fun a => if a = D0 then none else upd H9 D0 (.lst (acc6 ++ [v])) a)
            rw [eqh]
            exact q
      · have ei : es.take j = es := List.take_of_length_le (by omega)
        have e2 : j = es.length := by omega
        subst e2
        rw [ei, hin] at hrj
        cases hrj
        exact .inl ⟨wk6.2, S6, acc6, l6⟩
  · have ei : ds.take i = ds := List.take_of_length_le (by omega)
    have e2 : i = ds.length := by omega
    subst e2
    rw [ei, hgo] at hr
    cases hr
    obtain ⟨xx, dd⟩ := la.done hD
    exact .inl ⟨wk2.2, hq.ok xx dd⟩
theorem pd_lc2 {vs vs1 : List Nat} (hc : X.calm = true) (hN : X.N.Nodup) (hi : ID K mg X E tg iter wi src) (ok : BlkOk X.N X.env.scope scope own) (hv : ∀ i ∈ vs1, i ∈ own.map (·.2))
    (hg : ∀ (s : Shared) (H : Hp) (C : Addr) (cl : List (Str × Addr)) (fp : List Addr), GD K (Blk X scope s H C cl fp) tg g is h) (ht : ∀ (s : Shared) (H : Hp) (C : Addr) (cl : List (Str × Addr)) (fp : List Addr), TDs K mg (Blk X scope s H C cl fp) E0 ifs tt ft)
    (hi1 : ∀ (s : Shared) (H : Hp) (C : Addr) (cl : List (Str × Addr)) (fp : List Addr), ID K mg (Blk X scope s H C cl fp) E0 tg1 iter1 wi1 src1)
    (hg1 : ∀ (s : Shared) (H : Hp) (C : Addr) (cl : List (Str × Addr)) (fp : List Addr), GD K (Blk X scope s H C cl fp) tg1 g1 is1 h1) (ht1 : ∀ (s : Shared) (H : Hp) (C : Addr) (cl : List (Str × Addr)) (fp : List Addr), TDs K mg (Blk X scope s H C cl fp) E0 ifs1 tt1 ft1)
    (he : ∀ (s : Shared) (H : Hp) (C : Addr) (cl : List (Str × Addr)) (fp : List Addr), PD K mg (Blk X scope s H C cl fp) E0 elt te fe) (hvs : own.map (·.2) = vs := by rfl) (his : ∀ i ∈ is, i ∈ vs := by decide) (his1 : ∀ i ∈ is1, i ∈ vs1 := by decide)
    (hs : ∀ x, foldedSetIterable iter X.env x = pure x := by intro _; rfl) (hs1 : ∀ (env : Env) x, foldedSetIterable iter1 env x = pure x := by intro _ _; rfl) :
    PD K mg X E (.ListComp elt [⟨tg, iter, ifs, 0⟩, ⟨tg1, iter1, ifs1, 0⟩] scope pos) (tLc2 wi g tt wi1 g1 tt1 te vs vs1) (fLc2 src vs is h ft src1 vs1 is1 h1 ft1 fe) :=
  ⟨hvs ▸ pe_lc2 hc hN hi.pi ok hv (fun s H C cl fp => (hg s H C cl fp).pg) (fun s H C cl fp => (ht s H C cl fp).pe) (fun s H C cl fp => (hi1 s H C cl fp).pi) (fun s H C cl fp => (hg1 s H C cl fp).pg) (fun s H C cl fp => (ht1 s H C cl fp).pe) (fun s H C cl fp => (he s H C cl fp).pe) hs hs1,
   fun S H σ ρ Q rl hp => lc2_sd (X := X) (X' := Blk X scope X.s_0 X.H_0 0 [] []) hi (hg _ _ _ _ _) (ht _ _ _ _ _) (hi1 _ _ _ _ _) (hg1 _ _ _ _ _) (ht1 _ _ _ _ _) (he _ _ _ _ _) his his1 S H σ ρ Q rl hp⟩
end
end PD
namespace PD
open PySem L2
/-! ### states of a body: what is shared, what a slot owns -/
def isOwn : Slot → Bool
  | .own _ => true
  | .ownK _ => true
  | .ownT _ => true
  | _ => false
def OwnOk (K : PySem.W.Frag) (S H : Hp) (p : Addr) : Slot → Prop
  | .own xs => ∃ vs, H p = some (.lst vs) ∧ DVs K S vs xs
  | .ownK kvs => ∃ es : List (Key × V), H p = some (.dK es) ∧ es.map (·.1) = kvs.map (·.1) ∧ DVs K S (es.map (·.2)) (kvs.map (·.2))
  | .ownT kvs => ∃ es : List (List Key × V), H p = some (.dT es) ∧ es.map (·.1) = kvs.map (·.1) ∧ DVs K S (es.map (·.2)) (kvs.map (·.2))
  | _ => False
theorem OwnOk.mono {K : PySem.W.Frag} {S H S' H' : Hp} {p : Addr} {s : Slot} (o : OwnOk K S H p s) (e : Same S S') (h : ∀ u, H p = some u → H' p = some u) : OwnOk K S' H' p s := by
  cases s with
  | own xs => obtain ⟨vs, h1, h2⟩ := o; exact ⟨vs, h _ h1, h2.mono e⟩
  | ownK kvs => obtain ⟨vs, h1, h2, h3⟩ := o; exact ⟨vs, h _ h1, h2, h3.mono e⟩
  | ownT kvs => obtain ⟨vs, h1, h2, h3⟩ := o; exact ⟨vs, h _ h1, h2, h3.mono e⟩
  | _ => exact o.elim
theorem OwnOk.some {K : PySem.W.Frag} {S H : Hp} {p : Addr} {s : Slot} (o : OwnOk K S H p s) : ∃ u, H p = some u := by
  cases s with
  | own xs => obtain ⟨vs, h1, h2⟩ := o; exact ⟨_, h1⟩
  | ownK kvs => obtain ⟨vs, h1, h2, h3⟩ := o; exact ⟨_, h1⟩
  | ownT kvs => obtain ⟨vs, h1, h2, h3⟩ := o; exact ⟨_, h1⟩
  | _ => exact o.elim
structure Rel (K : PySem.W.Frag) (S0 H0 S H : Hp) (σ : L2.St) (ρ : DEnv) : Prop where
  x : Ext S0 H0 S H
  len : σ.length = ρ.length
  dt : ∀ (i : Nat) (y : D), ρ[i]? = some (Slot.d y) → ∃ v, σ[i]? = some (some v) ∧ DV K S v y
  rw : ∀ (i : Nat) (v : V), ρ[i]? = some (Slot.raw v) → σ[i]? = some (some v)
  own : ∀ (i : Nat) (s : Slot), ρ[i]? = some s → isOwn s = true → ∃ p, σ[i]? = some (some (.ref p)) ∧ S p = none ∧ H0 p = none ∧ OwnOk K S H p s
  dis : ∀ (i j : Nat) (s s' : Slot) (p : Addr), ρ[i]? = some s → ρ[j]? = some s' → isOwn s = true → isOwn s' = true → σ[i]? = some (some (.ref p)) → σ[j]? = some (some (.ref p)) → i = j
def view : Slot → Slot
  | .own xs => .d (.list xs)
  | .ownK kvs => .d (.dict (kvs.map fun e => (kD e.1, e.2)))
  | .ownT kvs => .d (.dict (kvs.map fun e => (.tuple (e.1.map kD), e.2)))
  | s => s
def viewAll (ρ : DEnv) : DEnv := ρ.map view
section
variable {K : PySem.W.Frag} {S0 H0 S H S' H' : Hp} {σ : L2.St} {ρ : DEnv}
theorem Rel.relE (r : Rel K S0 H0 S H σ ρ) : RelE K S H σ ρ := ⟨r.x.sh, r.len, r.dt, r.rw⟩
theorem DVp_of {K : PySem.W.Frag} {S : Hp} {κ : Type} (f : κ → D) : ∀ {vs : List V} {kvs : List (κ × D)}, DVs K S vs (kvs.map (·.2)) → DVp K S vs (kvs.map fun e => (f e.1, e.2))
  | [], [], _ => by rw [List.map_nil, DVp]; trivial
  | v :: vs, e :: kvs, h => by
    rw [List.map_cons, DVp]
    exact ⟨h.1, DVp_of f (vs := vs) (kvs := kvs) h.2⟩
  | [], _ :: _, h => h.elim
  | _ :: _, [], h => h.elim
theorem own_dv {p : Addr} {s : Slot} {y : D} (o : OwnOk K S H p s) (e : view s = .d y) (hs : isOwn s = true) (T : Hp) (st : Same S T) (ht : ∀ u, H p = some u → T p = some u) : DV K T (.ref p) y := by
  cases s with
  | own xs =>
    obtain ⟨vs, h1, h2⟩ := o
    cases e
    exact ⟨p, vs, rfl, ls_of (ht _ h1), h2.mono st⟩
  | ownK kvs =>
    obtain ⟨vs, h1, h2, h3⟩ := o
    cases e
    refine ⟨p, rfl, .inl ⟨vs, .inl (ht _ h1), ?_, DVp_of _ (h3.mono st)⟩⟩
    have := congrArg (List.map kD) h2
    simp only [List.map_map] at this ⊢
    exact this.symm
  | ownT kvs =>
    obtain ⟨vs, h1, h2, h3⟩ := o
    cases e
    refine ⟨p, rfl, .inr ⟨vs, .inl (ht _ h1), ?_, DVp_of (fun k : List Key => PyData.tuple (k.map kD)) (h3.mono st)⟩⟩
    have := congrArg (List.map fun k : List Key => PyData.tuple (k.map kD)) h2
    simp only [List.map_map] at this ⊢
    exact this.symm
  | _ => cases hs
theorem view_d {s : Slot} {y : D} (e : view s = .d y) : (isOwn s = true) ∨ s = .d y := by
  cases s with
  | un => cases e
  | d x => exact .inr e
  | own xs => exact .inl rfl
  | ownK kvs => exact .inl rfl
  | ownT kvs => exact .inl rfl
  | raw v => cases e
theorem view_raw {s : Slot} {v : V} (e : view s = .raw v) : s = .raw v := by
  cases s with
  | raw w => exact e
  | _ => cases e
/-- all that is tracked, read: nothing is owned for the while -/
theorem Rel.relV (r : Rel K S0 H0 S H σ ρ) : RelE K H H σ (viewAll ρ) := by
  refine ⟨Same.refl H, by unfold viewAll; rw [List.length_map]; exact r.len, fun i y e => ?_, fun i v e => ?_⟩
  · unfold viewAll at e
    rw [List.getElem?_map] at e
    cases e1 : ρ[i]? with
    | none => rw [e1] at e; cases e
    | some s =>
      rw [e1] at e
      have e2 : view s = .d y := Option.some.inj e
      rcases view_d e2 with hs | hs
      · obtain ⟨p, h1, h2, h3, h4⟩ := r.own i s e1 hs
        exact ⟨_, h1, own_dv h4 e2 hs H r.x.sh fun _ z => z⟩
      · rw [hs] at e1
        obtain ⟨v, h1, h2⟩ := r.dt i y e1
        exact ⟨v, h1, h2.mono r.x.sh⟩
  · unfold viewAll at e
    rw [List.getElem?_map] at e
    cases e1 : ρ[i]? with
    | none => rw [e1] at e; cases e
    | some s =>
      rw [e1] at e
      have e2 : view s = .raw v := Option.some.inj e
      rw [view_raw e2] at e1
      exact r.rw i v e1
theorem Rel.ext (r : Rel K S0 H0 S H σ ρ) (y : Ext S H S' H') : Rel K S0 H0 S' H' σ ρ :=
  ⟨r.x.trans y, r.len, fun i z e => let ⟨v, h1, h2⟩ := r.dt i z e; ⟨v, h1, h2.mono y.s⟩, r.rw, fun i s e hs => by
    obtain ⟨p, h1, h2, h3, h4⟩ := r.own i s e hs
    obtain ⟨u, hu⟩ := h4.some
    exact ⟨p, h1, by rw [y.old p (by rw [hu]; exact (fun z => nomatch z))]; exact h2, h3, h4.mono y.s fun _ z => y.h _ _ z⟩, r.dis⟩
theorem Rel.grow (r : Rel K S0 H0 S H σ ρ) (y : Same H H') : Rel K S0 H0 S H' σ ρ :=
  ⟨⟨r.x.s, r.x.h.trans y, r.x.sh.trans y, r.x.old⟩, r.len, r.dt, r.rw, fun i s e hs => by
    obtain ⟨p, h1, h2, h3, h4⟩ := r.own i s e hs
    exact ⟨p, h1, h2, h3, h4.mono (Same.refl _) fun _ z => y _ _ z⟩, r.dis⟩
theorem set_at {α : Type} {l : List α} {i j : Nat} {x y : α} (e : (l.set i x)[j]? = some y) : (i = j ∧ i < l.length ∧ x = y) ∨ (i ≠ j ∧ l[j]? = some y) := by
  by_cases hj : i = j
  · subst hj
    by_cases hi : i < l.length
    · rw [List.getElem?_set_self hi] at e
      exact .inl ⟨rfl, hi, Option.some.inj e⟩
    · rw [List.getElem?_eq_none (by rw [List.length_set]; omega)] at e
      cases e
  · rw [List.getElem?_set_ne hj] at e
    exact .inr ⟨hj, e⟩
theorem Rel.setV (r : Rel K S0 H0 S H σ ρ) {i : Nat} {v : V} {y : D} (h : DV K S v y) : Rel K S0 H0 S H (σ.set i (some v)) (ρ.set i (.d y)) := by
  have hl := r.len
  refine ⟨r.x, by rw [List.length_set, List.length_set]; exact hl, fun j z e => ?_, fun j z e => ?_, fun j s e hs => ?_, fun j k s s' p e1 e2 h1 h2 g1 g2 => ?_⟩
  · rcases set_at e with ⟨rfl, hi, e⟩ | ⟨hj, e⟩
    · cases e
      exact ⟨v, List.getElem?_set_self (by omega), h⟩
    · rw [List.getElem?_set_ne hj]
      exact r.dt j z e
  · rcases set_at e with ⟨rfl, hi, e⟩ | ⟨hj, e⟩
    · cases e
    · rw [List.getElem?_set_ne hj]
      exact r.rw j z e
  · rcases set_at e with ⟨rfl, hi, e⟩ | ⟨hj, e⟩
    · subst e
      cases hs
    · rw [List.getElem?_set_ne hj]
      exact r.own j s e hs
  · rcases set_at e1 with ⟨rfl, hi, e1⟩ | ⟨hj, e1⟩
    · subst e1
      cases h1
    · rcases set_at e2 with ⟨rfl, hi, e2⟩ | ⟨hk, e2⟩
      · subst e2
        cases h2
      · rw [List.getElem?_set_ne hj] at g1
        rw [List.getElem?_set_ne hk] at g2
        exact r.dis j k s s' p e1 e2 h1 h2 g1 g2
theorem Rel.setAll (is : List Nat) : ∀ (vs : List V) (ds : List D) {σ : L2.St} {ρ : DEnv}, Rel K S0 H0 S H σ ρ → DVs K S vs ds → Rel K S0 H0 S H (PD.setAll σ is vs) (setD ρ is ds) := by
  induction is with
  | nil => intro vs ds σ ρ r _; cases vs <;> cases ds <;> exact r
  | cons i is ih =>
    intro vs ds σ ρ r h
    cases vs with
    | nil =>
      cases ds with
      | nil => exact r
      | cons _ _ => exact h.elim
    | cons v vs =>
      cases ds with
      | nil => exact h.elim
      | cons d ds => exact ih vs ds (r.setV h.1) h.2
/-- a slot takes what is new and owned -/
theorem Rel.setOwn (r : Rel K S0 H0 S H σ ρ) {i : Nat} {p : Addr} {s : Slot} (hs : isOwn s = true) (h1 : S p = none) (h2 : H0 p = none) (h3 : OwnOk K S H p s) (h4 : ∀ (j : Nat) (s' : Slot), ρ[j]? = some s' → isOwn s' = true → σ[j]? ≠ some (some (.ref p))) :
    Rel K S0 H0 S H (σ.set i (some (.ref p))) (ρ.set i s) := by
  have hl := r.len
  refine ⟨r.x, by rw [List.length_set, List.length_set]; exact hl, fun j z e => ?_, fun j z e => ?_, fun j s' e hs' => ?_, fun j k s1 s2 q e1 e2 k1 k2 g1 g2 => ?_⟩
  · rcases set_at e with ⟨rfl, hi, e⟩ | ⟨hj, e⟩
    · subst e
      cases hs
    · rw [List.getElem?_set_ne hj]
      exact r.dt j z e
  · rcases set_at e with ⟨rfl, hi, e⟩ | ⟨hj, e⟩
    · subst e
      cases hs
    · rw [List.getElem?_set_ne hj]
      exact r.rw j z e
  · rcases set_at e with ⟨rfl, hi, e⟩ | ⟨hj, e⟩
    · subst e
      exact ⟨p, List.getElem?_set_self (by omega), h1, h2, h3⟩
    · rw [List.getElem?_set_ne hj]
      exact r.own j s' e hs'
  · rcases set_at e1 with ⟨rfl, hi, e1⟩ | ⟨hj, e1⟩
    · rcases set_at e2 with ⟨z, _, _⟩ | ⟨hk, e2⟩
      · exact z
      · rw [List.getElem?_set_self (by omega)] at g1
        rw [List.getElem?_set_ne hk] at g2
        cases g1
        exact absurd g2 (h4 k s2 e2 k2)
    · rcases set_at e2 with ⟨rfl, hi, e2⟩ | ⟨hk, e2⟩
      · rw [List.getElem?_set_self (by omega)] at g2
        rw [List.getElem?_set_ne hj] at g1
        cases g2
        exact absurd g1 (h4 j s1 e1 k1)
      · rw [List.getElem?_set_ne hj] at g1
        rw [List.getElem?_set_ne hk] at g2
        exact r.dis j k s1 s2 q e1 e2 k1 k2 g1 g2
/-- what a slot owns is changed -/
theorem Rel.mut (r : Rel K S0 H0 S H σ ρ) {i : Nat} {p : Addr} {s s' : Slot} {o : HO} (e : ρ[i]? = some s) (hs : isOwn s = true) (hs' : isOwn s' = true) (hp : σ[i]? = some (some (.ref p))) (h3 : OwnOk K S (upd H p o) p s') :
    Rel K S0 H0 S (upd H p o) σ (ρ.set i s') := by
  have hl := r.len
  obtain ⟨p', g1, g2, g3, g4⟩ := r.own i s e hs
  have ep : p' = p := by
    rw [hp] at g1
    cases g1
    rfl
  subst ep
  have il : i < ρ.length := (List.getElem?_eq_some_iff.mp e).1
  refine ⟨⟨r.x.s, fun b u q => ?_, fun b u q => ?_, r.x.old⟩, by rw [List.length_set]; exact hl, fun j z e' => ?_, fun j z e' => ?_, fun j s2 e' hs2 => ?_, fun j k s1 s2 q e1 e2 k1 k2 q1 q2 => ?_⟩
  · rw [upd_ne (ne_of_none q g3)]
    exact r.x.h b u q
  · rw [upd_ne (ne_of_none q g2)]
    exact r.x.sh b u q
  · rcases set_at e' with ⟨rfl, hi, e'⟩ | ⟨hj, e'⟩
    · subst e'
      cases hs'
    · exact r.dt j z e'
  · rcases set_at e' with ⟨rfl, hi, e'⟩ | ⟨hj, e'⟩
    · subst e'
      cases hs'
    · exact r.rw j z e'
  · rcases set_at e' with ⟨rfl, hi, e'⟩ | ⟨hj, e'⟩
    · subst e'
      exact ⟨p', hp, g2, g3, h3⟩
    · obtain ⟨q, q1, q2, q3, q4⟩ := r.own j s2 e' hs2
      have hq : q ≠ p' := fun z => hj (by
        subst z
        exact r.dis i j s s2 q e e' hs hs2 hp q1)
      exact ⟨q, q1, q2, q3, q4.mono (Same.refl _) fun u z => by rw [upd_ne hq]; exact z⟩
  · have w1 : ∃ t, ρ[j]? = some t ∧ isOwn t = true := by
      rcases set_at e1 with ⟨rfl, hi, e1⟩ | ⟨hj, e1⟩
      · exact ⟨s, e, hs⟩
      · exact ⟨s1, e1, k1⟩
    have w2 : ∃ t, ρ[k]? = some t ∧ isOwn t = true := by
      rcases set_at e2 with ⟨rfl, hi, e2⟩ | ⟨hj, e2⟩
      · exact ⟨s, e, hs⟩
      · exact ⟨s2, e2, k2⟩
    obtain ⟨t1, f1, f2⟩ := w1
    obtain ⟨t2, f3, f4⟩ := w2
    exact r.dis j k t1 t2 q f1 f3 f2 f4 q1 q2
/-- a slot gives up what it owns: it is shared -/
def frz1 (ρ : DEnv) (i : Nat) : DEnv := match ρ[i]? with
  | some s => ρ.set i (view s)
  | none => ρ
def frz (ρ : DEnv) : List Nat → DEnv
  | [] => ρ
  | i :: is => frz (frz1 ρ i) is
theorem Rel.frz1 (r : Rel K S0 H0 S H σ ρ) (i : Nat) : ∃ S', Same S S' ∧ Rel K S0 H0 S' H σ (PD.frz1 ρ i) := by
  unfold PD.frz1
  cases e : ρ[i]? with
  | none => exact ⟨S, Same.refl _, r⟩
  | some s =>
    show ∃ S', Same S S' ∧ Rel K S0 H0 S' H σ (ρ.set i (view s))
    by_cases hs : isOwn s = true
    · obtain ⟨p, g1, g2, g3, g4⟩ := r.own i s e hs
      obtain ⟨u, hu⟩ := g4.some
      have sm : Same S (upd S p u) := same_upd g2
      have il : i < ρ.length := (List.getElem?_eq_some_iff.mp e).1
      refine ⟨upd S p u, sm, ⟨r.x.s.trans sm, r.x.h, fun b o q => ?_, fun a ha => ?_⟩, by rw [List.length_set]; exact r.len, fun j z e' => ?_, fun j z e' => ?_, fun j s2 e' hs2 => ?_, fun j k s1 s2 q e1 e2 k1 k2 q1 q2 => ?_⟩
      · by_cases hb : b = p
        · subst hb
          rw [upd_same] at q
          rw [hu]
          exact q
        · rw [upd_ne hb] at q
          exact r.x.sh b o q
      · rw [upd_ne (fun z => ha (by rw [z]; exact g3))]
        exact r.x.old a ha
      · rcases set_at e' with ⟨rfl, hi, e'⟩ | ⟨hj, e'⟩
        · exact ⟨_, g1, own_dv g4 e' hs _ sm fun v hv => by rw [upd_same]; rw [hu] at hv; exact hv⟩
        · obtain ⟨v, h1, h2⟩ := r.dt j z e'
          exact ⟨v, h1, h2.mono sm⟩
      · rcases set_at e' with ⟨rfl, hi, e'⟩ | ⟨hj, e'⟩
        · have := view_raw e'
          subst this
          cases hs
        · exact r.rw j z e'
      · rcases set_at e' with ⟨rfl, hi, e'⟩ | ⟨hj, e'⟩
        · subst e'
          cases s <;> first | cases hs2 | cases hs
        · obtain ⟨q, q1, q2, q3, q4⟩ := r.own j s2 e' hs2
          have hq : q ≠ p := fun z => hj (by
            subst z
            exact r.dis i j s s2 q e e' hs hs2 g1 q1)
          exact ⟨q, q1, by rw [upd_ne hq]; exact q2, q3, q4.mono sm fun _ z => z⟩
      · have w1 : i ≠ j ∧ ρ[j]? = some s1 := by
          rcases set_at e1 with ⟨rfl, hi, e1⟩ | h
          · subst e1
            cases s <;> first | cases k1 | cases hs
          · exact h
        have w2 : i ≠ k ∧ ρ[k]? = some s2 := by
          rcases set_at e2 with ⟨rfl, hi, e2⟩ | h
          · subst e2
            cases s <;> first | cases k2 | cases hs
          · exact h
        exact r.dis j k s1 s2 q w1.2 w2.2 k1 k2 q1 q2
    · have ev : view s = s := by
        cases s <;> first | rfl | exact absurd rfl hs
      rw [ev]
      have es : ρ.set i s = ρ := by
        obtain ⟨h1, h2⟩ := List.getElem?_eq_some_iff.mp e
        rw [← h2, List.set_getElem_self]
      rw [es]
      exact ⟨S, Same.refl _, r⟩
theorem Rel.frz (is : List Nat) : ∀ {S : Hp} {ρ : DEnv}, Rel K S0 H0 S H σ ρ → ∃ S', Same S S' ∧ Rel K S0 H0 S' H σ (PD.frz ρ is) := by
  induction is with
  | nil => intro S ρ r; exact ⟨S, Same.refl _, r⟩
  | cons i is ih =>
    intro S ρ r
    obtain ⟨S1, s1, r1⟩ := r.frz1 i
    obtain ⟨S2, s2, r2⟩ := ih r1
    exact ⟨S2, s1.trans s2, r2⟩
end
end PD
namespace PD
open PySem L2
/-! ### statements -/
inductive SR where
  | next (ρ : DEnv)
  | ret (d : D)
  | err (c : Str)
  | brk (ρ : DEnv)
  | cont (ρ : DEnv)
  | bad
def SPost (K : PySem.W.Frag) (mg : Str → Option Value) (E : XK) (S0 H0 S : Hp) (r : SR) (N : Ends) : Prop := match r with
  | .next ρ => ∀ S' H' σ', Same S S' → Rel K S0 H0 S' H' σ' ρ → N.nx σ' H'
  | .ret d => ∀ v S' H', Ext S0 H0 S' H' → DV K S' v d → N.rt v H'
  | .err c => ∀ u H', mg c = some u → Same H0 H' → E u none H'
  | .brk ρ => ∀ S' H' σ', Same S S' → Rel K S0 H0 S' H' σ' ρ → N.bk σ' H'
  | .cont ρ => ∀ S' H' σ', Same S S' → Rel K S0 H0 S' H' σ' ρ → N.ct σ' H'
  | .bad => False
theorem SPost.mono {K : PySem.W.Frag} {mg : Str → Option Value} {E : XK} {S0 H0 S S1 : Hp} {r : SR} {N : Ends} (h : SPost K mg E S0 H0 S r N) (e : Same S S1) : SPost K mg E S0 H0 S1 r N := by
  cases r with
  | next ρ => exact fun S' H' σ' e' q => h S' H' σ' (e.trans e') q
  | ret d => exact h
  | err c => exact h
  | brk ρ => exact fun S' H' σ' e' q => h S' H' σ' (e.trans e') q
  | cont ρ => exact fun S' H' σ' e' q => h S' H' σ' (e.trans e') q
  | bad => exact h
structure SD (K : PySem.W.Frag) (mg : Str → Option Value) (X : Cx) (E : XK) (st : Stmt) (t : TS) (F : DEnv → SR) : Prop where
  ps : PS X st t
  sd : ∀ (S0 H0 S H : Hp) (σ : L2.St) (ρ : DEnv) (N : Ends), Rel K S0 H0 S H σ ρ → SPost K mg E S0 H0 S (F ρ) N → t N σ H
structure SDs (K : PySem.W.Frag) (mg : Str → Option Value) (X : Cx) (E : XK) (st : List Stmt) (t : TS) (F : DEnv → SR) : Prop where
  ps : PSs X st t
  sd : ∀ (S0 H0 S H : Hp) (σ : L2.St) (ρ : DEnv) (N : Ends), Rel K S0 H0 S H σ ρ → SPost K mg E S0 H0 S (F ρ) N → t N σ H
def SR.seq (r : SR) (k : DEnv → SR) : SR := match r with
  | .next ρ => k ρ
  | .ret d => .ret d
  | .err c => .err c
  | .brk ρ => .brk ρ
  | .cont ρ => .cont ρ
  | .bad => .bad
def ofRes {α : Type} (r : Res α) (k : α → SR) : SR := match r with
  | .ok a => k a
  | .err c => .err c
  | .bad => .bad
section
variable {K : PySem.W.Frag} {mg : Str → Option Value} {X : Cx} {E : XK} {st : Stmt} {rest : List Stmt} {t u : TS} {e : Expr} {te : TE} {pos : Pos} {F G : DEnv → SR} {f : DEnv → Res D}
def sNext : DEnv → SR := fun ρ => .next ρ
def sSeq (F G : DEnv → SR) : DEnv → SR := fun ρ => (F ρ).seq G
theorem sds_nil : SDs K mg X E [] tNext sNext := ⟨pss_nil, fun S0 H0 S H σ ρ N r h => h S H σ (Same.refl _) r⟩
theorem sds_one (h : SD K mg X E st t F) : SDs K mg X E [st] t F := ⟨pss_one h.ps, h.sd⟩
theorem sds_cons (h1 : SD K mg X E st t F) (h2 : SDs K mg X E rest u G) : SDs K mg X E (st :: rest) (tSeq t u) (sSeq F G) := ⟨pss_cons h1.ps h2.ps, fun S0 H0 S H σ ρ N r h => by
  refine h1.sd S0 H0 S H σ ρ _ r ?_
  unfold sSeq at h
  cases e : F ρ with
  | next ρ1 =>
    rw [e] at h
    intro S' H' σ' e' r'
    exact h2.sd S0 H0 S' H' σ' ρ1 N r' (SPost.mono h e')
  | ret d => rw [e] at h; exact h
  | err c => rw [e] at h; exact h
  | brk ρ1 => rw [e] at h; exact h
  | cont ρ1 => rw [e] at h; exact h
  | bad => rw [e] at h; exact h⟩
/-- from what is wanted of a statement to what is wanted of its expression -/
theorem post_of {α W : Type} {K : PySem.W.Frag} {mg : Str → Option Value} {S0 H0 S H T : Hp} {σ : L2.St} {ρ : DEnv} {N : Ends} {R : Hp → W → α → Prop} {r : Res α} {k : α → SR} {Q : W → Hp → Prop} (rl : Rel K S0 H0 S H σ ρ) (h : SPost K mg E S0 H0 S (ofRes r k) N)
    (hk : ∀ a w S' H', r = .ok a → Ext T H S' H' → R S' w a → SPost K mg E S0 H0 S (k a) N → Q w H') : PostG mg E T H R r Q := by
  cases r with
  | ok a => exact fun w S' H' x q => hk a w S' H' rfl x q h
  | err c => exact fun u H' e sm => h u H' e (rl.x.h.trans sm)
  | bad => exact h
def sExpr (f : DEnv → Res D) : DEnv → SR := fun ρ => ofRes (f ρ) fun _ => .next ρ
theorem sd_expr (he : PD K mg X E e te f) (hs : swapsWith e none pos.line X.env = pure false := by rfl) : SD K mg X E (.Expr e pos) (tDrop te) (sExpr f) := ⟨ps_expr he.pe hs, fun S0 H0 S H σ ρ N r h =>
  he.sd S H σ ρ _ r.relE (post_of r h fun a w S' H' _ x q h => h S' H' σ x.s (r.ext x))⟩
def sRet (f : DEnv → Res D) : DEnv → SR := fun ρ => ofRes (f ρ) fun d => .ret d
theorem sd_ret (he : PD K mg X E e te f) : SD K mg X E (.Return (some e) pos) (tRet te) (sRet f) := ⟨ps_ret he.pe, fun S0 H0 S H σ ρ N r h =>
  he.sd S H σ ρ _ r.relE (post_of r h fun a w S' H' _ x q h => h w S' H' (r.x.trans x) q)⟩
def sRetN : DEnv → SR := fun _ => .ret .none
theorem sd_retN : SD K mg X E (.Return none pos) tRetN sRetN := ⟨ps_retN, fun S0 H0 S H σ ρ N r h => h .non S H r.x rfl⟩
theorem sd_pass : SD K mg X E (.Pass pos) tNext sNext := ⟨ps_pass, fun S0 H0 S H σ ρ N r h => h S H σ (Same.refl _) r⟩
def sIf (g : DEnv → Res Bool) (F G : DEnv → SR) : DEnv → SR := fun ρ => ofRes (g (viewAll ρ)) fun b => if b = true then F ρ else G ρ
theorem sd_if {c : Expr} {a b : List Stmt} {tc : TT} {g : DEnv → Res Bool} (hc : TD K mg X E c tc g) (ha : SDs K mg X E a t F) (hb : SDs K mg X E b u G) : SD K mg X E (.If c a b pos) (tIfS tc t u) (sIf g F G) := ⟨ps_if hc.pe ha.ps hb.ps, fun S0 H0 S H σ ρ N r h =>
  hc.sd H H σ (viewAll ρ) _ r.relV (post_of r h fun k w S' H' _ x q h => by
    cases q
    have r' := r.grow x.h
    cases k with
    | true => exact ha.sd S0 H0 S H' σ ρ N r' h
    | false => exact hb.sd S0 H0 S H' σ ρ N r' h)⟩
/-! ### assignments -/
def sAsg (f : DEnv → Res D) (is : List Nat) (hh : D → Option (List D)) : DEnv → SR := fun ρ => ofRes (f ρ) fun d => match hh d with
  | some ds => .next (setD ρ is ds)
  | none => .bad
theorem asg_sd {g : TG} {is : List Nat} {hh : D → Option (List D)} {tg : Expr} (he : PD K mg X E e te f) (hg : GD K X tg g is hh) (S0 H0 S H : Hp) (σ : L2.St) (ρ : DEnv) (N : Ends) (r : Rel K S0 H0 S H σ ρ) (h : SPost K mg E S0 H0 S (sAsg f is hh ρ) N) : tAsg te g N σ H :=
  he.sd S H σ ρ _ r.relE (post_of r h fun a w S' H' _ x q h => by
    cases e1 : hh a with
    | none => rw [e1] at h; exact h.elim
    | some ds =>
      rw [e1] at h
      exact hg.sd S' H' w σ a ds _ x.sh q e1 fun vs hv => h S' H' _ x.s ((r.ext x).setAll is vs ds hv))
theorem sd_asg {tg : Expr} {g : TG} {is : List Nat} {hh : D → Option (List D)} (he : PD K mg X E e te f) (hg : GD K X tg g is hh) (hs : swapsWithSole [tg] e pos.line X.env = pure false := by rfl) (hw : swappedStores [tg] e X.env = pure none := by rfl) (h1 : (assignEach [tg] X.env).map (·.2) = [assign tg X.env] := by rfl) :
    SD K mg X E (.Assign [tg] e pos) (tAsg te g) (sAsg f is hh) := ⟨ps_asg he.pe hg.pg hs hw h1, asg_sd he hg⟩
theorem sd_set {i : Nat} {x : Str} {pos' : Pos} (he : PD K mg X E e te f) (hN : X.N.Nodup) (hi : X.N[i]? = some x) (hx : Loc X.env.scope x := by first | exact Or.inl rfl | exact Or.inr rfl) (hs : swapsWith e (some (.Name x pos')) pos.line X.env = pure false := by rfl) (hf : X.fn x = true ∨ X.env.scope.names.lookup x = some .local := by first | exact .inl rfl | exact .inr rfl | assumption) :
    SD K mg X E (.Assign [.Name x pos'] e pos) (tAsg te (gName i)) (sAsg f [i] hOne) := ⟨ps_set hN hi hx he.pe hs hf, asg_sd he (gd_name (pg_name (pos := pos') hN hi hx hf))⟩
/-- x = [..] on one line -/
theorem sd_setLc {i : Nat} {vs : List Nat} {y : Str} {py : Pos} {elt tg iter : Expr} {ifs : List Expr} {scope : Scope} {own : List (Str × Nat)} {spos : Pos} {wi : TI} {g : TG} {tt : TT} {src : DEnv → Res (List D)} {is : List Nat} {h : D → Option (List D)} {ft : DEnv → Res Bool} {fe : DEnv → Res D} (hc : X.calm = true) (hN : X.N.Nodup) (hy : X.N[i]? = some y) (hyl : X.env.scope.names.lookup y = some .local)
    (hsw : swapsWith (.ListComp elt [⟨tg, iter, ifs, 0⟩] scope pos) (some (.Name y py)) spos.line X.env = pure true) (hi : ID K mg X E tg iter wi src) (ok : BlkOk X.N X.env.scope scope own)
    (hg : ∀ (s : Shared) (H : Hp) (C : Addr) (cl : List (Str × Addr)) (fp : List Addr), GD K (Blk X scope s H C cl fp) tg g is h) (ht : ∀ (s : Shared) (H : Hp) (C : Addr) (cl : List (Str × Addr)) (fp : List Addr), TDs K mg (Blk X scope s H C cl fp) E0 ifs tt ft)
    (he : ∀ (s : Shared) (H : Hp) (C : Addr) (cl : List (Str × Addr)) (fp : List Addr), PD K mg (Blk X scope s H C cl fp) E0 elt te fe) (hvs : own.map (·.2) = vs := by rfl) (his : ∀ i ∈ is, i ∈ vs := by decide) (hs : ∀ x, foldedSetIterable iter X.env x = pure x := by intro _; rfl) :
    SD K mg X E (.Assign [.Name y py] (.ListComp elt [⟨tg, iter, ifs, 0⟩] scope pos) spos) (tAsg (tLc wi g tt te vs) (gName i)) (sAsg (fLc src vs is h ft fe) [i] hOne) :=
  ⟨hvs ▸ ps_setLc hc hN hy hyl hsw hi.pi ok (fun s H C cl fp => (hg s H C cl fp).pg) (fun s H C cl fp => (ht s H C cl fp).pe) (fun s H C cl fp => (he s H C cl fp).pe) hs, asg_sd (pd_lc (pos := pos) hc hN hi ok hg ht he hvs his hs) (gd_name (pg_name (pos := py) hN hy (.inl hyl) (.inr hyl)))⟩
theorem sd_setLc2 {i : Nat} {vs : List Nat} {y : Str} {py : Pos} {elt tg iter tg1 iter1 : Expr} {ifs ifs1 : List Expr} {scope : Scope} {own : List (Str × Nat)} {spos : Pos} {wi wi1 : TI} {g g1 : TG} {tt tt1 : TT} {src src1 : DEnv → Res (List D)} {is is1 : List Nat} {h h1 : D → Option (List D)} {ft ft1 : DEnv → Res Bool} {fe : DEnv → Res D} {vs1 : List Nat} (hc : X.calm = true) (hN : X.N.Nodup) (hy : X.N[i]? = some y) (hyl : X.env.scope.names.lookup y = some .local)
    (hsw : swapsWith (.ListComp elt [⟨tg, iter, ifs, 0⟩, ⟨tg1, iter1, ifs1, 0⟩] scope pos) (some (.Name y py)) spos.line X.env = pure true) (hi : ID K mg X E tg iter wi src) (ok : BlkOk X.N X.env.scope scope own) (hv : ∀ i ∈ vs1, i ∈ own.map (·.2))
    (hg : ∀ (s : Shared) (H : Hp) (C : Addr) (cl : List (Str × Addr)) (fp : List Addr), GD K (Blk X scope s H C cl fp) tg g is h) (ht : ∀ (s : Shared) (H : Hp) (C : Addr) (cl : List (Str × Addr)) (fp : List Addr), TDs K mg (Blk X scope s H C cl fp) E0 ifs tt ft)
    (hi1 : ∀ (s : Shared) (H : Hp) (C : Addr) (cl : List (Str × Addr)) (fp : List Addr), ID K mg (Blk X scope s H C cl fp) E0 tg1 iter1 wi1 src1)
    (hg1 : ∀ (s : Shared) (H : Hp) (C : Addr) (cl : List (Str × Addr)) (fp : List Addr), GD K (Blk X scope s H C cl fp) tg1 g1 is1 h1) (ht1 : ∀ (s : Shared) (H : Hp) (C : Addr) (cl : List (Str × Addr)) (fp : List Addr), TDs K mg (Blk X scope s H C cl fp) E0 ifs1 tt1 ft1)
    (he : ∀ (s : Shared) (H : Hp) (C : Addr) (cl : List (Str × Addr)) (fp : List Addr), PD K mg (Blk X scope s H C cl fp) E0 elt te fe) (hvs : own.map (·.2) = vs := by rfl) (his : ∀ i ∈ is, i ∈ vs := by decide) (his1 : ∀ i ∈ is1, i ∈ vs1 := by decide)
    (hs : ∀ x, foldedSetIterable iter X.env x = pure x := by intro _; rfl) (hs1 : ∀ (env : Env) x, foldedSetIterable iter1 env x = pure x := by intro _ _; rfl) :
    SD K mg X E (.Assign [.Name y py] (.ListComp elt [⟨tg, iter, ifs, 0⟩, ⟨tg1, iter1, ifs1, 0⟩] scope pos) spos) (tAsg (tLc2 wi g tt wi1 g1 tt1 te vs vs1) (gName i)) (sAsg (fLc2 src vs is h ft src1 vs1 is1 h1 ft1 fe) [i] hOne) :=
  ⟨hvs ▸ ps_setLc2 hc hN hy hyl hsw hi.pi ok hv (fun s H C cl fp => (hg s H C cl fp).pg) (fun s H C cl fp => (ht s H C cl fp).pe) (fun s H C cl fp => (hi1 s H C cl fp).pi) (fun s H C cl fp => (hg1 s H C cl fp).pg) (fun s H C cl fp => (ht1 s H C cl fp).pe) (fun s H C cl fp => (he s H C cl fp).pe) hs hs1,
   asg_sd (pd_lc2 (pos := pos) hc hN hi ok hv hg ht hi1 hg1 ht1 he hvs his his1 hs hs1) (gd_name (pg_name (pos := py) hN hy (.inl hyl) (.inr hyl)))⟩
/-- what a slot owns is given up ahead of a statement -/
def sFrz (is : List Nat) (F : DEnv → SR) : DEnv → SR := fun ρ => F (frz ρ is)
theorem sd_frz (is : List Nat) (h : SD K mg X E st t F) : SD K mg X E st t (sFrz is F) := ⟨h.ps, fun S0 H0 S H σ ρ N r q => by
  obtain ⟨S', e, r'⟩ := r.frz is
  exact h.sd S0 H0 S' H σ _ N r' (SPost.mono q e)⟩
/-! ### for -/
def forGo (asg : D → DEnv → Option DEnv) (body : DEnv → SR) : List D → DEnv → SR
  | [], ρ => .next ρ
  | d :: ds, ρ => match asg d ρ with
    | none => .bad
    | some ρ1 => match body ρ1 with
      | .next ρ' => forGo asg body ds ρ'
      | .cont ρ' => forGo asg body ds ρ'
      | .brk ρ' => .next ρ'
      | .ret x => .ret x
      | .err c => .err c
      | .bad => .bad
def asgOf (is : List Nat) (hh : D → Option (List D)) (d : D) (ρ : DEnv) : Option DEnv := (hh d).map fun ds => setD ρ is ds
def sFor (src : DEnv → Res (List D)) (is : List Nat) (hh : D → Option (List D)) (body : DEnv → SR) : DEnv → SR := fun ρ => ofRes (src ρ) fun ds => forGo (asgOf is hh) body ds ρ
theorem sd_for {tg iter : Expr} {body : List Stmt} {wi : TI} {g : TG} {tb : TS} {src : DEnv → Res (List D)} {is : List Nat} {hh : D → Option (List D)} {B : DEnv → SR} (hp : PassesOwn (model X.prog X.w) X.A X.env X.xe) (hc : X.calm = true) (hi : ID K mg X E tg iter wi src) (hg : GD K X tg g is hh) (hb : SDs K mg X E body tb B)
    (hps : PS X (.For tg iter body [] pos) (tFor wi g tb)) : SD K mg X E (.For tg iter body [] pos) (tFor wi g tb) (sFor src is hh B) := ⟨hps, fun S0 H0 S H σ ρ N r h => by
  refine hi.sd S H σ ρ _ r.relE (post_of r h fun ds J S1 H1 _ x1 wk h => ?_)
  refine ⟨fun i m σ' H' => i + m = ds.length ∧ ∃ S' ρ', Same S1 S' ∧ Rel K S0 H0 S' H' σ' ρ' ∧ SPost K mg E S0 H0 S' (forGo (asgOf is hh) B (ds.drop i) ρ') N, ⟨ds.length, by omega, S1, ρ, Same.refl _, r.ext x1, SPost.mono h x1.s⟩, ?_⟩
  rintro i m σ2 H2 ⟨him, S2, ρ2, e2, r2, h2⟩
  have wk2 := wk S2 H2 e2 r2.x.sh
  by_cases hil : i < ds.length
  · obtain ⟨go, yl⟩ := wk2.1 i ds[i] (List.getElem?_eq_getElem hil)
    have ed : ds.drop i = ds[i] :: ds.drop (i + 1) := (List.drop_eq_getElem_cons hil)
    rw [ed] at h2
    unfold forGo at h2
    refine .inr ⟨go, fun σ' H' => ∃ S' ρ', Same S1 S' ∧ Rel K S0 H0 S' H' σ' ρ' ∧ SPost K mg E S0 H0 S' (forGo (asgOf is hh) B (ds.drop (i + 1)) ρ') N, fun σ' H' ⟨S', ρ', a1, a2, a3⟩ => ⟨m - 1, by omega, by omega, S', ρ', a1, a2, a3⟩, fun x H3 hy => ?_⟩
    obtain ⟨S3, x3, dx⟩ := yl x H3 hy
    cases e1 : hh ds[i] with
    | none =>
      unfold asgOf at h2
      rw [e1] at h2
      exact h2.elim
    | some xs =>
      have ea : asgOf is hh ds[i] ρ2 = some (setD ρ2 is xs) := by unfold asgOf; rw [e1]; rfl
      rw [ea] at h2
      dsimp only at h2
      refine hg.sd S3 H3 x σ2 ds[i] xs _ x3.sh dx e1 fun vs hv => ?_
      have r3 := (r2.ext x3).setAll is vs xs hv
      refine hb.sd S0 H0 S3 H3 _ _ _ r3 ?_
      have h3 := SPost.mono h2 x3.s
      cases eb : B (setD ρ2 is xs) with
      | next ρ' =>
        rw [eb] at h3
        exact fun S' H' σ' e' r' => ⟨S', ρ', (e2.trans x3.s).trans e', r', SPost.mono h3 e'⟩
      | cont ρ' =>
        rw [eb] at h3
        exact fun S' H' σ' e' r' => ⟨S', ρ', (e2.trans x3.s).trans e', r', SPost.mono h3 e'⟩
      | brk ρ' => rw [eb] at h3; exact h3
      | ret d => rw [eb] at h3; exact h3
      | err c => rw [eb] at h3; exact h3
      | bad => rw [eb] at h3; exact h3
  · have ed : ds.drop i = [] := List.drop_eq_nil_of_le (by omega)
    have e3 : i = ds.length := by omega
    rw [ed] at h2
    refine .inl ⟨by rw [e3]; exact wk2.2, ?_⟩
    exact h2 S2 H2 σ2 (Same.refl _) r2⟩
/-! ### while -/
def whileGo (g : DEnv → Res Bool) (body : DEnv → SR) : Nat → DEnv → SR
  | 0, _ => .bad
  | n + 1, ρ => match g (viewAll ρ) with
    | .bad => .bad
    | .err c => .err c
    | .ok b => if b = true then (match body ρ with
      | .next ρ' => whileGo g body n ρ'
      | .cont ρ' => whileGo g body n ρ'
      | .brk ρ' => .next ρ'
      | .ret x => .ret x
      | .err c => .err c
      | .bad => .bad) else .next ρ
theorem sd_while (n : Nat) {c : Expr} {body : List Stmt} {tc : TT} {tb : TS} {g : DEnv → Res Bool} {B : DEnv → SR} (hp : PassesOwn (model X.prog X.w) X.A X.env X.xe) (hc : TD K mg X E c tc g) (hb : SDs K mg X E body tb B) : SD K mg X E (.While c body [] pos) (tWhile tc tb) (whileGo g B n) :=
  ⟨ps_while hp hc.pe hb.ps, fun S0 H0 S H σ ρ N r h => by
    refine ⟨fun m σ' H' => ∃ S' ρ', Rel K S0 H0 S' H' σ' ρ' ∧ SPost K mg E S0 H0 S' (whileGo g B m ρ') N, ⟨n, S, ρ, r, h⟩, ?_⟩
    rintro m σ2 H2 ⟨S2, ρ2, r2, h2⟩
    cases m with
    | zero => exact h2.elim
    | succ m =>
      unfold whileGo at h2
      refine hc.sd H2 H2 σ2 (viewAll ρ2) _ r2.relV ?_
      cases eg : g (viewAll ρ2) with
      | bad => rw [eg] at h2; exact h2
      | err c =>
        rw [eg] at h2
        exact fun u H' e sm => h2 u H' e (r2.x.h.trans sm)
      | ok b =>
        rw [eg] at h2
        intro w S' H' x q
        cases q
        have r' := r2.grow x.h
        cases b with
        | false => exact h2 S2 H' σ2 (Same.refl _) r'
        | true =>
          dsimp only at h2
          rw [if_pos rfl] at h2
          refine iteT ⟨fun σ' H' => ∃ S' ρ', Rel K S0 H0 S' H' σ' ρ' ∧ SPost K mg E S0 H0 S' (whileGo g B m ρ') N, fun σ' H' q => ⟨m, Nat.lt_succ_self m, q⟩, ?_⟩
          refine hb.sd S0 H0 S2 H' σ2 ρ2 _ r' ?_
          cases eb : B ρ2 with
          | next ρ' =>
            rw [eb] at h2
            exact fun S' H' σ' e' r' => ⟨S', ρ', r', SPost.mono h2 e'⟩
          | cont ρ' =>
            rw [eb] at h2
            exact fun S' H' σ' e' r' => ⟨S', ρ', r', SPost.mono h2 e'⟩
          | brk ρ' => rw [eb] at h2; exact h2
          | ret d => rw [eb] at h2; exact h2
          | err c => rw [eb] at h2; exact h2
          | bad => rw [eb] at h2; exact h2⟩
/-! ### raise -/
def sRaise (c : Str) : DEnv → SR := fun _ => .err c
theorem sd_raise {x m : Str} {j : Nat} {p p2 pos2 : Pos} {C : Addr} (hc : X.calm = true) (tk : Takes X (fun cls d _ H => E cls d H)) (q : PySem.W.excIn X.K C [.type "ValueError", .type "Exception", .type "BaseException", .type "object"] "ValueError.__new__" = true) (gC : X.mg x = some (.ref C)) (kC : PySem.W.keepIn X.K (.ref C) = true)
    (bC : PySem.W.subIn X.K (.ref C) (.type "BaseException") = some true) (tC : PySem.W.typeIn X.K (.ref C) = some (.type "type")) (hg : Gl X x) (hdb : (x == ("__debug__" : Str)) = false := by decide) (hM : X.mg = mg := by rfl) :
    SD K mg X E (.Raise (some (.Call (.Name x p) [.Constant (.str m) j p2] [] pos2)) none pos) (fun _ σ H => E (.ref C) none H) (sRaise x) :=
  ⟨ps_raise hc tk (pmk_own PySem.F.excBase_ValueError q gC kC (raises_own bC tC) hg hdb), fun S0 H0 S H σ ρ N r h => h (.ref C) H (hM ▸ gC) r.x.h⟩
end
end PD
namespace PD
open PySem L2
/-! ### new things for slots -/
def SlotNew (K : PySem.W.Frag) (H S' H' : Hp) (v : V) (s : Slot) : Prop := match s with
  | .d x => DV K S' v x
  | .un => False
  | .raw _ => False
  | s => ∃ p, v = .ref p ∧ S' p = none ∧ H p = none ∧ OwnOk K S' H' p s
def OwnIn (p : Addr) : List V → List Slot → Prop
  | v :: vs, s :: ss => (v = .ref p ∧ isOwn s = true) ∨ OwnIn p vs ss
  | _, _ => False
def SlotsNew (K : PySem.W.Frag) (H S' H' : Hp) : List V → List Slot → Prop
  | [], [] => True
  | v :: vs, s :: ss => SlotNew K H S' H' v s ∧ SlotsNew K H S' H' vs ss ∧ ∀ p, v = .ref p → isOwn s = true → ¬ OwnIn p vs ss
  | _, _ => False
def PostS (K : PySem.W.Frag) (mg : Str → Option Value) (E : XK) (S H : Hp) (r : Res (List Slot)) (Q : List V → Hp → Prop) : Prop := match r with
  | .ok ss => ∀ vs S' H', Ext S H S' H' → SlotsNew K H S' H' vs ss → Q vs H'
  | .err c => ∀ u H', mg c = some u → Same H H' → E u none H'
  | .bad => False
structure ZD (K : PySem.W.Frag) (mg : Str → Option Value) (X : Cx) (E : XK) (es : List Expr) (t : TA) (f : DEnv → Res (List Slot)) : Prop where
  pe : PA X es t
  sd : ∀ (S H : Hp) (σ : L2.St) (ρ : DEnv) (Q : List V → Hp → Prop), RelE K S H σ ρ → PostS K mg E S H (f ρ) Q → t σ H Q
def zNil : DEnv → Res (List Slot) := fun _ => .ok []
def zD (f : DEnv → Res D) (g : DEnv → Res (List Slot)) : DEnv → Res (List Slot) := fun ρ => (f ρ).bind fun x => (g ρ).bind fun xs => .ok (.d x :: xs)
def zL (f : DEnv → Res (List D)) (g : DEnv → Res (List Slot)) : DEnv → Res (List Slot) := fun ρ => (f ρ).bind fun ds => if lenOk ds.length = true then (g ρ).bind fun xs => .ok (.own ds :: xs) else .bad
theorem refs_lt {K : PySem.W.Frag} {H S' H' : Hp} : ∀ {vs : List V} {ss : List Slot} {p : Addr}, SlotsNew K H S' H' vs ss → OwnIn p vs ss → H p = none
  | v :: vs, s :: ss, p, h, hp => by
    obtain ⟨h1, h2, h3⟩ := h
    rcases hp with ⟨rfl, ho⟩ | hp
    · cases s with
      | own xs => obtain ⟨q, e, _, g, _⟩ := h1; cases e; exact g
      | ownK xs => obtain ⟨q, e, _, g, _⟩ := h1; cases e; exact g
      | ownT xs => obtain ⟨q, e, _, g, _⟩ := h1; cases e; exact g
      | _ => cases ho
    · exact refs_lt h2 hp
  | [], [], _, _, hp => hp.elim
  | [], _ :: _, _, h, _ => h.elim
  | _ :: _, [], _, h, _ => h.elim
theorem SlotsNew.weak {K : PySem.W.Frag} {H H1 S' H' : Hp} (e : Same H H1) : ∀ {vs : List V} {ss : List Slot}, SlotsNew K H1 S' H' vs ss → SlotsNew K H S' H' vs ss
  | [], [], _ => trivial
  | v :: vs, s :: ss, h => by
    obtain ⟨h1, h2, h3⟩ := h
    refine ⟨?_, SlotsNew.weak e h2, h3⟩
    cases s with
    | d x => exact h1
    | un => exact h1
    | raw _ => exact h1
    | own xs => obtain ⟨q, e1, e2, g, e3⟩ := h1; exact ⟨q, e1, e2, e.free g, e3⟩
    | ownK xs => obtain ⟨q, e1, e2, g, e3⟩ := h1; exact ⟨q, e1, e2, e.free g, e3⟩
    | ownT xs => obtain ⟨q, e1, e2, g, e3⟩ := h1; exact ⟨q, e1, e2, e.free g, e3⟩
  | [], _ :: _, h => h.elim
  | _ :: _, [], h => h.elim
section
variable {K : PySem.W.Frag} {mg : Str → Option Value} {X : Cx} {E : XK} {e : Expr} {es : List Expr} {te : TE} {t tr : TA} {f : DEnv → Res D} {fa : DEnv → Res (List D)} {g : DEnv → Res (List Slot)} {pos : Pos}
theorem zd_nil : ZD K mg X E [] tNil zNil := ⟨pa_nil, fun S H σ ρ Q rl h => h [] S H (Ext.refl rl.sh) trivial⟩
theorem zd_d (ha : PD K mg X E e te f) (hr : ZD K mg X E es tr g) (hs : starEach (e :: es) X.env = (false, eval e X.env) :: starEach es X.env := by rfl) : ZD K mg X E (e :: es) (tCons te tr) (zD f g) := ⟨pa_cons ha.pe hr.pe hs, fun S H σ ρ Q rl h => by
  refine ha.sd S H σ ρ _ rl ?_
  unfold zD at h
  cases e1 : f ρ with
  | ok x =>
    rw [e1] at h
    intro v S1 H1 x1 d1
    refine hr.sd S1 H1 σ ρ _ (rl.mono x1) ?_
    cases e2 : g ρ with
    | ok ss =>
      rw [e2] at h
      exact fun vs S2 H2 x2 d2 => h (v :: vs) S2 H2 (x1.trans x2) ⟨d1.mono x2.s, d2.weak x1.h, fun p _ z => by cases z⟩
    | err c =>
      rw [e2] at h
      exact fun u H' e sm => h u H' e (x1.h.trans sm)
    | bad => rw [e2] at h; exact h
  | err c => rw [e1] at h; exact h
  | bad => rw [e1] at h; exact h⟩
theorem zd_lst {ls : List Expr} (ha : AD K mg X E ls t fa) (hr : ZD K mg X E es tr g) (hs : starEach (.List ls pos :: es) X.env = (false, eval (.List ls pos) X.env) :: starEach es X.env := by rfl) : ZD K mg X E (.List ls pos :: es) (tCons (tLst t) tr) (zL fa g) := ⟨pa_cons (pe_lst ha.pe) hr.pe hs, fun S H σ ρ Q rl h => by
  refine ha.sd S H σ ρ _ rl ?_
  unfold zL at h
  cases e1 : fa ρ with
  | ok ds =>
    rw [e1, bind_ok] at h
    intro xs S1 H1 x1 d1
    split at h
    · rename_i hz
      refine ⟨by rw [d1.length]; exact lenOk.le hz, fun p hp => ?_⟩
      have sm : Same H1 (upd H1 p (.lst xs)) := same_upd hp
      have rl1 : RelE K S1 (upd H1 p (.lst xs)) σ ρ := ⟨x1.sh.trans sm, rl.len, (rl.mono x1).dt, rl.rw⟩
      refine hr.sd S1 _ σ ρ _ rl1 ?_
      cases e2 : g ρ with
      | ok ss =>
        rw [e2] at h
        refine fun vs S2 H2 x2 d2 => h (.ref p :: vs) S2 H2 ⟨x1.s.trans x2.s, (x1.h.trans sm).trans x2.h, x2.sh, fun a ha => ?_⟩ ⟨⟨p, rfl, ?_, x1.h.free hp, xs, x2.h _ _ upd_same, d1.mono x2.s⟩, d2.weak (x1.h.trans sm), fun q e _ hq => ?_⟩
        · refine (x2.old a ?_).trans (x1.old a ha)
          cases e : H a with
          | none => exact absurd e ha
          | some o => rw [sm _ _ (x1.h a o e)]; exact (fun z => nomatch z)
        · rw [x2.old p (by rw [upd_same]; exact (fun z => nomatch z))]
          exact x1.sh.free hp
        · cases e
          have := refs_lt d2 hq
          rw [upd_same] at this
          cases this
      | err c =>
        rw [e2] at h
        exact fun u H' e sm' => h u H' e ((x1.h.trans sm).trans sm')
      | bad => rw [e2] at h; exact h
    · exact h.elim
  | err c => rw [e1] at h; exact h
  | bad => rw [e1] at h; exact h⟩
end
def setS (ρ : DEnv) : List Nat → List Slot → DEnv
  | i :: is, s :: ss => setS (ρ.set i s) is ss
  | _, _ => ρ
theorem Rel.setSlots {K : PySem.W.Frag} {S0 H0 Hb S H : Hp} (hb : Same H0 Hb) : ∀ (is : List Nat) (vs : List V) (ss : List Slot) {σ : L2.St} {ρ : DEnv}, Rel K S0 H0 S H σ ρ → SlotsNew K Hb S H vs ss →
    (∀ p, OwnIn p vs ss → ∀ (j : Nat) (s' : Slot), ρ[j]? = some s' → isOwn s' = true → σ[j]? ≠ some (some (.ref p))) → Rel K S0 H0 S H (PD.setAll σ is vs) (setS ρ is ss)
  | [], vs, ss, _, _, r, _, _ => by cases vs <;> cases ss <;> exact r
  | _ :: _, [], [], _, _, r, _, _ => r
  | i :: is, v :: vs, s :: ss, σ, ρ, r, h, hd => by
    obtain ⟨h1, h2, h3⟩ := h
    show Rel K S0 H0 S H (PD.setAll (σ.set i (some v)) is vs) (setS (ρ.set i s) is ss)
    have own : ∀ p, v = .ref p → isOwn s = true → S p = none → Hb p = none → OwnOk K S H p s → Rel K S0 H0 S H (PD.setAll (σ.set i (some v)) is vs) (setS (ρ.set i s) is ss) := fun p e ho g1 g2 g3 => by
      subst e
      refine Rel.setSlots hb is vs ss (r.setOwn ho g1 (hb.free g2) g3 (hd p (.inl ⟨rfl, ho⟩))) h2 fun q hq j s' e1 e2 e3 => ?_
      rcases set_at e1 with ⟨rfl, hi, _⟩ | ⟨hj, e1⟩
      · rw [List.getElem?_set_self (by rw [r.len]; exact hi)] at e3
        cases e3
        exact h3 _ rfl ho hq
      · rw [List.getElem?_set_ne hj] at e3
        exact hd q (.inr hq) j s' e1 e2 e3
    cases s with
    | d x =>
      refine Rel.setSlots hb is vs ss (r.setV h1) h2 fun q hq j s' e1 e2 e3 => ?_
      rcases set_at e1 with ⟨rfl, hi, e1⟩ | ⟨hj, e1⟩
      · subst e1
        cases e2
      · rw [List.getElem?_set_ne hj] at e3
        exact hd q (.inr hq) j s' e1 e2 e3
    | un => exact h1.elim
    | raw _ => exact h1.elim
    | own xs => obtain ⟨p, e1, e2, g, e3⟩ := h1; exact own p e1 rfl e2 g e3
    | ownK xs => obtain ⟨p, e1, e2, g, e3⟩ := h1; exact own p e1 rfl e2 g e3
    | ownT xs => obtain ⟨p, e1, e2, g, e3⟩ := h1; exact own p e1 rfl e2 g e3
  | _ :: _, [], _ :: _, _, _, _, h, _ => h.elim
  | _ :: _, _ :: _, [], _, _, _, h, _ => h.elim
theorem Rel.slots {K : PySem.W.Frag} {S0 H0 S H S' H' : Hp} {σ : L2.St} {ρ : DEnv} {vs : List V} {ss : List Slot} (r : Rel K S0 H0 S H σ ρ) (x : Ext S H S' H') (h : SlotsNew K H S' H' vs ss) (is : List Nat) : Rel K S0 H0 S' H' (PD.setAll σ is vs) (setS ρ is ss) := by
  refine Rel.setSlots r.x.h is vs ss (r.ext x) h fun p hp j s' e1 e2 e3 => ?_
  obtain ⟨q, g1, _, _, g4⟩ := r.own j s' e1 e2
  obtain ⟨u, hu⟩ := g4.some
  rw [e3] at g1
  cases g1
  have := refs_lt h hp
  rw [hu] at this
  cases this
section
variable {K : PySem.W.Frag} {mg : Str → Option Value} {X : Cx} {E : XK} {e : Expr} {te : TE} {t : TA} {f : DEnv → Res D} {fa : DEnv → Res (List D)} {g : DEnv → Res (List Slot)} {pos : Pos}
def sPar (g : DEnv → Res (List Slot)) (is : List Nat) : DEnv → SR := fun ρ => ofRes (g ρ) fun ss => if ss.length = is.length then .next (setS ρ is ss) else .bad
theorem SlotsNew.length {K : PySem.W.Frag} {H S' H' : Hp} : ∀ {vs : List V} {ss : List Slot}, SlotsNew K H S' H' vs ss → vs.length = ss.length
  | [], [], _ => rfl
  | _ :: vs, _ :: ss, h => congrArg (· + 1) (SlotsNew.length (vs := vs) (ss := ss) h.2.1)
  | [], _ :: _, h => h.elim
  | _ :: _, [], h => h.elim
theorem posts_of {mg : Str → Option Value} {K : PySem.W.Frag} {S0 H0 S H T : Hp} {σ : L2.St} {ρ : DEnv} {N : Ends} {r : Res (List Slot)} {k : List Slot → SR} {Q : List V → Hp → Prop} (rl : Rel K S0 H0 S H σ ρ) (h : SPost K mg E S0 H0 S (ofRes r k) N)
    (hk : ∀ ss vs S' H', Ext T H S' H' → SlotsNew K H S' H' vs ss → SPost K mg E S0 H0 S (k ss) N → Q vs H') : PostS K mg E T H r Q := by
  cases r with
  | ok a => exact fun vs S' H' x q => hk a vs S' H' x q h
  | err c => exact fun u H' e sm => h u H' e (rl.x.h.trans sm)
  | bad => exact h
/-- x, y = a, b -/
theorem sd_par {i j : Nat} {x y : Str} {a b : Expr} {px py pt : Pos} {kt k2 pt2} (hz : ZD K mg X E [a, b] t g)
    (hp : PS X (.Assign [.Tuple [.Name x px, .Name y py] kt pt] (.Tuple [a, b] k2 pt2) pos) (tPar i j t)) : SD K mg X E (.Assign [.Tuple [.Name x px, .Name y py] kt pt] (.Tuple [a, b] k2 pt2) pos) (tPar i j t) (sPar g [i, j]) := ⟨hp, fun S0 H0 S H σ ρ N r h => by
  refine hz.sd S H σ ρ _ r.relE (posts_of r h fun ss vs S' H' x' q h => ?_)
  split at h
  · rename_i hl
    have lv := q.length
    match vs, lv with
    | [v, w], _ => exact ⟨v, w, rfl, h S' H' _ x'.s (r.slots x' q [i, j])⟩
    | [], lv => rw [hl] at lv; cases lv
    | [_], lv => rw [hl] at lv; cases lv
    | _ :: _ :: _ :: _, lv => rw [hl] at lv; cases lv
  · exact h.elim⟩
theorem sd_par3 {i j l : Nat} {x y z : Str} {a b c : Expr} {px py pz pt : Pos} {kt k2 pt2} (hz : ZD K mg X E [a, b, c] t g)
    (hp : PS X (.Assign [.Tuple [.Name x px, .Name y py, .Name z pz] kt pt] (.Tuple [a, b, c] k2 pt2) pos) (tPar3 i j l t)) : SD K mg X E (.Assign [.Tuple [.Name x px, .Name y py, .Name z pz] kt pt] (.Tuple [a, b, c] k2 pt2) pos) (tPar3 i j l t) (sPar g [i, j, l]) := ⟨hp, fun S0 H0 S H σ ρ N r h => by
  refine hz.sd S H σ ρ _ r.relE (posts_of r h fun ss vs S' H' x' q h => ?_)
  split at h
  · rename_i hl
    have lv := q.length
    match vs, lv with
    | [v, w, u], _ => exact ⟨v, w, u, rfl, h S' H' _ x'.s (r.slots x' q [i, j, l])⟩
    | [], lv => rw [hl] at lv; cases lv
    | [_], lv => rw [hl] at lv; cases lv
    | [_, _], lv => rw [hl] at lv; cases lv
    | _ :: _ :: _ :: _ :: _, lv => rw [hl] at lv; cases lv
  · exact h.elim⟩
/-- x = [a, ..], owned -/
def sOwnL (fa : DEnv → Res (List D)) (i : Nat) : DEnv → SR := fun ρ => ofRes (fa ρ) fun ds => if lenOk ds.length = true then .next (ρ.set i (.own ds)) else .bad
theorem sd_ownL {i : Nat} {x : Str} {pos' pos2 : Pos} {ls : List Expr} (ha : AD K mg X E ls t fa) (hN : X.N.Nodup) (hi : X.N[i]? = some x) (hx : Loc X.env.scope x := by first | exact Or.inl rfl | exact Or.inr rfl) (hs : swapsWith (.List ls pos2) (some (.Name x pos')) pos.line X.env = pure false := by rfl) (hf : X.fn x = true ∨ X.env.scope.names.lookup x = some .local := by first | exact .inl rfl | exact .inr rfl | assumption) :
    SD K mg X E (.Assign [.Name x pos'] (.List ls pos2) pos) (tAsg (tLst t) (gName i)) (sOwnL fa i) := ⟨ps_set hN hi hx (pe_lst ha.pe) hs hf, fun S0 H0 S H σ ρ N r h => by
  refine ha.sd S H σ ρ _ r.relE (post_of r h fun ds vs S1 H1 _ x1 d1 h => ?_)
  split at h
  · rename_i hz
    refine ⟨by rw [d1.length]; exact lenOk.le hz, fun p hp => ?_⟩
    have sm : Same H1 (upd H1 p (.lst vs)) := same_upd hp
    refine h S1 _ _ x1.s (((r.ext x1).grow sm).setOwn rfl (x1.sh.free hp) ((r.x.h.trans x1.h).free hp) ⟨vs, upd_same, d1⟩ fun k s' e1 e2 e3 => ?_)
    obtain ⟨q, g1, _, _, g4⟩ := (r.ext x1).own k s' e1 e2
    obtain ⟨u, hu⟩ := g4.some
    rw [e3] at g1
    cases g1
    rw [hp] at hu
    cases hu
  · exact h.elim⟩
/-- the value of an expression, read where all is shared for the while: what comes out is flat -/
def flatD : D → Bool
  | .none => true
  | .bool _ => true
  | .int _ => true
  | .str _ => true
  | _ => false
theorem DV.flat {K : PySem.W.Frag} {S T : Hp} {v : V} {d : D} (h : DV K S v d) (hf : flatD d = true) : DV K T v d := by
  cases d with
  | none => exact h
  | bool b => exact h
  | int b => exact h
  | str b => exact h
  | _ => cases hf
def fBor (f : DEnv → Res D) : DEnv → Res D := fun ρ => (f (viewAll ρ)).bind fun d => if flatD d = true then .ok d else .bad
/-- x.append(e) -/
def sApp (f : DEnv → Res D) (i : Nat) : DEnv → SR := fun ρ => match ρ[i]? with
  | some (.own xs) => ofRes (f ρ) fun d => if lenOk (xs.length + 1) = true then .next (ρ.set i (.own (xs ++ [d]))) else .bad
  | _ => .bad
def Use (K : PySem.W.Frag) (mg : Str → Option Value) (E : XK) (te : TE) (f : DEnv → Res D) : Prop := ∀ (S0 H0 S H : Hp) (σ : L2.St) (ρ : DEnv) (N : Ends) (k : D → SR) (Q : VK), Rel K S0 H0 S H σ ρ → SPost K mg E S0 H0 S (ofRes (f ρ) k) N →
  (∀ a w S' H', Rel K S0 H0 S' H' σ ρ → Same S S' → Same H H' → DV K S' w a → SPost K mg E S0 H0 S (k a) N → Q w H') → te σ H Q
theorem own_at {ρ : DEnv} {i : Nat} {k : List D → SR} {K : PySem.W.Frag} {mg : Str → Option Value} {S0 H0 S : Hp} {N : Ends} (h : SPost K mg E S0 H0 S (match ρ[i]? with | some (.own xs) => k xs | _ => .bad) N) : ∃ xs, ρ[i]? = some (Slot.own xs) ∧ SPost K mg E S0 H0 S (k xs) N := by
  cases e2 : ρ[i]? with
  | none => rw [e2] at h; exact h.elim
  | some s =>
    rw [e2] at h
    cases s with
    | own xs => exact ⟨xs, rfl, h⟩
    | _ => exact h.elim
theorem app_sd {i : Nat} (he : Use K mg E te f) (S0 H0 S H : Hp) (σ : L2.St) (ρ : DEnv) (N : Ends) (r : Rel K S0 H0 S H σ ρ) (h : SPost K mg E S0 H0 S (sApp f i ρ) N) : tDrop (tBM K "list" rAppend (tVar i) (tCons te tNil)) N σ H := by
  obtain ⟨xs, ex, h⟩ := own_at h
  obtain ⟨p, g1, g2, g3, vs, g4, g5⟩ := r.own i _ ex rfl
  refine ⟨.ref p, g1, .inl ⟨rfl, vs, SqL.of g4⟩, ?_⟩
  refine he S0 H0 S H σ ρ N _ _ r h fun a w S' H' r' e1 e2 d1 h => ?_
  split at h
  · rename_i hz
    refine ⟨p, vs, w, rfl, rfl, e2 _ _ g4, ?_, ?_⟩
    · rw [g5.length]
      exact Nat.lt_of_lt_of_le (Nat.lt_succ_self _) (lenOk.le hz)
    · exact h S' _ σ e1 (r'.mut ex rfl rfl g1 ⟨vs ++ [w], upd_same, (g5.mono e1).append ⟨d1, trivial⟩⟩)
  · exact h.elim
/-- x.extend(e) -/
def sExt (f : DEnv → Res D) (i : Nat) : DEnv → SR := fun ρ => match ρ[i]? with
  | some (.own xs) => ofRes (f ρ) fun d => match d with
    | .list ys => if lenOk (xs.length + ys.length) = true then .next (ρ.set i (.own (xs ++ ys))) else .bad
    | _ => .bad
  | _ => .bad
def rExtR (K : PySem.W.Frag) : V → List V → Hp → VK → Prop := fun x vs H Q => ∃ l b xs zs, x = .ref l ∧ vs = [.ref b] ∧ H l = some (.lst xs) ∧ LsAt K H b zs ∧ xs.length + zs.length ≤ sizeLine ∧ Q .non (upd H l (.lst (xs ++ zs)))
theorem mt_extR (hK : X.K = K := by rfl) : MtM X "list.extend" (rExtR K) := by
  subst hK
  intro pins s σ H x vs v us Q I rx rv h
  obtain ⟨l, b, xs, zs, rfl, rfl, hH, hB, hz, q⟩ := h
  cases rx
  obtain ⟨u, rfl, ru⟩ := rv.one
  cases ru
  obtain ⟨z, its, n, r, hl, e⟩ := I.lstM hH
  obtain ⟨its2, n2, r2, hl2, e2⟩ := rd_lst I hB
  have hsz : its.toArray.size + its2.toArray.size ≤ sizeLine := by rw [List.size_toArray, List.size_toArray]; omega
  have hlong : ¬ (!its.toArray.isEmpty && Builtin.List.listTooLong (its.toArray.size + its2.toArray.size)) = true := by
    rw [notLongL hsz, Bool.and_false]
    exact Bool.false_ne_true
  refine call_meets F.slot_list_extend ⟨_, e, rfl⟩ F.entry_list_extend (F.args_list_extend_2 _ _)
    (AutoSeq1.list_extend_list_list_0 l its.toArray n b its2.toArray n2 hlong (by rw [List.size_toArray]; omega) (by omega)) ⟨e, e2, ?_⟩
  refine ⟨.non, _, I.lset (its' := its ++ its2) hH e (by simp) (r.append r2) ?_, rfl, q⟩
  rw [List.length_append]
  omega
theorem ext_sd {i : Nat} (he : Use K mg E te f) (S0 H0 S H : Hp) (σ : L2.St) (ρ : DEnv) (N : Ends) (r : Rel K S0 H0 S H σ ρ) (h : SPost K mg E S0 H0 S (sExt f i ρ) N) : tDrop (tBM K "list" (rExtR K) (tVar i) (tCons te tNil)) N σ H := by
  obtain ⟨xs, ex, h⟩ := own_at h
  obtain ⟨p, g1, g2, g3, vs, g4, g5⟩ := r.own i _ ex rfl
  refine ⟨.ref p, g1, .inl ⟨rfl, vs, SqL.of g4⟩, ?_⟩
  refine he S0 H0 S H σ ρ N _ _ r h fun a w S' H' r' e1 e2 d1 h => ?_
  cases a with
  | list ys =>
    dsimp only at h
    split at h
    · rename_i hz
      rw [DV] at d1
      obtain ⟨b, us, rfl, h1, h2⟩ := d1
      refine ⟨p, b, vs, us, rfl, rfl, e2 _ _ g4, ls_mono r'.x.sh h1, ?_, ?_⟩
      · rw [g5.length, h2.length]
        exact lenOk.le hz
      · exact h S' _ σ e1 (r'.mut ex rfl rfl g1 ⟨vs ++ us, upd_same, (g5.mono e1).append h2⟩)
    · exact h.elim
  | _ => exact h.elim
theorem use_plain (he : PD K mg X E e te f) : Use K mg E te f := fun S0 H0 S H σ ρ N k Q r h hk =>
  he.sd S H σ ρ _ r.relE (post_of r h fun a w S' H' _ x q h => hk a w S' H' (r.ext x) x.s x.h q h)
theorem use_bor (he : PD K mg X E e te f) : Use K mg E te (fBor f) := fun S0 H0 S H σ ρ N k Q r h hk => by
  refine he.sd H H σ (viewAll ρ) _ r.relV ?_
  unfold fBor at h
  cases e1 : f (viewAll ρ) with
  | ok d =>
    rw [e1, bind_ok] at h
    intro w S' H' x q
    split at h
    · rename_i hf
      exact hk d w S H' (r.grow x.h) (Same.refl _) x.h (q.flat hf) h
    · exact h.elim
  | err c =>
    rw [e1] at h
    exact fun u H' e sm => h u H' e (r.x.h.trans sm)
  | bad => rw [e1] at h; exact h
/-- x = e, the value read with all shared, flat -/
theorem sd_setU {i : Nat} {x : Str} {pos' : Pos} (pe : PE X e te) (he : Use K mg E te f) (hN : X.N.Nodup) (hi : X.N[i]? = some x) (hx : Loc X.env.scope x := by first | exact Or.inl rfl | exact Or.inr rfl) (hs : swapsWith e (some (.Name x pos')) pos.line X.env = pure false := by rfl) (hf : X.fn x = true ∨ X.env.scope.names.lookup x = some .local := by first | exact .inl rfl | exact .inr rfl | assumption) :
    SD K mg X E (.Assign [.Name x pos'] e pos) (tAsg te (gName i)) (sAsg f [i] hOne) := ⟨ps_set hN hi hx pe hs hf, fun S0 H0 S H σ ρ N r h =>
  he S0 H0 S H σ ρ N _ _ r h fun a w S' H' r' e1 e2 d1 h => h S' H' _ e1 (r'.setAll [i] [w] [a] ⟨d1, trivial⟩)⟩
theorem sd_retU (pe : PE X e te) (he : Use K mg E te f) : SD K mg X E (.Return (some e) pos) (tRet te) (sRet f) := ⟨ps_ret pe, fun S0 H0 S H σ ρ N r h =>
  he S0 H0 S H σ ρ N _ _ r h fun a w S' H' r' e1 e2 d1 h => h w S' H' r'.x d1⟩
/-! ### a def -/
def toRes (r : SR) : Res D := match r with
  | .next _ => .ok .none
  | .ret d => .ok d
  | .err c => .err c
  | .brk _ => .bad
  | .cont _ => .bad
  | .bad => .bad
def startD (n : Nat) (ds : List D) : DEnv := ds.map Slot.d ++ List.replicate (n - ds.length) Slot.un
def fnF (n : Nat) (B : DEnv → SR) (ds : List D) : Res D := toRes (B (startD n ds))
theorem start_rel {K : PySem.W.Frag} {S H : Hp} {N : List Str} {vs : List V} {ds : List D} (sh : Same S H) (h : DVs K S vs ds) : Rel K S H S H (start N vs) (startD N.length ds) := by
  have hn : ∀ (i : Nat) (s : Slot), (startD N.length ds)[i]? = some s → (∃ d, ds[i]? = some d ∧ s = .d d) ∨ s = .un := fun i s e => by
    unfold startD at e
    by_cases hi : i < ds.length
    · rw [List.getElem?_append_left (by rw [List.length_map]; exact hi), List.getElem?_map] at e
      cases e2 : ds[i]? with
      | none => rw [e2] at e; cases e
      | some d => rw [e2] at e; cases e; exact .inl ⟨d, rfl, rfl⟩
    · rw [List.getElem?_append_right (by rw [List.length_map]; omega)] at e
      have := List.mem_of_getElem? e
      exact .inr (List.eq_of_mem_replicate this)
  refine ⟨Ext.refl sh, ?_, fun i y e => ?_, fun i v e => ?_, fun i s e hs => ?_, fun i j s s' p e _ hs => ?_⟩
  · unfold L2.start startD
    rw [List.length_append, List.length_append, List.length_map, List.length_map, List.length_replicate, List.length_replicate, h.length]
  · rcases hn i _ e with ⟨d, e1, e2⟩ | e2
    · cases e2
      obtain ⟨v, g1, g2⟩ := h.get e1
      refine ⟨v, ?_, g2⟩
      unfold L2.start
      have hi := (List.getElem?_eq_some_iff.mp g1).1
      rw [List.getElem?_append_left (by rw [List.length_map]; exact hi), List.getElem?_map, g1]
      rfl
    · cases e2
  · rcases hn i _ e with ⟨d, e1, e2⟩ | e2 <;> cases e2
  · rcases hn i _ e with ⟨d, e1, e2⟩ | e2 <;> (subst e2; cases hs)
  · rcases hn i _ e with ⟨d, e1, e2⟩ | e2 <;> (subst e2; cases hs)
end
/-- THE RULE for a def that is a function of data -/
theorem fnD {P : Program} {w : World} {K : PySem.W.Frag} {mg : Str → Option Value} {base : Heap} {x qual : Str} {st : Stmt} {f : Addr} {fd : FuncData} {N ps : List Str} {k n : Nat} {B : DEnv → SR} (F : Fun K x qual st f fd) (S : FnScope N ps (defScope st)) (hn : ps.length = n)
    (hbody : ∀ (cdv : Value) (A : Around) (outer : List Env) (s : Shared) (H : Hp) (E : XK), Room k (A.deeper (PyProof.Rows.envOfC qual (defScope st) s.heap.objs.size f cdv)) →
      ∃ t, SDs K mg (cxOf (L2.CX P w) P w K mg base N qual (defScope st) f cdv A outer s H E) E (defBody st) t B) : FnOk P w K mg base (L2.CX P w) (k + 1) f fd ps (spD K mg n (fnF N.length B)) := by
  refine F.okX S (fun vs H Q E h => ?_) (fun cdv A outer s H vs Q E hr h => ?_)
  · obtain ⟨_, _, _, _, hl, _⟩ := h
    rw [hl, hn]
  · obtain ⟨S1, ds, sh, dv, hl, hp⟩ := h
    obtain ⟨t, hb⟩ := hbody cdv A outer s H E hr
    refine ⟨t, hb.ps, hb.sd S1 H S1 H (start N vs) (startD N.length ds) _ (start_rel sh dv) ?_⟩
    unfold fnF at hp
    cases e : B (startD N.length ds) with
    | next ρ => rw [e] at hp; exact fun S' H' σ' _ r => hp .non S' H' r.x rfl
    | ret d => rw [e] at hp; exact fun v S' H' x dv => hp v S' H' x dv
    | err c => rw [e] at hp; exact hp
    | brk ρ => rw [e] at hp; exact hp.elim
    | cont ρ => rw [e] at hp; exact hp.elim
    | bad => rw [e] at hp; exact hp.elim
end PD
namespace PD
open PySem L2
section
variable {K : PySem.W.Frag} {mg : Str → Option Value} {X : Cx} {E : XK} {e : Expr} {es : List Expr} {te : TE} {t : TA} {f : DEnv → Res D} {fa : DEnv → Res (List D)} {pos p : Pos}
/-! ### len -/
def rLenA (K : PySem.W.Frag) : List V → Hp → VK → Prop := fun xs H Q => ∃ x n, xs = [x] ∧ LenV K x H n ∧ Q (.int n) H
def rTupOf (K : PySem.W.Frag) : List V → Hp → VK → Prop := fun xs H Q => ∃ p ys, xs = [.ref p] ∧ ((SqL K H p ys ∧ ∀ l, H l = none → Q (.ref l) (upd H l (.tup ys))) ∨ (SqT K H p ys ∧ Q (.ref p) H))
def rListOf (K : PySem.W.Frag) : List V → Hp → VK → Prop := fun xs H Q => ∃ p ys, xs = [.ref p] ∧ (SqL K H p ys ∨ SqT K H p ys) ∧ ∀ l, H l = none → Q (.ref l) (upd H l (.lst ys))
theorem c_len (hK : X.K = K := by rfl) : CallR X (.builtin "len") (rLenA K) := by subst hK; exact call_len
theorem c_tup (hK : X.K = K := by rfl) : CallR X (.type "tuple") (rTupOf K) := by subst hK; exact call_tuple_of
theorem c_list (hK : X.K = K := by rfl) : CallR X (.type "list") (rListOf K) := by subst hK; exact call_list_of
theorem c_all (hc : X.calm = true) (hK : X.K = K := by rfl) : CallR X (.builtin "all") (rAll K) := by subst hK; exact cr_all hc
theorem c_any (hc : X.calm = true) (hK : X.K = K := by rfl) : CallR X (.builtin "any") (rAny K) := by subst hK; exact cr_any hc
theorem c_sum (hc : X.calm = true) (hK : X.K = K := by rfl) : CallR X (.builtin "sum") (rSum K) := by subst hK; exact cr_sum hc
theorem c_max (hc : X.calm = true) (hK : X.K = K := by rfl) : CallR X (.builtin "max") (rMax K) := by subst hK; exact cr_max hc
theorem c_min (hc : X.calm = true) (hK : X.K = K := by rfl) : CallR X (.builtin "min") (rMin K) := by subst hK; exact cr_min hc
def gLen : List D → Res D
  | [.list xs] => .ok (.int xs.length)
  | [.tuple xs] => .ok (.int xs.length)
  | [.str s] => if lenOk s.length = true then .ok (.int s.length) else .bad
  | _ => .bad
theorem cs_len : CaS K mg E (rLenA K) gLen := fun S H xs ds Q sh dv h => by
  unfold gLen at h
  split at h
  · obtain ⟨v, rfl, hv⟩ := dvs1 dv
    rw [DV] at hv
    obtain ⟨a, us, rfl, h1, h2⟩ := hv
    refine ⟨_, us.length, rfl, .inl ⟨us, ls_sq (ls_mono sh h1), rfl⟩, ?_⟩
    rw [h2.length]
    exact h.ok0 sh rfl
  · obtain ⟨v, rfl, hv⟩ := dvs1 dv
    rw [DV] at hv
    obtain ⟨a, us, rfl, h1, h2⟩ := hv
    refine ⟨_, us.length, rfl, .inr ⟨us, same_t sh h1.1, rfl⟩, ?_⟩
    rw [h2.length]
    exact h.ok0 sh rfl
  · split at h
    · rename_i hz
      obtain ⟨v, rfl, hv⟩ := dvs1 dv
      rw [DV] at hv
      subst hv
      exact ⟨_, _, rfl, ⟨lenOk.le hz, rfl⟩, h.ok0 sh rfl⟩
    · exact h.elim
  · exact h.elim
/-! ### abs, max, min of two -/
def gAbs : List D → Res D
  | [.int i] => .ok (.int (if i < 0 then -i else i))
  | _ => .bad
theorem cs_abs : CaS K mg E (fun xs H Q => ∃ i, xs = [.int i] ∧ Q (.int (if i < 0 then -i else i)) H) gAbs := fun S H xs ds Q sh dv h => by
  unfold gAbs at h
  split at h
  · obtain ⟨v, rfl, hv⟩ := dvs1 dv
    cases hv
    exact ⟨_, rfl, h.ok0 sh rfl⟩
  · exact h.elim
def gMax2 : List D → Res D
  | [.int i, .int j] => .ok (.int (if j > i then j else i))
  | _ => .bad
def gMin2 : List D → Res D
  | [.int i, .int j] => .ok (.int (if j < i then j else i))
  | _ => .bad
theorem cs_max2 : CaS K mg E (fun xs H Q => ∃ i j, xs = [.int i, .int j] ∧ Q (.int (if j > i then j else i)) H) gMax2 := fun S H xs ds Q sh dv h => by
  unfold gMax2 at h
  split at h
  · obtain ⟨v, w, rfl, hv, hw⟩ := dvs2 dv
    cases hv
    cases hw
    exact ⟨_, _, rfl, h.ok0 sh rfl⟩
  · exact h.elim
theorem cs_min2 : CaS K mg E (fun xs H Q => ∃ i j, xs = [.int i, .int j] ∧ Q (.int (if j < i then j else i)) H) gMin2 := fun S H xs ds Q sh dv h => by
  unfold gMin2 at h
  split at h
  · obtain ⟨v, w, rfl, hv, hw⟩ := dvs2 dv
    cases hv
    cases hw
    exact ⟨_, _, rfl, h.ok0 sh rfl⟩
  · exact h.elim
/-! ### lists of bools, of ints -/
def asBs : List D → Option (List Bool)
  | [] => some []
  | .bool b :: r => (asBs r).map (b :: ·)
  | _ :: _ => none
def asIs : List D → Option (List Int)
  | [] => some []
  | .int b :: r => (asIs r).map (b :: ·)
  | _ :: _ => none
theorem asBs_dv {K : PySem.W.Frag} {S : Hp} : ∀ {vs : List V} {ds : List D} {bs : List Bool}, asBs ds = some bs → DVs K S vs ds → vs = bs.map V.bl
  | [], [], bs, h, _ => by cases h; rfl
  | v :: vs, d :: ds, bs, h, hd => by
    cases d with
    | bool b =>
      unfold asBs at h
      cases e : asBs ds with
      | none => rw [e] at h; cases h
      | some r =>
        rw [e] at h
        cases h
        have h1 : v = .bl b := hd.1
        rw [h1, asBs_dv e hd.2]
        rfl
    | _ => cases h
  | [], _ :: _, _, _, h => h.elim
  | _ :: _, [], _, _, h => h.elim
theorem asIs_dv {K : PySem.W.Frag} {S : Hp} : ∀ {vs : List V} {ds : List D} {bs : List Int}, asIs ds = some bs → DVs K S vs ds → vs = bs.map V.int
  | [], [], bs, h, _ => by cases h; rfl
  | v :: vs, d :: ds, bs, h, hd => by
    cases d with
    | int b =>
      unfold asIs at h
      cases e : asIs ds with
      | none => rw [e] at h; cases h
      | some r =>
        rw [e] at h
        cases h
        have h1 : v = .int b := hd.1
        rw [h1, asIs_dv e hd.2]
        rfl
    | _ => cases h
  | [], _ :: _, _, _, h => h.elim
  | _ :: _, [], _, _, h => h.elim
theorem asIs_map : ∀ ns : List Int, asIs (ns.map PyData.int) = some ns
  | [] => rfl
  | n :: ns => by show (asIs (ns.map PyData.int)).map (n :: ·) = _; rw [asIs_map ns]; rfl
theorem asBs_map : ∀ ns : List Bool, asBs (ns.map PyData.bool) = some ns
  | [] => rfl
  | n :: ns => by show (asBs (ns.map PyData.bool)).map (n :: ·) = _; rw [asBs_map ns]; rfl
def gBs (k : List Bool → D) : List D → Res D
  | [.list xs] => match asBs xs with
    | some bs => .ok (k bs)
    | none => .bad
  | _ => .bad
def gAll : List D → Res D := gBs fun bs => .bool (bs.all id)
def gAny : List D → Res D := gBs fun bs => .bool (bs.any id)
theorem bs_of {k : List Bool → D} {S H : Hp} {xs : List V} {ds : List D} {Q : VK} (dv : DVs K S xs ds) (h : PostG mg E S H (DV K) (gBs k ds) Q) : ∃ a bs, xs = [.ref a] ∧ LsAt K S a (bs.map V.bl) ∧ PostG mg E S H (DV K) (.ok (k bs)) Q := by
  unfold gBs at h
  split at h
  · split at h
    · rename_i bs e
      obtain ⟨v, rfl, hv⟩ := dvs1 dv
      rw [DV] at hv
      obtain ⟨a, us, rfl, h1, h2⟩ := hv
      rw [asBs_dv e h2] at h1
      exact ⟨a, bs, rfl, h1, h⟩
    · exact h.elim
  · exact h.elim
theorem cs_all : CaS K mg E (rAll K) gAll := fun S H xs ds Q sh dv h => by
  obtain ⟨a, bs, rfl, h1, h⟩ := bs_of dv h
  exact ⟨a, bs, rfl, ls_sq (ls_mono sh h1), h.ok0 sh rfl⟩
theorem cs_any : CaS K mg E (rAny K) gAny := fun S H xs ds Q sh dv h => by
  obtain ⟨a, bs, rfl, h1, h⟩ := bs_of dv h
  exact ⟨a, bs, rfl, ls_sq (ls_mono sh h1), h.ok0 sh rfl⟩
def gIsL (ne : Bool) (k : List Int → D) : List D → Res D
  | [.list xs] => match asIs xs with
    | some ns => if (ne && ns.isEmpty) = true then .bad else .ok (k ns)
    | none => .bad
  | _ => .bad
theorem is_of {ne : Bool} {k : List Int → D} {S H : Hp} {xs : List V} {ds : List D} {Q : VK} (dv : DVs K S xs ds) (h : PostG mg E S H (DV K) (gIsL ne k ds) Q) : ∃ a ns, xs = [.ref a] ∧ LsAt K S a (ns.map V.int) ∧ (ne && ns.isEmpty) = false ∧ PostG mg E S H (DV K) (.ok (k ns)) Q := by
  unfold gIsL at h
  split at h
  · split at h
    · rename_i bs e
      split at h
      · exact h.elim
      · rename_i hne
        obtain ⟨v, rfl, hv⟩ := dvs1 dv
        rw [DV] at hv
        obtain ⟨a, us, rfl, h1, h2⟩ := hv
        rw [asIs_dv e h2] at h1
        exact ⟨a, bs, rfl, h1, by cases hx : (ne && bs.isEmpty) with | true => exact absurd hx hne | false => rfl, h⟩
    · exact h.elim
  · exact h.elim
def gSum : List D → Res D := gIsL false fun ns => .int ns.sum
theorem cs_sum : CaS K mg E (rSum K) gSum := fun S H xs ds Q sh dv h => by
  obtain ⟨a, ns, rfl, h1, _, h⟩ := is_of dv h
  exact ⟨a, ns, rfl, ls_sq (ls_mono sh h1), h.ok0 sh rfl⟩
def maxI : List Int → Int
  | [] => 0
  | [x] => x
  | x :: y :: r => if maxI (y :: r) > x then maxI (y :: r) else x
def minI : List Int → Int
  | [] => 0
  | [x] => x
  | x :: y :: r => if minI (y :: r) < x then minI (y :: r) else x
theorem maxI_spec : ∀ (ns : List Int), ns ≠ [] → maxI ns ∈ ns ∧ ∀ y ∈ ns, y ≤ maxI ns
  | [], h => absurd rfl h
  | [x], _ => ⟨List.mem_singleton.mpr rfl, fun y hy => by rw [List.mem_singleton.mp hy]; exact Int.le_refl _⟩
  | x :: y :: r, _ => by
    obtain ⟨h1, h2⟩ := maxI_spec (y :: r) (by simp)
    show (if maxI (y :: r) > x then maxI (y :: r) else x) ∈ x :: y :: r ∧ ∀ z ∈ x :: y :: r, z ≤ (if maxI (y :: r) > x then maxI (y :: r) else x)
    split
    · rename_i hg
      refine ⟨List.mem_cons_of_mem _ h1, fun z hz => ?_⟩
      rcases List.mem_cons.mp hz with q | q
      · omega
      · exact h2 z q
    · rename_i hg
      refine ⟨List.mem_cons_self, fun z hz => ?_⟩
      rcases List.mem_cons.mp hz with q | q
      · omega
      · have := h2 z q
        omega
theorem minI_spec : ∀ (ns : List Int), ns ≠ [] → minI ns ∈ ns ∧ ∀ y ∈ ns, minI ns ≤ y
  | [], h => absurd rfl h
  | [x], _ => ⟨List.mem_singleton.mpr rfl, fun y hy => by rw [List.mem_singleton.mp hy]; exact Int.le_refl _⟩
  | x :: y :: r, _ => by
    obtain ⟨h1, h2⟩ := minI_spec (y :: r) (by simp)
    show (if minI (y :: r) < x then minI (y :: r) else x) ∈ x :: y :: r ∧ ∀ z ∈ x :: y :: r, (if minI (y :: r) < x then minI (y :: r) else x) ≤ z
    split
    · rename_i hg
      refine ⟨List.mem_cons_of_mem _ h1, fun z hz => ?_⟩
      rcases List.mem_cons.mp hz with q | q
      · omega
      · exact h2 z q
    · rename_i hg
      refine ⟨List.mem_cons_self, fun z hz => ?_⟩
      rcases List.mem_cons.mp hz with q | q
      · omega
      · have := h2 z q
        omega
def gMaxL : List D → Res D := gIsL true fun ns => .int (maxI ns)
def gMinL : List D → Res D := gIsL true fun ns => .int (minI ns)
theorem ne_of_flag {ns : List Int} (h : (true && ns.isEmpty) = false) : ns ≠ [] := by
  intro z
  subst z
  cases h
theorem cs_maxL : CaS K mg E (rMax K) gMaxL := fun S H xs ds Q sh dv h => by
  obtain ⟨a, ns, rfl, h1, hn, h⟩ := is_of dv h
  have hn := ne_of_flag hn
  refine ⟨a, ns, rfl, ls_sq (ls_mono sh h1), List.length_pos_iff.mpr hn, fun m hm hle => ?_⟩
  obtain ⟨g1, g2⟩ := maxI_spec ns hn
  have e : m = maxI ns := Int.le_antisymm (g2 m hm) (hle _ g1)
  rw [e]
  exact h.ok0 sh rfl
theorem cs_minL : CaS K mg E (rMin K) gMinL := fun S H xs ds Q sh dv h => by
  obtain ⟨a, ns, rfl, h1, hn, h⟩ := is_of dv h
  have hn := ne_of_flag hn
  refine ⟨a, ns, rfl, ls_sq (ls_mono sh h1), List.length_pos_iff.mpr hn, fun m hm hle => ?_⟩
  obtain ⟨g1, g2⟩ := minI_spec ns hn
  have e : m = minI ns := Int.le_antisymm (hle _ g1) (g2 m hm)
  rw [e]
  exact h.ok0 sh rfl
/-! ### tuple(x), list(x) -/
def gTupOf : List D → Res D
  | [.list xs] => .ok (.tuple xs)
  | [.tuple xs] => .ok (.tuple xs)
  | _ => .bad
def gListOf : List D → Res D
  | [.list xs] => .ok (.list xs)
  | [.tuple xs] => .ok (.list xs)
  | _ => .bad
theorem cs_tupOf : CaS K mg E (rTupOf K) gTupOf := fun S H xs ds Q sh dv h => by
  unfold gTupOf at h
  split at h
  · obtain ⟨v, rfl, hv⟩ := dvs1 dv
    rw [DV] at hv
    obtain ⟨a, us, rfl, h1, h2⟩ := hv
    exact ⟨a, us, rfl, .inl ⟨ls_sq (ls_mono sh h1), fun l hl => new_tup sh h2 h hl⟩⟩
  · obtain ⟨v, rfl, hv⟩ := dvs1 dv
    rw [DV] at hv
    obtain ⟨a, us, rfl, h1, h2⟩ := hv
    exact ⟨a, us, rfl, .inr ⟨same_t sh h1.1, h.ok0 sh ⟨a, us, rfl, h1, h2⟩⟩⟩
  · exact h.elim
theorem cs_listOf : CaS K mg E (rListOf K) gListOf := fun S H xs ds Q sh dv h => by
  unfold gListOf at h
  split at h
  · obtain ⟨v, rfl, hv⟩ := dvs1 dv
    rw [DV] at hv
    obtain ⟨a, us, rfl, h1, h2⟩ := hv
    exact ⟨a, us, rfl, .inl (ls_sq (ls_mono sh h1)), fun l hl => new_lst sh h2 h hl⟩
  · obtain ⟨v, rfl, hv⟩ := dvs1 dv
    rw [DV] at hv
    obtain ⟨a, us, rfl, h1, h2⟩ := hv
    exact ⟨a, us, rfl, .inr (same_t sh h1.1), fun l hl => new_lst sh h2 h hl⟩
  · exact h.elim
/-! ### isinstance(x, T), T built-in -/
def tyName : D → String
  | .none => "NoneType"
  | .bool _ => "bool"
  | .int _ => "int"
  | .str _ => "str"
  | .list _ => "list"
  | .tuple _ => "tuple"
  | .dict _ => "dict"
def isiN (n T : String) : Bool := decide (n = T) || (decide (T = "int") && decide (n = "bool"))
def isiD (T : String) (d : D) : Bool := isiN (tyName d) T
theorem kit_N : ∀ n ∈ ["NoneType", "bool", "int", "str", "list", "tuple", "dict"], ∀ T ∈ ["int", "bool", "tuple", "list", "str"], kitB n T = some (isiN n T) := by decide +kernel
theorem tyName_mem (d : D) : tyName d ∈ ["NoneType", "bool", "int", "str", "list", "tuple", "dict"] := by
  cases d <;> simp [tyName]
theorem kit_D (T : String) (hT : T ∈ ["int", "bool", "tuple", "list", "str"]) (d : D) : kitB (tyName d) T = some (isiD T d) := kit_N _ (tyName_mem d) T hT
/-- .. a dict that is being walked too -/
def TyY (K : PySem.W.Frag) (H : Hp) (x : V) (t : Value) : Prop := TyX K H x t ∨ ∃ (a : Addr) (ob : Obj) (kvs : List (List Key × V)), x = .ref a ∧ H a = some (.frz ob (.dT kvs)) ∧ t = .type "dict"
theorem kit_ofY {X : Cx} {pins : List (Addr × Obj)} {σ : L2.St} {H : Hp} {s : Shared} {x : V} {u t : Value} (I : Inv X pins σ H s) (rx : RelV x u) (ty : TyY X.K H x t) : ∃ P : Heap → Prop, PySem.W.KitX X.K u t P ∧ P s.heap ∧ u ≠ .builtin "__main__.__loader__#opaque" := by
  rcases ty with ty | ⟨a, ob, kvs, rfl, ea, rfl⟩
  · exact kit_of I rx ty
  · cases (show u = Value.ref a from rx)
    obtain ⟨_, _, _, xs, _, o, es, ep, h1, h2, _⟩ := (show ObjOk X.prog X.w H s.heap a (.frz ob (.dT kvs)) from I.hok a _ ea)
    exact ⟨_, PySem.W.kitx_dict, ⟨o, h1, h2.1⟩, fun z => nomatch z⟩
def rIsiY (K : PySem.W.Frag) : List V → Hp → VK → Prop := fun xs H Q => ∃ (x c : V) (t u : Value) (b : Bool), xs = [x, c] ∧ ClsV c u ∧ TyY K H x t ∧ PySem.W.kitOne K t u = some b ∧ Q (.bl b) H
theorem call_isiY {X : Cx} : CallR X (.builtin "isinstance") (rIsiY X.K) := by
  intro pins s σ H xs us Q I r h
  obtain ⟨x, c, t, u, b, rfl, k, ty, e, q⟩ := h
  obtain ⟨u1, u2, rfl, r1, r2⟩ := vals2 r
  have e2 := k.eq r2
  subst e2
  obtain ⟨P, Z, p, hx⟩ := kit_ofY I r1 ty
  exact PySem.W.kia_one Z I.kIn p e hx fun tk => ⟨.bl b, H, I.tok tk, rfl, q⟩
theorem tyX_of {K : PySem.W.Frag} {S H : Hp} {v : V} {d : D} (sh : Same S H) (h : DV K S v d) : TyY K H v (.type (tyName d)) := by
  cases d with
  | none => rw [DV] at h; subst h; exact .inl (.base .non)
  | bool b => rw [DV] at h; subst h; exact .inl (.base (.bl b))
  | int b => rw [DV] at h; subst h; exact .inl (.base (.int b))
  | str b => rw [DV] at h; subst h; exact .inl (.base (.str b))
  | list b =>
    rw [DV] at h
    obtain ⟨a, us, rfl, (h1 | ⟨o, h1⟩) | ⟨its, n, h1, _⟩, _⟩ := h
    · exact .inl (.base (.lst (sh _ _ h1)))
    · exact .inl (.base (.frz (sh _ _ h1)))
    · exact .inl (.kList h1 rfl)
  | tuple b =>
    rw [DV] at h
    obtain ⟨a, us, rfl, ⟨(h1 | ⟨o, h1⟩) | ⟨o, its, n, h1, h2, _⟩, _⟩, _⟩ := h
    · exact .inl (.base (.tup (sh _ _ h1)))
    · exact .inl (.fTuple (sh _ _ h1))
    · exact .inl (.kTuple h1 h2)
  | dict b =>
    rw [DV] at h
    obtain ⟨a, rfl, ⟨es, h1 | ⟨o, h1⟩, _⟩ | ⟨es, h1 | ⟨o, h1⟩, _⟩⟩ := h
    · exact .inl (.base (.dK (sh _ _ h1)))
    · exact .inl (.fDict (sh _ _ h1))
    · exact .inl (.base (.dT (sh _ _ h1)))
    · exact .inr ⟨a, o, es, rfl, sh _ _ h1, rfl⟩
def fIsi (T : String) (f : DEnv → Res D) : DEnv → Res D := fun ρ => (f ρ).bind fun d => .ok (.bool (isiD T d))
theorem pd_isi {T : String} {x : Str} {p1 p2 : Pos} (hT : T ∈ ["int", "bool", "tuple", "list", "str"]) (he : PD K mg X E e te f) (hg : Gl X "isinstance") (hm : X.mg "isinstance" = none) (hv : bootBuiltins "isinstance" = some (.builtin "isinstance")) (hgT : Gl X x) (hmT : X.mg x = none) (hvT : bootBuiltins x = some (.type T))
    (hn : x ≠ "__name__" := by decide) (hd : (x == ("__debug__" : Str)) = false := by decide)
    (h1 : starEach [e, .Name x p1] X.env = (false, eval e X.env) :: starEach [.Name x p1] X.env := by rfl) (h2 : starEach [.Name x p1] X.env = (false, eval (.Name x p1) X.env) :: starEach [] X.env := by rfl) (hpl : (backTo pos (starEach [.Name x p1] X.env)).any (·.1) = false := by rfl) (hK : X.K = K := by rfl) :
    PD K mg X E (.Call (.Name "isinstance" p2) [e, .Name x p1] [] pos) (tCB (rIsiY K) (tCons te (tCons (tC (.ty T)) tNil))) (fIsi T f) :=
  ⟨hK ▸ pe_callB call_isiY hg hm hv (pa_cons he.pe (pa_cons (pe_bltn (v := .ty T) hgT hmT hvT rfl hn hd) pa_nil h2) h1) (by decide) (by decide) h1 hpl, fun S H σ ρ Q rl h =>
    he.sd S H σ ρ _ rl (h.bind fun d v S1 H1 x1 d1 h1 => ⟨v, .ty T, _, _, isiD T d, rfl, .ty T, tyX_of x1.sh d1, kit_ty (kit_D T hT d), h1.ok0 x1.sh rfl⟩)⟩
/-! ### NAMES.index(x), a tuple of texts of the written part -/
def gNamesIx (ys : List Str) : D → Res D
  | .str z => match ys.idxOf? z with
    | some j => .ok (.int (j : Nat))
    | none => .bad
  | _ => .bad
def rNamesIx (K : PySem.W.Frag) : V → List V → Hp → VK → Prop := fun x xs H Q => ∃ p, ∃ ys : List Str, ∃ z j, x = .ref p ∧ xs = [.str z] ∧ SqT K H p (ys.map V.str) ∧ ys[j]? = some z ∧ (∀ m, m < j → ys[m]? ≠ some z) ∧ Q (.int (j : Nat)) H
theorem mt_nix (hK : X.K = K := by rfl) : MtR X "tuple.index" (rNamesIx K) := by subst hK; exact mt_tup_index
def fNix (ys : List Str) (f : DEnv → Res D) : DEnv → Res D := fun ρ => (f ρ).bind (gNamesIx ys)
theorem pd_namesIx {a : Addr} {ys : List Str} {o : Expr} {apos : Pos} (hk : ∃ ob, K.lookup a = some ob ∧ ob.cls = .type "tuple" ∧ ob.dict = none) (hs : ∀ H, SqT K H a (ys.map V.str)) (he : PD K mg X E e te f)
    (hp : PE X (.Call (.Attribute o "index" apos) [e] [] pos) (tBM K "tuple" (rNamesIx K) (tC (.ref a)) (tCons te tNil))) :
    PD K mg X E (.Call (.Attribute o "index" apos) [e] [] pos) (tBM K "tuple" (rNamesIx K) (tC (.ref a)) (tCons te tNil)) (fNix ys f) :=
  ⟨hp, fun S H σ ρ Q rl h => ⟨.inr (.inl ⟨rfl, hk⟩), he.sd S H σ ρ _ rl (h.bind fun d v S1 H1 x1 d1 h1 => by
    cases d with
    | str z =>
      unfold gNamesIx at h1
      dsimp only at h1
      split at h1
      · rename_i j ej
        rw [DV] at d1
        subst d1
        have q := List.findIdx?_eq_some_iff_getElem.mp ej
        obtain ⟨hj, e1, e2⟩ := q
        refine ⟨a, ys, z, j, rfl, rfl, hs H1, ?_, fun m hm em => ?_, h1.ok0 x1.sh rfl⟩
        · rw [List.getElem?_eq_getElem hj]
          exact congrArg some (by simpa using e1)
        · have hml : m < ys.length := by omega
          rw [List.getElem?_eq_getElem hml] at em
          have := e2 m hm
          have em := Option.some.inj em
          rw [em] at this
          simp at this
      · exact h1.elim
    | _ => exact h1.elim)⟩⟩
end
end PD
namespace PD
open PySem L2
def zipD : List D → List D → List D
  | x :: xs, y :: ys => .tuple [x, y] :: zipD xs ys
  | _, _ => []
theorem zipD_get : ∀ {xs ys : List D} {i : Nat} {d : D}, (zipD xs ys)[i]? = some d → ∃ x y, xs[i]? = some x ∧ ys[i]? = some y ∧ d = .tuple [x, y]
  | x :: xs, y :: ys, 0, d, h => ⟨x, y, rfl, rfl, (Option.some.inj h).symm⟩
  | x :: xs, y :: ys, i + 1, d, h => zipD_get (xs := xs) (ys := ys) (i := i) h
  | [], _, _, _, h => by simp [zipD] at h
  | _ :: _, [], _, _, h => by simp [zipD] at h
theorem zipD_len : ∀ (xs ys : List D), (zipD xs ys).length = min xs.length ys.length
  | x :: xs, y :: ys => by show (zipD xs ys).length + 1 = min (xs.length + 1) (ys.length + 1); rw [zipD_len xs ys]; omega
  | [], ys => by simp [zipD]
  | _ :: _, [] => by simp [zipD]
theorem walks_zip {K : PySem.W.Frag} {S : Hp} {a b : Addr} {us ws : List V} {ds es : List D} (h1 : LsAt K S a us) (h2 : DVs K S us ds) (h3 : LsAt K S b ws) (h4 : DVs K S ws es) : Walks K S (Itz K a b) (zipD ds es) := fun S' H' e1 e2 => by
  have q1 : SqL K H' a us := ls_sq (ls_mono (e1.trans e2) h1)
  have q2 : SqL K H' b ws := ls_sq (ls_mono (e1.trans e2) h3)
  refine ⟨fun i d hi => ?_, us, ws, q1, q2, ?_⟩
  · obtain ⟨x, y, g1, g2, rfl⟩ := zipD_get hi
    obtain ⟨v, k1, k2⟩ := h2.get g1
    obtain ⟨w, k3, k4⟩ := h4.get g2
    refine ⟨⟨us, ws, v, w, q1, q2, k1, k3⟩, fun z H'' hy => ?_⟩
    obtain ⟨T, x1, x2, rfl, nT, rfl, f1, f2⟩ := hy
    have ex : x1 = v := Option.some.inj ((f1 _ q1).symm.trans k1)
    have ey : x2 = w := Option.some.inj ((f2 _ q2).symm.trans k3)
    subst ex ey
    have sm : Same S (upd S' T (.tup [x1, x2])) := e1.trans (same_upd (e2.free nT))
    exact ⟨_, Ext.new e2 nT, T, [x1, x2], rfl, tp_of upd_same, k2.mono sm, k4.mono sm, trivial⟩
  · rw [zipD_len, h2.length, h4.length]
    omega
theorem walks_zipT {K : PySem.W.Frag} {S : Hp} {a b : Addr} {us ws : List V} {ds es : List D} (h1 : SqT K S a us) (h2 : DVs K S us ds) (h3 : SqT K S b ws) (h4 : DVs K S ws es) : Walks K S (RZ.ItzT K a b) (zipD ds es) := fun S' H' e1 e2 => by
  have q1 : SqT K H' a us := same_t (e1.trans e2) h1
  have q2 : SqT K H' b ws := same_t (e1.trans e2) h3
  refine ⟨fun i d hi => ?_, us, ws, q1, q2, ?_⟩
  · obtain ⟨x, y, g1, g2, rfl⟩ := zipD_get hi
    obtain ⟨v, k1, k2⟩ := h2.get g1
    obtain ⟨w, k3, k4⟩ := h4.get g2
    refine ⟨⟨us, ws, v, w, q1, q2, k1, k3⟩, fun z H'' hy => ?_⟩
    obtain ⟨T, x1, x2, rfl, nT, rfl, f1, f2⟩ := hy
    have ex : x1 = v := Option.some.inj ((f1 _ q1).symm.trans k1)
    have ey : x2 = w := Option.some.inj ((f2 _ q2).symm.trans k3)
    subst ex ey
    have sm : Same S (upd S' T (.tup [x1, x2])) := e1.trans (same_upd (e2.free nT))
    exact ⟨_, Ext.new e2 nT, T, [x1, x2], rfl, tp_of upd_same, k2.mono sm, k4.mono sm, trivial⟩
  · rw [zipD_len, h2.length, h4.length]
    omega
def gZip : List D → Res (List D)
  | [.list xs, .list ys] => .ok (zipD xs ys)
  | [.tuple xs, .tuple ys] => .ok (zipD xs ys)
  | _ => .bad
section
variable {K : PySem.W.Frag} {mg : Str → Option Value} {X : Cx} {E : XK} {e e2 : Expr} {ta : TA} {ga : DEnv → Res (List D)} {p pos tpos : Pos} {elts : List Expr} {kk : Nat}
theorem id_zip (hg : Gl X "zip") (hm : X.mg "zip" = none) (ha : AD K mg X E [e, e2] ta ga) (hs : starEach [e, e2] X.env = (false, eval e X.env) :: starEach [e2] X.env := by rfl) (hpl : (backTo pos (starEach [e2] X.env)).any (·.1) = false := by rfl) (hK : X.K = K := by rfl) :
    ID K mg X E (.Tuple elts kk tpos) (.Call (.Name "zip" p) [e, e2] [] pos) (RZ.iZipA K ta) (fRng gZip ga) := ⟨hK ▸ RZ.pi_zipA hg hm ha.pe hs hpl, fun S H σ ρ R rl h => by
  refine ha.sd S H σ ρ _ rl (h.bind fun ds vs S1 H1 x1 d1 h1 => ?_)
  unfold gZip at h1
  split at h1
  · obtain ⟨v, w, rfl, hv, hw⟩ := dvs2 d1
    rw [DV] at hv hw
    obtain ⟨a, us, rfl, k1, k2⟩ := hv
    obtain ⟨b, ws, rfl, k3, k4⟩ := hw
    exact ⟨a, b, us, ws, rfl, .inl ⟨ls_sq (ls_mono x1.sh k1), ls_sq (ls_mono x1.sh k3), h1.ok0 x1.sh (walks_zip k1 k2 k3 k4)⟩⟩
  · obtain ⟨v, w, rfl, hv, hw⟩ := dvs2 d1
    rw [DV] at hv hw
    obtain ⟨a, us, rfl, k1, k2⟩ := hv
    obtain ⟨b, ws, rfl, k3, k4⟩ := hw
    exact ⟨a, b, us, ws, rfl, .inr ⟨same_t x1.sh k1.1, same_t x1.sh k3.1, h1.ok0 x1.sh (walks_zipT k1.1 k2 k3.1 k4)⟩⟩
  · exact h1.elim⟩
/-! ### ranges with a step; list(range(..)) -/
def rngS (lo c : Int) (n : Nat) : List D := (List.range n).map fun (i : Nat) => PyData.int (lo + (i : Int) * c)
/-- how many: a, a + c, .. below b -/
def rngN (a b c : Int) : Nat := if a < b then ((b - a - 1) / c + 1).toNat else 0
def rng3Ok (a b c : Int) : Bool := decide (-1000000 ≤ a) && decide (a ≤ 1000000) && decide (-1000000 ≤ b) && decide (b ≤ 1000000) && decide (0 < c) && decide (c ≤ 1000000)
theorem rng3Ok.bd {a b c : Int} (h : rng3Ok a b c = true) : -1000000 ≤ a ∧ a ≤ 1000000 ∧ -1000000 ≤ b ∧ b ≤ 1000000 ∧ 0 < c ∧ c ≤ 1000000 := by
  unfold rng3Ok at h
  simp only [Bool.and_eq_true, decide_eq_true_eq] at h
  omega
theorem rng_size {a b c : Int} (h : 0 < c) : Builtin.Range.rangeSize a b c = (rngN a b c : Nat) := by
  unfold Builtin.Range.rangeSize rngN
  rw [if_pos h]
  split
  · have : 0 ≤ (b - a - 1) / c := Int.ediv_nonneg (by omega) (by omega)
    omega
  · rfl
theorem rngN_le {a b c : Int} (h : rng3Ok a b c = true) : rngN a b c ≤ 2000001 := by
  obtain ⟨h1, h2, h3, h4, h5, h6⟩ := rng3Ok.bd h
  unfold rngN
  split
  · have : (b - a - 1) / c ≤ b - a - 1 := Int.ediv_le_self _ (by omega)
    omega
  · omega
theorem rng_small {a b c : Int} (h : rng3Ok a b c = true) : Builtin.Range.small a b c = true := by
  have hn := rngN_le h
  obtain ⟨h1, h2, h3, h4, h5, h6⟩ := rng3Ok.bd h
  unfold Builtin.Range.small
  rw [rng_size h5]
  simp only [Builtin.Range.rangeFitsLong, Bool.and_eq_true, Bool.or_eq_true, decide_eq_true_eq, beq_iff_eq, h5, gt_iff_lt, if_true]
  have e : (2 : Int) ^ 63 = 9223372036854775808 := by decide
  omega
theorem rgC_of {a b c : Int} (h : rng3Ok a b c = true) : RgC a b c (rngN a b c) := by
  obtain ⟨h1, h2, h3, h4, h5, h6⟩ := rng3Ok.bd h
  exact ⟨by omega, by omega, rng_small h, rng_size h5⟩
theorem walks_rngC {K : PySem.W.Frag} {S : Hp} (lo c : Int) (n : Nat) : Walks K S (Itc lo c n) (rngS lo c n) := fun S' H' e1 e2 => by
  have hl : (rngS lo c n).length = n := by unfold rngS; rw [List.length_map, List.length_range]
  refine ⟨fun i d hi => ?_, by rw [hl]; exact Nat.le_refl n⟩
  have hin : i < n := by
    have := (List.getElem?_eq_some_iff.mp hi).1
    omega
  refine ⟨hin, fun x H'' hy => ?_⟩
  obtain ⟨rfl, rfl⟩ := hy
  refine ⟨S', Ext.refl e2, ?_⟩
  unfold rngS at hi
  rw [List.getElem?_map, List.getElem?_range hin] at hi
  have hi := Option.some.inj hi
  rw [← hi]
  rfl
def gRng3 : List D → Res (List D)
  | [.int i, .int j, .int c] => if rng3Ok i j c = true then .ok (rngS i c (rngN i j c)) else .bad
  | _ => .bad
variable {a b c tg : Expr}
theorem id_range3 (hg : Gl X "range") (hm : X.mg "range" = none) (ha : AD K mg X E [a, b, c] ta ga) (hs : starEach [a, b, c] X.env = (false, eval a X.env) :: starEach [b, c] X.env := by rfl) (hpl : (backTo pos (starEach [b, c] X.env)).any (·.1) = false := by rfl) :
    ID K mg X E tg (.Call (.Name "range" p) [a, b, c] [] pos) (iRng3 ta) (fRng gRng3 ga) := ⟨pi_range3 hg hm ha.pe hs hpl, fun S H σ ρ R rl h => ha.sd S H σ ρ _ rl (h.bind fun ds vs S1 H1 x1 d1 h1 => by
    unfold gRng3 at h1
    split at h1
    · rename_i i j k
      split at h1
      · rename_i hz
        obtain ⟨v, w, u, rfl, hv, hw, hu⟩ := dvs3 d1
        cases hv
        cases hw
        cases hu
        exact ⟨i, j, k, _, rfl, rgC_of hz, h1.ok0 x1.sh (walks_rngC _ _ _)⟩
      · exact h1.elim
    · exact h1.elim)⟩
/-- list(range(a, b, c)) -/
def rgS (lo c : Int) (n : Nat) : List V := (List.range n).map fun (i : Nat) => V.int (lo + (i : Int) * c)
theorem vals_rgS {lo c : Int} {n : Nat} {acc : Array Value} (h : PySem.ItemsOf (fun i v => ∃ t, v = .int (lo + i * c) t) acc n) : Vals (rgS lo c n) acc.toList := by
  have e : acc.toList.length = n := by rw [Array.length_toList]; exact h.1
  unfold rgS
  rw [← e]
  refine vals_of_get acc.toList _ fun j u hj => ?_
  obtain ⟨t, rfl⟩ := h.2 j u (by rw [← hj, Array.getElem?_toList])
  exact ⟨t, rfl⟩
theorem dvs_rgS {K : PySem.W.Frag} {S : Hp} (lo c : Int) : ∀ l : List Nat, DVs K S (l.map fun (i : Nat) => V.int (lo + (i : Int) * c)) (l.map fun (i : Nat) => PyData.int (lo + (i : Int) * c))
  | [] => trivial
  | _ :: l => ⟨rfl, dvs_rgS lo c l⟩
def tLR3 (ta : TA) : TE := fun σ H Q => ta σ H fun vs H1 => ∃ (i j c : Int), vs = [.int i, .int j, .int c] ∧ rng3Ok i j c = true ∧ ∀ q, H1 q = none → Q (.ref q) (upd H1 q (.lst (rgS i c (rngN i j c))))
theorem pe_listR3 {p1 p2 pos2 : Pos} (hc : X.calm = true) (hgL : Gl X "list") (hmL : X.mg "list" = none) (hg : Gl X "range") (hm : X.mg "range" = none) (ha : PA X [a, b, c] ta)
    (hs : starEach [a, b, c] X.env = (false, eval a X.env) :: starEach [b, c] X.env := by rfl) (hpl : (backTo pos2 (starEach [b, c] X.env)).any (·.1) = false := by rfl)
    (na : starEach [.Call (.Name "range" p2) [a, b, c] [] pos2] X.env = (false, eval (.Call (.Name "range" p2) [a, b, c] [] pos2) X.env) :: starEach [] X.env := by rfl) :
    PE X (.Call (.Name "list" p1) [.Call (.Name "range" p2) [a, b, c] [] pos2] [] pos) (tLR3 ta) := by
  refine ⟨fun pins s σ H Q I h => ?_⟩
  refine PyProof.Rows.Call_ (ld_blt I hgL hmL PyProof.Rows.boot_list (PyProof.Rows.callWith_type1 (PyProof.Rows.args_cons ?_ na) na))
  refine PyProof.Rows.Call_ (ld_blt I hg hm PyProof.Rows.boot_range (PyProof.Rows.callWith_type1 (thn (ha.run pos2 pins s σ H _ I h) fun us s1 ⟨vs, H1, I1, r1, q1⟩ => ?_) hs hpl))
  obtain ⟨i, j, k, ev, ok, q⟩ := q1
  subst ev
  have rc := rgC_of ok
  obtain ⟨c0, c1, c2, c3⟩ := rc
  cases r1 with
  | cons r rr =>
    cases rr with
    | cons r' rr =>
      cases rr with
      | cons r'' rr =>
        cases rr
        obtain ⟨t, rfl⟩ := r
        obtain ⟨t', rfl⟩ := r'
        obtain ⟨t'', rfl⟩ := r''
        refine PySem.call_range_3 c0 ?_ (.inl (PyProof.noPylong_small c1))
        refine PyProof.Rows.args_nil ?_
        have I2 : Inv X pins σ H1 { s1 with heap := s1.heap.push { cls := .type "range", data := .fields #[.int i t, .int j t', .int k t''] } } := I1.kept (t' := s1.toks) fun b o e => Heap.get?_push_of_some _ e
        have hn := rngN_le ok
        refine PySem.call_list_range (n := rngN i j k) (I2.ok.hd hc) (IsRange.new ..) c2 c3 (Nat.le_trans hn (by decide)) fun h' tk acc c' hk e' hi => ?_
        refine ⟨.ref _, upd H1 _ (.lst (rgS i k (rngN i j k))), I2.laid hk (Nat.le_refl _) (show ObjOk X.prog X.w _ _ _ (.lst (rgS i k (rngN i j k))) from ⟨?_, acc.toList, c', vals_rgS hi, ?_⟩), rfl, q _ (I2.hok.fresh (Nat.le_refl _))⟩
        · unfold rgS
          rw [List.length_map, List.length_range, sizeLine_eq]
          omega
        · rw [Array.toArray_toList]
          exact e'
def gLR3 : List D → Res D
  | [.int i, .int j, .int c] => if rng3Ok i j c = true then .ok (.list (rngS i c (rngN i j c))) else .bad
  | _ => .bad
theorem pd_listR3 {p1 p2 pos2 : Pos} (hc : X.calm = true) (hgL : Gl X "list") (hmL : X.mg "list" = none) (hg : Gl X "range") (hm : X.mg "range" = none) (ha : AD K mg X E [a, b, c] ta ga)
    (hs : starEach [a, b, c] X.env = (false, eval a X.env) :: starEach [b, c] X.env := by rfl) (hpl : (backTo pos2 (starEach [b, c] X.env)).any (·.1) = false := by rfl)
    (na : starEach [.Call (.Name "range" p2) [a, b, c] [] pos2] X.env = (false, eval (.Call (.Name "range" p2) [a, b, c] [] pos2) X.env) :: starEach [] X.env := by rfl) :
    PD K mg X E (.Call (.Name "list" p1) [.Call (.Name "range" p2) [a, b, c] [] pos2] [] pos) (tLR3 ta) (fB gLR3 ga) := ⟨pe_listR3 hc hgL hmL hg hm ha.pe hs hpl na, fun S H σ ρ Q rl h => ha.sd S H σ ρ _ rl (h.bind fun ds vs S1 H1 x1 d1 h1 => by
    unfold gLR3 at h1
    split at h1
    · rename_i i j k
      split at h1
      · rename_i hz
        obtain ⟨v, w, u, rfl, hv, hw, hu⟩ := dvs3 d1
        cases hv
        cases hw
        cases hu
        exact ⟨i, j, k, rfl, hz, fun q hq => new_lst x1.sh (dvs_rgS i k _) h1 hq⟩
      · exact h1.elim
    · exact h1.elim)⟩
/-- list(range(a)), list(range(a, b)) -/
theorem dvs_rg {K : PySem.W.Frag} {S : Hp} (lo : Int) : ∀ l : List Nat, DVs K S (l.map fun (i : Nat) => V.int (lo + (i : Nat))) (l.map fun (i : Nat) => PyData.int (lo + (i : Int)))
  | [] => trivial
  | _ :: l => ⟨rfl, dvs_rg lo l⟩
def rng2Ok (a b : Int) : Bool := decide (-1000000 ≤ a) && decide (a ≤ 1000000) && decide (-1000000 ≤ b) && decide (b ≤ 1000000)
theorem rng2Ok.bd {a b : Int} (h : rng2Ok a b = true) : RgOk a b := by
  unfold rng2Ok at h
  simp only [Bool.and_eq_true, decide_eq_true_eq] at h
  have e : (2 : Int) ^ 62 = 4611686018427387904 := by decide
  exact ⟨by omega, by omega, by omega, by omega, by omega⟩
def gLR (a b : D) : Res D := match a, b with
  | .int i, .int j => if rng2Ok i j = true then .ok (.list (rngD i (j - i).toNat)) else .bad
  | _, _ => .bad
def fLR1 (f : DEnv → Res D) : DEnv → Res D := fun ρ => (f ρ).bind fun x => gLR (.int 0) x
variable {t1 t2 : TE} {f1 f2 : DEnv → Res D}
theorem pd_listR1 {p1 p2 pos2 : Pos} (hc : X.calm = true) (hgL : Gl X "list") (hmL : X.mg "list" = none) (hg : Gl X "range") (hm : X.mg "range" = none) (ha : PD K mg X E a t1 f1) (na : starEach [a] X.env = (false, eval a X.env) :: starEach [] X.env := by rfl)
    (nb : starEach [.Call (.Name "range" p2) [a] [] pos2] X.env = (false, eval (.Call (.Name "range" p2) [a] [] pos2) X.env) :: starEach [] X.env := by rfl) :
    PD K mg X E (.Call (.Name "list" p1) [.Call (.Name "range" p2) [a] [] pos2] [] pos) (tLstRg (tRg1 t1)) (fLR1 f1) := ⟨pe_listRg hc hgL hmL (prg_1 hg hm ha.pe na) nb, fun S H σ ρ Q rl h => ha.sd S H σ ρ _ rl (h.bind fun d v S1 H1 x1 d1 h1 => by
    unfold gLR at h1
    split at h1
    · rename_i i j e
      cases e
      split at h1
      · rename_i hz
        cases d1
        exact ⟨j, rfl, rng2Ok.bd hz, fun q hq => new_lst x1.sh (dvs_rg 0 _) h1 hq⟩
      · exact h1.elim
    · exact h1.elim)⟩
theorem pd_listR2 {p1 p2 pos2 : Pos} (hc : X.calm = true) (hgL : Gl X "list") (hmL : X.mg "list" = none) (hg : Gl X "range") (hm : X.mg "range" = none) (ha : PD K mg X E a t1 f1) (hb : PD K mg X E b t2 f2) (na : starEach [a, b] X.env = (false, eval a X.env) :: starEach [b] X.env := by rfl)
    (nb : starEach [b] X.env = (false, eval b X.env) :: starEach [] X.env := by rfl) (hp : (backTo pos2 (starEach [b] X.env)).any (·.1) = false := by rfl)
    (nc : starEach [.Call (.Name "range" p2) [a, b] [] pos2] X.env = (false, eval (.Call (.Name "range" p2) [a, b] [] pos2) X.env) :: starEach [] X.env := by rfl) :
    PD K mg X E (.Call (.Name "list" p1) [.Call (.Name "range" p2) [a, b] [] pos2] [] pos) (tLstRg (tRg2 t1 t2)) (fBin gLR f1 f2) := ⟨pe_listRg hc hgL hmL (prg_2 hg hm ha.pe hb.pe na nb hp) nc, fun S H σ ρ Q rl h => ha.sd S H σ ρ _ rl (h.bind fun d v S1 H1 x1 d1 h1 =>
    hb.sd S1 H1 σ ρ _ (rl.mono x1) (h1.bind fun d' v' S2 H2 x2 d2 h2 => by
    unfold gLR at h2
    split at h2
    · rename_i i j
      split at h2
      · rename_i hz
        cases d1
        cases d2
        exact ⟨i, j, rfl, rfl, rng2Ok.bd hz, fun q hq => new_lst x2.sh (dvs_rg i _) h2 hq⟩
      · exact h2.elim
    · exact h2.elim))⟩
end
end PD
namespace PD
open PySem L2
section
variable {K : PySem.W.Frag} {mg : Str → Option Value} {X : Cx} {E : XK} {a b c e : Expr} {ta tb tc : TE} {fa fb fc : DEnv → Res D} {pos : Pos}
theorem pd_chain {op op' : CmpOp} {r r' : R2} {g g' : D → D → Res D} (ho : OpR X (compareOp op) r) (ho' : OpR X (compareOp op') r') (hs : OpS K mg E r g) (hs' : OpS K mg E r' g') (ha : PD K mg X E a ta fa) (hb : PD K mg X E b tb fb) (hc : PD K mg X E c tc fc) (hm : lastMarks [op, op'] [b, c] = false := by with_unfolding_all rfl) :
    PD K mg X E (.Compare a [op, op'] [b, c] pos) (tChain r r' ta tb tc) (fChain g g' fa fb fc) := ⟨pe_chain ho ho' ha.pe hb.pe hc.pe hm, chain_sd hs hs' ha hb hc⟩
theorem td_chain {op op' : CmpOp} {r r' : R2} {g g' : D → D → Res D} (ho : OpR X (compareOp op) r) (ho' : OpR X (compareOp op') r') (hs : OpS K mg E r g) (hs' : OpS K mg E r' g') (ha : PD K mg X E a ta fa) (hb : PD K mg X E b tb fb) (hc : PD K mg X E c tc fc) (hm : lastMarks [op, op'] [b, c] = false := by with_unfolding_all rfl) :
    TD K mg X E (.Compare a [op, op'] [b, c] pos) (tTest (tChain r r' ta tb tc)) (fTest (fChain g g' fa fb fc)) := ⟨pt_chain ho ho' ha.pe hb.pe hc.pe hm, fun S H σ ρ Q rl h => by
  refine chain_sd hs hs' ha hb hc S H σ ρ _ rl (h.bind fun x v S1 H1 x1 d1 h1 => ?_)
  cases x with
  | bool k => exact ⟨k, d1, h1.ok0 x1.sh rfl⟩
  | _ => exact h1.elim⟩
/-- -e -/
def gNeg : D → Res D
  | .int i => .ok (.int (-i))
  | _ => .bad
def fUn (g : D → Res D) (f : DEnv → Res D) : DEnv → Res D := fun ρ => (f ρ).bind g
theorem pd_neg (ha : PD K mg X E a ta fa) : PD K mg X E (.UnaryOp .USub a pos) (tUn (rU fun i => .int (-i)) ta) (fUn gNeg fa) := ⟨pe_un un_neg ha.pe, fun S H σ ρ Q rl h => ha.sd S H σ ρ _ rl (h.bind fun d v S1 H1 x1 d1 h1 => by
  cases d with
  | int i => exact ⟨i, d1, h1.ok0 x1.sh rfl⟩
  | _ => exact h1.elim)⟩
/-- the module's constants -/
theorem pd_gint {x : Str} {i : Int} (h : ∃ t, X.mg x = some (.int i t)) (hg : Gl X x := by rfl) (hd : (x == ("__debug__" : Str)) = false := by decide) : PD K mg X E (.Name x pos) (tC (.int i)) (fC (.int i)) :=
  pd_c (by obtain ⟨t, h⟩ := h; exact pe_glob hg h ⟨t, rfl⟩ hd) fun _ => rfl
theorem pd_gstr {x : Str} {i : Str} (h : ∃ t, X.mg x = some (.str i t)) (hg : Gl X x := by rfl) (hd : (x == ("__debug__" : Str)) = false := by decide) : PD K mg X E (.Name x pos) (tC (.str i)) (fC (.str i)) :=
  pd_c (by obtain ⟨t, h⟩ := h; exact pe_glob hg h ⟨t, rfl⟩ hd) fun _ => rfl
theorem pd_gref {x : Str} {r : Addr} {d : D} (h : X.mg x = some (.ref r)) (hd' : ∀ S, DV K S (.ref r) d) (hg : Gl X x := by rfl) (hd : (x == ("__debug__" : Str)) = false := by decide) : PD K mg X E (.Name x pos) (tC (.ref r)) (fC d) :=
  pd_c (pe_glob hg h rfl hd) hd'
/-- a[::-1] -/
def gRev : D → Res D
  | .list xs => .ok (.list xs.reverse)
  | _ => .bad
theorem DVs.reverse {K : PySem.W.Frag} {S : Hp} : ∀ {vs : List V} {ds : List D}, DVs K S vs ds → DVs K S vs.reverse ds.reverse
  | [], [], _ => trivial
  | v :: vs, d :: ds, h => by
    rw [List.reverse_cons, List.reverse_cons]
    exact (DVs.reverse (vs := vs) (ds := ds) h.2).append ⟨h.1, trivial⟩
  | [], _ :: _, h => h.elim
  | _ :: _, [], h => h.elim
theorem pd_rev {k : Nat} {p1 p2 p3 : Pos} (ha : PD K mg X E a ta fa) (hK : X.K = K := by rfl) : PD K mg X E (.Subscript a (.Slice none none (some (.UnaryOp .USub (.Constant (.int 1) k p1) p2)) p3) pos) (tRevL K ta) (fUn gRev fa) := ⟨hK ▸ pe_revL ha.pe, fun S H σ ρ Q rl h => ha.sd S H σ ρ _ rl (h.bind fun d v S1 H1 x1 d1 h1 => by
  cases d with
  | list xs =>
    rw [DV] at d1
    obtain ⟨p, us, rfl, g1, g2⟩ := d1
    exact ⟨p, us, rfl, ls_sq (ls_mono x1.sh g1), fun q hq => new_lst x1.sh g2.reverse h1 hq⟩
  | _ => exact h1.elim)⟩
theorem sd_forI {tg iter : Expr} {body : List Stmt} {wi : TI} {g : TG} {tb : TS} {src : DEnv → Res (List D)} {is : List Nat} {hh : D → Option (List D)} {B : DEnv → SR} (hp : PassesOwn (model X.prog X.w) X.A X.env X.xe) (hc : X.calm = true) (hi : ID K mg X E tg iter wi src) (hg : GD K X tg g is hh) (hb : SDs K mg X E body tb B)
    (hs : ∀ x, foldedSetIterable iter X.env x = pure x := by intro _; rfl) : SD K mg X E (.For tg iter body [] pos) (tFor wi g tb) (sFor src is hh B) := sd_for hp hc hi hg hb (ps_for hp hc hi.pi hg.pg hb.ps hs)
/-- names as targets -/
theorem gn (i : Nat) {x : Str} (hN : X.N.Nodup) (hi : X.N[i]? = some x := by rfl) (hx : Loc X.env.scope x := by first | exact Or.inl rfl | exact Or.inr rfl) (hf : X.fn x = true ∨ X.env.scope.names.lookup x = some .local := by first | exact .inl rfl | exact .inr rfl) : PG X (.Name x pos) (gName i) := pg_name hN hi hx hf
end
section
variable {P : Program} {w : World} {K : PySem.W.Frag} {mg : Str → Option Value} {base : Heap} {N : List Str} {qual : Str} {scope : Scope} {f : Addr} {cdv : Value} {A : Around} {outer : List Env} {s : Shared} {H : Hp} {E : XK}
theorem tkX : Takes (cxOf (L2.CX P w) P w K mg base N qual scope f cdv A outer s H E) (fun cls d _ H => E cls d H) := takes_of rfl rfl rfl rfl
theorem pX : Passes (L2.CX P w) (cxOf (L2.CX P w) P w K mg base N qual scope f cdv A outer s H E) E := passes_call tkX (fun _ _ _ _ h => h)
theorem poX : PassesOwn (model P w) (cxOf (L2.CX P w) P w K mg base N qual scope f cdv A outer s H E).A (cxOf (L2.CX P w) P w K mg base N qual scope f cdv A outer s H E).env (cxOf (L2.CX P w) P w K mg base N qual scope f cdv A outer s H E).xe := passes_of (X := cxOf (L2.CX P w) P w K mg base N qual scope f cdv A outer s H E) rfl
end
end PD
namespace PD
open PySem L2
section
variable {K : PySem.W.Frag} {mg : Str → Option Value} {X : Cx} {E : XK} {e : Expr} {te : TE} {t : TA} {f : DEnv → Res D} {g : DEnv → Res (List Slot)} {pos : Pos}
/-! ### a list or a tuple, walked -/
def asSeq : D → Res (List D)
  | .list ds => .ok ds
  | .tuple ds => .ok ds
  | _ => .bad
def fSeq (f : DEnv → Res D) : DEnv → Res (List D) := fun ρ => (f ρ).bind asSeq
def iSeq (K : PySem.W.Frag) (tl : TE) : TI := fun σ H R => iList K tl σ H R ∨ iTup K tl σ H R
theorem id_seq {tg : Expr} (hl : PD K mg X E e te f) (hK : X.K = K := by rfl) : ID K mg X E tg e (iSeq K te) (fSeq f) := ⟨⟨hK ▸ fun pins s σ H R I h => h.elim (fun h => (pi_list hl.pe).run pins s σ H R I h) fun h => (pi_tup hl.pe).run pins s σ H R I h⟩, fun S H σ ρ R rl h => by
  unfold fSeq at h
  cases e1 : f ρ with
  | ok d =>
    cases d with
    | tuple ds =>
      refine .inr (hl.sd S H σ ρ _ rl ?_)
      rw [e1] at h ⊢
      intro v S1 H1 x1 d1
      rw [DV] at d1
      obtain ⟨a, us, rfl, g1, g2⟩ := d1
      exact ⟨a, rfl, ⟨us, same_t x1.sh g1.1⟩, PostG.ok h x1 (walks_tup g1.1 g2)⟩
    | list ds =>
      refine .inl (hl.sd S H σ ρ _ rl ?_)
      rw [e1] at h ⊢
      intro v S1 H1 x1 d1
      rw [DV] at d1
      obtain ⟨a, us, rfl, g1, g2⟩ := d1
      exact ⟨a, rfl, ⟨us, ls_sq (ls_mono x1.sh g1)⟩, PostG.ok h x1 (walks_list g1 g2)⟩
    | _ => rw [e1] at h; exact h.elim
  | err c =>
    refine .inl (hl.sd S H σ ρ _ rl ?_)
    rw [e1] at h ⊢
    exact h
  | bad => rw [e1] at h; exact h.elim⟩
/-! ### append, extend -/
section
variable {i : Nat} {x : Str} {p1 p2 p3 : Pos}
theorem sd_app' (m : Bool) (hv : PE X (.Name x p1) (tVar i)) (he : PD K mg X E e te f)
    (hbase : attributeBase (.Name x p1) "append" X.env (eval (.Name x p1) X.env) = eval (.Name x p1) X.env := by rfl)
    (hfew : ((backTo p3 (starEach [e] X.env)).all (fun x => !x.1) && (backToKw p3 (keywordEach [] X.env)).all (fun x => x.1.isSome) && decide ([e].length + ([] : List Keyword).length + (if ([] : List Keyword).isEmpty then 0 else 1) < 30)) = true := by rfl)
    (hline : (p2.endLine == p3.line) = true := by rfl) (hs : starEach [e] X.env = (false, eval e X.env) :: starEach [] X.env := by rfl) (hplain : (backTo p3 (starEach [] X.env)).any (·.1) = false := by rfl)
    (hw : swapsWith (.Call (.Attribute (.Name x p1) "append" p2) [e] [] p3) none pos.line X.env = pure false := by rfl) (hK : X.K = K := by rfl) : SD K mg X E (.Expr (.Call (.Attribute (.Name x p1) "append" p2) [e] [] p3) pos) (tDrop (tBM K "list" rAppend (tVar i) (tCons te tNil))) (sApp (if m = true then fBor f else f) i) :=
  ⟨hK ▸ ps_expr (pe_bm PySem.F.plainAttrs_list PySem.F.slot_list_append PySem.F.type_list_append mt_append hv (pa_cons he.pe pa_nil hs) hbase hfew hline hs hplain) hw, by
    cases m with
    | true => exact app_sd (use_bor he)
    | false => exact app_sd (use_plain he)⟩
theorem sd_ext' (m : Bool) (hv : PE X (.Name x p1) (tVar i)) (he : PD K mg X E e te f)
    (hbase : attributeBase (.Name x p1) "extend" X.env (eval (.Name x p1) X.env) = eval (.Name x p1) X.env := by rfl)
    (hfew : ((backTo p3 (starEach [e] X.env)).all (fun x => !x.1) && (backToKw p3 (keywordEach [] X.env)).all (fun x => x.1.isSome) && decide ([e].length + ([] : List Keyword).length + (if ([] : List Keyword).isEmpty then 0 else 1) < 30)) = true := by rfl)
    (hline : (p2.endLine == p3.line) = true := by rfl) (hs : starEach [e] X.env = (false, eval e X.env) :: starEach [] X.env := by rfl) (hplain : (backTo p3 (starEach [] X.env)).any (·.1) = false := by rfl)
    (hw : swapsWith (.Call (.Attribute (.Name x p1) "extend" p2) [e] [] p3) none pos.line X.env = pure false := by rfl) (hK : X.K = K := by rfl) : SD K mg X E (.Expr (.Call (.Attribute (.Name x p1) "extend" p2) [e] [] p3) pos) (tDrop (tBM K "list" (rExtR K) (tVar i) (tCons te tNil))) (sExt (if m = true then fBor f else f) i) :=
  ⟨hK ▸ ps_expr (pe_bm PySem.F.plainAttrs_list PySem.F.slot_list_extend PySem.F.type_list_extend (mt_extR rfl) hv (pa_cons he.pe pa_nil hs) hbase hfew hline hs hplain) hw, by
    cases m with
    | true => exact ext_sd (use_bor he)
    | false => exact ext_sd (use_plain he)⟩
end
/-! ### x, y = a, b -/
theorem sd_p2 {i j : Nat} {x y : Str} {a b : Expr} {px py pt : Pos} {kt k2 pt2} (hN : X.N.Nodup) (hz : ZD K mg X E [a, b] t g) (hc : X.calm = true := by rfl) (hi : X.N[i]? = some x := by rfl) (hj : X.N[j]? = some y := by rfl) (hij : i ≠ j := by decide)
    (hx : X.env.scope.names.lookup x = some .local := by rfl) (hy : X.env.scope.names.lookup y = some .local := by rfl) (hw : swappedStores [.Tuple [.Name x px, .Name y py] kt pt] (.Tuple [a, b] k2 pt2) X.env = pure (some [x, y]) := by rfl)
    (hs : swapsWithSole [.Tuple [.Name x px, .Name y py] kt pt] (.Tuple [a, b] k2 pt2) pos.line X.env = pure false := by rfl) : SD K mg X E (.Assign [.Tuple [.Name x px, .Name y py] kt pt] (.Tuple [a, b] k2 pt2) pos) (tPar i j t) (sPar g [i, j]) :=
  sd_par hz (ps_par hc hN hi hj hij hx hy hz.pe hw hs)
theorem sd_p3 {i j l : Nat} {x y z : Str} {a b c : Expr} {px py pz pt : Pos} {kt k2 pt2} (hN : X.N.Nodup) (hz : ZD K mg X E [a, b, c] t g) (hc : X.calm = true := by rfl) (hi : X.N[i]? = some x := by rfl) (hj : X.N[j]? = some y := by rfl) (hl : X.N[l]? = some z := by rfl) (hij : i ≠ j := by decide) (hil : i ≠ l := by decide) (hjl : j ≠ l := by decide)
    (hx : X.env.scope.names.lookup x = some .local := by rfl) (hy : X.env.scope.names.lookup y = some .local := by rfl) (hz' : X.env.scope.names.lookup z = some .local := by rfl) (hw : swappedStores [.Tuple [.Name x px, .Name y py, .Name z pz] kt pt] (.Tuple [a, b, c] k2 pt2) X.env = pure (some [x, y, z]) := by rfl)
    (hs : swapsWithSole [.Tuple [.Name x px, .Name y py, .Name z pz] kt pt] (.Tuple [a, b, c] k2 pt2) pos.line X.env = pure false := by rfl) : SD K mg X E (.Assign [.Tuple [.Name x px, .Name y py, .Name z pz] kt pt] (.Tuple [a, b, c] k2 pt2) pos) (tPar3 i j l t) (sPar g [i, j, l]) :=
  sd_par3 hz (ps_par3 hc hN hi hj hl hij hil hjl hx hy hz' hz.pe hw hs)
/-! ### names of the builtins -/
theorem bt_len : bootBuiltins "len" = some (.builtin "len") := by decide +kernel
theorem bt_abs : bootBuiltins "abs" = some (.builtin "abs") := by decide +kernel
theorem bt_max : bootBuiltins "max" = some (.builtin "max") := by decide +kernel
theorem bt_min : bootBuiltins "min" = some (.builtin "min") := by decide +kernel
theorem bt_all : bootBuiltins "all" = some (.builtin "all") := by decide +kernel
theorem bt_any : bootBuiltins "any" = some (.builtin "any") := by decide +kernel
theorem bt_sum : bootBuiltins "sum" = some (.builtin "sum") := by decide +kernel
theorem bt_isinstance : bootBuiltins "isinstance" = some (.builtin "isinstance") := by decide +kernel
theorem bt_sorted : bootBuiltins "sorted" = some (.builtin "sorted") := by decide +kernel
theorem bt_list : bootBuiltins "list" = some (.type "list") := by decide +kernel
theorem bt_tuple : bootBuiltins "tuple" = some (.type "tuple") := by decide +kernel
theorem bt_int : bootBuiltins "int" = some (.type "int") := by decide +kernel
theorem bt_bool : bootBuiltins "bool" = some (.type "bool") := by decide +kernel
theorem bt_str : bootBuiltins "str" = some (.type "str") := by decide +kernel
theorem bt_range : bootBuiltins "range" = some (.type "range") := by decide +kernel
theorem bt_zip : bootBuiltins "zip" = some (.type "zip") := by decide +kernel
theorem bt_enumerate : bootBuiltins "enumerate" = some (.type "enumerate") := by decide +kernel
theorem bt_set : bootBuiltins "set" = some (.type "set") := by decide +kernel
theorem bt_dict : bootBuiltins "dict" = some (.type "dict") := by decide +kernel
/-! ### the law's own end -/
def spLaw (K : PySem.W.Frag) (mg : Str → Option Value) (F : List D → Res D) : Sp := spD K mg 1 F
end
end PD
namespace PD
open PySem L2
theorem dvs_ints {K : PySem.W.Frag} {S : Hp} : ∀ ns : List Int, DVs K S (ns.map V.int) (ns.map PyData.int)
  | [] => trivial
  | _ :: ns => ⟨rfl, dvs_ints ns⟩
theorem script_at {K : PySem.W.Frag} {H : Hp} {h : Heap} {a : Addr} {xs : List V} {vs : List Value} (KX : K.In h) (ho : h.get? a = some { cls := .type "list", data := .seq vs.toArray }) (hS : SqL K H a xs) : LsAt K H a xs := by
  rcases hS with h1 | ⟨o, its, n, hk, _, _, hd, hz, r⟩
  · exact .inl h1
  · have e := KX a o hk
    rw [ho] at e
    have e := Option.some.inj e
    subst e
    injection hd with e1 _
    subst e1
    exact .inr ⟨vs, 0, hk, by simpa using hz, by simpa using r⟩
/-- a law whose def computes F: True at every script -/
theorem walkD {l : PySem.W.OpenLaw} {k : Nat} {q : Program} {loose : List Str} {XP : (Str → Option Value) → Heap → Prop} {YP : World → Heap → Prop} {d : DefRec} {K : Params → PySem.W.Frag} {F : List D → Res D} (hn : l.most = some 63) (hdf : d.params.defaults = []) (hr : Room k callerA)
    (hY : ∀ (w : World) (h : Heap), YP w h → (K w.params).In h)
    (hF : ∀ (w : World) (mg : Str → Option Value) (fa : Addr) (h : Heap), (K w.params).In h → h.Ns mainGlobals mg → mg d.name = some (.ref fa) → ∃ fd : FuncData, (∀ (s : Shared) (u : Value), BindsTo s fd ⟨[u], []⟩ [("script", u)]) ∧
      ∀ base : Heap, (K w.params).In base → base.Ns mainGlobals mg → FnOk l.prog w (K w.params) mg base (L2.CX l.prog w) k fa fd ["script"] (spD (K w.params) mg 1 F))
    (ht : ∀ ns : List Int, ns.length ≤ 63 → F [.list (ns.map PyData.int)] = .ok (.bool true)) : PySem.W.WalkO q loose XP YP l.row.toRowW d [] (fun f vs => PySem.call f vs) := by
  refine Att.attach_call hn hdf fun w s0 s1 mg mb fa o pm cd doc a vs ns G Y ho hd hcd hmg hobj hints hlen hg => ?_
  have KX := hY w _ Y
  obtain ⟨fd, hb, hG⟩ := hF w mg fa _ KX G.T.g hmg
  refine law_call KX G.T.g G.T.b G.T.builtins G.T.nolimit hg hobj hints (Nat.le_trans hlen (by decide)) hr hG hb (fun H hO hS => ?_) (fun H e s' c => ?_)
  · refine ⟨H, [.list (ns.map PyData.int)], Same.refl _, ⟨⟨a, ns.map V.int, rfl, script_at KX hobj hS, dvs_ints ns⟩, trivial⟩, rfl, ?_⟩
    rw [ht ns hlen]
    exact fun v S' H' _ dv => dv
  · obtain ⟨_, _, _, _, _, _, _, _, _, _, _, _, z⟩ := c
    exact z.elim
/-- a constant tuple of the written part -/
theorem dv_written {K : PySem.W.Frag} {S : Hp} {a : Addr} {o : Obj} {its : Array Value} {n : Nat} {vs : List V} {ds : List D} (hk : K.lookup a = some o) (hc : o.cls = .type "tuple") (hd : o.data = .seq its n) (hz : its.size ≤ sizeLine) (hv : Vals vs its.toList) (dv : DVs K S vs ds) (hkt : keyT ds = false := by rfl) : DV K S (.ref a) (.tuple ds) := ⟨a, vs, rfl, ⟨.inr ⟨o, its, n, hk, hc, hd, hz, hv⟩, fun z => by rw [hkt] at z; cases z⟩, dv⟩
end PD
namespace PD
open PySem L2
theorem hV {k : Nat} {A : Around} (r : Room k A) : A.units + 70 < cLine := by have := r.un; omega
/-! ### data in order: x < y, min, sorted -/
def allAl (ds : List D) : Bool := ds.all fun x => ds.all fun y => PySem.W.alike x y
def noNone (ds : List D) : Bool := ds.all fun x => !isNone x
def ordOk (ds : List D) : Bool := allAl ds && noNone ds && SeqAt.shaped (.list ds)
theorem allAl_iff {ds : List D} : allAl ds = true ↔ ∀ x ∈ ds, ∀ y ∈ ds, PySem.W.alike x y = true := by
  unfold allAl
  simp only [List.all_eq_true]
theorem noNone_ne {ds : List D} (h : noNone ds = true) : ∀ x ∈ ds, x ≠ PyData.none := fun x hx e => by
  unfold noNone at h
  have := List.all_eq_true.mp h x hx
  subst e
  cases this
def rMinD (K : PySem.W.Frag) : List V → Hp → VK → Prop := fun vs H Q => ∃ (a : Addr) (xs : List V) (d : D) (ds : List D), vs = [.ref a] ∧ SqL K H a xs ∧ DpAll K H xs (d :: ds) ∧ PySem.W.AlikeAll (d :: ds) ∧ PyData.depthAll (d :: ds) ≤ 63 ∧
  ∀ (i : Nat) (x : V), xs[i]? = some x → (d :: ds)[i]? = some (PySem.W.minD d ds) → Q x H
theorem minD_mem (d : D) : ∀ ds : List D, PySem.W.minD d ds ∈ d :: ds := by
  intro ds
  unfold PySem.W.minD
  induction ds generalizing d with
  | nil => exact List.mem_cons_self
  | cons e ds ih =>
    rw [List.foldl_cons]
    split
    · exact List.mem_cons_of_mem _ (ih e)
    · rcases List.mem_cons.mp (ih d) with q | q
      · rw [q]; exact List.mem_cons_self
      · exact List.mem_cons_of_mem _ (List.mem_cons_of_mem _ q)
theorem vals_back' : ∀ {xs : List V} {us : List Value} {i : Nat} {u : Value}, Vals xs us → us[i]? = some u → ∃ x, xs[i]? = some x ∧ RelV x u := fun {xs us i u} r e => by
  have hl := r.length
  have hi : i < us.length := by
    rcases Nat.lt_or_ge i us.length with h | h
    · exact h
    · rw [List.getElem?_eq_none h] at e; cases e
  have hx : xs[i]? = some xs[i] := List.getElem?_eq_getElem (by omega)
  obtain ⟨u', e', rv⟩ := r.get hx
  rw [e] at e'
  cases e'
  exact ⟨_, hx, rv⟩
section
variable {K : PySem.W.Frag} {mg : Str → Option Value} {X : Cx} {E : XK}
theorem c_minD (hc : X.calm = true) (hu : X.A.units + 70 < cLine) (hK : X.K = K := by rfl) : CallR X (.builtin "min") (rMinD K) := by
  subst hK
  intro pins s σ H vs us Q I r h
  obtain ⟨a, xs, d, ds, rfl, hs, hd, ha, hz, q⟩ := h
  obtain ⟨its, rv, hl, _⟩ := I.list hs
  rw [Vals.ref1 r]
  obtain ⟨as, hr⟩ := Dp.readsAll I (d :: ds) xs its hd rv
  have hr' : PySem.ReadsAll s.heap its.toArray.toList (d :: ds) as := by simpa using hr
  refine PySem.W.min_list_data (I.ok.hd hc) hl.isList hr' ha (by omega) fun i v h' tk bs hv hrd hk => ?_
  have hv' : its[i]? = some v := by simpa using hv
  obtain ⟨x, hx, rvx⟩ := vals_back' rv hv'
  obtain ⟨cs, hrd2, hi, hm, _⟩ := PySem.W.readsAll_atA hr' i v hv
  have e : (d :: ds).getD i .none = PySem.W.minD d ds := PySem.W.alike_unique _ _ v _ _ (ha.1 _ hm _ (minD_mem d ds)) (PySem.W.reads_keeps hk hrd2) hrd
  refine ⟨x, H, I.kept hk, rvx, q i x hx ?_⟩
  rw [← e, List.getD_eq_getElem?_getD, List.getElem?_eq_getElem hi]
  rfl
def gMinD : List D → Res D
  | [.list (d :: ds)] => if ordOk (d :: ds) = true then .ok (PySem.W.minD d ds) else .bad
  | _ => .bad
theorem ord_parts {ds : List D} (h : ordOk ds = true) : PySem.W.AlikeAll ds ∧ PyData.canLayAll0 ds = true ∧ PyData.depthAll ds ≤ 63 := by
  unfold ordOk at h
  obtain ⟨h, h3⟩ := and_split h
  obtain ⟨h1, h2⟩ := and_split h
  refine ⟨⟨allAl_iff.mp h1, noNone_ne h2⟩, ?_⟩
  have h4 : (PyData.canLayAll0 ds && decide (PyData.depthAll ds + 1 ≤ 64)) = true := h3
  obtain ⟨h5, h6⟩ := and_split h4
  exact ⟨h5, by have := of_decide_eq_true h6; omega⟩
theorem cs_minD : CaS K mg E (rMinD K) gMinD := fun S H xs ds Q sh dv h => by
  unfold gMinD at h
  split at h
  · rename_i d es
    obtain ⟨v, rfl, hv⟩ := dvs1 dv
    rw [DV] at hv
    obtain ⟨a, us, rfl, h1, h2⟩ := hv
    split at h
    · rename_i ho
      obtain ⟨o1, o2, o3⟩ := ord_parts ho
      refine ⟨a, us, d, es, rfl, ls_sq (ls_mono sh h1), DVs.dp sh _ _ o2 h2, o1, o3, fun i x hx hd => ?_⟩
      obtain ⟨w, hw, dw⟩ := h2.get hd
      rw [hx] at hw
      cases hw
      exact h.ok0 sh dw
    · exact h.elim
  · exact h.elim
/-! sorted -/
def sortOk (ds : List D) : Bool := ordOk ds && ((ds.all fun d => match d with | .tuple (_ :: _) => true | _ => false) || (ds.all fun d => match d with | .tuple _ => false | _ => true)) && lenOk ds.length
def rSortD (K : PySem.W.Frag) : List V → Hp → VK → Prop := fun vs H Q => ∃ (a : Addr) (xs : List V) (ds : List D), vs = [.ref a] ∧ SqL K H a xs ∧ DpAll K H xs ds ∧ sortOk ds = true ∧
  ∀ p, H p = none → Q (.ref p) (upd H p (.lst (((xs.zip ds).mergeSort (PySem.W.dataLe false Prod.snd)).map Prod.fst)))
theorem sort_parts {ds : List D} (h : sortOk ds = true) : ordOk ds = true ∧ PySem.W.Sortable ds ∧ ds.length ≤ 1000000 := by
  unfold sortOk at h
  obtain ⟨h, h3⟩ := and_split h
  obtain ⟨h1, h2⟩ := and_split h
  refine ⟨h1, ?_, of_decide_eq_true h3⟩
  obtain ⟨o, _⟩ := ord_parts h1
  rw [Bool.or_eq_true] at h2
  rcases h2 with h2 | h2
  · refine .inl fun d hd => ?_
    have := List.all_eq_true.mp h2 d hd
    match d, this with
    | .tuple (x :: r), _ => exact ⟨x, r, rfl⟩
  · refine .inr fun d hd => ⟨o.2 d hd, fun xs e => ?_⟩
    have := List.all_eq_true.mp h2 d hd
    subst e
    cases this
theorem zip_snd : ∀ {α β : Type} {xs : List α} {ys : List β}, xs.length = ys.length → (xs.zip ys).map Prod.snd = ys
  | _, _, [], [], _ => rfl
  | _, _, x :: xs, y :: ys, h => by
    show y :: (xs.zip ys).map Prod.snd = _
    rw [zip_snd (by simpa using h)]
theorem dpAll_len {H : Hp} : ∀ {xs : List V} {ds : List D}, DpAll K H xs ds → xs.length = ds.length
  | _, _, .nil => rfl
  | _, _, .cons _ h => congrArg (· + 1) (dpAll_len h)
theorem each_zip {R : Value → V × D → Prop} : ∀ {xs : List V} {us : List Value} {ds : List D}, Vals xs us → xs.length = ds.length → (∀ u x d, RelV x u → (x, d) ∈ xs.zip ds → R u (x, d)) → PySem.W.EachIs R us (xs.zip ds)
  | [], us, ds, r, hl, _ => by
    rw [Vals.zero r]
    cases ds with
    | nil => exact .nil
    | cons _ _ => cases hl
  | x :: xs, us, ds, r, hl, h => by
    cases us with
    | nil => exact absurd r.length (by simp)
    | cons u us =>
      cases ds with
      | nil => cases hl
      | cons d ds =>
        obtain ⟨r1, r2⟩ : RelV x u ∧ Vals xs us := by cases r with | cons a b => exact ⟨a, b⟩
        exact .cons (h u x d r1 List.mem_cons_self) (each_zip (ds := ds) r2 (by simpa using hl) fun u' x' d' rv hm => h u' x' d' rv (List.mem_cons_of_mem _ hm))
theorem dp_zip {H : Hp} : ∀ {xs : List V} {ds : List D}, DpAll K H xs ds → ∀ {x : V} {d : D}, (x, d) ∈ xs.zip ds → Dp K H x d
  | _, _, .nil, _, _, h => absurd h List.not_mem_nil
  | _, _, .cons h1 h2, x, d, h => by
    rcases List.mem_cons.mp h with e | e
    · cases e; exact h1
    · exact dp_zip h2 e
theorem vals_each : ∀ {bs : List (V × D)} {out : List Value}, PySem.W.EachIs (fun u (b : V × D) => RelV b.1 u) out bs → Vals (bs.map Prod.fst) out
  | _, _, .nil => .nil
  | _, _, .cons h1 h2 => .cons h1 (vals_each h2)
theorem depth_mem : ∀ {ds : List D} {d : D}, d ∈ ds → d.depth ≤ PyData.depthAll ds
  | [], _, h => absurd h List.not_mem_nil
  | e :: ds, d, h => by
    show d.depth ≤ max e.depth (PyData.depthAll ds)
    rcases List.mem_cons.mp h with q | q
    · rw [q]; omega
    · have := depth_mem q; omega
theorem c_sortD (hu : X.A.units + 70 < cLine) (hK : X.K = K := by rfl) : CallR X (.builtin "sorted") (rSortD K) := by
  subst hK
  intro pins s σ H vs us Q I r h
  obtain ⟨a, xs, ds, rfl, hs, hd, ho, q⟩ := h
  obtain ⟨its, rv, hl, hzl⟩ := I.list hs
  rw [Vals.ref1 r]
  have hlen := dpAll_len hd
  obtain ⟨o1, o2, o3⟩ := sort_parts ho
  obtain ⟨p1, p2, p3⟩ := ord_parts o1
  have hz := zip_snd hlen
  have hzn : (xs.zip ds).length = xs.length := by rw [List.length_zip]; omega
  have e : PySem.W.EachIs (fun u (b : V × D) => RelV b.1 u) its (xs.zip ds) := each_zip rv hlen fun u x d h _ => h
  have er : PySem.W.EachIs (fun u (b : V × D) => ∃ as, Reads s.heap u (Prod.snd b) as) its (xs.zip ds) := each_zip rv hlen fun u x d h hm => Dp.reads I d x u (dp_zip hd hm) h
  refine PySem.W.sorted_data (enc := Prod.snd) (R := fun u (b : V × D) => RelV b.1 u) hl.isList e er (by rw [hz]; exact p1.1) (by rw [hz]; exact o2) (by rw [hzn]; exact hzl) (fun b hb => ?_) fun out hol eo => ?_
  · have hb2 : b.2 ∈ ds := by rw [← hz]; exact List.mem_map_of_mem hb
    have := depth_mem hb2
    omega
  · obtain ⟨ep, he'⟩ := PyProof.Rows.sortedAll_at s.heap its out.toArray
    have hv := vals_each eo
    have hle : (((xs.zip ds).mergeSort (PySem.W.dataLe false Prod.snd)).map Prod.fst).length ≤ sizeLine := by rw [List.length_map, List.length_mergeSort, hzn]; exact hzl
    exact ⟨.ref _, upd H (s.heap.objs.size + 1) (.lst _), I.laid (t' := s.toks) (fun _ _ => PyProof.Rows.sortedAll_old) (Nat.le_succ _) ⟨hle, out, ep, hv, by simpa using he'⟩, rfl, q _ (I.hok.fresh (Nat.le_succ _))⟩
def gSortD : List D → Res D
  | [.list ds] => if sortOk ds = true then .ok (.list (ds.mergeSort (PySem.W.dataLe false id))) else .bad
  | _ => .bad
theorem dvs_len {S : Hp} : ∀ {vs : List V} {ds : List D}, DVs K S vs ds → vs.length = ds.length
  | [], [], _ => rfl
  | _ :: vs, _ :: ds, h => congrArg (· + 1) (dvs_len (vs := vs) (ds := ds) h.2)
  | [], _ :: _, h => h.elim
  | _ :: _, [], h => h.elim
theorem dvs_zip {S : Hp} : ∀ {vs : List V} {ds : List D}, DVs K S vs ds → ∀ b ∈ vs.zip ds, DV K S b.1 b.2
  | [], [], _, _, h => absurd h List.not_mem_nil
  | v :: vs, d :: ds, h, b, hb => by
    rcases List.mem_cons.mp hb with e | e
    · rw [e]; exact h.1
    · exact dvs_zip (vs := vs) (ds := ds) h.2 b e
  | [], _ :: _, h, _, _ => h.elim
  | _ :: _, [], h, _, _ => h.elim
theorem dvs_unzip {S : Hp} : ∀ {bs : List (V × D)}, (∀ b ∈ bs, DV K S b.1 b.2) → DVs K S (bs.map Prod.fst) (bs.map Prod.snd)
  | [], _ => trivial
  | b :: bs, h => ⟨h b List.mem_cons_self, dvs_unzip fun c hc => h c (List.mem_cons_of_mem _ hc)⟩
theorem cs_sortD : CaS K mg E (rSortD K) gSortD := fun S H xs ds Q sh dv h => by
  unfold gSortD at h
  split at h
  · rename_i es
    obtain ⟨v, rfl, hv⟩ := dvs1 dv
    rw [DV] at hv
    obtain ⟨a, us, rfl, h1, h2⟩ := hv
    split at h
    · rename_i ho
      obtain ⟨o1, _, _⟩ := sort_parts ho
      obtain ⟨_, p2, _⟩ := ord_parts o1
      have hl := dvs_len h2
      have em : ((us.zip es).mergeSort (PySem.W.dataLe false Prod.snd)).map Prod.snd = es.mergeSort (PySem.W.dataLe false id) := by
        rw [List.map_mergeSort (r := PySem.W.dataLe false Prod.snd) (s := PySem.W.dataLe false id) (f := Prod.snd) (fun a _ b _ => rfl), zip_snd hl]
      refine ⟨a, us, es, rfl, ls_sq (ls_mono sh h1), DVs.dp sh _ _ p2 h2, ho, fun p hp => ?_⟩
      rw [← em] at h
      exact new_lst sh (dvs_unzip fun b hb => dvs_zip h2 b (List.mem_mergeSort.mp hb)) h hp
    · exact h.elim
  · exact h.elim
/-! x < y -/
def rLtD (K : PySem.W.Frag) : R2 := fun x y H Q => ∃ d e, Dp K H x d ∧ Dp K H y e ∧ SeqAt.shaped d = true ∧ SeqAt.shaped e = true ∧ PySem.W.alike d e = true ∧ d ≠ .none ∧ Q (.bl (PySem.W.dataLt d e)) H
theorem op_ltD (hu : X.A.units + 70 < cLine) (hK : X.K = K := by rfl) : OpR X (compareOp .Lt) (rLtD K) := by
  subst hK
  intro pins s σ H x y v u Q I rx ry h
  obtain ⟨d, e, hd, he, sd, se, al, hn, q⟩ := h
  obtain ⟨as, r1⟩ := Dp.reads I d x v hd rx
  obtain ⟨bs, r2⟩ := Dp.reads I e y u he ry
  have hdp : d.depth ≤ 64 := by
    unfold SeqAt.shaped at sd
    exact of_decide_eq_true (and_split sd).2
  have := Nat.min_le_left d.depth e.depth
  exact PySem.W.rcLt_alike d e X.A s v u as bs r1 r2 al hn (by omega) _ _ _ _ ⟨.bl _, H, I, rfl, q⟩
def gLtD (a b : D) : Res D := if (SeqAt.shaped a && SeqAt.shaped b && PySem.W.alike a b && !isNone a) = true then .ok (.bool (PySem.W.dataLt a b)) else .bad
theorem os_ltD : OpS K mg E (rLtD K) gLtD := fun S H x y a b Q sh dx dy h => by
  unfold gLtD at h
  split at h
  · rename_i c
    obtain ⟨c, c4⟩ := and_split c
    obtain ⟨c, c3⟩ := and_split c
    obtain ⟨c1, c2⟩ := and_split c
    exact ⟨a, b, dp_of sh c1 dx, dp_of sh c2 dy, c1, c2, c3, (fun e => by subst e; cases c4), h.ok0 sh rfl⟩
  · exact h.elim
end
end PD
namespace PD
open PySem L2
theorem foldl_repA (its : List Value) : ∀ (m : Nat) (acc : List Value), List.foldl (fun (x1 x2 : Array Value) => x1 ++ x2) acc.toArray (List.replicate m its.toArray) = (acc ++ (List.replicate m its).flatten).toArray
  | 0, acc => by simp
  | m + 1, acc => by
    rw [List.replicate_succ, List.foldl_cons, List.replicate_succ, List.flatten_cons]
    have e : acc.toArray ++ its.toArray = (acc ++ its).toArray := by simp
    rw [e, foldl_repA its m, List.append_assoc]
section
variable {K : PySem.W.Frag} {mg : Str → Option Value} {X : Cx} {E : XK} {e o : Expr} {te to : TE} {f fo : DEnv → Res D} {pos : Pos}
/-! ### xs * n, of lists and tuples -/
def rRepL (K : PySem.W.Frag) : R2 := fun x y H Q => ∃ l k xs, x = .ref l ∧ y = .int k ∧ LsAt K H l xs ∧ 0 ≤ k ∧ k ≤ 1000 ∧ xs.length ≤ 1000 ∧ ∀ p, H p = none → Q (.ref p) (upd H p (.lst (List.replicate k.toNat xs).flatten))
theorem op_repL : OpR X (binaryOp .Mult) (rRepL X.K) := by
  intro pins s σ H x y v u Q I rx ry h
  obtain ⟨l, k, xs, rfl, rfl, hH, h1, h2, hz, q⟩ := h
  cases rx
  obtain ⟨t, rfl⟩ := ry
  obtain ⟨its, n, r, hl, e⟩ := rd_lst I hH
  have hb : xs.length * k.toNat ≤ 1000000 := by
    have : xs.length * k.toNat ≤ 1000 * 1000 := Nat.mul_le_mul hz (by omega)
    omega
  have hlen : its.toArray.size * k.toNat ≤ sizeLine := by rw [List.size_toArray, ← hl, sizeLine_eq]; omega
  have hcap : ¬ its.toArray.size * k.toNat > (2 ^ 63 - 1) / 8 := by
    have : (sizeLine : Nat) ≤ (2 ^ 63 - 1) / 8 := by decide
    omega
  have hfit : ¬ (!Builtin.List.listFitsIndex k) = true := by
    rw [fitsIndex_both (by omega) (by omega)]
    exact Bool.false_ne_true
  have hlong : ¬ Builtin.List.listTooLong (its.toArray.size * k.toNat) = true := by
    rw [notLongL hlen]
    exact Bool.false_ne_true
  have hnew : List.foldl (fun x1 x2 => x1 ++ x2) #[] (List.replicate (if its.toArray.isEmpty = true then 0 else k.toNat) its.toArray) = (List.replicate k.toNat its).flatten.toArray := by
    have f0 : ∀ m : Nat, List.foldl (fun x1 x2 => x1 ++ x2) #[] (List.replicate m its.toArray) = (List.replicate m its).flatten.toArray := fun m => by
      have := foldl_repA its m []
      rw [List.nil_append] at this
      exact this
    rw [f0]
    cases its with
    | nil => simp
    | cons a r' => rw [if_neg (by simp)]
  refine wpAny_binaryOp_repeat_ref (T := "list") (U := "int") (by decide) ⟨_, e, rfl⟩ (fun s' => typeIs_int s' k t) noFill_list_mul F.fills_int_mul F.slot_int_rmul repeat_list F.slot_int_index.lookup
    (call_meets F.slot_int_rmul (typeIs_int s k t) F.entry_int_rmul (F.args_int_rmul_2 _ _) (int___rmul___int_list k t l its.toArray n)
      ⟨e, rfl, ⟨_, e, rfl⟩, call_meets F.slot_list_mul ⟨_, e, rfl⟩ F.entry_list_mul (F.args_list_mul_2 _ _) (AutoListH.list___mul___list_int_3 l its.toArray n k t hfit hcap hlong) ⟨e, ?_⟩⟩)
  rw [hnew]
  exact ⟨.ref _, _, I.lnew (t' := s.toks) (r.rep k.toNat) (by rw [PyProof.Rows.lm_len_rep_flat, Nat.mul_comm, sizeLine_eq]; omega), rfl, q _ I.fresh⟩
theorem DVs.rep {K : PySem.W.Frag} {S : Hp} {vs : List V} {ds : List D} (h : DVs K S vs ds) : ∀ n : Nat, DVs K S (List.replicate n vs).flatten (List.replicate n ds).flatten
  | 0 => trivial
  | n + 1 => by
    rw [List.replicate_succ, List.replicate_succ, List.flatten_cons, List.flatten_cons]
    exact h.append (DVs.rep h n)
def rRepA (K : PySem.W.Frag) : R2 := fun x y H Q => rRepL K x y H Q ∨ rRepT K x y H Q
theorem op_repA (hK : X.K = K := by rfl) : OpR X (binaryOp .Mult) (rRepA K) := by subst hK; exact op_repL.or op_repT
def gRep : D → D → Res D
  | .list xs, .int k => if (decide (0 ≤ k) && decide (k ≤ 1000) && decide (xs.length ≤ 1000)) = true then .ok (.list (List.replicate k.toNat xs).flatten) else .bad
  | .tuple xs, .int k => if (decide (2 ≤ k) && decide (k ≤ 1000) && decide (xs.length ≤ 1000) && decide (xs.length ≠ 0)) = true then .ok (.tuple (List.replicate k.toNat xs).flatten) else .bad
  | _, _ => .bad
theorem os_rep : OpS K mg E (rRepA K) gRep := fun S H x y a b Q sh dx dy h => by
  unfold gRep at h
  split at h
  · rename_i xs k
    split at h
    · rename_i c
      simp only [Bool.and_eq_true, decide_eq_true_eq] at c
      rw [DV] at dx
      obtain ⟨p, us, rfl, h1, h2⟩ := dx
      exact .inl ⟨p, k, us, rfl, dy, ls_mono sh h1, c.1.1, c.1.2, by rw [h2.length]; exact c.2, fun n hn => new_lst sh (h2.rep _) h hn⟩
    · exact h.elim
  · rename_i xs k
    split at h
    · rename_i c
      simp only [Bool.and_eq_true, decide_eq_true_eq] at c
      rw [DV] at dx
      obtain ⟨p, us, rfl, h1, h2⟩ := dx
      refine .inr ⟨p, k, us, rfl, dy, same_t sh h1.1, fun e => ?_, c.1.1.1, c.1.1.2, by rw [h2.length]; exact c.1.2, fun n hn => new_tup sh (h2.rep _) h hn⟩
      have := h2.length
      rw [e] at this
      exact c.2 this.symm
    · exact h.elim
  · exact h.elim
/-! ### str(int) -/
def strOk (i : Int) : Bool := decide (-1000000000000 ≤ i) && decide (i ≤ 1000000000000)
def gStr : List D → Res D
  | [.int i] => if strOk i = true then .ok (.str (toString i)) else .bad
  | _ => .bad
theorem cs_str : CaS K mg E (fun xs H Q => ∃ i, xs = [.int i] ∧ i.natAbs.log2 < 1920 ∧ Q (.str (toString i)) H) gStr := fun S H xs ds Q sh dv h => by
  unfold gStr at h
  split at h
  · rename_i i
    split at h
    · rename_i hz
      obtain ⟨v, rfl, hv⟩ := dvs1 dv
      cases hv
      refine ⟨_, rfl, ?_, h.ok0 sh rfl⟩
      simp only [strOk, Bool.and_eq_true, decide_eq_true_eq] at hz
      have hb : i.natAbs < 2 ^ 64 := by omega
      by_cases h0 : i.natAbs = 0
      · rw [h0]; decide
      · exact Nat.lt_trans ((Nat.log2_lt h0).mpr hb) (by decide)
    · exact h.elim
  · exact h.elim
/-! ### xs.index(y), xs a list -/
def idxD (ds : List D) (d : D) : Option Nat := ds.findIdx? fun z => PyData.eqv z d
def gIndex (ds : List D) (b : D) : Res D := if (SeqAt.shaped (.list ds) && SeqAt.shaped b) = true then (match idxD ds b with
    | some j => .ok (.int (j : Nat))
    | none => .bad) else .bad
/-- a method of a list with one argument -/
def fLM (g : List D → D → Res D) (fo f : DEnv → Res D) : DEnv → Res D := fun ρ => ((fo ρ).bind asList).bind fun ds => (f ρ).bind fun b => g ds b
theorem pd_index {apos : Pos} (hu : X.A.units + 65 < cLine) (ho : PD K mg X E o to fo) (he : PD K mg X E e te f)
    (hbase : attributeBase o "index" X.env (eval o X.env) = eval o X.env := by rfl)
    (hfew : ((backTo pos (starEach [e] X.env)).all (fun x => !x.1) && (backToKw pos (keywordEach [] X.env)).all (fun x => x.1.isSome) && decide ([e].length + ([] : List Keyword).length + (if ([] : List Keyword).isEmpty then 0 else 1) < 30)) = true := by rfl)
    (hline : (apos.endLine == pos.line) = true := by rfl) (hs : starEach [e] X.env = (false, eval e X.env) :: starEach [] X.env := by rfl) (hplain : (backTo pos (starEach [] X.env)).any (·.1) = false := by rfl) (hK : X.K = K := by rfl) :
    PD K mg X E (.Call (.Attribute o "index" apos) [e] [] pos) (tBM K "list" (rIndexD K) to (tCons te tNil)) (fLM gIndex fo f) :=
  ⟨hK ▸ pe_bm PySem.F.plainAttrs_list PySem.F.slot_list_index PySem.F.type_list_index (mt_indexD hu) ho.pe (pa_cons he.pe pa_nil hs) hbase hfew hline hs hplain, fun S H σ ρ Q rl h => by
    have h : PostG mg E S H (DV K) ((fo ρ).bind fun d => (asList d).bind fun ds => (f ρ).bind fun b => gIndex ds b) Q := by
      unfold fLM at h
      cases eo : fo ρ <;> (rw [eo] at h; exact h)
    refine ho.sd S H σ ρ _ rl (h.bind fun d v S1 H1 x1 d1 h1 => ?_)
    cases d with
    | list ds =>
      have d1' := d1
      rw [DV] at d1
      obtain ⟨a, us, rfl, g1, g2⟩ := d1
      refine ⟨.inl ⟨rfl, us, ls_sq (ls_mono x1.sh g1)⟩, ?_⟩
      have h1 : PostG mg E S1 H1 (DV K) ((f ρ).bind fun b => gIndex ds b) Q := h1
      refine he.sd S1 H1 σ ρ _ (rl.mono x1) (h1.bind fun b w S2 H2 x2 d2 h2 => ?_)
      unfold gIndex at h2
      split at h2
      · rename_i c
        obtain ⟨c1, c2⟩ := and_split c
        cases ej : idxD ds b with
        | none => rw [ej] at h2; exact h2.elim
        | some j =>
          rw [ej] at h2
          obtain ⟨hj, e1, e2⟩ := List.findIdx?_eq_some_iff_getElem.mp ej
          refine ⟨a, w, b, ds, j, ds[j], rfl, rfl, dp_of x2.sh c1 (d1'.mono x2.s), dp_of x2.sh c2 d2, c1, c2, List.getElem?_eq_getElem hj, e1, fun m z' hm em => ?_, h2.ok0 x2.sh rfl⟩
          have hml : m < ds.length := by omega
          rw [List.getElem?_eq_getElem hml] at em
          have em := Option.some.inj em
          rw [← em]
          have := e2 m hm
          simpa using this
      · exact h2.elim
    | _ => exact h1.elim⟩
end
end PD
namespace PD
open PySem L2
theorem PostG.unstrict {α W : Type} {mg : Str → Option Value} {E E' : XK} {S H : Hp} {R : Hp → W → α → Prop} {r : Res α} {Q : W → Hp → Prop} (h : PostG mg E S H R r.strict Q) : PostG mg E' S H R r Q := by
  cases r with
  | ok a => exact h
  | err c => exact h.elim
  | bad => exact h
def fSt {α : Type} (f : DEnv → Res α) : DEnv → Res α := fun ρ => (f ρ).strict
theorem hUs {k : Nat} {A : Around} {v : Option Value} (r : Room k A) : (A.mark v).units + 65 < cLine := by have h := hU r; exact h
/-! ### expressions in the body of a try: what a call raises goes to W -/
structure PDS (K : PySem.W.Frag) (mg : Str → Option Value) (X : Cx) (W : WX) (e : Expr) (t : TE) (f : DEnv → Res D) : Prop where
  pe : PE X e t
  sd : ∀ (S H : Hp) (σ : L2.St) (ρ : DEnv) (Q : VK), RelE K S H σ ρ → PostG mg (WE W σ) S H (DV K) (f ρ) Q → t σ H Q
structure ADS (K : PySem.W.Frag) (mg : Str → Option Value) (X : Cx) (W : WX) (es : List Expr) (t : TA) (f : DEnv → Res (List D)) : Prop where
  pe : PA X es t
  sd : ∀ (S H : Hp) (σ : L2.St) (ρ : DEnv) (Q : List V → Hp → Prop), RelE K S H σ ρ → PostG mg (WE W σ) S H (DVs K) (f ρ) Q → t σ H Q
section
variable {K : PySem.W.Frag} {mg : Str → Option Value} {X : Cx} {W : WX} {e : Expr} {es : List Expr} {te : TE} {t : TA} {f : DEnv → Res D} {g : DEnv → Res (List D)} {pos : Pos}
theorem pds_of (h : PD K mg X E0 e te f) : PDS K mg X W e te (fSt f) := ⟨h.pe, fun S H σ ρ Q rl q => h.sd S H σ ρ Q rl (PostG.unstrict q)⟩
theorem ads_of (h : AD K mg X E0 es t g) : ADS K mg X W es t (fSt g) := ⟨h.pe, fun S H σ ρ Q rl q => h.sd S H σ ρ Q rl (PostG.unstrict q)⟩
theorem ads_one (ha : PDS K mg X W e te f) (hs : starEach [e] X.env = (false, eval e X.env) :: starEach [] X.env := by rfl) : ADS K mg X W [e] (tCons te tNil) (fCons f fNil) := ⟨pa_cons ha.pe pa_nil hs, fun S H σ ρ Q rl h => by
  refine ha.sd S H σ ρ _ rl (h.bind fun x v S1 H1 x1 d1 h1 => ?_)
  exact h1.ok0 x1.sh ⟨d1, trivial⟩⟩
theorem pds_call {n k : Nat} {fa : Addr} {fd : FuncData} {ps : List Str} {F : List D → Res D} {x : Str} {p : Pos} (G : FnOk X.prog X.w X.K X.mg X.base (L2.CX X.prog X.w) k fa fd ps (spD K mg n F)) (hr : Room k X.A) (hg : Gl X x) (hm : X.mg x = some (.ref fa)) (hk : PySem.W.keepIn X.K (.ref fa) = true)
    (hb : Binds X.K fd ps []) (tk : Takes X W) (ha : ADS K mg X W (e :: es) t g) (hdb : (x == ("__debug__" : Str)) = false := by decide) (he : starEach (e :: es) X.env = (false, eval e X.env) :: starEach es X.env := by rfl)
    (hpl : (backTo pos (starEach es X.env)).any (·.1) = false := by rfl) : PDS K mg X W (.Call (.Name x p) (e :: es) [] pos) (tCallS (spD K mg n F) (WE W) t) (fCall n F g) :=
  ⟨pe_callS G hr hg hm hk hb (fun σ => passAt tk σ) ha.pe hdb he hpl, fun S H σ ρ Q rl h => by
    refine ha.sd S H σ ρ _ rl (h.bind fun ds vs S1 H1 x1 d1 h1 => ?_)
    split at h1
    · rename_i hn
      exact ⟨S1, ds, x1.sh, d1, by rw [d1.length]; exact hn, h1⟩
    · exact h1.elim⟩
/-- [f, g, ..][i](..) -/
structure FnIs (K : PySem.W.Frag) (mg : Str → Option Value) (X : Cx) (n : Nat) (fa : Addr) (F : List D → Res D) : Prop where
  ex : ∃ k fd ps, FnOk X.prog X.w X.K X.mg X.base (L2.CX X.prog X.w) k fa fd ps (spD K mg n F) ∧ Room k X.A ∧ PySem.W.keepIn X.K (.ref fa) = true ∧ Binds X.K fd ps []
theorem fn_is {n k : Nat} {fa : Addr} {F : List D → Res D} {fd : FuncData} {ps : List Str} (G : FnOk X.prog X.w X.K X.mg X.base (L2.CX X.prog X.w) k fa fd ps (spD K mg n F)) (hr : Room k X.A) (hk : PySem.W.keepIn X.K (.ref fa) = true) (hb : Binds X.K fd ps []) : FnIs K mg X n fa F := ⟨k, fd, ps, G, hr, hk, hb⟩
theorem nm_of {x : Str} {c : Value} (hg : Gl X x) (hm : X.mg x = some c) (hd : (x == ("__debug__" : Str)) = false := by decide) : Names X x c := ⟨hg, hd, .inl hm⟩
inductive FnsAre (K : PySem.W.Frag) (mg : Str → Option Value) (X : Cx) (n : Nat) : List Addr → List (List D → Res D) → Prop
  | nil : FnsAre K mg X n [] []
  | cons {fa : Addr} {F : List D → Res D} {as : List Addr} {Fs : List (List D → Res D)} : FnIs K mg X n fa F → FnsAre K mg X n as Fs → FnsAre K mg X n (fa :: as) (F :: Fs)
theorem FnsAre.get {n : Nat} {as : List Addr} {Fs : List (List D → Res D)} (h : FnsAre K mg X n as Fs) : ∀ {i : Nat} {F : List D → Res D}, Fs[i]? = some F → ∃ fa, as[i]? = some fa ∧ FnIs K mg X n fa F := by
  induction h with
  | nil => intro i F e; simp at e
  | cons hf _ ih =>
    intro i F e
    cases i with
    | zero =>
      cases e
      exact ⟨_, rfl, hf⟩
    | succ i => exact ih e
def tVia (tf : TE) (S : Addr → Sp → Prop) (E : L2.St → XK) (t : TA) : TE := fun σ H Q => tf σ H fun v H1 => ∃ fa sp, v = .ref fa ∧ S fa sp ∧ t σ H1 fun vs H2 => sp vs H2 Q (E σ)
theorem pe_via {func : Expr} {tf : TE} {S : Addr → Sp → Prop} (hf : PE X func tf) (hS : ∀ fa sp, S fa sp → ∃ k fd ps, FnOk X.prog X.w X.K X.mg X.base (L2.CX X.prog X.w) k fa fd ps sp ∧ Room k X.A ∧ PySem.W.keepIn X.K (.ref fa) = true ∧ Binds X.K fd ps [])
    (tk : Takes X W) (ha : PA X (e :: es) t) (he : starEach (e :: es) X.env = (false, eval e X.env) :: starEach es X.env := by rfl) (hpl : (backTo pos (starEach es X.env)).any (·.1) = false := by rfl)
    (hev : eval (.Call func (e :: es) [] pos) X.env = (do callWith pos (← eval func X.env) [] (backTo pos (starEach (e :: es) X.env)) (backToKw pos (keywordEach [] X.env))) := by rfl) :
    PE X (.Call func (e :: es) [] pos) (tVia tf S (WE W) t) := by
  refine ⟨fun pins s σ H Q I h => ?_⟩
  refine PyProof.Rows.Call_ (thn (hf.run pins s σ H _ I h) fun v s1 ⟨x, H1, I1, r1, q1⟩ => ?_) hev
  obtain ⟨fa, sp, rfl, hs, q⟩ := q1
  cases r1
  obtain ⟨k, fd, ps, G, hr, hk, hb⟩ := hS fa sp hs
  refine PySem.W.callWith_K (h₀ := X.base) I.ok.mod.kin hk (thn (ha.run pos pins s1 σ H1 _ I1 q) fun us s2 ⟨vs, H2, I2, r, q2⟩ => ⟨I2.kIn, ?_⟩) he hpl
  exact run_fnS G hr hb (passAt tk σ) I2 r q2
def ixF (Fs : List (List D → Res D)) : D → Res (List D → Res D)
  | .int i => if 0 ≤ i then (match Fs[i.toNat]? with
    | some F => .ok F
    | none => .bad) else .bad
  | _ => .bad
def fVia (n : Nat) (Fs : List (List D → Res D)) (fi : DEnv → Res D) (g : DEnv → Res (List D)) : DEnv → Res D := fun ρ => (fi ρ).strict.bind fun i => (ixF Fs i).bind fun F => (g ρ).bind fun ds => if ds.length = n then F ds else .bad
/-- the names of defs, as a list's items -/
structure FA (X : Cx) (es : List Expr) (t : TA) (as : List Addr) : Prop where
  pa : PA X es t
  sd : ∀ (σ : L2.St) (H : Hp) (Q : List V → Hp → Prop), Q (as.map V.ref) H → t σ H Q
theorem fa_nil : FA X [] tNil [] := ⟨pa_nil, fun σ H Q h => h⟩
theorem fa_cons {x : Str} {fa : Addr} {as : List Addr} {p : Pos} (hm : X.mg x = some (.ref fa)) (h : FA X es t as) (hg : Gl X x := by rfl) (hd : (x == ("__debug__" : Str)) = false := by decide) (hs : starEach (.Name x p :: es) X.env = (false, eval (.Name x p) X.env) :: starEach es X.env := by rfl) :
    FA X (.Name x p :: es) (tCons (tC (.ref fa)) t) (fa :: as) := ⟨pa_cons (pe_glob hg hm rfl hd) h.pa hs, fun σ H Q q => h.sd σ H _ q⟩
theorem pds_via {n : Nat} {as : List Addr} {Fs : List (List D → Res D)} {ls : List Expr} {tl : TA} {b : Expr} {tb : TE} {fb : DEnv → Res D} {p1 p2 : Pos} (hl : FA X ls tl as) (hF : FnsAre K mg X n as Fs) (hb : PD K mg X E0 b tb fb) (tk : Takes X W) (ha : ADS K mg X W (e :: es) t g)
    (hz : as.length ≤ 100 := by simp) (hp : PlainIx b := by exact fun _ _ => rfl)
    (he : starEach (e :: es) X.env = (false, eval e X.env) :: starEach es X.env := by rfl) (hpl : (backTo pos (starEach es X.env)).any (·.1) = false := by rfl)
    (hev : eval (.Call (.Subscript (.List ls p1) b p2) (e :: es) [] pos) X.env = (do callWith pos (← eval (.Subscript (.List ls p1) b p2) X.env) [] (backTo pos (starEach (e :: es) X.env)) (backToKw pos (keywordEach [] X.env))) := by rfl) (hK : X.K = K := by rfl) :
    PDS K mg X W (.Call (.Subscript (.List ls p1) b p2) (e :: es) [] pos) (tVia (tOp (rIxL K) (tLst tl) tb) (fun fa sp => ∃ F, ∃ i : Nat, as[i]? = some fa ∧ Fs[i]? = some F ∧ sp = spD K mg n F) (WE W) t) (fVia n Fs fb g) := by
  subst hK
  refine ⟨pe_via (pe_ix ix_list (pe_lst hl.pa) hb.pe hp) (fun fa sp ⟨F, i, h1, h2, e⟩ => by
    subst e
    obtain ⟨fa', h3, h4⟩ := hF.get h2
    rw [h1] at h3
    cases h3
    exact h4.ex) tk ha.pe he hpl hev, fun S H σ ρ Q rl h => ?_⟩
  refine hl.sd σ H _ ⟨by rw [List.length_map, sizeLine_eq]; omega, fun p hn => ?_⟩
  have x0 : Ext S H S (upd H p (.lst (as.map V.ref))) := ⟨Same.refl _, same_upd hn, rl.sh.trans (same_upd hn), fun _ _ => rfl⟩
  refine hb.sd S _ σ ρ _ (rl.mono x0) (PostG.unstrict (PostG.bind (PostG.mono x0 h) fun d v S1 H1 x1 d1 h1 => ?_))
  unfold ixF at h1
  cases d with
  | int i =>
    dsimp only at h1
    split at h1
    · rename_i h0
      cases eF : Fs[i.toNat]? with
      | none => rw [eF] at h1; exact h1.elim
      | some F =>
        rw [eF] at h1
        have h1 : PostG mg (WE W σ) S1 H1 (DV X.K) ((g ρ).bind fun ds => if ds.length = n then F ds else .bad) Q := h1
        obtain ⟨fa, e1, e2⟩ := hF.get eF
        have hl2 : i.toNat < as.length := (List.getElem?_eq_some_iff.mp e1).1
        refine ⟨p, as.map V.ref, i, .ref fa, rfl, d1, SqL.of (x1.h _ _ upd_same), ?_, fa, spD X.K mg n F, rfl, ⟨F, i.toNat, e1, eF, rfl⟩, ?_⟩
        · unfold atI ixN
          rw [if_pos h0, if_pos (by rw [List.length_map]; omega)]
          show (as.map V.ref)[i.toNat]? = some (.ref fa)
          rw [List.getElem?_map, e1]
          rfl
        · refine ha.sd S1 H1 σ ρ _ ((rl.mono x0).mono x1) (h1.bind fun ds vs S2 H2 x2 d2 h2 => ?_)
          split at h2
          · rename_i hn2
            exact ⟨S2, ds, x2.sh, d2, by rw [d2.length]; exact hn2, h2⟩
          · exact h2.elim
    · exact h1.elim
  | _ => exact h1.elim
theorem pds_if {c a b : Expr} {tA : TT} {ta tb : TE} {gA : DEnv → Res Bool} {fa fb : DEnv → Res D} (hc : TD K mg X E0 c tA gA) (ha : PDS K mg X W a ta fa) (hb : PDS K mg X W b tb fb) : PDS K mg X W (.IfExp c a b pos) (tIf tA ta tb) (fIf (fSt gA) fa fb) :=
  ⟨pe_ifExp hc.pe ha.pe hb.pe, fun S H σ ρ Q rl h => hc.sd S H σ ρ _ rl (PostG.unstrict (PostG.bind h fun k w S1 H1 x1 e h1 => by
    cases e
    cases k with
    | true => exact ha.sd S1 H1 σ ρ Q (rl.mono x1) h1
    | false => exact hb.sd S1 H1 σ ρ Q (rl.mono x1) h1))⟩
/-! ### the body of a try: nothing is stored -/
def BPost (K : PySem.W.Frag) (mg : Str → Option Value) (W : WX) (σ : L2.St) (H : Hp) (r : Res (Option D)) (N : Ends) : Prop := match r with
  | .ok none => ∀ H', Same H H' → N.nx σ H'
  | .ok (some d) => ∀ v H', Same H H' → (∀ T, DV K T v d) → N.rt v H'
  | .err c => ∀ u H', mg c = some u → Same H H' → W u none σ H'
  | .bad => False
theorem BPost.mono {σ : L2.St} {H H1 : Hp} {r : Res (Option D)} {N : Ends} (h : BPost K mg W σ H r N) (x : Same H H1) : BPost K mg W σ H1 r N := by
  cases r with
  | ok o =>
    cases o with
    | none => exact fun H' e => h H' (x.trans e)
    | some d => exact fun v H' e q => h v H' (x.trans e) q
  | err c => exact fun u H' e q => h u H' e (x.trans q)
  | bad => exact h
structure BD (K : PySem.W.Frag) (mg : Str → Option Value) (X : Cx) (W : WX) (st : Stmt) (t : TS) (F : DEnv → Res (Option D)) : Prop where
  ps : PS X st t
  sd : ∀ (H : Hp) (σ : L2.St) (ρ : DEnv) (N : Ends), RelE K H H σ ρ → BPost K mg W σ H (F ρ) N → t N σ H
structure BDs (K : PySem.W.Frag) (mg : Str → Option Value) (X : Cx) (W : WX) (st : List Stmt) (t : TS) (F : DEnv → Res (Option D)) : Prop where
  ps : PSs X st t
  sd : ∀ (H : Hp) (σ : L2.St) (ρ : DEnv) (N : Ends), RelE K H H σ ρ → BPost K mg W σ H (F ρ) N → t N σ H
theorem RelE.up {H H1 : Hp} {σ : L2.St} {ρ : DEnv} (r : RelE K H H σ ρ) (x : Same H H1) : RelE K H1 H1 σ ρ := ⟨Same.refl _, r.len, fun i y e => let ⟨v, h1, h2⟩ := r.dt i y e; ⟨v, h1, h2.mono x⟩, r.rw⟩
theorem bds_one {st : Stmt} {ts : TS} {F : DEnv → Res (Option D)} (h : BD K mg X W st ts F) : BDs K mg X W [st] ts F := ⟨pss_one h.ps, h.sd⟩
theorem bds_nil : BDs K mg X W [] tNext (fun _ => .ok none) := ⟨pss_nil, fun H σ ρ N r h => h H (Same.refl _)⟩
def bSeq (F G : DEnv → Res (Option D)) : DEnv → Res (Option D) := fun ρ => (F ρ).bind fun o => match o with
  | none => G ρ
  | some d => .ok (some d)
theorem bds_cons {st : Stmt} {rest : List Stmt} {ts us : TS} {F G : DEnv → Res (Option D)} (h : BD K mg X W st ts F) (h2 : BDs K mg X W rest us G) : BDs K mg X W (st :: rest) (tSeq ts us) (bSeq F G) := ⟨pss_cons h.ps h2.ps, fun H σ ρ N r q => by
  refine h.sd H σ ρ _ r ?_
  unfold bSeq at q
  cases e1 : F ρ with
  | ok o =>
    rw [e1] at q
    cases o with
    | none => exact fun H' e => h2.sd H' σ ρ N (r.up e) (BPost.mono q e)
    | some d => exact q
  | err c => rw [e1] at q; exact q
  | bad => rw [e1] at q; exact q⟩
def bExpr (f : DEnv → Res D) : DEnv → Res (Option D) := fun ρ => (f ρ).bind fun _ => .ok none
def bRet (f : DEnv → Res D) : DEnv → Res (Option D) := fun ρ => (f ρ).bind fun d => if flatD d = true then .ok (some d) else .bad
def bIf (g : DEnv → Res Bool) (F G : DEnv → Res (Option D)) : DEnv → Res (Option D) := fun ρ => (g ρ).strict.bind fun b => if b = true then F ρ else G ρ
theorem bd_expr (he : PDS K mg X W e te f) (hs : swapsWith e none pos.line X.env = pure false := by rfl) : BD K mg X W (.Expr e pos) (tDrop te) (bExpr f) := ⟨ps_expr he.pe hs, fun H σ ρ N r q => by
  refine he.sd H H σ ρ _ r ?_
  unfold bExpr at q
  cases e1 : f ρ with
  | ok d => rw [e1] at q; exact fun w S' H' x dv => q H' x.h
  | err c => rw [e1] at q; exact q
  | bad => rw [e1] at q; exact q⟩
theorem bd_ret (he : PDS K mg X W e te f) : BD K mg X W (.Return (some e) pos) (tRet te) (bRet f) := ⟨ps_ret he.pe, fun H σ ρ N r q => by
  refine he.sd H H σ ρ _ r ?_
  unfold bRet at q
  cases e1 : f ρ with
  | ok d =>
    rw [e1, bind_ok] at q
    intro w S' H' x dv
    split at q
    · rename_i hf
      exact q w H' x.h fun T => dv.flat hf
    · exact q.elim
  | err c => rw [e1] at q; exact q
  | bad => rw [e1] at q; exact q⟩
theorem bd_if {c : Expr} {a b : List Stmt} {tc : TT} {ta tb : TS} {gc : DEnv → Res Bool} {F G : DEnv → Res (Option D)} (hc : TD K mg X E0 c tc gc) (ha : BDs K mg X W a ta F) (hb : BDs K mg X W b tb G) : BD K mg X W (.If c a b pos) (tIfS tc ta tb) (bIf gc F G) :=
  ⟨ps_if hc.pe ha.ps hb.ps, fun H σ ρ N r q => by
    refine hc.sd H H σ ρ _ r ?_
    unfold bIf at q
    cases e1 : gc ρ with
    | ok k =>
      rw [e1] at q
      intro w S' H' x ek
      cases ek
      cases k with
      | true => exact ha.sd H' σ ρ N (r.up x.h) (BPost.mono q x.h)
      | false => exact hb.sd H' σ ρ N (r.up x.h) (BPost.mono q x.h)
    | err c => rw [e1] at q; exact q.elim
    | bad => rw [e1] at q; exact q⟩
end
/-! ### try -/
theorem Rel.setRaw {K : PySem.W.Frag} {S0 H0 S H : Hp} {σ : L2.St} {ρ : DEnv} (r : Rel K S0 H0 S H σ ρ) {i : Nat} {v : V} : Rel K S0 H0 S H (σ.set i (some v)) (ρ.set i (.raw v)) := by
  have hl := r.len
  refine ⟨r.x, by rw [List.length_set, List.length_set]; exact hl, fun j z e => ?_, fun j z e => ?_, fun j s e hs => ?_, fun j k s s' p e1 e2 h1 h2 g1 g2 => ?_⟩
  · rcases set_at e with ⟨rfl, hi, e⟩ | ⟨hj, e⟩
    · cases e
    · rw [List.getElem?_set_ne hj]
      exact r.dt j z e
  · rcases set_at e with ⟨rfl, hi, e⟩ | ⟨hj, e⟩
    · cases e
      exact List.getElem?_set_self (by omega)
    · rw [List.getElem?_set_ne hj]
      exact r.rw j z e
  · rcases set_at e with ⟨rfl, hi, e⟩ | ⟨hj, e⟩
    · subst e
      cases hs
    · rw [List.getElem?_set_ne hj]
      exact r.own j s e hs
  · rcases set_at e1 with ⟨rfl, hi, e1⟩ | ⟨hj, e1⟩
    · subst e1
      cases h1
    · rcases set_at e2 with ⟨rfl, hi, e2⟩ | ⟨hk, e2⟩
      · subst e2
        cases h2
      · rw [List.getElem?_set_ne hj] at g1
        rw [List.getElem?_set_ne hk] at g2
        exact r.dis j k s s' p e1 e2 h1 h2 g1 g2
theorem kit_sub {K : PySem.W.Frag} {C D : Addr} {b : Bool} (hd : PySem.W.hasDictIn K D = true) (ht : PySem.W.typeIn K (.ref D) = some (.type "type")) (hs : PySem.W.subIn K (.ref C) (.ref D) = some b) (h0 : PySem.W.subIn K (.ref D) (.ref D) = some true) : PySem.W.kitOne K (.ref C) (.ref D) = some b := by
  obtain ⟨cd, hc, _⟩ := PySem.W.any_some hd
  unfold PySem.W.kitOne
  split
  · rename_i e
    have e : C = D := Value.ref.inj (beq_iff_eq.mp e)
    subst e
    rw [hs] at h0
    exact h0.symm
  · show (if ((PySem.W.clsIn K D).isSome && PySem.W.typeIn K (.ref D) == some (.type "type")) = true then PySem.W.subIn K (.ref C) (.ref D) else none) = some b
    have e2 : ((PySem.W.clsIn K D).isSome && PySem.W.typeIn K (.ref D) == some (.type "type")) = true := by rw [hc, ht] <;> rfl
    rw [if_pos e2]
    exact hs
def sTry (B : DEnv → Res (Option D)) (Lx : List Str) (FS : Str → DEnv → Res D) : DEnv → SR := fun ρ => match B (viewAll ρ) with
  | .ok none => .next ρ
  | .ok (some d) => .ret d
  | .err c => if Lx.contains c = true then (match FS c ρ with
    | .ok d => .ret d
    | _ => .bad) else .bad
  | .bad => .bad
/-- what is known of the classes that may be caught -/
structure Caught (K : PySem.W.Frag) (mg : Str → Option Value) (Lx : List Str) (cL : Value) : Prop where
  ex : ∀ c u, Lx.contains c = true → mg c = some u → ∃ C, u = .ref C ∧ ExcC K C ∧ PySem.W.exmOne K (.ref C) cL = some true
section
variable {K : PySem.W.Frag} {mg : Str → Option Value} {X : Cx} {E : XK} {x n : Str} {c : Value} {i : Nat} {body suite : List Stmt} {b₀ : Stmt} {np pos pos' : Pos} {tb : WX → TS} {tsu : Addr → Addr → Str → TS} {Lx : List Str} {B : DEnv → Res (Option D)} {FSa : Addr → Str → DEnv → SR}
theorem sd_try {FS : Str → DEnv → Res D} (hN : X.N.Nodup) (hi : X.N[i]? = some n) (hc : Names X x c) (tk : Takes X (fun cls d _ H => E cls d H)) (hk : Caught K mg Lx c)
    (hFS : ∀ a c ρ d, FS c ρ = .ok d → FSa a c (ρ.set i (.raw (.ref a))) = .ret d)
    (hb : ∀ (W : WX) (pn : List (Addr × Obj)) (xe : Value → Shared → Prop), Takes (X.tr pn xe) W → BDs K mg (X.tr pn xe) W body (tb W) B)
    (hsu : ∀ (a : Addr) (oe : Obj) (C : Addr) (pn : List (Addr × Obj)) (c : Str), Zc (.ref C) none oe → (∃ vs, oe.data = .fields vs) → ExcC K C → mg c = some (.ref C) → Lx.contains c = true → SDs K mg (X.suite a ((a, oe) :: pn)) E0 (b₀ :: suite) (tsu a C c) (FSa a c))
    (hs : X.stack = X.env :: X.outer := by rfl) (hf : X.env.frame = some X.env.locals := by rfl) (hln : X.env.kindOf n = some .local := by rfl) (hK : X.K = K := by rfl) :
    SD K mg X E (.Try body [.ExceptHandler (some (.Name x np)) (some n) (b₀ :: suite) pos'] [] [] pos)
      (fun D σ H => tb (wAs K c i (fun a cls d N σ H => ∃ C k, cls = .ref C ∧ d = none ∧ ExcC K C ∧ mg k = some (.ref C) ∧ Lx.contains k = true ∧ tsu a C k N σ H) (fun cls d _ H => E cls d H) D) D σ H) (sTry B Lx FS) := by
  subst hK
  refine ⟨ps_try_as hs hf hN hi hln hc tk (fun W pn xe tkb _ => (hb W pn xe tkb).ps) (fun a oe cls d pn hz hfd => ⟨fun pins s σ H D I h => ?_⟩), fun S0 H0 S H σ ρ N r h => ?_⟩
  · obtain ⟨C, k, rfl, rfl, he, hm, hL, h⟩ := h
    exact (hsu a oe C pn k hz hfd he hm hL).ps.run pins s σ H D I h
  · refine (hb _ X.pn (fun u s' => False ∨ XE X (fun cls d _ H => E cls d H) u s' ∨ True) (fun _ _ _ => .inr (.inr trivial))).sd H σ (viewAll ρ) N r.relV ?_
    unfold sTry at h
    cases e1 : B (viewAll ρ) with
    | ok o =>
      rw [e1] at h
      cases o with
      | none => exact fun H' e => h S H' σ (Same.refl _) (r.grow e)
      | some d => exact fun v H' e dv => h v S H' ((r.grow e).x) (dv S)
    | bad => rw [e1] at h; exact h
    | err k =>
      rw [e1] at h
      dsimp only at h
      split at h
      · rename_i hL
        cases eF : FS k ρ with
        | ok d =>
          rw [eF] at h
          intro u H' hm e
          obtain ⟨C, rfl, he, hx⟩ := hk.ex k u hL hm
          refine ⟨true, hx, fun _ a ha => ⟨C, k, rfl, rfl, he, hm, hL, ?_⟩, fun z => nomatch z⟩
          have r2 : Rel X.K S0 H0 S H' (σ.set i (some (.ref a))) (ρ.set i (.raw (.ref a))) := (r.grow e).setRaw
          refine (hsu a { cls := .ref C, data := .fields #[] } C [] k ⟨rfl, rfl⟩ ⟨_, rfl⟩ he hm hL).sd S0 H0 S H' _ _ _ r2 ?_
          rw [hFS a k ρ d eF]
          exact h
        | err c => rw [eF] at h; exact h.elim
        | bad => rw [eF] at h; exact h.elim
      · exact h.elim
/-- isinstance(e, D), e the exception that the suite holds -/
def fIsE (i : Nat) (a : Addr) (b : Bool) : DEnv → Res D := fun ρ => match ρ[i]? with
  | some (.raw (.ref a')) => if a' = a then .ok (.bool b) else .bad
  | _ => .bad
theorem pd_isE {a C CD : Addr} {oe : Obj} {pn : List (Addr × Obj)} {xe xD : Str} {p1 p2 p3 : Pos} {b : Bool} (hC : ExcC X.K C) (hz : Zc (.ref C) none oe) (hf : ∃ vs, oe.data = .fields vs) (hkit : PySem.W.kitOne K (.ref C) (.ref CD) = some b) (hv : PE (X.suite a ((a, oe) :: pn)) (.Name xe p1) (tVar i))
    (hg : Gl X "isinstance") (hm : X.mg "isinstance" = none) (hgD : Gl X xD) (hmD : X.mg xD = some (.ref CD)) (hd : (xD == ("__debug__" : Str)) = false := by decide)
    (h1 : starEach [.Name xe p1, .Name xD p2] X.env = (false, eval (.Name xe p1) X.env) :: starEach [.Name xD p2] X.env := by rfl) (h2 : starEach [.Name xD p2] X.env = (false, eval (.Name xD p2) X.env) :: starEach [] X.env := by rfl) (hpl : (backTo pos (starEach [.Name xD p2] X.env)).any (·.1) = false := by rfl) (hK : X.K = K := by rfl) :
    PD K mg (X.suite a ((a, oe) :: pn)) E0 (.Call (.Name "isinstance" p3) [.Name xe p1, .Name xD p2] [] pos) (tCB (rIsE K C a) (tCons (tVar i) (tCons (tC (.ref CD)) tNil))) (fIsE i a b) := by
  subst hK
  refine ⟨pe_callB (X := X.suite a ((a, oe) :: pn)) (call_isE hC hz hf) hg hm bt_isinstance (pa_cons hv (pa_cons (pe_glob (v := .ref CD) hgD hmD rfl hd) pa_nil h2) h1) (by decide) (by decide) h1 hpl, fun S H σ ρ Q rl h => ?_⟩
  unfold fIsE at h
  split at h
  · rename_i a' e
    split at h
    · rename_i ea
      subst ea
      exact ⟨_, rl.rw _ _ e, _, _, b, rfl, fun u hu => hu, hkit, h.ok0 rl.sh rfl⟩
    · exact h.elim
  · exact h.elim
end
end PD
namespace PD
open PySem L2
/-! ### zip of three tuples -/
def Itz3 (K : PySem.W.Frag) (a b c : Addr) : It :=
  ⟨fun i H => ∃ (xs ys zs : List V) (x y z : V), SqT K H a xs ∧ SqT K H b ys ∧ SqT K H c zs ∧ xs[i]? = some x ∧ ys[i]? = some y ∧ zs[i]? = some z,
    fun i H v H' => ∃ T x y z, v = .ref T ∧ H T = none ∧ H' = upd H T (.tup [x, y, z]) ∧ (∀ xs, SqT K H a xs → xs[i]? = some x) ∧ (∀ ys, SqT K H b ys → ys[i]? = some y) ∧ ∀ zs, SqT K H c zs → zs[i]? = some z,
    fun i H => ∃ xs ys zs : List V, SqT K H a xs ∧ SqT K H b ys ∧ SqT K H c zs ∧ i = min (min xs.length ys.length) zs.length⟩
theorem lt_of_get {α : Type} {xs : List α} {i : Nat} {x : α} (h : xs[i]? = some x) : i < xs.length := (List.getElem?_eq_some_iff.mp h).1
theorem turn_zip3 {P : Program} {w : World} {K : PySem.W.Frag} {elts : List Expr} {kk : Nat} {tpos : Pos} {a b c z TI TO i1 i2 i3 : Addr} (D : ZipSep3 z TI TO i1 i2 i3 [i1, a] [i2, b] [i3, c]) (na : a ≠ i1) (nb : b ≠ i2) (nc : c ≠ i3) :
    Turn P w K (.Tuple elts kk tpos) (Itz3 K a b c) [z, TI, TO, i1, i2, i3] z (fun i h => IsZip h z TI TO .none ∧ IsTupOf3 h TI (.ref i1) (.ref i2) (.ref i3) ∧ (∃ x y u, IsTupOf3 h TO x y u) ∧ h.IsTupleIter i1 a i ∧ h.IsTupleIter i2 b i ∧ h.IsTupleIter i3 c i) where
  mem := by simp
  obj := fun i h st c' hc => by
    obtain ⟨hz, hTI, ⟨x, y, u, hTO⟩, ⟨o1, e1, _, d1⟩, ⟨o2, e2, _, d2⟩, ⟨o3, e3, _, d3⟩⟩ := st
    have e' : c' = z ∨ c' = TI ∨ c' = TO ∨ c' = i1 ∨ c' = i2 ∨ c' = i3 := by simpa using hc
    rcases e' with q | q | q | q | q | q
    · rw [q]; exact ⟨_, hz, fun v q => nomatch q⟩
    · rw [q]; exact ⟨_, hTI, fun v q => nomatch q⟩
    · rw [q]; exact ⟨_, hTO, fun v q => nomatch q⟩
    · rw [q]; exact ⟨o1, e1, fun v q => by rw [d1] at q; cases q⟩
    · rw [q]; exact ⟨o2, e2, fun v q => by rw [d2] at q; cases q⟩
    · rw [q]; exact ⟨o3, e3, fun v q => by rw [d3] at q; cases q⟩
  keep := fun i h h' st k => by
    obtain ⟨hz, hTI, ⟨x, y, u, hTO⟩, h1, h2, h3⟩ := st
    exact ⟨k z (by simp) _ hz, k TI (by simp) _ hTI, ⟨x, y, u, k TO (by simp) _ hTO⟩, h1.at fun o q => k i1 (by simp) o q, h2.at fun o q => k i2 (by simp) o q, h3.at fun o q => k i3 (by simp) o q⟩
  item := by
    intro X hP hw hK hc i pins s σ H E I hf st hg
    subst hP hw hK
    obtain ⟨hz, hTI, hTO, h1, h2, h3⟩ := st
    obtain ⟨xs, ys, zs, x, y, u, hqx, hqy, hqz, hx, hy, hu⟩ := hg
    obtain ⟨its, rv, p, _⟩ := I.tuple hqx
    obtain ⟨its2, rv2, p2, _⟩ := I.tuple hqy
    obtain ⟨its3, rv3, p3, _⟩ := I.tuple hqz
    obtain ⟨u1, hu1, ru1⟩ := rv.get hx
    obtain ⟨u2, hu2, ru2⟩ := rv2.get hy
    obtain ⟨u3, hu3, ru3⟩ := rv3.get hu
    have hh : X.A.in1.handled = none := I.ok.hd hc
    have W := WalksT.zipD3 (prog := X.prog) (w := X.w) (A := X.A) D (Draws.tuple hh i1 a na its.toArray) (Draws.tuple hh i2 b nb its2.toArray) (Draws.tuple hh i3 c nc its3.toArray)
    have hlt : i < min (min its.toArray.size its2.toArray.size) its3.toArray.size := by
      have a1 := lt_of_get hu1
      have a2 := lt_of_get hu2
      have a3 := lt_of_get hu3
      simp only [List.size_toArray]
      omega
    refine W.item i s _ _ hlt ⟨hz, hTI, hTO, ⟨h1, p⟩, ⟨h2, p2⟩, h3, p3⟩ fun T vals h' tk hP hT hTu hM hk => ?_
    obtain ⟨v1, v2, v3, e1, e2, e3, rfl⟩ := hP
    have q1 : u1 = v1 := Option.some.inj (hu1.symm.trans (by simpa using e1))
    have q2 : u2 = v2 := Option.some.inj (hu2.symm.trans (by simpa using e2))
    have q3 : u3 = v3 := Option.some.inj (hu3.symm.trans (by simpa using e3))
    subst q1 q2 q3
    refine ⟨_, rfl, W.go elts kk tpos i T { s with heap := h', toks := tk } _ _ hM fun h'' st'' hk2 => ?_⟩
    have nT : T ∉ [z, TO, i1, i2, i3] := W.apart i T h' hM
    have hT2 : h''.IsTuple T #[u1, u2, u3] := hTu.at fun o e => hk2 T o nT e
    have new : ObjOk X.prog X.w (upd H T (.tup [x, y, u])) h'' T (.tup [x, y, u]) :=
      ⟨by show 3 ≤ sizeLine; decide, [u1, u2, u3], .cons ru1 (.cons ru2 (.cons ru3 .nil)), hT2⟩
    have sub : ∀ b', b' ∉ [z, TI, TO, i1, i2, i3] → b' ∉ [z, TO, i1, i2, i3] := fun b' hb hm => hb (by
      have e' : b' = z ∨ b' = TO ∨ b' = i1 ∨ b' = i2 ∨ b' = i3 := by simpa using hm
      rcases e' with q | q | q | q | q <;> simp [q])
    have I1 : Inv X pins σ (upd H T (.tup [x, y, u])) { s with heap := h'', toks := tk } :=
      I.turnedNew (t' := tk) (ch := [z, TI, TO, i1, i2, i3]) (fun b' o hb q => hk2 b' o (sub b' hb) (hk b' o (sub b' hb) q)) hf hT new
    obtain ⟨hz', hTI', hTO', ⟨h1', _⟩, ⟨h2', _⟩, h3', _⟩ := st''
    refine ⟨.ref T, _, I1, rfl, ⟨T, x, y, u, rfl, I.hok.fresh hT, rfl, fun l hl => by rw [I.tuple_inj hl hqx]; exact hx, fun l hl => by rw [I.tuple_inj hl hqy]; exact hy, fun l hl => by rw [I.tuple_inj hl hqz]; exact hu⟩, ⟨hz', hTI', hTO', h1', h2', h3'⟩, fun c' hcm => ?_⟩
    have hlt : c' < s.heap.objs.size := by
      obtain ⟨x0, y0, u0, hTO⟩ := hTO
      have e' : c' = z ∨ c' = TI ∨ c' = TO ∨ c' = i1 ∨ c' = i2 ∨ c' = i3 := by simpa using hcm
      rcases e' with q | q | q | q | q | q
      · rw [q]; exact Heap.lt_size hz
      · rw [q]; exact Heap.lt_size hTI
      · rw [q]; exact Heap.lt_size hTO
      · rw [q]; obtain ⟨_, e1, _⟩ := h1; exact Heap.lt_size e1
      · rw [q]; obtain ⟨_, e2, _⟩ := h2; exact Heap.lt_size e2
      · rw [q]; obtain ⟨_, e3, _⟩ := h3; exact Heap.lt_size e3
    rw [upd_ne (Nat.ne_of_lt (Nat.lt_of_lt_of_le hlt hT))]
    exact (hf c' hcm).1
  done := by
    intro X hP hw hK hc i pins s σ H E I hf st hg
    subst hP hw hK
    obtain ⟨hz, hTI, hTO, h1, h2, h3⟩ := st
    obtain ⟨xs, ys, zs, hqx, hqy, hqz, hend⟩ := hg
    obtain ⟨its, rv, p, _⟩ := I.tuple hqx
    obtain ⟨its2, rv2, p2, _⟩ := I.tuple hqy
    obtain ⟨its3, rv3, p3, _⟩ := I.tuple hqz
    have hh : X.A.in1.handled = none := I.ok.hd hc
    have W := WalksT.zipD3 (prog := X.prog) (w := X.w) (A := X.A) D (Draws.tuple hh i1 a na its.toArray) (Draws.tuple hh i2 b nb its2.toArray) (Draws.tuple hh i3 c nc its3.toArray)
    have hi : i = min (min its.toArray.size its2.toArray.size) its3.toArray.size := by
      rw [hend, rv.length, rv2.length, rv3.length]
      simp only [List.size_toArray]
    subst hi
    refine W.done s _ _ ⟨hz, hTI, hTO, ⟨h1, p⟩, ⟨h2, p2⟩, h3, p3⟩ fun h' tk hk => ⟨rfl, I.turnedL (t' := tk) (ch := [z, TI, TO, i1, i2, i3]) (fun b' o hb q => hk b' o (fun hm => hb ?_) q) hf⟩
    have e' : b' = z ∨ b' = TO ∨ b' = i1 ∨ b' = i2 ∨ b' = i3 := by simpa using hm
    rcases e' with q | q | q | q | q <;> simp [q]
  self := fun A i s Q E st h => wpAny_pyIter_zip st.1 h
def iZip3 (K : PySem.W.Frag) (ta : TA) : TI := fun σ H R => ta σ H fun vs H1 => ∃ a b c xs ys zs, vs = [.ref a, .ref b, .ref c] ∧ SqT K H1 a xs ∧ SqT K H1 b ys ∧ SqT K H1 c zs ∧ R (Itz3 K a b c) H1
theorem pi_zip3 {X : Cx} {e e2 e3 : Expr} {ta : TA} {p pos tpos : Pos} {elts : List Expr} {kk : Nat} (hg : Gl X "zip") (hm : X.mg "zip" = none) (ha : PA X [e, e2, e3] ta)
    (hs : starEach [e, e2, e3] X.env = (false, eval e X.env) :: starEach [e2, e3] X.env := by rfl) (hpl : (backTo pos (starEach [e2, e3] X.env)).any (·.1) = false := by rfl) :
    PI X (.Tuple elts kk tpos) (.Call (.Name "zip" p) [e, e2, e3] [] pos) (iZip3 X.K ta) := by
  refine ⟨fun pins s σ H R I h => ?_⟩
  refine PyProof.Rows.Call_ (ld_blt I hg hm PyProof.Rows.boot_zip (PyProof.Rows.callWith_type1 (thn (ha.run pos pins s σ H _ I h) fun us s1 ⟨vs, H1, I1, r1, q1⟩ => ?_) hs hpl))
  obtain ⟨a, b, c, xs, ys, zs, ex, hqx, hqy, hqz, q⟩ := q1
  subst ex
  cases r1 with
  | cons r rr =>
    cases rr with
    | cons r' rr =>
      cases rr with
      | cons r'' rr =>
        cases rr
        cases r
        cases r'
        cases r''
        obtain ⟨its, rv, p1, _⟩ := I1.tuple hqx
        obtain ⟨its2, rv2, p2, _⟩ := I1.tuple hqy
        obtain ⟨its3, rv3, p3, _⟩ := I1.tuple hqz
        obtain ⟨o1, ho1, _⟩ := id p1
        obtain ⟨o2, ho2, _⟩ := id p2
        obtain ⟨o3, ho3, _⟩ := id p3
        have la : a < s1.heap.objs.size := Heap.lt_size ho1
        have lb : b < s1.heap.objs.size := Heap.lt_size ho2
        have lc : c < s1.heap.objs.size := Heap.lt_size ho3
        refine zip_begins3 (begins_tuple a its.toArray) (begins_tuple b its2.toArray) (begins_tuple c its3.toArray) p1 p2 p3 fun h' hz hTI hTO g1 g2 g3 hsz hk => wpAny_pyIter_zip hz ?_
        have I2 : Inv X pins σ H1 { s1 with heap := h' } := I1.kept (t' := s1.toks) hk
        have D : ZipSep3 (s1.heap.objs.size + 5) (s1.heap.objs.size + 3) (s1.heap.objs.size + 4) s1.heap.objs.size (s1.heap.objs.size + 1) (s1.heap.objs.size + 2) [s1.heap.objs.size, a] [s1.heap.objs.size + 1, b] [s1.heap.objs.size + 2, c] :=
          zip_sep3 (fun x hx => by rw [List.mem_singleton.mp hx]; exact la) (fun x hx => by rw [List.mem_singleton.mp hx]; exact lb) (fun x hx => by rw [List.mem_singleton.mp hx]; exact lc)
        refine ⟨s1.heap.objs.size + 5, [s1.heap.objs.size + 5, s1.heap.objs.size + 3, s1.heap.objs.size + 4, s1.heap.objs.size, s1.heap.objs.size + 1, s1.heap.objs.size + 2], _, _, H1, rfl, I2,
          turn_zip3 D (Nat.ne_of_lt la) (Nat.ne_of_lt (Nat.lt_succ_of_lt lb)) (Nat.ne_of_lt (Nat.lt_succ_of_lt (Nat.lt_succ_of_lt lc))), ⟨hz, hTI, ⟨_, _, _, hTO⟩, ⟨_, g1, rfl, rfl⟩, ⟨_, g2, rfl, rfl⟩, ⟨_, g3, rfl, rfl⟩⟩, fun x hx => ?_, q⟩
        have e' : x = s1.heap.objs.size + 5 ∨ x = s1.heap.objs.size + 3 ∨ x = s1.heap.objs.size + 4 ∨ x = s1.heap.objs.size ∨ x = s1.heap.objs.size + 1 ∨ x = s1.heap.objs.size + 2 := by simpa using hx
        have hle : s1.heap.objs.size ≤ x := by
          rcases e' with z | z | z | z | z | z
          · rw [z]; exact Nat.le_add_right _ _
          · rw [z]; exact Nat.le_add_right _ _
          · rw [z]; exact Nat.le_add_right _ _
          · rw [z]; exact Nat.le_refl _
          · rw [z]; exact Nat.le_add_right _ _
          · rw [z]; exact Nat.le_add_right _ _
        exact I1.fpOk hle (I1.hok.fresh hle)
def zip3D : List D → List D → List D → List D
  | x :: xs, y :: ys, z :: zs => .tuple [x, y, z] :: zip3D xs ys zs
  | _, _, _ => []
theorem zip3D_get : ∀ {xs ys zs : List D} {i : Nat} {d : D}, (zip3D xs ys zs)[i]? = some d → ∃ x y z, xs[i]? = some x ∧ ys[i]? = some y ∧ zs[i]? = some z ∧ d = .tuple [x, y, z]
  | x :: xs, y :: ys, z :: zs, 0, d, h => ⟨x, y, z, rfl, rfl, rfl, (Option.some.inj h).symm⟩
  | x :: xs, y :: ys, z :: zs, i + 1, d, h => zip3D_get (xs := xs) (ys := ys) (zs := zs) (i := i) h
  | [], _, _, _, _, h => by simp [zip3D] at h
  | _ :: _, [], _, _, _, h => by simp [zip3D] at h
  | _ :: _, _ :: _, [], _, _, h => by simp [zip3D] at h
theorem zip3D_len : ∀ (xs ys zs : List D), (zip3D xs ys zs).length = min (min xs.length ys.length) zs.length
  | x :: xs, y :: ys, z :: zs => by show (zip3D xs ys zs).length + 1 = min (min (xs.length + 1) (ys.length + 1)) (zs.length + 1); rw [zip3D_len xs ys zs]; omega
  | [], ys, zs => by simp [zip3D]
  | _ :: _, [], _ => by simp [zip3D]
  | _ :: _, _ :: _, [] => by simp [zip3D]
theorem walks_zip3 {K : PySem.W.Frag} {S : Hp} {a b c : Addr} {us ws ts : List V} {ds es fs : List D} (h1 : SqT K S a us) (h2 : DVs K S us ds) (h3 : SqT K S b ws) (h4 : DVs K S ws es) (h5 : SqT K S c ts) (h6 : DVs K S ts fs) : Walks K S (Itz3 K a b c) (zip3D ds es fs) := fun S' H' e1 e2 => by
  have q1 : SqT K H' a us := same_t (e1.trans e2) h1
  have q2 : SqT K H' b ws := same_t (e1.trans e2) h3
  have q3 : SqT K H' c ts := same_t (e1.trans e2) h5
  refine ⟨fun i d hi => ?_, us, ws, ts, q1, q2, q3, ?_⟩
  · obtain ⟨x, y, z, g1, g2, g3, rfl⟩ := zip3D_get hi
    obtain ⟨v, k1, k2⟩ := h2.get g1
    obtain ⟨w, k3, k4⟩ := h4.get g2
    obtain ⟨t, k5, k6⟩ := h6.get g3
    refine ⟨⟨us, ws, ts, v, w, t, q1, q2, q3, k1, k3, k5⟩, fun x' H'' hy => ?_⟩
    obtain ⟨T, x1, x2, x3, rfl, nT, rfl, f1, f2, f3⟩ := hy
    have ex : x1 = v := Option.some.inj ((f1 _ q1).symm.trans k1)
    have ey : x2 = w := Option.some.inj ((f2 _ q2).symm.trans k3)
    have ez : x3 = t := Option.some.inj ((f3 _ q3).symm.trans k5)
    subst ex ey ez
    have sm : Same S (upd S' T (.tup [x1, x2, x3])) := e1.trans (same_upd (e2.free nT))
    exact ⟨_, Ext.new e2 nT, T, [x1, x2, x3], rfl, tp_of upd_same, k2.mono sm, k4.mono sm, k6.mono sm, trivial⟩
  · rw [zip3D_len, h2.length, h4.length, h6.length]
def gZip3 : List D → Res (List D)
  | [.tuple xs, .tuple ys, .tuple zs] => .ok (zip3D xs ys zs)
  | _ => .bad
section
variable {K : PySem.W.Frag} {mg : Str → Option Value} {X : Cx} {E : XK} {e e2 e3 : Expr} {ta : TA} {ga : DEnv → Res (List D)} {p pos tpos : Pos} {elts : List Expr} {kk : Nat}
theorem id_zip3 (hg : Gl X "zip") (hm : X.mg "zip" = none) (ha : AD K mg X E [e, e2, e3] ta ga) (hs : starEach [e, e2, e3] X.env = (false, eval e X.env) :: starEach [e2, e3] X.env := by rfl) (hpl : (backTo pos (starEach [e2, e3] X.env)).any (·.1) = false := by rfl) (hK : X.K = K := by rfl) :
    ID K mg X E (.Tuple elts kk tpos) (.Call (.Name "zip" p) [e, e2, e3] [] pos) (iZip3 K ta) (fRng gZip3 ga) := ⟨hK ▸ pi_zip3 hg hm ha.pe hs hpl, fun S H σ ρ R rl h => by
  refine ha.sd S H σ ρ _ rl (h.bind fun ds vs S1 H1 x1 d1 h1 => ?_)
  unfold gZip3 at h1
  split at h1
  · obtain ⟨v, w, u, rfl, hv, hw, hu⟩ := dvs3 d1
    rw [DV] at hv hw hu
    obtain ⟨a, us, rfl, k1, k2⟩ := hv
    obtain ⟨b, ws, rfl, k3, k4⟩ := hw
    obtain ⟨c, ts, rfl, k5, k6⟩ := hu
    exact ⟨a, b, c, us, ws, ts, rfl, same_t x1.sh k1.1, same_t x1.sh k3.1, same_t x1.sh k5.1, h1.ok0 x1.sh (walks_zip3 k1.1 k2 k3.1 k4 k5.1 k6)⟩
  · exact h1.elim⟩
end
/-! ### enumerate of a list -/
def enumD (n : Nat) : List D → List D
  | [] => []
  | x :: xs => .tuple [.int (n : Int), x] :: enumD (n + 1) xs
theorem enumD_get : ∀ {xs : List D} {n i : Nat} {d : D}, (enumD n xs)[i]? = some d → ∃ x, xs[i]? = some x ∧ d = .tuple [.int ((n + i : Nat) : Int), x]
  | x :: xs, n, 0, d, h => ⟨x, rfl, (Option.some.inj h).symm⟩
  | x :: xs, n, i + 1, d, h => by
    obtain ⟨y, h1, h2⟩ := enumD_get (xs := xs) (n := n + 1) (i := i) h
    refine ⟨y, h1, ?_⟩
    rw [h2, show n + 1 + i = n + (i + 1) from by omega]
  | [], _, _, _, h => by simp [enumD] at h
theorem enumD_len : ∀ (xs : List D) (n : Nat), (enumD n xs).length = xs.length
  | [], _ => rfl
  | x :: xs, n => by show (enumD (n + 1) xs).length + 1 = _; rw [enumD_len xs]; rfl
theorem walks_enum {K : PySem.W.Frag} {S : Hp} {a : Addr} {us : List V} {ds : List D} (h1 : LsAt K S a us) (h2 : DVs K S us ds) : Walks K S (Ite K a) (enumD 0 ds) := fun S' H' e1 e2 => by
  have q1 : SqL K H' a us := ls_sq (ls_mono (e1.trans e2) h1)
  refine ⟨fun i d hi => ?_, us, q1, by rw [enumD_len, h2.length]; exact Nat.le_refl _⟩
  obtain ⟨x, g1, rfl⟩ := enumD_get hi
  obtain ⟨v, k1, k2⟩ := h2.get g1
  refine ⟨⟨us, v, q1, k1⟩, fun x' H'' hy => ?_⟩
  obtain ⟨T, x1, rfl, nT, rfl, f1⟩ := hy
  have ex : x1 = v := Option.some.inj ((f1 _ q1).symm.trans k1)
  subst ex
  have sm : Same S (upd S' T (.tup [.int (i : Nat), x1])) := e1.trans (same_upd (e2.free nT))
  exact ⟨_, Ext.new e2 nT, T, [.int (i : Nat), x1], rfl, tp_of upd_same, by show V.int (i : Nat) = V.int ((0 + i : Nat) : Int); rw [Nat.zero_add], k2.mono sm, trivial⟩
def gEnum : List D → Res (List D)
  | [.list xs] => .ok (enumD 0 xs)
  | _ => .bad
section
variable {K : PySem.W.Frag} {mg : Str → Option Value} {X : Cx} {E : XK} {e : Expr} {ta : TA} {ga : DEnv → Res (List D)} {p pos tpos : Pos} {elts : List Expr} {kk : Nat}
theorem id_enum (hg : Gl X "enumerate") (hm : X.mg "enumerate" = none) (ha : AD K mg X E [e] ta ga) (hs : starEach [e] X.env = [(false, eval e X.env)] := by rfl) (hK : X.K = K := by rfl) :
    ID K mg X E (.Tuple elts kk tpos) (.Call (.Name "enumerate" p) [e] [] pos) (iEnum K ta) (fRng gEnum ga) := ⟨hK ▸ pi_enum hg hm ha.pe hs, fun S H σ ρ R rl h => by
  refine ha.sd S H σ ρ _ rl (h.bind fun ds vs S1 H1 x1 d1 h1 => ?_)
  unfold gEnum at h1
  split at h1
  · obtain ⟨v, rfl, hv⟩ := dvs1 d1
    rw [DV] at hv
    obtain ⟨a, us, rfl, k1, k2⟩ := hv
    exact ⟨a, us, rfl, ls_sq (ls_mono x1.sh k1), h1.ok0 x1.sh (walks_enum k1 k2)⟩
  · exact h1.elim⟩
end
/-! ### x, y, z = a, [], [], where a target is captured: by a tuple -/
section
variable {K : PySem.W.Frag} {mg : Str → Option Value} {X : Cx} {E : XK} {ts es : List Expr} {t : TA} {gg : TGs} {is : List Nat} {g : DEnv → Res (List Slot)} {pos pt pt2 : Pos} {kt k2 : Nat} {n : Nat}
theorem sd_asgZ (hc : X.calm = true) (hz : ZD K mg X E es t g) (hg : GDs X ts gg is) (hn : (assignEach ts X.env).length = n := by rfl) (hst : (assignEach ts X.env).findIdx? (·.1) = none := by rfl) (hl : is.length = n := by rfl) (hz2 : is.length ≤ 100 := by decide) (hK : X.K = K := by rfl)
    (hs : swapsWithSole [.Tuple ts kt pt] (.Tuple es k2 pt2) pos.line X.env = pure false := by rfl) (hw : swappedStores [.Tuple ts kt pt] (.Tuple es k2 pt2) X.env = pure none := by rfl) (h1 : (assignEach [.Tuple ts kt pt] X.env).map (·.2) = [assign (.Tuple ts kt pt) X.env] := by rfl) :
    SD K mg X E (.Assign [.Tuple ts kt pt] (.Tuple es k2 pt2) pos) (tAsg (tTup t) (gTup K n gg)) (sPar g is) := ⟨ps_asg (pe_tup hz.pe) (hK ▸ pg_tup hc hg.pg hn hst) hs hw h1, fun S0 H0 S H σ ρ N r h => by
  refine hz.sd S H σ ρ _ r.relE (posts_of r h fun ss vs S' H' x' q h => ?_)
  split at h
  · rename_i hsl
    have lv : vs.length = is.length := q.length.trans hsl
    refine ⟨by rw [lv, sizeLine_eq]; omega, fun p hp => ?_⟩
    have sm : Same H' (upd H' p (.tup vs)) := same_upd hp
    refine ⟨p, vs, rfl, SqT.of upd_same, by rw [lv, hl], hg.sd _ vs σ _ lv ?_⟩
    exact h S' _ _ x'.s ((r.slots x' q is).grow sm)
  · exact h.elim⟩
end
end PD
namespace PD
open PySem L2
/-! ### dicts whose keys are ints or texts -/
def toKey : D → Option Key
  | .int i => some (.inl i)
  | .str x => some (.inr x)
  | _ => none
theorem toKey_kD (k : Key) : toKey (kD k) = some k := by cases k <;> rfl
theorem toKey_dv {K : PySem.W.Frag} {S : Hp} {v : V} {d : D} {k : Key} (h : DV K S v d) (e : toKey d = some k) : v = kV k := by
  cases d with
  | int i => cases e; exact h
  | str x => cases e; exact h
  | _ => cases e
/-- what stands at a key -/
def dAt : List (D × D) → Key → Option D
  | [], _ => none
  | (a, d) :: r, k => if toKey a = some k then some d else dAt r k
theorem dAt_val {K : PySem.W.Frag} {S : Hp} (k : Key) : ∀ {kvs : List (D × D)} {es : List (Key × V)}, kvs.map (·.1) = es.map (fun e => kD e.1) → DVp K S (es.map (·.2)) kvs → (dAt kvs k = none ∧ valV es k = none) ∨ ∃ d v, dAt kvs k = some d ∧ valV es k = some v ∧ DV K S v d
  | [], [], _, _ => .inl ⟨rfl, rfl⟩
  | (a, d) :: r, (e, v) :: es, hk, hd => by
    have h1 : a = kD e := (List.cons.inj hk).1
    have h2 : r.map (·.1) = es.map (fun e => kD e.1) := (List.cons.inj hk).2
    rw [List.map_cons, DVp] at hd
    by_cases he : e = k
    · refine .inr ⟨d, v, ?_, valV_pos he, hd.1⟩
      unfold dAt
      rw [h1, toKey_kD, he, if_pos rfl]
    · have e1 : dAt ((a, d) :: r) k = dAt r k := by
        conv => lhs; unfold dAt
        rw [h1, toKey_kD, if_neg (fun z => he (Option.some.inj z))]
      have e2 : valV ((e, v) :: es) k = valV es k := by
        unfold valV
        rw [List.find?_cons]
        have : decide ((e, v).1 = k) = false := decide_eq_false he
        rw [this]
      rw [e1, e2]
      exact dAt_val k h2 hd.2
  | [], _ :: _, hk, _ => by cases hk
  | _ :: _, [], hk, _ => by cases hk
theorem dv_dict {K : PySem.W.Frag} {S : Hp} {v : V} {kvs : List (D × D)} (h : DV K S v (.dict kvs)) : ∃ a, v = .ref a ∧ ((∃ es : List (Key × V), Rd S a (.dK es) ∧ kvs.map (·.1) = es.map (fun e => kD e.1) ∧ DVp K S (es.map (·.2)) kvs) ∨
      (∃ es : List (List Key × V), Rd S a (.dT es) ∧ kvs.map (·.1) = es.map (fun e => PyData.tuple (e.1.map kD)) ∧ DVp K S (es.map (·.2)) kvs)) := by
  rw [DV] at h
  exact h
/-- a dict with keys that are ints or texts -/
def plainK : List (D × D) → Bool
  | [] => true
  | (a, _) :: r => (toKey a).isSome && plainK r
theorem plain_of {K : PySem.W.Frag} {S : Hp} {a : Addr} {kvs : List (D × D)} (hp : plainK kvs = true) (hn : kvs ≠ []) (h : (∃ es : List (Key × V), Rd S a (.dK es) ∧ kvs.map (·.1) = es.map (fun e => kD e.1) ∧ DVp K S (es.map (·.2)) kvs) ∨
      (∃ es : List (List Key × V), Rd S a (.dT es) ∧ kvs.map (·.1) = es.map (fun e => PyData.tuple (e.1.map kD)) ∧ DVp K S (es.map (·.2)) kvs)) : ∃ es : List (Key × V), Rd S a (.dK es) ∧ kvs.map (·.1) = es.map (fun e => kD e.1) ∧ DVp K S (es.map (·.2)) kvs := by
  rcases h with h | ⟨es, h1, h2, h3⟩
  · exact h
  · cases kvs with
    | nil => exact absurd rfl hn
    | cons kv r =>
      obtain ⟨x, d⟩ := kv
      cases es with
      | nil => cases h2
      | cons e es =>
        have h4 : x = PyData.tuple (e.1.map kD) := (List.cons.inj h2).1
        subst h4
        unfold plainK at hp
        cases hp
theorem same_rd {S H : Hp} {a : Addr} {u : HO} (e : Same S H) (h : Rd S a u) : Rd H a u := rd_same e h
section
variable {K : PySem.W.Frag} {mg : Str → Option Value} {X : Cx} {E : XK} {o i e f : Expr} {td ty tx te : TE} {fd fk fx ff : DEnv → Res D} {pos : Pos}
/-! d[k] -/
def gDix : D → D → Res D
  | .dict kvs, kd => if (plainK kvs && !kvs.isEmpty) = true then (match toKey kd with
    | some k => (match dAt kvs k with
      | some d => .ok d
      | none => .bad)
    | none => .bad) else .bad
  | _, _ => .bad
theorem hu1 {A : Around} (h : A.units + 65 < cLine) : A.units + 1 < cLine := by omega
theorem ne_emp {kvs : List (D × D)} (h : (!kvs.isEmpty) = true) : kvs ≠ [] := fun z => by subst z; cases h
theorem pd_dget (hu : X.A.units + 65 < cLine) (hd : PD K mg X E o td fd) (hk : PD K mg X E i ty fk) (hs : NoSl i := by exact fun _ _ => rfl) : PD K mg X E (.Subscript o i pos) (tDGet td ty) (fBin gDix fd fk) := ⟨pe_dget (hu1 hu) hd.pe hk.pe hs, fun S H σ ρ Q rl h => by
  refine hd.sd S H σ ρ _ rl (h.bind fun d v S1 H1 x1 d1 h1 => ?_)
  refine hk.sd S1 H1 σ ρ _ (rl.mono x1) (h1.bind fun kd y S2 H2 x2 d2 h2 => ?_)
  unfold gDix at h2
  split at h2
  · rename_i kvs
    split at h2
    · rename_i c
      obtain ⟨c1, c2⟩ := and_split c
      cases ek : toKey kd with
      | none => rw [ek] at h2; exact h2.elim
      | some k =>
        rw [ek] at h2
        dsimp only at h2
        cases ed : dAt kvs k with
        | none => rw [ed] at h2; exact h2.elim
        | some dd =>
          rw [ed] at h2
          obtain ⟨a, rfl, q⟩ := dv_dict (d1.mono x2.s)
          obtain ⟨es, g1, g2, g3⟩ := plain_of c1 (ne_emp c2) q
          rcases dAt_val k g2 g3 with ⟨z, _⟩ | ⟨d', v', z1, z2, z3⟩
          · rw [z] at ed; cases ed
          · rw [z1] at ed
            cases ed
            exact ⟨a, v', rfl, .inl ⟨es, k, same_rd x2.sh g1, toKey_dv d2 ek, z2.symm⟩, h2.ok0 x2.sh z3⟩
    · exact h2.elim
  · exact h2.elim⟩
/-! k in d, k not in d -/
def gDin (neg : Bool) (kd d : D) : Res D := match d with
  | .dict kvs => if (plainK kvs && !kvs.isEmpty) = true then (match toKey kd with
    | some k => .ok (.bool (if neg then !(dAt kvs k).isSome else (dAt kvs k).isSome))
    | none => .bad) else .bad
  | _ => .bad
theorem din_sd (neg : Bool) (hk : PD K mg X E i ty fk) (hd : PD K mg X E o td fd) (S H : Hp) (σ : L2.St) (ρ : DEnv) (Q : VK) (rl : RelE K S H σ ρ) (h : PostG mg E S H (DV K) (fBin (gDin neg) fk fd ρ) Q) :
    ty σ H fun y H1 => td σ H1 fun x H2 => ∃ a o, x = .ref a ∧ DGet H2 a y o ∧ Q (.bl (if neg then !o.isSome else o.isSome)) H2 := by
  refine hk.sd S H σ ρ _ rl (h.bind fun kd y S1 H1 x1 d1 h1 => ?_)
  refine hd.sd S1 H1 σ ρ _ (rl.mono x1) (h1.bind fun d v S2 H2 x2 d2 h2 => ?_)
  unfold gDin at h2
  split at h2
  · rename_i kvs
    split at h2
    · rename_i c
      obtain ⟨c1, c2⟩ := and_split c
      cases ek : toKey kd with
      | none => rw [ek] at h2; exact h2.elim
      | some k =>
        rw [ek] at h2
        dsimp only at h2
        obtain ⟨a, rfl, q⟩ := dv_dict d2
        obtain ⟨es, g1, g2, g3⟩ := plain_of c1 (ne_emp c2) q
        refine ⟨a, valV es k, rfl, .inl ⟨es, k, same_rd x2.sh g1, toKey_dv (d1.mono x2.s) ek, rfl⟩, ?_⟩
        have e : (valV es k).isSome = (dAt kvs k).isSome := by
          rcases dAt_val k g2 g3 with ⟨z1, z2⟩ | ⟨d', v', z1, z2, z3⟩
          · rw [z1, z2]; rfl
          · rw [z1, z2]; rfl
        rw [e]
        exact h2.ok0 x2.sh rfl
    · exact h2.elim
  · exact h2.elim
theorem pd_din (hu : X.A.units + 65 < cLine) (hk : PD K mg X E i ty fk) (hd : PD K mg X E o td fd) (hm : behindInMarks .In o = false := by rfl) : PD K mg X E (.Compare i [.In] [o] pos) (tDIn ty td) (fBin (gDin false) fk fd) := ⟨pe_cmp (pc_din (hu1 hu) hk.pe hd.pe) hm, din_sd false hk hd⟩
theorem pd_dnotin (hu : X.A.units + 65 < cLine) (hk : PD K mg X E i ty fk) (hd : PD K mg X E o td fd) (hm : behindInMarks .NotIn o = false := by rfl) : PD K mg X E (.Compare i [.NotIn] [o] pos) (tDNotIn ty td) (fBin (gDin true) fk fd) := ⟨pe_cmp (pc_dnotin (hu1 hu) hk.pe hd.pe) hm, din_sd true hk hd⟩
theorem td_din (hu : X.A.units + 65 < cLine) (hk : PD K mg X E i ty fk) (hd : PD K mg X E o td fd) (hm : behindInMarks .In o = false := by rfl) : TD K mg X E (.Compare i [.In] [o] pos) (tTest (tDIn ty td)) (fTest (fBin (gDin false) fk fd)) := ⟨pt_cmp (pc_din (hu1 hu) hk.pe hd.pe) hm, fun S H σ ρ Q rl h => test_sd (pd_din (pos := pos) hu hk hd hm) S H σ ρ Q rl h⟩
theorem td_dnotin (hu : X.A.units + 65 < cLine) (hk : PD K mg X E i ty fk) (hd : PD K mg X E o td fd) (hm : behindInMarks .NotIn o = false := by rfl) : TD K mg X E (.Compare i [.NotIn] [o] pos) (tTest (tDNotIn ty td)) (fTest (fBin (gDin true) fk fd)) := ⟨pt_cmp (pc_dnotin (hu1 hu) hk.pe hd.pe) hm, fun S H σ ρ Q rl h => test_sd (pd_dnotin (pos := pos) hu hk hd hm) S H σ ρ Q rl h⟩
/-! d.get(k, x) -/
def asDict : D → Res (List (D × D))
  | .dict kvs => if plainK kvs = true then .ok kvs else .bad
  | _ => .bad
def gGet2 (kvs : List (D × D)) (kd x : D) : Res D := match toKey kd with
  | some k => .ok ((dAt kvs k).getD x)
  | none => .bad
def fGet2 (fd fk fx : DEnv → Res D) : DEnv → Res D := fun ρ => (fd ρ).bind fun d => (asDict d).bind fun kvs => (fk ρ).bind fun kd => (fx ρ).bind fun x => gGet2 kvs kd x
theorem dk_of_plain {S : Hp} {a : Addr} {kvs : List (D × D)} (hp : plainK kvs = true) (h : (∃ es : List (Key × V), Rd S a (.dK es) ∧ kvs.map (·.1) = es.map (fun e => kD e.1) ∧ DVp K S (es.map (·.2)) kvs) ∨
      (∃ es : List (List Key × V), Rd S a (.dT es) ∧ kvs.map (·.1) = es.map (fun e => PyData.tuple (e.1.map kD)) ∧ DVp K S (es.map (·.2)) kvs)) : (∃ es : List (Key × V), Rd S a (.dK es) ∧ kvs.map (·.1) = es.map (fun e => kD e.1) ∧ DVp K S (es.map (·.2)) kvs) ∨ (kvs = [] ∧ Rd S a (.dT [])) := by
  by_cases hn : kvs = []
  · subst hn
    rcases h with h | ⟨es, h1, h2, h3⟩
    · exact .inl h
    · cases es with
      | nil => exact .inr ⟨rfl, h1⟩
      | cons _ _ => cases h2
  · exact .inl (plain_of hp hn h)
end
end PD
namespace PD
open PySem L2
/-! ### expressions and tests that may read what a slot owns -/
structure PDO (K : PySem.W.Frag) (mg : Str → Option Value) (X : Cx) (E : XK) (e : Expr) (t : TE) (f : DEnv → Res D) : Prop where
  pe : PE X e t
  sd : ∀ (S0 H0 S H : Hp) (σ : L2.St) (ρ : DEnv) (Q : VK), Rel K S0 H0 S H σ ρ → PostG mg E S H (DV K) (f ρ) Q → t σ H Q
structure TDO (K : PySem.W.Frag) (mg : Str → Option Value) (X : Cx) (E : XK) (e : Expr) (t : TT) (f : DEnv → Res Bool) : Prop where
  pe : PT X e t
  sd : ∀ (S0 H0 S H : Hp) (σ : L2.St) (ρ : DEnv) (Q : Bool → Hp → Prop), Rel K S0 H0 S H σ ρ → PostG mg E S H EqB (f ρ) Q → t σ H Q
def kAt {κ : Type} [DecidableEq κ] : List (κ × D) → κ → Option D
  | [], _ => none
  | (a, d) :: r, k => if a = k then some d else kAt r k
theorem kAt_val {K : PySem.W.Frag} {S : Hp} {κ : Type} [DecidableEq κ] (k : κ) : ∀ {kvs : List (κ × D)} {es : List (κ × V)}, es.map (·.1) = kvs.map (·.1) → DVs K S (es.map (·.2)) (kvs.map (·.2)) → (kAt kvs k = none ∧ valV es k = none) ∨ ∃ d v, kAt kvs k = some d ∧ valV es k = some v ∧ DV K S v d
  | [], [], _, _ => .inl ⟨rfl, rfl⟩
  | (a, d) :: r, (e, v) :: es, hk, hd => by
    have h1 : e = a := (List.cons.inj hk).1
    have h2 : es.map (·.1) = r.map (·.1) := (List.cons.inj hk).2
    subst h1
    by_cases he : e = k
    · refine .inr ⟨d, v, ?_, valV_pos he, hd.1⟩
      unfold kAt
      rw [if_pos he]
    · have e1 : kAt ((e, d) :: r) k = kAt r k := by
        conv => lhs; unfold kAt
        rw [if_neg he]
      have e2 : valV ((e, v) :: es) k = valV es k := by
        unfold valV
        rw [List.find?_cons]
        have : decide ((e, v).1 = k) = false := decide_eq_false he
        rw [this]
      rw [e1, e2]
      exact kAt_val k h2 hd.2
  | [], _ :: _, hk, _ => by cases hk
  | _ :: _, [], hk, _ => by cases hk
/-- stored: in its place, or at the end -/
def kPut {κ : Type} [DecidableEq κ] (kvs : List (κ × D)) (k : κ) (d : D) : List (κ × D) := if (kvs.any fun kv => decide (kv.1 = k)) = true then kvs.map (fun kv => if kv.1 = k then (kv.1, d) else kv) else kvs ++ [(k, d)]
theorem keys_any {α β κ : Type} [DecidableEq κ] {es : List (κ × α)} {kvs : List (κ × β)} (k : κ) (h : es.map (·.1) = kvs.map (·.1)) : (es.any fun kv => decide (kv.1 = k)) = kvs.any fun kv => decide (kv.1 = k) := by
  have e1 : (es.any fun kv => decide (kv.1 = k)) = (es.map (·.1)).any fun a => decide (a = k) := by rw [List.any_map]; rfl
  have e2 : (kvs.any fun kv => decide (kv.1 = k)) = (kvs.map (·.1)).any fun a => decide (a = k) := by rw [List.any_map]; rfl
  rw [e1, e2, h]
theorem put_in {K : PySem.W.Frag} {S : Hp} {κ : Type} [DecidableEq κ] (k : κ) {v : V} {d : D} (hv : DV K S v d) : ∀ {es : List (κ × V)} {kvs : List (κ × D)}, es.map (·.1) = kvs.map (·.1) → DVs K S (es.map (·.2)) (kvs.map (·.2)) →
    (es.map (fun kv => if kv.1 = k then (kv.1, v) else kv)).map (·.1) = (kvs.map (fun kv => if kv.1 = k then (kv.1, d) else kv)).map (·.1) ∧ DVs K S ((es.map (fun kv => if kv.1 = k then (kv.1, v) else kv)).map (·.2)) ((kvs.map (fun kv => if kv.1 = k then (kv.1, d) else kv)).map (·.2))
  | [], [], _, _ => ⟨rfl, trivial⟩
  | (e, u) :: es, (a, b) :: kvs, hk, hd => by
    have h1 : e = a := (List.cons.inj hk).1
    subst h1
    obtain ⟨i1, i2⟩ := put_in k hv (es := es) (kvs := kvs) (List.cons.inj hk).2 hd.2
    simp only [List.map_cons]
    by_cases he : e = k
    · simp only [he, if_true]
      exact ⟨by rw [i1], hv, i2⟩
    · simp only [he, if_false]
      exact ⟨by rw [i1], hd.1, i2⟩
  | [], _ :: _, hk, _ => by cases hk
  | _ :: _, [], hk, _ => by cases hk
theorem kPut_ok {K : PySem.W.Frag} {S : Hp} {κ : Type} [DecidableEq κ] (k : κ) {v : V} {d : D} (hv : DV K S v d) {es : List (κ × V)} {kvs : List (κ × D)} (h1 : es.map (·.1) = kvs.map (·.1)) (h2 : DVs K S (es.map (·.2)) (kvs.map (·.2))) :
    (putK es k v).map (·.1) = (kPut kvs k d).map (·.1) ∧ DVs K S ((putK es k v).map (·.2)) ((kPut kvs k d).map (·.2)) := by
  unfold putK kPut
  rw [keys_any k h1]
  split
  · exact put_in k hv h1 h2
  · rw [List.map_append, List.map_append, List.map_append, List.map_append, h1]
    exact ⟨rfl, h2.append ⟨hv, trivial⟩⟩
/-- keys that are tuples of ints -/
def kOf : D → Key
  | .int i => Sum.inl i
  | _ => Sum.inl 0
def toKeyT : D → Option (List Key)
  | .tuple ds => if keyT ds = true then some (ds.map kOf) else none
  | _ => none
theorem dvs_keys {K : PySem.W.Frag} {S : Hp} : ∀ {vs : List V} {ds : List D}, allInt ds = true → DVs K S vs ds → vs = (ds.map kOf).map kV
  | [], [], _, _ => rfl
  | v :: vs, d :: ds, ha, h => by
    unfold allInt at ha
    rw [List.all_cons, Bool.and_eq_true] at ha
    rw [List.map_cons, List.map_cons, dvs_keys (vs := vs) (ds := ds) ha.2 h.2]
    cases d with
    | int i =>
      have : v = V.int i := h.1
      rw [this]
      rfl
    | _ => cases ha.1
  | [], _ :: _, _, h => h.elim
  | _ :: _, [], _, h => h.elim
theorem toKeyT_dv {K : PySem.W.Frag} {S : Hp} {v : V} {d : D} {k : List Key} (h : DV K S v d) (e : toKeyT d = some k) : ∃ b, v = .ref b ∧ S b = some (.tup (k.map kV)) := by
  cases d with
  | tuple ds =>
    unfold toKeyT at e
    dsimp only at e
    split at e
    · rename_i hk
      cases e
      rw [DV] at h
      obtain ⟨a, us, rfl, h1, h2⟩ := h
      have ha : allInt ds = true := (and_split hk).1
      refine ⟨a, rfl, ?_⟩
      rw [← dvs_keys ha h2]
      exact h1.2 hk
    · cases e
  | _ => cases e
/-- a slot's dict, read at a key: by the kind of the keys -/
def ownAt (s : Slot) (kd : D) : Option (Option D) := match s with
  | .ownK kvs => (toKey kd).map fun k => kAt kvs k
  | .ownT kvs => (toKeyT kd).map fun k => kAt kvs k
  | _ => none
theorem ownAt_get {K : PySem.W.Frag} {S H : Hp} {p : Addr} {s : Slot} {kd : D} {y : V} {o : Option D} (sh : Same S H) (hs : OwnOk K S H p s) (hy : DV K S y kd) (e : ownAt s kd = some o) : ∃ ov : Option V, DGet H p y ov ∧ ((o = none ∧ ov = none) ∨ ∃ d v, o = some d ∧ ov = some v ∧ DV K S v d) := by
  cases s with
  | ownK kvs =>
    obtain ⟨es, h1, h2, h3⟩ := hs
    unfold ownAt at e
    dsimp only at e
    cases ek : toKey kd with
    | none => rw [ek] at e; cases e
    | some k =>
      rw [ek] at e
      cases e
      refine ⟨valV es k, .inl ⟨es, k, .inl h1, toKey_dv hy ek, rfl⟩, kAt_val k h2 h3⟩
  | ownT kvs =>
    obtain ⟨es, h1, h2, h3⟩ := hs
    unfold ownAt at e
    dsimp only at e
    cases ek : toKeyT kd with
    | none => rw [ek] at e; cases e
    | some k =>
      rw [ek] at e
      cases e
      obtain ⟨b, rfl, hb⟩ := toKeyT_dv hy ek
      refine ⟨valV es k, .inr ⟨es, k, b, .inl h1, rfl, sh _ _ hb, rfl⟩, kAt_val k h2 h3⟩
  | _ => cases e
theorem ownOk_isD {K : PySem.W.Frag} {S H : Hp} {p : Addr} {s : Slot} {kd : D} {o : Option D} (hs : OwnOk K S H p s) (e : ownAt s kd = some o) : IsD H p := by
  cases s with
  | ownK kvs => obtain ⟨es, h1, _⟩ := hs; exact .inl ⟨es, .inl h1⟩
  | ownT kvs => obtain ⟨es, h1, _⟩ := hs; exact .inr ⟨es, .inl h1⟩
  | _ => cases e
theorem own_of {s : Slot} {kd : D} {o : Option D} (e : ownAt s kd = some o) : isOwn s = true := by
  cases s with
  | ownK kvs => rfl
  | ownT kvs => rfl
  | _ => cases e
section
variable {K : PySem.W.Frag} {mg : Str → Option Value} {X : Cx} {E : XK} {a b e o : Expr} {ta tb te ty tx : TE} {fa fb f fk fx : DEnv → Res D} {pos : Pos}
theorem pdo_of (h : PD K mg X E e te f) : PDO K mg X E e te f := ⟨h.pe, fun S0 H0 S H σ ρ Q r q => h.sd S H σ ρ Q r.relE q⟩
theorem pdo_op {op : Operator} {r : R2} {g : D → D → Res D} (ho : OpR X (binaryOp op) r) (hs : OpS K mg E r g) (ha : PDO K mg X E a ta fa) (hb : PDO K mg X E b tb fb) : PDO K mg X E (.BinOp a op b pos) (tOp r ta tb) (fBin g fa fb) :=
  ⟨pe_op ho ha.pe hb.pe, fun S0 H0 S H σ ρ Q rl h => by
    refine ha.sd S0 H0 S H σ ρ _ rl (h.bind fun x v S1 H1 x1 d1 h1 => ?_)
    refine hb.sd S0 H0 S1 H1 σ ρ _ (rl.ext x1) (h1.bind fun y u S2 H2 x2 d2 h2 => ?_)
    exact hs S2 H2 v u x y Q x2.sh (d1.mono x2.s) d2 h2⟩
theorem use_pdo (he : PDO K mg X E e te f) : Use K mg E te f := fun S0 H0 S H σ ρ N k Q r h hk =>
  he.sd S0 H0 S H σ ρ _ r (post_of r h fun a w S' H' _ x q h => hk a w S' H' (r.ext x) x.s x.h q h)
/-- a slot that owns a dict -/
def isDk : Slot → Bool
  | .ownK _ => true
  | .ownT _ => true
  | _ => false
theorem isDk_own {s : Slot} (h : isDk s = true) : isOwn s = true := by cases s <;> first | rfl | cases h
theorem isDk_isD {S H : Hp} {p : Addr} {s : Slot} (h : isDk s = true) (hs : OwnOk K S H p s) : IsD H p := by
  cases s with
  | ownK kvs => obtain ⟨es, h1, _⟩ := hs; exact .inl ⟨es, .inl h1⟩
  | ownT kvs => obtain ⟨es, h1, _⟩ := hs; exact .inr ⟨es, .inl h1⟩
  | _ => cases h
def onDk {α : Type} (i : Nat) (k : Slot → DEnv → Res α) : DEnv → Res α := fun ρ => match ρ[i]? with
  | some s => if isDk s = true then k s ρ else .bad
  | none => .bad
theorem onDk_of {α W : Type} {i : Nat} {k : Slot → DEnv → Res α} {S0 H0 S H : Hp} {σ : L2.St} {ρ : DEnv} {R : Hp → W → α → Prop} {Q : W → Hp → Prop} (rl : Rel K S0 H0 S H σ ρ) (h : PostG mg E S H R (onDk i k ρ) Q) : ∃ s q, ρ[i]? = some s ∧ isDk s = true ∧ σ[i]? = some (some (.ref q)) ∧ S q = none ∧ H0 q = none ∧ OwnOk K S H q s ∧ PostG mg E S H R (k s ρ) Q := by
  unfold onDk at h
  cases es : ρ[i]? with
  | none => rw [es] at h; exact h.elim
  | some s =>
    rw [es] at h
    dsimp only at h
    split at h
    · rename_i hd
      obtain ⟨q, g1, g2, g3, g4⟩ := rl.own i s es (isDk_own hd)
      exact ⟨s, q, rfl, hd, g1, g2, g3, g4, h⟩
    · exact h.elim
/-- x[k], x owned -/
def fOget (i : Nat) (fk : DEnv → Res D) : DEnv → Res D := onDk i fun s ρ => (fk ρ).bind fun kd => match ownAt s kd with
    | some (some d) => .ok d
    | _ => .bad
theorem pdo_get {i : Nat} {x : Str} {p : Pos} (hu : X.A.units + 65 < cLine) (hv : PE X (.Name x p) (tVar i)) (hk : PD K mg X E e ty fk) (hs : NoSl e := by exact fun _ _ => rfl) : PDO K mg X E (.Subscript (.Name x p) e pos) (tDGet (tVar i) ty) (fOget i fk) :=
  ⟨pe_dget (hu1 hu) hv hk.pe hs, fun S0 H0 S H σ ρ Q rl h => by
    obtain ⟨s, q, es, hd, g1, g2, g3, g4, h⟩ := onDk_of rl h
    refine ⟨_, g1, hk.sd S H σ ρ _ rl.relE (h.bind fun kd y S1 H1 x1 d1 h1 => ?_)⟩
    cases ea : ownAt s kd with
    | none => rw [ea] at h1; exact h1.elim
    | some od =>
      rw [ea] at h1
      cases od with
      | none => exact h1.elim
      | some d =>
        obtain ⟨ov, k1, k2⟩ := ownAt_get x1.sh (g4.mono x1.s fun _ z => x1.h _ _ z) d1 ea
        rcases k2 with ⟨z, _⟩ | ⟨d', v, z1, z2, z3⟩
        · cases z
        · cases z1
          subst z2
          exact ⟨q, v, rfl, k1, h1.ok0 x1.sh z3⟩⟩
/-- x.get(k, d), x owned -/
def fOget2 (i : Nat) (fk fx : DEnv → Res D) : DEnv → Res D := onDk i fun s ρ => (fk ρ).bind fun kd => (fx ρ).bind fun x => match ownAt s kd with
    | some o => .ok (o.getD x)
    | _ => .bad
theorem pdo_get2 {i : Nat} {x : Str} {p apos : Pos} (hu : X.A.units + 65 < cLine) (hv : PE X (.Name x p) (tVar i)) (hk : PD K mg X E a ty fk) (hx : PD K mg X E b tx fx)
    (h1 : attributeBase (.Name x p) "get" X.env (eval (.Name x p) X.env) = eval (.Name x p) X.env := by rfl)
    (h2 : ((backTo pos (starEach [a, b] X.env)).all (fun x => !x.1) && (backToKw pos (keywordEach [] X.env)).all (fun x => x.1.isSome) && decide (([a, b] : List Expr).length + ([] : List Keyword).length + (if ([] : List Keyword).isEmpty then 0 else 1) < 30)) = true := by rfl)
    (h3 : (apos.endLine == pos.line) = true := by rfl) (h4 : backTo pos (starEach [a, b] X.env) = [(false, eval a X.env), (false, eval b X.env)] := by rfl) :
    PDO K mg X E (.Call (.Attribute (.Name x p) "get" apos) [a, b] [] pos) (tDGet2 (tVar i) ty tx) (fOget2 i fk fx) :=
  ⟨pe_dget2 (hu1 hu) hv hk.pe hx.pe ⟨h1, h2, h3, h4⟩, fun S0 H0 S H σ ρ Q rl h => by
    obtain ⟨s, q, es, hd, g1, g2, g3, g4, h⟩ := onDk_of rl h
    refine ⟨_, g1, q, rfl, isDk_isD hd g4, hk.sd S H σ ρ _ rl.relE (h.bind fun kd y S1 H1 x1 d1 h1 => ?_)⟩
    refine hx.sd S1 H1 σ ρ _ (rl.relE.mono x1) (h1.bind fun dx z S2 H2 x2 d2 h2 => ?_)
    cases ea : ownAt s kd with
    | none => rw [ea] at h2; exact h2.elim
    | some o =>
      rw [ea] at h2
      obtain ⟨ov, k1, k2⟩ := ownAt_get x2.sh (g4.mono (x1.s.trans x2.s) fun _ z => x2.h _ _ (x1.h _ _ z)) (d1.mono x2.s) ea
      rcases k2 with ⟨z1, z2⟩ | ⟨d', v, z1, z2, z3⟩
      · subst z1 z2
        exact ⟨none, k1, h2.ok0 x2.sh d2⟩
      · subst z1 z2
        exact ⟨some v, k1, h2.ok0 x2.sh z3⟩⟩
/-- k in x, k not in x, x owned -/
def gOin (neg : Bool) (i : Nat) (fk : DEnv → Res D) : DEnv → Res Bool := fun ρ => (fk ρ).bind fun kd => onDk i (fun s _ => match ownAt s kd with
    | some o => .ok (if neg then !o.isSome else o.isSome)
    | _ => .bad) ρ
theorem oin_sd (neg : Bool) {i : Nat} (hk : PD K mg X E e ty fk) (S0 H0 S H : Hp) (σ : L2.St) (ρ : DEnv) (Q : Bool → Hp → Prop) (rl : Rel K S0 H0 S H σ ρ) (h : PostG mg E S H EqB (gOin neg i fk ρ) Q) :
    ty σ H fun y H1 => tVar i σ H1 fun x H2 => ∃ a o, x = .ref a ∧ DGet H2 a y o ∧ ∃ c, V.bl (if neg then !o.isSome else o.isSome) = .bl c ∧ Q c H2 := by
  refine hk.sd S H σ ρ _ rl.relE (h.bind fun kd y S1 H1 x1 d1 h1 => ?_)
  obtain ⟨s, q, es, hd, g1, g2, g3, g4, h1⟩ := onDk_of (rl.ext x1) h1
  cases ea : ownAt s kd with
  | none => rw [ea] at h1; exact h1.elim
  | some o =>
    rw [ea] at h1
    obtain ⟨ov, k1, k2⟩ := ownAt_get x1.sh g4 d1 ea
    refine ⟨_, g1, q, ov, rfl, k1, ?_⟩
    have e : ov.isSome = o.isSome := by
      rcases k2 with ⟨z1, z2⟩ | ⟨d', v, z1, z2, z3⟩
      · rw [z1, z2]; rfl
      · rw [z1, z2]; rfl
    rw [e]
    exact ⟨_, rfl, h1.ok0 x1.sh rfl⟩
theorem tdo_in {i : Nat} {x : Str} {p : Pos} (hu : X.A.units + 65 < cLine) (hv : PE X (.Name x p) (tVar i)) (hk : PD K mg X E e ty fk) (hm : behindInMarks .In (.Name x p) = false := by rfl) : TDO K mg X E (.Compare e [.In] [.Name x p] pos) (tB (tDIn ty (tVar i))) (gOin false i fk) :=
  ⟨pt_cmp (pc_din (hu1 hu) hk.pe hv) hm, fun S0 H0 S H σ ρ Q rl h => oin_sd false hk S0 H0 S H σ ρ Q rl h⟩
theorem tdo_notin {i : Nat} {x : Str} {p : Pos} (hu : X.A.units + 65 < cLine) (hv : PE X (.Name x p) (tVar i)) (hk : PD K mg X E e ty fk) (hm : behindInMarks .NotIn (.Name x p) = false := by rfl) : TDO K mg X E (.Compare e [.NotIn] [.Name x p] pos) (tB (tDNotIn ty (tVar i))) (gOin true i fk) :=
  ⟨pt_cmp (pc_dnotin (hu1 hu) hk.pe hv) hm, fun S0 H0 S H σ ρ Q rl h => oin_sd true hk S0 H0 S H σ ρ Q rl h⟩
theorem tdo_of {t : TT} {g : DEnv → Res Bool} (h : TD K mg X E e t g) : TDO K mg X E e t g := ⟨h.pe, fun S0 H0 S H σ ρ Q rl q => h.sd S H σ ρ Q rl.relE q⟩
/-- a and b, of two -/
theorem tdo_and {tA tB' : TT} {gA gB : DEnv → Res Bool} (ha : TDO K mg X E a tA gA) (hb : TDO K mg X E b tB' gB) : TDO K mg X E (.BoolOp .And [a, b] pos) (tAnd tA tB') (fAnd gA gB) :=
  ⟨(pw_and ha.pe (pw_and1 hb.pe)).pt, fun S0 H0 S H σ ρ Q rl h => ha.sd S0 H0 S H σ ρ _ rl (h.bind fun k w S1 H1 x1 e h1 => by
    cases e
    cases k with
    | true => exact hb.sd S0 H0 S1 H1 σ ρ Q (rl.ext x1) h1
    | false => exact h1.ok0 x1.sh rfl)⟩
def sIfO (g : DEnv → Res Bool) (F G : DEnv → SR) : DEnv → SR := fun ρ => ofRes (g ρ) fun b => if b = true then F ρ else G ρ
theorem sd_ifO {c : Expr} {as bs : List Stmt} {tc : TT} {t u : TS} {F G : DEnv → SR} {g : DEnv → Res Bool} (hc : TDO K mg X E c tc g) (ha : SDs K mg X E as t F) (hb : SDs K mg X E bs u G) : SD K mg X E (.If c as bs pos) (tIfS tc t u) (sIfO g F G) := ⟨ps_if hc.pe ha.ps hb.ps, fun S0 H0 S H σ ρ N r h =>
  hc.sd S0 H0 S H σ ρ _ r (post_of r h fun k w S' H' _ x q h => by
    cases q
    have r' := r.ext x
    cases k with
    | true => exact ha.sd S0 H0 S' H' σ ρ N r' (SPost.mono h x.s)
    | false => exact hb.sd S0 H0 S' H' σ ρ N r' (SPost.mono h x.s))⟩
/-- x = {} -/
def sOwnD (tk : Bool) (i : Nat) : DEnv → SR := fun ρ => .next (ρ.set i (if tk = true then .ownT [] else .ownK []))
theorem sd_ownK {i : Nat} {x : Str} {pos' p2 : Pos} (hN : X.N.Nodup) (hi : X.N[i]? = some x) (hx : Loc X.env.scope x := by first | exact Or.inl rfl | exact Or.inr rfl) (hs : swapsWith (.Dict [] [] p2) (some (.Name x pos')) pos.line X.env = pure false := by rfl) (hf : X.fn x = true ∨ X.env.scope.names.lookup x = some .local := by first | exact .inl rfl | exact .inr rfl | assumption) :
    SD K mg X E (.Assign [.Name x pos'] (.Dict [] [] p2) pos) (tAsg tDNewK (gName i)) (sOwnD false i) := ⟨ps_set hN hi hx pe_dnewK hs hf, fun S0 H0 S H σ ρ N r h p hp => by
  have sm : Same H (upd H p (.dK [])) := same_upd hp
  refine h S _ _ (Same.refl _) ((r.grow sm).setOwn (s := .ownK []) rfl (r.x.sh.free hp) (r.x.h.free hp) ⟨[], upd_same, rfl, trivial⟩ fun k s' e1 e2 e3 => ?_)
  obtain ⟨q, g1, _, _, g4⟩ := r.own k s' e1 e2
  obtain ⟨u, hu⟩ := g4.some
  rw [e3] at g1
  cases g1
  rw [hp] at hu
  cases hu⟩
theorem sd_ownT {i : Nat} {x : Str} {pos' p2 : Pos} (hN : X.N.Nodup) (hi : X.N[i]? = some x) (hx : Loc X.env.scope x := by first | exact Or.inl rfl | exact Or.inr rfl) (hs : swapsWith (.Dict [] [] p2) (some (.Name x pos')) pos.line X.env = pure false := by rfl) (hf : X.fn x = true ∨ X.env.scope.names.lookup x = some .local := by first | exact .inl rfl | exact .inr rfl | assumption) :
    SD K mg X E (.Assign [.Name x pos'] (.Dict [] [] p2) pos) (tAsg tDNewT (gName i)) (sOwnD true i) := ⟨ps_set hN hi hx pe_dnewT hs hf, fun S0 H0 S H σ ρ N r h p hp => by
  have sm : Same H (upd H p (.dT [])) := same_upd hp
  refine h S _ _ (Same.refl _) ((r.grow sm).setOwn (s := .ownT []) rfl (r.x.sh.free hp) (r.x.h.free hp) ⟨[], upd_same, rfl, trivial⟩ fun k s' e1 e2 e3 => ?_)
  obtain ⟨q, g1, _, _, g4⟩ := r.own k s' e1 e2
  obtain ⟨u, hu⟩ := g4.some
  rw [e3] at g1
  cases g1
  rw [hp] at hu
  cases hu⟩
/-- x[k] = e, x owned -/
def slotPut (s : Slot) (kd d : D) : Option Slot := match s with
  | .ownK kvs => if lenOk (kvs.length + 1) = true then (toKey kd).map fun k => .ownK (kPut kvs k d) else none
  | .ownT kvs => if lenOk (kvs.length + 1) = true then (toKeyT kd).map fun k => .ownT (kPut kvs k d) else none
  | _ => none
theorem slotPut_ok {S H : Hp} {p : Addr} {s s' : Slot} {kd d : D} {y v : V} (sh : Same S H) (hs : OwnOk K S H p s) (hy : DV K S y kd) (hv : DV K S v d) (e : slotPut s kd d = some s') : ∃ o, DPut H p y v (upd H p o) ∧ OwnOk K S (upd H p o) p s' ∧ isOwn s' = true := by
  cases s with
  | ownK kvs =>
    obtain ⟨es, h1, h2, h3⟩ := hs
    unfold slotPut at e
    dsimp only at e
    split at e
    · rename_i hz
      cases ek : toKey kd with
      | none => rw [ek] at e; cases e
      | some k =>
        rw [ek] at e
        cases e
        obtain ⟨q1, q2⟩ := kPut_ok k hv h2 h3
        refine ⟨.dK (putK es k v), .inl ⟨es, k, h1, toKey_dv hy ek, ?_, rfl⟩, ⟨_, upd_same, q1, q2⟩, rfl⟩
        have : es.length = kvs.length := by
          have := congrArg List.length h2
          rw [List.length_map, List.length_map] at this
          exact this
        rw [this]
        exact Nat.lt_of_lt_of_le (Nat.lt_succ_self _) (lenOk.le hz)
    · cases e
  | ownT kvs =>
    obtain ⟨es, h1, h2, h3⟩ := hs
    unfold slotPut at e
    dsimp only at e
    split at e
    · rename_i hz
      cases ek : toKeyT kd with
      | none => rw [ek] at e; cases e
      | some k =>
        rw [ek] at e
        cases e
        obtain ⟨q1, q2⟩ := kPut_ok k hv h2 h3
        obtain ⟨b, rfl, hb⟩ := toKeyT_dv hy ek
        refine ⟨.dT (putK es k v), .inr ⟨es, k, b, h1, rfl, sh _ _ hb, ?_, rfl⟩, ⟨_, upd_same, q1, q2⟩, rfl⟩
        have : es.length = kvs.length := by
          have := congrArg List.length h2
          rw [List.length_map, List.length_map] at this
          exact this
        rw [this]
        exact Nat.lt_of_lt_of_le (Nat.lt_succ_self _) (lenOk.le hz)
    · cases e
  | _ => cases e
def sDput (i : Nat) (fv fk : DEnv → Res D) : DEnv → SR := fun ρ => match ρ[i]? with
  | some s => if isDk s = true then ofRes (fv ρ) fun d => ofRes (fk ρ) fun kd => (match slotPut s kd d with
    | some s' => .next (ρ.set i s')
    | none => .bad) else .bad
  | none => .bad
theorem sd_dput {i : Nat} {x : Str} {p pos' : Pos} {k value : Expr} {tv : TE} {fv : DEnv → Res D} (hu : X.A.units + 65 < cLine) (hv : PE X (.Name x p) (tVar i)) (hk : PD K mg X E k ty fk) (he : PDO K mg X E value tv fv)
    (hs : swapsWith value (some (.Subscript (.Name x p) k pos')) pos.line X.env = pure false := by rfl) : SD K mg X E (.Assign [.Subscript (.Name x p) k pos'] value pos) (sDPut (tVar i) ty tv) (sDput i fv fk) := ⟨ps_dput (hu1 hu) hv hk.pe he.pe hs, fun S0 H0 S H σ ρ N r h => by
  unfold sDput at h
  cases es : ρ[i]? with
  | none => rw [es] at h; exact h.elim
  | some s =>
    rw [es] at h
    dsimp only at h
    split at h
    · rename_i hd
      obtain ⟨q, g1, g2, g3, g4⟩ := r.own i s es (isDk_own hd)
      refine use_pdo he S0 H0 S H σ ρ N _ _ r h fun d v S1 H1 r1 e1 e2 d1 h1 => ?_
      refine ⟨_, g1, hk.sd S1 H1 σ ρ _ r1.relE ?_⟩
      refine post_of r1 (SPost.mono h1 e1) fun kd y S2 H2 _ x2 d2 h2 => ?_
      cases ep : slotPut s kd d with
      | none => rw [ep] at h2; exact h2.elim
      | some s' =>
        rw [ep] at h2
        have r2 := r1.ext x2
        obtain ⟨q', k1, k2, k3, k4⟩ := r2.own i s es (isDk_own hd)
        rw [g1] at k1
        cases k1
        obtain ⟨o, w1, w2, w3⟩ := slotPut_ok x2.sh k4 d2 (d1.mono x2.s) ep
        exact ⟨q, _, rfl, w1, h2 S2 _ σ x2.s (r2.mut es (isDk_own hd) w3 g1 w2)⟩
    · exact h.elim⟩
end
end PD
namespace PD
open PySem L2
/-! ### shared dicts, of either kind of keys -/
def tupK : List (D × D) → Bool
  | [] => true
  | (a, _) :: r => (toKeyT a).isSome && tupK r
def dAtT : List (D × D) → List Key → Option D
  | [], _ => none
  | (a, d) :: r, k => if toKeyT a = some k then some d else dAtT r k
def dLook (kvs : List (D × D)) (kd : D) : Option (Option D) := if kvs.isEmpty = true then none else if plainK kvs = true then (toKey kd).map (dAt kvs) else if tupK kvs = true then (toKeyT kd).map (dAtT kvs) else none
theorem kOf_kD : ∀ {k : List Key}, allInt (k.map kD) = true → (k.map kD).map kOf = k
  | [], _ => rfl
  | x :: k, h => by
    unfold allInt at h
    rw [List.map_cons, List.all_cons, Bool.and_eq_true] at h
    rw [List.map_cons, List.map_cons, kOf_kD (k := k) h.2]
    cases x with
    | inl i => rfl
    | inr z => cases h.1
theorem toKeyT_tup {k : List Key} {k' : List Key} (h : toKeyT (.tuple (k.map kD)) = some k') : k = k' := by
  unfold toKeyT at h
  dsimp only at h
  split at h
  · rename_i hk
    cases h
    exact (kOf_kD (and_split hk).1).symm
  · cases h
theorem dAtT_val {K : PySem.W.Frag} {S : Hp} (k : List Key) : ∀ {kvs : List (D × D)} {es : List (List Key × V)}, tupK kvs = true → kvs.map (·.1) = es.map (fun e => PyData.tuple (e.1.map kD)) → DVp K S (es.map (·.2)) kvs → (dAtT kvs k = none ∧ valV es k = none) ∨ ∃ d v, dAtT kvs k = some d ∧ valV es k = some v ∧ DV K S v d
  | [], [], _, _, _ => .inl ⟨rfl, rfl⟩
  | (a, d) :: r, (e, v) :: es, ht, hk, hd => by
    have h1 : a = PyData.tuple (e.map kD) := (List.cons.inj hk).1
    have h2 : r.map (·.1) = es.map (fun e => PyData.tuple (e.1.map kD)) := (List.cons.inj hk).2
    rw [List.map_cons, DVp] at hd
    unfold tupK at ht
    rw [Bool.and_eq_true] at ht
    obtain ⟨k0, ek0⟩ := Option.isSome_iff_exists.mp ht.1
    have e0 : e = k0 := toKeyT_tup (by rw [← h1]; exact ek0)
    subst e0
    by_cases he : e = k
    · refine .inr ⟨d, v, ?_, valV_pos he, hd.1⟩
      unfold dAtT
      rw [ek0, he, if_pos rfl]
    · have e1 : dAtT ((a, d) :: r) k = dAtT r k := by
        conv => lhs; unfold dAtT
        rw [ek0, if_neg (fun z => he (Option.some.inj z))]
      have e2 : valV ((e, v) :: es) k = valV es k := by
        unfold valV
        rw [List.find?_cons]
        have : decide ((e, v).1 = k) = false := decide_eq_false he
        rw [this]
      rw [e1, e2]
      exact dAtT_val k ht.2 h2 hd.2
  | [], _ :: _, _, hk, _ => by cases hk
  | _ :: _, [], _, hk, _ => by cases hk
theorem tup_of {K : PySem.W.Frag} {S : Hp} {a : Addr} {kvs : List (D × D)} (hp : tupK kvs = true) (hn : kvs ≠ []) (h : (∃ es : List (Key × V), Rd S a (.dK es) ∧ kvs.map (·.1) = es.map (fun e => kD e.1) ∧ DVp K S (es.map (·.2)) kvs) ∨
      (∃ es : List (List Key × V), Rd S a (.dT es) ∧ kvs.map (·.1) = es.map (fun e => PyData.tuple (e.1.map kD)) ∧ DVp K S (es.map (·.2)) kvs)) : ∃ es : List (List Key × V), Rd S a (.dT es) ∧ kvs.map (·.1) = es.map (fun e => PyData.tuple (e.1.map kD)) ∧ DVp K S (es.map (·.2)) kvs := by
  rcases h with ⟨es, h1, h2, h3⟩ | h
  · cases kvs with
    | nil => exact absurd rfl hn
    | cons kv r =>
      obtain ⟨x, d⟩ := kv
      cases es with
      | nil => cases h2
      | cons e es =>
        obtain ⟨k, w⟩ := e
        have h4 : x = kD k := (List.cons.inj h2).1
        subst h4
        unfold tupK at hp
        cases k <;> cases hp
  · exact h
theorem look_get {K : PySem.W.Frag} {S H : Hp} {v y : V} {kvs : List (D × D)} {kd : D} {o : Option D} (sh : Same S H) (hd : DV K S v (.dict kvs)) (hy : DV K S y kd) (e : dLook kvs kd = some o) : ∃ a ov, v = .ref a ∧ IsD H a ∧ DGet H a y ov ∧ ((o = none ∧ ov = none) ∨ ∃ d w, o = some d ∧ ov = some w ∧ DV K S w d) := by
  unfold dLook at e
  split at e
  · cases e
  · rename_i hn
    have hn : kvs ≠ [] := fun z => hn (by rw [z]; rfl)
    obtain ⟨a, rfl, q⟩ := dv_dict hd
    split at e
    · rename_i hp
      obtain ⟨es, g1, g2, g3⟩ := plain_of hp hn q
      cases ek : toKey kd with
      | none => rw [ek] at e; cases e
      | some k =>
        rw [ek] at e
        cases e
        exact ⟨a, valV es k, rfl, .inl ⟨es, rd_same sh g1⟩, .inl ⟨es, k, rd_same sh g1, toKey_dv hy ek, rfl⟩, dAt_val k g2 g3⟩
    · split at e
      · rename_i hp
        obtain ⟨es, g1, g2, g3⟩ := tup_of hp hn q
        cases ek : toKeyT kd with
        | none => rw [ek] at e; cases e
        | some k =>
          rw [ek] at e
          cases e
          obtain ⟨b, rfl, hb⟩ := toKeyT_dv hy ek
          exact ⟨a, valV es k, rfl, .inr ⟨es, rd_same sh g1⟩, .inr ⟨es, k, b, rd_same sh g1, rfl, sh _ _ hb, rfl⟩, dAtT_val k hp g2 g3⟩
      · cases e
theorem look_isD {K : PySem.W.Frag} {S H : Hp} {v : V} {kvs : List (D × D)} (sh : Same S H) (hd : DV K S v (.dict kvs)) : ∃ a, v = .ref a ∧ IsD H a := by
  obtain ⟨a, rfl, q⟩ := dv_dict hd
  rcases q with ⟨es, g1, _⟩ | ⟨es, g1, _⟩
  · exact ⟨a, rfl, .inl ⟨es, rd_same sh g1⟩⟩
  · exact ⟨a, rfl, .inr ⟨es, rd_same sh g1⟩⟩
section
variable {K : PySem.W.Frag} {mg : Str → Option Value} {X : Cx} {E : XK} {o i a b : Expr} {td ty tx : TE} {fd fk fx : DEnv → Res D} {pos apos : Pos}
def asD : D → Res (List (D × D))
  | .dict kvs => .ok kvs
  | _ => .bad
/-! d[k] -/
def gSix (d kd : D) : Res D := (asD d).bind fun kvs => match dLook kvs kd with
  | some (some x) => .ok x
  | _ => .bad
theorem pd_sget (hu : X.A.units + 65 < cLine) (hd : PD K mg X E o td fd) (hk : PD K mg X E i ty fk) (hs : NoSl i := by exact fun _ _ => rfl) : PD K mg X E (.Subscript o i pos) (tDGet td ty) (fBin gSix fd fk) := ⟨pe_dget (hu1 hu) hd.pe hk.pe hs, fun S H σ ρ Q rl h => by
  refine hd.sd S H σ ρ _ rl (h.bind fun d v S1 H1 x1 d1 h1 => ?_)
  refine hk.sd S1 H1 σ ρ _ (rl.mono x1) (h1.bind fun kd y S2 H2 x2 d2 h2 => ?_)
  unfold gSix at h2
  cases d with
  | dict kvs =>
    have h2 : PostG mg E S2 H2 (DV K) (match dLook kvs kd with
      | some (some x) => .ok x
      | _ => .bad) Q := h2
    cases el : dLook kvs kd with
    | none => rw [el] at h2; exact h2.elim
    | some od =>
      rw [el] at h2
      cases od with
      | none => exact h2.elim
      | some dd =>
        obtain ⟨a, ov, rfl, _, k1, k2⟩ := look_get x2.sh (d1.mono x2.s) d2 el
        rcases k2 with ⟨z, _⟩ | ⟨d', w, z1, z2, z3⟩
        · cases z
        · cases z1
          subst z2
          exact ⟨a, w, rfl, k1, h2.ok0 x2.sh z3⟩
  | _ => exact h2.elim⟩
/-! k in d, k not in d -/
def gSin (neg : Bool) (kd d : D) : Res D := (asD d).bind fun kvs => match dLook kvs kd with
  | some o => .ok (.bool (if neg then !o.isSome else o.isSome))
  | _ => .bad
theorem sin_sd (neg : Bool) (hk : PD K mg X E i ty fk) (hd : PD K mg X E o td fd) (S H : Hp) (σ : L2.St) (ρ : DEnv) (Q : VK) (rl : RelE K S H σ ρ) (h : PostG mg E S H (DV K) (fBin (gSin neg) fk fd ρ) Q) :
    ty σ H fun y H1 => td σ H1 fun x H2 => ∃ a o, x = .ref a ∧ DGet H2 a y o ∧ Q (.bl (if neg then !o.isSome else o.isSome)) H2 := by
  refine hk.sd S H σ ρ _ rl (h.bind fun kd y S1 H1 x1 d1 h1 => ?_)
  refine hd.sd S1 H1 σ ρ _ (rl.mono x1) (h1.bind fun d v S2 H2 x2 d2 h2 => ?_)
  unfold gSin at h2
  cases d with
  | dict kvs =>
    have h2 : PostG mg E S2 H2 (DV K) (match dLook kvs kd with
      | some o => .ok (.bool (if neg then !o.isSome else o.isSome))
      | _ => .bad) Q := h2
    cases el : dLook kvs kd with
    | none => rw [el] at h2; exact h2.elim
    | some od =>
      rw [el] at h2
      obtain ⟨a, ov, rfl, _, k1, k2⟩ := look_get x2.sh d2 (d1.mono x2.s) el
      refine ⟨a, ov, rfl, k1, ?_⟩
      have e : ov.isSome = od.isSome := by
        rcases k2 with ⟨z1, z2⟩ | ⟨d', w, z1, z2, z3⟩
        · rw [z1, z2]; rfl
        · rw [z1, z2]; rfl
      rw [e]
      exact h2.ok0 x2.sh rfl
  | _ => exact h2.elim
theorem pd_sin (hu : X.A.units + 65 < cLine) (hk : PD K mg X E i ty fk) (hd : PD K mg X E o td fd) (hm : behindInMarks .In o = false := by rfl) : PD K mg X E (.Compare i [.In] [o] pos) (tDIn ty td) (fBin (gSin false) fk fd) := ⟨pe_cmp (pc_din (hu1 hu) hk.pe hd.pe) hm, sin_sd false hk hd⟩
theorem pd_snotin (hu : X.A.units + 65 < cLine) (hk : PD K mg X E i ty fk) (hd : PD K mg X E o td fd) (hm : behindInMarks .NotIn o = false := by rfl) : PD K mg X E (.Compare i [.NotIn] [o] pos) (tDNotIn ty td) (fBin (gSin true) fk fd) := ⟨pe_cmp (pc_dnotin (hu1 hu) hk.pe hd.pe) hm, sin_sd true hk hd⟩
theorem td_sin (hu : X.A.units + 65 < cLine) (hk : PD K mg X E i ty fk) (hd : PD K mg X E o td fd) (hm : behindInMarks .In o = false := by rfl) : TD K mg X E (.Compare i [.In] [o] pos) (tB (tDIn ty td)) (fTest (fBin (gSin false) fk fd)) := ⟨pt_cmp (pc_din (hu1 hu) hk.pe hd.pe) hm, fun S H σ ρ Q rl h => test_sd (pd_sin (pos := pos) hu hk hd hm) S H σ ρ Q rl h⟩
theorem td_snotin (hu : X.A.units + 65 < cLine) (hk : PD K mg X E i ty fk) (hd : PD K mg X E o td fd) (hm : behindInMarks .NotIn o = false := by rfl) : TD K mg X E (.Compare i [.NotIn] [o] pos) (tB (tDNotIn ty td)) (fTest (fBin (gSin true) fk fd)) := ⟨pt_cmp (pc_dnotin (hu1 hu) hk.pe hd.pe) hm, fun S H σ ρ Q rl h => test_sd (pd_snotin (pos := pos) hu hk hd hm) S H σ ρ Q rl h⟩
/-! d.get(k), d.get(k, x) -/
def fSget2 (fd fk fx : DEnv → Res D) : DEnv → Res D := fun ρ => (fd ρ).bind fun d => (asD d).bind fun kvs => (fk ρ).bind fun kd => (fx ρ).bind fun x => match dLook kvs kd with
  | some o => .ok (o.getD x)
  | _ => .bad
def fSget1 (fd fk : DEnv → Res D) : DEnv → Res D := fun ρ => (fd ρ).bind fun d => (asD d).bind fun kvs => (fk ρ).bind fun kd => match dLook kvs kd with
  | some o => .ok (o.getD .none)
  | _ => .bad
theorem pd_sget2 (hu : X.A.units + 65 < cLine) (hd : PD K mg X E o td fd) (hk : PD K mg X E a ty fk) (hx : PD K mg X E b tx fx)
    (h1 : attributeBase o "get" X.env (eval o X.env) = eval o X.env := by rfl)
    (h2 : ((backTo pos (starEach [a, b] X.env)).all (fun x => !x.1) && (backToKw pos (keywordEach [] X.env)).all (fun x => x.1.isSome) && decide (([a, b] : List Expr).length + ([] : List Keyword).length + (if ([] : List Keyword).isEmpty then 0 else 1) < 30)) = true := by rfl)
    (h3 : (apos.endLine == pos.line) = true := by rfl) (h4 : backTo pos (starEach [a, b] X.env) = [(false, eval a X.env), (false, eval b X.env)] := by rfl) :
    PD K mg X E (.Call (.Attribute o "get" apos) [a, b] [] pos) (tDGet2 td ty tx) (fSget2 fd fk fx) :=
  ⟨pe_dget2 (hu1 hu) hd.pe hk.pe hx.pe ⟨h1, h2, h3, h4⟩, fun S H σ ρ Q rl h => by
    refine hd.sd S H σ ρ _ rl (h.bind fun d v S1 H1 x1 d1 h1 => ?_)
    cases d with
    | dict kvs =>
      obtain ⟨q, rfl, g⟩ := look_isD x1.sh d1
      have h1 : PostG mg E S1 H1 (DV K) ((fk ρ).bind fun kd => (fx ρ).bind fun x => match dLook kvs kd with
        | some o => .ok (o.getD x)
        | _ => .bad) Q := h1
      refine ⟨q, rfl, g, hk.sd S1 H1 σ ρ _ (rl.mono x1) (h1.bind fun kd y S2 H2 x2 d2 h2 => ?_)⟩
      refine hx.sd S2 H2 σ ρ _ ((rl.mono x1).mono x2) (h2.bind fun dx z S3 H3 x3 d3 h3 => ?_)
      cases el : dLook kvs kd with
      | none => rw [el] at h3; exact h3.elim
      | some od =>
        rw [el] at h3
        obtain ⟨a', ov, e', _, k1, k2⟩ := look_get x3.sh ((d1.mono x2.s).mono x3.s) (d2.mono x3.s) el
        cases e'
        rcases k2 with ⟨z1, z2⟩ | ⟨d', w, z1, z2, z3⟩
        · subst z1 z2
          exact ⟨none, k1, h3.ok0 x3.sh d3⟩
        · subst z1 z2
          exact ⟨some w, k1, h3.ok0 x3.sh z3⟩
    | _ => exact h1.elim⟩
theorem pd_sget1 (hu : X.A.units + 65 < cLine) (hd : PD K mg X E o td fd) (hk : PD K mg X E a ty fk)
    (h1 : attributeBase o "get" X.env (eval o X.env) = eval o X.env := by rfl)
    (h2 : ((backTo pos (starEach [a] X.env)).all (fun x => !x.1) && (backToKw pos (keywordEach [] X.env)).all (fun x => x.1.isSome) && decide (([a] : List Expr).length + ([] : List Keyword).length + (if ([] : List Keyword).isEmpty then 0 else 1) < 30)) = true := by rfl)
    (h3 : (apos.endLine == pos.line) = true := by rfl) (h4 : backTo pos (starEach [a] X.env) = [(false, eval a X.env)] := by rfl) :
    PD K mg X E (.Call (.Attribute o "get" apos) [a] [] pos) (tDGet1 td ty) (fSget1 fd fk) :=
  ⟨pe_dget1 (hu1 hu) hd.pe hk.pe ⟨h1, h2, h3, h4⟩, fun S H σ ρ Q rl h => by
    refine hd.sd S H σ ρ _ rl (h.bind fun d v S1 H1 x1 d1 h1 => ?_)
    cases d with
    | dict kvs =>
      obtain ⟨q, rfl, g⟩ := look_isD x1.sh d1
      have h1 : PostG mg E S1 H1 (DV K) ((fk ρ).bind fun kd => match dLook kvs kd with
        | some o => .ok (o.getD .none)
        | _ => .bad) Q := h1
      refine ⟨q, rfl, g, hk.sd S1 H1 σ ρ _ (rl.mono x1) (h1.bind fun kd y S2 H2 x2 d2 h2 => ?_)⟩
      cases el : dLook kvs kd with
      | none => rw [el] at h2; exact h2.elim
      | some od =>
        rw [el] at h2
        obtain ⟨a', ov, e', _, k1, k2⟩ := look_get x2.sh (d1.mono x2.s) d2 el
        cases e'
        rcases k2 with ⟨z1, z2⟩ | ⟨d', w, z1, z2, z3⟩
        · subst z1 z2
          exact ⟨none, k1, h2.ok0 x2.sh rfl⟩
        · subst z1 z2
          exact ⟨some w, k1, h2.ok0 x2.sh z3⟩
    | _ => exact h1.elim⟩
/-! min(d), max(d), sorted(d), the keys ints -/
def keysI : List (D × D) → Option (List Int)
  | [] => some []
  | (.int i, _) :: r => (keysI r).map (i :: ·)
  | _ :: _ => none
theorem keysI_map : ∀ {kvs : List (D × D)} {is : List Int}, keysI kvs = some is → kvs.map (·.1) = is.map PyData.int
  | [], is, h => by cases h; rfl
  | (a, d) :: r, is, h => by
    cases a with
    | int i =>
      unfold keysI at h
      cases e : keysI r with
      | none => rw [e] at h; cases h
      | some js =>
        rw [e] at h
        cases h
        rw [List.map_cons, keysI_map e]
        rfl
    | _ => cases h
theorem kD_inl : ∀ {ks : List Key} {is : List Int}, is.map PyData.int = ks.map kD → ks = is.map Sum.inl
  | [], [], _ => rfl
  | k :: ks, i :: is, h => by
    have h1 : PyData.int i = kD k := (List.cons.inj h).1
    rw [List.map_cons, kD_inl (List.cons.inj h).2]
    cases k with
    | inl j => cases h1; rfl
    | inr z => cases h1
  | [], _ :: _, h => by cases h
  | _ :: _, [], h => by cases h
theorem keysI_of {S : Hp} {v : V} {kvs : List (D × D)} {is : List Int} (hk : keysI kvs = some is) (hn : is ≠ []) (h : DV K S v (.dict kvs)) : ∃ a es, v = .ref a ∧ Rd S a (.dK es) ∧ es.map (·.1) = is.map Sum.inl := by
  obtain ⟨a, rfl, q⟩ := dv_dict h
  have hm := keysI_map hk
  rcases q with ⟨es, g1, g2, _⟩ | ⟨es, g1, g2, _⟩
  · refine ⟨a, es, rfl, g1, kD_inl ?_⟩
    rw [← hm, g2, List.map_map]
    rfl
  · exfalso
    rw [hm] at g2
    cases is with
    | nil => exact hn rfl
    | cons i is =>
      cases es with
      | nil => cases g2
      | cons e es =>
        have := (List.cons.inj g2).1
        cases this
def rMinR : List V → Hp → VK → Prop := fun vs H Q => ∃ (a : Addr) (kvs : List (Key × V)) (is : List Int), vs = [V.ref a] ∧ Rd H a (.dK kvs) ∧ kvs.map (·.1) = is.map Sum.inl ∧ is ≠ [] ∧ ∀ m, m ∈ is → (∀ j ∈ is, m ≤ j) → Q (.int m) H
def rMaxR : List V → Hp → VK → Prop := fun vs H Q => ∃ (a : Addr) (kvs : List (Key × V)) (is : List Int), vs = [V.ref a] ∧ Rd H a (.dK kvs) ∧ kvs.map (·.1) = is.map Sum.inl ∧ is ≠ [] ∧ ∀ m, m ∈ is → (∀ j ∈ is, j ≤ m) → Q (.int m) H
theorem hval_of {vs : List (Key × Value)} {is : List Int} (hkeys : vs.map (·.1) = is.map Sum.inl) : ∀ (i : Nat) (v : Value), (∃ k x, vs[i]? = some (k, x) ∧ (mixKind X.prog X.w).is k v = true) → ∃ t, v = Value.int (is.getD i 0) t := fun i v ⟨k, x, hk, hkey⟩ => by
  have e1 : (vs.map (·.1))[i]? = some k := by rw [List.getElem?_map, hk] <;> rfl
  rw [hkeys, List.getElem?_map] at e1
  obtain ⟨j, hj, e2⟩ := Option.map_eq_some_iff.mp e1
  subst e2
  have hi : Value.isInt j v = true := hkey
  obtain ⟨t, e3⟩ := Value.isInt_shape (k := j) (v := v) hi
  refine ⟨t, ?_⟩
  rw [e3, List.getD_eq_getElem?_getD, hj] <;> rfl
theorem c_minR (hc : X.calm = true) : CallR X (.builtin "min") rMinR := by
  intro pins s σ H vs us Q I r h
  obtain ⟨a, kvs, is, rfl, ha, hv, hne, q⟩ := h
  rw [Vals.ref1 r]
  obtain ⟨_, hsys, vs, rel, dof⟩ := dk_rd I.hok ha
  obtain ⟨ep, dat⟩ := dof.dictAt
  obtain ⟨ob, es, ho, hex, hdat, hko, hpr, hnd⟩ := id dat
  have hlt : a < s.heap.objs.size := Heap.lt_size ho
  have hkeys : vs.map (·.1) = is.map Sum.inl := (KV.keys rel).symm.trans hv
  have hlv : vs.length = is.length := by
    have e1 := congrArg List.length hkeys
    rw [List.length_map, List.length_map] at e1
    exact e1
  have hlen : 0 < vs.length := by
    rw [hlv]
    exact List.length_pos_iff.mpr hne
  refine call_min_walk (wpAny_pyIter_dict (knd := mixKind X.prog X.w) hsys dat ?_)
  refine ⟨_, _, _, _, _, _, _, rfl, PySem.Walks.dictKeys (knd := mixKind X.prog X.w) (A := X.A.in1) (I.ok.hd hc) s.heap.objs.size a (Nat.ne_of_lt hlt) vs ep,
    ⟨⟨_, Heap.get?_push_size _ rfl, rfl, rfl⟩, dat.keep fun b u e => Heap.get?_push_of_some _ e⟩, fun b hb => ?_, hlen, CmpOf.ints_lt (fun i => is.getD i 0) (hval_of hkeys), fun v h' tk hP hk => ?_⟩
  · show b < (s.heap.push _).objs.size
    rw [Heap.size_push]
    rcases List.mem_cons.mp hb with e | hb
    · rw [e]
      exact Nat.lt_succ_self _
    · rw [List.mem_singleton.mp hb]
      exact Nat.lt_succ_of_lt hlt
  · obtain ⟨t, rfl⟩ := hval_of hkeys _ v hP
    obtain ⟨b1, b2⟩ := argBest_lt (fun i => is.getD i 0) (vs.length - 1)
    refine ⟨.int _, H, I.kept (t' := tk) fun b u e => hk b u (fun hmem => ?_) (Heap.get?_push_of_some _ e), ⟨t, rfl⟩, q _ ?_ fun j hj => ?_⟩
    · have e1 : b = s.heap.objs.size := List.mem_singleton.mp hmem
      have e2 := Heap.lt_size e
      rw [e1] at e2
      exact absurd e2 (Nat.lt_irrefl _)
    · have hb : argBest (fun i j => decide (is.getD i 0 < is.getD j 0)) (vs.length - 1) < is.length := by omega
      rw [List.getD_eq_getElem?_getD, List.getElem?_eq_getElem hb]
      exact List.getElem_mem hb
    · obtain ⟨i, hi, e⟩ := List.mem_iff_getElem.mp hj
      have e2 : is.getD i 0 = j := by rw [List.getD_eq_getElem?_getD, List.getElem?_eq_getElem hi, ← e] <;> rfl
      rw [← e2]
      exact b2 i (by omega)
theorem c_maxR (hc : X.calm = true) : CallR X (.builtin "max") rMaxR := by
  intro pins s σ H vs us Q I r h
  obtain ⟨a, kvs, is, rfl, ha, hv, hne, q⟩ := h
  rw [Vals.ref1 r]
  obtain ⟨_, hsys, vs, rel, dof⟩ := dk_rd I.hok ha
  obtain ⟨ep, dat⟩ := dof.dictAt
  obtain ⟨ob, es, ho, hex, hdat, hko, hpr, hnd⟩ := id dat
  have hlt : a < s.heap.objs.size := Heap.lt_size ho
  have hkeys : vs.map (·.1) = is.map Sum.inl := (KV.keys rel).symm.trans hv
  have hlv : vs.length = is.length := by
    have e1 := congrArg List.length hkeys
    rw [List.length_map, List.length_map] at e1
    exact e1
  have hlen : 0 < vs.length := by
    rw [hlv]
    exact List.length_pos_iff.mpr hne
  refine call_max_walk (wpAny_pyIter_dict (knd := mixKind X.prog X.w) hsys dat ?_)
  refine ⟨_, _, _, _, _, _, _, rfl, PySem.Walks.dictKeys (knd := mixKind X.prog X.w) (A := X.A.in1) (I.ok.hd hc) s.heap.objs.size a (Nat.ne_of_lt hlt) vs ep,
    ⟨⟨_, Heap.get?_push_size _ rfl, rfl, rfl⟩, dat.keep fun b u e => Heap.get?_push_of_some _ e⟩, fun b hb => ?_, hlen, CmpOf.ints_gt (fun i => is.getD i 0) (hval_of hkeys), fun v h' tk hP hk => ?_⟩
  · show b < (s.heap.push _).objs.size
    rw [Heap.size_push]
    rcases List.mem_cons.mp hb with e | hb
    · rw [e]
      exact Nat.lt_succ_self _
    · rw [List.mem_singleton.mp hb]
      exact Nat.lt_succ_of_lt hlt
  · obtain ⟨t, rfl⟩ := hval_of hkeys _ v hP
    obtain ⟨b1, b2⟩ := argBest_gt (fun i => is.getD i 0) (vs.length - 1)
    refine ⟨.int _, H, I.kept (t' := tk) fun b u e => hk b u (fun hmem => ?_) (Heap.get?_push_of_some _ e), ⟨t, rfl⟩, q _ ?_ fun j hj => ?_⟩
    · have e1 : b = s.heap.objs.size := List.mem_singleton.mp hmem
      have e2 := Heap.lt_size e
      rw [e1] at e2
      exact absurd e2 (Nat.lt_irrefl _)
    · have hb : argBest (fun i j => decide (is.getD i 0 > is.getD j 0)) (vs.length - 1) < is.length := by omega
      rw [List.getD_eq_getElem?_getD, List.getElem?_eq_getElem hb]
      exact List.getElem_mem hb
    · obtain ⟨i, hi, e⟩ := List.mem_iff_getElem.mp hj
      have e2 : is.getD i 0 = j := by rw [List.getD_eq_getElem?_getD, List.getElem?_eq_getElem hi, ← e] <;> rfl
      rw [← e2]
      exact b2 i (by omega)
def gMinK : List D → Res D
  | [.dict kvs] => match keysI kvs with
    | some (i :: is) => .ok (.int (minI (i :: is)))
    | _ => .bad
  | _ => .bad
def gMaxK : List D → Res D
  | [.dict kvs] => match keysI kvs with
    | some (i :: is) => .ok (.int (maxI (i :: is)))
    | _ => .bad
  | _ => .bad
theorem cs_minK : CaS K mg E rMinR gMinK := fun S H xs ds Q sh dv h => by
  unfold gMinK at h
  split at h
  · split at h
    · rename_i i is e
      obtain ⟨v, rfl, hv⟩ := dvs1 dv
      obtain ⟨a, es, rfl, g1, g2⟩ := keysI_of e (by simp) hv
      refine ⟨a, es, i :: is, rfl, rd_same sh g1, g2, by simp, fun m hm hle => ?_⟩
      obtain ⟨k1, k2⟩ := minI_spec (i :: is) (by simp)
      have e : m = minI (i :: is) := Int.le_antisymm (hle _ k1) (k2 m hm)
      rw [e]
      exact h.ok0 sh rfl
    · exact h.elim
  · exact h.elim
theorem cs_maxK : CaS K mg E rMaxR gMaxK := fun S H xs ds Q sh dv h => by
  unfold gMaxK at h
  split at h
  · split at h
    · rename_i i is e
      obtain ⟨v, rfl, hv⟩ := dvs1 dv
      obtain ⟨a, es, rfl, g1, g2⟩ := keysI_of e (by simp) hv
      refine ⟨a, es, i :: is, rfl, rd_same sh g1, g2, by simp, fun m hm hle => ?_⟩
      obtain ⟨k1, k2⟩ := maxI_spec (i :: is) (by simp)
      have e : m = maxI (i :: is) := Int.le_antisymm (k2 m hm) (hle _ k1)
      rw [e]
      exact h.ok0 sh rfl
    · exact h.elim
  · exact h.elim
def rSortR : List V → Hp → VK → Prop := fun xs H Q => ∃ (a : Addr) (kvs : List (Key × V)) (ks : List Int), xs = [.ref a] ∧ Rd H a (.dK kvs) ∧ kvs.map (·.1) = ks.map Sum.inl ∧ ks.length < 64 ∧
    ∀ (ys : List Int) (p : Addr), ys.Perm ks → ys.Pairwise (· ≤ ·) → H p = none → Q (.ref p) (upd H p (.lst (ys.map V.int)))
theorem c_sortR (hc : X.calm = true) : CallR X (.builtin "sorted") rSortR := call_sortedDI hc
def sortI (ns : List Int) : List Int := ns.mergeSort (fun a b => decide (a ≤ b))
theorem sortI_perm (ns : List Int) : (sortI ns).Perm ns := List.mergeSort_perm ns _
theorem sortI_sorted (ns : List Int) : (sortI ns).Pairwise (· ≤ ·) := by
  have := List.pairwise_mergeSort (le := fun a b : Int => decide (a ≤ b)) (fun a b c h1 h2 => by simp only [decide_eq_true_eq] at *; omega) (fun a b => by simp only [Bool.or_eq_true, decide_eq_true_eq]; omega) ns
  exact this.imp fun h => of_decide_eq_true h
theorem sort_unique {xs ys : List Int} (h1 : xs.Perm ys) (hx : xs.Pairwise (· ≤ ·)) (hy : ys.Pairwise (· ≤ ·)) : xs = ys := List.Perm.eq_of_pairwise (fun a b _ _ h1 h2 => Int.le_antisymm h1 h2) hx hy h1
def gSortK : List D → Res D
  | [.dict kvs] => match keysI kvs with
    | some (i :: is) => if (i :: is).length < 64 then .ok (.list ((sortI (i :: is)).map PyData.int)) else .bad
    | _ => .bad
  | _ => .bad
theorem cs_sortK : CaS K mg E rSortR gSortK := fun S H xs ds Q sh dv h => by
  unfold gSortK at h
  split at h
  · split at h
    · rename_i i is e
      split at h
      · rename_i hz
        obtain ⟨v, rfl, hv⟩ := dvs1 dv
        obtain ⟨a, es, rfl, g1, g2⟩ := keysI_of e (by simp) hv
        refine ⟨a, es, i :: is, rfl, rd_same sh g1, g2, hz, fun ys p hp hs hn => ?_⟩
        have e : ys = sortI (i :: is) := sort_unique (hp.trans (sortI_perm _).symm) hs (sortI_sorted _)
        subst e
        exact new_lst sh (dvs_ints _) h hn
      · exact h.elim
    · exact h.elim
  · exact h.elim
end
end PD
namespace PD
open PySem L2
/-! ### a dict that is walked is locked for the while -/
def noFz : HO → Bool
  | .frz _ _ => false
  | _ => true
structure RdMap (S T : Hp) : Prop where
  rd : ∀ (b : Addr) (u : HO), noFz u = true → Rd S b u → Rd T b u
  tp : ∀ (b : Addr) (xs : List V), S b = some (.tup xs) → T b = some (.tup xs)
mutual
theorem DV.rdm {K : PySem.W.Frag} {S T : Hp} (e : RdMap S T) : ∀ (d : D) (v : V), DV K S v d → DV K T v d
  | .none, v, h => by rw [DV] at h ⊢; exact h
  | .bool b, v, h => by rw [DV] at h ⊢; exact h
  | .int b, v, h => by rw [DV] at h ⊢; exact h
  | .str b, v, h => by rw [DV] at h ⊢; exact h
  | .list ds, v, h => by
    rw [DV] at h ⊢
    obtain ⟨a, xs, h1, h2, h3⟩ := h
    refine ⟨a, xs, h1, ?_, DVs.rdm e ds xs h3⟩
    rcases h2 with h | h
    · exact .inl (e.rd _ _ rfl h)
    · exact .inr h
  | .tuple ds, v, h => by
    rw [DV] at h ⊢
    obtain ⟨a, xs, h1, h2, h3⟩ := h
    refine ⟨a, xs, h1, ⟨?_, fun z => e.tp _ _ (h2.2 z)⟩, DVs.rdm e ds xs h3⟩
    rcases h2.1 with h | h
    · exact .inl (e.rd _ _ rfl h)
    · exact .inr h
  | .dict kvs, v, h => by
    rw [DV] at h ⊢
    obtain ⟨a, h1, h2⟩ := h
    refine ⟨a, h1, ?_⟩
    rcases h2 with ⟨es, h2, h3, h4⟩ | ⟨es, h2, h3, h4⟩
    · exact .inl ⟨es, e.rd _ _ rfl h2, h3, DVp.rdm e kvs _ h4⟩
    · exact .inr ⟨es, e.rd _ _ rfl h2, h3, DVp.rdm e kvs _ h4⟩
theorem DVs.rdm {K : PySem.W.Frag} {S T : Hp} (e : RdMap S T) : ∀ (ds : List D) (vs : List V), DVs K S vs ds → DVs K T vs ds
  | [], [], _ => by rw [DVs]; trivial
  | d :: ds, v :: vs, h => by
    rw [DVs] at h ⊢
    exact ⟨DV.rdm e d v h.1, DVs.rdm e ds vs h.2⟩
  | [], _ :: _, h => by rw [DVs] at h; exact h.elim
  | _ :: _, [], h => by rw [DVs] at h; exact h.elim
theorem DVp.rdm {K : PySem.W.Frag} {S T : Hp} (e : RdMap S T) : ∀ (ds : List (D × D)) (vs : List V), DVp K S vs ds → DVp K T vs ds
  | [], [], _ => by rw [DVp]; trivial
  | (_, d) :: ds, v :: vs, h => by
    rw [DVp] at h ⊢
    exact ⟨DV.rdm e d v h.1, DVp.rdm e ds vs h.2⟩
  | [], _ :: _, h => by rw [DVp] at h; exact h.elim
  | _ :: _, [], h => by rw [DVp] at h; exact h.elim
end
theorem rdm_lock {S : Hp} {a : Addr} {o : Obj} {es : List (Key × V)} (h : S a = some (.dK es)) : RdMap S (upd S a (.frz o (.dK es))) := by
  refine ⟨fun b u hz r => ?_, fun b xs e => ?_⟩
  · by_cases hb : b = a
    · subst hb
      rcases r with r | ⟨o', r⟩
      · rw [h] at r; cases r; exact .inr ⟨o, upd_same⟩
      · rw [h] at r; cases r
    · rcases r with r | ⟨o', r⟩
      · exact .inl (by rw [upd_ne hb]; exact r)
      · exact .inr ⟨o', by rw [upd_ne hb]; exact r⟩
  · have hb : b ≠ a := fun z => by subst z; rw [h] at e; cases e
    rw [upd_ne hb]
    exact e
theorem rdm_unlock {S : Hp} {a : Addr} {o : Obj} {es : List (Key × V)} (h : S a = some (.frz o (.dK es))) : RdMap S (upd S a (.dK es)) := by
  refine ⟨fun b u hz r => ?_, fun b xs e => ?_⟩
  · by_cases hb : b = a
    · subst hb
      rcases r with r | ⟨o', r⟩
      · rw [h] at r
        cases r
        cases hz
      · rw [h] at r; cases r; exact .inl upd_same
    · rcases r with r | ⟨o', r⟩
      · exact .inl (by rw [upd_ne hb]; exact r)
      · exact .inr ⟨o', by rw [upd_ne hb]; exact r⟩
  · have hb : b ≠ a := fun z => by subst z; rw [h] at e; cases e
    rw [upd_ne hb]
    exact e
/-- the keys, walked: the dict is locked -/
theorem walks_keys {K : PySem.W.Frag} {S : Hp} {a : Addr} {o : Obj} {es : List (Key × V)} {kvs : List (D × D)} (h1 : S a = some (.frz o (.dK es))) (h2 : kvs.map (·.1) = es.map (fun e => kD e.1)) : Walks K S (Itk a o es) (kvs.map (·.1)) := fun S' H' e1 e2 => by
  have q : H' a = some (.frz o (.dK es)) := e2 _ _ (e1 _ _ h1)
  have hl : (kvs.map (·.1)).length = es.length := by rw [h2, List.length_map]
  refine ⟨fun i d hi => ?_, q, by rw [hl]; exact Nat.le_refl _⟩
  have hin : i < es.length := by
    have := (List.getElem?_eq_some_iff.mp hi).1
    omega
  refine ⟨⟨q, hin⟩, fun x H'' hy => ?_⟩
  obtain ⟨rfl, k, v, hk, rfl⟩ := hy
  refine ⟨S', Ext.refl e2, ?_⟩
  rw [h2, List.getElem?_map, hk] at hi
  have hi : kD k = d := Option.some.inj hi
  rw [← hi]
  cases k with
  | inl j => exact rfl
  | inr z => exact rfl
def asKeys : D → Res (List D)
  | .dict kvs => if (plainK kvs && !kvs.isEmpty) = true then .ok (kvs.map (·.1)) else .bad
  | _ => .bad
def fKeys (i : Nat) : DEnv → Res (List D) := fun ρ => (fVar i ρ).bind asKeys
section
variable {K : PySem.W.Frag} {mg : Str → Option Value} {X : Cx} {E : XK} {tg : Expr} {p : Pos} {x : Str} {i : Nat}
/-- in an environment where the dict of slot i is locked -/
structure IDK (K : PySem.W.Frag) (mg : Str → Option Value) (X : Cx) (E : XK) (tg iter : Expr) (wi : TI) (f : DEnv → Res (List D)) (i : Nat) : Prop where
  pi : PI X tg iter wi
  sd : ∀ (S H : Hp) (σ : L2.St) (ρ : DEnv) (R : It → Hp → Prop), RelE K S H σ ρ → (∃ a o es, σ[i]? = some (some (.ref a)) ∧ S a = some (.frz o (.dK es))) → PostG mg E S H (fun S J ds => Walks K S J ds) (f ρ) R → wi σ H R
theorem idk_keys (hv : PE X (.Name x p) (tVar i)) : IDK K mg X E tg (.Name x p) (iKeys (tVar i)) (fKeys i) i := ⟨pi_keys hv, fun S H σ ρ R rl hz h => by
  obtain ⟨a, o, es, e1, e2⟩ := hz
  unfold fKeys fVar at h
  split at h
  · rename_i d ed
    obtain ⟨v, k1, k2⟩ := rl.dt i d ed
    rw [e1] at k1
    cases k1
    rw [bind_ok] at h
    unfold asKeys at h
    split at h
    · rename_i kvs
      split at h
      · rename_i c
        obtain ⟨c1, c2⟩ := and_split c
        obtain ⟨a', ea, q⟩ := dv_dict k2
        cases ea
        obtain ⟨es', g1, g2, g3⟩ := plain_of c1 (ne_emp c2) q
        have : es' = es := by
          rcases g1 with g | ⟨o', g⟩
          · rw [e2] at g; cases g
          · rw [e2] at g; cases g; rfl
        subst this
        exact ⟨.ref a, e1, a, o, rfl, .inl ⟨es', rl.sh _ _ e2, h.ok0 rl.sh (walks_keys e2 g2)⟩⟩
      · exact h.elim
    · exact h.elim
  · exact h.elim⟩
theorem relE_lock {S H : Hp} {σ : L2.St} {ρ : DEnv} {a : Addr} {o : Obj} {es : List (Key × V)} (rl : RelE K S H σ ρ) (h : S a = some (.dK es)) : RelE K (upd S a (.frz o (.dK es))) (upd H a (.frz o (.dK es))) σ ρ :=
  ⟨same_upd2 rl.sh, rl.len, fun i y e => let ⟨v, h1, h2⟩ := rl.dt i y e; ⟨v, h1, DV.rdm (rdm_lock h) _ _ h2⟩, rl.rw⟩
theorem ext_unlock {S H S2 H2 : Hp} {a : Addr} {o : Obj} {u : HO} (sh : Same S H) (h : S a = some u) (x : Ext (upd S a (.frz o u)) (upd H a (.frz o u)) S2 H2) : Ext S H (upd S2 a u) (upd H2 a u) := by
  refine ⟨fun b w e => ?_, fun b w e => ?_, same_upd2 x.sh, fun b hb => ?_⟩
  · by_cases q : b = a
    · subst q; rw [h] at e; cases e; exact upd_same
    · rw [upd_ne q]; exact x.s b w (by rw [upd_ne q]; exact e)
  · by_cases q : b = a
    · subst q; rw [sh _ _ h] at e; cases e; exact upd_same
    · rw [upd_ne q]; exact x.h b w (by rw [upd_ne q]; exact e)
  · by_cases q : b = a
    · subst q; rw [upd_same, h]
    · rw [upd_ne q, x.old b (by rw [upd_ne q]; exact hb), upd_ne q]
end
/-- the comprehension over a dict in slot i: locked for the while, or locked already -/
def tLcK (T : TE) : TE := fun σ H Q => tLockE T σ H Q ∨ T σ H Q
section
variable {K : PySem.W.Frag} {mg : Str → Option Value} {X : Cx} {E : XK} {elt tg iter : Expr} {ifs : List Expr} {scope : Scope} {own : List (Str × Nat)} {pos : Pos} {wi : TI} {g : TG} {tt : TT} {te : TE} {is : List Nat} {h : D → Option (List D)} {ft : DEnv → Res Bool} {fe : DEnv → Res D} {i : Nat} {src : DEnv → Res (List D)}
theorem pd_lcK {vs : List Nat} (hc : X.calm = true) (hN : X.N.Nodup) (hi : IDK K mg X E tg iter wi (fKeys i) i) (ok : BlkOk X.N X.env.scope scope own)
    (hg : ∀ (s : Shared) (H : Hp) (C : Addr) (cl : List (Str × Addr)) (fp : List Addr), GD K (Blk X scope s H C cl fp) tg g is h) (ht : ∀ (s : Shared) (H : Hp) (C : Addr) (cl : List (Str × Addr)) (fp : List Addr), TDs K mg (Blk X scope s H C cl fp) E0 ifs tt ft)
    (he : ∀ (s : Shared) (H : Hp) (C : Addr) (cl : List (Str × Addr)) (fp : List Addr), PD K mg (Blk X scope s H C cl fp) E0 elt te fe) (hvs : own.map (·.2) = vs := by rfl) (his : ∀ i ∈ is, i ∈ vs := by decide) (hs : ∀ x, foldedSetIterable iter X.env x = pure x := by intro _; rfl) :
    PD K mg X E (.ListComp elt [⟨tg, iter, ifs, 0⟩] scope pos) (tLcK (tLc wi g tt te vs)) (fLc (fKeys i) vs is h ft fe) := by
  have pe : PE X (.ListComp elt [⟨tg, iter, ifs, 0⟩] scope pos) (tLc wi g tt te vs) := hvs ▸ pe_lc hc hN hi.pi ok (fun s H C cl fp => (hg s H C cl fp).pg) (fun s H C cl fp => (ht s H C cl fp).pe) (fun s H C cl fp => (he s H C cl fp).pe) hs
  refine ⟨⟨fun pins s σ H Q I q => q.elim (fun q => (pe_lock pe).run pins s σ H Q I q) fun q => pe.run pins s σ H Q I q⟩, fun S H σ ρ Q rl hp => ?_⟩
  have key : ∀ (S H : Hp) (Q : VK), RelE K S H σ ρ → (∃ a o es, σ[i]? = some (some (.ref a)) ∧ S a = some (.frz o (.dK es))) → PostG mg E S H (DV K) (fLc (fKeys i) vs is h ft fe ρ) Q → tLc wi g tt te vs σ H Q := fun S H Q rl hz hp =>
    lc_sd' (X' := Blk X scope X.s_0 X.H_0 0 [] []) (fun R q => hi.sd S H σ ρ R rl hz q) (hg _ _ _ _ _) (ht _ _ _ _ _) (he _ _ _ _ _) his Q rl hp
  cases ev : ρ[i]? with
  | none =>
    unfold fLc fKeys fVar at hp
    rw [ev] at hp
    exact hp.elim
  | some sl =>
    cases sl with
    | d y =>
      obtain ⟨v, k1, k2⟩ := rl.dt i y ev
      cases y with
      | dict kvs =>
        by_cases c : (plainK kvs && !kvs.isEmpty) = true
        · obtain ⟨c1, c2⟩ := and_split c
          obtain ⟨a, rfl, q⟩ := dv_dict k2
          obtain ⟨es, g1, g2, g3⟩ := plain_of c1 (ne_emp c2) q
          rcases g1 with g1 | ⟨o, g1⟩
          · refine .inl ⟨a, .dK es, rl.sh _ _ g1, trivial, fun od => ?_⟩
            refine key _ _ _ (relE_lock rl g1) ⟨a, od, es, k1, upd_same⟩ ?_
            cases er : fLc (fKeys i) vs is h ft fe ρ with
            | ok dd =>
              rw [er] at hp
              intro w S2 H2 x2 dw
              have f2 : S2 a = some (.frz od (.dK es)) := x2.s _ _ upd_same
              exact ⟨x2.h _ _ upd_same, hp w _ _ (ext_unlock rl.sh g1 x2) (DV.rdm (rdm_unlock f2) _ _ dw)⟩
            | err cc =>
              exfalso
              unfold fLc fKeys fVar at er
              rw [ev, bind_ok] at er
              unfold asKeys at er
              dsimp only at er
              rw [if_pos c, bind_ok] at er
              unfold lcEnd at er
              cases eg : lcGo (lcStep ρ vs is h ft fe) (kvs.map (·.1)) with
              | ok ys => rw [eg, bind_ok] at er; split at er <;> cases er
              | err c2 => exact lcGo_noerr _ _ _ eg
              | bad => rw [eg] at er; cases er
            | bad => rw [er] at hp; exact hp.elim
          · exact .inr (key S H Q rl ⟨a, o, es, k1, g1⟩ hp)
        · exfalso
          unfold fLc fKeys fVar at hp
          rw [ev, bind_ok] at hp
          unfold asKeys at hp
          dsimp only at hp
          rw [if_neg c] at hp
          exact hp
      | _ =>
        exfalso
        unfold fLc fKeys fVar at hp
        rw [ev] at hp
        exact hp
    | _ =>
      exfalso
      unfold fLc fKeys fVar at hp
      rw [ev] at hp
      exact hp
end
end PD
namespace PD
open PySem L2
/-! ### evaluation -/
theorem v_nil : viewAll [] = [] := rfl
theorem v_cons (s : Slot) (ρ : DEnv) : viewAll (s :: ρ) = view s :: viewAll ρ := rfl
theorem w_d (x : D) : view (.d x) = .d x := rfl
theorem w_un : view .un = .un := rfl
theorem w_own (x : List D) : view (.own x) = .d (.list x) := rfl
theorem x_var0 (x : D) (ρ : DEnv) : fVar 0 (.d x :: ρ) = .ok x := rfl
theorem x_varS (i : Nat) (s : Slot) (ρ : DEnv) : fVar (i + 1) (s :: ρ) = fVar i ρ := rfl
theorem x_c (d : D) (ρ : DEnv) : fC d ρ = .ok d := rfl
theorem x_bin (g : D → D → Res D) (f1 f2 : DEnv → Res D) (ρ : DEnv) : fBin g f1 f2 ρ = (f1 ρ).bind fun a => (f2 ρ).bind fun b => g a b := rfl
theorem x_un (g : D → Res D) (f : DEnv → Res D) (ρ : DEnv) : fUn g f ρ = (f ρ).bind g := rfl
theorem x_b (g : List D → Res D) (f : DEnv → Res (List D)) (ρ : DEnv) : fB g f ρ = (f ρ).bind g := rfl
theorem x_nil (ρ : DEnv) : fNil ρ = .ok [] := rfl
theorem x_cons (f : DEnv → Res D) (g : DEnv → Res (List D)) (ρ : DEnv) : fCons f g ρ = (f ρ).bind fun x => (g ρ).bind fun xs => .ok (x :: xs) := rfl
theorem x_call1 (F : List D → Res D) (f : DEnv → Res D) (ρ : DEnv) : fCall 1 F (fCons f fNil) ρ = (f ρ).bind fun a => F [a] := by
  unfold fCall fCons fNil
  cases f ρ <;> rfl
theorem x_call2 (F : List D → Res D) (f g : DEnv → Res D) (ρ : DEnv) : fCall 2 F (fCons f (fCons g fNil)) ρ = (f ρ).bind fun a => (g ρ).bind fun b => F [a, b] := by
  unfold fCall fCons fNil
  cases f ρ <;> first | rfl | (cases g ρ <;> rfl)
theorem x_call3 (F : List D → Res D) (f g h : DEnv → Res D) (ρ : DEnv) : fCall 3 F (fCons f (fCons g (fCons h fNil))) ρ = (f ρ).bind fun a => (g ρ).bind fun b => (h ρ).bind fun c => F [a, b, c] := by
  unfold fCall fCons fNil
  cases f ρ <;> first | rfl | (cases g ρ <;> first | rfl | (cases h ρ <;> rfl))
theorem x_call0 (F : List D → Res D) (ρ : DEnv) : fCall 0 F fNil ρ = F [] := rfl
theorem x_test (f : DEnv → Res D) (ρ : DEnv) : fTest f ρ = (f ρ).bind asB := rfl
theorem x_asB (b : Bool) : asB (.bool b) = .ok b := rfl
theorem x_not (f : DEnv → Res Bool) (ρ : DEnv) : fNot f ρ = (f ρ).bind fun b => .ok (!b) := rfl
theorem x_and (f g : DEnv → Res Bool) (ρ : DEnv) : fAnd f g ρ = (f ρ).bind fun b => if b = true then g ρ else .ok false := rfl
theorem x_or (f g : DEnv → Res Bool) (ρ : DEnv) : fOr f g ρ = (f ρ).bind fun b => if b = true then .ok true else g ρ := rfl
theorem x_andV (f g : DEnv → Res D) (ρ : DEnv) : fAndV f g ρ = (fTest f ρ).bind fun b => if b = true then g ρ else .ok (.bool false) := rfl
theorem x_orV (f g : DEnv → Res D) (ρ : DEnv) : fOrV f g ρ = (fTest f ρ).bind fun b => if b = true then .ok (.bool true) else g ρ := rfl
theorem x_notV (f : DEnv → Res D) (ρ : DEnv) : fNotV f ρ = (fTest f ρ).bind fun b => .ok (.bool !b) := rfl
theorem x_if (g : DEnv → Res Bool) (f1 f2 : DEnv → Res D) (ρ : DEnv) : fIf g f1 f2 ρ = (g ρ).bind fun b => if b = true then f1 ρ else f2 ρ := rfl
theorem x_isi (T : String) (f : DEnv → Res D) (ρ : DEnv) : fIsi T f ρ = (f ρ).bind fun d => .ok (.bool (isiD T d)) := rfl
theorem x_chain (g g' : D → D → Res D) (f1 f2 f3 : DEnv → Res D) (ρ : DEnv) : fChain g g' f1 f2 f3 ρ = (f1 ρ).bind fun x => (f2 ρ).bind fun y => (g x y).bind fun z => (asB z).bind fun k => if k = true then (f3 ρ).bind fun w => g' y w else .ok (.bool false) := rfl
theorem x_tup (g : DEnv → Res (List D)) (ρ : DEnv) : fTup g ρ = (g ρ).bind mkT := rfl
theorem x_lst (g : DEnv → Res (List D)) (ρ : DEnv) : fLst g ρ = (g ρ).bind mkL := rfl
theorem x_mkT0 : mkT [] = .ok (.tuple []) := rfl
theorem x_mkT1 (a : D) : mkT [a] = .ok (.tuple [a]) := rfl
theorem x_mkT2 (a b : D) : mkT [a, b] = .ok (.tuple [a, b]) := rfl
theorem x_mkT3 (a b c : D) : mkT [a, b, c] = .ok (.tuple [a, b, c]) := rfl
theorem x_mkL0 : mkL [] = .ok (.list []) := rfl
theorem x_mkL1 (a : D) : mkL [a] = .ok (.list [a]) := rfl
theorem x_mkL2 (a b : D) : mkL [a, b] = .ok (.list [a, b]) := rfl
theorem x_mkL3 (a b c : D) : mkL [a, b, c] = .ok (.list [a, b, c]) := rfl
theorem x_mkL4 (a b c d : D) : mkL [a, b, c, d] = .ok (.list [a, b, c, d]) := rfl
/-! statements -/
theorem y_next (ρ : DEnv) (k : DEnv → SR) : (SR.next ρ).seq k = k ρ := rfl
theorem y_ret (d : D) (k : DEnv → SR) : (SR.ret d).seq k = .ret d := rfl
theorem y_err (d : Str) (k : DEnv → SR) : (SR.err d).seq k = .err d := rfl
theorem y_ok {α : Type} (a : α) (k : α → SR) : ofRes (Res.ok a) k = k a := rfl
theorem y_er {α : Type} (c : Str) (k : α → SR) : ofRes (Res.err c : Res α) k = .err c := rfl
theorem y_seq (F G : DEnv → SR) (ρ : DEnv) : sSeq F G ρ = (F ρ).seq G := rfl
theorem y_if (g : DEnv → Res Bool) (F G : DEnv → SR) (ρ : DEnv) : sIf g F G ρ = ofRes (g (viewAll ρ)) fun b => if b = true then F ρ else G ρ := rfl
theorem y_nx (ρ : DEnv) : sNext ρ = .next ρ := rfl
theorem y_rt (f : DEnv → Res D) (ρ : DEnv) : sRet f ρ = ofRes (f ρ) fun d => .ret d := rfl
theorem y_ex (f : DEnv → Res D) (ρ : DEnv) : sExpr f ρ = ofRes (f ρ) fun _ => .next ρ := rfl
theorem y_rs (c : Str) (ρ : DEnv) : sRaise c ρ = .err c := rfl
theorem y_as1 (f : DEnv → Res D) (i : Nat) (ρ : DEnv) : sAsg f [i] hOne ρ = ofRes (f ρ) fun d => .next (ρ.set i (.d d)) := rfl
theorem y_asT3 (f : DEnv → Res D) (i j k : Nat) (ρ : DEnv) : sAsg f [i, j, k] (hTup 3) ρ = ofRes (f ρ) fun d => match d with
  | .tuple [x, y, z] => .next (((ρ.set i (.d x)).set j (.d y)).set k (.d z))
  | _ => .bad := by
  unfold sAsg
  cases f ρ with
  | ok d =>
    rw [y_ok, y_ok]
    cases d with
    | tuple ds =>
      match ds with
      | [x, y, z] => rfl
      | [] => rfl
      | [_] => rfl
      | [_, _] => rfl
      | _ :: _ :: _ :: _ :: _ => rfl
    | _ => rfl
  | err c => rfl
  | bad => rfl
theorem y_fn (n : Nat) (B : DEnv → SR) (ds : List D) : fnF n B ds = toRes (B (startD n ds)) := rfl
theorem y_t1 (d : D) : toRes (.ret d) = .ok d := rfl
theorem y_t2 (ρ : DEnv) : toRes (.next ρ) = .ok .none := rfl
theorem y_t3 (c : Str) : toRes (.err c) = .err c := rfl
theorem set0 (s t : Slot) (ρ : DEnv) : (s :: ρ).set 0 t = t :: ρ := rfl
theorem setS' (i : Nat) (s t : Slot) (ρ : DEnv) : (s :: ρ).set (i + 1) t = s :: ρ.set i t := rfl
theorem b_or (g : DEnv → Res Bool) : g = g := rfl
/-! values -/
theorem sh_int (i : Int) : SeqAt.shaped (.int i) = true := rfl
theorem sh_bool (i : Bool) : SeqAt.shaped (.bool i) = true := rfl
theorem sh_none : SeqAt.shaped .none = true := rfl
theorem eq_int (i j : Int) : gEq (.int i) (.int j) = .ok (.bool (i == j)) := rfl
theorem ne_int (i j : Int) : gNe (.int i) (.int j) = .ok (.bool (!(i == j))) := rfl
theorem g_lt (i j : Int) : gLt (.int i) (.int j) = .ok (.bool (decide (i < j))) := rfl
theorem g_le (i j : Int) : gLe (.int i) (.int j) = .ok (.bool (decide (i ≤ j))) := rfl
theorem g_gt (i j : Int) : gGt (.int i) (.int j) = .ok (.bool (decide (j < i))) := rfl
theorem g_ge (i j : Int) : gGe (.int i) (.int j) = .ok (.bool (decide (j ≤ i))) := rfl
theorem g_sub (i j : Int) : gSub (.int i) (.int j) = .ok (.int (i - j)) := rfl
theorem g_add (i j : Int) : gAdd (.int i) (.int j) = .ok (.int (i + j)) := rfl
theorem g_div {i j : Int} (h : divOk i j = true) : gDiv (.int i) (.int j) = .ok (.int (i / j)) := by unfold gDiv gI; dsimp only; rw [if_pos h]
theorem g_mod {i j : Int} (h : 0 < j) : gMod (.int i) (.int j) = .ok (.int (i % j)) := by unfold gMod gI; dsimp only; rw [if_pos (decide_eq_true h)]
theorem g_mul {i j : Int} (h : mulOk i j = true) : gMulI (.int i) (.int j) = .ok (.int (i * j)) := by unfold gMulI gI; dsimp only; rw [if_pos h]
theorem g_lenL (xs : List D) : gLen [.list xs] = .ok (.int xs.length) := rfl
theorem g_lenT (xs : List D) : gLen [.tuple xs] = .ok (.int xs.length) := rfl
theorem g_ixT {xs : List D} {i : Int} {d : D} (h : ixD xs i = some d) : gIx (.tuple xs) (.int i) = .ok d := by unfold gIx; dsimp only; rw [h]
theorem g_ixL {xs : List D} {i : Int} {d : D} (h : ixD xs i = some d) : gIx (.list xs) (.int i) = .ok d := by unfold gIx; dsimp only; rw [h]
theorem g_ix30 (a b c : D) : gIx (.tuple [a, b, c]) (.int 0) = .ok a := rfl
theorem g_ix31 (a b c : D) : gIx (.tuple [a, b, c]) (.int 1) = .ok b := rfl
theorem g_ix32 (a b c : D) : gIx (.tuple [a, b, c]) (.int 2) = .ok c := rfl
theorem is_TT : gIs true (.bool true) (.bool true) = .ok (.bool false) := rfl
theorem is_TF (b c : Bool) : gIs true (.bool b) (.bool c) = .ok (.bool (!decide (b = c))) := rfl
theorem is_FF (b c : Bool) : gIs false (.bool b) (.bool c) = .ok (.bool (decide (b = c))) := rfl
theorem isi_TT (xs : List D) : isiD "tuple" (.tuple xs) = true := by simp [isiD, isiN, tyName]
theorem isi_TL (xs : List D) : isiD "tuple" (.list xs) = false := by simp [isiD, isiN, tyName]
theorem isi_LL (xs : List D) : isiD "list" (.list xs) = true := by simp [isiD, isiN, tyName]
theorem isi_SS (x : Str) : isiD "str" (.str x) = true := by simp [isiD, isiN, tyName]
/-! ### loops of comprehensions -/
theorem lcGo_ok {step : D → Res (List D)} {h : D → List D} : ∀ {xs : List D}, (∀ d ∈ xs, step d = .ok (h d)) → lcGo step xs = .ok (xs.flatMap h)
  | [], _ => rfl
  | x :: xs, hx => by
    show ((step x).strict.bind fun o => (lcGo step xs).bind fun r => .ok (o ++ r)) = _
    rw [hx x List.mem_cons_self, lcGo_ok fun d hd => hx d (List.mem_cons_of_mem _ hd)]
    rfl
theorem lcEnd_mk {ys : List D} (h : ys.length < 1000000) : lcEnd (.ok ys) = .ok (.list ys) := by
  unfold lcEnd
  rw [bind_ok, if_pos (show lenOk (ys.length + 1) = true from decide_eq_true (by omega))]
theorem x_lc {src : DEnv → Res (List D)} {own is : List Nat} {h : D → Option (List D)} {ft : DEnv → Res Bool} {fe : DEnv → Res D} {ρ : DEnv} {ds ys : List D} (h1 : src ρ = .ok ds) (h2 : lcGo (lcStep ρ own is h ft fe) ds = .ok ys) (h3 : ys.length < 1000000) : fLc src own is h ft fe ρ = .ok (.list ys) := by
  unfold fLc
  rw [h1, bind_ok, h2, lcEnd_mk h3]
theorem x_lc2 {src : DEnv → Res (List D)} {own is : List Nat} {h : D → Option (List D)} {ft : DEnv → Res Bool} {src1 : DEnv → Res (List D)} {own1 is1 : List Nat} {h1 : D → Option (List D)} {ft1 : DEnv → Res Bool} {fe : DEnv → Res D} {ρ : DEnv} {ds ys : List D} (e1 : src ρ = .ok ds) (e2 : lcGo (lc2Step ρ own is h ft src1 own1 is1 h1 ft1 fe) ds = .ok ys) (e3 : ys.length < 1000000) : fLc2 src own is h ft src1 own1 is1 h1 ft1 fe ρ = .ok (.list ys) := by
  unfold fLc2
  rw [e1, bind_ok, e2, lcEnd_mk e3]
theorem wp_nil (ρ : DEnv) : wipeD ρ [] = ρ := rfl
theorem wp_cons (ρ : DEnv) (v : Nat) (vs : List Nat) : wipeD ρ (v :: vs) = (wipeD ρ vs).set v .un := rfl
theorem l_1 (ρ : DEnv) (own : List Nat) (i : Nat) (fe : DEnv → Res D) (d : D) : lcStep ρ own [i] hOne fYes fe d = (fe ((wipeD ρ own).set i (.d d))).bind fun y => .ok [y] := rfl
theorem l_1t (ρ : DEnv) (own : List Nat) (i : Nat) (tt : DEnv → Res Bool) (fe : DEnv → Res D) (d : D) : lcStep ρ own [i] hOne tt fe d = (tt ((wipeD ρ own).set i (.d d))).bind fun b => if b = true then (fe ((wipeD ρ own).set i (.d d))).bind fun y => .ok [y] else .ok [] := rfl
theorem l_2 (ρ : DEnv) (own : List Nat) (i j : Nat) (fe : DEnv → Res D) (x y : D) : lcStep ρ own [i, j] (hTup 2) fYes fe (.tuple [x, y]) = (fe (((wipeD ρ own).set i (.d x)).set j (.d y))).bind fun y => .ok [y] := rfl
theorem l_2t (ρ : DEnv) (own : List Nat) (i j : Nat) (tt : DEnv → Res Bool) (fe : DEnv → Res D) (x y : D) : lcStep ρ own [i, j] (hTup 2) tt fe (.tuple [x, y]) = (tt (((wipeD ρ own).set i (.d x)).set j (.d y))).bind fun b => if b = true then (fe (((wipeD ρ own).set i (.d x)).set j (.d y))).bind fun y => .ok [y] else .ok [] := rfl
theorem l_3 (ρ : DEnv) (own : List Nat) (i j k : Nat) (fe : DEnv → Res D) (x y z : D) : lcStep ρ own [i, j, k] (hTup 3) fYes fe (.tuple [x, y, z]) = (fe ((((wipeD ρ own).set i (.d x)).set j (.d y)).set k (.d z))).bind fun y => .ok [y] := rfl
theorem l2_11 (ρ : DEnv) (own own1 : List Nat) (i j : Nat) (src1 : DEnv → Res (List D)) (fe : DEnv → Res D) (d : D) : lc2Step ρ own [i] hOne fYes src1 own1 [j] hOne fYes fe d = (src1 ((wipeD ρ own).set i (.d d))).bind fun es => lcGo (lcStep ((wipeD ρ own).set i (.d d)) own1 [j] hOne fYes fe) es := rfl
theorem x_seq (f : DEnv → Res D) (ρ : DEnv) : fSeq f ρ = (f ρ).bind asSeq := rfl
theorem x_asL (ds : List D) : asSeq (.list ds) = .ok ds := rfl
theorem x_asT (ds : List D) : asSeq (.tuple ds) = .ok ds := rfl
theorem x_rng (g : List D → Res (List D)) (f : DEnv → Res (List D)) (ρ : DEnv) : fRng g f ρ = (f ρ).bind g := rfl
theorem x_zipL (xs ys : List D) : gZip [.list xs, .list ys] = .ok (zipD xs ys) := rfl
theorem x_zipT (xs ys : List D) : gZip [.tuple xs, .tuple ys] = .ok (zipD xs ys) := rfl
theorem g_tupL (xs : List D) : gTupOf [.list xs] = .ok (.tuple xs) := rfl
theorem g_tupT (xs : List D) : gTupOf [.tuple xs] = .ok (.tuple xs) := rfl
theorem g_listL (xs : List D) : gListOf [.list xs] = .ok (.list xs) := rfl
theorem g_listT (xs : List D) : gListOf [.tuple xs] = .ok (.list xs) := rfl
/-! ### loops -/
theorem forGo_inv {asg : D → DEnv → Option DEnv} {body : DEnv → SR} (P : DEnv → Prop) : ∀ {ds : List D} {ρ : DEnv}, P ρ → (∀ d ∈ ds, ∀ ρ, P ρ → ∃ ρ1 ρ', asg d ρ = some ρ1 ∧ body ρ1 = .next ρ' ∧ P ρ') → ∃ ρ', forGo asg body ds ρ = .next ρ' ∧ P ρ'
  | [], ρ, h, _ => ⟨ρ, rfl, h⟩
  | d :: ds, ρ, h, hs => by
    obtain ⟨ρ1, ρ', e1, e2, h'⟩ := hs d List.mem_cons_self ρ h
    obtain ⟨ρ2, e3, h2⟩ := forGo_inv P (ds := ds) h' fun d hd => hs d (List.mem_cons_of_mem _ hd)
    refine ⟨ρ2, ?_, h2⟩
    unfold forGo
    rw [e1]
    dsimp only
    rw [e2]
    exact e3
/-- a loop with a state that is told by the items gone -/
theorem forGo_fold {asg : D → DEnv → Option DEnv} {body : DEnv → SR} {α : Type} (st : α → DEnv) (step : α → D → α) : ∀ {ds : List D} {a : α}, (∀ d ∈ ds, ∀ a, ∃ ρ1, asg d (st a) = some ρ1 ∧ body ρ1 = .next (st (step a d))) → forGo asg body ds (st a) = .next (st (ds.foldl step a))
  | [], _, _ => rfl
  | d :: ds, a, hs => by
    obtain ⟨ρ1, e1, e2⟩ := hs d List.mem_cons_self a
    unfold forGo
    rw [e1]
    dsimp only
    rw [e2]
    exact forGo_fold st step fun d hd => hs d (List.mem_cons_of_mem _ hd)
theorem y_for {src : DEnv → Res (List D)} {is : List Nat} {hh : D → Option (List D)} {body : DEnv → SR} {ρ : DEnv} {ds : List D} (h : src ρ = .ok ds) : sFor src is hh body ρ = forGo (asgOf is hh) body ds ρ := by
  unfold sFor
  rw [h]
  rfl
theorem f_cons {asg : D → DEnv → Option DEnv} {body : DEnv → SR} {d : D} {ds : List D} {ρ ρ1 ρ' : DEnv} (h1 : asg d ρ = some ρ1) (h2 : body ρ1 = .next ρ') : forGo asg body (d :: ds) ρ = forGo asg body ds ρ' := by
  conv => lhs; unfold forGo
  rw [h1]
  dsimp only
  rw [h2]
theorem f_nil {asg : D → DEnv → Option DEnv} {body : DEnv → SR} {ρ : DEnv} : forGo asg body [] ρ = .next ρ := rfl
end PD
namespace PD
open PySem L2
def retOf : SR → Res D
  | .ret d => .ok d
  | _ => .bad
theorem retOf_ret' {r : SR} {d : D} (h : retOf r = .ok d) : r = .ret d := by
  cases r with
  | ret x => cases h; rfl
  | _ => cases h
theorem retOf_ret {r : SR} {d : D} (h : retOf r = .ok d) : r = .ret d := retOf_ret' h
theorem w_raw (v : V) : view (.raw v) = .raw v := rfl
theorem x_isE0 (a : Addr) (b : Bool) (ρ : DEnv) : fIsE 0 a b (.raw (.ref a) :: ρ) = .ok (.bool b) := by unfold fIsE; simp
theorem x_isES (i : Nat) (a : Addr) (b : Bool) (s : Slot) (ρ : DEnv) : fIsE (i + 1) a b (s :: ρ) = fIsE i a b ρ := rfl
theorem x_st {α : Type} (f : DEnv → Res α) (ρ : DEnv) : fSt f ρ = (f ρ).strict := rfl
theorem s_ok {α : Type} (a : α) : (Res.ok a).strict = .ok a := rfl
theorem x_lm (g : List D → D → Res D) (fo f : DEnv → Res D) (ρ : DEnv) : fLM g fo f ρ = ((fo ρ).bind asList).bind fun ds => (f ρ).bind fun b => g ds b := rfl
theorem x_asList (ds : List D) : asList (.list ds) = .ok ds := rfl
theorem y_bex (f : DEnv → Res D) (ρ : DEnv) : bExpr f ρ = (f ρ).bind fun _ => .ok none := rfl
theorem y_bret (f : DEnv → Res D) (ρ : DEnv) : bRet f ρ = (f ρ).bind fun d => if flatD d = true then .ok (some d) else .bad := rfl
theorem y_bif (g : DEnv → Res Bool) (F G : DEnv → Res (Option D)) (ρ : DEnv) : bIf g F G ρ = (g ρ).strict.bind fun b => if b = true then F ρ else G ρ := rfl
theorem x_via (n : Nat) (Fs : List (List D → Res D)) (fi : DEnv → Res D) (g : DEnv → Res (List D)) (ρ : DEnv) : fVia n Fs fi g ρ = (fi ρ).strict.bind fun i => (ixF Fs i).bind fun F => (g ρ).bind fun ds => if ds.length = n then F ds else .bad := rfl
theorem y_try {B : DEnv → Res (Option D)} {Lx : List Str} {FS : Str → DEnv → Res D} {ρ : DEnv} {c : Str} {d : D} (h : B (viewAll ρ) = .err c) (hL : Lx.contains c = true) (hF : FS c ρ = .ok d) : sTry B Lx FS ρ = .ret d := by
  unfold sTry
  rw [h]
  dsimp only
  rw [if_pos hL, hF]
theorem y_try_ok {B : DEnv → Res (Option D)} {Lx : List Str} {FS : Str → DEnv → Res D} {ρ : DEnv} (h : B (viewAll ρ) = .ok none) : sTry B Lx FS ρ = .next ρ := by
  unfold sTry
  rw [h]
theorem y_try_ret {B : DEnv → Res (Option D)} {Lx : List Str} {FS : Str → DEnv → Res D} {ρ : DEnv} {d : D} (h : B (viewAll ρ) = .ok (some d)) : sTry B Lx FS ρ = .ret d := by
  unfold sTry
  rw [h]
theorem lx1 {c a1 : Str} (h : List.contains [a1] c = true) : c = a1 := by simpa using h
theorem lx2 {c a1 a2 : Str} (h : List.contains [a1, a2] c = true) : c = a1 ∨ c = a2 := by simpa using h
theorem lx3 {c a1 a2 a3 : Str} (h : List.contains [a1, a2, a3] c = true) : c = a1 ∨ c = a2 ∨ c = a3 := by simpa using h
theorem lx4 {c a1 a2 a3 a4 : Str} (h : List.contains [a1, a2, a3, a4] c = true) : c = a1 ∨ c = a2 ∨ c = a3 ∨ c = a4 := by simpa using h
theorem lx5 {c a1 a2 a3 a4 a5 : Str} (h : List.contains [a1, a2, a3, a4, a5] c = true) : c = a1 ∨ c = a2 ∨ c = a3 ∨ c = a4 ∨ c = a5 := by simpa using h
theorem lx6 {c a1 a2 a3 a4 a5 a6 : Str} (h : List.contains [a1, a2, a3, a4, a5, a6] c = true) : c = a1 ∨ c = a2 ∨ c = a3 ∨ c = a4 ∨ c = a5 ∨ c = a6 := by simpa using h
theorem lx7 {c a1 a2 a3 a4 a5 a6 a7 : Str} (h : List.contains [a1, a2, a3, a4, a5, a6, a7] c = true) : c = a1 ∨ c = a2 ∨ c = a3 ∨ c = a4 ∨ c = a5 ∨ c = a6 ∨ c = a7 := by simpa using h
theorem g_addL11 (a0 b0 : D) : gAdd (.list [a0]) (.list [b0]) = .ok (.list [a0, b0]) := rfl
theorem g_addL21 (a0 a1 b0 : D) : gAdd (.list [a0, a1]) (.list [b0]) = .ok (.list [a0, a1, b0]) := rfl
theorem g_addL31 (a0 a1 a2 b0 : D) : gAdd (.list [a0, a1, a2]) (.list [b0]) = .ok (.list [a0, a1, a2, b0]) := rfl
theorem g_addL32 (a0 a1 a2 b0 b1 : D) : gAdd (.list [a0, a1, a2]) (.list [b0, b1]) = .ok (.list [a0, a1, a2, b0, b1]) := rfl
theorem g_addL51 (a0 a1 a2 a3 a4 b0 : D) : gAdd (.list [a0, a1, a2, a3, a4]) (.list [b0]) = .ok (.list [a0, a1, a2, a3, a4, b0]) := rfl
theorem g_addL41 (a0 a1 a2 a3 b0 : D) : gAdd (.list [a0, a1, a2, a3]) (.list [b0]) = .ok (.list [a0, a1, a2, a3, b0]) := rfl
theorem g_addL22 (a0 a1 b0 b1 : D) : gAdd (.list [a0, a1]) (.list [b0, b1]) = .ok (.list [a0, a1, b0, b1]) := rfl
theorem x_sl (g : D → Option Int → Option Int → Res D) (f : DEnv → Res D) (fl fh : DEnv → Res (Option Int)) (ρ : DEnv) : fSl g f fl fh ρ = (f ρ).bind fun x => (fl ρ).bind fun lo => (fh ρ).bind fun hi => g x lo hi := rfl
theorem x_np (ρ : DEnv) : fNoPart ρ = .ok none := rfl
theorem x_pt (f : DEnv → Res D) (ρ : DEnv) : fPart f ρ = (f ρ).bind asI := rfl
theorem x_asI (i : Int) : asI (.int i) = .ok (some i) := rfl
theorem g_slTa (a b c : D) : gSl (.tuple [a, b, c]) none (some 2) = .ok (.tuple [a, b]) := rfl
theorem g_slTb (a b c : D) : gSl (.tuple [a, b, c]) (some 1) none = .ok (.tuple [b, c]) := rfl
theorem g_addT12 (a b c : D) : gAdd (.tuple [a]) (.tuple [b, c]) = .ok (.tuple [a, b, c]) := rfl
theorem g_addT21 (a b c : D) : gAdd (.tuple [a, b]) (.tuple [c]) = .ok (.tuple [a, b, c]) := rfl
theorem g_addT31 (a b c d : D) : gAdd (.tuple [a, b, c]) (.tuple [d]) = .ok (.tuple [a, b, c, d]) := rfl
theorem x_mkL5 (a b c d e : D) : mkL [a, b, c, d, e] = .ok (.list [a, b, c, d, e]) := rfl
theorem x_mkL6 (a b c d e f : D) : mkL [a, b, c, d, e, f] = .ok (.list [a, b, c, d, e, f]) := rfl
theorem g_addL52 (a b c d e f g : D) : gAdd (.list [a, b, c, d, e]) (.list [f, g]) = .ok (.list [a, b, c, d, e, f, g]) := rfl
theorem g_addL72 (a b c d e f g h i : D) : gAdd (.list [a, b, c, d, e, f, g]) (.list [h, i]) = .ok (.list [a, b, c, d, e, f, g, h, i]) := rfl
theorem x_neg (i : Int) : gNeg (.int i) = .ok (.int (-i)) := rfl
end PD
namespace PD
open PySem L2
/-! ### objects that change -/
inductive MV where
  | d (x : D)
  | id (n : Nat)
  | raw (v : V)
  /-- a list of objects, which itself never changes -/
  | lsi (ns : List Nat)
inductive MO where
  | lst (xs : List D)
  | ins (fs : List (Str × MV))
  | gone
abbrev Th := List MO
abbrev Al := List Addr
abbrev MEnv := List (Option MV)
def MVr (K : PySem.W.Frag) (S : Hp) (α : Al) (v : V) : MV → Prop
  | .d x => DV K S v x
  | .id n => ∃ a, α[n]? = some a ∧ v = .ref a
  | .raw w => v = w
  | .lsi ns => ∃ (a : Addr) (as : List Addr), v = .ref a ∧ S a = some (.lst (as.map V.ref)) ∧ ns.length = as.length ∧ ∀ (i n : Nat), ns[i]? = some n → ∃ b, as[i]? = some b ∧ α[n]? = some b
def MVs (K : PySem.W.Frag) (S : Hp) (α : Al) : List V → List MV → Prop
  | [], [] => True
  | v :: vs, m :: ms => MVr K S α v m ∧ MVs K S α vs ms
  | [], _ :: _ => False
  | _ :: _, [] => False
def FldR (K : PySem.W.Frag) (S : Hp) (α : Al) : List (Str × V) → List (Str × MV) → Prop
  | [], [] => True
  | (f, v) :: ws, (g, m) :: fs => f = g ∧ MVr K S α v m ∧ FldR K S α ws fs
  | [], _ :: _ => False
  | _ :: _, [] => False
def MOk (K : PySem.W.Frag) (C : Addr) (S H : Hp) (α : Al) (a : Addr) : MO → Prop
  | .lst xs => S a = none ∧ ∃ vs, H a = some (.lst vs) ∧ DVs K S vs xs
  | .ins fs => S a = none ∧ ∃ dx ws, H a = some (.ins C dx ws) ∧ FldR K S α ws fs
  | .gone => ∃ o, H a = some o
structure RelT (K : PySem.W.Frag) (C : Addr) (S H : Hp) (α : Al) (θ : Th) : Prop where
  sh : Same S H
  len : α.length = θ.length
  nd : α.Nodup
  ob : ∀ (n : Nat) (a : Addr) (o : MO), α[n]? = some a → θ[n]? = some o → MOk K C S H α a o
structure ExtM (S H : Hp) (α : Al) (S' H' : Hp) (α' : Al) : Prop where
  s : Same S S'
  pre : ∀ (n : Nat) (a : Addr), α[n]? = some a → α'[n]? = some a
  new : ∀ (n : Nat) (a : Addr), α'[n]? = some a → α.length ≤ n → H a = none
  old : ∀ x, H x ≠ none → x ∉ α → S' x = S x
  keep : ∀ x o, H x = some o → x ∉ α → H' x = some o
  alive : ∀ x, H x ≠ none → H' x ≠ none
section
variable {K : PySem.W.Frag} {C : Addr} {S H S' H' S'' H'' : Hp} {α α' α'' : Al} {θ θ' : Th}
theorem MVr.mono (e : Same S S') (p : ∀ (n : Nat) (a : Addr), α[n]? = some a → α'[n]? = some a) {v : V} {m : MV} (h : MVr K S α v m) : MVr K S' α' v m := by
  cases m with
  | d x => exact DV.mono e x v h
  | id n => obtain ⟨a, h1, h2⟩ := h; exact ⟨a, p n a h1, h2⟩
  | raw w => exact h
  | lsi ns =>
    obtain ⟨a, as, h1, h2, h3, h4⟩ := h
    exact ⟨a, as, h1, e _ _ h2, h3, fun i n hi => let ⟨b, k1, k2⟩ := h4 i n hi; ⟨b, k1, p n b k2⟩⟩
theorem MVs.mono (e : Same S S') (p : ∀ (n : Nat) (a : Addr), α[n]? = some a → α'[n]? = some a) : ∀ {vs : List V} {ms : List MV}, MVs K S α vs ms → MVs K S' α' vs ms
  | [], [], _ => trivial
  | v :: vs, m :: ms, h => ⟨h.1.mono e p, MVs.mono e p (vs := vs) (ms := ms) h.2⟩
  | [], _ :: _, h => h.elim
  | _ :: _, [], h => h.elim
theorem FldR.mono (e : Same S S') (p : ∀ (n : Nat) (a : Addr), α[n]? = some a → α'[n]? = some a) : ∀ {ws : List (Str × V)} {fs : List (Str × MV)}, FldR K S α ws fs → FldR K S' α' ws fs
  | [], [], _ => trivial
  | (f, v) :: ws, (g, m) :: fs, h => ⟨h.1, h.2.1.mono e p, FldR.mono e p (ws := ws) (fs := fs) h.2.2⟩
  | [], _ :: _, h => h.elim
  | _ :: _, [], h => h.elim
theorem MVs.length : ∀ {vs : List V} {ms : List MV}, MVs K S α vs ms → vs.length = ms.length
  | [], [], _ => rfl
  | _ :: vs, _ :: ms, h => congrArg (· + 1) (MVs.length (vs := vs) (ms := ms) h.2)
  | [], _ :: _, h => h.elim
  | _ :: _, [], h => h.elim
theorem MOk.some {a : Addr} {o : MO} (h : MOk K C S H α a o) : ∃ u, H a = some u := by
  cases o with
  | lst xs => obtain ⟨_, vs, h, _⟩ := h; exact ⟨_, h⟩
  | ins fs => obtain ⟨_, dx, ws, h, _⟩ := h; exact ⟨_, h⟩
  | gone => exact h
theorem RelT.at (T : RelT K C S H α θ) {n : Nat} {a : Addr} (h : α[n]? = some a) : ∃ o, θ[n]? = some o ∧ MOk K C S H α a o := by
  have hn : n < θ.length := by have := (List.getElem?_eq_some_iff.mp h).1; have := T.len; omega
  exact ⟨θ[n], List.getElem?_eq_getElem hn, T.ob n a _ h (List.getElem?_eq_getElem hn)⟩
theorem RelT.addr (T : RelT K C S H α θ) {n : Nat} {o : MO} (h : θ[n]? = some o) : ∃ a, α[n]? = some a ∧ MOk K C S H α a o := by
  have hn : n < α.length := by have := (List.getElem?_eq_some_iff.mp h).1; have := T.len; omega
  exact ⟨α[n], List.getElem?_eq_getElem hn, T.ob n _ o (List.getElem?_eq_getElem hn) h⟩
theorem RelT.live (T : RelT K C S H α θ) {a : Addr} (h : a ∈ α) : H a ≠ none := by
  obtain ⟨n, hn⟩ := List.getElem?_of_mem h
  obtain ⟨o, _, h2⟩ := T.at hn
  obtain ⟨u, hu⟩ := h2.some
  rw [hu]; exact (fun z => nomatch z)
theorem ExtM.refl (S H : Hp) (α : Al) : ExtM S H α S H α := ⟨Same.refl S, fun _ _ h => h, fun n a h hl => by
  have := (List.getElem?_eq_some_iff.mp h).1; omega, fun _ _ _ => rfl, fun _ _ h _ => h, fun _ h => h⟩
theorem ExtM.out (x : ExtM S H α S' H' α') {a : Addr} (h : H a ≠ none) (hn : a ∉ α) : a ∉ α' := fun hm => by
  obtain ⟨n, e⟩ := List.getElem?_of_mem hm
  by_cases hl : n < α.length
  · have e1 := x.pre n _ (List.getElem?_eq_getElem hl)
    rw [e] at e1
    cases e1
    exact hn (List.getElem_mem hl)
  · exact h (x.new n a e (by omega))
theorem ExtM.trans (x : ExtM S H α S' H' α') (y : ExtM S' H' α' S'' H'' α'') : ExtM S H α S'' H'' α'' where
  s := x.s.trans y.s
  pre n a h := y.pre n a (x.pre n a h)
  new n a h hl := by
    by_cases hn : n < α'.length
    · have e := y.pre n _ (List.getElem?_eq_getElem hn)
      rw [h] at e
      cases e
      exact x.new n _ (List.getElem?_eq_getElem hn) hl
    · have e := y.new n a h (by omega)
      cases hh : H a with
      | none => rfl
      | some o => exact absurd e (x.alive a (by rw [hh]; exact (fun z => nomatch z)))
  old z hz hn := (y.old z (x.alive z hz) (x.out hz hn)).trans (x.old z hz hn)
  keep z o hz hn := y.keep z o (x.keep z o hz hn) (x.out (by rw [hz]; exact (fun z => nomatch z)) hn)
  alive z hz := y.alive z (x.alive z hz)
/-- what pure parts do -/
theorem RelT.ext (T : RelT K C S H α θ) (x : Ext S H S' H') : RelT K C S' H' α θ := ⟨x.sh, T.len, T.nd, fun n a o h1 h2 => by
  have h := T.ob n a o h1 h2
  have hs : S a = none → S' a = none := fun z => by
    obtain ⟨u, hu⟩ := h.some
    rw [x.old a (by rw [hu]; exact (fun z => nomatch z))]
    exact z
  cases o with
  | lst xs => obtain ⟨h0, vs, h1, h2⟩ := h; exact ⟨hs h0, vs, x.h _ _ h1, h2.mono x.s⟩
  | ins fs => obtain ⟨h0, dx, ws, h1, h2⟩ := h; exact ⟨hs h0, dx, ws, x.h _ _ h1, h2.mono x.s fun _ _ z => z⟩
  | gone => obtain ⟨u, h⟩ := h; exact ⟨u, x.h _ _ h⟩⟩
theorem ExtM.of (x : Ext S H S' H') : ExtM S H α S' H' α := ⟨x.s, fun _ _ h => h, fun n a h hl => by
  have := (List.getElem?_eq_some_iff.mp h).1; omega, fun z hz _ => x.old z hz, fun z o hz _ => x.h z o hz, fun z hz => by
  cases e : H z with
  | none => exact absurd e hz
  | some o => rw [x.h z o e]; exact (fun z => nomatch z)⟩
theorem RelT.grow (T : RelT K C S H α θ) (e : Same H H') : RelT K C S H' α θ := ⟨T.sh.trans e, T.len, T.nd, fun n a o h1 h2 => by
  have h := T.ob n a o h1 h2
  cases o with
  | lst xs => obtain ⟨h0, vs, h1, h2⟩ := h; exact ⟨h0, vs, e _ _ h1, h2⟩
  | ins fs => obtain ⟨h0, dx, ws, h1, h2⟩ := h; exact ⟨h0, dx, ws, e _ _ h1, h2⟩
  | gone => obtain ⟨u, h⟩ := h; exact ⟨u, e _ _ h⟩⟩
theorem ExtM.grow (e : Same H H') : ExtM S H α S H' α := ⟨Same.refl S, fun _ _ h => h, fun n a h hl => by
  have := (List.getElem?_eq_some_iff.mp h).1; omega, fun _ _ _ => rfl, fun z o hz _ => e z o hz, fun z hz => by
  cases h : H z with
  | none => exact absurd h hz
  | some o => rw [e z o h]; exact (fun z => nomatch z)⟩
end
/-! ### results -/
inductive MRes (A : Type) where
  | ok (a : A) (θ : Th)
  | err (c : Str) (θ : Th)
  | bad
def MRes.bind {A B : Type} (r : MRes A) (k : A → Th → MRes B) : MRes B := match r with
  | .ok a θ => k a θ
  | .err c θ => .err c θ
  | .bad => .bad
def PostM {A W : Type} (K : PySem.W.Frag) (mg : Str → Option Value) (C : Addr) (E : XK) (S H : Hp) (α : Al) (R : Hp → Al → W → A → Prop) (r : MRes A) (Q : W → Hp → Prop) : Prop := match r with
  | .ok a θ' => ∀ w S' H' α', ExtM S H α S' H' α' → RelT K C S' H' α' θ' → R S' α' w a → Q w H'
  | .err c θ' => ∀ u S' H' α', mg c = some u → ExtM S H α S' H' α' → RelT K C S' H' α' θ' → E u none H'
  | .bad => False
section
variable {A B W Z : Type} {K : PySem.W.Frag} {mg : Str → Option Value} {C : Addr} {E : XK} {S H S' H' : Hp} {α α' : Al} {θ : Th}
theorem PostM.mono {R : Hp → Al → W → A → Prop} {r : MRes A} {Q : W → Hp → Prop} (x : ExtM S H α S' H' α') (h : PostM K mg C E S H α R r Q) : PostM K mg C E S' H' α' R r Q := by
  cases r with
  | ok a t => exact fun w S2 H2 α2 x2 T hr => h w S2 H2 α2 (x.trans x2) T hr
  | err c t => exact fun u S2 H2 α2 e x2 T => h u S2 H2 α2 e (x.trans x2) T
  | bad => exact h
theorem PostM.bind {R1 : Hp → Al → W → A → Prop} {R2 : Hp → Al → Z → B → Prop} {r : MRes A} {k : A → Th → MRes B} {Q : Z → Hp → Prop} {Q1 : W → Hp → Prop} (h : PostM K mg C E S H α R2 (r.bind k) Q)
    (hk : ∀ a θ' w S' H' α', ExtM S H α S' H' α' → RelT K C S' H' α' θ' → R1 S' α' w a → PostM K mg C E S' H' α' R2 (k a θ') Q → Q1 w H') : PostM K mg C E S H α R1 r Q1 := by
  cases r with
  | ok a t => exact fun w S2 H2 α2 x2 T hr => hk a t w S2 H2 α2 x2 T hr (PostM.mono x2 h)
  | err c t => exact h
  | bad => exact h
theorem PostM.ok0 {R : Hp → Al → W → A → Prop} {a : A} {Q : W → Hp → Prop} (h : PostM K mg C E S H α R (.ok a θ) Q) {w : W} (T : RelT K C S H α θ) (hr : R S α w a) : Q w H := h w S H α (ExtM.refl S H α) T hr
/-- a pure result among the others -/
def liftR (r : Res A) (f : A → B) (θ : Th) : MRes B := match r with
  | .ok a => .ok (f a) θ
  | .err c => .err c θ
  | .bad => .bad
theorem PostM.pure {R1 : Hp → W → A → Prop} {R2 : Hp → Al → W → B → Prop} {r : Res A} {f : A → B} {Q : W → Hp → Prop} (T : RelT K C S H α θ) (hR : ∀ S' w a, R1 S' w a → R2 S' α w (f a)) (h : PostM K mg C E S H α R2 (liftR r f θ) Q) : PostG mg E S H R1 r Q := by
  cases r with
  | ok a => exact fun w S' H' x hr => h w S' H' α (ExtM.of x) (T.ext x) (hR _ _ _ hr)
  | err c => exact fun u H' e sm => h u S H' α e (ExtM.grow sm) (T.grow sm)
  | bad => exact h
end
/-! ### environments -/
structure EnvR (K : PySem.W.Frag) (S : Hp) (α : Al) (σ : L2.St) (ρ : MEnv) : Prop where
  len : σ.length = ρ.length
  dt : ∀ (i : Nat) (m : MV), ρ[i]? = some (some m) → ∃ v, σ[i]? = some (some v) ∧ MVr K S α v m
def eraseS : Option MV → Slot
  | some (.d x) => .d x
  | some (.raw v) => .raw v
  | _ => .un
def eraseM (ρ : MEnv) : DEnv := ρ.map eraseS
def viewS (θ : Th) : Option MV → Slot
  | some (.d x) => .d x
  | some (.id n) => match θ[n]? with
    | some (.lst xs) => .d (.list xs)
    | _ => .un
  | some (.raw v) => .raw v
  | some (.lsi _) => .un
  | none => .un
def viewM (θ : Th) (ρ : MEnv) : DEnv := ρ.map (viewS θ)
section
variable {K : PySem.W.Frag} {C : Addr} {S H S' H' : Hp} {α α' : Al} {θ : Th} {σ : L2.St} {ρ : MEnv}
theorem EnvR.mono (r : EnvR K S α σ ρ) (x : ExtM S H α S' H' α') : EnvR K S' α' σ ρ := ⟨r.len, fun i m e => let ⟨v, h1, h2⟩ := r.dt i m e; ⟨v, h1, h2.mono x.s x.pre⟩⟩
theorem EnvR.pure (r : EnvR K S α σ ρ) (T : RelT K C S H α θ) : RelE K S H σ (eraseM ρ) := by
  refine ⟨T.sh, by unfold eraseM; rw [List.length_map]; exact r.len, fun i y e => ?_, fun i v e => ?_⟩
  · unfold eraseM at e
    rw [List.getElem?_map] at e
    cases e1 : ρ[i]? with
    | none => rw [e1] at e; cases e
    | some s =>
      rw [e1] at e
      have e2 : eraseS s = .d y := Option.some.inj e
      cases s with
      | none => cases e2
      | some m =>
        cases m with
        | d z => cases e2; exact r.dt i _ e1
        | id n => cases e2
        | raw w => cases e2
        | lsi _ => cases e2
  · unfold eraseM at e
    rw [List.getElem?_map] at e
    cases e1 : ρ[i]? with
    | none => rw [e1] at e; cases e
    | some s =>
      rw [e1] at e
      have e2 : eraseS s = .raw v := Option.some.inj e
      cases s with
      | none => cases e2
      | some m =>
        cases m with
        | d z => cases e2
        | id n => cases e2
        | lsi _ => cases e2
        | raw w =>
          cases e2
          obtain ⟨u, h1, h2⟩ := r.dt i _ e1
          cases h2
          exact h1
theorem EnvR.view (r : EnvR K S α σ ρ) (T : RelT K C S H α θ) : RelE K H H σ (viewM θ ρ) := by
  refine ⟨Same.refl H, by unfold viewM; rw [List.length_map]; exact r.len, fun i y e => ?_, fun i v e => ?_⟩
  · unfold viewM at e
    rw [List.getElem?_map] at e
    cases e1 : ρ[i]? with
    | none => rw [e1] at e; cases e
    | some s =>
      rw [e1] at e
      have e2 : viewS θ s = .d y := Option.some.inj e
      cases s with
      | none => cases e2
      | some m =>
        cases m with
        | d z =>
          cases e2
          obtain ⟨v, h1, h2⟩ := r.dt i _ e1
          exact ⟨v, h1, DV.mono T.sh _ _ h2⟩
        | id n =>
          obtain ⟨v, h1, a, h2, rfl⟩ := r.dt i _ e1
          unfold viewS at e2
          dsimp only at e2
          split at e2
          · rename_i xs hx
            cases e2
            obtain ⟨_, vs, h3, h4⟩ := T.ob n a _ h2 hx
            refine ⟨_, h1, ?_⟩
            rw [DV]
            exact ⟨a, vs, rfl, ls_of h3, h4.mono T.sh⟩
          · cases e2
        | raw w => cases e2
        | lsi _ => cases e2
  · unfold viewM at e
    rw [List.getElem?_map] at e
    cases e1 : ρ[i]? with
    | none => rw [e1] at e; cases e
    | some s =>
      rw [e1] at e
      have e2 : viewS θ s = .raw v := Option.some.inj e
      cases s with
      | none => cases e2
      | some m =>
        cases m with
        | d z => cases e2
        | id n =>
          unfold viewS at e2
          dsimp only at e2
          split at e2 <;> cases e2
        | lsi _ => cases e2
        | raw w =>
          cases e2
          obtain ⟨u, h1, h2⟩ := r.dt i _ e1
          cases h2
          exact h1
theorem EnvR.set (r : EnvR K S α σ ρ) {i : Nat} {v : V} {m : MV} (h : MVr K S α v m) : EnvR K S α (σ.set i (some v)) (ρ.set i (some m)) := by
  have hl := r.len
  refine ⟨by rw [List.length_set, List.length_set]; exact hl, fun j x e => ?_⟩
  rcases set_at e with ⟨rfl, hi, e⟩ | ⟨hj, e⟩
  · cases e
    exact ⟨v, List.getElem?_set_self (by omega), h⟩
  · rw [List.getElem?_set_ne hj]
    exact r.dt j x e
end
end PD
namespace PD
open PySem L2
abbrev EqM : Hp → Al → Bool → Bool → Prop := fun _ _ b c => b = c
structure MD (K : PySem.W.Frag) (mg : Str → Option Value) (C : Addr) (X : Cx) (E : L2.St → XK) (e : Expr) (t : TE) (f : MEnv → Th → MRes MV) : Prop where
  pe : PE X e t
  sd : ∀ (S H : Hp) (α : Al) (θ : Th) (σ : L2.St) (ρ : MEnv) (Q : VK), RelT K C S H α θ → EnvR K S α σ ρ → PostM K mg C (E σ) S H α (MVr K) (f ρ θ) Q → t σ H Q
structure MT (K : PySem.W.Frag) (mg : Str → Option Value) (C : Addr) (X : Cx) (E : L2.St → XK) (e : Expr) (t : TT) (f : MEnv → Th → MRes Bool) : Prop where
  pe : PT X e t
  sd : ∀ (S H : Hp) (α : Al) (θ : Th) (σ : L2.St) (ρ : MEnv) (Q : Bool → Hp → Prop), RelT K C S H α θ → EnvR K S α σ ρ → PostM K mg C (E σ) S H α EqM (f ρ θ) Q → t σ H Q
structure MW (K : PySem.W.Frag) (mg : Str → Option Value) (C : Addr) (X : Cx) (E : L2.St → XK) (e : Expr) (t : TT) (f : MEnv → Th → MRes Bool) : Prop where
  pe : PW X e t
  sd : ∀ (S H : Hp) (α : Al) (θ : Th) (σ : L2.St) (ρ : MEnv) (Q : Bool → Hp → Prop), RelT K C S H α θ → EnvR K S α σ ρ → PostM K mg C (E σ) S H α EqM (f ρ θ) Q → t σ H Q
structure MA (K : PySem.W.Frag) (mg : Str → Option Value) (C : Addr) (X : Cx) (E : L2.St → XK) (es : List Expr) (t : TA) (f : MEnv → Th → MRes (List MV)) : Prop where
  pe : PA X es t
  sd : ∀ (S H : Hp) (α : Al) (θ : Th) (σ : L2.St) (ρ : MEnv) (Q : List V → Hp → Prop), RelT K C S H α θ → EnvR K S α σ ρ → PostM K mg C (E σ) S H α (MVs K) (f ρ θ) Q → t σ H Q
section
variable {K : PySem.W.Frag} {mg : Str → Option Value} {C : Addr} {X : Cx} {E : L2.St → XK} {E1 : XK} {a b c e o : Expr} {es : List Expr} {ta tb te : TE} {t : TA} {tA tB' : TT} {fa fb fe : MEnv → Th → MRes MV} {ga gb : MEnv → Th → MRes Bool} {g : MEnv → Th → MRes (List MV)} {pos p apos : Pos} {x m : Str}
/-! ### pure parts -/
def mPure (f : DEnv → Res D) : MEnv → Th → MRes MV := fun ρ θ => liftR (f (eraseM ρ)) MV.d θ
theorem md_pure {f : DEnv → Res D} (h : PD K mg X E1 e te f) : MD K mg C X (fun _ => E1) e te (mPure f) := ⟨h.pe, fun S H α θ σ ρ Q T r q =>
  h.sd S H σ _ Q (r.pure T) (PostM.pure (R1 := DV K) T (fun _ _ _ z => z) q)⟩
theorem md_pureS {f : DEnv → Res D} (h : PD K mg X E0 e te f) : MD K mg C X E e te (mPure (fSt f)) := ⟨h.pe, fun S H α θ σ ρ Q T r q =>
  h.sd S H σ _ Q (r.pure T) (PostG.unstrict (PostM.pure (R1 := DV K) T (fun _ _ _ z => z) q))⟩
def mPureT (f : DEnv → Res Bool) : MEnv → Th → MRes Bool := fun ρ θ => liftR (f (viewM θ ρ)) (fun b => b) θ
/-- a pure test may read the lists -/
theorem peek_post {A B W : Type} {r : Res A} {f : A → B} {S H : Hp} {α : Al} {θ : Th} {E : XK} {R1 : Hp → W → A → Prop} {R2 : Hp → Al → W → B → Prop} {Q : W → Hp → Prop} (T : RelT K C S H α θ) (hR : ∀ S' w a, r = .ok a → R1 S' w a → R2 S α w (f a)) (h : PostM K mg C E S H α R2 (liftR r f θ) Q) : PostG mg E H H R1 r Q := by
  cases r with
  | ok a => exact fun w S' H' x hr => h w S H' α (ExtM.grow x.h) (T.grow x.h) (hR _ _ _ rfl hr)
  | err c => exact fun u H' e sm => h u S H' α e (ExtM.grow sm) (T.grow sm)
  | bad => exact h
theorem mt_pure {f : DEnv → Res Bool} (h : TD K mg X E1 e tA f) : MT K mg C X (fun _ => E1) e tA (mPureT f) := ⟨h.pe, fun S H α θ σ ρ Q T r q =>
  h.sd H H σ _ Q (r.view T) (peek_post (R1 := EqB) T (fun _ _ _ _ z => z) q)⟩
theorem mt_pureS {f : DEnv → Res Bool} (h : TD K mg X E0 e tA f) : MT K mg C X E e tA (mPureT (fSt f)) := ⟨h.pe, fun S H α θ σ ρ Q T r q =>
  h.sd H H σ _ Q (r.view T) (PostG.unstrict (peek_post (R1 := EqB) T (fun _ _ _ _ z => z) q))⟩
/-! ### names, attributes -/
def mVar (i : Nat) : MEnv → Th → MRes MV := fun ρ θ => match ρ[i]? with
  | some (some m) => .ok m θ
  | _ => .bad
theorem md_var (i : Nat) (h : PE X (.Name x pos) (tVar i)) : MD K mg C X E (.Name x pos) (tVar i) (mVar i) := ⟨h, fun S H α θ σ ρ Q T r h => by
  unfold mVar at h
  split at h
  · rename_i m e
    obtain ⟨v, h1, h2⟩ := r.dt i m e
    exact ⟨v, h1, PostM.ok0 h T h2⟩
  · exact h.elim⟩
def insAt (θ : Th) (m : MV) : Option (Nat × List (Str × MV)) := match m with
  | .id n => match θ[n]? with
    | some (.ins fs) => some (n, fs)
    | _ => none
  | _ => none
theorem insAt_some {θ : Th} {m : MV} {n : Nat} {fs : List (Str × MV)} (h : insAt θ m = some (n, fs)) : m = .id n ∧ θ[n]? = some (.ins fs) := by
  unfold insAt at h
  split at h
  · split at h
    · rename_i hh
      cases h
      exact ⟨rfl, hh⟩
    · cases h
  · cases h
theorem FldR.get {S : Hp} {α : Al} : ∀ {ws : List (Str × V)} {fs : List (Str × MV)}, FldR K S α ws fs → ∀ {f : Str} {m : MV}, fs.lookup f = some m → ∃ v, ws.lookup f = some v ∧ MVr K S α v m
  | [], [], _, f, m, e => by cases e
  | (g, v) :: ws, (g', m') :: fs, h, f, m, e => by
    obtain ⟨rfl, h1, h2⟩ := h
    unfold List.lookup at e ⊢
    split at e
    · rename_i hb
      cases e
      exact ⟨v, rfl, h1⟩
    · rename_i hb
      exact FldR.get h2 e
  | [], _ :: _, h, _, _, _ => h.elim
  | _ :: _, [], h, _, _, _ => h.elim
theorem FldR.not {S : Hp} {α : Al} : ∀ {ws : List (Str × V)} {fs : List (Str × MV)}, FldR K S α ws fs → ∀ {f : Str}, fs.lookup f = none → ws.lookup f = none
  | [], [], _, f, e => rfl
  | (g, v) :: ws, (g', m') :: fs, h, f, e => by
    obtain ⟨rfl, h1, h2⟩ := h
    unfold List.lookup at e ⊢
    split at e
    · cases e
    · rename_i hb
      exact FldR.not h2 e
  | [], _ :: _, h, _, _ => h.elim
  | _ :: _, [], h, _, _ => h.elim
theorem FldR.length {S : Hp} {α : Al} : ∀ {ws : List (Str × V)} {fs : List (Str × MV)}, FldR K S α ws fs → ws.length = fs.length
  | [], [], _ => rfl
  | (_, _) :: ws, (_, _) :: fs, h => congrArg (· + 1) (FldR.length (ws := ws) (fs := fs) h.2.2)
  | [], _ :: _, h => h.elim
  | _ :: _, [], h => h.elim
def putM (f : Str) (v : MV) : List (Str × MV) → List (Str × MV)
  | [] => [(f, v)]
  | (g, x) :: r => if g = f then (g, v) :: r else (g, x) :: putM f v r
theorem FldR.put {S : Hp} {α : Al} {f : Str} {v : V} {m : MV} (hv : MVr K S α v m) : ∀ {ws : List (Str × V)} {fs : List (Str × MV)}, FldR K S α ws fs → FldR K S α (putF f v ws) (putM f m fs)
  | [], [], _ => ⟨rfl, hv, trivial⟩
  | (g, w) :: ws, (g', m') :: fs, h => by
    obtain ⟨rfl, h1, h2⟩ := h
    unfold putF putM
    split
    · exact ⟨rfl, hv, h2⟩
    · exact ⟨rfl, h1, FldR.put hv h2⟩
  | [], _ :: _, h => h.elim
  | _ :: _, [], h => h.elim
def getF (f : Str) (m : MV) (θ : Th) : MRes MV := match insAt θ m with
  | some (_, fs) => match fs.lookup f with
    | some v => .ok v θ
    | none => .bad
  | none => .bad
def mFld (fe : MEnv → Th → MRes MV) (f : Str) : MEnv → Th → MRes MV := fun ρ θ => (fe ρ θ).bind fun m θ1 => getF f m θ1
theorem md_fld (he : MD K mg C X E e te fe) (c : Cls K C) (n : NoAttr K C m) (hb : attributeBase e m X.env (eval e X.env) = eval e X.env := by rfl) (hK : X.K = K := by rfl) : MD K mg C X E (.Attribute e m pos) (tFld K te m) (mFld fe m) := by
  subst hK
  refine ⟨pe_fld he.pe hb, fun S H α θ σ ρ Q T r h => ?_⟩
  refine he.sd S H α θ σ ρ _ T r (PostM.bind h fun v θ1 w S1 H1 α1 x1 T1 r1 h1 => ?_)
  unfold getF at h1
  split at h1
  · rename_i k fs e1
    obtain ⟨rfl, e5⟩ := insAt_some e1
    split at h1
    · rename_i y e2
      obtain ⟨a, ha, rfl⟩ := r1
      obtain ⟨_, dx, ws, g1, g2⟩ := T1.ob k a _ ha e5
      obtain ⟨u, g3, g4⟩ := g2.get e2
      exact ⟨a, C, dx, ws, u, rfl, g1, c, n, g3, PostM.ok0 h1 T1 g4⟩
    · exact h1.elim
  · exact h1.elim
/-! ### operators -/
def scal : D → Bool
  | .none => true
  | .bool _ => true
  | .int _ => true
  | .str _ => true
  | _ => false
theorem scal_dv {S S' : Hp} {w : V} {z : D} (h : scal z = true) (d : DV K S w z) : DV K S' w z := by
  cases z with
  | none => exact d
  | bool _ => exact d
  | int _ => exact d
  | str _ => exact d
  | _ => cases h
def look (θ : Th) : MV → Option D
  | .d x => some x
  | .id n => match θ[n]? with
    | some (.lst xs) => some (.list xs)
    | _ => none
  | .raw _ => none
  | .lsi _ => none
theorem look_dv {S H : Hp} {α : Al} {θ : Th} {m : MV} {w : V} {z : D} (T : RelT K C S H α θ) (h : MVr K S α w m) (e : look θ m = some z) : DV K H w z := by
  cases m with
  | d x => cases e; exact DV.mono T.sh _ _ h
  | id n =>
    obtain ⟨a, h1, rfl⟩ := h
    unfold look at e
    dsimp only at e
    split at e
    · rename_i xs hx
      cases e
      obtain ⟨_, vs, h3, h4⟩ := T.ob n a _ h1 hx
      rw [DV]
      exact ⟨a, vs, rfl, ls_of h3, h4.mono T.sh⟩
    · cases e
  | raw w => cases e
  | lsi _ => cases e
def only (r : Res D) : Res D := match r with
  | .ok z => if scal z = true then .ok z else .bad
  | .err c => .err c
  | .bad => .bad
theorem only_post {S H : Hp} {α : Al} {θ : Th} {E : XK} {r : Res D} {Q : VK} (T : RelT K C S H α θ) (h : PostM K mg C E S H α (MVr K) (liftR (only r) MV.d θ) Q) : PostG mg E H H (DV K) r Q := by
  cases r with
  | ok z =>
    unfold only at h
    dsimp only at h
    split at h
    · rename_i hz
      exact fun w S' H' x hr => h w S H' α (ExtM.grow x.h) (T.grow x.h) (scal_dv hz hr)
    · exact h.elim
  | err c => exact fun u H' e sm => h u S H' α e (ExtM.grow sm) (T.grow sm)
  | bad => exact h
def opM (gg : D → D → Res D) (u v : MV) (θ : Th) : MRes MV := match u, v with
  | .d x, .d y => liftR (gg x y) MV.d θ
  | u, v => match look θ u, look θ v with
    | some x, some y => liftR (only (gg x y)) MV.d θ
    | _, _ => .bad
theorem opM_sd {rr : R2} {gg : D → D → Res D} (hs : ∀ σ, OpS K mg (E σ) rr gg) {S H : Hp} {α : Al} {θ : Th} {σ : L2.St} {u v : MV} {y z : V} {Q : VK} (T : RelT K C S H α θ) (hy : MVr K S α y u) (hz : MVr K S α z v) (h : PostM K mg C (E σ) S H α (MVr K) (opM gg u v θ) Q) : rr y z H Q := by
  unfold opM at h
  split at h
  · exact hs σ S H y z _ _ Q T.sh hy hz (PostM.pure (R1 := DV K) T (fun _ _ _ z => z) h)
  · split at h
    · rename_i d1 d2 e1 e2
      exact hs σ H H y z d1 d2 Q (Same.refl H) (look_dv T hy e1) (look_dv T hz e2) (only_post T h)
    · exact h.elim
def mBin (gg : D → D → Res D) (f1 f2 : MEnv → Th → MRes MV) : MEnv → Th → MRes MV := fun ρ θ => (f1 ρ θ).bind fun u θ1 => (f2 ρ θ1).bind fun v θ2 => opM gg u v θ2
theorem mbin_sd {rr : R2} {gg : D → D → Res D} (hs : ∀ σ, OpS K mg (E σ) rr gg) (ha : MD K mg C X E a ta fa) (hb : MD K mg C X E b tb fb) (S H : Hp) (α : Al) (θ : Th) (σ : L2.St) (ρ : MEnv) (Q : VK) (T : RelT K C S H α θ) (r : EnvR K S α σ ρ)
    (h : PostM K mg C (E σ) S H α (MVr K) (mBin gg fa fb ρ θ) Q) : tOp rr ta tb σ H Q := by
  refine ha.sd S H α θ σ ρ _ T r (PostM.bind h fun u θ1 y S1 H1 α1 x1 T1 r1 h1 => ?_)
  refine hb.sd S1 H1 α1 θ1 σ ρ _ T1 (r.mono x1) (PostM.bind h1 fun v θ2 z S2 H2 α2 x2 T2 r2 h2 => ?_)
  exact opM_sd hs T2 (r1.mono x2.s x2.pre) r2 h2
theorem md_op {op : Operator} {rr : R2} {gg : D → D → Res D} (ho : OpR X (binaryOp op) rr) (hs : ∀ σ, OpS K mg (E σ) rr gg) (ha : MD K mg C X E a ta fa) (hb : MD K mg C X E b tb fb) : MD K mg C X E (.BinOp a op b pos) (tOp rr ta tb) (mBin gg fa fb) :=
  ⟨pe_op ho ha.pe hb.pe, mbin_sd hs ha hb⟩
theorem md_cmp {op : CmpOp} {rr : R2} {gg : D → D → Res D} (ho : OpR X (compareOp op) rr) (hs : ∀ σ, OpS K mg (E σ) rr gg) (ha : MD K mg C X E a ta fa) (hb : MD K mg C X E b tb fb) (hm : behindInMarks op b = false := by first | exact nomark _ | rfl) :
    MD K mg C X E (.Compare a [op] [b] pos) (tOp rr ta tb) (mBin gg fa fb) := ⟨pe_cmpR ho ha.pe hb.pe hm, mbin_sd hs ha hb⟩
theorem md_ix {rr : R2} {gg : D → D → Res D} (hr : IxR X rr) (hs : ∀ σ, OpS K mg (E σ) rr gg) (ha : MD K mg C X E a ta fa) (hb : MD K mg C X E b tb fb) (hp : PlainIx b := by exact fun _ _ => rfl) : MD K mg C X E (.Subscript a b pos) (tOp rr ta tb) (mBin gg fa fb) :=
  ⟨pe_ix hr ha.pe hb.pe hp, mbin_sd hs ha hb⟩
/-! ### tests -/
def asBM (m : MV) (θ : Th) : MRes Bool := match m with
  | .d (.bool b) => .ok b θ
  | _ => .bad
def mTest (f : MEnv → Th → MRes MV) : MEnv → Th → MRes Bool := fun ρ θ => (f ρ θ).bind asBM
theorem mtest_sd (he : MD K mg C X E e te fe) (S H : Hp) (α : Al) (θ : Th) (σ : L2.St) (ρ : MEnv) (Q : Bool → Hp → Prop) (T : RelT K C S H α θ) (r : EnvR K S α σ ρ) (h : PostM K mg C (E σ) S H α EqM (mTest fe ρ θ) Q) : te σ H fun x H1 => ∃ k, x = .bl k ∧ Q k H1 := by
  refine he.sd S H α θ σ ρ _ T r (PostM.bind h fun u θ1 y S1 H1 α1 x1 T1 r1 h1 => ?_)
  unfold asBM at h1
  split at h1
  · rename_i b
    exact ⟨b, r1, PostM.ok0 h1 T1 rfl⟩
  · exact h1.elim
theorem mt_cmp {op : CmpOp} {rr : R2} {gg : D → D → Res D} (ho : OpR X (compareOp op) rr) (hs : ∀ σ, OpS K mg (E σ) rr gg) (ha : MD K mg C X E a ta fa) (hb : MD K mg C X E b tb fb) (hm : behindInMarks op b = false := by first | exact nomark _ | rfl) :
    MT K mg C X E (.Compare a [op] [b] pos) (tTest (tOp rr ta tb)) (mTest (mBin gg fa fb)) :=
  ⟨pt_cmpR ho ha.pe hb.pe hm, fun S H α θ σ ρ Q T r h => mtest_sd (md_cmp (pos := pos) ho hs ha hb hm) S H α θ σ ρ Q T r h⟩
theorem mt_val (he : MD K mg C X E e te fe) (hw : ∀ whole, isTrue e X.env whole = (do let v ← whole; standAt e.pos; holding [v] (truthy v)) := by intro _; rfl) : MT K mg C X E e (tB te) (mTest fe) :=
  ⟨pt_val he.pe hw, fun S H α θ σ ρ Q T r h => mtest_sd he S H α θ σ ρ Q T r h⟩
def mNot (f : MEnv → Th → MRes Bool) : MEnv → Th → MRes Bool := fun ρ θ => (f ρ θ).bind fun b θ1 => .ok (!b) θ1
theorem mt_not (ha : MT K mg C X E a tA ga) : MT K mg C X E (.UnaryOp .Not a pos) (tNot tA) (mNot ga) :=
  ⟨pt_not ha.pe, fun S H α θ σ ρ Q T r h => ha.sd S H α θ σ ρ _ T r (PostM.bind h fun u θ1 y S1 H1 α1 x1 T1 r1 h1 => by cases r1; exact PostM.ok0 h1 T1 rfl)⟩
def mAnd (f g : MEnv → Th → MRes Bool) : MEnv → Th → MRes Bool := fun ρ θ => (f ρ θ).bind fun b θ1 => if b = true then g ρ θ1 else .ok false θ1
def mOr (f g : MEnv → Th → MRes Bool) : MEnv → Th → MRes Bool := fun ρ θ => (f ρ θ).bind fun b θ1 => if b = true then .ok true θ1 else g ρ θ1
variable {rest : List Expr}
theorem MW.mt (h : MW K mg C X E e tA ga) : MT K mg C X E e tA ga := ⟨h.pe.pt, h.sd⟩
theorem mw_and1 (ha : MT K mg C X E a tA ga) : MW K mg C X E (.BoolOp .And [a] pos) tA ga := ⟨pw_and1 ha.pe, ha.sd⟩
theorem mw_or1 (ha : MT K mg C X E a tA ga) : MW K mg C X E (.BoolOp .Or [a] pos) tA ga := ⟨pw_or1 ha.pe, ha.sd⟩
theorem mw_and (ha : MT K mg C X E a tA ga) (hb : MW K mg C X E (.BoolOp .And (b :: rest) pos) tB' gb) : MW K mg C X E (.BoolOp .And (a :: b :: rest) pos) (tAnd tA tB') (mAnd ga gb) :=
  ⟨pw_and ha.pe hb.pe, fun S H α θ σ ρ Q T r h => ha.sd S H α θ σ ρ _ T r (PostM.bind h fun u θ1 y S1 H1 α1 x1 T1 r1 h1 => by
    cases r1
    cases u with
    | true => exact hb.sd S1 H1 α1 θ1 σ ρ Q T1 (r.mono x1) h1
    | false => exact PostM.ok0 h1 T1 rfl)⟩
theorem mw_or (ha : MT K mg C X E a tA ga) (hb : MW K mg C X E (.BoolOp .Or (b :: rest) pos) tB' gb) : MW K mg C X E (.BoolOp .Or (a :: b :: rest) pos) (tOr tA tB') (mOr ga gb) :=
  ⟨pw_or ha.pe hb.pe, fun S H α θ σ ρ Q T r h => ha.sd S H α θ σ ρ _ T r (PostM.bind h fun u θ1 y S1 H1 α1 x1 T1 r1 h1 => by
    cases r1
    cases u with
    | false => exact hb.sd S1 H1 α1 θ1 σ ρ Q T1 (r.mono x1) h1
    | true => exact PostM.ok0 h1 T1 rfl)⟩
def mIf (g : MEnv → Th → MRes Bool) (f1 f2 : MEnv → Th → MRes MV) : MEnv → Th → MRes MV := fun ρ θ => (g ρ θ).bind fun b θ1 => if b = true then f1 ρ θ1 else f2 ρ θ1
theorem md_if (hc : MT K mg C X E c tA ga) (ha : MD K mg C X E a ta fa) (hb : MD K mg C X E b tb fb) : MD K mg C X E (.IfExp c a b pos) (tIf tA ta tb) (mIf ga fa fb) :=
  ⟨pe_ifExp hc.pe ha.pe hb.pe, fun S H α θ σ ρ Q T r h => hc.sd S H α θ σ ρ _ T r (PostM.bind h fun u θ1 y S1 H1 α1 x1 T1 r1 h1 => by
    cases r1
    cases u with
    | true => exact ha.sd S1 H1 α1 θ1 σ ρ Q T1 (r.mono x1) h1
    | false => exact hb.sd S1 H1 α1 θ1 σ ρ Q T1 (r.mono x1) h1)⟩
/-- and, as a value -/
def mAndV (f g : MEnv → Th → MRes MV) : MEnv → Th → MRes MV := fun ρ θ => (mTest f ρ θ).bind fun b θ1 => if b = true then g ρ θ1 else .ok (.d (.bool false)) θ1
theorem md_one {op} (h : MD K mg C X E a ta fa) : MD K mg C X E (.BoolOp op [a] pos) ta fa := ⟨pe_one h.pe, h.sd⟩
theorem md_and (ha : MD K mg C X E a ta fa) (hb : MD K mg C X E (.BoolOp .And (b :: rest) pos) tb fb) : MD K mg C X E (.BoolOp .And (a :: b :: rest) pos) (tAndV ta tb) (mAndV fa fb) :=
  ⟨pe_and ha.pe hb.pe, fun S H α θ σ ρ Q T r h => by
    refine (mtest_sd ha S H α θ σ ρ (fun k H1 => if k = true then tb σ H1 Q else Q (.bl false) H1) T r ?_)
    refine PostM.bind h fun u θ1 y S1 H1 α1 x1 T1 r1 h1 => ?_
    cases r1
    cases u with
    | true => exact hb.sd S1 H1 α1 θ1 σ ρ Q T1 (r.mono x1) h1
    | false => exact PostM.ok0 h1 T1 rfl⟩
/-! ### arguments, displays -/
def mNil : MEnv → Th → MRes (List MV) := fun _ θ => .ok [] θ
def mCons (f : MEnv → Th → MRes MV) (g : MEnv → Th → MRes (List MV)) : MEnv → Th → MRes (List MV) := fun ρ θ => (f ρ θ).bind fun x θ1 => (g ρ θ1).bind fun xs θ2 => .ok (x :: xs) θ2
theorem ma_nil : MA K mg C X E [] tNil mNil := ⟨pa_nil, fun S H α θ σ ρ Q T r h => PostM.ok0 h T trivial⟩
theorem ma_cons (ha : MD K mg C X E e te fe) (hr : MA K mg C X E es t g) (hs : starEach (e :: es) X.env = (false, eval e X.env) :: starEach es X.env := by rfl) : MA K mg C X E (e :: es) (tCons te t) (mCons fe g) := ⟨pa_cons ha.pe hr.pe hs, fun S H α θ σ ρ Q T r h => by
  refine ha.sd S H α θ σ ρ _ T r (PostM.bind h fun u θ1 y S1 H1 α1 x1 T1 r1 h1 => ?_)
  refine hr.sd S1 H1 α1 θ1 σ ρ _ T1 (r.mono x1) (PostM.bind h1 fun us θ2 ys S2 H2 α2 x2 T2 r2 h2 => ?_)
  exact PostM.ok0 h2 T2 ⟨r1.mono x2.s x2.pre, r2⟩⟩
def allD : List MV → Option (List D)
  | [] => some []
  | .d x :: ms => (allD ms).map (x :: ·)
  | .id _ :: _ => none
  | .raw _ :: _ => none
  | .lsi _ :: _ => none
theorem allD_dvs {S : Hp} {α : Al} : ∀ {vs : List V} {ms : List MV} {ds : List D}, MVs K S α vs ms → allD ms = some ds → DVs K S vs ds
  | [], [], ds, _, e => by cases e; trivial
  | v :: vs, .d x :: ms, ds, h, e => by
    unfold allD at e
    cases e1 : allD ms with
    | none => rw [e1] at e; cases e
    | some xs =>
      rw [e1] at e
      cases e
      exact ⟨h.1, allD_dvs (vs := vs) (ms := ms) h.2 e1⟩
  | _ :: _, .id _ :: _, _, _, e => by cases e
  | _ :: _, .raw _ :: _, _, _, e => by cases e
  | _ :: _, .lsi _ :: _, _, _, e => by cases e
  | [], _ :: _, _, h, _ => h.elim
  | _ :: _, [], _, h, _ => h.elim
def withD (ms : List MV) (θ : Th) (k : List D → Res D) : MRes MV := match allD ms with
  | some ds => liftR (k ds) MV.d θ
  | none => .bad
theorem withD_some {A : Type} {S H : Hp} {α : Al} {θ : Th} {E : XK} {ms : List MV} {k : List D → Res D} {Q : VK} (h : PostM K mg C E S H α (MVr K) (withD ms θ k) Q) : ∃ ds, allD ms = some ds ∧ PostM K mg C E S H α (MVr K) (liftR (k ds) MV.d θ) Q := by
  unfold withD at h
  split at h
  · rename_i ds e
    exact ⟨ds, e, h⟩
  · exact h.elim
def mTup (g : MEnv → Th → MRes (List MV)) : MEnv → Th → MRes MV := fun ρ θ => (g ρ θ).bind fun ms θ1 => withD ms θ1 mkT
theorem md_tup {k : Nat} (h : MA K mg C X E es t g) : MD K mg C X E (.Tuple es k pos) (tTup t) (mTup g) := ⟨pe_tup h.pe, fun S H α θ σ ρ Q T r hp => by
  refine h.sd S H α θ σ ρ _ T r (PostM.bind hp fun ms θ1 ys S1 H1 α1 x1 T1 r1 h1 => ?_)
  obtain ⟨ds, e, h1⟩ := withD_some (A := Unit) h1
  have dv := allD_dvs r1 e
  have hz : lenOk ds.length = true := by
    unfold mkT at h1
    split at h1
    · rename_i hz; exact hz
    · exact h1.elim
  refine ⟨by rw [dv.length]; exact lenOk.le hz, fun q hn => ?_⟩
  have h2 := PostM.pure (R1 := DV K) T1 (fun _ _ _ z => z) h1
  unfold mkT at h2
  rw [if_pos hz] at h2
  exact new_tup (S := S1) T1.sh dv h2 hn⟩
end
end PD
namespace PD
open PySem L2
section
variable {K : PySem.W.Frag} {C : Addr} {S H H' : Hp} {α : Al} {θ : Th}
theorem get_app {A : Type} {l : List A} {x : A} {n : Nat} {y : A} (e : (l ++ [x])[n]? = some y) : (n < l.length ∧ l[n]? = some y) ∨ (n = l.length ∧ y = x) := by
  by_cases h : n < l.length
  · rw [List.getElem?_append_left h] at e
    exact .inl ⟨h, e⟩
  · rw [List.getElem?_append_right (by omega)] at e
    have hz : n - l.length = 0 := by
      cases hh : n - l.length with
      | zero => rfl
      | succ k => rw [hh] at e; cases e
    rw [hz] at e
    cases e
    exact .inr ⟨by omega, rfl⟩
/-- a new object -/
theorem RelT.add (T : RelT K C S H α θ) {x : Addr} {o : MO} (sm : Same H H') (hx : H x = none) (ok : MOk K C S H' (α ++ [x]) x o) : RelT K C S H' (α ++ [x]) (θ ++ [o]) := by
  have hl := T.len
  have pre : ∀ (n : Nat) (a : Addr), α[n]? = some a → (α ++ [x])[n]? = some a := fun n a h => by rw [List.getElem?_append_left (List.getElem?_eq_some_iff.mp h).1]; exact h
  refine ⟨T.sh.trans sm, by rw [List.length_append, List.length_append, hl]; rfl, ?_, fun n a u h1 h2 => ?_⟩
  · refine List.nodup_append.mpr ⟨T.nd, by simp, fun a ha b hb => ?_⟩
    rw [List.mem_singleton] at hb
    subst hb
    intro z
    subst z
    exact T.live ha hx
  · rcases get_app h1 with ⟨g1, g2⟩ | ⟨g1, g2⟩
    · rcases get_app h2 with ⟨g3, g4⟩ | ⟨g3, g4⟩
      · have h := T.ob n a u g2 g4
        cases u with
        | lst xs => obtain ⟨h0, vs, h1, h2⟩ := h; exact ⟨h0, vs, sm _ _ h1, h2⟩
        | ins fs => obtain ⟨h0, dx, ws, h1, h2⟩ := h; exact ⟨h0, dx, ws, sm _ _ h1, h2.mono (Same.refl _) pre⟩
        | gone => obtain ⟨u, h⟩ := h; exact ⟨u, sm _ _ h⟩
      · omega
    · rcases get_app h2 with ⟨g3, g4⟩ | ⟨g3, g4⟩
      · omega
      · subst g2 g4
        exact ok
theorem ExtM.add {x : Addr} (sm : Same H H') (hx : H x = none) : ExtM S H α S H' (α ++ [x]) := ⟨Same.refl S, fun n a h => by rw [List.getElem?_append_left (List.getElem?_eq_some_iff.mp h).1]; exact h, fun n a h hl => by
  rcases get_app h with ⟨g1, g2⟩ | ⟨g1, g2⟩
  · omega
  · subst g2; exact hx, fun _ _ _ => rfl, fun z o hz _ => sm z o hz, fun z hz => by
  cases h : H z with
  | none => exact absurd h hz
  | some o => rw [sm z o h]; exact (fun z => nomatch z)⟩
/-- an object changes -/
theorem RelT.mut (T : RelT K C S H α θ) {n : Nat} {a : Addr} {o : MO} {u : HO} (ha : α[n]? = some a) (hS : S a = none) (ok : MOk K C S (upd H a u) α a o) : RelT K C S (upd H a u) α (θ.set n o) := by
  have hl := T.len
  refine ⟨fun b z e => by rw [upd_ne (ne_of_none e hS)]; exact T.sh b z e, by rw [List.length_set]; exact hl, T.nd, fun k b z h1 h2 => ?_⟩
  rcases set_at h2 with ⟨rfl, _, rfl⟩ | ⟨hk, h2⟩
  · rw [ha] at h1
    cases h1
    exact ok
  · have hb : b ≠ a := fun z => by
      subst z
      obtain ⟨l1, e1⟩ := List.getElem?_eq_some_iff.mp ha
      obtain ⟨l2, e2⟩ := List.getElem?_eq_some_iff.mp h1
      exact hk ((List.getElem_inj T.nd).mp (e1.trans e2.symm))
    have h := T.ob k b z h1 h2
    cases z with
    | lst xs => obtain ⟨h0, vs, h1, h2⟩ := h; exact ⟨h0, vs, by rw [upd_ne hb]; exact h1, h2⟩
    | ins fs => obtain ⟨h0, dx, ws, h1, h2⟩ := h; exact ⟨h0, dx, ws, by rw [upd_ne hb]; exact h1, h2⟩
    | gone => obtain ⟨u, h⟩ := h; exact ⟨u, by rw [upd_ne hb]; exact h⟩
theorem ExtM.mut {a : Addr} {u : HO} (ha : a ∈ α) : ExtM S H α S (upd H a u) α := ⟨Same.refl S, fun _ _ h => h, fun n a h hl => by
  have := (List.getElem?_eq_some_iff.mp h).1; omega, fun _ _ _ => rfl, fun z o hz hn => by rw [upd_ne (fun w => hn (by rw [w]; exact ha))]; exact hz, fun z hz => by
  by_cases h : z = a
  · subst h; rw [upd_same]; exact (fun z => nomatch z)
  · rw [upd_ne h]; exact hz⟩
end
section
variable {K : PySem.W.Frag} {mg : Str → Option Value} {C : Addr} {X : Cx} {E : L2.St → XK} {E1 : XK} {a b c e o : Expr} {es : List Expr} {ta tb te : TE} {t : TA} {tA tB' : TT} {fa fb fe : MEnv → Th → MRes MV} {ga gb : MEnv → Th → MRes Bool} {g : MEnv → Th → MRes (List MV)} {pos p apos cpos : Pos} {x m : Str} {k n : Nat} {f : Addr} {fd : FuncData} {ps : List Str}
/-! ### calls -/
/-- the promise of a def or a method over the store -/
def spM (K : PySem.W.Frag) (mg : Str → Option Value) (C : Addr) (n : Nat) (F : List MV → Th → MRes MV) : Sp := fun vs H Q E => ∃ S α θ ms, RelT K C S H α θ ∧ MVs K S α vs ms ∧ vs.length = n ∧ PostM K mg C E S H α (MVr K) (F ms θ) Q
def mCall (n : Nat) (F : List MV → Th → MRes MV) (g : MEnv → Th → MRes (List MV)) : MEnv → Th → MRes MV := fun ρ θ => (g ρ θ).bind fun ms θ1 => if ms.length = n then F ms θ1 else .bad
def mCallD (n : Nat) (F : List D → Res D) (g : MEnv → Th → MRes (List MV)) : MEnv → Th → MRes MV := fun ρ θ => (g ρ θ).bind fun ms θ1 => withD ms θ1 fun ds => if ds.length = n then F ds else .bad
theorem md_call {F : List MV → Th → MRes MV} (G : FnOk X.prog X.w X.K X.mg X.base (L2.CX X.prog X.w) k f fd ps (spM K mg C n F)) (hr : Room k X.A) (hg : Gl X x) (hm : X.mg x = some (.ref f)) (hk : PySem.W.keepIn X.K (.ref f) = true)
    (hb : Binds X.K fd ps []) (hx : ∀ σ, PassesAt (L2.CX X.prog X.w) X σ (E σ)) (ha : MA K mg C X E (e :: es) t g) (hdb : (x == ("__debug__" : Str)) = false := by decide) (he : starEach (e :: es) X.env = (false, eval e X.env) :: starEach es X.env := by rfl)
    (hpl : (backTo pos (starEach es X.env)).any (·.1) = false := by rfl) : MD K mg C X E (.Call (.Name x p) (e :: es) [] pos) (tCallS (spM K mg C n F) E t) (mCall n F g) :=
  ⟨pe_callS G hr hg hm hk hb hx ha.pe hdb he hpl, fun S H α θ σ ρ Q T r h => by
    refine ha.sd S H α θ σ ρ _ T r (PostM.bind h fun ms θ1 ys S1 H1 α1 x1 T1 r1 h1 => ?_)
    split at h1
    · rename_i hn
      exact ⟨S1, α1, θ1, ms, T1, r1, by rw [r1.length]; exact hn, h1⟩
    · exact h1.elim⟩
theorem md_callD {F : List D → Res D} (G : FnOk X.prog X.w X.K X.mg X.base (L2.CX X.prog X.w) k f fd ps (spD K mg n F)) (hr : Room k X.A) (hg : Gl X x) (hm : X.mg x = some (.ref f)) (hk : PySem.W.keepIn X.K (.ref f) = true)
    (hb : Binds X.K fd ps []) (hx : ∀ σ, PassesAt (L2.CX X.prog X.w) X σ (E σ)) (ha : MA K mg C X E (e :: es) t g) (hdb : (x == ("__debug__" : Str)) = false := by decide) (he : starEach (e :: es) X.env = (false, eval e X.env) :: starEach es X.env := by rfl)
    (hpl : (backTo pos (starEach es X.env)).any (·.1) = false := by rfl) : MD K mg C X E (.Call (.Name x p) (e :: es) [] pos) (tCallS (spD K mg n F) E t) (mCallD n F g) :=
  ⟨pe_callS G hr hg hm hk hb hx ha.pe hdb he hpl, fun S H α θ σ ρ Q T r h => by
    refine ha.sd S H α θ σ ρ _ T r (PostM.bind h fun ms θ1 ys S1 H1 α1 x1 T1 r1 h1 => ?_)
    obtain ⟨ds, e1, h1⟩ := withD_some (A := Unit) h1
    have dv := allD_dvs r1 e1
    have h2 := PostM.pure (R1 := DV K) T1 (fun _ _ _ z => z) h1
    split at h2
    · rename_i hn
      exact ⟨S1, ds, T1.sh, dv, by rw [dv.length]; exact hn, h2⟩
    · exact h2.elim⟩
/-! ### builtins by values -/
def mB (gg : List D → Res D) (g : MEnv → Th → MRes (List MV)) : MEnv → Th → MRes MV := fun ρ θ => (g ρ θ).bind fun ms θ1 => withD ms θ1 gg
theorem md_callB {id : String} {rr : List V → Hp → VK → Prop} {gg : List D → Res D} (hc : CallR X (.builtin id) rr) (hs : ∀ σ, CaS K mg (E σ) rr gg) (hg : Gl X x) (hm : X.mg x = none) (hv : bootBuiltins x = some (.builtin id)) (ha : MA K mg C X E (e :: es) t g) (hn : x ≠ "__name__" := by decide) (hdb : (x == ("__debug__" : Str)) = false := by decide)
    (he : starEach (e :: es) X.env = (false, eval e X.env) :: starEach es X.env := by rfl) (hpl : (backTo pos (starEach es X.env)).any (·.1) = false := by rfl) : MD K mg C X E (.Call (.Name x p) (e :: es) [] pos) (tCB rr t) (mB gg g) :=
  ⟨pe_callB hc hg hm hv ha.pe hn hdb he hpl, fun S H α θ σ ρ Q T r h => by
    refine ha.sd S H α θ σ ρ _ T r (PostM.bind h fun ms θ1 ys S1 H1 α1 x1 T1 r1 h1 => ?_)
    obtain ⟨ds, e1, h1⟩ := withD_some (A := Unit) h1
    exact hs σ S1 H1 ys ds Q T1.sh (allD_dvs r1 e1) (PostM.pure (R1 := DV K) T1 (fun _ _ _ z => z) h1)⟩
/-! ### methods -/
def tMethM (C : Addr) (m : Str) (sp : Sp) (E : L2.St → XK) (ta : TE) (t : TA) : TE := fun σ H Q => ta σ H fun x H1 => ∃ a dx fs, x = .ref a ∧ H1 a = some (.ins C dx fs) ∧ fs.lookup m = none ∧ t σ H1 fun vs H2 => sp (x :: vs) H2 Q (E σ)
theorem pe_methM {sp : Sp} {pl : Sem Bool} (he : PE X o ta) (c : Cls X.K C) (hm : Meth X.K C m f) (F : FnOk X.prog X.w X.K X.mg X.base (L2.CX X.prog X.w) k f fd ps sp) (hr : Room k X.A) (hb : Binds X.K fd ps []) (hx : ∀ σ, PassesAt (L2.CX X.prog X.w) X σ (E σ)) (ha : PA X (e :: es) t)
    (hst : starEach (e :: es) X.env = (false, eval e X.env) :: starEach es X.env := by rfl) (hpl : (backTo pos (starEach es X.env)).any (·.1) = false := by rfl)
    (ht : eval (.Call (.Attribute o m apos) (e :: es) [] pos) X.env = (do
      let ov ← eval o X.env
      standAt apos.atName
      let (f, first) ← holding [ov] (getMethod ov m pl)
      callWith pos f first (backTo pos (starEach (e :: es) X.env)) (backToKw pos (keywordEach [] X.env))) := by rfl) :
    PE X (.Call (.Attribute o m apos) (e :: es) [] pos) (tMethM C m sp E ta t) := by
  refine ⟨fun pins s σ H Q I h => ?_⟩
  refine PySem.W.methodCall_KW (pl := pl) (thn (he.run pins s σ H _ I h) fun u s1 ⟨x, H1, I1, rx, q1⟩ => ?_) ht
  obtain ⟨a, dx, fs, rfl, ea, l, q⟩ := q1
  cases rx
  refine getmeth_ok I1 ea c hm l ?_
  refine PySem.W.callWith_K (first := [.ref a]) (h₀ := X.base) I.ok.mod.kin hm.kp (thn (ha.run pos pins s1 σ H1 _ I1 q) fun us s2 ⟨vs, H2, I2, r, q2⟩ => ⟨I2.kIn, ?_⟩) hst hpl
  exact run_fnS (us := .ref a :: us) (vs := .ref a :: vs) F hr hb (hx σ) I2 (.cons rfl r) q2
theorem pe_methM0 {sp : Sp} {pl : Sem Bool} (he : PE X o ta) (c : Cls X.K C) (hm : Meth X.K C m f) (F : FnOk X.prog X.w X.K X.mg X.base (L2.CX X.prog X.w) k f fd ps sp) (hr : Room k X.A) (hb : Binds X.K fd ps []) (hx : ∀ σ, PassesAt (L2.CX X.prog X.w) X σ (E σ))
    (ht : eval (.Call (.Attribute o m apos) [] [] pos) X.env = (do
      let ov ← eval o X.env
      standAt apos.atName
      let (f, first) ← holding [ov] (getMethod ov m pl)
      callWith pos f first (backTo pos (starEach [] X.env)) (backToKw pos (keywordEach [] X.env))) := by rfl) :
    PE X (.Call (.Attribute o m apos) [] [] pos) (tMethM C m sp E ta tNil) := by
  refine ⟨fun pins s σ H Q I h => ?_⟩
  refine PySem.W.methodCall_KW (pl := pl) (thn (he.run pins s σ H _ I h) fun u s1 ⟨x, H1, I1, rx, q1⟩ => ?_) ht
  obtain ⟨a, dx, fs, rfl, ea, l, q⟩ := q1
  cases rx
  refine getmeth_ok I1 ea c hm l ?_
  exact PySem.W.callWith_K0 (first := [.ref a]) I1.kIn hm.kp (run_fnS (us := [.ref a]) (vs := [.ref a]) F hr hb (hx σ) I1 (.cons rfl .nil) q)
def mMeth (n : Nat) (m : Str) (F : List MV → Th → MRes MV) (fo : MEnv → Th → MRes MV) (g : MEnv → Th → MRes (List MV)) : MEnv → Th → MRes MV := fun ρ θ => (fo ρ θ).bind fun u θ1 => match insAt θ1 u with
  | some (i, fs) => match fs.lookup m with
    | none => (g ρ θ1).bind fun ms θ2 => if ms.length + 1 = n then F (.id i :: ms) θ2 else .bad
    | some _ => .bad
  | none => .bad
theorem meth_sd {F : List MV → Th → MRes MV} (ho : MD K mg C X E o ta fa) (ha : MA K mg C X E es t g) (S H : Hp) (α : Al) (θ : Th) (σ : L2.St) (ρ : MEnv) (Q : VK) (T : RelT K C S H α θ) (r : EnvR K S α σ ρ)
    (h : PostM K mg C (E σ) S H α (MVr K) (mMeth n m F fa g ρ θ) Q) : tMethM C m (spM K mg C n F) E ta t σ H Q := by
  refine ho.sd S H α θ σ ρ _ T r (PostM.bind h fun u θ1 y S1 H1 α1 x1 T1 r1 h1 => ?_)
  split at h1
  · rename_i i fs e1
    obtain ⟨rfl, e5⟩ := insAt_some e1
    split at h1
    · rename_i e2
      obtain ⟨a, ha', rfl⟩ := r1
      obtain ⟨_, dx, ws, g1, g2⟩ := T1.ob i a _ ha' e5
      refine ⟨a, dx, ws, rfl, g1, g2.not e2, ?_⟩
      refine ha.sd S1 H1 α1 θ1 σ ρ _ T1 (r.mono x1) (PostM.bind h1 fun ms θ2 ys S2 H2 α2 x2 T2 r2 h2 => ?_)
      split at h2
      · rename_i hn
        exact ⟨S2, α2, θ2, .id i :: ms, T2, ⟨⟨a, x2.pre _ _ ha', rfl⟩, r2⟩, by rw [List.length_cons, r2.length]; exact hn, h2⟩
      · exact h2.elim
    · exact h1.elim
  · exact h1.elim
theorem md_meth {F : List MV → Th → MRes MV} {pl : Sem Bool} (ho : MD K mg C X E o ta fa) (c : Cls X.K C) (hm : Meth X.K C m f) (G : FnOk X.prog X.w X.K X.mg X.base (L2.CX X.prog X.w) k f fd ps (spM K mg C n F)) (hr : Room k X.A) (hb : Binds X.K fd ps []) (hx : ∀ σ, PassesAt (L2.CX X.prog X.w) X σ (E σ)) (ha : MA K mg C X E (e :: es) t g)
    (hst : starEach (e :: es) X.env = (false, eval e X.env) :: starEach es X.env := by rfl) (hpl : (backTo pos (starEach es X.env)).any (·.1) = false := by rfl)
    (ht : eval (.Call (.Attribute o m apos) (e :: es) [] pos) X.env = (do
      let ov ← eval o X.env
      standAt apos.atName
      let (f, first) ← holding [ov] (getMethod ov m pl)
      callWith pos f first (backTo pos (starEach (e :: es) X.env)) (backToKw pos (keywordEach [] X.env))) := by rfl) :
    MD K mg C X E (.Call (.Attribute o m apos) (e :: es) [] pos) (tMethM C m (spM K mg C n F) E ta t) (mMeth n m F fa g) := ⟨pe_methM (pl := pl) ho.pe c hm G hr hb hx ha.pe hst hpl ht, meth_sd ho ha⟩
theorem md_meth0 {F : List MV → Th → MRes MV} {pl : Sem Bool} (ho : MD K mg C X E o ta fa) (c : Cls X.K C) (hm : Meth X.K C m f) (G : FnOk X.prog X.w X.K X.mg X.base (L2.CX X.prog X.w) k f fd ps (spM K mg C n F)) (hr : Room k X.A) (hb : Binds X.K fd ps []) (hx : ∀ σ, PassesAt (L2.CX X.prog X.w) X σ (E σ))
    (ht : eval (.Call (.Attribute o m apos) [] [] pos) X.env = (do
      let ov ← eval o X.env
      standAt apos.atName
      let (f, first) ← holding [ov] (getMethod ov m pl)
      callWith pos f first (backTo pos (starEach [] X.env)) (backToKw pos (keywordEach [] X.env))) := by rfl) :
    MD K mg C X E (.Call (.Attribute o m apos) [] [] pos) (tMethM C m (spM K mg C n F) E ta tNil) (mMeth n m F fa mNil) := ⟨pe_methM0 (pl := pl) ho.pe c hm G hr hb hx ht, meth_sd ho ma_nil⟩
/-! ### new lists; append and pop -/
def mNewL (g : MEnv → Th → MRes (List MV)) : MEnv → Th → MRes MV := fun ρ θ => (g ρ θ).bind fun ms θ1 => match allD ms with
  | some ds => if lenOk ds.length = true then .ok (.id θ1.length) (θ1 ++ [.lst ds]) else .bad
  | none => .bad
theorem new_id {S H : Hp} {α : Al} {θ : Th} {E : XK} {q : Addr} {vs : List V} {ds : List D} {Q : VK} (T : RelT K C S H α θ) (hq : H q = none) (dv : DVs K S vs ds) (h : PostM K mg C E S H α (MVr K) (.ok (.id θ.length) (θ ++ [.lst ds])) Q) : Q (.ref q) (upd H q (.lst vs)) := by
  have sm : Same H (upd H q (.lst vs)) := same_upd hq
  refine h _ S _ (α ++ [q]) (ExtM.add sm hq) (T.add sm hq ⟨T.sh.free hq, vs, upd_same, dv⟩) ⟨q, ?_, rfl⟩
  rw [← T.len, List.getElem?_append_right (Nat.le_refl _), Nat.sub_self]
  rfl
theorem md_newL (h : MA K mg C X E es t g) : MD K mg C X E (.List es pos) (tLst t) (mNewL g) := ⟨pe_lst h.pe, fun S H α θ σ ρ Q T r hp => by
  refine h.sd S H α θ σ ρ _ T r (PostM.bind hp fun ms θ1 ys S1 H1 α1 x1 T1 r1 h1 => ?_)
  split at h1
  · rename_i ds e1
    have dv := allD_dvs r1 e1
    split at h1
    · rename_i hz
      exact ⟨by rw [dv.length]; exact lenOk.le hz, fun q hq => new_id T1 hq dv h1⟩
    · exact h1.elim
  · exact h1.elim⟩
def lstAt (θ : Th) (m : MV) : Option (Nat × List D) := match m with
  | .id n => match θ[n]? with
    | some (.lst xs) => some (n, xs)
    | _ => none
  | _ => none
theorem lstAt_some {θ : Th} {m : MV} {n : Nat} {xs : List D} (h : lstAt θ m = some (n, xs)) : m = .id n ∧ θ[n]? = some (.lst xs) := by
  unfold lstAt at h
  split at h
  · split at h
    · rename_i hh
      cases h
      exact ⟨rfl, hh⟩
    · cases h
  · cases h
/-- o.append(e), as an expression -/
def mApp (fo fe : MEnv → Th → MRes MV) : MEnv → Th → MRes MV := fun ρ θ => (fo ρ θ).bind fun u θ1 => match u with
  | .id i => match lstAt θ1 (.id i) with
    | some _ => (fe ρ θ1).bind fun v θ2 => match v, lstAt θ2 (.id i) with
      | .d d, some (_, xs) => if lenOk (xs.length + 1) = true then .ok (.d .none) (θ2.set i (.lst (xs ++ [d]))) else .bad
      | _, _ => .bad
    | none => .bad
  | _ => .bad
theorem md_app (ho : MD K mg C X E o ta fa) (he : MD K mg C X E e te fe) (hs : starEach [e] X.env = (false, eval e X.env) :: starEach [] X.env := by rfl)
    (hbase : attributeBase o "append" X.env (eval o X.env) = eval o X.env := by rfl)
    (hfew : ((backTo cpos (starEach [e] X.env)).all (fun x => !x.1) && (backToKw cpos (keywordEach [] X.env)).all (fun x => x.1.isSome)
      && decide ([e].length + ([] : List Keyword).length + (if ([] : List Keyword).isEmpty then 0 else 1) < 30)) = true := by rfl)
    (hline : (apos.endLine == cpos.line) = true := by rfl) (hplain : (backTo cpos (starEach [] X.env)).any (·.1) = false := by rfl) (hK : X.K = K := by rfl) :
    MD K mg C X E (.Call (.Attribute o "append" apos) [e] [] cpos) (tBM K "list" rAppend ta (tCons te tNil)) (mApp fa fe) := by
  subst hK
  refine ⟨pe_bm PySem.F.plainAttrs_list PySem.F.slot_list_append PySem.F.type_list_append mt_append ho.pe (pa_cons he.pe pa_nil hs) hbase hfew hline hs hplain, fun S H α θ σ ρ Q T r h => ?_⟩
  refine ho.sd S H α θ σ ρ _ T r (PostM.bind h fun u θ1 y S1 H1 α1 x1 T1 r1 h1 => ?_)
  cases u with
  | d z => exact h1.elim
  | raw w => exact h1.elim
  | lsi _ => exact h1.elim
  | id i =>
    dsimp only at h1
    split at h1
    · rename_i z e1
      obtain ⟨j, xs⟩ := z
      obtain ⟨ej, e5⟩ := lstAt_some e1
      cases ej
      obtain ⟨a, ha', rfl⟩ := r1
      obtain ⟨_, vs, g1, g2⟩ := T1.ob i a _ ha' e5
      refine ⟨.inl ⟨rfl, vs, SqL.of g1⟩, ?_⟩
      refine he.sd S1 H1 α1 θ1 σ ρ _ T1 (r.mono x1) (PostM.bind h1 fun v θ2 w S2 H2 α2 x2 T2 r2 h2 => ?_)
      split at h2
      · rename_i d j2 ys e2
        obtain ⟨ej, e6⟩ := lstAt_some e2
        cases ej
        split at h2
        · rename_i hz
          have ha2 := x2.pre _ _ ha'
          obtain ⟨hS, vs2, g3, g4⟩ := T2.ob i a _ ha2 e6
          refine ⟨a, vs2, w, rfl, rfl, g3, ?_, ?_⟩
          · rw [g4.length]
            exact Nat.lt_of_lt_of_le (Nat.lt_succ_self _) (lenOk.le hz)
          · exact h2 .non S2 _ α2 (ExtM.mut (List.mem_of_getElem? ha2)) (T2.mut ha2 hS ⟨hS, vs2 ++ [w], upd_same, g4.append ⟨r2, trivial⟩⟩) rfl
        · exact h2.elim
      · exact h2.elim
    · exact h1.elim
/-- o.pop() -/
def mPop (fo : MEnv → Th → MRes MV) : MEnv → Th → MRes MV := fun ρ θ => (fo ρ θ).bind fun u θ1 => match lstAt θ1 u with
  | some (i, xs) => match xs[xs.length - 1]? with
    | some d => .ok (.d d) (θ1.set i (.lst xs.dropLast))
    | none => .bad
  | none => .bad
theorem DVs.dropLast {S : Hp} : ∀ {vs : List V} {ds : List D}, DVs K S vs ds → DVs K S vs.dropLast ds.dropLast
  | [], [], _ => trivial
  | [v], [d], _ => trivial
  | v :: w :: vs, d :: e :: ds, h => ⟨h.1, DVs.dropLast (vs := w :: vs) (ds := e :: ds) h.2⟩
  | [_], _ :: _ :: _, h => h.2.elim
  | _ :: _ :: _, [_], h => h.2.elim
  | [], _ :: _, h => h.elim
  | _ :: _, [], h => h.elim
theorem md_pop (ho : MD K mg C X E o ta fa) (hbase : attributeBase o "pop" X.env (eval o X.env) = eval o X.env := by rfl) (hline : (apos.endLine == cpos.line) = true := by rfl) (hK : X.K = K := by rfl) :
    MD K mg C X E (.Call (.Attribute o "pop" apos) [] [] cpos) (tBM0 K "list" rPop ta) (mPop fa) := by
  subst hK
  refine ⟨pe_bm0 PySem.F.plainAttrs_list PySem.F.slot_list_pop PySem.F.type_list_pop mt_pop ho.pe hbase hline, fun S H α θ σ ρ Q T r h => ?_⟩
  refine ho.sd S H α θ σ ρ _ T r (PostM.bind h fun u θ1 y S1 H1 α1 x1 T1 r1 h1 => ?_)
  split at h1
  · rename_i i xs e1
    obtain ⟨rfl, e5⟩ := lstAt_some e1
    obtain ⟨a, ha', rfl⟩ := r1
    obtain ⟨hS, vs, g1, g2⟩ := T1.ob i a _ ha' e5
    split at h1
    · rename_i d e2
      obtain ⟨v, q1, q2⟩ := g2.get e2
      refine ⟨.inl ⟨rfl, vs, SqL.of g1⟩, a, vs, v, rfl, rfl, g1, by rw [g2.length]; exact q1, ?_⟩
      exact h1 v S1 _ α1 (ExtM.mut (List.mem_of_getElem? ha')) (T1.mut ha' hS ⟨hS, vs.dropLast, upd_same, DVs.dropLast g2⟩) q2
    · exact h1.elim
  · exact h1.elim
end
end PD
namespace PD
open PySem L2
/-! ### statements over the store -/
inductive MSR where
  | next (ρ : MEnv) (θ : Th)
  | ret (m : MV) (θ : Th)
  | err (c : Str) (ρ : MEnv) (θ : Th)
  | brk (ρ : MEnv) (θ : Th)
  | cont (ρ : MEnv) (θ : Th)
  | bad
def MPost (K : PySem.W.Frag) (mg : Str → Option Value) (C : Addr) (E : L2.St → XK) (S H : Hp) (α : Al) (r : MSR) (N : Ends) : Prop := match r with
  | .next ρ θ => ∀ S' H' α' σ', ExtM S H α S' H' α' → RelT K C S' H' α' θ → EnvR K S' α' σ' ρ → N.nx σ' H'
  | .ret m θ => ∀ v S' H' α', ExtM S H α S' H' α' → RelT K C S' H' α' θ → MVr K S' α' v m → N.rt v H'
  | .err c ρ θ => ∀ u S' H' α' σ', mg c = some u → ExtM S H α S' H' α' → RelT K C S' H' α' θ → EnvR K S' α' σ' ρ → E σ' u none H'
  | .brk ρ θ => ∀ S' H' α' σ', ExtM S H α S' H' α' → RelT K C S' H' α' θ → EnvR K S' α' σ' ρ → N.bk σ' H'
  | .cont ρ θ => ∀ S' H' α' σ', ExtM S H α S' H' α' → RelT K C S' H' α' θ → EnvR K S' α' σ' ρ → N.ct σ' H'
  | .bad => False
section
variable {K : PySem.W.Frag} {mg : Str → Option Value} {C : Addr} {E : L2.St → XK} {S H S' H' : Hp} {α α' : Al} {r : MSR} {N : Ends}
theorem MPost.mono (h : MPost K mg C E S H α r N) (x : ExtM S H α S' H' α') : MPost K mg C E S' H' α' r N := by
  cases r with
  | next ρ θ => exact fun S2 H2 α2 σ2 x2 T q => h S2 H2 α2 σ2 (x.trans x2) T q
  | ret m θ => exact fun v S2 H2 α2 x2 T q => h v S2 H2 α2 (x.trans x2) T q
  | err c ρ θ => exact fun u S2 H2 α2 σ2 e x2 T q => h u S2 H2 α2 σ2 e (x.trans x2) T q
  | brk ρ θ => exact fun S2 H2 α2 σ2 x2 T q => h S2 H2 α2 σ2 (x.trans x2) T q
  | cont ρ θ => exact fun S2 H2 α2 σ2 x2 T q => h S2 H2 α2 σ2 (x.trans x2) T q
  | bad => exact h
end
structure MS (K : PySem.W.Frag) (mg : Str → Option Value) (C : Addr) (X : Cx) (E : L2.St → XK) (st : Stmt) (t : TS) (F : MEnv → Th → MSR) : Prop where
  ps : PS X st t
  sd : ∀ (S H : Hp) (α : Al) (θ : Th) (σ : L2.St) (ρ : MEnv) (N : Ends), RelT K C S H α θ → EnvR K S α σ ρ → MPost K mg C E S H α (F ρ θ) N → t N σ H
structure MSs (K : PySem.W.Frag) (mg : Str → Option Value) (C : Addr) (X : Cx) (E : L2.St → XK) (st : List Stmt) (t : TS) (F : MEnv → Th → MSR) : Prop where
  ps : PSs X st t
  sd : ∀ (S H : Hp) (α : Al) (θ : Th) (σ : L2.St) (ρ : MEnv) (N : Ends), RelT K C S H α θ → EnvR K S α σ ρ → MPost K mg C E S H α (F ρ θ) N → t N σ H
def MSR.seq (r : MSR) (k : MEnv → Th → MSR) : MSR := match r with
  | .next ρ θ => k ρ θ
  | .ret m θ => .ret m θ
  | .err c ρ θ => .err c ρ θ
  | .brk ρ θ => .brk ρ θ
  | .cont ρ θ => .cont ρ θ
  | .bad => .bad
def ofM {A : Type} (r : MRes A) (ρ : MEnv) (k : A → Th → MSR) : MSR := match r with
  | .ok a θ => k a θ
  | .err c θ => .err c ρ θ
  | .bad => .bad
section
variable {K : PySem.W.Frag} {mg : Str → Option Value} {C : Addr} {X : Cx} {E : L2.St → XK} {st : Stmt} {rest : List Stmt} {t u : TS} {e o : Expr} {te ta : TE} {pos : Pos} {F G : MEnv → Th → MSR} {fe fa : MEnv → Th → MRes MV}
def mNext : MEnv → Th → MSR := fun ρ θ => .next ρ θ
def mSeq (F G : MEnv → Th → MSR) : MEnv → Th → MSR := fun ρ θ => (F ρ θ).seq G
theorem mss_nil : MSs K mg C X E [] tNext mNext := ⟨pss_nil, fun S H α θ σ ρ N T r h => h S H α σ (ExtM.refl _ _ _) T r⟩
theorem mss_one (h : MS K mg C X E st t F) : MSs K mg C X E [st] t F := ⟨pss_one h.ps, h.sd⟩
theorem mss_cons (h1 : MS K mg C X E st t F) (h2 : MSs K mg C X E rest u G) : MSs K mg C X E (st :: rest) (tSeq t u) (mSeq F G) := ⟨pss_cons h1.ps h2.ps, fun S H α θ σ ρ N T r h => by
  refine h1.sd S H α θ σ ρ _ T r ?_
  unfold mSeq at h
  cases e : F ρ θ with
  | next ρ1 θ1 =>
    rw [e] at h
    exact fun S' H' α' σ' x T' r' => h2.sd S' H' α' θ1 σ' ρ1 N T' r' (MPost.mono h x)
  | ret d t => rw [e] at h; exact h
  | err c r t => rw [e] at h; exact h
  | brk ρ1 t => rw [e] at h; exact h
  | cont ρ1 t => rw [e] at h; exact h
  | bad => rw [e] at h; exact h⟩
theorem postm_of {A W : Type} {S H : Hp} {α : Al} {σ : L2.St} {ρ : MEnv} {N : Ends} {R : Hp → Al → W → A → Prop} {r : MRes A} {k : A → Th → MSR} {Q : W → Hp → Prop} (rl : EnvR K S α σ ρ) (h : MPost K mg C E S H α (ofM r ρ k) N)
    (hk : ∀ a θ' w S' H' α', r = .ok a θ' → ExtM S H α S' H' α' → RelT K C S' H' α' θ' → R S' α' w a → MPost K mg C E S' H' α' (k a θ') N → Q w H') : PostM K mg C (E σ) S H α R r Q := by
  cases r with
  | ok a θ' => exact fun w S' H' α' x T q => hk a θ' w S' H' α' rfl x T q (MPost.mono h x)
  | err c θ' => exact fun u S' H' α' e x T => h u S' H' α' σ e x T (rl.mono x)
  | bad => exact h
def mExpr (f : MEnv → Th → MRes MV) : MEnv → Th → MSR := fun ρ θ => ofM (f ρ θ) ρ fun _ θ1 => .next ρ θ1
theorem ms_expr (he : MD K mg C X E e te fe) (hs : swapsWith e none pos.line X.env = pure false := by rfl) : MS K mg C X E (.Expr e pos) (tDrop te) (mExpr fe) := ⟨ps_expr he.pe hs, fun S H α θ σ ρ N T r h =>
  he.sd S H α θ σ ρ _ T r (postm_of r h fun a θ1 w S' H' α' _ x T' q h => h S' H' α' σ (ExtM.refl _ _ _) T' (r.mono x))⟩
def mRet (f : MEnv → Th → MRes MV) : MEnv → Th → MSR := fun ρ θ => ofM (f ρ θ) ρ fun m θ1 => .ret m θ1
theorem ms_ret (he : MD K mg C X E e te fe) : MS K mg C X E (.Return (some e) pos) (tRet te) (mRet fe) := ⟨ps_ret he.pe, fun S H α θ σ ρ N T r h =>
  he.sd S H α θ σ ρ _ T r (postm_of r h fun a θ1 w S' H' α' _ x T' q h => h w S' H' α' (ExtM.refl _ _ _) T' q)⟩
theorem ms_pass : MS K mg C X E (.Pass pos) tNext mNext := ⟨ps_pass, fun S H α θ σ ρ N T r h => h S H α σ (ExtM.refl _ _ _) T r⟩
def mIfS (g : MEnv → Th → MRes Bool) (F G : MEnv → Th → MSR) : MEnv → Th → MSR := fun ρ θ => ofM (g ρ θ) ρ fun b θ1 => if b = true then F ρ θ1 else G ρ θ1
theorem ms_if {c : Expr} {a b : List Stmt} {tc : TT} {g : MEnv → Th → MRes Bool} (hc : MT K mg C X E c tc g) (ha : MSs K mg C X E a t F) (hb : MSs K mg C X E b u G) : MS K mg C X E (.If c a b pos) (tIfS tc t u) (mIfS g F G) := ⟨ps_if hc.pe ha.ps hb.ps, fun S H α θ σ ρ N T r h =>
  hc.sd S H α θ σ ρ _ T r (postm_of r h fun k θ1 w S' H' α' _ x T' q h => by
    cases q
    cases k with
    | true => exact ha.sd S' H' α' θ1 σ ρ N T' (r.mono x) h
    | false => exact hb.sd S' H' α' θ1 σ ρ N T' (r.mono x) h)⟩
/-! ### assignments -/
def setM (ρ : MEnv) : List Nat → List MV → MEnv
  | i :: is, m :: ms => setM (ρ.set i (some m)) is ms
  | _, _ => ρ
theorem EnvR.setAll {S : Hp} {α : Al} (is : List Nat) : ∀ (vs : List V) (ms : List MV) {σ : L2.St} {ρ : MEnv}, EnvR K S α σ ρ → MVs K S α vs ms → EnvR K S α (PD.setAll σ is vs) (setM ρ is ms) := by
  induction is with
  | nil => intro vs ms σ ρ r _; cases vs <;> cases ms <;> exact r
  | cons i is ih =>
    intro vs ms σ ρ r h
    cases vs with
    | nil =>
      cases ms with
      | nil => exact r
      | cons _ _ => exact h.elim
    | cons v vs =>
      cases ms with
      | nil => exact h.elim
      | cons d ds => exact ih vs ds (r.set h.1) h.2
theorem mvs_of {S : Hp} {α : Al} : ∀ {vs : List V} {ds : List D}, DVs K S vs ds → MVs K S α vs (ds.map MV.d)
  | [], [], _ => trivial
  | v :: vs, d :: ds, h => ⟨h.1, mvs_of (vs := vs) (ds := ds) h.2⟩
  | [], _ :: _, h => h.elim
  | _ :: _, [], h => h.elim
def mSet (f : MEnv → Th → MRes MV) (i : Nat) : MEnv → Th → MSR := fun ρ θ => ofM (f ρ θ) ρ fun m θ1 => .next (ρ.set i (some m)) θ1
theorem ms_set {i : Nat} {x : Str} {pos' : Pos} (he : MD K mg C X E e te fe) (hN : X.N.Nodup) (hi : X.N[i]? = some x) (hx : Loc X.env.scope x := by first | exact Or.inl rfl | exact Or.inr rfl) (hs : swapsWith e (some (.Name x pos')) pos.line X.env = pure false := by rfl) (hf : X.fn x = true ∨ X.env.scope.names.lookup x = some .local := by first | exact .inl rfl | exact .inr rfl | assumption) :
    MS K mg C X E (.Assign [.Name x pos'] e pos) (tAsg te (gName i)) (mSet fe i) := ⟨ps_set hN hi hx he.pe hs hf, fun S H α θ σ ρ N T r h =>
  he.sd S H α θ σ ρ _ T r (postm_of r h fun a θ1 w S' H' α' _ x T' q h => h S' H' α' _ (ExtM.refl _ _ _) T' ((r.mono x).set q))⟩
/-- targets of data -/
def mAsg (f : MEnv → Th → MRes MV) (is : List Nat) (hh : D → Option (List D)) : MEnv → Th → MSR := fun ρ θ => ofM (f ρ θ) ρ fun m θ1 => match m with
  | .d d => match hh d with
    | some ds => .next (setM ρ is (ds.map MV.d)) θ1
    | none => .bad
  | _ => .bad
theorem ms_asg {tg : Expr} {g : TG} {is : List Nat} {hh : D → Option (List D)} (he : MD K mg C X E e te fe) (hg : GD K X tg g is hh) (hs : swapsWithSole [tg] e pos.line X.env = pure false := by rfl) (hw : swappedStores [tg] e X.env = pure none := by rfl) (h1 : (assignEach [tg] X.env).map (·.2) = [assign tg X.env] := by rfl) :
    MS K mg C X E (.Assign [tg] e pos) (tAsg te g) (mAsg fe is hh) := ⟨ps_asg he.pe hg.pg hs hw h1, fun S H α θ σ ρ N T r h =>
  he.sd S H α θ σ ρ _ T r (postm_of r h fun a θ1 w S' H' α' _ x T' q h => by
    cases a with
    | d d =>
      dsimp only at h
      cases e1 : hh d with
      | none => rw [e1] at h; exact h.elim
      | some ds =>
        rw [e1] at h
        exact hg.sd S' H' w σ d ds _ T'.sh q e1 fun vs hv => h S' H' α' _ (ExtM.refl _ _ _) T' ((r.mono x).setAll is vs _ (mvs_of hv))
    | id n => exact h.elim
    | raw v => exact h.elim
    | lsi _ => exact h.elim)⟩
/-! x, y = a, b -/
variable {g : MEnv → Th → MRes (List MV)} {tl : TA}
def mPar (g : MEnv → Th → MRes (List MV)) (is : List Nat) : MEnv → Th → MSR := fun ρ θ => ofM (g ρ θ) ρ fun ms θ1 => if ms.length = is.length then .next (setM ρ is ms) θ1 else .bad
theorem ms_p2 {i j : Nat} {x y : Str} {a b : Expr} {px py pt : Pos} {kt k2 pt2} (hN : X.N.Nodup) (hz : MA K mg C X E [a, b] tl g) (hc : X.calm = true := by rfl) (hi : X.N[i]? = some x := by rfl) (hj : X.N[j]? = some y := by rfl) (hij : i ≠ j := by decide)
    (hx : X.env.scope.names.lookup x = some .local := by rfl) (hy : X.env.scope.names.lookup y = some .local := by rfl) (hw : swappedStores [.Tuple [.Name x px, .Name y py] kt pt] (.Tuple [a, b] k2 pt2) X.env = pure (some [x, y]) := by rfl)
    (hs : swapsWithSole [.Tuple [.Name x px, .Name y py] kt pt] (.Tuple [a, b] k2 pt2) pos.line X.env = pure false := by rfl) : MS K mg C X E (.Assign [.Tuple [.Name x px, .Name y py] kt pt] (.Tuple [a, b] k2 pt2) pos) (tPar i j tl) (mPar g [i, j]) :=
  ⟨ps_par hc hN hi hj hij hx hy hz.pe hw hs, fun S H α θ σ ρ N T r h =>
  hz.sd S H α θ σ ρ _ T r (postm_of r h fun ms θ1 vs S' H' α' _ x T' q h => by
    split at h
    · rename_i hl
      have lv := q.length
      match vs, lv with
      | [v, w], _ => exact ⟨v, w, rfl, h S' H' α' _ (ExtM.refl _ _ _) T' ((r.mono x).setAll [i, j] [v, w] ms q)⟩
      | [], lv => rw [hl] at lv; cases lv
      | [_], lv => rw [hl] at lv; cases lv
      | _ :: _ :: _ :: _, lv => rw [hl] at lv; cases lv
    · exact h.elim)⟩
theorem ms_pn {ts es : List Expr} {gg : TGs} {is : List Nat} {pt pt2 : Pos} {kt k2 n : Nat} (hc : X.calm = true) (hz : MA K mg C X E es tl g) (hg : GDs X ts gg is) (hn : (assignEach ts X.env).length = n := by rfl) (hst : (assignEach ts X.env).findIdx? (·.1) = none := by rfl) (hl : is.length = n := by rfl) (hz2 : is.length ≤ 100 := by decide) (hK : X.K = K := by rfl)
    (hs : swapsWithSole [.Tuple ts kt pt] (.Tuple es k2 pt2) pos.line X.env = pure false := by rfl) (hw : swappedStores [.Tuple ts kt pt] (.Tuple es k2 pt2) X.env = pure none := by rfl) (h1 : (assignEach [.Tuple ts kt pt] X.env).map (·.2) = [assign (.Tuple ts kt pt) X.env] := by rfl) :
    MS K mg C X E (.Assign [.Tuple ts kt pt] (.Tuple es k2 pt2) pos) (tAsg (tTup tl) (gTup K n gg)) (mPar g is) := ⟨ps_asg (pe_tup hz.pe) (hK ▸ pg_tup hc hg.pg hn hst) hs hw h1, fun S H α θ σ ρ N T r h =>
  hz.sd S H α θ σ ρ _ T r (postm_of r h fun ms θ1 vs S' H' α' _ x T' q h => by
    split at h
    · rename_i hsl
      have lv : vs.length = is.length := q.length.trans hsl
      refine ⟨by rw [lv, sizeLine_eq]; omega, fun p hp => ?_⟩
      have sm : Same H' (upd H' p (.tup vs)) := same_upd hp
      refine ⟨p, vs, rfl, SqT.of upd_same, by rw [lv, hl], hg.sd _ vs σ _ lv ?_⟩
      exact h S' _ α' _ (ExtM.grow sm) (T'.grow sm) ((r.mono x).setAll is vs ms q)
    · exact h.elim)⟩
/-- o.f = e -/
def mFldS (fo fe : MEnv → Th → MRes MV) (f : Str) : MEnv → Th → MSR := fun ρ θ => ofM (fe ρ θ) ρ fun v θ1 => ofM (fo ρ θ1) ρ fun m θ2 => match insAt θ2 m with
  | some (i, fs) => if fs.length < 100 then .next ρ (θ2.set i (.ins (putM f v fs))) else .bad
  | none => .bad
theorem ms_fld {f : Str} {pos' : Pos} (ho : MD K mg C X E o ta fa) (he : MD K mg C X E e te fe) (c : Cls K C) (n : NoAttr K C f) (hs : swapsWith e (some (.Attribute o f pos')) pos.line X.env = pure false := by rfl) (hK : X.K = K := by rfl) :
    MS K mg C X E (.Assign [.Attribute o f pos'] e pos) (sFld K ta te f) (mFldS fa fe f) := by
  subst hK
  refine ⟨ps_fld ho.pe he.pe hs, fun S H α θ σ ρ N T r h => ?_⟩
  refine he.sd S H α θ σ ρ _ T r (postm_of r h fun v θ1 w S1 H1 α1 _ x1 T1 q1 h => ?_)
  refine ho.sd S1 H1 α1 θ1 σ ρ _ T1 (r.mono x1) (postm_of (r.mono x1) h fun m θ2 y S2 H2 α2 _ x2 T2 q2 h => ?_)
  split at h
  · rename_i i fs e1
    obtain ⟨rfl, e5⟩ := insAt_some e1
    split at h
    · rename_i hl
      obtain ⟨a, ha, rfl⟩ := q2
      obtain ⟨hS, dx, ws, g1, g2⟩ := T2.ob i a _ ha e5
      refine ⟨a, C, dx, ws, rfl, g1, c, n, by rw [g2.length]; omega, ?_⟩
      exact h S2 _ α2 σ (ExtM.mut (List.mem_of_getElem? ha)) (T2.mut ha hS ⟨hS, dx, _, upd_same, g2.put (q1.mono x2.s x2.pre)⟩) ((r.mono x1).mono x2)
    · exact h.elim
  · exact h.elim
/-! ### raise -/
def mRaise (c : Str) : MEnv → Th → MSR := fun ρ θ => .err c ρ θ
theorem ms_raise {E1 : XK} {x m : Str} {j : Nat} {p p2 pos2 : Pos} {CE : Addr} (hc : X.calm = true) (tk : Takes X (fun cls d _ H => E1 cls d H)) (q : PySem.W.excIn X.K CE [.type "ValueError", .type "Exception", .type "BaseException", .type "object"] "ValueError.__new__" = true) (gC : X.mg x = some (.ref CE)) (kC : PySem.W.keepIn X.K (.ref CE) = true)
    (bC : PySem.W.subIn X.K (.ref CE) (.type "BaseException") = some true) (tC : PySem.W.typeIn X.K (.ref CE) = some (.type "type")) (hg : Gl X x) (hdb : (x == ("__debug__" : Str)) = false := by decide) (hM : X.mg = mg := by rfl) :
    MS K mg C X (fun _ => E1) (.Raise (some (.Call (.Name x p) [.Constant (.str m) j p2] [] pos2)) none pos) (fun _ σ H => E1 (.ref CE) none H) (mRaise x) :=
  ⟨ps_raise hc tk (pmk_own PySem.F.excBase_ValueError q gC kC (raises_own bC tC) hg hdb), fun S H α θ σ ρ N T r h => h (.ref CE) S H α σ (hM ▸ gC) (ExtM.refl _ _ _) T r⟩
/-! ### for -/
def mForGo (asg : D → MEnv → Option MEnv) (body : MEnv → Th → MSR) : List D → MEnv → Th → MSR
  | [], ρ, θ => .next ρ θ
  | d :: ds, ρ, θ => match asg d ρ with
    | none => .bad
    | some ρ1 => match body ρ1 θ with
      | .next ρ' θ' => mForGo asg body ds ρ' θ'
      | .cont ρ' θ' => mForGo asg body ds ρ' θ'
      | .brk ρ' θ' => .next ρ' θ'
      | .ret x θ' => .ret x θ'
      | .err c ρ' θ' => .err c ρ' θ'
      | .bad => .bad
def mAsgOf (is : List Nat) (hh : D → Option (List D)) (d : D) (ρ : MEnv) : Option MEnv := (hh d).map fun ds => setM ρ is (ds.map MV.d)
def mFor (src : DEnv → Res (List D)) (is : List Nat) (hh : D → Option (List D)) (body : MEnv → Th → MSR) : MEnv → Th → MSR := fun ρ θ => ofM (liftR (src (eraseM ρ)) (fun ds => ds) θ) ρ fun ds θ1 => mForGo (mAsgOf is hh) body ds ρ θ1
theorem ms_for {E1 : XK} {tg iter : Expr} {body : List Stmt} {wi : TI} {gt : TG} {tb : TS} {src : DEnv → Res (List D)} {is : List Nat} {hh : D → Option (List D)} {B : MEnv → Th → MSR} (hi : ID K mg X E1 tg iter wi src) (hg : GD K X tg gt is hh) (hb : MSs K mg C X (fun _ => E1) body tb B)
    (hps : PS X (.For tg iter body [] pos) (tFor wi gt tb)) : MS K mg C X (fun _ => E1) (.For tg iter body [] pos) (tFor wi gt tb) (mFor src is hh B) := ⟨hps, fun S H α θ σ ρ N T r h => by
  refine hi.sd S H σ (eraseM ρ) _ (r.pure T) (PostM.pure (f := fun ds => ds) (R2 := fun S _ J ds => Walks K S J ds) T (fun _ _ _ z => z) (postm_of (E := fun _ => E1) r h fun ds θ1 J S1 H1 α1 _ x1 T1 wk h => ?_))
  refine ⟨fun i m σ' H' => i + m = ds.length ∧ ∃ S' α' ρ' θ', Same S1 S' ∧ RelT K C S' H' α' θ' ∧ EnvR K S' α' σ' ρ' ∧ MPost K mg C (fun _ => E1) S' H' α' (mForGo (mAsgOf is hh) B (ds.drop i) ρ' θ') N, ⟨ds.length, by omega, S1, α1, ρ, θ1, Same.refl _, T1, r.mono x1, h⟩, ?_⟩
  rintro i m σ2 H2 ⟨him, S2, α2, ρ2, θ2, e2, T2, r2, h2⟩
  have wk2 := wk S2 H2 e2 T2.sh
  by_cases hil : i < ds.length
  · obtain ⟨go, yl⟩ := wk2.1 i ds[i] (List.getElem?_eq_getElem hil)
    have ed : ds.drop i = ds[i] :: ds.drop (i + 1) := (List.drop_eq_getElem_cons hil)
    rw [ed] at h2
    unfold mForGo at h2
    refine .inr ⟨go, fun σ' H' => ∃ S' α' ρ' θ', Same S1 S' ∧ RelT K C S' H' α' θ' ∧ EnvR K S' α' σ' ρ' ∧ MPost K mg C (fun _ => E1) S' H' α' (mForGo (mAsgOf is hh) B (ds.drop (i + 1)) ρ' θ') N, fun σ' H' ⟨S', α', ρ', θ', a1, a2, a3, a4⟩ => ⟨m - 1, by omega, by omega, S', α', ρ', θ', a1, a2, a3, a4⟩, fun x H3 hy => ?_⟩
    obtain ⟨S3, x3, dx⟩ := yl x H3 hy
    cases e1 : hh ds[i] with
    | none =>
      unfold mAsgOf at h2
      rw [e1] at h2
      exact h2.elim
    | some xs =>
      have ea : mAsgOf is hh ds[i] ρ2 = some (setM ρ2 is (xs.map MV.d)) := by unfold mAsgOf; rw [e1]; rfl
      rw [ea] at h2
      dsimp only at h2
      refine hg.sd S3 H3 x σ2 ds[i] xs _ x3.sh dx e1 fun vs hv => ?_
      have y3 : ExtM S2 H2 α2 S3 H3 α2 := ExtM.of x3
      have r3 := (r2.mono y3).setAll is vs _ (mvs_of (α := α2) hv)
      refine hb.sd S3 H3 α2 θ2 _ _ _ (T2.ext x3) r3 ?_
      have h3 := MPost.mono h2 y3
      cases eb : B (setM ρ2 is (xs.map MV.d)) θ2 with
      | next ρ' θ' =>
        rw [eb] at h3
        exact fun S' H' α' σ' x' T' r' => ⟨S', α', ρ', θ', (e2.trans x3.s).trans x'.s, T', r', MPost.mono h3 x'⟩
      | cont ρ' θ' =>
        rw [eb] at h3
        exact fun S' H' α' σ' x' T' r' => ⟨S', α', ρ', θ', (e2.trans x3.s).trans x'.s, T', r', MPost.mono h3 x'⟩
      | brk ρ' θ' => rw [eb] at h3; exact h3
      | ret d θ' => rw [eb] at h3; exact h3
      | err c ρ' θ' => rw [eb] at h3; exact h3
      | bad => rw [eb] at h3; exact h3
  · have ed : ds.drop i = [] := List.drop_eq_nil_of_le (by omega)
    have e3 : i = ds.length := by omega
    rw [ed] at h2
    refine .inl ⟨by rw [e3]; exact wk2.2, ?_⟩
    exact h2 S2 H2 α2 σ2 (ExtM.refl _ _ _) T2 r2⟩
/-! ### while -/
def mWhile (g : MEnv → Th → MRes Bool) (body : MEnv → Th → MSR) : Nat → MEnv → Th → MSR
  | 0, _, _ => .bad
  | n + 1, ρ, θ => match g ρ θ with
    | .bad => .bad
    | .err c θ' => .err c ρ θ'
    | .ok b θ1 => if b = true then (match body ρ θ1 with
      | .next ρ' θ' => mWhile g body n ρ' θ'
      | .cont ρ' θ' => mWhile g body n ρ' θ'
      | .brk ρ' θ' => .next ρ' θ'
      | .ret x θ' => .ret x θ'
      | .err c ρ' θ' => .err c ρ' θ'
      | .bad => .bad) else .next ρ θ1
theorem ms_while (n : Nat) {c : Expr} {body : List Stmt} {tc : TT} {tb : TS} {g : MEnv → Th → MRes Bool} {B : MEnv → Th → MSR} (hp : PassesOwn (model X.prog X.w) X.A X.env X.xe) (hc : MT K mg C X E c tc g) (hb : MSs K mg C X E body tb B) : MS K mg C X E (.While c body [] pos) (tWhile tc tb) (mWhile g B n) :=
  ⟨ps_while hp hc.pe hb.ps, fun S H α θ σ ρ N T r h => by
    refine ⟨fun m σ' H' => ∃ S' α' ρ' θ', RelT K C S' H' α' θ' ∧ EnvR K S' α' σ' ρ' ∧ MPost K mg C E S' H' α' (mWhile g B m ρ' θ') N, ⟨n, S, α, ρ, θ, T, r, h⟩, ?_⟩
    rintro m σ2 H2 ⟨S2, α2, ρ2, θ2, T2, r2, h2⟩
    cases m with
    | zero => exact h2.elim
    | succ m =>
      unfold mWhile at h2
      refine hc.sd S2 H2 α2 θ2 σ2 ρ2 _ T2 r2 ?_
      cases eg : g ρ2 θ2 with
      | bad => rw [eg] at h2; exact h2
      | err c θ' =>
        rw [eg] at h2
        exact fun u S' H' α' e x T' => h2 u S' H' α' σ2 e x T' (r2.mono x)
      | ok b θ1 =>
        rw [eg] at h2
        intro w S' H' α' x T' q
        cases q
        have r' := r2.mono x
        have h2 := MPost.mono h2 x
        cases b with
        | false => exact h2 S' H' α' σ2 (ExtM.refl _ _ _) T' r'
        | true =>
          dsimp only at h2
          rw [if_pos rfl] at h2
          refine iteT ⟨fun σ' H' => ∃ S' α' ρ' θ', RelT K C S' H' α' θ' ∧ EnvR K S' α' σ' ρ' ∧ MPost K mg C E S' H' α' (mWhile g B m ρ' θ') N, fun σ' H' q => ⟨m, Nat.lt_succ_self m, q⟩, ?_⟩
          refine hb.sd S' H' α' θ1 σ2 ρ2 _ T' r' ?_
          cases eb : B ρ2 θ1 with
          | next ρ' θ' =>
            rw [eb] at h2
            exact fun S' H' α' σ' x' T' r' => ⟨S', α', ρ', θ', T', r', MPost.mono h2 x'⟩
          | cont ρ' θ' =>
            rw [eb] at h2
            exact fun S' H' α' σ' x' T' r' => ⟨S', α', ρ', θ', T', r', MPost.mono h2 x'⟩
          | brk ρ' θ' => rw [eb] at h2; exact h2
          | ret d θ' => rw [eb] at h2; exact h2
          | err c ρ' θ' => rw [eb] at h2; exact h2
          | bad => rw [eb] at h2; exact h2⟩
end
/-! ### the rule for a def or a method -/
def toM : MSR → MRes MV
  | .next _ θ => .ok (.d .none) θ
  | .ret m θ => .ok m θ
  | .err c _ θ => .err c θ
  | .brk _ _ => .bad
  | .cont _ _ => .bad
  | .bad => .bad
def startM (n : Nat) (ms : List MV) : MEnv := ms.map some ++ List.replicate (n - ms.length) none
def fnM (n : Nat) (B : MEnv → Th → MSR) (ms : List MV) (θ : Th) : MRes MV := toM (B (startM n ms) θ)
theorem MVs.get {K : PySem.W.Frag} {S : Hp} {α : Al} : ∀ {vs : List V} {ms : List MV}, MVs K S α vs ms → ∀ {i : Nat} {m : MV}, ms[i]? = some m → ∃ v, vs[i]? = some v ∧ MVr K S α v m
  | [], [], _, i, m, e => by simp at e
  | v :: vs, m' :: ms, h, 0, m, e => by cases e; exact ⟨v, rfl, h.1⟩
  | v :: vs, m' :: ms, h, i + 1, m, e => MVs.get (vs := vs) (ms := ms) h.2 e
  | [], _ :: _, h, _, _, _ => h.elim
  | _ :: _, [], h, _, _, _ => h.elim
theorem startM_rel {K : PySem.W.Frag} {S : Hp} {α : Al} {N : List Str} {vs : List V} {ms : List MV} (h : MVs K S α vs ms) : EnvR K S α (start N vs) (startM N.length ms) := by
  refine ⟨?_, fun i m e => ?_⟩
  · unfold L2.start startM
    rw [List.length_append, List.length_append, List.length_map, List.length_map, List.length_replicate, List.length_replicate, h.length]
  · unfold startM at e
    by_cases hi : i < ms.length
    · rw [List.getElem?_append_left (by rw [List.length_map]; exact hi), List.getElem?_map] at e
      cases e2 : ms[i]? with
      | none => rw [e2] at e; cases e
      | some d =>
        rw [e2] at e
        cases e
        obtain ⟨v, g1, g2⟩ := h.get e2
        refine ⟨v, ?_, g2⟩
        unfold L2.start
        have hi := (List.getElem?_eq_some_iff.mp g1).1
        rw [List.getElem?_append_left (by rw [List.length_map]; exact hi), List.getElem?_map, g1]
        rfl
    · rw [List.getElem?_append_right (by rw [List.length_map]; omega)] at e
      have := List.eq_of_mem_replicate (List.mem_of_getElem? e)
      cases this
theorem fnMk {P : Program} {w : World} {K : PySem.W.Frag} {mg : Str → Option Value} {C : Addr} {base : Heap} {x qual : Str} {st : Stmt} {f : Addr} {fd : FuncData} {N ps : List Str} {k n : Nat} {B : MEnv → Th → MSR} (F : Fun K x qual st f fd) (S : FnScope N ps (defScope st)) (hn : ps.length = n)
    (hbody : ∀ (cdv : Value) (A : Around) (outer : List Env) (s : Shared) (H : Hp) (E : XK), Room k (A.deeper (PyProof.Rows.envOfC qual (defScope st) s.heap.objs.size f cdv)) →
      ∃ t, MSs K mg C (cxOf (L2.CX P w) P w K mg base N qual (defScope st) f cdv A outer s H E) (fun _ => E) (defBody st) t B) : FnOk P w K mg base (L2.CX P w) (k + 1) f fd ps (spM K mg C n (fnM N.length B)) := by
  refine F.okX S (fun vs H Q E h => ?_) (fun cdv A outer s H vs Q E hr h => ?_)
  · obtain ⟨_, _, _, _, _, _, hl, _⟩ := h
    rw [hl, hn]
  · obtain ⟨S1, α, θ, ms, T, mv, hl, hp⟩ := h
    obtain ⟨t, hb⟩ := hbody cdv A outer s H E hr
    refine ⟨t, hb.ps, hb.sd S1 H α θ (start N vs) (startM N.length ms) _ T (startM_rel mv) ?_⟩
    unfold fnM at hp
    cases e : B (startM N.length ms) θ with
    | next ρ θ' => rw [e] at hp; exact fun S' H' α' σ' x T' r => hp .non S' H' α' x T' rfl
    | ret d θ' => rw [e] at hp; exact fun v S' H' α' x T' q => hp v S' H' α' x T' q
    | err c ρ θ' => rw [e] at hp; exact fun u S' H' α' σ' e x T' r => hp u S' H' α' e x T'
    | brk ρ θ' => rw [e] at hp; exact hp.elim
    | cont ρ θ' => rw [e] at hp; exact hp.elim
    | bad => rw [e] at hp; exact hp
end PD
namespace PD
open PySem L2
section
variable {K : PySem.W.Frag} {mg : Str → Option Value} {C : Addr} {X : Cx} {E : L2.St → XK} {e o : Expr} {es : List Expr} {t : TA} {g : MEnv → Th → MRes (List MV)} {pos p : Pos} {x m : Str} {k n : Nat} {f : Addr} {fd : FuncData} {ps : List Str}
/-! ### C(..) -/
def tMakeM (C : Addr) (sp : Sp) (E : L2.St → XK) (t : TA) : TE := fun σ H Q => t σ H fun vs H1 => ∀ x dx, H1 x = none → H1 dx = none → dx ≠ x →
  sp (.ref x :: vs) (upd (upd H1 dx (.own x)) x (.ins C dx [])) (fun v H2 => v = .non ∧ Q (.ref x) H2) (E σ)
theorem pe_makeM {sp : Sp} (M : Mk X.K C f) (F : FnOk X.prog X.w X.K X.mg X.base (L2.CX X.prog X.w) k f fd ps sp) (hr : Room (k + 1) X.A) (hg : Gl X x) (hm : X.mg x = some (.ref C)) (hb : Binds X.K fd ps []) (hx : ∀ σ, PassesAt (L2.CX X.prog X.w) X σ (E σ))
    (ha : PA X (e :: es) t) (hdb : (x == ("__debug__" : Str)) = false := by decide) (he : starEach (e :: es) X.env = (false, eval e X.env) :: starEach es X.env := by rfl) (hpl : (backTo pos (starEach es X.env)).any (·.1) = false := by rfl) :
    PE X (.Call (.Name x p) (e :: es) [] pos) (tMakeM C sp E t) := by
  refine ⟨fun pins s σ H Q I h => ?_⟩
  refine wpAny_Call_Name_kw (ld_glob I hg hm ?_ hdb)
  refine PySem.W.callWith_K (h₀ := X.base) I.ok.mod.kin M.kp (thn (ha.run pos pins s σ H _ I h) fun us s1 ⟨vs, H1, I1, r, q⟩ => ⟨I1.kIn, ?_⟩) he hpl
  have hq := q (s1.heap.objs.size + 1) s1.heap.objs.size (I1.hok.fresh (Nat.le_succ _)) (I1.hok.fresh (Nat.le_refl _)) (Nat.ne_of_lt (Nat.lt_succ_self _))
  have I2 := Inv.made (C := C) I1
  have r2 : Vals (V.ref (s1.heap.objs.size + 1) :: vs) (Value.ref (s1.heap.objs.size + 1) :: us) := .cons rfl r
  have hl : (Value.ref (s1.heap.objs.size + 1) :: us).length = ps.length := by
    have e := r2.length
    rw [F.len _ _ _ _ hq] at e
    exact e.symm
  have b := hb { s1 with heap := (s1.heap.push PySem.W.emptyDict).push (PySem.W.instObj C s1.heap.objs.size) } (Value.ref (s1.heap.objs.size + 1) :: us) I2.kIn (by rw [List.append_nil]; exact hl)
  rw [List.append_nil] at b
  refine wpAny_call (make_map (f := f) I1.kIn M.makes M.init (beq_iff_eq.mp M.fn) (codeAny_mono (F.run _ X.stack _ _ ⟨Value.ref (s1.heap.objs.size + 1) :: us, []⟩ (Value.ref (s1.heap.objs.size + 1) :: us) _ _ (E σ) (hr.make C us [])
    (I2.env0.make C us []) b r2 hq) fun r s' hq' => ?_))
  cases r with
  | error e => exact hx σ pins _ _ e s' I2 hq'
  | ok fl =>
    cases fl with
    | ret u =>
      obtain ⟨v, H', I3, rv, ev, q3⟩ := I2.after hq'
      subst ev
      exact ⟨rv, ⟨V.ref (s1.heap.objs.size + 1), H', I3, rfl, q3⟩⟩
    | next => exact False.elim hq'
    | brk => exact False.elim hq'
    | cont => exact False.elim hq'
def mMake (n : Nat) (F : List MV → Th → MRes MV) (g : MEnv → Th → MRes (List MV)) : MEnv → Th → MRes MV := fun ρ θ => (g ρ θ).bind fun ms θ1 => if ms.length + 1 = n then
  (F (.id θ1.length :: ms) (θ1 ++ [.ins []])).bind fun r θ2 => (match r with
    | .d .none => .ok (.id θ1.length) θ2
    | _ => .bad) else .bad
theorem md_make {F : List MV → Th → MRes MV} (M : Mk X.K C f) (G : FnOk X.prog X.w X.K X.mg X.base (L2.CX X.prog X.w) k f fd ps (spM K mg C n F)) (hr : Room (k + 1) X.A) (hg : Gl X x) (hm : X.mg x = some (.ref C)) (hb : Binds X.K fd ps []) (hx : ∀ σ, PassesAt (L2.CX X.prog X.w) X σ (E σ))
    (ha : MA K mg C X E (e :: es) t g) (hdb : (x == ("__debug__" : Str)) = false := by decide) (he : starEach (e :: es) X.env = (false, eval e X.env) :: starEach es X.env := by rfl) (hpl : (backTo pos (starEach es X.env)).any (·.1) = false := by rfl) :
    MD K mg C X E (.Call (.Name x p) (e :: es) [] pos) (tMakeM C (spM K mg C n F) E t) (mMake n F g) := ⟨pe_makeM M G hr hg hm hb hx ha.pe hdb he hpl, fun S H α θ σ ρ Q T r h => by
  refine ha.sd S H α θ σ ρ _ T r (PostM.bind h fun ms θ1 vs S1 H1 α1 x1 T1 r1 h1 => ?_)
  intro x dx hx0 hd0 hne
  split at h1
  · rename_i hn
    have sm1 : Same H1 (upd H1 dx (.own x)) := same_upd hd0
    have hx1 : upd H1 dx (.own x) x = none := by rw [upd_ne (fun z => hne z.symm)]; exact hx0
    have sm : Same H1 (upd (upd H1 dx (.own x)) x (.ins C dx [])) := sm1.trans (same_upd hx1)
    have T2 : RelT K C S1 (upd (upd H1 dx (.own x)) x (.ins C dx [])) (α1 ++ [x]) (θ1 ++ [.ins []]) := T1.add sm hx0 ⟨T1.sh.free hx0, dx, [], upd_same, trivial⟩
    have y : ExtM S1 H1 α1 S1 (upd (upd H1 dx (.own x)) x (.ins C dx [])) (α1 ++ [x]) := ExtM.add sm hx0
    have hid : (α1 ++ [x])[θ1.length]? = some x := by
      rw [← T1.len, List.getElem?_append_right (Nat.le_refl _), Nat.sub_self]
      rfl
    refine ⟨S1, α1 ++ [x], θ1 ++ [.ins []], .id θ1.length :: ms, T2, ⟨⟨x, hid, rfl⟩, r1.mono y.s y.pre⟩, by rw [List.length_cons, r1.length]; exact hn, ?_⟩
    refine PostM.bind (PostM.mono y h1) fun u θ2 w S2 H2 α2 x2 T3 r2 h2 => ?_
    split at h2
    · exact ⟨r2, PostM.ok0 h2 T3 ⟨x, x2.pre _ _ hid, rfl⟩⟩
    · exact h2.elim
  · exact h1.elim⟩
end
/-! ### try -/
def mTry (B : MEnv → Th → MSR) (Lx : List Str) (FS : Str → MEnv → Th → MRes MV) : MEnv → Th → MSR := fun ρ θ => match B ρ θ with
  | .err c ρ' θ' => if Lx.contains c = true then (match FS c ρ' θ' with
    | .ok m θ2 => .ret m θ2
    | _ => .bad) else .bad
  | .next ρ' θ' => .next ρ' θ'
  | .ret m θ' => .ret m θ'
  | .brk ρ' θ' => .brk ρ' θ'
  | .cont ρ' θ' => .cont ρ' θ'
  | .bad => .bad
section
variable {K : PySem.W.Frag} {mg : Str → Option Value} {CI : Addr} {X : Cx} {E : XK} {x n : Str} {c : Value} {i : Nat} {body suite : List Stmt} {b₀ : Stmt} {np pos pos' : Pos} {tb : WX → TS} {tsu : Addr → Addr → Str → TS} {Lx : List Str} {B : MEnv → Th → MSR} {FSa : Addr → Str → MEnv → Th → MSR}
theorem ms_try {FS : Str → MEnv → Th → MRes MV} (hN : X.N.Nodup) (hi : X.N[i]? = some n) (hc : Names X x c) (tk : Takes X (fun cls d _ H => E cls d H)) (hk : Caught K mg Lx c)
    (hFS : ∀ a c ρ θ m θ', FS c ρ θ = .ok m θ' → FSa a c (ρ.set i (some (.raw (.ref a)))) θ = .ret m θ')
    (hb : ∀ (W : WX) (pn : List (Addr × Obj)) (xe : Value → Shared → Prop), Takes (X.tr pn xe) W → MSs K mg CI (X.tr pn xe) (WE W) body (tb W) B)
    (hsu : ∀ (a : Addr) (oe : Obj) (C : Addr) (pn : List (Addr × Obj)) (c : Str), Zc (.ref C) none oe → (∃ vs, oe.data = .fields vs) → ExcC K C → mg c = some (.ref C) → Lx.contains c = true → MSs K mg CI (X.suite a ((a, oe) :: pn)) (fun _ => E0) (b₀ :: suite) (tsu a C c) (FSa a c))
    (hs : X.stack = X.env :: X.outer := by rfl) (hf : X.env.frame = some X.env.locals := by rfl) (hln : X.env.kindOf n = some .local := by rfl) (hK : X.K = K := by rfl) :
    MS K mg CI X (fun _ => E) (.Try body [.ExceptHandler (some (.Name x np)) (some n) (b₀ :: suite) pos'] [] [] pos)
      (fun D σ H => tb (wAs K c i (fun a cls d N σ H => ∃ C k, cls = .ref C ∧ d = none ∧ ExcC K C ∧ mg k = some (.ref C) ∧ Lx.contains k = true ∧ tsu a C k N σ H) (fun cls d _ H => E cls d H) D) D σ H) (mTry B Lx FS) := by
  subst hK
  refine ⟨ps_try_as hs hf hN hi hln hc tk (fun W pn xe tkb _ => (hb W pn xe tkb).ps) (fun a oe cls d pn hz hfd => ⟨fun pins s σ H D I h => ?_⟩), fun S H α θ σ ρ N T r h => ?_⟩
  · obtain ⟨C, k, rfl, rfl, he, hm, hL, h⟩ := h
    exact (hsu a oe C pn k hz hfd he hm hL).ps.run pins s σ H D I h
  · refine (hb _ X.pn (fun u s' => False ∨ XE X (fun cls d _ H => E cls d H) u s' ∨ True) (fun _ _ _ => .inr (.inr trivial))).sd S H α θ σ ρ N T r ?_
    unfold mTry at h
    cases e1 : B ρ θ with
    | next ρ' θ' => rw [e1] at h; exact h
    | ret m θ' => rw [e1] at h; exact h
    | brk ρ' θ' => rw [e1] at h; exact h
    | cont ρ' θ' => rw [e1] at h; exact h
    | bad => rw [e1] at h; exact h
    | err k ρ' θ' =>
      rw [e1] at h
      dsimp only at h
      split at h
      · rename_i hL
        cases eF : FS k ρ' θ' with
        | ok m θ2 =>
          rw [eF] at h
          intro u S' H' α' σ' hm x' T' r'
          obtain ⟨C, rfl, he, hx⟩ := hk.ex k u hL hm
          refine ⟨true, hx, fun _ a ha => ⟨C, k, rfl, rfl, he, hm, hL, ?_⟩, fun z => nomatch z⟩
          have r2 : EnvR X.K S' α' (σ'.set i (some (.ref a))) (ρ'.set i (some (.raw (.ref a)))) := r'.set rfl
          refine (hsu a { cls := .ref C, data := .fields #[] } C [] k ⟨rfl, rfl⟩ ⟨_, rfl⟩ he hm hL).sd S' H' α' θ' _ _ _ T' r2 ?_
          rw [hFS a k ρ' θ' m θ2 eF]
          exact fun v S2 H2 α2 x2 T2 q => h v S2 H2 α2 (x'.trans x2) T2 q
        | err c t => rw [eF] at h; exact h.elim
        | bad => rw [eF] at h; exact h.elim
      · exact h.elim
end
end PD
namespace PD
open PySem L2
section
variable {K : PySem.W.Frag} {mg : Str → Option Value} {C : Addr} {X : Cx} {E : L2.St → XK} {e o : Expr} {te : TE} {fe : MEnv → Th → MRes MV} {pos p : Pos} {k : Nat} {f : Addr} {fd : FuncData} {ps : List Str}
theorem noPass {σ : L2.St} : PassesAt (L2.CX X.prog X.w) X σ E0 := fun pins H s e s' I c => by
  obtain ⟨a, B, H', cls, d, _, _, _, _, _, _, _, hE⟩ := c
  exact hE.elim
/-! ### len(x) by an own __len__ -/
def rLenO (C : Addr) (sp : Sp) : List V → Hp → VK → Prop := fun xs H Q => ∃ a dx fs, xs = [.ref a] ∧ H a = some (.ins C dx fs) ∧ sp [.ref a] H (fun v H2 => ∃ n : Int, v = .int n ∧ 0 ≤ n ∧ n < 2 ^ 63 ∧ Q (.int n) H2) E0
theorem cr_lenO {sp : Sp} (F : FnOk X.prog X.w X.K X.mg X.base (L2.CX X.prog X.w) k f fd ps sp) (hs : PySem.W.findIn X.K (.ref C) "__len__" = some (some (.ref f))) (hf : PySem.W.isFn X.K (.ref f) = true) (hr : Room (k + 1) X.A) (hb : Binds X.K fd ps []) : CallR X (.builtin "len") (rLenO C sp) := by
  intro pins s σ H xs us Q I rv h
  obtain ⟨a, dx, fs, rfl, ha, hsp⟩ := h
  obtain ⟨u, rfl, ru⟩ := Vals.one rv
  cases ru
  obtain ⟨mA, J, _⟩ := ins_get I.hok ha
  obtain ⟨od, J, _⟩ := J.look
  obtain ⟨m, hF⟩ := I.fr
  refine PySem.W.len_K hF I.ok.mod.kin J hs hf ?_
  have hl := F.len _ _ _ _ hsp
  have r2 : Vals [V.ref a] [Value.ref a] := .cons rfl .nil
  have b := hb s [Value.ref a] I.kIn (by simpa using hl)
  rw [List.append_nil] at b
  refine wpAny_call (codeAny_mono (F.run X.A.in1 X.stack s H ⟨[.ref a], []⟩ [.ref a] [.ref a] _ E0 hr.in1 I.env0.in1 b r2 hsp) fun r s' hq => ?_)
  cases r with
  | error e => exact noPass (X := X) (σ := σ) pins H s e s' I hq
  | ok fl =>
    cases fl with
    | ret w =>
      obtain ⟨z, H', I', rz, n, rfl, h0, h1, q⟩ := I.after hq
      obtain ⟨t, rfl⟩ := (show ∃ t, w = Value.int n t from rz)
      exact ⟨⟨h0, h1⟩, .int n, H', I'.tok _, ⟨_, rfl⟩, q⟩
    | next => exact False.elim hq
    | brk => exact False.elim hq
    | cont => exact False.elim hq
def lenOf (F : List MV → Th → MRes MV) (i : Nat) (θ : Th) : MRes MV := match F [.id i] θ with
  | .ok (.d (.int n)) θ2 => if 0 ≤ n ∧ n ≤ 1000000000000 then .ok (.d (.int n)) θ2 else .bad
  | _ => .bad
def mLenO (F : List MV → Th → MRes MV) (fe : MEnv → Th → MRes MV) : MEnv → Th → MRes MV := fun ρ θ => (fe ρ θ).bind fun u θ1 => match insAt θ1 u with
  | some (i, _) => lenOf F i θ1
  | none => .bad
theorem md_lenO {F : List MV → Th → MRes MV} (he : MD K mg C X E e te fe) (G : FnOk X.prog X.w X.K X.mg X.base (L2.CX X.prog X.w) k f fd ps (spM K mg C 1 F)) (hs : PySem.W.findIn X.K (.ref C) "__len__" = some (some (.ref f))) (hf : PySem.W.isFn X.K (.ref f) = true) (hr : Room (k + 1) X.A) (hb : Binds X.K fd ps [])
    (hg : Gl X "len") (hm : X.mg "len" = none) (hst : starEach [e] X.env = (false, eval e X.env) :: starEach [] X.env := by rfl) : MD K mg C X E (.Call (.Name "len" p) [e] [] pos) (tCB (rLenO C (spM K mg C 1 F)) (tCons te tNil)) (mLenO F fe) :=
  ⟨pe_callB (cr_lenO G hs hf hr hb) hg hm bt_len (pa_cons he.pe pa_nil hst) (by decide) (by decide) hst, fun S H α θ σ ρ Q T r h => by
    refine he.sd S H α θ σ ρ _ T r (PostM.bind h fun u θ1 y S1 H1 α1 x1 T1 r1 h1 => ?_)
    split at h1
    · rename_i i fs e1
      obtain ⟨rfl, e5⟩ := insAt_some e1
      obtain ⟨a, ha, rfl⟩ := r1
      obtain ⟨hS, dx, ws, g1, g2⟩ := T1.ob i a _ ha e5
      refine ⟨a, dx, ws, rfl, g1, S1, α1, θ1, [.id i], T1, ⟨⟨a, ha, rfl⟩, trivial⟩, rfl, ?_⟩
      unfold lenOf at h1
      split at h1
      · rename_i n θ2 eF
        rw [eF]
        split at h1
        · rename_i hn
          intro w S2 H2 α2 x2 T2 hw
          exact ⟨n, hw, hn.1, by omega, h1 w S2 H2 α2 x2 T2 hw |> fun z => by cases hw; exact z⟩
        · exact h1.elim
      · exact h1.elim
    · exact h1.elim⟩
end
end PD
namespace PD
open PySem L2
/-! ### a def over the store, called with data and no objects -/
def overD (F : List MV → Th → MRes MV) (ds : List D) : Res D := match F (ds.map MV.d) [] with
  | .ok (.d x) _ => .ok x
  | .err c _ => .err c
  | _ => .bad
theorem ExtM.pure {S H S' H' : Hp} {α' : Al} (x : ExtM S H [] S' H' α') (sh : Same S' H') : Ext S H S' H' :=
  ⟨x.s, fun a o h => x.keep a o h (by simp), sh, fun a h => x.old a h (by simp)⟩
theorem fn_over {P : Program} {w : World} {K : PySem.W.Frag} {mg : Str → Option Value} {C : Addr} {base : Heap} {f : Addr} {fd : FuncData} {ps : List Str} {k n : Nat} {F : List MV → Th → MRes MV} (G : FnOk P w K mg base (L2.CX P w) k f fd ps (spM K mg C n F)) :
    FnOk P w K mg base (L2.CX P w) k f fd ps (spD K mg n (overD F)) := G.imp fun vs H Q E h => by
  obtain ⟨S, ds, sh, dv, hl, hp⟩ := h
  refine ⟨S, [], [], ds.map MV.d, ⟨sh, rfl, List.nodup_nil, fun n a o h => by simp at h⟩, mvs_of dv, hl, ?_⟩
  unfold overD at hp
  cases e : F (ds.map MV.d) [] with
  | ok m θ =>
    rw [e] at hp
    cases m with
    | d x => exact fun w S' H' α' x' T hw => hp w S' H' (x'.pure T.sh) hw
    | id n => exact hp.elim
    | raw v => exact hp.elim
    | lsi _ => exact hp.elim
  | err c θ =>
    rw [e] at hp
    exact fun u S' H' α' hm x' T => hp u H' hm (x'.pure T.sh).h
  | bad => rw [e] at hp; exact hp
end PD
namespace PD
open PySem L2
/-! ### text * n -/
theorem rep_size (c : Array Nat) : ∀ (n : Nat) (acc : Array Nat), ((List.replicate n c).foldl (· ++ ·) acc).size = acc.size + c.size * n
  | 0, acc => by simp
  | n + 1, acc => by
    rw [List.replicate_succ, List.foldl_cons, rep_size c n, Array.size_append, Nat.mul_add, Nat.mul_one]
    omega
def repS (x : Str) (n : Int) : Str := if n < 1 then Str.empty else if (n == 1 || x.length == 0) = true then x else ⟨(List.replicate n.toNat x.cps).foldl (· ++ ·) #[]⟩
def rMulS : R2 := fun x y H Q => ∃ a n, x = .str a ∧ y = .int n ∧ 0 ≤ n ∧ n ≤ 100000 ∧ a.length ≤ 100 ∧ Q (.str (repS a n)) H
section
variable {K : PySem.W.Frag} {mg : Str → Option Value} {X : Cx} {E : XK}
theorem op_mulS : OpR X (binaryOp .Mult) rMulS := by
  intro pins s σ H x y v u Q I rx ry h
  obtain ⟨a, n, rfl, rfl, h0, h1, hz, q⟩ := h
  obtain ⟨t, rfl⟩ := rx
  obtain ⟨t', rfl⟩ := ry
  have hlen : ∀ m : Nat, m ≤ 100000 → a.length * m ≤ 10000000 := fun m hm => by
    have := Nat.mul_le_mul hz hm
    omega
  refine P.mul_str ?_ (fun g1 g2 => ?_) (fun g1 g2 => ?_) ?_
  · rw [decide_eq_false (by omega), decide_eq_false (by omega)]; rfl
  · have hn : 1 ≤ n := by omega
    have : n * a.length ≤ 10000000 := by
      have := hlen n.toNat (by omega)
      have e : ((a.length * n.toNat : Nat) : Int) = n * a.length := by rw [Int.natCast_mul, Int.toNat_of_nonneg h0, Int.mul_comm]
      omega
    have h2 : (a.length : Int) ≤ (2 ^ 63 - 1) / n := (Int.le_ediv_iff_mul_le (by omega)).mpr (by rw [Int.mul_comm]; omega)
    omega
  · have := hlen n.toNat (by omega)
    exact decide_eq_false (by rw [sizeLine_eq]; omega)
  · unfold repS at q
    split
    · rename_i g1
      rw [if_pos g1] at q
      exact ⟨by decide, .str Str.empty, H, I.tok _, ⟨_, rfl⟩, q⟩
    · rename_i g1
      rw [if_neg g1] at q
      split
      · rename_i g2
        rw [if_pos g2] at q
        exact ⟨.str a, H, I, ⟨_, rfl⟩, q⟩
      · rename_i g2
        rw [if_neg g2] at q
        refine ⟨?_, .str _, H, I.tok _, ⟨_, rfl⟩, q⟩
        have h3 := hlen n.toNat (by omega)
        have h4 : Str.length ⟨(List.replicate n.toNat a.cps).foldl (· ++ ·) #[]⟩ = a.length * n.toNat := by
          show ((List.replicate n.toNat a.cps).foldl (· ++ ·) #[]).size = a.cps.size * n.toNat
          rw [rep_size]
          simp
        rw [h4, sizeLine_eq]
        omega
def gMulS : D → D → Res D
  | .str a, .int n => if (decide (0 ≤ n) && decide (n ≤ 100000) && decide (a.length ≤ 100)) = true then .ok (.str (repS a n)) else .bad
  | _, _ => .bad
theorem os_mulS : OpS K mg E rMulS gMulS := fun S H x y a b Q sh dx dy h => by
  unfold gMulS at h
  split at h
  · rename_i z n
    split at h
    · rename_i c
      obtain ⟨c, c3⟩ := and_split c
      obtain ⟨c1, c2⟩ := and_split c
      exact ⟨z, n, dx, dy, of_decide_eq_true c1, of_decide_eq_true c2, of_decide_eq_true c3, h.ok0 sh rfl⟩
    · exact h.elim
  · exact h.elim
end
end PD
namespace PD
open PySem L2
section
variable {K : PySem.W.Frag} {mg : Str → Option Value} {C : Addr} {X : Cx} {E : L2.St → XK} {pos : Pos} {g1 g2 : MEnv → Th → MRes (List MV)} {t1 t2 : TA} {gc : MEnv → Th → MRes Bool} {tc : TT}
/-! ### x, y = (a, b) if c else (d, e): the names may be of objects -/
def mAlias (gc : MEnv → Th → MRes Bool) (g1 g2 : MEnv → Th → MRes (List MV)) (is : List Nat) : MEnv → Th → MSR := fun ρ θ => ofM (gc ρ θ) ρ fun b θ1 => ofM (if b = true then g1 ρ θ1 else g2 ρ θ1) ρ fun ms θ2 => if ms.length = is.length then .next (setM ρ is ms) θ2 else .bad
theorem alias_sd {es : List Expr} {ts : List Expr} {gg : TGs} {is : List Nat} {n : Nat} {g : MEnv → Th → MRes (List MV)} {tl : TA} (hz : MA K mg C X E es tl g) (hg : GDs X ts gg is) (hl : is.length = n) (hz2 : is.length ≤ 100) (S H : Hp) (α : Al) (θ : Th) (σ : L2.St) (ρ : MEnv) (N : Ends) (T : RelT K C S H α θ) (r : EnvR K S α σ ρ)
    (h : MPost K mg C E S H α (ofM (g ρ θ) ρ fun ms θ2 => if ms.length = is.length then .next (setM ρ is ms) θ2 else .bad) N) : tTup tl σ H fun v H1 => gTup K n gg v σ H1 fun σ' H' => N.nx σ' H' :=
  hz.sd S H α θ σ ρ _ T r (postm_of r h fun ms θ1 vs S' H' α' _ x T' q h => by
    split at h
    · rename_i hsl
      have lv : vs.length = is.length := q.length.trans hsl
      refine ⟨by rw [lv, sizeLine_eq]; omega, fun p hp => ?_⟩
      have sm : Same H' (upd H' p (.tup vs)) := same_upd hp
      refine ⟨p, vs, rfl, SqT.of upd_same, by rw [lv, hl], hg.sd _ vs σ _ lv ?_⟩
      exact h S' _ α' _ (ExtM.grow sm) (T'.grow sm) ((r.mono x).setAll is vs ms q)
    · exact h.elim)
theorem ms_alias {c : Expr} {ts es1 es2 : List Expr} {gg : TGs} {is : List Nat} {pt p1 p2 p3 : Pos} {kt k1 k2 n : Nat} (hc : X.calm = true) (hT : MT K mg C X E c tc gc) (h1 : MA K mg C X E es1 t1 g1) (h2 : MA K mg C X E es2 t2 g2) (hg : GDs X ts gg is) (hn : (assignEach ts X.env).length = n := by rfl) (hst : (assignEach ts X.env).findIdx? (·.1) = none := by rfl) (hl : is.length = n := by rfl) (hz2 : is.length ≤ 100 := by decide) (hK : X.K = K := by rfl)
    (hs : swapsWithSole [.Tuple ts kt pt] (.IfExp c (.Tuple es1 k1 p1) (.Tuple es2 k2 p2) p3) pos.line X.env = pure false := by rfl) (hw : swappedStores [.Tuple ts kt pt] (.IfExp c (.Tuple es1 k1 p1) (.Tuple es2 k2 p2) p3) X.env = pure none := by rfl) (ha : (assignEach [.Tuple ts kt pt] X.env).map (·.2) = [assign (.Tuple ts kt pt) X.env] := by rfl) :
    MS K mg C X E (.Assign [.Tuple ts kt pt] (.IfExp c (.Tuple es1 k1 p1) (.Tuple es2 k2 p2) p3) pos) (tAsg (tIf tc (tTup t1) (tTup t2)) (gTup K n gg)) (mAlias gc g1 g2 is) :=
  ⟨ps_asg (pe_ifExp hT.pe (pe_tup h1.pe) (pe_tup h2.pe)) (hK ▸ pg_tup hc hg.pg hn hst) hs hw ha, fun S H α θ σ ρ N T r h => by
    refine hT.sd S H α θ σ ρ _ T r (postm_of r h fun b θ1 w S' H' α' _ x T' q h => ?_)
    cases q
    cases b with
    | true => exact alias_sd h1 hg hl hz2 S' H' α' θ1 σ ρ N T' (r.mono x) h
    | false => exact alias_sd h2 hg hl hz2 S' H' α' θ1 σ ρ N T' (r.mono x) h⟩
end
end PD
namespace PD
open PySem L2
def clsBody (s : Stmt) : List Stmt := match s with
  | .ClassDef _ _ _ b _ _ _ _ _ _ _ => b
  | _ => []
section
variable {K : PySem.W.Frag} {mg : Str → Option Value} {C : Addr} {X : Cx} {E : L2.St → XK} {E1 : XK} {es : List Expr} {t : TA} {g : MEnv → Th → MRes (List MV)} {pos : Pos}
theorem passM {σ : L2.St} (h : Passes (L2.CX X.prog X.w) X E1) : PassesAt (L2.CX X.prog X.w) X σ E1 := fun pins H s e s' I c => h pins σ H s e s' I c
def mLst (g : MEnv → Th → MRes (List MV)) : MEnv → Th → MRes MV := fun ρ θ => (g ρ θ).bind fun ms θ1 => withD ms θ1 mkL
theorem md_lst (h : MA K mg C X E es t g) : MD K mg C X E (.List es pos) (tLst t) (mLst g) := ⟨pe_lst h.pe, fun S H α θ σ ρ Q T r hp => by
  refine h.sd S H α θ σ ρ _ T r (PostM.bind hp fun ms θ1 ys S1 H1 α1 x1 T1 r1 h1 => ?_)
  obtain ⟨ds, e, h1⟩ := withD_some (A := Unit) h1
  have dv := allD_dvs r1 e
  have hz : lenOk ds.length = true := by
    unfold mkL at h1
    split at h1
    · rename_i hz; exact hz
    · exact h1.elim
  refine ⟨by rw [dv.length]; exact lenOk.le hz, fun q hn => ?_⟩
  have h2 := PostM.pure (R1 := DV K) T1 (fun _ _ _ z => z) h1
  unfold mkL at h2
  rw [if_pos hz] at h2
  exact new_lst (S := S1) T1.sh dv h2 hn⟩
theorem ms_forI {tg iter : Expr} {body : List Stmt} {wi : TI} {gt : TG} {tb : TS} {src : DEnv → Res (List D)} {is : List Nat} {hh : D → Option (List D)} {B : MEnv → Th → MSR} (hp : PassesOwn (model X.prog X.w) X.A X.env X.xe) (hc : X.calm = true) (hi : ID K mg X E1 tg iter wi src) (hg : GD K X tg gt is hh) (hb : MSs K mg C X (fun _ => E1) body tb B)
    (hs : ∀ x, foldedSetIterable iter X.env x = pure x := by intro _; rfl) : MS K mg C X (fun _ => E1) (.For tg iter body [] pos) (tFor wi gt tb) (mFor src is hh B) := ms_for hi hg hb (ps_for hp hc hi.pi hg.pg hb.ps hs)
end
section
variable {P : Program} {w : World} {K : PySem.W.Frag} {mg : Str → Option Value} {base : Heap} {N : List Str} {qual : Str} {scope : Scope} {f : Addr} {cdv : Value} {A : Around} {outer : List Env} {s : Shared} {H : Hp} {E : XK}
theorem pXM : ∀ σ : L2.St, PassesAt (L2.CX P w) (cxOf (L2.CX P w) P w K mg base N qual scope f cdv A outer s H E) σ ((fun _ => E) σ) := fun σ => passM pX
end
end PD
namespace PD
open PySem L2
/-! ### evaluation over the store -/
def retOfM : MSR → MRes MV
  | .ret m θ => .ok m θ
  | _ => .bad
theorem retOfM_ret {r : MSR} {m : MV} {θ : Th} (h : retOfM r = .ok m θ) : r = .ret m θ := by
  cases r with
  | ret m' θ' => cases h; rfl
  | _ => cases h
section
variable {A B : Type}
theorem mr_ok (a : A) (θ : Th) (k : A → Th → MRes B) : (MRes.ok a θ).bind k = k a θ := rfl
theorem mr_err (c : Str) (θ : Th) (k : A → Th → MRes B) : (MRes.err c θ : MRes A).bind k = .err c θ := rfl
theorem mr_bad (k : A → Th → MRes B) : (MRes.bad : MRes A).bind k = .bad := rfl
theorem lr_ok (a : A) (f : A → B) (θ : Th) : liftR (.ok a) f θ = .ok (f a) θ := rfl
theorem lr_err (c : Str) (f : A → B) (θ : Th) : liftR (.err c) f θ = .err c θ := rfl
theorem lr_bad (f : A → B) (θ : Th) : liftR (.bad : Res A) f θ = .bad := rfl
theorem om_ok (a : A) (θ : Th) (ρ : MEnv) (k : A → Th → MSR) : ofM (.ok a θ) ρ k = k a θ := rfl
theorem om_err (c : Str) (θ : Th) (ρ : MEnv) (k : A → Th → MSR) : ofM (.err c θ : MRes A) ρ k = .err c ρ θ := rfl
theorem om_bad (ρ : MEnv) (k : A → Th → MSR) : ofM (.bad : MRes A) ρ k = .bad := rfl
end
def okOf (r : MRes MV) : MRes MV := match r with
  | .ok m θ => .ok m θ
  | _ => .bad
theorem rm_ret (r : MRes MV) (ρ : MEnv) : retOfM (ofM r ρ fun m θ1 => .ret m θ1) = okOf r := by cases r <;> rfl
theorem er_nil : eraseM [] = [] := rfl
theorem er_d (x : D) (ρ : MEnv) : eraseM (some (.d x) :: ρ) = .d x :: eraseM ρ := rfl
theorem er_id (n : Nat) (ρ : MEnv) : eraseM (some (.id n) :: ρ) = .un :: eraseM ρ := rfl
theorem er_raw (v : V) (ρ : MEnv) : eraseM (some (.raw v) :: ρ) = .raw v :: eraseM ρ := rfl
theorem er_un (ρ : MEnv) : eraseM (none :: ρ) = .un :: eraseM ρ := rfl
theorem er_c (r : Option MV) (ρ : MEnv) : eraseM (r :: ρ) = eraseS r :: eraseM ρ := rfl
theorem es_d (x : D) : eraseS (some (.d x)) = .d x := rfl
theorem es_id (n : Nat) : eraseS (some (.id n)) = .un := rfl
theorem es_raw (v : V) : eraseS (some (.raw v)) = .raw v := rfl
theorem es_un : eraseS none = .un := rfl
theorem mset0 (x y : Option MV) (l : MEnv) : List.set (x :: l) 0 y = y :: l := rfl
theorem msetS (x y : Option MV) (l : MEnv) (n : Nat) : List.set (x :: l) (n + 1) y = x :: List.set l n y := rfl
theorem vm_nil (θ : Th) : viewM θ [] = [] := rfl
theorem vm_d (θ : Th) (x : D) (ρ : MEnv) : viewM θ (some (.d x) :: ρ) = .d x :: viewM θ ρ := rfl
theorem vm_raw (θ : Th) (v : V) (ρ : MEnv) : viewM θ (some (.raw v) :: ρ) = .raw v :: viewM θ ρ := rfl
theorem vm_un (θ : Th) (ρ : MEnv) : viewM θ (none :: ρ) = .un :: viewM θ ρ := rfl
/-- the slot of an id in a view -/
def idS (θ : Th) (n : Nat) : Slot := match θ[n]? with
  | some (.lst xs) => .d (.list xs)
  | _ => .un
theorem vm_id (θ : Th) (n : Nat) (ρ : MEnv) : viewM θ (some (.id n) :: ρ) = idS θ n :: viewM θ ρ := rfl
theorem idS_lst {θ : Th} {n : Nat} {xs : List D} (h : θ[n]? = some (.lst xs)) : idS θ n = .d (.list xs) := by unfold idS; rw [h]
theorem idS_ins {θ : Th} {n : Nat} {fs : List (Str × MV)} (h : θ[n]? = some (.ins fs)) : idS θ n = .un := by unfold idS; rw [h]
theorem m_pure (f : DEnv → Res D) (ρ : MEnv) (θ : Th) : mPure f ρ θ = liftR (f (eraseM ρ)) MV.d θ := rfl
theorem m_pureT (f : DEnv → Res Bool) (ρ : MEnv) (θ : Th) : mPureT f ρ θ = liftR (f (viewM θ ρ)) (fun b => b) θ := rfl
theorem m_var0 (m : MV) (ρ : MEnv) (θ : Th) : mVar 0 (some m :: ρ) θ = .ok m θ := rfl
theorem m_varS (i : Nat) (x : Option MV) (ρ : MEnv) (θ : Th) : mVar (i + 1) (x :: ρ) θ = mVar i ρ θ := rfl
theorem m_fld (fe : MEnv → Th → MRes MV) (f : Str) (ρ : MEnv) (θ : Th) : mFld fe f ρ θ = (fe ρ θ).bind fun m θ1 => getF f m θ1 := rfl
theorem getF_at {θ : Th} {i : Nat} {fs : List (Str × MV)} {f : Str} {v : MV} (h : θ[i]? = some (.ins fs)) (e : fs.lookup f = some v) : getF f (.id i) θ = .ok v θ := by
  unfold getF insAt
  dsimp only
  rw [h]
  dsimp only
  rw [e]
theorem m_bin (g : D → D → Res D) (f1 f2 : MEnv → Th → MRes MV) (ρ : MEnv) (θ : Th) : mBin g f1 f2 ρ θ = (f1 ρ θ).bind fun u θ1 => (f2 ρ θ1).bind fun v θ2 => opM g u v θ2 := rfl
theorem op_dd (g : D → D → Res D) (x y : D) (θ : Th) : opM g (.d x) (.d y) θ = liftR (g x y) MV.d θ := rfl
theorem op_id (g : D → D → Res D) {n : Nat} {xs : List D} (y : D) {θ : Th} (h : θ[n]? = some (.lst xs)) : opM g (.id n) (.d y) θ = liftR (only (g (.list xs) y)) MV.d θ := by
  unfold opM look
  dsimp only
  rw [h]
theorem only_b (b : Bool) : only (.ok (.bool b)) = .ok (.bool b) := rfl
theorem m_test (f : MEnv → Th → MRes MV) (ρ : MEnv) (θ : Th) : mTest f ρ θ = (f ρ θ).bind asBM := rfl
theorem asBM_b (b : Bool) (θ : Th) : asBM (.d (.bool b)) θ = .ok b θ := rfl
theorem m_not (f : MEnv → Th → MRes Bool) (ρ : MEnv) (θ : Th) : mNot f ρ θ = (f ρ θ).bind fun b θ1 => .ok (!b) θ1 := rfl
theorem m_and (f g : MEnv → Th → MRes Bool) (ρ : MEnv) (θ : Th) : mAnd f g ρ θ = (f ρ θ).bind fun b θ1 => if b = true then g ρ θ1 else .ok false θ1 := rfl
theorem m_or (f g : MEnv → Th → MRes Bool) (ρ : MEnv) (θ : Th) : mOr f g ρ θ = (f ρ θ).bind fun b θ1 => if b = true then .ok true θ1 else g ρ θ1 := rfl
theorem m_if (g : MEnv → Th → MRes Bool) (f1 f2 : MEnv → Th → MRes MV) (ρ : MEnv) (θ : Th) : mIf g f1 f2 ρ θ = (g ρ θ).bind fun b θ1 => if b = true then f1 ρ θ1 else f2 ρ θ1 := rfl
theorem m_nil (ρ : MEnv) (θ : Th) : mNil ρ θ = .ok [] θ := rfl
theorem m_cons (f : MEnv → Th → MRes MV) (g : MEnv → Th → MRes (List MV)) (ρ : MEnv) (θ : Th) : mCons f g ρ θ = (f ρ θ).bind fun x θ1 => (g ρ θ1).bind fun xs θ2 => .ok (x :: xs) θ2 := rfl
theorem m_tup (g : MEnv → Th → MRes (List MV)) (ρ : MEnv) (θ : Th) : mTup g ρ θ = (g ρ θ).bind fun ms θ1 => withD ms θ1 mkT := rfl
theorem m_lst (g : MEnv → Th → MRes (List MV)) (ρ : MEnv) (θ : Th) : mLst g ρ θ = (g ρ θ).bind fun ms θ1 => withD ms θ1 mkL := rfl
theorem wd1 (a : D) (θ : Th) (k : List D → Res D) : withD [.d a] θ k = liftR (k [a]) MV.d θ := rfl
theorem wd2 (a b : D) (θ : Th) (k : List D → Res D) : withD [.d a, .d b] θ k = liftR (k [a, b]) MV.d θ := rfl
theorem wd3 (a b c : D) (θ : Th) (k : List D → Res D) : withD [.d a, .d b, .d c] θ k = liftR (k [a, b, c]) MV.d θ := rfl
theorem m_newL0 (ρ : MEnv) (θ : Th) : mNewL mNil ρ θ = .ok (.id θ.length) (θ ++ [.lst []]) := rfl
theorem s_next (ρ : MEnv) (θ : Th) : mNext ρ θ = .next ρ θ := rfl
theorem s_seq (F G : MEnv → Th → MSR) (ρ : MEnv) (θ : Th) : mSeq F G ρ θ = (F ρ θ).seq G := rfl
theorem q_next (ρ : MEnv) (θ : Th) (k : MEnv → Th → MSR) : (MSR.next ρ θ).seq k = k ρ θ := rfl
theorem q_ret (m : MV) (θ : Th) (k : MEnv → Th → MSR) : (MSR.ret m θ).seq k = .ret m θ := rfl
theorem q_err (c : Str) (ρ : MEnv) (θ : Th) (k : MEnv → Th → MSR) : (MSR.err c ρ θ).seq k = .err c ρ θ := rfl
theorem s_expr (f : MEnv → Th → MRes MV) (ρ : MEnv) (θ : Th) : mExpr f ρ θ = ofM (f ρ θ) ρ fun _ θ1 => .next ρ θ1 := rfl
theorem s_ret (f : MEnv → Th → MRes MV) (ρ : MEnv) (θ : Th) : mRet f ρ θ = ofM (f ρ θ) ρ fun m θ1 => .ret m θ1 := rfl
theorem s_if (g : MEnv → Th → MRes Bool) (F G : MEnv → Th → MSR) (ρ : MEnv) (θ : Th) : mIfS g F G ρ θ = ofM (g ρ θ) ρ fun b θ1 => if b = true then F ρ θ1 else G ρ θ1 := rfl
theorem s_set (f : MEnv → Th → MRes MV) (i : Nat) (ρ : MEnv) (θ : Th) : mSet f i ρ θ = ofM (f ρ θ) ρ fun m θ1 => .next (ρ.set i (some m)) θ1 := rfl
theorem s_raise (c : Str) (ρ : MEnv) (θ : Th) : mRaise c ρ θ = .err c ρ θ := rfl
def putF' (f : Str) (v m : MV) (ρ : MEnv) (θ2 : Th) : MSR := match insAt θ2 m with
  | some (i, fs) => if fs.length < 100 then .next ρ (θ2.set i (.ins (putM f v fs))) else .bad
  | none => .bad
theorem putF'_at {f : Str} {v : MV} {i : Nat} {ρ : MEnv} {θ : Th} {fs : List (Str × MV)} (h : θ[i]? = some (.ins fs)) (hl : fs.length < 100) : putF' f v (.id i) ρ θ = .next ρ (θ.set i (.ins (putM f v fs))) := by
  unfold putF' insAt
  dsimp only
  rw [h]
  exact if_pos hl
theorem s_fldS (fo fe : MEnv → Th → MRes MV) (f : Str) (ρ : MEnv) (θ : Th) : mFldS fo fe f ρ θ = ofM (fe ρ θ) ρ fun v θ1 => ofM (fo ρ θ1) ρ fun m θ2 => putF' f v m ρ θ2 := rfl
end PD
/-! ### != by an own __eq__ -/
namespace PDn
open PySem PySem.Spec PyProof.Rows PySem.SeqAt
section
variable {M : Model} {prog : Program} {w : World} {A : Around} {E : Value → Shared → Prop} {s : Shared} {K : PySem.W.Frag} {x C L f : Addr} {h₀ : Heap} {m : Str → Option Value} {ox : Obj} {od : Option Obj} {b tb : Value}
theorem ifBound_ne {args : List Value} {Q : Option Value → Shared → Prop} (X : K.In s.heap) (I : PySem.W.InstAt s.heap x ox C od) (hs : PySem.W.findIn K (.ref C) "__ne__" = some (some (.builtin "object.__ne__")))
    (h : wpAny M A (call (.builtin "object.__ne__") (.ref x :: args)) (fun v => Q (some v)) E s) : wpAny M A (callSpecialIfBound? (.ref x) "__ne__" args) Q E s := by
  simp only [callSpecialIfBound?, bindSpecialIfBound?]
  refine wpAny_holding (wpAny_bind (wpAny_bind (wpAny_bind (I.type.here ((PySem.W.looks_findIn X hs).here ?_)))))
  refine wpAny_bind (wpAny_askSetting (wpAny_ite ?_))
  have fin : wpAny M A (call (.builtin "object.__ne__") ([.ref x] ++ args) >>= fun v => pure (some v)) Q E s := wpAny_bind (wpAny_mono h (fun v s' h' => wpAny_pure h') fun _ _ h' => h')
  split
  · exact wpAny_bind (wpAny_of_eq (F.cmp_object.ne.bind _) (wpAny_pure (by exact fin)))
  · exact wpAny_tryCatch (wpAny_bind (wpAny_of_eq (F.cmp_object.ne.bind _) (wpAny_pure (by exact fin))))
theorem entry_ne {Q : Fin → Shared → Prop} (hu : A.units < cLine) (X : K.In s.heap) (I : PySem.W.InstAt s.heap x ox C od) (hs : PySem.W.findIn K (.ref C) "__eq__" = some (some (.ref f))) (hf : PySem.W.isFn K (.ref f) = true)
    (hcall : wpAny (model prog w) A (call (.ref f) [.ref x, b]) (fun v s' => ∃ k, v = .bool k ∧ Q (.done (.ret (.bool (!k)))) s') E s) :
    wpAny (model prog w) A (Builtin.«object.__ne__» ⟨[.ref x, b], []⟩) Q E s := by
  unfold Builtin.«object.__ne__»
  repeat (first
    | with_reducible refine wpAny_cRoomFor hu ?_
    | (refine wpAny_bind (m := callSpecialIfBound? (.ref x) (Str.ofString "__eq__") [b])
        (PySem.W.ifBound_K X I hs hf (wpAny_mono hcall (fun r s' hr => by
          obtain ⟨k, rfl, hq⟩ := hr
          repeat (first | exact hq | exact wpAny_pure hq | exact wpAny_truthy_bool hq | (refine wpAny_bind (m := truthy (.bool _)) (wpAny_truthy_bool ?_)) | wp_step)) fun _ _ e => e)))
    | wp_step)
theorem ne_K {Q : Value → Shared → Prop} (hu : A.units < cLine) (hu1 : A.in1.units < cLine) (F₁ : Fr h₀ L s.heap m) (X₀ : K.In h₀) (I : PySem.W.InstAt s.heap x ox C od) (hb : PySem.W.Looks (model prog w) s.heap (typeOf b) tb) (hn : PySem.W.notFirst K C tb = true)
    (hs : PySem.W.findIn K (.ref C) "__eq__" = some (some (.ref f))) (hf : PySem.W.isFn K (.ref f) = true) (hne : PySem.W.findIn K (.ref C) "__ne__" = some (some (.builtin "object.__ne__"))) (hm : PySem.W.mroIn K C (.type "object") = some true)
    (h : wpAny (model prog w) A.in1 (call (.ref f) [.ref x, b]) (fun v s' => ∃ k, v = .bool k ∧ Q (.bool (!k)) s') E s) : wpAny (model prog w) A (richCompare .NotEq (.ref x) b) Q E s := by
  have X := X₀.keeps F₁.keep
  have one : wpAny (model prog w) A (tryCompare (.ref x) (cmpInfo .NotEq).2.1 b) (fun r s' => ∃ v, r = some v ∧ Q v s') E s := by
    unfold tryCompare
    refine wpAny_bind (ifBound_ne X I hne (wpAny_call (codeAny_call_builtin F.cmp_object.ne.plain F.cmpEntry_ne (PySem.W.check_slot F.cmpKind_ne F.cmpSplit_ne (I.type.andThen (PySem.W.looks_mroIn X hm)) (F.cmpArgs_ne _ _) ?_))))
    refine entry_ne hu1 X I hs hf (wpAny_mono h (fun v s' hv => ?_) fun _ _ e => e)
    obtain ⟨k, rfl, hq⟩ := hv
    exact ⟨k, rfl, wpAny_pure ⟨_, rfl, hq⟩⟩
  unfold richCompare
  simp only [oneThing_ref]
  refine wpAny_holding (wpAny_bind (wpAny_cRoomFor hu ?_))
  refine wpAny_bind (I.type.here (wpAny_bind (hb.here ?_)))
  split
  · rename_i q
    have e : PySem.W.subIn K tb (.ref C) = some false := by
      rcases Bool.or_eq_true_iff.mp hn with e | e
      · rw [beq_iff_eq.mp e] at q; simp at q
      · exact beq_iff_eq.mp e
    refine wpAny_bind ((PySem.W.looks_subIn X e).here ?_)
    simp only [Bool.false_eq_true, if_false]
    refine wpAny_bind (wpAny_mono one (fun r s' z => ?_) fun _ _ e => e)
    obtain ⟨v, rfl, hq⟩ := z
    exact wpAny_pure hq
  · refine wpAny_bind (wpAny_pure ?_)
    simp only [Bool.false_eq_true, if_false]
    refine wpAny_bind (wpAny_mono one (fun r s' z => ?_) fun _ _ e => e)
    obtain ⟨v, rfl, hq⟩ := z
    exact wpAny_pure hq
end
end PDn
namespace PD
open PySem L2
section
variable {K : PySem.W.Frag} {mg : Str → Option Value} {C : Addr} {X : Cx} {E : L2.St → XK} {e o a b : Expr} {te ta tb : TE} {fe fa fb : MEnv → Th → MRes MV} {pos p : Pos} {k : Nat} {f : Addr} {fd : FuncData} {ps : List Str} {sp : Sp}
/-! ### x == y, x != y by an own __eq__ -/
/-- the other operand: an instance of the class, or a tuple -/
def OthR (K : PySem.W.Frag) (C : Addr) (H : Hp) (y : V) : Prop := (∃ b dy gs, y = .ref b ∧ H b = some (.ins C dy gs)) ∨ (∃ b xs, y = .ref b ∧ SqT K H b xs)
theorem sub_tup (K : PySem.W.Frag) (C : Addr) : PySem.W.subIn K (.type "tuple") (.ref C) = some false := by
  have e : fastBuiltinMro "tuple" = some [.type "tuple", .type "object"] := by decide +kernel
  show (fastBuiltinMro "tuple").map (·.contains (.ref C)) = some false
  rw [e]
  first
    | rfl
    | simp
theorem oth_type {pins : List (Addr × Obj)} {σ : L2.St} {H : Hp} {s : Shared} {y : V} {u : Value} (I : Inv X pins σ H s) (r : RelV y u) (h : OthR X.K C H y) : ∃ tb, PySem.W.Looks (model X.prog X.w) s.heap (typeOf u) tb ∧ PySem.W.notFirst X.K C tb = true := by
  rcases h with ⟨b, dy, gs, rfl, hb⟩ | ⟨b, xs, rfl, hb⟩
  · cases r
    obtain ⟨mB, J', _⟩ := ins_get I.hok hb
    obtain ⟨od', J', _⟩ := J'.look
    exact ⟨.ref C, J'.type, by simp [PySem.W.notFirst]⟩
  · cases r
    obtain ⟨its, rv, ⟨o, ht, hc, _⟩, _⟩ := I.tuple hb
    exact ⟨.type "tuple", hc ▸ (PySem.W.Looks.ld ht).andThen .now, by unfold PySem.W.notFirst; rw [sub_tup]; rfl⟩
def rEqO (K : PySem.W.Frag) (C : Addr) (sp : Sp) : R2 := fun x y H Q => ∃ a dx fs, x = .ref a ∧ H a = some (.ins C dx fs) ∧ OthR K C H y ∧ sp [x, y] H Q E0
def rNeO (K : PySem.W.Frag) (C : Addr) (sp : Sp) : R2 := fun x y H Q => ∃ a dx fs, x = .ref a ∧ H a = some (.ins C dx fs) ∧ OthR K C H y ∧ sp [x, y] H (fun v H2 => ∃ k, v = .bl k ∧ Q (.bl (!k)) H2) E0
theorem op_eqO (F : FnOk X.prog X.w X.K X.mg X.base (L2.CX X.prog X.w) k f fd ps sp) (hs : PySem.W.findIn X.K (.ref C) "__eq__" = some (some (.ref f))) (hf : PySem.W.isFn X.K (.ref f) = true) (hr : Room k X.A) (hb : Binds X.K fd ps []) : OpR X (compareOp .Eq) (rEqO X.K C sp) := by
  intro pins s σ H x y v u Q I rx ry h
  obtain ⟨a, dx, fs, rfl, ha, hy, hsp⟩ := h
  cases rx
  obtain ⟨mA, J, _⟩ := ins_get I.hok ha
  obtain ⟨od, J, _⟩ := J.look
  obtain ⟨m, hF⟩ := I.fr
  obtain ⟨tb, ht, hn⟩ := oth_type I ry hy
  show wpAny (model X.prog X.w) X.A (richCompare .Eq (.ref a) u) (EP X pins σ Q) X.xe s
  refine PySem.W.cmp_K (op := .Eq) hr.units0 hF I.ok.mod.kin J ht hn hs hf ?_
  have hl := F.len _ _ _ _ hsp
  have r2 : Vals [V.ref a, y] [Value.ref a, u] := .cons rfl (.cons ry .nil)
  have b := hb s [Value.ref a, u] I.kIn (by simpa using hl)
  rw [List.append_nil] at b
  refine wpAny_call (codeAny_mono (F.run X.A X.stack s H ⟨[.ref a, u], []⟩ [.ref a, u] [.ref a, y] _ E0 hr I.env0 b r2 hsp) fun r s' hq => ?_)
  cases r with
  | error e => exact noPass (X := X) (σ := σ) pins H s e s' I hq
  | ok fl =>
    cases fl with
    | ret w =>
      obtain ⟨z, H', I', rz, q⟩ := I.after hq
      exact SlX.cmpback rz ⟨z, H', I', rz, q⟩
    | next => exact False.elim hq
    | brk => exact False.elim hq
    | cont => exact False.elim hq
theorem op_neO (F : FnOk X.prog X.w X.K X.mg X.base (L2.CX X.prog X.w) k f fd ps sp) (hs : PySem.W.findIn X.K (.ref C) "__eq__" = some (some (.ref f))) (hf : PySem.W.isFn X.K (.ref f) = true) (hne : PySem.W.findIn X.K (.ref C) "__ne__" = some (some (.builtin "object.__ne__"))) (hm : PySem.W.mroIn X.K C (.type "object") = some true)
    (hr : Room (k + 1) X.A) (hb : Binds X.K fd ps []) : OpR X (compareOp .NotEq) (rNeO X.K C sp) := by
  intro pins s σ H x y v u Q I rx ry h
  obtain ⟨a, dx, fs, rfl, ha, hy, hsp⟩ := h
  cases rx
  obtain ⟨mA, J, _⟩ := ins_get I.hok ha
  obtain ⟨od, J, _⟩ := J.look
  obtain ⟨m, hF⟩ := I.fr
  obtain ⟨tb, ht, hn⟩ := oth_type I ry hy
  show wpAny (model X.prog X.w) X.A (richCompare .NotEq (.ref a) u) (EP X pins σ Q) X.xe s
  refine PDn.ne_K hr.units0 hr.in1.units0 hF I.ok.mod.kin J ht hn hs hf hne hm ?_
  have hl := F.len _ _ _ _ hsp
  have r2 : Vals [V.ref a, y] [Value.ref a, u] := .cons rfl (.cons ry .nil)
  have b := hb s [Value.ref a, u] I.kIn (by simpa using hl)
  rw [List.append_nil] at b
  refine wpAny_call (codeAny_mono (F.run X.A.in1 X.stack s H ⟨[.ref a, u], []⟩ [.ref a, u] [.ref a, y] _ E0 hr.in1 I.env0.in1 b r2 hsp) fun r s' hq => ?_)
  cases r with
  | error e => exact noPass (X := X) (σ := σ) pins H s e s' I hq
  | ok fl =>
    cases fl with
    | ret w =>
      obtain ⟨z, H', I', rz, n, rfl, q⟩ := I.after hq
      cases rz
      exact ⟨n, rfl, .bl (!n), H', I', rfl, q⟩
    | next => exact False.elim hq
    | brk => exact False.elim hq
    | cont => exact False.elim hq
def othOk (θ : Th) (v : MV) : Bool := match v with
  | .id n => match θ[n]? with
    | some (.ins _) => true
    | _ => false
  | .d (.tuple _) => true
  | _ => false
theorem oth_rel {S H : Hp} {α : Al} {θ : Th} {v : MV} {y : V} (T : RelT K C S H α θ) (r : MVr K S α y v) (h : othOk θ v = true) : OthR K C H y := by
  unfold othOk at h
  split at h
  · split at h
    · rename_i n x fs hn
      obtain ⟨a, ha, rfl⟩ := r
      obtain ⟨_, dx, ws, g1, _⟩ := T.ob n a _ ha hn
      exact .inl ⟨a, dx, ws, rfl, g1⟩
    · cases h
  · rename_i xs
    have r : DV K S y (.tuple xs) := r
    rw [DV] at r
    obtain ⟨a, us, rfl, h1, _⟩ := r
    exact .inr ⟨a, us, rfl, same_t T.sh h1.1⟩
  · cases h
def eqAt (F : List MV → Th → MRes MV) (u v : MV) (θ : Th) : MRes MV := match insAt θ u with
  | some (i, _) => if othOk θ v = true then (match F [.id i, v] θ with
    | .ok m θ' => .ok m θ'
    | _ => .bad) else .bad
  | none => .bad
def neAt (F : List MV → Th → MRes MV) (u v : MV) (θ : Th) : MRes MV := match insAt θ u with
  | some (i, _) => if othOk θ v = true then (match F [.id i, v] θ with
    | .ok (.d (.bool b)) θ' => .ok (.d (.bool (!b))) θ'
    | _ => .bad) else .bad
  | none => .bad
def mCmpO (at_ : MV → MV → Th → MRes MV) (fa fb : MEnv → Th → MRes MV) : MEnv → Th → MRes MV := fun ρ θ => (fa ρ θ).bind fun u θ1 => (fb ρ θ1).bind fun v θ2 => at_ u v θ2
theorem eq_sd {F : List MV → Th → MRes MV} {S H : Hp} {α : Al} {θ : Th} {u v : MV} {x y : V} {E1 : XK} {Q : VK} (T : RelT K C S H α θ) (r1 : MVr K S α x u) (r2 : MVr K S α y v) (h : PostM K mg C E1 S H α (MVr K) (eqAt F u v θ) Q) : rEqO K C (spM K mg C 2 F) x y H Q := by
  unfold eqAt at h
  split at h
  · rename_i i fs e1
    obtain ⟨rfl, e5⟩ := insAt_some e1
    split at h
    · rename_i ho
      split at h
      · rename_i m θ' eF
        obtain ⟨a, ha, rfl⟩ := id r1
        obtain ⟨hS, dx, ws, g1, g2⟩ := T.ob i a _ ha e5
        refine ⟨a, dx, ws, rfl, g1, oth_rel T r2 ho, S, α, θ, [.id i, v], T, ⟨r1, r2, trivial⟩, rfl, ?_⟩
        rw [eF]
        exact h
      · exact h.elim
    · exact h.elim
  · exact h.elim
theorem ne_sd {F : List MV → Th → MRes MV} {S H : Hp} {α : Al} {θ : Th} {u v : MV} {x y : V} {E1 : XK} {Q : VK} (T : RelT K C S H α θ) (r1 : MVr K S α x u) (r2 : MVr K S α y v) (h : PostM K mg C E1 S H α (MVr K) (neAt F u v θ) Q) : rNeO K C (spM K mg C 2 F) x y H Q := by
  unfold neAt at h
  split at h
  · rename_i i fs e1
    obtain ⟨rfl, e5⟩ := insAt_some e1
    split at h
    · rename_i ho
      split at h
      · rename_i b θ' eF
        obtain ⟨a, ha, rfl⟩ := id r1
        obtain ⟨hS, dx, ws, g1, g2⟩ := T.ob i a _ ha e5
        refine ⟨a, dx, ws, rfl, g1, oth_rel T r2 ho, S, α, θ, [.id i, v], T, ⟨r1, r2, trivial⟩, rfl, ?_⟩
        rw [eF]
        intro w S2 H2 α2 x2 T2 hw
        have hw : DV K S2 w (.bool b) := hw
        rw [DV] at hw
        exact ⟨b, hw, h (.bl (!b)) S2 H2 α2 x2 T2 (by show DV K S2 (.bl (!b)) (.bool (!b)); rw [DV])⟩
      · exact h.elim
    · exact h.elim
  · exact h.elim
theorem md_eqO {F : List MV → Th → MRes MV} (ha : MD K mg C X E a ta fa) (hb : MD K mg C X E b tb fb) (G : FnOk X.prog X.w X.K X.mg X.base (L2.CX X.prog X.w) k f fd ps (spM K mg C 2 F)) (hs : PySem.W.findIn X.K (.ref C) "__eq__" = some (some (.ref f))) (hf : PySem.W.isFn X.K (.ref f) = true) (hr : Room k X.A) (hbi : Binds X.K fd ps [])
    (hm : behindInMarks .Eq b = false := by first | exact nomark _ | rfl) (hK : X.K = K := by rfl) : MD K mg C X E (.Compare a [.Eq] [b] pos) (tOp (rEqO K C (spM K mg C 2 F)) ta tb) (mCmpO (eqAt F) fa fb) := by
  subst hK
  exact ⟨pe_cmpR (op_eqO G hs hf hr hbi) ha.pe hb.pe hm, fun S H α θ σ ρ Q T r h => by
    refine ha.sd S H α θ σ ρ _ T r (PostM.bind h fun u θ1 y S1 H1 α1 x1 T1 r1 h1 => ?_)
    refine hb.sd S1 H1 α1 θ1 σ ρ _ T1 (r.mono x1) (PostM.bind h1 fun v θ2 z S2 H2 α2 x2 T2 r2 h2 => ?_)
    exact eq_sd T2 (r1.mono x2.s x2.pre) r2 h2⟩
theorem md_neO {F : List MV → Th → MRes MV} (ha : MD K mg C X E a ta fa) (hb : MD K mg C X E b tb fb) (G : FnOk X.prog X.w X.K X.mg X.base (L2.CX X.prog X.w) k f fd ps (spM K mg C 2 F)) (hs : PySem.W.findIn X.K (.ref C) "__eq__" = some (some (.ref f))) (hf : PySem.W.isFn X.K (.ref f) = true) (hne : PySem.W.findIn X.K (.ref C) "__ne__" = some (some (.builtin "object.__ne__"))) (hmo : PySem.W.mroIn X.K C (.type "object") = some true) (hr : Room (k + 1) X.A) (hbi : Binds X.K fd ps [])
    (hm : behindInMarks .NotEq b = false := by first | exact nomark _ | rfl) (hK : X.K = K := by rfl) : MD K mg C X E (.Compare a [.NotEq] [b] pos) (tOp (rNeO K C (spM K mg C 2 F)) ta tb) (mCmpO (neAt F) fa fb) := by
  subst hK
  exact ⟨pe_cmpR (op_neO G hs hf hne hmo hr hbi) ha.pe hb.pe hm, fun S H α θ σ ρ Q T r h => by
    refine ha.sd S H α θ σ ρ _ T r (PostM.bind h fun u θ1 y S1 H1 α1 x1 T1 r1 h1 => ?_)
    refine hb.sd S1 H1 α1 θ1 σ ρ _ T1 (r.mono x1) (PostM.bind h1 fun v θ2 z S2 H2 α2 x2 T2 r2 h2 => ?_)
    exact ne_sd T2 (r1.mono x2.s x2.pre) r2 h2⟩
/-- as tests -/
theorem mt_eqO {F : List MV → Th → MRes MV} (ha : MD K mg C X E a ta fa) (hb : MD K mg C X E b tb fb) (G : FnOk X.prog X.w X.K X.mg X.base (L2.CX X.prog X.w) k f fd ps (spM K mg C 2 F)) (hs : PySem.W.findIn X.K (.ref C) "__eq__" = some (some (.ref f))) (hf : PySem.W.isFn X.K (.ref f) = true) (hr : Room k X.A) (hbi : Binds X.K fd ps [])
    (hm : behindInMarks .Eq b = false := by first | exact nomark _ | rfl) (hK : X.K = K := by rfl) : MT K mg C X E (.Compare a [.Eq] [b] pos) (tTest (tOp (rEqO K C (spM K mg C 2 F)) ta tb)) (mTest (mCmpO (eqAt F) fa fb)) := by
  subst hK
  exact ⟨pt_cmpR (op_eqO G hs hf hr hbi) ha.pe hb.pe hm, fun S H α θ σ ρ Q T r h => mtest_sd (md_eqO (pos := pos) ha hb G hs hf hr hbi hm) S H α θ σ ρ Q T r h⟩
theorem mt_neO {F : List MV → Th → MRes MV} (ha : MD K mg C X E a ta fa) (hb : MD K mg C X E b tb fb) (G : FnOk X.prog X.w X.K X.mg X.base (L2.CX X.prog X.w) k f fd ps (spM K mg C 2 F)) (hs : PySem.W.findIn X.K (.ref C) "__eq__" = some (some (.ref f))) (hf : PySem.W.isFn X.K (.ref f) = true) (hne : PySem.W.findIn X.K (.ref C) "__ne__" = some (some (.builtin "object.__ne__"))) (hmo : PySem.W.mroIn X.K C (.type "object") = some true) (hr : Room (k + 1) X.A) (hbi : Binds X.K fd ps [])
    (hm : behindInMarks .NotEq b = false := by first | exact nomark _ | rfl) (hK : X.K = K := by rfl) : MT K mg C X E (.Compare a [.NotEq] [b] pos) (tTest (tOp (rNeO K C (spM K mg C 2 F)) ta tb)) (mTest (mCmpO (neAt F) fa fb)) := by
  subst hK
  exact ⟨pt_cmpR (op_neO G hs hf hne hmo hr hbi) ha.pe hb.pe hm, fun S H α θ σ ρ Q T r h => mtest_sd (md_neO (pos := pos) ha hb G hs hf hne hmo hr hbi hm) S H α θ σ ρ Q T r h⟩
end
end PD
namespace PD
open PySem L2
section
variable {K : PySem.W.Frag} {mg : Str → Option Value} {C : Addr} {X : Cx} {E : L2.St → XK} {e o a b : Expr} {te ta tb : TE} {fe fa fb : MEnv → Th → MRes MV} {pos p p1 p2 : Pos} {x : Str}
/-! ### isinstance(x, C), C the own class -/
def isiV (u : MV) (θ : Th) : MRes MV := match u with
  | .id n => match θ[n]? with
    | some (.ins _) => .ok (.d (.bool true)) θ
    | _ => .bad
  | .d (.tuple _) => .ok (.d (.bool false)) θ
  | _ => .bad
def mIsiC (fe : MEnv → Th → MRes MV) : MEnv → Th → MRes MV := fun ρ θ => (fe ρ θ).bind isiV
theorem md_isiC (he : MD K mg C X E e te fe) (ic : C8.InsC X.K C) (tp : PySem.W.kitOne X.K (.type "tuple") (.ref C) = some false) (hg : Gl X "isinstance") (hm : X.mg "isinstance" = none) (hgC : Gl X x) (hmC : X.mg x = some (.ref C))
    (hd : (x == ("__debug__" : Str)) = false := by decide) (hv : bootBuiltins "isinstance" = some (.builtin "isinstance") := by first | rfl | decide +kernel)
    (h1 : starEach [e, .Name x p1] X.env = (false, eval e X.env) :: starEach [.Name x p1] X.env := by rfl) (h2 : starEach [.Name x p1] X.env = (false, eval (.Name x p1) X.env) :: starEach [] X.env := by rfl) (hpl : (backTo pos (starEach [.Name x p1] X.env)).any (·.1) = false := by rfl) (hK : X.K = K := by rfl) :
    MD K mg C X E (.Call (.Name "isinstance" p2) [e, .Name x p1] [] pos) (tCB (rIsiY K) (tCons te (tCons (tC (.ref C)) tNil))) (mIsiC fe) := by
  subst hK
  refine ⟨pe_callB call_isiY hg hm hv (pa_cons he.pe (pa_cons (pe_glob hgC hmC rfl hd) pa_nil h2) h1) (by decide) (by decide) h1 hpl, fun S H α θ σ ρ Q T r h => ?_⟩
  refine he.sd S H α θ σ ρ _ T r (PostM.bind h fun u θ1 y S1 H1 α1 x1 T1 r1 h1 => ?_)
  unfold isiV at h1
  split at h1
  · split at h1
    · rename_i n z fs hn
      obtain ⟨a, ha, rfl⟩ := id r1
      obtain ⟨hS, dx, ws, g1, g2⟩ := T1.ob n a _ ha hn
      exact ⟨.ref a, .ref C, .ref C, .ref C, true, rfl, .own C, .inl (.base (.ins g1 ic.cl ic.ha ic.hn ic.htk ic.hm)), ic.me, PostM.ok0 h1 T1 (show DV X.K S1 (.bl true) (.bool true) by rw [DV])⟩
    · exact h1.elim
  · rename_i xs
    exact ⟨y, .ref C, .type "tuple", .ref C, false, rfl, .own C, tyX_of T1.sh (d := .tuple xs) r1, tp, PostM.ok0 h1 T1 (show DV X.K S1 (.bl false) (.bool false) by rw [DV])⟩
  · exact h1.elim
theorem kit_self (K : PySem.W.Frag) (C : Addr) : PySem.W.kitOne K (.ref C) (.ref C) = some true := if_pos (by simp)
theorem kit_tup {K : PySem.W.Frag} {C : Addr} (hd : PySem.W.hasDictIn K C = true) (ht : PySem.W.typeIn K (.ref C) = some (.type "type")) : PySem.W.kitOne K (.type "tuple") (.ref C) = some false := by
  obtain ⟨cd, hc, _⟩ := PySem.W.any_some hd
  unfold PySem.W.kitOne
  rw [if_neg (by simp)]
  unfold PySem.W.kitCls
  dsimp only
  rw [hc, ht, if_pos (by simp)]
  exact sub_tup K C
/-! ### a list that nobody changes any more: data -/
theorem RelT.frz {S H : Hp} {α : Al} {θ : Th} {n : Nat} {a : Addr} {xs : List D} {vs : List V} (T : RelT K C S H α θ) (ha : α[n]? = some a) (hS : S a = none) (hH : H a = some (.lst vs)) (dv : DVs K S vs xs) :
    RelT K C (upd S a (.lst vs)) H α (θ.set n .gone) ∧ ExtM S H α (upd S a (.lst vs)) H α ∧ DV K (upd S a (.lst vs)) (.ref a) (.list xs) := by
  have sm : Same S (upd S a (.lst vs)) := same_upd hS
  have hl := (List.getElem?_eq_some_iff.mp ha).1
  refine ⟨⟨fun y o hy => ?_, by rw [List.length_set]; exact T.len, T.nd, fun m c o h1 h2 => ?_⟩, ⟨sm, fun _ _ h => h, fun m c h hl => ?_, fun y _ hn => ?_, fun _ _ h _ => h, fun _ h => h⟩, ?_⟩
  · by_cases hy' : y = a
    · subst hy'
      rw [upd_same] at hy
      rw [← hy]
      exact hH
    · rw [upd_ne hy'] at hy
      exact T.sh y o hy
  · rcases set_at h2 with ⟨rfl, hi, e⟩ | ⟨hj, e⟩
    · cases e
      exact ⟨_, by rw [h1] at ha; cases ha; exact hH⟩
    · have hca : c ≠ a := fun z => by
        subst z
        obtain ⟨l1, e1⟩ := List.getElem?_eq_some_iff.mp ha
        obtain ⟨l2, e2⟩ := List.getElem?_eq_some_iff.mp h1
        exact hj ((List.getElem_inj T.nd).mp (e1.trans e2.symm))
      have h := T.ob m c o h1 e
      cases o with
      | lst ys => obtain ⟨k1, k2, k3, k4⟩ := h; exact ⟨by rw [upd_ne hca]; exact k1, k2, k3, k4.mono sm⟩
      | ins fs => obtain ⟨k1, k2, k3, k4, k5⟩ := h; exact ⟨by rw [upd_ne hca]; exact k1, k2, k3, k4, k5.mono sm fun _ _ z => z⟩
      | gone => exact h
  · have := (List.getElem?_eq_some_iff.mp h).1
    omega
  · exact upd_ne fun z => hn (z ▸ List.mem_of_getElem? ha)
  · rw [DV]
    exact ⟨a, vs, rfl, ls_of upd_same, dv.mono sm⟩
def frzAt (u : MV) (θ : Th) : MRes MV := match lstAt θ u with
  | some (n, xs) => .ok (.d (.list xs)) (θ.set n .gone)
  | none => .bad
def mFrz (fe : MEnv → Th → MRes MV) : MEnv → Th → MRes MV := fun ρ θ => (fe ρ θ).bind frzAt
theorem frz_sd {S H : Hp} {α : Al} {θ : Th} {u : MV} {v : V} {E1 : XK} {Q : VK} (T : RelT K C S H α θ) (r : MVr K S α v u) (h : PostM K mg C E1 S H α (MVr K) (frzAt u θ) Q) : Q v H := by
  unfold frzAt at h
  split at h
  · rename_i n xs e1
    obtain ⟨rfl, e2⟩ := lstAt_some e1
    obtain ⟨a, ha, rfl⟩ := r
    obtain ⟨hS, vs, g1, g2⟩ := T.ob n a _ ha e2
    obtain ⟨T', x', d'⟩ := T.frz ha hS g1 g2
    exact h _ _ _ _ x' T' d'
  · exact h.elim
theorem md_frz (he : MD K mg C X E e te fe) : MD K mg C X E e te (mFrz fe) := ⟨he.pe, fun S H α θ σ ρ Q T r h => he.sd S H α θ σ ρ _ T r (PostM.bind h fun u θ1 y S1 H1 α1 x1 T1 r1 h1 => frz_sd T1 r1 h1)⟩
/-! ### list(x), x a list of the store -/
def copyAt (u : MV) (θ : Th) : MRes MV := match lstAt θ u with
  | some (_, xs) => .ok (.id θ.length) (θ ++ [.lst xs])
  | none => .bad
def mCopy (fe : MEnv → Th → MRes MV) : MEnv → Th → MRes MV := fun ρ θ => (fe ρ θ).bind copyAt
theorem md_copy (he : MD K mg C X E e te fe) (hg : Gl X "list") (hm : X.mg "list" = none) (hv : bootBuiltins "list" = some (.type "list") := by first | rfl | decide +kernel) (h1 : starEach [e] X.env = (false, eval e X.env) :: starEach [] X.env := by rfl) (hK : X.K = K := by rfl) :
    MD K mg C X E (.Call (.Name "list" p) [e] [] pos) (tCB (rListOf K) (tCons te tNil)) (mCopy fe) := by
  subst hK
  refine ⟨pe_callTy (c_list) hg hm hv (pa_cons he.pe pa_nil h1) (by decide) (by decide) h1 rfl, fun S H α θ σ ρ Q T r h => ?_⟩
  refine he.sd S H α θ σ ρ _ T r (PostM.bind h fun u θ1 y S1 H1 α1 x1 T1 r1 h1 => ?_)
  unfold copyAt at h1
  split at h1
  · rename_i n xs e1
    obtain ⟨rfl, e2⟩ := lstAt_some e1
    obtain ⟨a, ha, rfl⟩ := r1
    obtain ⟨hS, vs, g1, g2⟩ := T1.ob n a _ ha e2
    exact ⟨a, vs, rfl, .inl (ls_sq (ls_of g1)), fun l hl => new_id T1 hl g2 h1⟩
  · exact h1.elim
/-! ### x.f, y.g, .. = a, b, .. -/
def gFld (K : PySem.W.Frag) (ta : TE) (f : Str) : TG := fun v σ H Q => ta σ H fun x H2 => ∃ a C dx fs, x = .ref a ∧ H2 a = some (.ins C dx fs) ∧ Cls K C ∧ NoAttr K C f ∧ fs.length < 1000 ∧ Q σ (upd H2 a (.ins C dx (putF f v fs)))
theorem pg_fld {f : Str} (ho : PE X o ta) : PG X (.Attribute o f pos) (gFld X.K ta f) := by
  refine ⟨fun pins s σ H v u Q I r h => ?_⟩
  rw [assign_Attribute]
  refine wpAny_bind (wpAny_holding (thn (ho.run pins s σ H _ I h) fun ov s1 ⟨x, H1, I1, r1, a, C, dx, fs, ex, ea, c, n, l, q⟩ => ?_))
  subst ex
  obtain rfl : ov = Value.ref a := r1
  refine wpAny_bind (wpAny_standAt (wpAny_bind (wpAny_holding ?_)))
  exact setattr_ok I1 ea c n l r fun s3 I3 => wpAny_release ⟨σ, _, I3, q⟩
def putsM (i : Nat) : List Str → List MV → List (Str × MV) → List (Str × MV)
  | f :: fs, m :: ms, l => putsM i fs ms (putM f m l)
  | _, _, l => l
/-- the targets: attributes of one name -/
inductive GF (K : PySem.W.Frag) (C : Addr) (X : Cx) (i : Nat) : List Expr → TGs → List Str → Prop where
  | nil : GF K C X i [] gNil []
  | cons {x f : Str} {pos p : Pos} {ts : List Expr} {gg : TGs} {fs : List Str} (hv : PE X (.Name x p) (tVar i)) (n : NoAttr K C f) (r : GF K C X i ts gg fs) (hs : (assignEach (.Attribute (.Name x p) f pos :: ts) X.env).map (·.2) = assign (.Attribute (.Name x p) f pos) X.env :: (assignEach ts X.env).map (·.2)) : GF K C X i (.Attribute (.Name x p) f pos :: ts) (gCons (gFld K (tVar i) f) gg) (f :: fs)
theorem GF.pg {i : Nat} {ts : List Expr} {gg : TGs} {fs : List Str} (hK : X.K = K) (h : GF K C X i ts gg fs) : PGs X ts gg := by
  subst hK
  induction h with
  | nil => exact pgs_nil
  | cons hv n r hs ih => exact pgs_cons (pg_fld hv) ih hs
theorem GF.sd {i n : Nat} {ts : List Expr} {gg : TGs} {fs : List Str} (c : Cls K C) (h : GF K C X i ts gg fs) : ∀ {S H : Hp} {α : Al} {θ : Th} {σ : L2.St} {ρ : MEnv} {l : List (Str × MV)} {vs : List V} {ms : List MV} {N : L2.St → Hp → Prop}, RelT K C S H α θ → EnvR K S α σ ρ → ρ[i]? = some (some (.id n)) → θ[n]? = some (.ins l) → MVs K S α vs ms → ms.length = fs.length → l.length + fs.length ≤ 100 →
    (∀ H' , RelT K C S H' α (θ.set n (.ins (putsM i fs ms l))) → ExtM S H α S H' α → N σ H') → gg vs σ H N := by
  induction h with
  | nil =>
    intro S H α θ σ ρ l vs ms N T r hi hn hm hl hz hq
    match ms, hl with
    | [], _ =>
      match vs, hm with
      | [], _ =>
        refine ⟨rfl, hq H ?_ (ExtM.refl _ _ _)⟩
        have e : θ.set n (.ins (putsM i [] [] l)) = θ := by
          show θ.set n (.ins l) = θ
          refine List.ext_getElem? fun m => ?_
          by_cases hm : n = m
          · subst hm
            rw [List.getElem?_set_self (List.getElem?_eq_some_iff.mp hn).1, hn]
          · rw [List.getElem?_set_ne hm]
        rw [e]
        exact T
  | @cons x f pos p ts gg fs hv na rr hs ih =>
    intro S H α θ σ ρ l vs ms N T r hi hn hm hl hz hq
    match ms, hl with
    | m :: ms, hl =>
      match vs, hm with
      | v :: vs, hm =>
        obtain ⟨w, hw, a, ha, rfl⟩ := r.dt i _ hi
        obtain ⟨hS, dx, ws, g1, g2⟩ := T.ob n a _ ha hn
        have hfl : (putM f m l).length ≤ l.length + 1 := by
          clear hn hz g2 hq
          induction l with
          | nil => exact Nat.le_refl _
          | cons q l ih2 =>
            obtain ⟨q1, q2⟩ := q
            unfold putM
            split
            · simp
            · simp only [List.length_cons]
              omega
        rw [List.length_cons] at hz
        refine ⟨v, vs, rfl, .ref a, hw, a, C, dx, ws, rfl, g1, c, na, by rw [g2.length]; omega, ?_⟩
        have T1 := T.mut ha hS (o := .ins (putM f m l)) (u := .ins C dx (putF f v ws)) ⟨hS, dx, _, upd_same, g2.put hm.1⟩
        have x1 : ExtM S H α S (upd H a (.ins C dx (putF f v ws))) α := ExtM.mut (List.mem_of_getElem? ha)
        refine ih T1 (r.mono x1) hi (List.getElem?_set_self (List.getElem?_eq_some_iff.mp hn).1) hm.2 (by simpa using hl) (by omega) fun H' T2 x2 => hq H' ?_ (x1.trans x2)
        rw [List.set_set] at T2
        exact T2
def mPutF (i : Nat) (g : MEnv → Th → MRes (List MV)) (fs : List Str) : MEnv → Th → MSR := fun ρ θ => ofM (g ρ θ) ρ fun ms θ1 => match ρ[i]? with
  | some (some u) => match insAt θ1 u with
    | some (n, l) => if ms.length = fs.length ∧ l.length + fs.length ≤ 100 then .next ρ (θ1.set n (.ins (putsM i fs ms l))) else .bad
    | none => .bad
  | _ => .bad
theorem ms_putF {ts es : List Expr} {gg : TGs} {fs : List Str} {i : Nat} {pt pt2 : Pos} {kt k2 n : Nat} {tl : TA} {g : MEnv → Th → MRes (List MV)} (hc : X.calm = true) (hz : MA K mg C X E es tl g) (cl : Cls K C) (hg : GF K C X i ts gg fs) (hn : (assignEach ts X.env).length = n := by rfl) (hst : (assignEach ts X.env).findIdx? (·.1) = none := by rfl) (hl : fs.length = n := by rfl) (hz2 : fs.length ≤ 100 := by decide)
    (hs : swapsWithSole [.Tuple ts kt pt] (.Tuple es k2 pt2) pos.line X.env = pure false := by rfl) (hw : swappedStores [.Tuple ts kt pt] (.Tuple es k2 pt2) X.env = pure none := by rfl) (h1 : (assignEach [.Tuple ts kt pt] X.env).map (·.2) = [assign (.Tuple ts kt pt) X.env] := by rfl) (hK : X.K = K := by rfl) :
    MS K mg C X E (.Assign [.Tuple ts kt pt] (.Tuple es k2 pt2) pos) (tAsg (tTup tl) (gTup K n gg)) (mPutF i g fs) := by
  subst hK
  refine ⟨ps_asg (pe_tup hz.pe) (pg_tup hc (hg.pg rfl) hn hst) hs hw h1, fun S H α θ σ ρ N T r h => ?_⟩
  refine hz.sd S H α θ σ ρ _ T r (postm_of r h fun ms θ1 vs S' H' α' _ x T' q h => ?_)
  split at h
  · rename_i u hu
    split at h
    · rename_i m l e1
      obtain ⟨rfl, e5⟩ := insAt_some e1
      split at h
      · rename_i hh
        have lv : vs.length = fs.length := q.length.trans hh.1
        refine ⟨by rw [lv, sizeLine_eq]; omega, fun p hp => ?_⟩
        have sm : Same H' (upd H' p (.tup vs)) := same_upd hp
        refine ⟨p, vs, rfl, SqT.of upd_same, by rw [lv, hl], ?_⟩
        refine hg.sd cl (T'.grow sm) ((r.mono x).mono (ExtM.grow sm)) hu e5 (q.mono (ExtM.grow (S := S') (α := α') sm).s (ExtM.grow (S := S') (α := α') sm).pre) hh.1 hh.2 fun H2 T2 x2 => ?_
        exact h S' H2 α' σ ((ExtM.grow sm).trans x2) T2 ((r.mono x).mono ((ExtM.grow sm).trans x2))
      · exact h.elim
    · exact h.elim
  · exact h.elim
theorem vm_k (θ : Th) (r : Option MV) (ρ : MEnv) : viewM θ (r :: ρ) = viewS θ r :: viewM θ ρ := rfl
theorem vw_raw (θ : Th) (v : V) : viewS θ (some (.raw v)) = .raw v := rfl
end
end PD
namespace PD
open PySem L2
/-! ### new lists, handed on as objects -/
def mNewP (f : DEnv → Res D) : MEnv → Th → MRes MV := fun ρ θ => match f (eraseM ρ) with
  | .ok (.list xs) => .ok (.id θ.length) (θ ++ [.lst xs])
  | _ => .bad
section
variable {K : PySem.W.Frag} {mg : Str → Option Value} {C : Addr} {X : Cx} {E : L2.St → XK} {E1 : XK}
theorem mNewP_ok {S H : Hp} {α : Al} {θ : Th} {ρ : MEnv} {E2 : XK} {f : DEnv → Res D} {Q : VK} (h : PostM K mg C E2 S H α (MVr K) (mNewP f ρ θ) Q) : ∃ xs, f (eraseM ρ) = .ok (.list xs) ∧ PostM K mg C E2 S H α (MVr K) (.ok (.id θ.length) (θ ++ [.lst xs])) Q := by
  unfold mNewP at h
  split at h
  · rename_i xs e
    exact ⟨xs, e, h⟩
  · exact h.elim
theorem RelT.lc {S1 H1 S2 H2 : Hp} {α : Al} {θ : Th} {D0 : Addr} {acc : List V} {ys : List D} (T : RelT K C S1 H1 α θ) (l : LcAt K S1 H1 D0 acc ys S2 H2) (hD : H1 D0 = none) : RelT K C S2 H2 (α ++ [D0]) (θ ++ [.lst ys]) ∧ ExtM S1 H1 α S2 H2 (α ++ [D0]) := by
  have T2 : RelT K C S2 H2 α θ := T.ext ⟨l.s, l.h, l.sh, l.old⟩
  have hn : D0 ∉ α := fun z => T.live z hD
  refine ⟨⟨l.sh, by rw [List.length_append, List.length_append, T.len]; rfl, List.nodup_append.mpr ⟨T.nd, by simp, fun a ha b hb => by rw [List.mem_singleton.mp hb]; exact fun z => hn (z ▸ ha)⟩, fun n a o h1 h2 => ?_⟩, ⟨l.s, fun n a h => by rw [List.getElem?_append_left (List.getElem?_eq_some_iff.mp h).1]; exact h, fun n a h hl => ?_, fun x hx _ => l.old x hx, fun x o hx _ => l.h x o hx, fun x hx => ?_⟩⟩
  · rcases get_app h1 with ⟨hl, e1⟩ | ⟨hl, e1⟩
    · rcases get_app h2 with ⟨hl2, e2⟩ | ⟨hl2, e2⟩
      · have h := T2.ob n a o e1 e2
        cases o with
        | lst xs => exact h
        | ins fs => obtain ⟨k1, k2, k3, k4, k5⟩ := h; exact ⟨k1, k2, k3, k4, k5.mono (Same.refl _) fun m b hb => by rw [List.getElem?_append_left (List.getElem?_eq_some_iff.mp hb).1]; exact hb⟩
        | gone => exact h
      · have := T.len
        omega
    · rcases get_app h2 with ⟨hl2, e2⟩ | ⟨hl2, e2⟩
      · have := T.len
        omega
      · subst e1
        subst e2
        exact ⟨l.sD, acc, l.hD, l.dv⟩
  · rcases get_app h with ⟨hl2, e1⟩ | ⟨hl2, e1⟩
    · omega
    · subst e1
      exact hD
  · cases e : H1 x with
    | none => exact absurd e hx
    | some o => rw [l.h x o e]; exact (fun z => nomatch z)
section
variable {elt tg iter : Expr} {ifs : List Expr} {scope : Scope} {own : List (Str × Nat)} {pos : Pos} {wi : TI} {g : TG} {tt : TT} {te : TE} {src : DEnv → Res (List D)} {is : List Nat} {h : D → Option (List D)} {ft : DEnv → Res Bool} {fe : DEnv → Res D}
theorem lc_new {X' : Cx} {S H : Hp} {σ : L2.St} {ρ : DEnv} {ds ys : List D} (hsrc : ∀ R : It → Hp → Prop, PostG mg E1 S H (fun S J ds => Walks K S J ds) (src ρ) R → wi σ H R) (hg : GD K X' tg g is h) (ht : TDs K mg X' E0 ifs tt ft) (he : PD K mg X' E0 elt te fe) {vs : List Nat} (his : ∀ i ∈ is, i ∈ vs)
    (Q : VK) (rl : RelE K S H σ ρ) (es : src ρ = .ok ds) (hgo : lcGo (lcStep ρ vs is h ft fe) ds = .ok ys) (hlen : lenOk (ys.length + 1) = true)
    (hq : ∀ S1 H1 S2 H2 D0 acc, Ext S H S1 H1 → H1 D0 = none → LcAt K S1 H1 D0 acc ys S2 H2 → Q (.ref D0) H2) : tLc wi g tt te vs σ H Q := by
  refine hsrc _ ?_
  rw [es]
  intro J S1 H1 x1 wk
  intro D0 hD
  refine ⟨fun i m H => i + m = ds.length ∧ ∃ S acc r, LcAt K S1 H1 D0 acc r S H ∧ lcGo (lcStep ρ vs is h ft fe) (ds.take i) = .ok r, ⟨ds.length, by omega, S1, [], [], LcAt.start x1.sh hD, rfl⟩, ?_⟩
  rintro i m H2 ⟨him, S2, acc, r, la, hr⟩
  have wk2 := wk S2 H2 la.s la.sh
  by_cases hi : i < ds.length
  · obtain ⟨go, yl⟩ := wk2.1 i ds[i] (List.getElem?_eq_getElem hi)
    obtain ⟨r', g1, g2⟩ := lcGo_part i hgo
    obtain ⟨o, g3, g4⟩ := g2 ds[i] (List.getElem?_eq_getElem hi)
    rw [hr] at g1
    cases g1
    have hrl : (r ++ o).length ≤ ys.length := lcGo_le hgo (i + 1) g4
    have hz := lenOk.le hlen
    obtain ⟨xs, b, k1, k2, k3⟩ := lcStep_ok g3
    refine .inr ⟨go, fun H' => ∃ S acc, LcAt K S1 H1 D0 acc (r ++ o) S H', fun H' ⟨S', acc', l'⟩ => ⟨m - 1, by omega, by omega, S', acc', _, l', g4⟩, fun x H3 hy => ?_⟩
    obtain ⟨S3, x3, dx⟩ := yl x H3 hy
    have l3 := la.ext x3
    refine hg.sd S3 H3 x _ ds[i] xs _ x3.sh dx k1 fun us hus => ?_
    refine ⟨by rw [wipe_setAll is us his, wipe_wipe vs vs fun _ z => z], ?_⟩
    have x13 : Ext S H S3 H3 := by
      refine x1.trans ⟨l3.s, l3.h, l3.sh, l3.old⟩
    have rl3 : RelE K S3 H3 (PD.setAll (L2.wipe σ vs) is us) (setD (wipeD ρ vs) is xs) := ((rl.mono x13).wipe vs).setAll is us xs hus
    refine ht.sd S3 H3 _ (setD (wipeD ρ vs) is xs) _ rl3 ?_
    rw [k2]
    intro b' S4 H4 x4 eb
    cases eb
    have l4 := l3.ext x4
    rcases k3 with ⟨rfl, rfl⟩ | ⟨rfl, y, ey, rfl⟩
    · refine iteF ?_
      exact ⟨S4, acc, by rw [List.append_nil]; exact l4⟩
    · refine iteT ?_
      refine he.sd S4 H4 _ (setD (wipeD ρ vs) is xs) _ (rl3.mono x4) ?_
      rw [ey]
      intro v S5 H5 x5 dv
      have l5 := l4.ext x5
      refine ⟨acc, l5.hD, ?_, S5, acc ++ [v], l5.push hD dv⟩
      rw [la.dv.length]
      rw [List.length_append] at hrl
      have : ([y] : List D).length = 1 := rfl
      omega
  · have ei : ds.take i = ds := List.take_of_length_le (by omega)
    have e2 : i = ds.length := by omega
    subst e2
    rw [ei, hgo] at hr
    cases hr
    exact .inl ⟨wk2.2, hq S1 H1 S2 H2 D0 acc x1 hD la⟩
theorem lc_parts {own : List Nat} {ρ : DEnv} {xs : List D} (e : fLc src own is h ft fe ρ = .ok (.list xs)) : ∃ ds, src ρ = .ok ds ∧ lcGo (lcStep ρ own is h ft fe) ds = .ok xs ∧ lenOk (xs.length + 1) = true := by
  unfold fLc at e
  cases e1 : src ρ with
  | ok ds =>
    rw [e1] at e
    have e : lcEnd (lcGo (lcStep ρ own is h ft fe) ds) = .ok (.list xs) := e
    unfold lcEnd at e
    cases e2 : lcGo (lcStep ρ own is h ft fe) ds with
    | ok ys =>
      rw [e2] at e
      have e : (if lenOk (ys.length + 1) = true then Res.ok (PyData.list ys) else .bad) = .ok (.list xs) := e
      split at e
      · rename_i hz
        cases e
        exact ⟨ds, rfl, e2, hz⟩
      · cases e
    | err c => rw [e2] at e; cases e
    | bad => rw [e2] at e; cases e
  | err c => rw [e1] at e; cases e
  | bad => rw [e1] at e; cases e
theorem md_lcN {vs : List Nat} (hc : X.calm = true) (hN : X.N.Nodup) (hi : ID K mg X E1 tg iter wi src) (ok : BlkOk X.N X.env.scope scope own)
    (hg : ∀ (s : Shared) (H : Hp) (C : Addr) (cl : List (Str × Addr)) (fp : List Addr), GD K (Blk X scope s H C cl fp) tg g is h) (ht : ∀ (s : Shared) (H : Hp) (C : Addr) (cl : List (Str × Addr)) (fp : List Addr), TDs K mg (Blk X scope s H C cl fp) E0 ifs tt ft)
    (he : ∀ (s : Shared) (H : Hp) (C : Addr) (cl : List (Str × Addr)) (fp : List Addr), PD K mg (Blk X scope s H C cl fp) E0 elt te fe) (hvs : own.map (·.2) = vs := by rfl) (his : ∀ i ∈ is, i ∈ vs := by decide) (hs : ∀ x, foldedSetIterable iter X.env x = pure x := by intro _; rfl) :
    MD K mg C X E (.ListComp elt [⟨tg, iter, ifs, 0⟩] scope pos) (tLc wi g tt te vs) (mNewP (fLc src vs is h ft fe)) :=
  ⟨hvs ▸ pe_lc hc hN hi.pi ok (fun s H C cl fp => (hg s H C cl fp).pg) (fun s H C cl fp => (ht s H C cl fp).pe) (fun s H C cl fp => (he s H C cl fp).pe) hs,
   fun S H α θ σ ρ Q T r hp => by
    obtain ⟨xs, e1, hp⟩ := mNewP_ok hp
    obtain ⟨ds, k1, k2, k3⟩ := lc_parts e1
    refine lc_new (X' := Blk X scope X.s_0 X.H_0 0 [] []) (fun R q => hi.sd S H σ (eraseM ρ) R (r.pure T) q) (hg _ _ _ _ _) (ht _ _ _ _ _) (he _ _ _ _ _) his Q (r.pure T) k1 k2 k3 fun S1 H1 S2 H2 D0 acc x1 hD la => ?_
    obtain ⟨T2, x2⟩ := (T.ext x1).lc la hD
    refine hp _ S2 H2 (α ++ [D0]) ((ExtM.of x1).trans x2) T2 ⟨D0, ?_, rfl⟩
    rw [← T.len, List.getElem?_append_right (Nat.le_refl _), Nat.sub_self]
    rfl⟩
end
variable {e o : Expr} {es : List Expr} {te ta : TE} {fe fa : MEnv → Th → MRes MV} {f : DEnv → Res D} {pos p p1 p2 : Pos} {t : TA} {g : MEnv → Th → MRes (List MV)}
/-- x = [..], the comprehension's own store -/
theorem ms_setLc {i : Nat} {vs : List Nat} {y : Str} {py : Pos} {elt tg iter : Expr} {ifs : List Expr} {scope : Scope} {own : List (Str × Nat)} {spos pos : Pos} {wi : TI} {g : TG} {tt : TT} {te : TE} {src : DEnv → Res (List D)} {is : List Nat} {h : D → Option (List D)} {ft : DEnv → Res Bool} {fe : DEnv → Res D} (hc : X.calm = true) (hN : X.N.Nodup) (hy : X.N[i]? = some y) (hyl : X.env.scope.names.lookup y = some .local)
    (hsw : swapsWith (.ListComp elt [⟨tg, iter, ifs, 0⟩] scope pos) (some (.Name y py)) spos.line X.env = pure true) (hi : ID K mg X E1 tg iter wi src) (ok : BlkOk X.N X.env.scope scope own)
    (hg : ∀ (s : Shared) (H : Hp) (C : Addr) (cl : List (Str × Addr)) (fp : List Addr), GD K (Blk X scope s H C cl fp) tg g is h) (ht : ∀ (s : Shared) (H : Hp) (C : Addr) (cl : List (Str × Addr)) (fp : List Addr), TDs K mg (Blk X scope s H C cl fp) E0 ifs tt ft)
    (he : ∀ (s : Shared) (H : Hp) (C : Addr) (cl : List (Str × Addr)) (fp : List Addr), PD K mg (Blk X scope s H C cl fp) E0 elt te fe) (hvs : own.map (·.2) = vs := by rfl) (his : ∀ i ∈ is, i ∈ vs := by decide) (hs : ∀ x, foldedSetIterable iter X.env x = pure x := by intro _; rfl) :
    MS K mg C X (fun _ => E1) (.Assign [.Name y py] (.ListComp elt [⟨tg, iter, ifs, 0⟩] scope pos) spos) (tAsg (tLc wi g tt te vs) (gName i)) (mSet (mPure (fLc src vs is h ft fe)) i) :=
  ⟨hvs ▸ ps_setLc hc hN hy hyl hsw hi.pi ok (fun s H C cl fp => (hg s H C cl fp).pg) (fun s H C cl fp => (ht s H C cl fp).pe) (fun s H C cl fp => (he s H C cl fp).pe) hs, fun S H α θ σ ρ N T r h =>
    (md_pure (C := C) (pd_lc (pos := pos) hc hN hi ok hg ht he hvs his hs)).sd S H α θ σ ρ _ T r (postm_of (E := fun _ => E1) r h fun a θ1 w S' H' α' _ x T' q h => h S' H' α' _ (ExtM.refl _ _ _) T' ((r.mono x).set q))⟩
/-- list(x) of data, a new object -/
theorem md_listN (he : PD K mg X E1 e te f) (hg : Gl X "list") (hm : X.mg "list" = none) (hv : bootBuiltins "list" = some (.type "list") := by first | exact bt_list | decide +kernel) (h1 : starEach [e] X.env = (false, eval e X.env) :: starEach [] X.env := by rfl) (hK : X.K = K := by rfl) :
    MD K mg C X E (.Call (.Name "list" p) [e] [] pos) (tCB (rListOf K) (tCons te tNil)) (mNewP (fB gListOf (fCons f fNil))) := by
  subst hK
  refine ⟨pe_callTy (c_list) hg hm hv (pa_cons he.pe pa_nil h1) (by decide) (by decide) h1 rfl, fun S H α θ σ ρ Q T r hp => ?_⟩
  obtain ⟨xs, e1, hp⟩ := mNewP_ok hp
  rw [x_b, x_cons] at e1
  cases e2 : f (eraseM ρ) with
  | err c => rw [e2] at e1; cases e1
  | bad => rw [e2] at e1; cases e1
  | ok d =>
    rw [e2] at e1
    have e1 : gListOf [d] = .ok (.list xs) := e1
    refine he.sd S H σ (eraseM ρ) _ (r.pure T) ?_
    rw [e2]
    intro w S1 H1 x1 dw
    have T1 := T.ext x1
    have h2 : PostM X.K mg C (E σ) S1 H1 α (MVr X.K) (.ok (.id θ.length) (θ ++ [.lst xs])) Q := PostM.mono (ExtM.of x1) hp
    unfold gListOf at e1
    split at e1
    · rename_i ys hy
      cases hy
      cases e1
      rw [DV] at dw
      obtain ⟨a, us, rfl, g1, g2⟩ := dw
      exact ⟨a, us, rfl, .inl (ls_sq (ls_mono x1.sh g1)), fun l hl => new_id T1 hl g2 h2⟩
    · rename_i ys hy
      cases hy
      cases e1
      rw [DV] at dw
      obtain ⟨a, us, rfl, g1, g2⟩ := dw
      exact ⟨a, us, rfl, .inr (same_t x1.sh g1.1), fun l hl => new_id T1 hl g2 h2⟩
    · cases e1
/-! ### [x, y, ..] of objects -/
def allI : List MV → Option (List Nat)
  | [] => some []
  | .id n :: ms => (allI ms).map (n :: ·)
  | _ :: _ => none
theorem allI_as {S : Hp} {α : Al} : ∀ {vs : List V} {ms : List MV} {ns : List Nat}, MVs K S α vs ms → allI ms = some ns → ∃ as : List Addr, vs = as.map V.ref ∧ ns.length = as.length ∧ ∀ (i n : Nat), ns[i]? = some n → ∃ b, as[i]? = some b ∧ α[n]? = some b
  | [], [], ns, _, e => by
    cases e
    exact ⟨[], rfl, rfl, fun i n h => by simp at h⟩
  | v :: vs, .id m :: ms, ns, h, e => by
    unfold allI at e
    cases e1 : allI ms with
    | none => rw [e1] at e; cases e
    | some xs =>
      rw [e1] at e
      cases e
      obtain ⟨a, ha, rfl⟩ := h.1
      obtain ⟨as, rfl, k1, k2⟩ := allI_as (vs := vs) (ms := ms) h.2 e1
      refine ⟨a :: as, rfl, by rw [List.length_cons, List.length_cons, k1], fun i n hi => ?_⟩
      cases i with
      | zero => cases hi; exact ⟨a, rfl, ha⟩
      | succ i => exact k2 i n (by simpa using hi)
  | _ :: _, .d _ :: _, _, _, e => by cases e
  | _ :: _, .raw _ :: _, _, _, e => by cases e
  | _ :: _, .lsi _ :: _, _, _, e => by cases e
  | [], _ :: _, _, h, _ => h.elim
  | _ :: _, [], _, h, _ => h.elim
def mLsi (g : MEnv → Th → MRes (List MV)) : MEnv → Th → MRes MV := fun ρ θ => (g ρ θ).bind fun ms θ1 => match allI ms with
  | some ns => if ns.length ≤ 100 then .ok (.lsi ns) θ1 else .bad
  | none => .bad
theorem md_lsi (h : MA K mg C X E es t g) : MD K mg C X E (.List es pos) (tLst t) (mLsi g) := ⟨pe_lst h.pe, fun S H α θ σ ρ Q T r hp => by
  refine h.sd S H α θ σ ρ _ T r (PostM.bind hp fun ms θ1 ys S1 H1 α1 x1 T1 r1 h1 => ?_)
  split at h1
  · rename_i ns e1
    obtain ⟨as, rfl, k1, k2⟩ := allI_as r1 e1
    split at h1
    · rename_i hz
      refine ⟨by rw [List.length_map, ← k1, sizeLine_eq]; omega, fun q hq => ?_⟩
      have x2 : Ext S1 H1 (upd S1 q (.lst (as.map V.ref))) (upd H1 q (.lst (as.map V.ref))) := Ext.new T1.sh hq
      exact h1 _ _ _ α1 (ExtM.of x2) (T1.ext x2) ⟨q, as, rfl, upd_same, k1, k2⟩
    · exact h1.elim
  · exact h1.elim⟩
/-! ### for x in .. (a list of objects) -/
def mForL (fo : MEnv → Th → MRes MV) (i : Nat) (body : MEnv → Th → MSR) : MEnv → Th → MSR := fun ρ θ => ofM (fo ρ θ) ρ fun m θ1 => match m with
  | .lsi ns => mForLGo i body ns ρ θ1
  | _ => .bad
where
  mForLGo (i : Nat) (body : MEnv → Th → MSR) : List Nat → MEnv → Th → MSR
  | [], ρ, θ => .next ρ θ
  | n :: ns, ρ, θ => match body (ρ.set i (some (.id n))) θ with
      | .next ρ' θ' => mForLGo i body ns ρ' θ'
      | .cont ρ' θ' => mForLGo i body ns ρ' θ'
      | .brk ρ' θ' => .next ρ' θ'
      | .ret x θ' => .ret x θ'
      | .err c ρ' θ' => .err c ρ' θ'
      | .bad => .bad
theorem ms_forL {tg l : Expr} {tl : TE} {fl : MEnv → Th → MRes MV} {i : Nat} {body : List Stmt} {tb : TS} {B : MEnv → Th → MSR} (hp : PassesOwn (model X.prog X.w) X.A X.env X.xe) (hc : X.calm = true) (hl : MD K mg C X (fun _ => E1) l tl fl) (hg : PG X tg (gName i)) (hb : MSs K mg C X (fun _ => E1) body tb B)
    (hs : ∀ x, foldedSetIterable l X.env x = pure x := by intro _; rfl) (hK : X.K = K := by rfl) : MS K mg C X (fun _ => E1) (.For tg l body [] pos) (tFor (iList K tl) (gName i) tb) (mForL fl i B) := by
  subst hK
  refine ⟨ps_for hp hc (pi_list hl.pe) hg hb.ps hs, fun S H α θ σ ρ N T r h => ?_⟩
  refine hl.sd S H α θ σ ρ _ T r (postm_of (E := fun _ => E1) r h fun m θ1 v S1 H1 α1 _ x1 T1 q h => ?_)
  cases m with
  | d _ => exact h.elim
  | id _ => exact h.elim
  | raw _ => exact h.elim
  | lsi ns =>
    obtain ⟨a, as, rfl, g1, g2, g3⟩ := q
    have hsq : ∀ {S2 H2 : Hp}, Same S1 S2 → Same S2 H2 → SqL X.K H2 a (as.map V.ref) := fun e1 e2 => SqL.of (e2 _ _ (e1 _ _ g1))
    have one : ∀ {S2 H2 : Hp}, Same S1 S2 → Same S2 H2 → ∀ xs, SqL X.K H2 a xs → H2 a = some (.lst xs) ∨ True := fun _ _ _ _ => .inr trivial
    refine ⟨a, rfl, ⟨_, hsq (Same.refl _) T1.sh⟩, ?_⟩
    refine ⟨fun j m σ' H' => j + m = ns.length ∧ ∃ S' α' ρ' θ', Same S1 S' ∧ (∀ (n : Nat) (b : Addr), α1[n]? = some b → α'[n]? = some b) ∧ RelT X.K C S' H' α' θ' ∧ EnvR X.K S' α' σ' ρ' ∧ MPost X.K mg C (fun _ => E1) S' H' α' (mForL.mForLGo i B (ns.drop j) ρ' θ') N, ⟨ns.length, by omega, S1, α1, ρ, θ1, Same.refl _, fun _ _ h => h, T1, r.mono x1, h⟩, ?_⟩
    rintro j m σ2 H2 ⟨him, S2, α2, ρ2, θ2, e2, p2, T2, r2, h2⟩
    have sq := hsq e2 T2.sh
    by_cases hj : j < ns.length
    · obtain ⟨b, hb1, hb2⟩ := g3 j ns[j] (List.getElem?_eq_getElem hj)
      have hv : (as.map V.ref)[j]? = some (.ref b) := by rw [List.getElem?_map, hb1]; rfl
      have ed : ns.drop j = ns[j] :: ns.drop (j + 1) := List.drop_eq_getElem_cons hj
      rw [ed] at h2
      unfold mForL.mForLGo at h2
      refine .inr ⟨⟨_, _, sq, hv⟩, fun σ' H' => ∃ S' α' ρ' θ', Same S1 S' ∧ (∀ (n : Nat) (b : Addr), α1[n]? = some b → α'[n]? = some b) ∧ RelT X.K C S' H' α' θ' ∧ EnvR X.K S' α' σ' ρ' ∧ MPost X.K mg C (fun _ => E1) S' H' α' (mForL.mForLGo i B (ns.drop (j + 1)) ρ' θ') N, fun σ' H' ⟨S', α', ρ', θ', a1, a2, a3, a4, a5⟩ => ⟨m - 1, by omega, by omega, S', α', ρ', θ', a1, a2, a3, a4, a5⟩, fun y H3 hy => ?_⟩
      obtain ⟨rfl, fv⟩ := hy
      have ev : y = .ref b := Option.some.inj ((fv _ sq).symm.trans hv)
      subst ev
      have r3 : EnvR X.K S2 α2 (σ2.set i (some (.ref b))) (ρ2.set i (some (.id ns[j]))) := r2.set ⟨b, p2 _ _ hb2, rfl⟩
      refine hb.sd S2 H3 α2 θ2 _ _ _ T2 r3 ?_
      cases eb : B (ρ2.set i (some (.id ns[j]))) θ2 with
      | next ρ' θ' =>
        rw [eb] at h2
        exact fun S' H' α' σ' x' T' r' => ⟨S', α', ρ', θ', e2.trans x'.s, fun n b hb => x'.pre n b (p2 n b hb), T', r', MPost.mono h2 x'⟩
      | cont ρ' θ' =>
        rw [eb] at h2
        exact fun S' H' α' σ' x' T' r' => ⟨S', α', ρ', θ', e2.trans x'.s, fun n b hb => x'.pre n b (p2 n b hb), T', r', MPost.mono h2 x'⟩
      | brk ρ' θ' => rw [eb] at h2; exact h2
      | ret d θ' => rw [eb] at h2; exact h2
      | err c ρ' θ' => rw [eb] at h2; exact h2
      | bad => rw [eb] at h2; exact h2
    · have ed : ns.drop j = [] := List.drop_eq_nil_of_le (by omega)
      rw [ed] at h2
      refine .inl ⟨⟨_, sq, by rw [List.length_map]; omega⟩, ?_⟩
      exact h2 S2 H2 α2 σ2 (ExtM.refl _ _ _) T2 r2
/-! ### isinstance(x, list) of an object -/
def isiL (u : MV) (θ : Th) : MRes MV := match lstAt θ u with
  | some _ => .ok (.d (.bool true)) θ
  | none => .bad
def mIsiL (fe : MEnv → Th → MRes MV) : MEnv → Th → MRes MV := fun ρ θ => (fe ρ θ).bind isiL
theorem md_isiL (he : MD K mg C X E e te fe) (hg : Gl X "isinstance") (hm : X.mg "isinstance" = none) (hgT : Gl X "list") (hmT : X.mg "list" = none)
    (h1 : starEach [e, .Name "list" p1] X.env = (false, eval e X.env) :: starEach [.Name "list" p1] X.env := by rfl) (h2 : starEach [.Name "list" p1] X.env = (false, eval (.Name "list" p1) X.env) :: starEach [] X.env := by rfl) (hpl : (backTo pos (starEach [.Name "list" p1] X.env)).any (·.1) = false := by rfl) (hK : X.K = K := by rfl) :
    MD K mg C X E (.Call (.Name "isinstance" p2) [e, .Name "list" p1] [] pos) (tCB (rIsiY K) (tCons te (tCons (tC (.ty "list")) tNil))) (mIsiL fe) := by
  subst hK
  refine ⟨pe_callB call_isiY hg hm bt_isinstance (pa_cons he.pe (pa_cons (pe_bltn (v := .ty "list") hgT hmT bt_list rfl (by decide) (by decide)) pa_nil h2) h1) (by decide) (by decide) h1 hpl, fun S H α θ σ ρ Q T r h => ?_⟩
  refine he.sd S H α θ σ ρ _ T r (PostM.bind h fun u θ1 y S1 H1 α1 x1 T1 r1 h1 => ?_)
  unfold isiL at h1
  split at h1
  · rename_i z e1
    obtain ⟨n, xs⟩ := z
    obtain ⟨rfl, e2⟩ := lstAt_some e1
    obtain ⟨a, ha, rfl⟩ := r1
    obtain ⟨hS, vs, g1, g2⟩ := T1.ob n a _ ha e2
    exact ⟨.ref a, .ty "list", .type "list", .type "list", true, rfl, .ty "list", .inl (.base (.lst g1)), kit_ty (by decide +kernel), PostM.ok0 h1 T1 (show DV X.K S1 (.bl true) (.bool true) by rw [DV])⟩
  · exact h1.elim
/-! ### x.insert(0, d) -/
def insV (i : Nat) (d : D) (θ : Th) : MRes MV := match lstAt θ (.id i) with
  | some (_, xs) => if lenOk (xs.length + 1) = true then .ok (.d .none) (θ.set i (.lst (d :: xs))) else .bad
  | none => .bad
def mIns0 (fo : MEnv → Th → MRes MV) (d : D) : MEnv → Th → MRes MV := fun ρ θ => (fo ρ θ).bind fun u θ1 => match u with
  | .id i => insV i d θ1
  | _ => .bad
def rIns : V → List V → Hp → VK → Prop := fun x vs H Q => ∃ (l : Addr) (xs : List V) (i : Int) (y : V), x = .ref l ∧ vs = [.int i, y] ∧ H l = some (.lst xs) ∧ xs.length < sizeLine ∧ 0 ≤ i ∧ i < 2 ^ 63 ∧
    Q .non (upd H l (.lst (xs.take i.toNat ++ [y] ++ xs.drop i.toNat)))
theorem mt_ins : MtR X "list.insert" rIns := mt_insert
theorem md_ins0 {e1 e2 : Expr} {t1 t2 : TE} {n : Int} {apos cpos : Pos} (ho : MD K mg C X E o ta fa) (h0 : PD K mg X E0 e1 t1 (fC (.int 0))) (h1 : PD K mg X E0 e2 t2 (fC (.int n))) (hs : starEach [e1, e2] X.env = (false, eval e1 X.env) :: starEach [e2] X.env := by rfl) (hs2 : starEach [e2] X.env = (false, eval e2 X.env) :: starEach [] X.env := by rfl)
    (hbase : attributeBase o "insert" X.env (eval o X.env) = eval o X.env := by rfl)
    (hfew : ((backTo cpos (starEach [e1, e2] X.env)).all (fun x => !x.1) && (backToKw cpos (keywordEach [] X.env)).all (fun x => x.1.isSome)
      && decide ([e1, e2].length + ([] : List Keyword).length + (if ([] : List Keyword).isEmpty then 0 else 1) < 30)) = true := by rfl)
    (hline : (apos.endLine == cpos.line) = true := by rfl) (hplain : (backTo cpos (starEach [e2] X.env)).any (·.1) = false := by rfl) (hK : X.K = K := by rfl) :
    MD K mg C X E (.Call (.Attribute o "insert" apos) [e1, e2] [] cpos) (tBM K "list" rIns ta (tCons t1 (tCons t2 tNil))) (mIns0 fa (.int n)) := by
  subst hK
  refine ⟨pe_bm PySem.F.plainAttrs_list PySem.F.slot_list_insert PySem.F.type_list_insert mt_ins ho.pe (pa_cons h0.pe (pa_cons h1.pe pa_nil hs2) hs) hbase hfew hline hs hplain, fun S H α θ σ ρ Q T r h => ?_⟩
  refine ho.sd S H α θ σ ρ _ T r (PostM.bind h fun u θ1 y S1 H1 α1 x1 T1 r1 hh => ?_)
  cases u with
  | d z => exact hh.elim
  | raw w => exact hh.elim
  | lsi _ => exact hh.elim
  | id i =>
    have hh : PostM X.K mg C (E σ) S1 H1 α1 (MVr X.K) (insV i (.int n) θ1) Q := hh
    unfold insV at hh
    split at hh
    · rename_i j xs e1
      obtain ⟨ej, e5⟩ := lstAt_some e1
      cases ej
      obtain ⟨a, ha', rfl⟩ := r1
      obtain ⟨hS, vs, g1, g2⟩ := T1.ob i a _ ha' e5
      split at hh
      · rename_i hz
        refine ⟨.inl ⟨rfl, vs, SqL.of g1⟩, ?_⟩
        refine h0.sd S1 H1 σ (eraseM ρ) _ ((r.mono x1).pure T1) ?_
        intro w0 S2 H2 x2 d0
        have d0 : DV X.K S2 w0 (.int 0) := d0
        rw [DV] at d0
        subst d0
        have T2 := T1.ext x2
        refine h1.sd S2 H2 σ (eraseM ρ) _ (((r.mono x1).mono (ExtM.of x2)).pure T2) ?_
        intro w1 S3 H3 x3 d1
        have T3 := T2.ext x3
        obtain ⟨hS3, vs3, g3, g4⟩ := T3.ob i a _ ha' e5
        refine ⟨a, vs3, 0, w1, rfl, rfl, g3, ?_, by decide, by decide, ?_⟩
        · rw [g4.length]
          exact Nat.lt_of_lt_of_le (Nat.lt_succ_self _) (lenOk.le hz)
        · exact PostM.mono ((ExtM.of x2).trans (ExtM.of x3)) hh .non S3 _ α1 (ExtM.mut (List.mem_of_getElem? ha')) (T3.mut ha' hS3 ⟨hS3, _, upd_same, by show DVs X.K S3 (w1 :: vs3) _; exact ⟨d1, g4⟩⟩) rfl
      · exact hh.elim
    · exact hh.elim
end
end PD
local macro_rules | `(tactic| walk_at "ev") => `(tactic| try simp -implicitDefEqProofs only [PD.startD, List.map_cons, List.map_nil, List.length_cons, List.length_nil, List.cons_append, List.nil_append, Nat.reduceAdd, Nat.reduceSub, List.replicate_succ, List.replicate_zero, PD.v_nil, PD.v_cons, PD.w_d, PD.w_un, PD.w_own, PD.w_raw, PD.x_isE0, PD.x_isES, PD.x_st, PD.s_ok, PD.x_lm, PD.x_asList, PD.y_bex, PD.y_bret, PD.y_bif, PD.x_via, PD.x_var0, PD.x_varS, PD.x_c, PD.x_bin, PD.x_un, PD.x_call1, PD.x_call2, PD.x_call3, PD.x_call0, PD.x_b, PD.x_nil, PD.x_cons, PD.x_test, PD.x_asB, PD.x_not, PD.x_and, PD.x_or, PD.x_andV, PD.x_orV, PD.x_notV, PD.x_if, PD.x_isi, PD.x_chain, PD.x_tup, PD.x_lst, PD.x_mkT0, PD.x_mkT1, PD.x_mkT2, PD.x_mkT3, PD.x_mkL0, PD.x_mkL1, PD.x_mkL2, PD.x_mkL3, PD.x_mkL4, PD.x_mkL5, PD.x_mkL6, PD.x_sl, PD.x_np, PD.x_pt, PD.x_asI, PD.g_slTa, PD.g_slTb, PD.g_addT12, PD.g_addT21, PD.g_addT31, PD.g_addL52, PD.g_addL72, PD.x_neg, PD.g_addL11, PD.g_addL21, PD.g_addL31, PD.g_addL32, PD.g_addL51, PD.g_addL41, PD.g_addL22, PD.bind_ok, PD.bind_err, PD.bind_bad, PD.y_next, PD.y_ret, PD.y_err, PD.y_ok, PD.y_er, PD.y_seq, PD.y_if, PD.y_nx, PD.y_rt, PD.y_ex, PD.y_rs, PD.y_as1, PD.y_asT3, PD.wp_nil, PD.wp_cons, PD.l_1, PD.l_2, PD.l_3, PD.l2_11, PD.x_seq, PD.x_asL, PD.x_asT, PD.x_rng, PD.x_zipL, PD.x_zipT, PD.g_tupL, PD.g_tupT, PD.g_listL, PD.g_listT, PD.y_fn, PD.y_t1, PD.y_t2, PD.y_t3, PD.set0, PD.setS', PD.eq_int, PD.ne_int, PD.g_lt, PD.g_le, PD.g_gt, PD.g_ge, PD.g_sub, PD.g_add, PD.g_lenL, PD.g_lenT, PD.g_ix30, PD.g_ix31, PD.g_ix32, PD.isi_TT, PD.isi_TL, PD.isi_LL, PD.isi_SS, PD.is_TF, PD.is_FF, reduceIte, Bool.false_eq_true, Bool.not_true, Bool.not_false, Int.cast_ofNat_Int, beq_self_eq_true, Int.reduceBEq, decide_true, decide_false])
local macro_rules | `(tactic| simp_arith [$xs,*]) => `(tactic| simp -implicitDefEqProofs only [$xs,*, PD.startD, List.map_cons, List.map_nil, List.length_cons, List.length_nil, List.cons_append, List.nil_append, Nat.reduceAdd, Nat.reduceSub, List.replicate_succ, List.replicate_zero, PD.v_nil, PD.v_cons, PD.w_d, PD.w_un, PD.w_own, PD.w_raw, PD.x_isE0, PD.x_isES, PD.x_st, PD.s_ok, PD.x_lm, PD.x_asList, PD.y_bex, PD.y_bret, PD.y_bif, PD.x_via, PD.x_var0, PD.x_varS, PD.x_c, PD.x_bin, PD.x_un, PD.x_call1, PD.x_call2, PD.x_call3, PD.x_call0, PD.x_b, PD.x_nil, PD.x_cons, PD.x_test, PD.x_asB, PD.x_not, PD.x_and, PD.x_or, PD.x_andV, PD.x_orV, PD.x_notV, PD.x_if, PD.x_isi, PD.x_chain, PD.x_tup, PD.x_lst, PD.x_mkT0, PD.x_mkT1, PD.x_mkT2, PD.x_mkT3, PD.x_mkL0, PD.x_mkL1, PD.x_mkL2, PD.x_mkL3, PD.x_mkL4, PD.x_mkL5, PD.x_mkL6, PD.x_sl, PD.x_np, PD.x_pt, PD.x_asI, PD.g_slTa, PD.g_slTb, PD.g_addT12, PD.g_addT21, PD.g_addT31, PD.g_addL52, PD.g_addL72, PD.x_neg, PD.g_addL11, PD.g_addL21, PD.g_addL31, PD.g_addL32, PD.g_addL51, PD.g_addL41, PD.g_addL22, PD.bind_ok, PD.bind_err, PD.bind_bad, PD.y_next, PD.y_ret, PD.y_err, PD.y_ok, PD.y_er, PD.y_seq, PD.y_if, PD.y_nx, PD.y_rt, PD.y_ex, PD.y_rs, PD.y_as1, PD.y_asT3, PD.wp_nil, PD.wp_cons, PD.l_1, PD.l_2, PD.l_3, PD.l2_11, PD.x_seq, PD.x_asL, PD.x_asT, PD.x_rng, PD.x_zipL, PD.x_zipT, PD.g_tupL, PD.g_tupT, PD.g_listL, PD.g_listT, PD.y_fn, PD.y_t1, PD.y_t2, PD.y_t3, PD.set0, PD.setS', PD.eq_int, PD.ne_int, PD.g_lt, PD.g_le, PD.g_gt, PD.g_ge, PD.g_sub, PD.g_add, PD.g_lenL, PD.g_lenT, PD.g_ix30, PD.g_ix31, PD.g_ix32, PD.isi_TT, PD.isi_TL, PD.isi_LL, PD.isi_SS, PD.is_TF, PD.is_FF, reduceIte, Bool.false_eq_true, Bool.not_true, Bool.not_false, Int.cast_ofNat_Int, beq_self_eq_true, Int.reduceBEq, decide_true, decide_false])
local macro_rules | `(tactic| walk_at "evm") => `(tactic| try simp -implicitDefEqProofs only [PD.rm_ret, PD.mr_ok, PD.mr_err, PD.mr_bad, PD.lr_ok, PD.lr_err, PD.lr_bad, PD.om_ok, PD.om_err, PD.om_bad, PD.er_nil, PD.er_c, PD.es_d, PD.es_id, PD.es_raw, PD.es_un, PD.mset0, PD.msetS, PD.vm_nil, PD.vm_d, PD.vm_raw, PD.vm_un, PD.vm_id, PD.m_pure, PD.m_pureT, PD.m_var0, PD.m_varS, PD.m_fld, PD.m_bin, PD.op_dd, PD.only_b, PD.m_test, PD.asBM_b, PD.m_not, PD.m_and, PD.m_or, PD.m_if, PD.m_nil, PD.m_cons, PD.m_tup, PD.m_lst, PD.wd1, PD.wd2, PD.wd3, PD.m_newL0, PD.s_next, PD.s_seq, PD.q_next, PD.q_ret, PD.q_err, PD.s_expr, PD.s_ret, PD.s_if, PD.s_set, PD.s_raise, PD.s_fldS, PD.startD, List.map_cons, List.map_nil, List.length_cons, List.length_nil, List.cons_append, List.nil_append, Nat.reduceAdd, Nat.reduceSub, List.replicate_succ, List.replicate_zero, PD.v_nil, PD.v_cons, PD.w_d, PD.w_un, PD.w_own, PD.w_raw, PD.x_isE0, PD.x_isES, PD.x_st, PD.s_ok, PD.x_lm, PD.x_asList, PD.y_bex, PD.y_bret, PD.y_bif, PD.x_via, PD.x_var0, PD.x_varS, PD.x_c, PD.x_bin, PD.x_un, PD.x_call1, PD.x_call2, PD.x_call3, PD.x_call0, PD.x_b, PD.x_nil, PD.x_cons, PD.x_test, PD.x_asB, PD.x_not, PD.x_and, PD.x_or, PD.x_andV, PD.x_orV, PD.x_notV, PD.x_if, PD.x_isi, PD.x_chain, PD.x_tup, PD.x_lst, PD.x_mkT0, PD.x_mkT1, PD.x_mkT2, PD.x_mkT3, PD.x_mkL0, PD.x_mkL1, PD.x_mkL2, PD.x_mkL3, PD.x_mkL4, PD.x_mkL5, PD.x_mkL6, PD.x_sl, PD.x_np, PD.x_pt, PD.x_asI, PD.g_slTa, PD.g_slTb, PD.g_addT12, PD.g_addT21, PD.g_addT31, PD.g_addL52, PD.g_addL72, PD.x_neg, PD.g_addL11, PD.g_addL21, PD.g_addL31, PD.g_addL32, PD.g_addL51, PD.g_addL41, PD.g_addL22, PD.bind_ok, PD.bind_err, PD.bind_bad, PD.y_next, PD.y_ret, PD.y_err, PD.y_ok, PD.y_er, PD.y_seq, PD.y_if, PD.y_nx, PD.y_rt, PD.y_ex, PD.y_rs, PD.y_as1, PD.y_asT3, PD.wp_nil, PD.wp_cons, PD.l_1, PD.l_2, PD.l_3, PD.l2_11, PD.x_seq, PD.x_asL, PD.x_asT, PD.x_rng, PD.x_zipL, PD.x_zipT, PD.g_tupL, PD.g_tupT, PD.g_listL, PD.g_listT, PD.y_fn, PD.y_t1, PD.y_t2, PD.y_t3, PD.set0, PD.setS', PD.eq_int, PD.ne_int, PD.g_lt, PD.g_le, PD.g_gt, PD.g_ge, PD.g_sub, PD.g_add, PD.g_lenL, PD.g_lenT, PD.g_ix30, PD.g_ix31, PD.g_ix32, PD.isi_TT, PD.isi_TL, PD.isi_LL, PD.isi_SS, PD.is_TF, PD.is_FF, reduceIte, Bool.false_eq_true, Bool.not_true, Bool.not_false, Int.cast_ofNat_Int, beq_self_eq_true, Int.reduceBEq, decide_true, decide_false])
local macro_rules | `(tactic| simp_all_arith [$xs,*]) => `(tactic| simp -implicitDefEqProofs only [$xs,*, PD.rm_ret, PD.mr_ok, PD.mr_err, PD.mr_bad, PD.lr_ok, PD.lr_err, PD.lr_bad, PD.om_ok, PD.om_err, PD.om_bad, PD.er_nil, PD.er_c, PD.es_d, PD.es_id, PD.es_raw, PD.es_un, PD.mset0, PD.msetS, PD.vm_nil, PD.vm_d, PD.vm_raw, PD.vm_un, PD.vm_id, PD.m_pure, PD.m_pureT, PD.m_var0, PD.m_varS, PD.m_fld, PD.m_bin, PD.op_dd, PD.only_b, PD.m_test, PD.asBM_b, PD.m_not, PD.m_and, PD.m_or, PD.m_if, PD.m_nil, PD.m_cons, PD.m_tup, PD.m_lst, PD.wd1, PD.wd2, PD.wd3, PD.m_newL0, PD.s_next, PD.s_seq, PD.q_next, PD.q_ret, PD.q_err, PD.s_expr, PD.s_ret, PD.s_if, PD.s_set, PD.s_raise, PD.s_fldS, PD.startD, List.map_cons, List.map_nil, List.length_cons, List.length_nil, List.cons_append, List.nil_append, Nat.reduceAdd, Nat.reduceSub, List.replicate_succ, List.replicate_zero, PD.v_nil, PD.v_cons, PD.w_d, PD.w_un, PD.w_own, PD.w_raw, PD.x_isE0, PD.x_isES, PD.x_st, PD.s_ok, PD.x_lm, PD.x_asList, PD.y_bex, PD.y_bret, PD.y_bif, PD.x_via, PD.x_var0, PD.x_varS, PD.x_c, PD.x_bin, PD.x_un, PD.x_call1, PD.x_call2, PD.x_call3, PD.x_call0, PD.x_b, PD.x_nil, PD.x_cons, PD.x_test, PD.x_asB, PD.x_not, PD.x_and, PD.x_or, PD.x_andV, PD.x_orV, PD.x_notV, PD.x_if, PD.x_isi, PD.x_chain, PD.x_tup, PD.x_lst, PD.x_mkT0, PD.x_mkT1, PD.x_mkT2, PD.x_mkT3, PD.x_mkL0, PD.x_mkL1, PD.x_mkL2, PD.x_mkL3, PD.x_mkL4, PD.x_mkL5, PD.x_mkL6, PD.x_sl, PD.x_np, PD.x_pt, PD.x_asI, PD.g_slTa, PD.g_slTb, PD.g_addT12, PD.g_addT21, PD.g_addT31, PD.g_addL52, PD.g_addL72, PD.x_neg, PD.g_addL11, PD.g_addL21, PD.g_addL31, PD.g_addL32, PD.g_addL51, PD.g_addL41, PD.g_addL22, PD.bind_ok, PD.bind_err, PD.bind_bad, PD.y_next, PD.y_ret, PD.y_err, PD.y_ok, PD.y_er, PD.y_seq, PD.y_if, PD.y_nx, PD.y_rt, PD.y_ex, PD.y_rs, PD.y_as1, PD.y_asT3, PD.wp_nil, PD.wp_cons, PD.l_1, PD.l_2, PD.l_3, PD.l2_11, PD.x_seq, PD.x_asL, PD.x_asT, PD.x_rng, PD.x_zipL, PD.x_zipT, PD.g_tupL, PD.g_tupT, PD.g_listL, PD.g_listT, PD.y_fn, PD.y_t1, PD.y_t2, PD.y_t3, PD.set0, PD.setS', PD.eq_int, PD.ne_int, PD.g_lt, PD.g_le, PD.g_gt, PD.g_ge, PD.g_sub, PD.g_add, PD.g_lenL, PD.g_lenT, PD.g_ix30, PD.g_ix31, PD.g_ix32, PD.isi_TT, PD.isi_TL, PD.isi_LL, PD.isi_SS, PD.is_TF, PD.is_FF, reduceIte, Bool.false_eq_true, Bool.not_true, Bool.not_false, Int.cast_ofNat_Int, beq_self_eq_true, Int.reduceBEq, decide_true, decide_false])
namespace Lw
open PySem L2 PD
-- _wall: 0 k
abbrev L_wall_0 : DEnv → SR := sNext
def B_wall : DEnv → SR := whileGo (fTest (fC (.bool true))) L_wall_0 100000
def F_wall : List D → Res D := fnF 1 B_wall
-- is_int: 0 value, 1 least, 2 most
def B_is_int : DEnv → SR := sRet (fAndV (fIsi "int" (fVar 0)) (fAndV (fNotV (fIsi "bool" (fVar 0))) (fChain gLe gLe (fVar 1) (fVar 0) (fVar 2))))
def F_is_int : List D → Res D := fnF 3 B_is_int
-- is_wheel: 0 value, 1 least, 2 most, 3 step
def B_is_wheel : DEnv → SR := sSeq (sIf (fOr (fNot (fTest (fIsi "tuple" (fVar 0)))) (fOr (fTest (fBin gNe (fB gLen (fCons (fVar 0) fNil)) (fC (.int 3)))) (fNot (fTest (fCall 3 F_is_int (fCons (fBin gIx (fVar 0) (fC (.int 0))) (fCons (fC (.int 0)) (fCons (fC (.int 40)) fNil)))))))) (sRet (fC (.bool false))) sNext) (sSeq (sAsg (fVar 0) [1, 2, 3] (hTup 3)) (sSeq (sIf (fOr (fNot (fTest (fCall 3 F_is_int (fCons (fVar 2) (fCons (fVar 1) (fCons (fC (.int 60)) fNil)))))) (fNot (fTest (fCall 3 F_is_int (fCons (fVar 3) (fCons (fC (.int 1)) (fCons (fC (.int 3)) fNil))))))) (sRet (fC (.bool false))) sNext) (sRet (fBin gLe (fBin gAdd (fBin gDiv (fBin gSub (fVar 2) (fVar 1)) (fVar 3)) (fC (.int 1))) (fC (.int 13))))))
def F_is_wheel : List D → Res D := fnF 4 B_is_wheel
-- is_camera: 0 candidate, 1 wheel
def B_is_camera : DEnv → SR := sSeq (sIf (fOr (fNot (fTest (fIsi "tuple" (fVar 0)))) (fTest (fBin gNe (fB gLen (fCons (fVar 0) fNil)) (fB gLen (fCons (fC (.tuple [(.str "aperture"), (.str "time"), (.str "sensitivity")])) fNil))))) (sRet (fC (.bool false))) sNext) (sRet (fB gAll (fCons (fLc (fSeq (fVar 0)) [1] [1] hOne fYes (fCall 1 F_is_wheel (fCons (fVar 1) fNil))) fNil)))
def F_is_camera : List D → Res D := fnF 2 B_is_camera
-- wheel_values: 0 wheel, 1 least, 2 most, 3 step
def B_wheel_values : DEnv → SR := sSeq (sAsg (fVar 0) [1, 2, 3] (hTup 3)) (sRet (fB gLR3 (fCons (fVar 1) (fCons (fBin gAdd (fVar 2) (fC (.int 1))) (fCons (fVar 3) fNil)))))
def F_wheel_values : List D → Res D := fnF 4 B_wheel_values
-- has_setting: 0 camera, 1 candidate, 2 known, 3 value, 4 wheel
def B_has_setting : DEnv → SR := sSeq (sIf (fOr (fNot (fTest (fIsi "tuple" (fVar 1)))) (fTest (fBin gNe (fB gLen (fCons (fVar 1) fNil)) (fB gLen (fCons (fC (.tuple [(.str "aperture"), (.str "time"), (.str "sensitivity")])) fNil))))) (sRet (fC (.bool false))) sNext) (sSeq (sAsg (fLc (fRng gZip (fCons (fVar 1) (fCons (fVar 0) fNil))) [3, 4] [3, 4] (hTup 2) fYes (fAndV (fCall 3 F_is_int (fCons (fVar 3) (fCons (fC (.int 0)) (fCons (fC (.int 60)) fNil)))) (fBin (gIn false) (fVar 3) (fCall 1 F_wheel_values (fCons (fVar 4) fNil))))) [2] hOne) (sRet (fB gAll (fCons (fVar 2) fNil))))
def F_has_setting : List D → Res D := fnF 5 B_has_setting
-- check_camera: 0 value
def B_check_camera : DEnv → SR := sIf (fNot (fTest (fCall 1 F_is_camera (fCons (fVar 0) fNil)))) (sRaise "InvalidCamera") sNext
def F_check_camera : List D → Res D := fnF 1 B_check_camera
-- check_setting: 0 camera, 1 value
def B_check_setting : DEnv → SR := sIf (fNot (fTest (fCall 2 F_has_setting (fCons (fVar 0) (fCons (fVar 1) fNil))))) (sRaise "InvalidSetting") sNext
def F_check_setting : List D → Res D := fnF 2 B_check_setting
-- check_light: 0 value
def B_check_light : DEnv → SR := sIf (fNot (fTest (fCall 3 F_is_int (fCons (fVar 0) (fCons (fC (.int (-60))) (fCons (fC (.int 120)) fNil)))))) (sRaise "InvalidBrightness") sNext
def F_check_light : List D → Res D := fnF 1 B_check_light
-- find_wheel: 0 value
def B_find_wheel : DEnv → SR := sSeq (sIf (fOr (fNot (fTest (fIsi "str" (fVar 0)))) (fTest (fBin (gIn true) (fVar 0) (fC (.tuple [(.str "aperture"), (.str "time"), (.str "sensitivity")]))))) (sRaise "InvalidWheel") sNext) (sRet (fNix ["aperture", "time", "sensitivity"] (fVar 0)))
def F_find_wheel : List D → Res D := fnF 1 B_find_wheel
-- all_settings: 0 camera, 1 found, 2 wheel, 3 begun, 4 value
abbrev L_all_settings_0 : DEnv → SR := sAsg (fLc2 (fSeq (fVar 1)) [3, 4] [3] hOne fYes (fSeq (fCall 1 F_wheel_values (fCons (fVar 2) fNil))) [4] [4] hOne fYes (fBin gAdd (fVar 3) (fTup (fCons (fVar 4) fNil)))) [1] hOne
def B_all_settings : DEnv → SR := sSeq (sAsg (fLst (fCons (fTup fNil) fNil)) [1] hOne) (sSeq (sFor (fSeq (fVar 0)) [2] hOne L_all_settings_0) (sRet (fVar 1)))
def F_all_settings : List D → Res D := fnF 5 B_all_settings
-- find_exposure: 0 setting
def B_find_exposure : DEnv → SR := sRet (fBin gSub (fBin gAdd (fBin gIx (fVar 0) (fC (.int 0))) (fBin gIx (fVar 0) (fC (.int 1)))) (fBin gIx (fVar 0) (fC (.int 2))))
def F_find_exposure : List D → Res D := fnF 1 B_find_exposure
-- find_right: 0 camera, 1 brightness, 2 setting
def B_find_right : DEnv → SR := sRet (fLc (fSeq (fCall 1 F_all_settings (fCons (fVar 0) fNil))) [2] [2] hOne (fTest (fBin gEq (fCall 1 F_find_exposure (fCons (fVar 2) fNil)) (fVar 1))) (fVar 2))
def F_find_right : List D → Res D := fnF 3 B_find_right
-- check_both: 0 camera, 1 brightness
def B_check_both : DEnv → SR := sSeq (sExpr (fCall 1 F_check_camera (fCons (fVar 0) fNil))) (sExpr (fCall 1 F_check_light (fCons (fVar 1) fNil)))
def F_check_both : List D → Res D := fnF 2 B_check_both
-- count_clicks: 0 camera, 1 one, 2 other, 3 found, 4 wheel, 5 left, 6 right
abbrev L_count_clicks_0 : DEnv → SR := sAsg (fBin gAdd (fVar 3) (fBin gDiv (fB gAbs (fCons (fBin gSub (fVar 5) (fVar 6)) fNil)) (fBin gIx (fVar 4) (fC (.int 2))))) [3] hOne
def B_count_clicks : DEnv → SR := sSeq (sAsg (fC (.int 0)) [3] hOne) (sSeq (sFor (fRng gZip3 (fCons (fVar 0) (fCons (fVar 1) (fCons (fVar 2) fNil)))) [4, 5, 6] (hTup 3) L_count_clicks_0) (sRet (fVar 3)))
def F_count_clicks : List D → Res D := fnF 7 B_count_clicks
-- Hand.__init__: 0 self, 1 camera, 2 wheel
def B_Hand_init : MEnv → Th → MSR := mSeq (mExpr (mPure (fCall 1 F_check_camera (fCons (fVar 1) fNil)))) (mSeq (mFldS (mVar 0) (mPure (fVar 1)) "camera") (mSeq (mFldS (mVar 0) (mPure (fTup (fCons (fB gTupOf (fCons (fLc (fSeq (fVar 1)) [2] [2] hOne fYes (fBin gIx (fVar 2) (fC (.int 0)))) fNil)) (fCons (fC (.str "")) fNil)))) "present") (mSeq (mFldS (mVar 0) (mNewL mNil) "done") (mFldS (mVar 0) (mNewL mNil) "undone"))))
def F_Hand_init : List MV → Th → MRes MV := fnM 3 B_Hand_init
-- Hand.__len__: 0 self
def B_Hand_len : MEnv → Th → MSR := mRet (mB gLen (mCons (mBin gIx (mFld (mVar 0) "present") (mPure (fC (.int 1)))) mNil))
def F_Hand_len : List MV → Th → MRes MV := fnM 1 B_Hand_len
-- Hand.setting: 0 self
def B_Hand_setting : MEnv → Th → MSR := mRet (mBin gIx (mFld (mVar 0) "present") (mPure (fC (.int 0))))
def F_Hand_setting : List MV → Th → MRes MV := fnM 1 B_Hand_setting
-- Hand.change: 0 self, 1 setting, 2 many
def B_Hand_change : MEnv → Th → MSR := mSeq (mExpr (mApp (mFld (mVar 0) "done") (mFld (mVar 0) "present"))) (mSeq (mFldS (mVar 0) (mTup (mCons (mPure (fVar 1)) (mCons (mBin gAdd (mBin gIx (mFld (mVar 0) "present") (mPure (fC (.int 1)))) (mPure (fBin gMulS (fC (.str "x")) (fVar 2)))) mNil))) "present") (mFldS (mVar 0) (mNewL mNil) "undone"))
def F_Hand_change : List MV → Th → MRes MV := fnM 3 B_Hand_change
-- Hand.click: 0 self, 1 wheel, 2 step, 3 number, 4 setting, 5 value
def B_Hand_click : MEnv → Th → MSR := mSeq (mSet (mPure (fCall 1 F_find_wheel (fCons (fVar 1) fNil))) 3) (mSeq (mIfS (mPureT (fOr (fNot (fTest (fCall 3 F_is_int (fCons (fVar 2) (fCons (fUn gNeg (fC (.int 1))) (fCons (fC (.int 1)) fNil)))))) (fTest (fBin gEq (fVar 2) (fC (.int 0)))))) (mRaise "InvalidNumber") mNext) (mSeq (mSet (mBin gIx (mFld (mVar 0) "present") (mPure (fC (.int 0)))) 4) (mSeq (mSet (mBin gAdd (mPure (fBin gIx (fVar 4) (fVar 3))) (mBin gMulI (mPure (fVar 2)) (mBin gIx (mBin gIx (mFld (mVar 0) "camera") (mPure (fVar 3))) (mPure (fC (.int 2)))))) 5) (mSeq (mIfS (mTest (mBin (gIn true) (mPure (fVar 5)) (mCallD 1 F_wheel_values (mCons (mBin gIx (mFld (mVar 0) "camera") (mPure (fVar 3))) mNil)))) (mRaise "NoClick") mNext) (mSeq (mExpr (mMeth 3 "change" F_Hand_change (mVar 0) (mCons (mPure (fBin gAdd (fBin gAdd (fSl gSl (fVar 4) fNoPart (fPart (fVar 3))) (fTup (fCons (fVar 5) fNil))) (fSl gSl (fVar 4) (fPart (fBin gAdd (fVar 3) (fC (.int 1)))) fNoPart))) (mCons (mPure (fC (.int 1))) mNil)))) (mRet (mPure (fVar 5))))))))
def F_Hand_click : List MV → Th → MRes MV := fnM 6 B_Hand_click
-- Hand.copy: 0 self, 1 clone
def B_Hand_copy : MEnv → Th → MSR := mSeq (mSet (mMake 2 F_Hand_init (mCons (mFld (mVar 0) "camera") mNil)) 1) (mSeq (mPutF 1 (mCons (mFld (mVar 0) "present") (mCons (mCopy (mFld (mVar 0) "done")) (mCons (mCopy (mFld (mVar 0) "undone")) mNil))) ["present", "done", "undone"]) (mRet (mVar 1)))
def F_Hand_copy : List MV → Th → MRes MV := fnM 2 B_Hand_copy
-- check_parts: 0 value, 1 part
def B_check_parts : DEnv → SR := sSeq (sIf (fOr (fNot (fTest (fIsi "list" (fVar 0)))) (fNot (fTest (fChain gLe gLe (fC (.int 1)) (fB gLen (fCons (fVar 0) fNil)) (fC (.int 6)))))) (sRaise "InvalidParts") sNext) (sIf (fNot (fTest (fB gAll (fCons (fLc (fSeq (fVar 0)) [1] [1] hOne fYes (fCall 3 F_is_int (fCons (fVar 1) (fCons (fC (.int (-60))) (fCons (fC (.int 120)) fNil))))) fNil)))) (sRaise "InvalidParts") sNext)
def F_check_parts : List D → Res D := fnF 2 B_check_parts
-- check_latitude: 0 value
def B_check_latitude : DEnv → SR := sIf (fNot (fTest (fCall 3 F_is_int (fCons (fVar 0) (fCons (fC (.int 0)) (fCons (fC (.int 60)) fNil)))))) (sRaise "InvalidNumber") sNext
def F_check_latitude : List D → Res D := fnF 1 B_check_latitude
-- find_held: 0 setting, 1 parts, 2 latitude, 3 number, 4 index, 5 part
def B_find_held : DEnv → SR := sSeq (sAsg (fCall 1 F_find_exposure (fCons (fVar 0) fNil)) [3] hOne) (sRet (fLc (fRng gEnum (fCons (fVar 1) fNil)) [4, 5] [4, 5] (hTup 2) (fTest (fBin gLe (fB gAbs (fCons (fBin gSub (fVar 3) (fVar 5)) fNil)) (fVar 2))) (fVar 4)))
def F_find_held : List D → Res D := fnF 6 B_find_held
-- held: 0 camera, 1 setting, 2 parts, 3 latitude
def B_held : DEnv → SR := sSeq (sExpr (fCall 1 F_check_camera (fCons (fVar 0) fNil))) (sSeq (sExpr (fCall 2 F_check_setting (fCons (fVar 0) (fCons (fVar 1) fNil)))) (sSeq (sExpr (fCall 1 F_check_parts (fCons (fVar 2) fNil))) (sSeq (sExpr (fCall 1 F_check_latitude (fCons (fVar 3) fNil))) (sRet (fCall 3 F_find_held (fCons (fVar 1) (fCons (fVar 2) (fCons (fVar 3) fNil))))))))
def F_held : List D → Res D := fnF 4 B_held
-- find_best: 0 camera, 1 parts, 2 latitude, 3 setting
def B_find_best : DEnv → SR := sSeq (sExpr (fCall 1 F_check_camera (fCons (fVar 0) fNil))) (sSeq (sExpr (fCall 1 F_check_parts (fCons (fVar 1) fNil))) (sSeq (sExpr (fCall 1 F_check_latitude (fCons (fVar 2) fNil))) (sRet (fB gMinD (fCons (fLc (fSeq (fCall 1 F_all_settings (fCons (fVar 0) fNil))) [3] [3] hOne fYes (fTup (fCons (fBin gSub (fC (.int 0)) (fB gLen (fCons (fCall 3 F_find_held (fCons (fVar 3) (fCons (fVar 1) (fCons (fVar 2) fNil)))) fNil))) (fCons (fVar 3) fNil)))) fNil)))))
def F_find_best : List D → Res D := fnF 4 B_find_best
-- best_setting: 0 camera, 1 parts, 2 latitude
def B_best_setting : DEnv → SR := sRet (fBin gIx (fCall 3 F_find_best (fCons (fVar 0) (fCons (fVar 1) (fCons (fVar 2) fNil)))) (fC (.int 1)))
def F_best_setting : List D → Res D := fnF 3 B_best_setting
-- least_latitude: 0 camera, 1 parts, 2 found, 3 setting, 4 number, 5 part
abbrev L_least_latitude_0 : DEnv → SR := sSeq (sAsg (fCall 1 F_find_exposure (fCons (fVar 3) fNil)) [4] hOne) (sApp (fB gMaxL (fCons (fLc (fSeq (fVar 1)) [5] [5] hOne fYes (fB gAbs (fCons (fBin gSub (fVar 4) (fVar 5)) fNil))) fNil)) 2)
def B_least_latitude : DEnv → SR := sSeq (sExpr (fCall 1 F_check_camera (fCons (fVar 0) fNil))) (sSeq (sExpr (fCall 1 F_check_parts (fCons (fVar 1) fNil))) (sSeq (sOwnL fNil 2) (sSeq (sFor (fSeq (fCall 1 F_all_settings (fCons (fVar 0) fNil))) [3] hOne L_least_latitude_0) (sFrz [2] (sRet (fIf (fTest (fBin gLe (fB gMinL (fCons (fVar 2) fNil)) (fC (.int 60)))) (fB gMinL (fCons (fVar 2) fNil)) (fC .none)))))))
def F_least_latitude : List D → Res D := fnF 6 B_least_latitude
-- check_limits: 0 value, 1 one
def B_check_limits : DEnv → SR := sIf (fOr (fNot (fTest (fIsi "tuple" (fVar 0)))) (fOr (fTest (fBin gNe (fB gLen (fCons (fVar 0) fNil)) (fC (.int 3)))) (fNot (fTest (fB gAll (fCons (fLc (fSeq (fVar 0)) [1] [1] hOne fYes (fCall 3 F_is_int (fCons (fVar 1) (fCons (fC (.int 0)) (fCons (fC (.int 60)) fNil))))) fNil)))))) (sRaise "InvalidLimits") sNext
def F_check_limits : List D → Res D := fnF 2 B_check_limits
-- find_lack: 0 setting, 1 limits, 2 aperture, 3 time, 4 sensitivity, 5 depth, 6 blur, 7 noise
def B_find_lack : DEnv → SR := sSeq (sAsg (fVar 0) [2, 3, 4] (hTup 3)) (sSeq (sAsg (fVar 1) [5, 6, 7] (hTup 3)) (sRet (fBin gAdd (fBin gAdd (fB gMax2 (fCons (fC (.int 0)) (fCons (fBin gSub (fVar 5) (fVar 2)) fNil))) (fB gMax2 (fCons (fC (.int 0)) (fCons (fBin gSub (fVar 6) (fVar 3)) fNil)))) (fB gMax2 (fCons (fC (.int 0)) (fCons (fBin gSub (fVar 4) (fVar 7)) fNil))))))
def F_find_lack : List D → Res D := fnF 8 B_find_lack
-- find_lacks: 0 camera, 1 limits, 2 brightness, 3 setting
def B_find_lacks : DEnv → SR := sSeq (sExpr (fCall 1 F_check_camera (fCons (fVar 0) fNil))) (sSeq (sExpr (fCall 1 F_check_limits (fCons (fVar 1) fNil))) (sSeq (sExpr (fCall 2 F_check_both (fCons (fVar 0) (fCons (fVar 2) fNil)))) (sRet (fLc (fSeq (fCall 2 F_find_right (fCons (fVar 0) (fCons (fVar 2) fNil)))) [3] [3] hOne fYes (fTup (fCons (fCall 2 F_find_lack (fCons (fVar 3) (fCons (fVar 1) fNil))) (fCons (fVar 3) fNil)))))))
def F_find_lacks : List D → Res D := fnF 4 B_find_lacks
-- allowed: 0 camera, 1 limits, 2 brightness, 3 many, 4 setting
def B_allowed : DEnv → SR := sRet (fLc (fSeq (fCall 3 F_find_lacks (fCons (fVar 0) (fCons (fVar 1) (fCons (fVar 2) fNil))))) [3, 4] [3, 4] (hTup 2) (fTest (fBin gEq (fVar 3) (fC (.int 0)))) (fVar 4))
def F_allowed : List D → Res D := fnF 5 B_allowed
-- find_plans: 0 camera, 1 parts, 2 found, 3 place, 4 part, 5 later, 6 setting, 7 rows, 8 many, 9 plan
abbrev L_find_plans_0 : DEnv → SR := sSeq (sAsg (fLc (fSeq (fVar 2)) [8, 9] [8, 9] (hTup 2) fYes (fTup (fCons (fBin gAdd (fVar 8) (fCall 3 F_count_clicks (fCons (fVar 0) (fCons (fVar 6) (fCons (fBin gIx (fVar 9) (fC (.int 0))) fNil))))) (fCons (fBin gAdd (fTup (fCons (fVar 6) fNil)) (fVar 9)) fNil)))) [7] hOne) (sSeq (sIf (fTest (fBin gEq (fVar 3) (fC (.int 0)))) (sAsg (fLst (fCons (fTup (fCons (fC (.int 0)) (fCons (fTup (fCons (fVar 6) fNil)) fNil))) fNil)) [7] hOne) sNext) (sAsg (fBin gAdd (fVar 5) (fIf (fTest (fBin gNe (fVar 7) (fLst fNil))) (fLst (fCons (fB gMinD (fCons (fVar 7) fNil)) fNil)) (fLst fNil))) [5] hOne))
abbrev L_find_plans_1 : DEnv → SR := sSeq (sAsg (fLst fNil) [5] hOne) (sSeq (sFor (fSeq (fCall 2 F_find_right (fCons (fVar 0) (fCons (fVar 4) fNil)))) [6] hOne L_find_plans_0) (sAsg (fVar 5) [2] hOne))
def B_find_plans : DEnv → SR := sSeq (sAsg (fLst fNil) [2] hOne) (sSeq (sFor (fRng gEnum (fCons (fUn gRev (fVar 1)) fNil)) [3, 4] (hTup 2) L_find_plans_1) (sRet (fVar 2)))
def F_find_plans : List D → Res D := fnF 10 B_find_plans
-- check_row: 0 camera, 1 parts
def B_check_row : DEnv → SR := sSeq (sExpr (fCall 1 F_check_camera (fCons (fVar 0) fNil))) (sExpr (fCall 1 F_check_parts (fCons (fVar 1) fNil)))
def F_check_row : List D → Res D := fnF 2 B_check_row
-- find_row: 0 camera, 1 parts, 2 found
def B_find_row : DEnv → SR := sSeq (sAsg (fCall 2 F_find_plans (fCons (fVar 0) (fCons (fVar 1) fNil))) [2] hOne) (sRet (fIf (fTest (fBin gNe (fVar 2) (fLst fNil))) (fB gMinD (fCons (fVar 2) fNil)) (fC .none)))
def F_find_row : List D → Res D := fnF 3 B_find_row
-- best_row: 0 camera, 1 parts, 2 found
def B_best_row : DEnv → SR := sSeq (sExpr (fCall 2 F_check_row (fCons (fVar 0) (fCons (fVar 1) fNil)))) (sSeq (sAsg (fCall 2 F_find_row (fCons (fVar 0) (fCons (fVar 1) fNil))) [2] hOne) (sRet (fIf (fTest (fBin (gIs true) (fVar 2) (fC .none))) (fB gListOf (fCons (fBin gIx (fVar 2) (fC (.int 1))) fNil)) (fC .none))))
def F_best_row : List D → Res D := fnF 3 B_best_row
-- all_orders: 0 many, 1 found, 2 turn, 3 begun, 4 index
abbrev L_all_orders_0 : DEnv → SR := sAsg (fLc2 (fSeq (fVar 1)) [3, 4] [3] hOne fYes (fRng gRng1 (fCons (fVar 0) fNil)) [4] [4] hOne (fTest (fBin (gIn true) (fVar 4) (fVar 3))) (fBin gAdd (fVar 3) (fTup (fCons (fVar 4) fNil)))) [1] hOne
def B_all_orders : DEnv → SR := sSeq (sAsg (fLst (fCons (fTup fNil) fNil)) [1] hOne) (sSeq (sFor (fRng gRng1 (fCons (fVar 0) fNil)) [2] hOne L_all_orders_0) (sRet (fVar 1)))
def F_all_orders : List D → Res D := fnF 5 B_all_orders
-- best_start: 0 camera, 1 parts, 2 found, 3 order, 4 best, 5 index
abbrev L_best_start_0 : DEnv → SR := sSeq (sAsg (fCall 2 F_find_row (fCons (fVar 0) (fCons (fLc (fSeq (fVar 3)) [5] [5] hOne fYes (fBin gIx (fVar 1) (fVar 5))) fNil))) [4] hOne) (sAsg (fBin gAdd (fVar 2) (fIf (fTest (fBin (gIs true) (fVar 4) (fC .none))) (fLst (fCons (fTup (fCons (fBin gIx (fVar 4) (fC (.int 0))) (fCons (fVar 3) fNil))) fNil)) (fLst fNil))) [2] hOne)
def B_best_start : DEnv → SR := sSeq (sExpr (fCall 2 F_check_row (fCons (fVar 0) (fCons (fVar 1) fNil)))) (sSeq (sIf (fTest (fBin gGt (fB gLen (fCons (fVar 1) fNil)) (fC (.int 4)))) (sRaise "TooLarge") sNext) (sSeq (sAsg (fLst fNil) [2] hOne) (sSeq (sFor (fSeq (fCall 1 F_all_orders (fCons (fB gLen (fCons (fVar 1) fNil)) fNil))) [3] hOne L_best_start_0) (sRet (fIf (fTest (fBin gNe (fVar 2) (fLst fNil))) (fBin gIx (fB gMinD (fCons (fVar 2) fNil)) (fC (.int 1))) (fC .none))))))
def F_best_start : List D → Res D := fnF 6 B_best_start
-- _law_drawn: 0 script, 1 k, 2 many, 3 cell, 4 turn, 5 rest
abbrev L_law_drawn_0 : DEnv → SR := sSeq (sAsg (fBin gDiv (fVar 5) (fC (.int 1000000))) [5] hOne) (sAsg (fBin gSub (fVar 4) (fC (.int 1))) [4] hOne)
def B_law_drawn : DEnv → SR := sSeq (sAsg (fBin gMulI (fC (.int 7)) (fVar 1)) [3] hOne) (sSeq (sIf (fTest (fBin gNe (fVar 0) (fLst fNil))) (sSeq (sAsg (fBin gIx (fVar 0) (fBin gMod (fVar 1) (fB gLen (fCons (fVar 0) fNil)))) [3] hOne) (sSeq (sAsg (fBin gDiv (fVar 1) (fB gLen (fCons (fVar 0) fNil))) [4] hOne) (sSeq (sIf (fAnd (fTest (fBin gGe (fVar 3) (fBin gPow (fC (.int 10)) (fC (.int 18))))) (fTest (fBin gLt (fVar 4) (fC (.int 60))))) (sSeq (sAsg (fBin gDiv (fVar 3) (fBin gPow (fC (.int 10)) (fC (.int 18)))) [5] hOne) (sSeq (whileGo (fAnd (fTest (fBin gGt (fVar 5) (fC (.int 0)))) (fTest (fBin gGt (fVar 4) (fC (.int 0))))) L_law_drawn_0 100000) (sIf (fTest (fBin gGt (fVar 5) (fC (.int 0)))) (sRet (fBin gMod (fBin gMod (fVar 5) (fC (.int 1000000))) (fVar 2))) sNext))) sNext) (sAsg (fBin gAdd (fVar 3) (fBin gMulI (fC (.int 6553)) (fBin gDiv (fVar 1) (fB gLen (fCons (fVar 0) fNil))))) [3] hOne)))) sNext) (sSeq (sAsg (fBin gMod (fBin gAdd (fBin gMulI (fBin gMod (fVar 3) (fC (.int 2147483563))) (fC (.int 69069))) (fBin gMulI (fC (.int 104723)) (fBin gAdd (fVar 1) (fC (.int 1))))) (fC (.int 2147483563))) [3] hOne) (sSeq (sAsg (fBin gMod (fBin gAdd (fBin gMulI (fVar 3) (fVar 3)) (fBin gDiv (fVar 3) (fC (.int 3)))) (fC (.int 2147483399))) [3] hOne) (sRet (fBin gMod (fBin gDiv (fBin gMod (fBin gAdd (fBin gMulI (fVar 3) (fVar 3)) (fBin gDiv (fVar 3) (fC (.int 7)))) (fC (.int 2147483647))) (fC (.int 11))) (fVar 2))))))
def F_law_drawn : List D → Res D := fnF 6 B_law_drawn
-- _law_camera: 0 script, 1 at, 2 found, 3 k, 4 least, 5 step, 6 most
abbrev L_law_camera_0 : DEnv → SR := sSeq (sPar (zD (fCall 3 F_law_drawn (fCons (fVar 0) (fCons (fBin gAdd (fVar 1) (fBin gMulI (fC (.int 3)) (fVar 3))) (fCons (fC (.int 20)) fNil)))) (zD (fBin gAdd (fC (.int 1)) (fCall 3 F_law_drawn (fCons (fVar 0) (fCons (fBin gAdd (fBin gAdd (fVar 1) (fC (.int 1))) (fBin gMulI (fC (.int 3)) (fVar 3))) (fCons (fC (.int 3)) fNil))))) zNil)) [4, 5]) (sSeq (sAsg (fBin gAdd (fBin gAdd (fVar 4) (fBin gMulI (fVar 5) (fCall 3 F_law_drawn (fCons (fVar 0) (fCons (fBin gAdd (fBin gAdd (fVar 1) (fC (.int 2))) (fBin gMulI (fC (.int 3)) (fVar 3))) (fCons (fC (.int 4)) fNil)))))) (fCall 3 F_law_drawn (fCons (fVar 0) (fCons (fBin gAdd (fBin gAdd (fVar 1) (fC (.int 9))) (fVar 3)) (fCons (fVar 5) fNil))))) [6] hOne) (sApp (fTup (fCons (fVar 4) (fCons (fVar 6) (fCons (fVar 5) fNil)))) 2))
def B_law_camera : DEnv → SR := sSeq (sOwnL fNil 2) (sSeq (sFor (fRng gRng1 (fCons (fC (.int 3)) fNil)) [3] hOne L_law_camera_0) (sFrz [2] (sRet (fB gTupOf (fCons (fVar 2) fNil)))))
def F_law_camera : List D → Res D := fnF 7 B_law_camera
-- _law_settings: 0 camera, 1 found, 2 least, 3 most, 4 step, 5 longer, 6 some, 7 value
abbrev L_law_settings_0 : DEnv → SR := sAsg (fBin gAdd (fVar 5) (fLc (fRng gRng3 (fCons (fVar 2) (fCons (fBin gAdd (fVar 3) (fC (.int 1))) (fCons (fVar 4) fNil)))) [7] [7] hOne fYes (fBin gAdd (fVar 6) (fTup (fCons (fVar 7) fNil))))) [5] hOne
abbrev L_law_settings_1 : DEnv → SR := sSeq (sAsg (fLst fNil) [5] hOne) (sSeq (sFor (fSeq (fVar 1)) [6] hOne L_law_settings_0) (sAsg (fVar 5) [1] hOne))
def B_law_settings : DEnv → SR := sSeq (sAsg (fLst (fCons (fTup fNil) fNil)) [1] hOne) (sSeq (sFor (fSeq (fVar 0)) [2, 3, 4] (hTup 3) L_law_settings_1) (sRet (fVar 1)))
def F_law_settings : List D → Res D := fnF 8 B_law_settings
-- _law_number: 0 setting
def B_law_number : DEnv → SR := sRet (fBin gSub (fBin gAdd (fBin gIx (fVar 0) (fC (.int 0))) (fBin gIx (fVar 0) (fC (.int 1)))) (fBin gIx (fVar 0) (fC (.int 2))))
def F_law_number : List D → Res D := fnF 1 B_law_number
-- _law_light: 0 script, 1 at, 2 camera, 3 some, 4 number
def B_law_light : DEnv → SR := sSeq (sAsg (fCall 1 F_law_settings (fCons (fVar 2) fNil)) [3] hOne) (sSeq (sAsg (fCall 1 F_law_number (fCons (fBin gIx (fVar 3) (fCall 3 F_law_drawn (fCons (fVar 0) (fCons (fVar 1) (fCons (fB gLen (fCons (fVar 3) fNil)) fNil))))) fNil)) [4] hOne) (sRet (fBin gAdd (fVar 4) (fBin gIx (fLst (fCons (fC (.int 0)) (fCons (fC (.int 0)) (fCons (fC (.int 1)) (fCons (fBin gSub (fCall 3 F_law_drawn (fCons (fVar 0) (fCons (fBin gAdd (fVar 1) (fC (.int 1))) (fCons (fC (.int 9)) fNil)))) (fC (.int 4))) fNil))))) (fCall 3 F_law_drawn (fCons (fVar 0) (fCons (fBin gAdd (fVar 1) (fC (.int 2))) (fCons (fC (.int 4)) fNil))))))))
def F_law_light : List D → Res D := fnF 5 B_law_light
-- _law_lists: 0 camera, 1 parts, 2 least, 3 light, 4 wheel
def B_law_lists : DEnv → SR := sSeq (sAsg (fB gTupOf (fCons (fLc (fSeq (fVar 0)) [4] [4] hOne fYes (fBin gIx (fVar 4) (fC (.int 0)))) fNil)) [2] hOne) (sSeq (sAsg (fCall 1 F_law_number (fCons (fVar 2) fNil)) [3] hOne) (sRet (fLst (fCons (fCall 3 F_allowed (fCons (fVar 0) (fCons (fTup (fCons (fC (.int 0)) (fCons (fC (.int 0)) (fCons (fC (.int 60)) fNil)))) (fCons (fVar 3) fNil)))) (fCons (fCall 4 F_held (fCons (fVar 0) (fCons (fVar 2) (fCons (fVar 1) (fCons (fC (.int 60)) fNil))))) (fCons (fCall 2 F_best_row (fCons (fVar 0) (fCons (fLst (fCons (fVar 3) (fCons (fVar 3) fNil))) fNil))) fNil))))))
def F_law_lists : List D → Res D := fnF 5 B_law_lists
-- M.allowed: 0 camera, 1 limits, 2 brightness, 3 many, 4 setting
def B_M_allowed : MEnv → Th → MSR := mRet (mNewP (fLc (fSeq (fCall 3 F_find_lacks (fCons (fVar 0) (fCons (fVar 1) (fCons (fVar 2) fNil))))) [3, 4] [3, 4] (hTup 2) (fTest (fBin gEq (fVar 3) (fC (.int 0)))) (fVar 4)))
def F_M_allowed : List MV → Th → MRes MV := fnM 5 B_M_allowed
-- M.find_held: 0 setting, 1 parts, 2 latitude, 3 number, 4 index, 5 part
def B_M_find_held : MEnv → Th → MSR := mSeq (mSet (mPure (fCall 1 F_find_exposure (fCons (fVar 0) fNil))) 3) (mRet (mNewP (fLc (fRng gEnum (fCons (fVar 1) fNil)) [4, 5] [4, 5] (hTup 2) (fTest (fBin gLe (fB gAbs (fCons (fBin gSub (fVar 3) (fVar 5)) fNil)) (fVar 2))) (fVar 4))))
def F_M_find_held : List MV → Th → MRes MV := fnM 6 B_M_find_held
-- M.held: 0 camera, 1 setting, 2 parts, 3 latitude
def B_M_held : MEnv → Th → MSR := mSeq (mExpr (mPure (fCall 1 F_check_camera (fCons (fVar 0) fNil)))) (mSeq (mExpr (mPure (fCall 2 F_check_setting (fCons (fVar 0) (fCons (fVar 1) fNil))))) (mSeq (mExpr (mPure (fCall 1 F_check_parts (fCons (fVar 2) fNil)))) (mSeq (mExpr (mPure (fCall 1 F_check_latitude (fCons (fVar 3) fNil)))) (mRet (mCall 3 F_M_find_held (mCons (mPure (fVar 1)) (mCons (mPure (fVar 2)) (mCons (mPure (fVar 3)) mNil))))))))
def F_M_held : List MV → Th → MRes MV := fnM 4 B_M_held
-- M.best_row: 0 camera, 1 parts, 2 found
def B_M_best_row : MEnv → Th → MSR := mSeq (mExpr (mPure (fCall 2 F_check_row (fCons (fVar 0) (fCons (fVar 1) fNil))))) (mSeq (mSet (mPure (fCall 2 F_find_row (fCons (fVar 0) (fCons (fVar 1) fNil)))) 2) (mRet (mIf (mPureT (fTest (fBin (gIs true) (fVar 2) (fC .none)))) (mNewP (fB gListOf (fCons (fBin gIx (fVar 2) (fC (.int 1))) fNil))) (mPure (fC .none)))))
def F_M_best_row : List MV → Th → MRes MV := fnM 3 B_M_best_row
-- M._law_lists: 0 camera, 1 parts, 2 least, 3 light, 4 wheel
def B_M__law_lists : MEnv → Th → MSR := mSeq (mSet (mPure (fB gTupOf (fCons (fLc (fSeq (fVar 0)) [4] [4] hOne fYes (fBin gIx (fVar 4) (fC (.int 0)))) fNil))) 2) (mSeq (mSet (mPure (fCall 1 F_law_number (fCons (fVar 2) fNil))) 3) (mRet (mLsi (mCons (mCall 3 F_M_allowed (mCons (mPure (fVar 0)) (mCons (mPure (fTup (fCons (fC (.int 0)) (fCons (fC (.int 0)) (fCons (fC (.int 60)) fNil))))) (mCons (mPure (fVar 3)) mNil)))) (mCons (mCall 4 F_M_held (mCons (mPure (fVar 0)) (mCons (mPure (fVar 2)) (mCons (mPure (fVar 1)) (mCons (mPure (fC (.int 60))) mNil))))) (mCons (mCall 2 F_M_best_row (mCons (mPure (fVar 0)) (mCons (mPure (fLst (fCons (fVar 3) (fCons (fVar 3) fNil)))) mNil))) mNil))))))
def F_M__law_lists : List MV → Th → MRes MV := fnM 5 B_M__law_lists
-- _law_changed: 0 rows, 1 some
abbrev L_law_changed_0 : MEnv → Th → MSR := mSeq (mIfS (mPureT (fNot (fTest (fIsi "list" (fVar 1))))) (mRet (mPure (fC (.bool false)))) mNext) (mSeq (mExpr (mApp (mVar 1) (mPure (fC .none)))) (mExpr (mIns0 (mVar 1) (.int 7))))
def B_law_changed : MEnv → Th → MSR := mSeq (mForL (mVar 0) 1 L_law_changed_0) (mRet (mPure (fC (.bool true))))
def F_law_changed : List MV → Th → MRes MV := fnM 2 B_law_changed
-- law: 0 script, 1 camera, 2 parts, 3 kept, 4 first, 5 small, 6 hand, 7 second, 8 third, 9 k, 10 some
def B_law : MEnv → Th → MSR := mSeq (mSet (mPure (fCall 2 F_law_camera (fCons (fVar 0) (fCons (fC (.int 10)) fNil)))) 1) (mSeq (mSet (mPure (fLc (fRng gRng1 (fCons (fBin gAdd (fC (.int 1)) (fCall 3 F_law_drawn (fCons (fVar 0) (fCons (fC (.int 1)) (fCons (fC (.int 3)) fNil))))) fNil)) [9] [9] hOne fYes (fCall 3 F_law_light (fCons (fVar 0) (fCons (fBin gAdd (fC (.int 30)) (fBin gMulI (fC (.int 3)) (fVar 9))) (fCons (fVar 1) fNil)))))) 2) (mSeq (mPar (mCons (mPure (fB gListOf (fCons (fVar 2) fNil))) (mCons (mPure (fLc (fSeq (fCall 2 F_law_lists (fCons (fVar 1) (fCons (fVar 2) fNil)))) [10] [10] hOne fYes (fB gListOf (fCons (fVar 10) fNil)))) mNil)) [3, 4]) (mSeq (mIfS (mNot (mTest (mCall 1 F_law_changed (mCons (mCall 2 F_M__law_lists (mCons (mPure (fVar 1)) (mCons (mPure (fVar 2)) mNil))) mNil)))) (mRet (mPure (fC (.bool false)))) mNext) (mSeq (mIfS (mPureT (fOr (fTest (fBin gNe (fCall 2 F_law_lists (fCons (fVar 1) (fCons (fVar 2) fNil))) (fVar 4))) (fTest (fBin gNe (fVar 2) (fVar 3))))) (mRet (mPure (fC (.bool false)))) mNext) (mSeq (mIfS (mPureT (fTest (fBin gNe (fCall 3 F_best_setting (fCons (fVar 1) (fCons (fVar 2) (fCons (fC (.int 3)) fNil)))) (fCall 3 F_best_setting (fCons (fVar 1) (fCons (fVar 2) (fCons (fC (.int 3)) fNil))))))) (mRet (mPure (fC (.bool false)))) mNext) (mSeq (mIfS (mPureT (fTest (fBin gNe (fCall 2 F_least_latitude (fCons (fVar 1) (fCons (fVar 2) fNil))) (fCall 2 F_least_latitude (fCons (fVar 1) (fCons (fVar 2) fNil)))))) (mRet (mPure (fC (.bool false)))) mNext) (mSeq (mIfS (mPureT (fOr (fTest (fBin gNe (fCall 2 F_best_start (fCons (fVar 1) (fCons (fVar 2) fNil))) (fCall 2 F_best_start (fCons (fVar 1) (fCons (fVar 2) fNil))))) (fTest (fBin gNe (fVar 2) (fVar 3))))) (mRet (mPure (fC (.bool false)))) mNext) (mSeq (mSet (mPure (fBin gRep (fTup (fCons (fTup (fCons (fC (.int 0)) (fCons (fC (.int 6)) (fCons (fC (.int 3)) fNil)))) fNil)) (fC (.int 3)))) 5) (mSeq (mPar (mCons (mMake 2 F_Hand_init (mCons (mPure (fVar 5)) mNil)) (mCons (mMake 2 F_Hand_init (mCons (mPure (fVar 5)) mNil)) mNil)) [6, 7]) (mSeq (mExpr (mMeth 3 "click" F_Hand_click (mVar 6) (mCons (mPure (fC (.str "time"))) (mCons (mPure (fC (.int 1))) mNil)))) (mSeq (mSet (mMeth 1 "copy" F_Hand_copy (mVar 6) mNil) 8) (mSeq (mExpr (mMeth 3 "click" F_Hand_click (mVar 8) (mCons (mPure (fC (.str "time"))) (mCons (mPure (fC (.int 1))) mNil)))) (mSeq (mIfS (mNot (mAnd (mTest (mBin gEq (mMeth 1 "setting" F_Hand_setting (mVar 6) mNil) (mPure (fTup (fCons (fC (.int 0)) (fCons (fC (.int 3)) (fCons (fC (.int 0)) fNil))))))) (mTest (mBin gEq (mMeth 1 "setting" F_Hand_setting (mVar 7) mNil) (mPure (fTup (fCons (fC (.int 0)) (fCons (fC (.int 0)) (fCons (fC (.int 0)) fNil))))))))) (mRet (mPure (fC (.bool false)))) mNext) (mRet (mAndV (mBin gEq (mMeth 1 "setting" F_Hand_setting (mVar 8) mNil) (mPure (fTup (fCons (fC (.int 0)) (fCons (fC (.int 6)) (fCons (fC (.int 0)) fNil)))))) (mBin gEq (mLenO F_Hand_len (mVar 8)) (mPure (fC (.int 2)))))))))))))))))))
def F_law : List MV → Th → MRes MV := fnM 11 B_law
end Lw
namespace Lw
open PySem L2 PD
def isIntD (d : D) (lo hi : Int) : Bool := match d with
  | .int i => decide (lo ≤ i) && decide (i ≤ hi)
  | _ => false
theorem is_int_eq (d : D) (lo hi : Int) : F_is_int [d, .int lo, .int hi] = .ok (.bool (isIntD d lo hi)) := by
  cases d with
  | int i =>
    show toRes (ofRes ((Res.ok (decide (lo ≤ i))).bind fun k => if k = true then (Res.ok (.bool (decide (i ≤ hi)))) else .ok (.bool false)) fun d => .ret d) = .ok (.bool (decide (lo ≤ i) && decide (i ≤ hi)))
    cases decide (lo ≤ i) <;> rfl
  | _ => rfl
theorem isIntD_int (i lo hi : Int) : isIntD (.int i) lo hi = (decide (lo ≤ i) && decide (i ≤ hi)) := rfl
structure GoodW (l m s : Int) : Prop where
  l0 : 0 ≤ l
  l1 : l ≤ 40
  m0 : l ≤ m
  m1 : m ≤ 60
  s0 : 1 ≤ s
  s1 : s ≤ 3
  n : (m - l) / s + 1 ≤ 13
abbrev wD (l m s : Int) : D := .tuple [.int l, .int m, .int s]
theorem is_wheel_good {l m s : Int} (g : GoodW l m s) : F_is_wheel [wD l m s] = .ok (.bool true) := by
  unfold F_is_wheel B_is_wheel
  have h1 : isIntD (.int l) 0 40 = true := by rw [isIntD_int]; simp [g.l0, g.l1]
  have h2 : isIntD (.int m) l 60 = true := by rw [isIntD_int]; simp [g.m0, g.m1]
  have h3 : isIntD (.int s) 1 3 = true := by rw [isIntD_int]; simp [g.s0, g.s1]
  have h4 : divOk (m - l) s = true := by
    have := g.s0
    have := g.s1
    unfold divOk
    simp only [Bool.and_eq_true, decide_eq_true_eq]
    omega
  walk_at "ev"
  simp only [is_int_eq, h1]
  walk_at "ev"
  simp only [is_int_eq, h2, h3]
  walk_at "ev"
  simp only [g_div h4]
  walk_at "ev"
  simp only [decide_eq_true g.n]

abbrev camD (w1 w2 w3 : D) : D := .tuple [w1, w2, w3]
theorem is_camera_of {w1 w2 w3 : D} {b1 b2 b3 : Bool} (h1 : F_is_wheel [w1] = .ok (.bool b1)) (h2 : F_is_wheel [w2] = .ok (.bool b2)) (h3 : F_is_wheel [w3] = .ok (.bool b3)) : F_is_camera [camD w1 w2 w3] = .ok (.bool (b1 && (b2 && b3))) := by
  unfold F_is_camera B_is_camera
  have e : fLc (fSeq (fVar 0)) [1] [1] hOne fYes (fCall 1 F_is_wheel (fCons (fVar 1) fNil)) [.d (camD w1 w2 w3), .un] = .ok (.list [.bool b1, .bool b2, .bool b3]) := by
    refine x_lc (ds := [w1, w2, w3]) rfl ?_ (by show 3 < 1000000; decide)
    unfold lcGo lcGo lcGo lcGo
    walk_at "ev"
    simp only [h1, h2, h3]
    rfl
  walk_at "ev"
  rw [e]
  walk_at "ev"
  show toRes (ofRes (Res.ok (PyData.bool ([b1, b2, b3].all id))) _) = _
  cases b1 <;> cases b2 <;> cases b3 <;> rfl
structure Cam where
  l1 : Int
  m1 : Int
  s1 : Int
  l2 : Int
  m2 : Int
  s2 : Int
  l3 : Int
  m3 : Int
  s3 : Int
structure GoodC (c : Cam) : Prop where
  w1 : GoodW c.l1 c.m1 c.s1
  w2 : GoodW c.l2 c.m2 c.s2
  w3 : GoodW c.l3 c.m3 c.s3
abbrev cD (c : Cam) : D := .tuple [wD c.l1 c.m1 c.s1, wD c.l2 c.m2 c.s2, wD c.l3 c.m3 c.s3]
theorem is_camera_good {c : Cam} (g : GoodC c) : F_is_camera [cD c] = .ok (.bool true) := is_camera_of (is_wheel_good g.w1) (is_wheel_good g.w2) (is_wheel_good g.w3)
theorem check_camera_good {c : Cam} (g : GoodC c) : F_check_camera [cD c] = .ok .none := by
  unfold F_check_camera B_check_camera
  walk_at "ev"
  simp only [is_camera_good g]
  walk_at "ev"
/-- the values of a wheel -/
def wv (l m s : Int) : List Int := (List.range (rngN l (m + 1) s)).map fun (i : Nat) => l + (i : Int) * s
abbrev iL (ns : List Int) : List D := ns.map PyData.int
theorem wv_D (l m s : Int) : rngS l s (rngN l (m + 1) s) = iL (wv l m s) := by
  unfold rngS iL wv
  rw [List.map_map]
  rfl
theorem wheel_values_good {l m s : Int} (g : GoodW l m s) : F_wheel_values [wD l m s] = .ok (.list (iL (wv l m s))) := by
  have h : rng3Ok l (m + 1) s = true := by
    unfold rng3Ok
    have := g.l0
    have := g.l1
    have := g.m0
    have := g.m1
    have := g.s0
    have := g.s1
    simp only [Bool.and_eq_true, decide_eq_true_eq]
    omega
  unfold F_wheel_values B_wheel_values
  walk_at "ev"
  unfold gLR3
  dsimp only
  rw [if_pos h, wv_D]
  rfl
theorem wv_len {l m s : Int} (g : GoodW l m s) : (wv l m s).length ≤ 13 := by
  unfold wv
  rw [List.length_map, List.length_range]
  unfold rngN
  have := g.m0
  have := g.n
  have := g.s0
  rw [if_pos (by omega), show m + 1 - l - 1 = m - l by omega]
  omega
/-- a value: from least to most, in steps -/
theorem mem_wv {l m s x : Int} (h : l ≤ m) (hs : 0 < s) : x ∈ wv l m s ↔ l ≤ x ∧ x ≤ m ∧ (x - l) % s = 0 := by
  unfold wv rngN
  rw [if_pos (by omega), show m + 1 - l - 1 = m - l by omega]
  have hd : 0 ≤ (m - l) / s := Int.ediv_nonneg (by omega) (by omega)
  have e1 := Int.mul_ediv_add_emod (m - l) s
  have e2 := Int.emod_nonneg (m - l) (show s ≠ 0 by omega)
  have e3 := Int.emod_lt_of_pos (m - l) hs
  simp only [List.mem_map, List.mem_range]
  constructor
  · rintro ⟨i, hi, rfl⟩
    have hi' : (i : Int) ≤ (m - l) / s := by omega
    have h1 : (i : Int) * s ≤ (m - l) / s * s := Int.mul_le_mul_of_nonneg_right hi' (by omega)
    have h2 : 0 ≤ (i : Int) * s := Int.mul_nonneg (by omega) (by omega)
    have h3 : (m - l) / s * s = s * ((m - l) / s) := Int.mul_comm _ _
    refine ⟨by omega, by omega, ?_⟩
    rw [show l + (i : Int) * s - l = (i : Int) * s by omega, Int.mul_emod_left]
  · rintro ⟨h1, h2, h3⟩
    have e4 := Int.mul_ediv_add_emod (x - l) s
    have hq : 0 ≤ (x - l) / s := Int.ediv_nonneg (by omega) (by omega)
    have hle : (x - l) / s ≤ (m - l) / s := Int.ediv_le_ediv hs (by omega)
    refine ⟨((x - l) / s).toNat, by omega, ?_⟩
    rw [Int.toNat_of_nonneg hq, Int.mul_comm]
    omega

theorem canLay_ints : ∀ ns : List Int, PyData.canLayAll0 (iL ns) = true
  | [] => rfl
  | _ :: ns => by show (PyData.canLay0 (.int _) && PyData.canLayAll0 (iL ns)) = true; rw [canLay_ints ns]; rfl
theorem depth_ints : ∀ ns : List Int, PyData.depthAll (iL ns) = 0
  | [] => rfl
  | _ :: ns => by show max 0 (PyData.depthAll (iL ns)) = 0; rw [depth_ints ns]; rfl
theorem sh_ints (ns : List Int) : SeqAt.shaped (.list (iL ns)) = true := by
  show (PyData.canLayAll0 (iL ns) && decide (PyData.depthAll (iL ns) + 1 ≤ 64)) = true
  rw [canLay_ints, depth_ints]
  rfl
theorem inD_int (v : Int) : ∀ ns : List Int, inD (.int v) (iL ns) = decide (v ∈ ns)
  | [] => rfl
  | n :: ns => by
    have ih := inD_int v ns
    unfold inD at ih ⊢
    show (PyData.eqv (.int n) (.int v) || (iL ns).any fun z => PyData.eqv z (.int v)) = _
    rw [ih]
    show ((n == v) || decide (v ∈ ns)) = _
    by_cases h : n = v
    · subst h
      simp
    · have : (n == v) = false := by simpa using h
      rw [this, Bool.false_or]
      by_cases h2 : v ∈ ns
      · simp [h2]
      · simp [h2, Ne.symm h]
def valB (ns : List Int) (x : D) : Bool := match x with
  | .int v => decide (v ∈ ns)
  | _ => false
theorem val_step {l m s : Int} (g : GoodW l m s) (x : D) (ρ : DEnv) (i j : Nat) (h1 : fVar i ρ = .ok x) (h2 : fVar j ρ = .ok (wD l m s)) :
    fAndV (fCall 3 F_is_int (fCons (fVar i) (fCons (fC (.int 0)) (fCons (fC (.int 60)) fNil)))) (fBin (gIn false) (fVar i) (fCall 1 F_wheel_values (fCons (fVar j) fNil))) ρ = .ok (.bool (valB (wv l m s) x)) := by
  walk_at "ev"
  simp only [h1, h2]
  walk_at "ev"
  simp only [is_int_eq, wheel_values_good g]
  walk_at "ev"
  cases x with
  | int v =>
    rw [isIntD_int]
    have hs : 0 < s := by have := g.s0; omega
    by_cases hv : v ∈ wv l m s
    · obtain ⟨a1, a2, _⟩ := (mem_wv g.m0 hs).mp hv
      have := g.l0
      have := g.m1
      rw [decide_eq_true (show 0 ≤ v by omega), decide_eq_true (show v ≤ 60 by omega)]
      show gIn false (.int v) (.list (iL (wv l m s))) = _
      unfold gIn
      dsimp only
      rw [sh_ints, sh_int]
      show Res.ok (PyData.bool (inD (.int v) (iL (wv l m s)))) = _
      rw [inD_int]
      rfl
    · have hb : valB (wv l m s) (.int v) = false := decide_eq_false hv
      rw [hb]
      have e : gIn false (.int v) (.list (iL (wv l m s))) = .ok (.bool false) := by
        unfold gIn
        dsimp only
        rw [sh_ints, sh_int]
        show Res.ok (PyData.bool (inD (.int v) (iL (wv l m s)))) = _
        rw [inD_int, decide_eq_false hv]
      cases (decide (0 ≤ v) && decide (v ≤ 60)) with
      | true => exact e
      | false => rfl
  | _ => rfl
theorem sorted_ext : ∀ {xs ys : List Int}, xs.Pairwise (· < ·) → ys.Pairwise (· < ·) → (∀ x, x ∈ xs ↔ x ∈ ys) → xs = ys
  | [], [], _, _, _ => rfl
  | [], y :: ys, _, _, h => by simpa using (h y).mpr List.mem_cons_self
  | x :: xs, [], _, _, h => by simpa using (h x).mp List.mem_cons_self
  | x :: xs, y :: ys, h1, h2, h => by
    obtain ⟨a1, a2⟩ := List.pairwise_cons.mp h1
    obtain ⟨b1, b2⟩ := List.pairwise_cons.mp h2
    have e : x = y := by
      rcases List.mem_cons.mp ((h x).mp List.mem_cons_self) with q | q
      · exact q
      · rcases List.mem_cons.mp ((h y).mpr List.mem_cons_self) with q' | q'
        · exact q'.symm
        · have := a1 y q'
          have := b1 x q
          omega
    subst e
    rw [sorted_ext a2 b2 fun z => ?_]
    constructor
    · intro hz
      rcases List.mem_cons.mp ((h z).mp (List.mem_cons_of_mem _ hz)) with q | q
      · have := a1 z hz
        omega
      · exact q
    · intro hz
      rcases List.mem_cons.mp ((h z).mpr (List.mem_cons_of_mem _ hz)) with q | q
      · have := b1 z hz
        omega
      · exact q
theorem wv_sorted (l m : Int) {s : Int} (hs : 0 < s) : (wv l m s).Pairwise (· < ·) := by
  unfold wv
  refine List.Pairwise.map _ (fun a b hab => ?_) List.pairwise_lt_range
  have : (a : Int) * s < (b : Int) * s := Int.mul_lt_mul_of_pos_right (by omega) hs
  omega
/-- the ints from lo, n of them -/
def up (lo : Int) (n : Nat) : List Int := (List.range n).map fun (i : Nat) => lo + (i : Int)
theorem up_D (lo : Int) (n : Nat) : rngD lo n = iL (up lo n) := by
  unfold rngD iL up
  rw [List.map_map]
  rfl
theorem up_sorted (lo : Int) (n : Nat) : (up lo n).Pairwise (· < ·) := by
  unfold up
  exact List.Pairwise.map _ (fun a b hab => by omega) List.pairwise_lt_range
theorem mem_up {lo x : Int} {n : Nat} : x ∈ up lo n ↔ lo ≤ x ∧ x < lo + n := by
  unfold up
  simp only [List.mem_map, List.mem_range]
  constructor
  · rintro ⟨i, hi, rfl⟩
    omega
  · intro h
    exact ⟨(x - lo).toNat, by omega, by omega⟩
/-- value by value -/
theorem due_eq {l m s : Int} (h : l ≤ m) (hs : 0 < s) : (up l (m + 1 - l).toNat).filter (fun x => (x - l) % s == 0) = wv l m s := by
  refine sorted_ext (List.Pairwise.filter _ (up_sorted _ _)) (wv_sorted l m hs) fun x => ?_
  rw [List.mem_filter, mem_up, mem_wv h hs]
  simp only [beq_iff_eq]
  omega
theorem ev_eq {l m s : Int} (h : l ≤ m) (hs : 0 < s) : ((up 0 (m - l + 1).toNat).filter (fun k => k % s == 0)).map (fun k => l + k) = wv l m s := by
  refine sorted_ext (List.Pairwise.map _ (fun a b hab => by omega) (List.Pairwise.filter _ (up_sorted _ _))) (wv_sorted l m hs) fun x => ?_
  rw [List.mem_map, mem_wv h hs]
  constructor
  · rintro ⟨k, hk, rfl⟩
    rw [List.mem_filter, mem_up] at hk
    simp only [beq_iff_eq] at hk
    refine ⟨by omega, by omega, ?_⟩
    rw [show l + k - l = k by omega]
    exact hk.2
  · rintro ⟨h1, h2, h3⟩
    refine ⟨x - l, ?_, by omega⟩
    rw [List.mem_filter, mem_up]
    simp only [beq_iff_eq]
    omega
theorem lcGo_enc {α : Type} {step : D → Res (List D)} (enc : α → D) (h : α → List D) : ∀ {xs : List α}, (∀ a ∈ xs, step (enc a) = .ok (h a)) → lcGo step (xs.map enc) = .ok (xs.flatMap h)
  | [], _ => rfl
  | x :: xs, hx => by
    show ((step (enc x)).strict.bind fun o => (lcGo step (xs.map enc)).bind fun r => .ok (o ++ r)) = _
    rw [hx x List.mem_cons_self, lcGo_enc enc h fun d hd => hx d (List.mem_cons_of_mem _ hd)]
    rfl
theorem flatMap_one {α β : Type} (f : α → β) : ∀ xs : List α, (xs.flatMap fun x => [f x]) = xs.map f
  | [] => rfl
  | x :: xs => by rw [List.flatMap_cons, flatMap_one f xs]; rfl
theorem flatMap_if {α β : Type} (p : α → Bool) (f : α → β) : ∀ xs : List α, (xs.flatMap fun x => if p x = true then [f x] else []) = (xs.filter p).map f
  | [] => rfl
  | x :: xs => by
    rw [List.flatMap_cons, flatMap_if p f xs]
    cases h : p x with
    | true => rw [List.filter_cons_of_pos h]; rfl
    | false => rw [List.filter_cons_of_neg (by rw [h]; exact Bool.false_ne_true)]; rfl
def ext (fs : List (List D)) (vs : List Int) : List (List D) := fs.flatMap fun xs => vs.map fun v => xs ++ [PyData.int v]
abbrev tL (fs : List (List D)) : List D := fs.map PyData.tuple
theorem ext_cons (f : List D) (fs : List (List D)) (vs : List Int) : ext (f :: fs) vs = (vs.map fun v => f ++ [PyData.int v]) ++ ext fs vs := by
  unfold ext
  rw [List.flatMap_cons]
theorem tL_ext (fs : List (List D)) (vs : List Int) : (fs.flatMap fun xs => vs.map fun v => PyData.tuple (xs ++ [PyData.int v])) = tL (ext fs vs) := by
  unfold tL ext
  rw [List.map_flatMap]
  congr 1
  funext xs
  rw [List.map_map]
  rfl
theorem ext_len (vs : List Int) : ∀ fs : List (List D), (ext fs vs).length = fs.length * vs.length
  | [] => by simp [ext]
  | f :: fs => by
    rw [ext_cons, List.length_append, List.length_map, ext_len vs fs, List.length_cons, Nat.succ_mul]
    omega
theorem mem_ext {fs : List (List D)} {vs : List Int} {x : List D} : x ∈ ext fs vs ↔ ∃ f ∈ fs, ∃ v ∈ vs, x = f ++ [PyData.int v] := by
  unfold ext
  simp only [List.mem_flatMap, List.mem_map]
  constructor
  · rintro ⟨f, hf, v, hv, rfl⟩
    exact ⟨f, hf, v, hv, rfl⟩
  · rintro ⟨f, hf, v, hv, rfl⟩
    exact ⟨f, hf, v, hv, rfl⟩
theorem g_addT {xs ys : List D} (h : xs.length + ys.length ≤ 1000) : gAdd (.tuple xs) (.tuple ys) = .ok (.tuple (xs ++ ys)) := by
  unfold gAdd
  dsimp only
  rw [if_pos (show lenOk (xs.length + ys.length) = true from decide_eq_true (by omega))]
def sets (c : Cam) : List (List D) := ext (ext (ext [[]] (wv c.l1 c.m1 c.s1)) (wv c.l2 c.m2 c.s2)) (wv c.l3 c.m3 c.s3)
theorem ext1_len (vs : List Int) : (ext [[]] vs).length = vs.length := by rw [ext_len]; simp
theorem len_ext {fs : List (List D)} {vs : List Int} {k : Nat} (h : ∀ f ∈ fs, f.length ≤ k) : ∀ f ∈ ext fs vs, f.length ≤ k + 1 := fun f hf => by
  obtain ⟨f', h1, v, _, rfl⟩ := mem_ext.mp hf
  have := h f' h1
  rw [List.length_append]
  simp only [List.length_cons, List.length_nil]
  omega
theorem y_par2 (f g : DEnv → Res D) (i j : Nat) (ρ : DEnv) : sPar (zD f (zD g zNil)) [i, j] ρ = ofRes (f ρ) fun a => ofRes (g ρ) fun b => .next ((ρ.set i (.d a)).set j (.d b)) := by
  unfold sPar zD zNil
  cases f ρ <;> first | rfl | (cases g ρ <;> rfl)
theorem y_own0 (i : Nat) (ρ : DEnv) : sOwnL fNil i ρ = .next (ρ.set i (.own [])) := rfl
theorem y_frz (is : List Nat) (F : DEnv → SR) (ρ : DEnv) : sFrz is F ρ = F (frz ρ is) := rfl
theorem y_app {f : DEnv → Res D} {i : Nat} {ρ : DEnv} {xs : List D} {d : D} (h1 : ρ[i]? = some (.own xs)) (h2 : f ρ = .ok d) (h3 : xs.length < 1000000) : sApp f i ρ = .next (ρ.set i (.own (xs ++ [d]))) := by
  unfold sApp
  rw [h1]
  dsimp only
  rw [h2, y_ok, if_pos (show lenOk (xs.length + 1) = true from decide_eq_true (by omega))]
theorem y_extL {f : DEnv → Res D} {i : Nat} {ρ : DEnv} {xs ys : List D} (h1 : ρ[i]? = some (.own xs)) (h2 : f ρ = .ok (.list ys)) (h3 : xs.length + ys.length ≤ 1000000) : sExt f i ρ = .next (ρ.set i (.own (xs ++ ys))) := by
  unfold sExt
  rw [h1]
  dsimp only
  rw [h2, y_ok]
  dsimp only
  rw [if_pos (show lenOk (xs.length + ys.length) = true from decide_eq_true h3)]
theorem mul_l {i j : Int} (h1 : -1000000000000000000 ≤ i) (h2 : i ≤ 1000000000000000000) : mulOk i j = true := by
  unfold mulOk
  rw [decide_eq_true h1, decide_eq_true h2]
  rfl
theorem mul_r {i j : Int} (h1 : -1000000000000000000 ≤ j) (h2 : j ≤ 1000000000000000000) : mulOk i j = true := by
  unfold mulOk
  rw [decide_eq_true h1, decide_eq_true h2, Bool.or_eq_true]
  exact .inr rfl
theorem div_ok {i j : Int} (h1 : 0 < j) (h2 : j ≤ 1000000000000000000) : divOk i j = true := by
  unfold divOk
  rw [decide_eq_true h1, decide_eq_true h2]
  rfl
theorem g_mulc {i j : Int} (h1 : -1000000 ≤ i) (h2 : i ≤ 1000000) : gMulI (.int i) (.int j) = .ok (.int (i * j)) := g_mul (mul_l (by omega) (by omega))
structure InS (c : Cam) (x y z : Int) : Prop where
  a : x ∈ wv c.l1 c.m1 c.s1
  b : y ∈ wv c.l2 c.m2 c.s2
  d : z ∈ wv c.l3 c.m3 c.s3
abbrev i3 (x y z : Int) : D := .tuple [.int x, .int y, .int z]
theorem mem_sets {c : Cam} {ds : List D} : ds ∈ sets c ↔ ∃ x y z, ds = [.int x, .int y, .int z] ∧ InS c x y z := by
  unfold sets
  rw [mem_ext]
  constructor
  · rintro ⟨f, hf, z, hz, rfl⟩
    obtain ⟨f2, hf2, y, hy, rfl⟩ := mem_ext.mp hf
    obtain ⟨f3, hf3, x, hx, rfl⟩ := mem_ext.mp hf2
    rw [List.mem_singleton] at hf3
    subst hf3
    exact ⟨x, y, z, rfl, hx, hy, hz⟩
  · rintro ⟨x, y, z, rfl, hx, hy, hz⟩
    exact ⟨[.int x, .int y], mem_ext.mpr ⟨[.int x], mem_ext.mpr ⟨[], List.mem_singleton.mpr rfl, x, hx, rfl⟩, y, hy, rfl⟩, z, hz, rfl⟩
theorem inS_val {c : Cam} {x y z : Int} (h : InS c x y z) : (valB (wv c.l1 c.m1 c.s1) (.int x) && (valB (wv c.l2 c.m2 c.s2) (.int y) && valB (wv c.l3 c.m3 c.s3) (.int z))) = true := by
  unfold valB
  dsimp only
  rw [decide_eq_true h.a, decide_eq_true h.b, decide_eq_true h.d]
  rfl
theorem ne_self {d : D} (h : SeqAt.shaped d = true) (h2 : PyData.eqv d d = true) : gNe d d = .ok (.bool false) := by
  unfold gNe
  rw [h, h2]
  rfl
theorem eqv_ints : ∀ ns : List Int, PyData.eqvAll (iL ns) (iL ns) = true
  | [] => by rw [show iL [] = [] from rfl, PyData.eqvAll]
  | n :: ns => by
    show PyData.eqvAll (.int n :: iL ns) (.int n :: iL ns) = true
    rw [PyData.eqvAll, eqv_ints ns, PyData.eqv]
    simp
theorem eqv_i3 (a b c x y z : Int) : PyData.eqv (i3 a b c) (i3 x y z) = (decide (a = x) && (decide (b = y) && decide (c = z))) := by
  simp only [PyData.eqv, PyData.eqvAll]
  simp only [Bool.and_true]
  rfl
theorem ne_bool (a b : Bool) : gNe (.bool a) (.bool b) = .ok (.bool (!(a == b))) := by
  cases a <;> cases b <;> rfl
theorem sh_i3s : ∀ {ds : List D}, (∀ d ∈ ds, ∃ x y z, d = i3 x y z) → PyData.canLayAll0 ds = true ∧ PyData.depthAll ds ≤ 1
  | [], _ => ⟨rfl, by decide⟩
  | d :: ds, h => by
    obtain ⟨x, y, z, rfl⟩ := h d List.mem_cons_self
    obtain ⟨h1, h2⟩ := sh_i3s fun d' hd => h d' (List.mem_cons_of_mem _ hd)
    refine ⟨?_, ?_⟩
    · show (PyData.canLay0 (i3 x y z) && PyData.canLayAll0 ds) = true
      rw [h1]
      rfl
    · show max (PyData.depth (i3 x y z)) (PyData.depthAll ds) ≤ 1
      have : PyData.depth (i3 x y z) = 1 := rfl
      omega
theorem sets_i3 {c : Cam} : ∀ d ∈ tL (sets c), ∃ x y z, d = i3 x y z ∧ InS c x y z := fun d hd => by
  obtain ⟨ds, h1, rfl⟩ := List.mem_map.mp hd
  obtain ⟨x, y, z, rfl, h⟩ := mem_sets.mp h1
  exact ⟨x, y, z, rfl, h⟩
theorem sh_sets (c : Cam) : SeqAt.shaped (.list (tL (sets c))) = true := by
  obtain ⟨h1, h2⟩ := sh_i3s (ds := tL (sets c)) fun d hd => by obtain ⟨x, y, z, e, _⟩ := sets_i3 d hd; exact ⟨x, y, z, e⟩
  show (PyData.canLayAll0 (tL (sets c)) && decide (PyData.depthAll (tL (sets c)) + 1 ≤ 64)) = true
  rw [h1, decide_eq_true (by omega)]
  rfl
theorem in_sets (c : Cam) (x y z : Int) : gIn false (i3 x y z) (.list (tL (sets c))) = .ok (.bool (valB (wv c.l1 c.m1 c.s1) (.int x) && (valB (wv c.l2 c.m2 c.s2) (.int y) && valB (wv c.l3 c.m3 c.s3) (.int z)))) := by
  unfold gIn
  dsimp only
  rw [sh_sets, if_pos (show (SeqAt.shaped (i3 x y z) && true) = true from rfl)]
  have e : inD (i3 x y z) (tL (sets c)) = (valB (wv c.l1 c.m1 c.s1) (.int x) && (valB (wv c.l2 c.m2 c.s2) (.int y) && valB (wv c.l3 c.m3 c.s3) (.int z))) := by
    rw [Bool.eq_iff_iff]
    unfold inD
    rw [List.any_eq_true]
    constructor
    · rintro ⟨d, hd, he⟩
      obtain ⟨a, b, e, rfl, hi⟩ := sets_i3 d hd
      rw [eqv_i3] at he
      simp only [Bool.and_eq_true, decide_eq_true_eq] at he
      obtain ⟨rfl, rfl, rfl⟩ := he
      exact inS_val hi
    · intro h
      unfold valB at h
      simp only [Bool.and_eq_true, decide_eq_true_eq] at h
      refine ⟨i3 x y z, List.mem_map.mpr ⟨[.int x, .int y, .int z], mem_sets.mpr ⟨x, y, z, rfl, h.1, h.2.1, h.2.2⟩, rfl⟩, ?_⟩
      rw [eqv_i3]
      simp
  rw [e]
  rfl
theorem sets_len (c : Cam) : (sets c).length = (wv c.l1 c.m1 c.s1).length * (wv c.l2 c.m2 c.s2).length * (wv c.l3 c.m3 c.s3).length := by
  unfold sets
  rw [ext_len, ext_len, ext1_len]
theorem wv_pos {l m s : Int} (g : GoodW l m s) : 0 < (wv l m s).length := by
  refine List.length_pos_of_mem (a := l) ((mem_wv g.m0 (by have := g.s0; omega)).mpr ⟨by omega, g.m0, ?_⟩)
  rw [Int.sub_self, Int.zero_emod]
theorem sets_pos {c : Cam} (g : GoodC c) : 0 < (sets c).length := by
  rw [sets_len]
  exact Nat.mul_pos (Nat.mul_pos (wv_pos g.w1) (wv_pos g.w2)) (wv_pos g.w3)
theorem ix_sets {c : Cam} {p : Int} (h0 : 0 ≤ p) (h1 : p < ((tL (sets c)).length : Nat)) : ∃ x y z, gIx (.list (tL (sets c))) (.int p) = .ok (i3 x y z) ∧ InS c x y z := by
  have h3 : p.toNat < (tL (sets c)).length := by omega
  obtain ⟨x, y, z, e, h⟩ := sets_i3 ((tL (sets c))[p.toNat]) (List.getElem_mem h3)
  refine ⟨x, y, z, ?_, h⟩
  refine g_ixL ?_
  unfold ixD
  rw [if_pos h0, List.getElem?_eq_getElem h3, e]
end Lw
namespace Lw
open PySem L2 PD
theorem has_setting_3 {c : Cam} (g : GoodC c) (x y z : D) : F_has_setting [cD c, .tuple [x, y, z]] = .ok (.bool (valB (wv c.l1 c.m1 c.s1) x && (valB (wv c.l2 c.m2 c.s2) y && valB (wv c.l3 c.m3 c.s3) z))) := by
  unfold F_has_setting B_has_setting
  have e : fLc (fRng gZip (fCons (fVar 1) (fCons (fVar 0) fNil))) [3, 4] [3, 4] (hTup 2) fYes (fAndV (fCall 3 F_is_int (fCons (fVar 3) (fCons (fC (.int 0)) (fCons (fC (.int 60)) fNil)))) (fBin (gIn false) (fVar 3) (fCall 1 F_wheel_values (fCons (fVar 4) fNil)))) [.d (cD c), .d (.tuple [x, y, z]), .un, .un, .un] =
      .ok (.list [.bool (valB (wv c.l1 c.m1 c.s1) x), .bool (valB (wv c.l2 c.m2 c.s2) y), .bool (valB (wv c.l3 c.m3 c.s3) z)]) := by
    refine x_lc (ds := [.tuple [x, wD c.l1 c.m1 c.s1], .tuple [y, wD c.l2 c.m2 c.s2], .tuple [z, wD c.l3 c.m3 c.s3]]) rfl ?_ (by show 3 < 1000000; decide)
    unfold lcGo lcGo lcGo lcGo
    simp only [l_2, wp_nil, wp_cons, set0, setS']
    rw [val_step g.w1 x _ 3 4 rfl rfl, val_step g.w2 y _ 3 4 rfl rfl, val_step g.w3 z _ 3 4 rfl rfl]
    rfl
  walk_at "ev"
  rw [e]
  walk_at "ev"
  show toRes (ofRes (Res.ok (PyData.bool ([valB (wv c.l1 c.m1 c.s1) x, valB (wv c.l2 c.m2 c.s2) y, valB (wv c.l3 c.m3 c.s3) z].all id))) _) = _
  cases valB (wv c.l1 c.m1 c.s1) x <;> cases valB (wv c.l2 c.m2 c.s2) y <;> cases valB (wv c.l3 c.m3 c.s3) z <;> rfl
theorem has_setting_no {c : Cam} {d : D} (h : isiD "tuple" d = false) : F_has_setting [cD c, d] = .ok (.bool false) := by
  unfold F_has_setting B_has_setting
  walk_at "ev"
  simp only [h]
  walk_at "ev"
theorem has_setting_len {c : Cam} {ds : List D} (h : ds.length ≠ 3) : F_has_setting [cD c, .tuple ds] = .ok (.bool false) := by
  unfold F_has_setting B_has_setting
  have h' : (((ds.length : Nat) : Int) == 3) = false := by simpa using (show ¬ ((ds.length : Nat) : Int) = 3 by omega)
  walk_at "ev"
  simp only [h']
  walk_at "ev"
theorem check_setting_3 {c : Cam} (g : GoodC c) {x y z : D} (h : (valB (wv c.l1 c.m1 c.s1) x && (valB (wv c.l2 c.m2 c.s2) y && valB (wv c.l3 c.m3 c.s3) z)) = true) : F_check_setting [cD c, .tuple [x, y, z]] = .ok .none := by
  unfold F_check_setting B_check_setting
  walk_at "ev"
  simp only [has_setting_3 g, h]
  walk_at "ev"

end Lw
namespace Lw
open PySem L2 PD
/-! ### more of the shared: calls of four and five, tests over bools, filters -/
theorem x_call4 (F : List D → Res D) (f g h i : DEnv → Res D) (ρ : DEnv) : fCall 4 F (fCons f (fCons g (fCons h (fCons i fNil)))) ρ = (f ρ).bind fun a => (g ρ).bind fun b => (h ρ).bind fun c => (i ρ).bind fun d => F [a, b, c, d] := by
  unfold fCall fCons fNil
  cases f ρ <;> first | rfl | (cases g ρ <;> first | rfl | (cases h ρ <;> first | rfl | (cases i ρ <;> rfl)))
theorem x_call5 (F : List D → Res D) (f g h i j : DEnv → Res D) (ρ : DEnv) : fCall 5 F (fCons f (fCons g (fCons h (fCons i (fCons j fNil))))) ρ = (f ρ).bind fun a => (g ρ).bind fun b => (h ρ).bind fun c => (i ρ).bind fun d => (j ρ).bind fun e => F [a, b, c, d, e] := by
  unfold fCall fCons fNil
  cases f ρ <;> first | rfl | (cases g ρ <;> first | rfl | (cases h ρ <;> first | rfl | (cases i ρ <;> first | rfl | (cases j ρ <;> rfl))))
theorem all_bools (bs : List Bool) : gAll [.list (bs.map PyData.bool)] = .ok (.bool (bs.all id)) := by
  unfold gAll gBs
  dsimp only
  rw [asBs_map]
theorem any_bools (bs : List Bool) : gAny [.list (bs.map PyData.bool)] = .ok (.bool (bs.any id)) := by
  unfold gAny gBs
  dsimp only
  rw [asBs_map]
theorem in_ints (v : Int) (ns : List Int) : gIn false (.int v) (.list (iL ns)) = .ok (.bool (decide (v ∈ ns))) := by
  unfold gIn
  dsimp only
  rw [sh_ints, sh_int]
  show Res.ok (PyData.bool (inD (.int v) (iL ns))) = _
  rw [inD_int]
theorem g_addL {xs ys : List D} (h : xs.length + ys.length ≤ 1000) : gAdd (.list xs) (.list ys) = .ok (.list (xs ++ ys)) := by
  unfold gAdd
  dsimp only
  rw [if_pos (show lenOk (xs.length + ys.length) = true from decide_eq_true (by omega))]
theorem filt_none {α : Type} {P : α → Bool} {a : α} : ∀ {xs : List α}, (∀ d ∈ xs, P d = true ↔ d = a) → a ∉ xs → xs.filter P = []
  | [], _, _ => rfl
  | x :: xs, h, hn => by
    rw [List.filter_cons_of_neg fun hp => hn (by rw [← (h x List.mem_cons_self).mp hp]; exact List.mem_cons_self)]
    exact filt_none (fun d hd => h d (List.mem_cons_of_mem _ hd)) fun hm => hn (List.mem_cons_of_mem _ hm)
theorem filt_one {α : Type} {P : α → Bool} {a : α} : ∀ {xs : List α}, xs.Nodup → (∀ d ∈ xs, P d = true ↔ d = a) → a ∈ xs → xs.filter P = [a]
  | [], _, _, hm => absurd hm List.not_mem_nil
  | x :: xs, hd, h, hm => by
    obtain ⟨h1, h2⟩ := List.nodup_cons.mp hd
    by_cases e : x = a
    · subst e
      rw [List.filter_cons_of_pos ((h x List.mem_cons_self).mpr rfl), filt_none (fun d hd => h d (List.mem_cons_of_mem _ hd)) h1]
    · rw [List.filter_cons_of_neg fun hp => e ((h x List.mem_cons_self).mp hp)]
      refine filt_one h2 (fun d hd => h d (List.mem_cons_of_mem _ hd)) ?_
      rcases List.mem_cons.mp hm with q | q
      · exact absurd q.symm e
      · exact q
theorem ext_nodup {fs : List (List D)} {vs : List Int} (h1 : fs.Nodup) (h2 : vs.Nodup) : (ext fs vs).Nodup := by
  unfold ext List.Nodup
  rw [List.pairwise_flatMap]
  refine ⟨fun f _ => ?_, ?_⟩
  · refine List.Pairwise.map _ (fun a b hab e => hab ?_) h2
    have := List.append_cancel_left e
    cases this
    rfl
  · refine List.Pairwise.imp (fun {a b} hab x hx y hy e => hab ?_) h1
    obtain ⟨v, _, rfl⟩ := List.mem_map.mp hx
    obtain ⟨w, _, rfl⟩ := List.mem_map.mp hy
    exact (List.append_inj' e rfl).1
theorem lt_nodup {vs : List Int} (h : vs.Pairwise (· < ·)) : vs.Nodup := List.Pairwise.imp (fun {a b} (hab : a < b) (e : a = b) => by omega) h
theorem sets_nodup {c : Cam} (g : GoodC c) : (tL (sets c)).Nodup := by
  have p1 : 0 < c.s1 := by have := g.w1.s0; omega
  have p2 : 0 < c.s2 := by have := g.w2.s0; omega
  have p3 : 0 < c.s3 := by have := g.w3.s0; omega
  have h : (sets c).Nodup := ext_nodup (ext_nodup (ext_nodup (List.nodup_cons.mpr ⟨List.not_mem_nil, List.nodup_nil⟩) (lt_nodup (wv_sorted c.l1 c.m1 p1))) (lt_nodup (wv_sorted c.l2 c.m2 p2))) (lt_nodup (wv_sorted c.l3 c.m3 p3))
  exact List.Pairwise.map _ (fun a b hab e => hab (by cases e; rfl)) h
theorem is_noneT (d : D) : gIs true d .none = .ok (.bool (!isNone d)) := rfl
theorem g_addL' {xs ys : List D} (h : xs.length + ys.length ≤ 1000000) : gAdd (.list xs) (.list ys) = .ok (.list (xs ++ ys)) := by
  unfold gAdd
  dsimp only
  rw [if_pos (show lenOk (xs.length + ys.length) = true from decide_eq_true (by omega))]
end Lw
namespace Lw
open PySem L2 PD
theorem number_eq (a b c : Int) : F_law_number [.tuple [.int a, .int b, .int c]] = .ok (.int (a + b - c)) := by rfl
end Lw
namespace Lw
open PySem L2 PD
theorem exposure_eq (a b c : Int) : F_find_exposure [.tuple [.int a, .int b, .int c]] = .ok (.int (a + b - c)) := by rfl
end Lw
namespace Lw
open PySem L2 PD
/-- one wheel of all_settings -/
theorem all_step {l m s : Int} (g : GoodW l m s) {fs : List (List D)} (hf : ∀ f ∈ fs, f.length ≤ 10) (hn : fs.length ≤ 200) (cam : D) (s3 s4 : Slot) :
    sAsg (fLc2 (fSeq (fVar 1)) [3, 4] [3] hOne fYes (fSeq (fCall 1 F_wheel_values (fCons (fVar 2) fNil))) [4] [4] hOne fYes (fBin gAdd (fVar 3) (fTup (fCons (fVar 4) fNil)))) [1] hOne [.d cam, .d (.list (tL fs)), .d (wD l m s), s3, s4] =
      .next [.d cam, .d (.list (tL (ext fs (wv l m s)))), .d (wD l m s), s3, s4] := by
  have hw := wv_len g
  have e : fLc2 (fSeq (fVar 1)) [3, 4] [3] hOne fYes (fSeq (fCall 1 F_wheel_values (fCons (fVar 2) fNil))) [4] [4] hOne fYes (fBin gAdd (fVar 3) (fTup (fCons (fVar 4) fNil))) [.d cam, .d (.list (tL fs)), .d (wD l m s), s3, s4] = .ok (.list (tL (ext fs (wv l m s)))) := by
    refine x_lc2 (ds := tL fs) rfl ?_ ?_
    · rw [← tL_ext]
      refine lcGo_enc PyData.tuple (fun xs => (wv l m s).map fun v => PyData.tuple (xs ++ [PyData.int v])) fun f hff => ?_
      walk_at "ev"
      simp only [wheel_values_good g]
      walk_at "ev"
      rw [← flatMap_one]
      refine lcGo_enc PyData.int (fun v => [PyData.tuple (f ++ [PyData.int v])]) fun v hv => ?_
      walk_at "ev"
      rw [g_addT (by have := hf f hff; simp only [List.length_cons, List.length_nil]; omega)]
      rfl
    · rw [List.length_map, ext_len]
      have : fs.length * (wv l m s).length ≤ 200 * 13 := Nat.mul_le_mul hn hw
      omega
  rw [y_as1, e]
  rfl
theorem all_settings_good {c : Cam} (g : GoodC c) : F_all_settings [cD c] = .ok (.list (tL (sets c))) := by
  have n1 := wv_len g.w1
  have n2 := wv_len g.w2
  have a0 : ∀ f ∈ ([[]] : List (List D)), f.length ≤ 0 := fun f hf => by rw [List.mem_singleton.mp hf]; exact Nat.le_refl _
  have a1 := len_ext (vs := wv c.l1 c.m1 c.s1) a0
  have a2 := len_ext (vs := wv c.l2 c.m2 c.s2) a1
  have c1 : (ext [[]] (wv c.l1 c.m1 c.s1)).length ≤ 200 := by rw [ext1_len]; omega
  have c2 : (ext (ext [[]] (wv c.l1 c.m1 c.s1)) (wv c.l2 c.m2 c.s2)).length ≤ 200 := by
    rw [ext_len, ext1_len]
    have : (wv c.l1 c.m1 c.s1).length * (wv c.l2 c.m2 c.s2).length ≤ 13 * 13 := Nat.mul_le_mul n1 n2
    omega
  unfold F_all_settings B_all_settings
  walk_at "ev"
  rw [y_for (ds := [wD c.l1 c.m1 c.s1, wD c.l2 c.m2 c.s2, wD c.l3 c.m3 c.s3]) rfl]
  rw [f_cons rfl (all_step g.w1 (fs := [[]]) (fun f hf => by have := a0 f hf; omega) (by show 1 ≤ 200; decide) _ _ _)]
  rw [f_cons rfl (all_step g.w2 (fun f hf => by have := a1 f hf; omega) c1 _ _ _)]
  rw [f_cons rfl (all_step g.w3 (fun f hf => by have := a2 f hf; omega) c2 _ _ _), f_nil]
  walk_at "ev"
  rfl

end Lw
namespace Lw
open PySem L2 PD
theorem check_light_ok {b : Int} (h1 : -60 ≤ b) (h2 : b ≤ 120) : F_check_light [.int b] = .ok .none := by
  unfold F_check_light B_check_light
  walk_at "ev"
  simp only [is_int_eq, isIntD_int, decide_eq_true h1, decide_eq_true h2]
  rfl
end Lw
namespace Lw
open PySem L2 PD
/-! ### _law_drawn -/
theorem ne_nil2 (n : Int) (ns : List Int) : gNe (.list (iL (n :: ns))) (.list []) = .ok (.bool true) := by
  unfold gNe
  rw [sh_ints]
  rfl
theorem drawn_while (scr kk mm cc : Slot) : ∀ (n : Nat) (rest turn : Int), 0 ≤ turn → turn.toNat < n → ∃ r a : Int, whileGo (fAnd (fTest (fBin gGt (fVar 5) (fC (.int 0)))) (fTest (fBin gGt (fVar 4) (fC (.int 0))))) L_law_drawn_0 n [scr, kk, mm, cc, .d (.int turn), .d (.int rest)] = .next [scr, kk, mm, cc, .d (.int a), .d (.int r)]
  | 0, _, _, _, h => absurd h (Nat.not_lt_zero _)
  | n + 1, rest, turn, h0, h => by
    unfold whileGo
    simp only [v_cons, v_nil, w_d, x_and, x_test, x_bin, x_var0, x_varS, x_c, bind_ok, g_gt, x_asB]
    by_cases h1 : 0 < rest
    · by_cases h2 : 0 < turn
      · simp only [decide_eq_true h1, decide_eq_true h2, if_true]
        simp only [y_seq, y_as1, x_bin, x_varS, x_var0, x_c, bind_ok, g_sub, g_div (div_ok (i := rest) (show (0 : Int) < 1000000 by decide) (by decide)), y_ok, y_next, set0, setS']
        exact drawn_while scr kk mm cc n (rest / 1000000) (turn - 1) (by omega) (by omega)
      · simp only [decide_eq_true h1, decide_eq_false h2, if_true]
        exact ⟨rest, turn, rfl⟩
    · simp only [decide_eq_false h1]
      exact ⟨rest, turn, rfl⟩
/-- the end of _law_drawn: any cell -/
theorem drawn_end (s0 s4 s5 : Slot) (k many cell : Int) (hk : 0 ≤ k) (hk2 : k ≤ 90000) (hm : 0 < many) : ∃ p : Int, 0 ≤ p ∧ p < many ∧
    sSeq (sAsg (fBin gMod (fBin gAdd (fBin gMulI (fBin gMod (fVar 3) (fC (.int 2147483563))) (fC (.int 69069))) (fBin gMulI (fC (.int 104723)) (fBin gAdd (fVar 1) (fC (.int 1))))) (fC (.int 2147483563))) [3] hOne) (sSeq (sAsg (fBin gMod (fBin gAdd (fBin gMulI (fVar 3) (fVar 3)) (fBin gDiv (fVar 3) (fC (.int 3)))) (fC (.int 2147483399))) [3] hOne) (sRet (fBin gMod (fBin gDiv (fBin gMod (fBin gAdd (fBin gMulI (fVar 3) (fVar 3)) (fBin gDiv (fVar 3) (fC (.int 7)))) (fC (.int 2147483647))) (fC (.int 11))) (fVar 2))))
      [s0, .d (.int k), .d (.int many), .d (.int cell), s4, s5] = .ret (.int p) := by
  have b1 := Int.emod_nonneg cell (show (2147483563 : Int) ≠ 0 by decide)
  have b2 := Int.emod_lt_of_pos cell (show (0 : Int) < 2147483563 by decide)
  generalize e1 : cell % 2147483563 = z at b1 b2
  have b3 := Int.emod_nonneg (z * 69069 + 104723 * (k + 1)) (show (2147483563 : Int) ≠ 0 by decide)
  have b4 := Int.emod_lt_of_pos (z * 69069 + 104723 * (k + 1)) (show (0 : Int) < 2147483563 by decide)
  generalize e2 : (z * 69069 + 104723 * (k + 1)) % 2147483563 = y at b3 b4
  have b5 := Int.emod_nonneg (y * y + y / 3) (show (2147483399 : Int) ≠ 0 by decide)
  have b6 := Int.emod_lt_of_pos (y * y + y / 3) (show (0 : Int) < 2147483399 by decide)
  generalize e3 : (y * y + y / 3) % 2147483399 = x at b5 b6
  refine ⟨(x * x + x / 7) % 2147483647 / 11 % many, Int.emod_nonneg _ (by omega), Int.emod_lt_of_pos _ hm, ?_⟩
  walk_at "ev"
  simp only [g_mod (show (0 : Int) < 2147483563 by decide), bind_ok, e1, g_mul (mul_r (i := z) (show (-1000000000000000000 : Int) ≤ 69069 by decide) (by decide)), g_mul (mul_l (j := k + 1) (show (-1000000000000000000 : Int) ≤ 104723 by decide) (by decide)), g_add, e2]
  walk_at "ev"
  simp only [g_mul (mul_r (i := y) (show (-1000000000000000000 : Int) ≤ y by omega) (by omega)), g_div (div_ok (i := y) (show (0 : Int) < 3 by decide) (by decide)), bind_ok, g_add, g_mod (show (0 : Int) < 2147483399 by decide), e3]
  walk_at "ev"
  simp only [g_mul (mul_r (i := x) (show (-1000000000000000000 : Int) ≤ x by omega) (by omega)), g_div (div_ok (i := x) (show (0 : Int) < 7 by decide) (by decide)), bind_ok, g_add, g_mod (show (0 : Int) < 2147483647 by decide)]
  walk_at "ev"
  simp only [g_div (div_ok (i := (x * x + x / 7) % 2147483647) (show (0 : Int) < 11 by decide) (by decide)), bind_ok, g_mod hm]
  rfl
theorem drawn_ok (ns : List Int) (hl : ns.length ≤ 63) (k many : Int) (hk : 0 ≤ k) (hk2 : k ≤ 90000) (hm : 0 < many) : ∃ p : Int, F_law_drawn [.list (iL ns), .int k, .int many] = .ok (.int p) ∧ 0 ≤ p ∧ p < many := by
  have st : startD 6 [PyData.list (iL ns), PyData.int k, PyData.int many] = [Slot.d (PyData.list (iL ns)), Slot.d (PyData.int k), Slot.d (PyData.int many), Slot.un, Slot.un, Slot.un] := rfl
  have hp : gPow (PyData.int 10) (PyData.int 18) = .ok (.int 1000000000000000000) := rfl
  unfold F_law_drawn B_law_drawn
  cases ns with
  | nil =>
    obtain ⟨p, p0, p1, e⟩ := drawn_end (.d (.list [])) .un .un k many (7 * k) hk hk2 hm
    refine ⟨p, ?_, p0, p1⟩
    walk_at "ev"
    rw [g_mulc (i := 7) (by decide) (by decide)]
    walk_at "ev"
    have e0 : gNe (PyData.list []) (PyData.list []) = .ok (.bool false) := rfl
    rw [e0]
    walk_at "ev"
    rw [y_seq] at e
    rw [← y_t1, ← e, y_as1]
    walk_at "ev"
  | cons n ns =>
    have hlen : ((iL (n :: ns)).length : Int) = ns.length + 1 := by rw [List.length_map, List.length_cons]; omega
    rw [List.length_cons] at hl
    have hpos : (0 : Int) < ((iL (n :: ns)).length : Nat) := by omega
    have h1 := Int.emod_nonneg k (show (((iL (n :: ns)).length : Nat) : Int) ≠ 0 by omega)
    have h2 := Int.emod_lt_of_pos k hpos
    have hi : ∃ c : Int, ixD (iL (n :: ns)) (k % ((iL (n :: ns)).length : Nat)) = some (.int c) := by
      unfold ixD
      rw [if_pos h1]
      have h3 : (k % ((iL (n :: ns)).length : Nat)).toNat < (iL (n :: ns)).length := by omega
      rw [List.getElem?_eq_getElem h3]
      exact ⟨(n :: ns)[(k % ((iL (n :: ns)).length : Nat)).toNat]'(by rw [List.length_map] at h3; rw [List.length_map]; exact h3), by rw [List.getElem_map]⟩
    obtain ⟨cell, hc⟩ := hi
    have hne := ne_nil2 n ns
    generalize hL : iL (n :: ns) = L at *
    have ht0 : 0 ≤ k / (L.length : Nat) := Int.ediv_nonneg hk (by omega)
    have ht1 : k / (L.length : Nat) ≤ k := Int.ediv_le_self _ hk
    have hdv := g_div (div_ok (i := k) hpos (by omega))
    generalize k / (L.length : Nat) = turn at *
    obtain ⟨r, a, hw⟩ := drawn_while (.d (.list L)) (.d (.int k)) (.d (.int many)) (.d (.int cell)) 100000 (cell / 1000000000000000000) turn ht0 (by omega)
    have fin : ∀ s4 s5 : Slot, ∃ p : Int, 0 ≤ p ∧ p < many ∧ (sAsg (fBin gAdd (fVar 3) (fBin gMulI (fC (.int 6553)) (fBin gDiv (fVar 1) (fB gLen (fCons (fVar 0) fNil))))) [3] hOne [.d (.list L), .d (.int k), .d (.int many), .d (.int cell), s4, s5]).seq (sSeq (sAsg (fBin gMod (fBin gAdd (fBin gMulI (fBin gMod (fVar 3) (fC (.int 2147483563))) (fC (.int 69069))) (fBin gMulI (fC (.int 104723)) (fBin gAdd (fVar 1) (fC (.int 1))))) (fC (.int 2147483563))) [3] hOne) (sSeq (sAsg (fBin gMod (fBin gAdd (fBin gMulI (fVar 3) (fVar 3)) (fBin gDiv (fVar 3) (fC (.int 3)))) (fC (.int 2147483399))) [3] hOne) (sRet (fBin gMod (fBin gDiv (fBin gMod (fBin gAdd (fBin gMulI (fVar 3) (fVar 3)) (fBin gDiv (fVar 3) (fC (.int 7)))) (fC (.int 2147483647))) (fC (.int 11))) (fVar 2))))) = .ret (.int p) := fun s4 s5 => by
      obtain ⟨p, p0, p1, e⟩ := drawn_end (.d (.list L)) s4 s5 k many (cell + 6553 * turn) hk hk2 hm
      refine ⟨p, p0, p1, ?_⟩
      rw [← e, y_as1]
      simp only [x_bin, x_varS, x_var0, x_c, x_b, x_cons, x_nil, bind_ok, g_lenL, hdv, g_mulc (i := 6553) (j := turn) (by decide) (by decide), g_add, y_ok, y_next, set0, setS']
    have start : ∀ B : DEnv → SR, ∀ F : DEnv → SR, sSeq (sAsg (fBin gMulI (fC (.int 7)) (fVar 1)) [3] hOne) (sSeq (sIf (fTest (fBin gNe (fVar 0) (fLst fNil))) (sSeq (sAsg (fBin gIx (fVar 0) (fBin gMod (fVar 1) (fB gLen (fCons (fVar 0) fNil)))) [3] hOne) (sSeq (sAsg (fBin gDiv (fVar 1) (fB gLen (fCons (fVar 0) fNil))) [4] hOne) B)) sNext) F) [.d (.list L), .d (.int k), .d (.int many), .un, .un, .un] = (B [.d (.list L), .d (.int k), .d (.int many), .d (.int cell), .d (.int turn), .un]).seq F := fun B F => by
      walk_at "ev"
      rw [g_mulc (i := 7) (by decide) (by decide)]
      walk_at "ev"
      rw [hne]
      walk_at "ev"
      rw [g_mod hpos, bind_ok, g_ixL hc]
      walk_at "ev"
      rw [hdv]
      walk_at "ev"
    have st2 : startD 6 [PyData.list L, PyData.int k, PyData.int many] = [Slot.d (PyData.list L), Slot.d (PyData.int k), Slot.d (PyData.int many), Slot.un, Slot.un, Slot.un] := rfl
    rw [y_fn, st2, start, y_seq]
    have test : fAnd (fTest (fBin gGe (fVar 3) (fBin gPow (fC (.int 10)) (fC (.int 18))))) (fTest (fBin gLt (fVar 4) (fC (.int 60)))) (viewAll [.d (.list L), .d (.int k), .d (.int many), .d (.int cell), .d (.int turn), .un]) = .ok (decide (1000000000000000000 ≤ cell) && decide (turn < 60)) := by
      walk_at "ev"
      rw [hp]
      walk_at "ev"
      cases decide (1000000000000000000 ≤ cell) <;> rfl
    rw [y_if, test, y_ok]
    have no : ∀ s4 s5 : Slot, ∃ p : Int, toRes (((SR.next [.d (.list L), .d (.int k), .d (.int many), .d (.int cell), s4, s5]).seq (sAsg (fBin gAdd (fVar 3) (fBin gMulI (fC (.int 6553)) (fBin gDiv (fVar 1) (fB gLen (fCons (fVar 0) fNil))))) [3] hOne)).seq (sSeq (sAsg (fBin gMod (fBin gAdd (fBin gMulI (fBin gMod (fVar 3) (fC (.int 2147483563))) (fC (.int 69069))) (fBin gMulI (fC (.int 104723)) (fBin gAdd (fVar 1) (fC (.int 1))))) (fC (.int 2147483563))) [3] hOne) (sSeq (sAsg (fBin gMod (fBin gAdd (fBin gMulI (fVar 3) (fVar 3)) (fBin gDiv (fVar 3) (fC (.int 3)))) (fC (.int 2147483399))) [3] hOne) (sRet (fBin gMod (fBin gDiv (fBin gMod (fBin gAdd (fBin gMulI (fVar 3) (fVar 3)) (fBin gDiv (fVar 3) (fC (.int 7)))) (fC (.int 2147483647))) (fC (.int 11))) (fVar 2)))))) = .ok (.int p) ∧ 0 ≤ p ∧ p < many := fun s4 s5 => by
      obtain ⟨p, p0, p1, e⟩ := fin s4 s5
      exact ⟨p, by rw [y_next, e]; rfl, p0, p1⟩
    cases hb : (decide (1000000000000000000 ≤ cell) && decide (turn < 60)) with
    | false =>
      exact no _ _
    | true =>
      rw [if_pos rfl, y_seq, y_as1]
      have hd : fBin gDiv (fVar 3) (fBin gPow (fC (.int 10)) (fC (.int 18))) [.d (.list L), .d (.int k), .d (.int many), .d (.int cell), .d (.int turn), .un] = .ok (.int (cell / 1000000000000000000)) := by
        walk_at "ev"
        rw [hp, bind_ok, g_div (div_ok (i := cell) (show (0 : Int) < 1000000000000000000 by decide) (by decide))]
      rw [hd, y_ok, y_next, y_seq]
      simp only [set0, setS']
      rw [hw, y_next, y_if]
      have t2 : fTest (fBin gGt (fVar 5) (fC (.int 0))) (viewAll [.d (.list L), .d (.int k), .d (.int many), .d (.int cell), .d (.int a), .d (.int r)]) = .ok (decide (0 < r)) := rfl
      rw [t2, y_ok]
      cases h0 : decide (0 < r) with
      | false => exact no _ _
      | true =>
        rw [if_pos rfl, y_rt]
        have e9 : fBin gMod (fBin gMod (fVar 5) (fC (.int 1000000))) (fVar 2) [.d (.list L), .d (.int k), .d (.int many), .d (.int cell), .d (.int a), .d (.int r)] = .ok (.int (r % 1000000 % many)) := by
          walk_at "ev"
          rw [g_mod (show (0 : Int) < 1000000 by decide), bind_ok, g_mod hm]
        rw [e9]
        exact ⟨_, rfl, Int.emod_nonneg _ (by omega), Int.emod_lt_of_pos _ hm⟩
end Lw
namespace Lw
open PySem L2 PD
/-! ### _law_camera -/
structure SmallW (l m s : Int) : Prop where
  g : GoodW l m s
  m30 : m ≤ 30
  n : (m - l) / s ≤ 3
  l20 : l < 20
structure SmallC (c : Cam) : Prop where
  g : GoodC c
  w1 : SmallW c.l1 c.m1 c.s1
  w2 : SmallW c.l2 c.m2 c.s2
  w3 : SmallW c.l3 c.m3 c.s3
theorem small_of {l s n r : Int} (l0 : 0 ≤ l) (l1 : l < 20) (s0 : 0 ≤ s) (s1 : s < 3) (n0 : 0 ≤ n) (n1 : n < 4) (r0 : 0 ≤ r) (r1 : r < 1 + s) : SmallW l (l + (1 + s) * n + r) (1 + s) := by
  have e : s = 0 ∨ s = 1 ∨ s = 2 := by omega
  refine ⟨⟨l0, by omega, ?_, ?_, by omega, by omega, ?_⟩, ?_, ?_, l1⟩
  · rcases e with rfl | rfl | rfl <;> omega
  · rcases e with rfl | rfl | rfl <;> omega
  · rcases e with rfl | rfl | rfl <;> omega
  · rcases e with rfl | rfl | rfl <;> omega
  · rcases e with rfl | rfl | rfl <;> omega
theorem camera_step (ns : List Int) (hl : ns.length ≤ 63) (at_ k : Int) (h0 : 0 ≤ at_) (h1 : at_ ≤ 80000) (k0 : 0 ≤ k) (k1 : k ≤ 2) (found : List D) (hf : found.length ≤ 100) (s4 s5 s6 : Slot) :
    ∃ l m s t4 t5 t6, SmallW l m s ∧ L_law_camera_0 [.d (.list (iL ns)), .d (.int at_), .own found, .d (.int k), s4, s5, s6] = .next [.d (.list (iL ns)), .d (.int at_), .own (found ++ [wD l m s]), .d (.int k), t4, t5, t6] := by
  obtain ⟨l, e1, a1, b1⟩ := drawn_ok ns hl (at_ + 3 * k) 20 (by omega) (by omega) (by omega)
  obtain ⟨s, e2, a2, b2⟩ := drawn_ok ns hl (at_ + 1 + 3 * k) 3 (by omega) (by omega) (by omega)
  obtain ⟨n, e3, a3, b3⟩ := drawn_ok ns hl (at_ + 2 + 3 * k) 4 (by omega) (by omega) (by omega)
  obtain ⟨r, e4, a4, b4⟩ := drawn_ok ns hl (at_ + 9 + k) (1 + s) (by omega) (by omega) (by omega)
  refine ⟨l, l + (1 + s) * n + r, 1 + s, .d (.int l), .d (.int (1 + s)), .d (.int (l + (1 + s) * n + r)), small_of a1 b1 a2 b2 a3 b3 a4 b4, ?_⟩
  unfold L_law_camera_0
  simp only [y_seq, y_par2]
  walk_at "ev"
  simp only [g_mulc (i := 3) (j := k) (by decide) (by decide), bind_ok, g_add, e1, e2, y_ok, y_next, y_seq, y_as1, set0, setS', x_call3, x_varS, x_var0, x_bin, x_c]
  simp only [e3, e4, bind_ok, g_mulc (i := 1 + s) (j := n) (by omega) (by omega), g_add, y_ok, y_next, set0, setS']
  exact y_app (xs := found) rfl rfl (by omega)
theorem camera_ok (ns : List Int) (hl : ns.length ≤ 63) (at_ : Int) (h0 : 0 ≤ at_) (h1 : at_ ≤ 80000) : ∃ c, SmallC c ∧ F_law_camera [.list (iL ns), .int at_] = .ok (cD c) := by
  obtain ⟨l1, m1, s1, t5, t6, t7, g1, e1⟩ := camera_step ns hl at_ 0 h0 h1 (by decide) (by decide) [] (by decide) .un .un .un
  obtain ⟨l2, m2, s2, u5, u6, u7, g2, e2⟩ := camera_step ns hl at_ 1 h0 h1 (by decide) (by decide) ([] ++ [wD l1 m1 s1]) (by show 1 ≤ 100; decide) t5 t6 t7
  obtain ⟨l3, m3, s3, v5, v6, v7, g3, e3⟩ := camera_step ns hl at_ 2 h0 h1 (by decide) (by decide) ([] ++ [wD l1 m1 s1] ++ [wD l2 m2 s2]) (by show 2 ≤ 100; decide) u5 u6 u7
  refine ⟨⟨l1, m1, s1, l2, m2, s2, l3, m3, s3⟩, ⟨⟨g1.g, g2.g, g3.g⟩, g1, g2, g3⟩, ?_⟩
  unfold F_law_camera B_law_camera
  have st : startD 7 [PyData.list (iL ns), PyData.int at_] = [Slot.d (PyData.list (iL ns)), Slot.d (PyData.int at_), Slot.un, Slot.un, Slot.un, Slot.un, Slot.un] := rfl
  simp only [y_fn, y_seq, st, y_own0, y_next, set0, setS']
  rw [y_for (ds := [.int 0, .int 1, .int 2]) rfl]
  rw [f_cons rfl e1, f_cons rfl e2, f_cons rfl e3, f_nil]
  rfl
/-! ### _law_settings -/
theorem rng3_good {l m s : Int} (g : GoodW l m s) : gRng3 [.int l, .int (m + 1), .int s] = .ok (iL (wv l m s)) := by
  have h : rng3Ok l (m + 1) s = true := by
    unfold rng3Ok
    have := g.l0
    have := g.l1
    have := g.m0
    have := g.m1
    have := g.s0
    have := g.s1
    simp only [Bool.and_eq_true, decide_eq_true_eq]
    omega
  unfold gRng3
  dsimp only
  rw [if_pos h, wv_D]
theorem settings_in {l m s : Int} (g : GoodW l m s) (cam fnd : D) (s7 : Slot) : ∀ (fs : List (List D)) (acc : List D) (s6 : Slot), (∀ f ∈ fs, f.length ≤ 10) → acc.length + fs.length * 13 ≤ 100000 →
    ∃ t6, forGo (asgOf [6] hOne) L_law_settings_0 (tL fs) [.d cam, .d fnd, .d (.int l), .d (.int m), .d (.int s), .d (.list acc), s6, s7] = .next [.d cam, .d fnd, .d (.int l), .d (.int m), .d (.int s), .d (.list (acc ++ tL (ext fs (wv l m s)))), t6, s7]
  | [], acc, s6, _, _ => ⟨s6, by rw [show tL (ext [] (wv l m s)) = [] from rfl, List.append_nil]; rfl⟩
  | f :: fs, acc, s6, hf, hn => by
    have hw := wv_len g
    rw [List.length_cons] at hn
    have one : L_law_settings_0 [.d cam, .d fnd, .d (.int l), .d (.int m), .d (.int s), .d (.list acc), .d (.tuple f), s7] = .next [.d cam, .d fnd, .d (.int l), .d (.int m), .d (.int s), .d (.list (acc ++ (wv l m s).map fun v => PyData.tuple (f ++ [PyData.int v]))), .d (.tuple f), s7] := by
      have e : fLc (fRng gRng3 (fCons (fVar 2) (fCons (fBin gAdd (fVar 3) (fC (.int 1))) (fCons (fVar 4) fNil)))) [7] [7] hOne fYes (fBin gAdd (fVar 6) (fTup (fCons (fVar 7) fNil))) [.d cam, .d fnd, .d (.int l), .d (.int m), .d (.int s), .d (.list acc), .d (.tuple f), s7] = .ok (.list ((wv l m s).map fun v => PyData.tuple (f ++ [PyData.int v]))) := by
        refine x_lc (ds := iL (wv l m s)) ?_ ?_ (by rw [List.length_map]; omega)
        · walk_at "ev"
          exact rng3_good g
        · rw [← flatMap_one]
          refine lcGo_enc PyData.int (fun v => [PyData.tuple (f ++ [PyData.int v])]) fun v _ => ?_
          walk_at "ev"
          rw [g_addT (by have := hf f List.mem_cons_self; simp only [List.length_cons, List.length_nil]; omega)]
          rfl
      unfold L_law_settings_0
      rw [y_as1, x_bin, e]
      walk_at "ev"
      rw [g_addL' (by rw [List.length_map]; omega)]
      rfl
    obtain ⟨t6, e⟩ := settings_in g cam fnd s7 fs (acc ++ (wv l m s).map fun v => PyData.tuple (f ++ [PyData.int v])) (.d (.tuple f)) (fun f' h => hf f' (List.mem_cons_of_mem _ h)) (by rw [List.length_append, List.length_map]; omega)
    refine ⟨t6, ?_⟩
    show forGo _ _ (PyData.tuple f :: tL fs) _ = _
    rw [f_cons rfl one, e, ext_cons]
    unfold tL
    rw [List.map_append, List.map_map, List.append_assoc]
    rfl
theorem settings_step {l m s : Int} (g : GoodW l m s) (cam : D) (fs : List (List D)) (hf : ∀ f ∈ fs, f.length ≤ 10) (hn : fs.length ≤ 200) (s5 s6 s7 : Slot) :
    ∃ t5 t6, L_law_settings_1 [.d cam, .d (.list (tL fs)), .d (.int l), .d (.int m), .d (.int s), s5, s6, s7] = .next [.d cam, .d (.list (tL (ext fs (wv l m s)))), .d (.int l), .d (.int m), .d (.int s), t5, t6, s7] := by
  obtain ⟨t6, e⟩ := settings_in g cam (.list (tL fs)) s7 fs [] s6 hf (by rw [List.length_nil]; omega)
  refine ⟨.d (.list (tL (ext fs (wv l m s)))), t6, ?_⟩
  unfold L_law_settings_1
  simp only [y_seq, y_as1, x_lst, x_nil, bind_ok, x_mkL0, y_ok, y_next, set0, setS']
  rw [y_for (ds := tL fs) rfl, e]
  rfl
theorem settings_good {c : Cam} (g : GoodC c) : F_law_settings [cD c] = .ok (.list (tL (sets c))) := by
  have n1 := wv_len g.w1
  have n2 := wv_len g.w2
  have a0 : ∀ f ∈ ([[]] : List (List D)), f.length ≤ 0 := fun f hf => by rw [List.mem_singleton.mp hf]; exact Nat.le_refl _
  have a1 := len_ext (vs := wv c.l1 c.m1 c.s1) a0
  have a2 := len_ext (vs := wv c.l2 c.m2 c.s2) a1
  have c1 : (ext [[]] (wv c.l1 c.m1 c.s1)).length ≤ 200 := by rw [ext1_len]; omega
  have c2 : (ext (ext [[]] (wv c.l1 c.m1 c.s1)) (wv c.l2 c.m2 c.s2)).length ≤ 200 := by
    rw [ext_len, ext1_len]
    have : (wv c.l1 c.m1 c.s1).length * (wv c.l2 c.m2 c.s2).length ≤ 13 * 13 := Nat.mul_le_mul n1 n2
    omega
  obtain ⟨t5, t6, e1⟩ := settings_step g.w1 (cD c) [[]] (fun f hf => by have := a0 f hf; omega) (by show 1 ≤ 200; decide) .un .un .un
  obtain ⟨u5, u6, e2⟩ := settings_step g.w2 (cD c) _ (fun f hf => by have := a1 f hf; omega) c1 t5 t6 .un
  obtain ⟨v5, v6, e3⟩ := settings_step g.w3 (cD c) _ (fun f hf => by have := a2 f hf; omega) c2 u5 u6 .un
  unfold F_law_settings B_law_settings
  walk_at "ev"
  rw [y_for (ds := [wD c.l1 c.m1 c.s1, wD c.l2 c.m2 c.s2, wD c.l3 c.m3 c.s3]) rfl]
  rw [f_cons rfl e1, f_cons rfl e2, f_cons rfl e3, f_nil]
  rfl
end Lw
namespace Lw
open PySem L2 PD
/-! ### settings as triples of ints -/
abbrev T3 := Int × Int × Int
def e3 (t : T3) : D := i3 t.1 t.2.1 t.2.2
def tri (c : Cam) : List T3 := (wv c.l1 c.m1 c.s1).flatMap fun x => (wv c.l2 c.m2 c.s2).flatMap fun y => (wv c.l3 c.m3 c.s3).map fun z => (x, y, z)
theorem flatMap_map' {α β γ : Type} (f : α → β) (g : β → List γ) (xs : List α) : (xs.map f).flatMap g = xs.flatMap fun x => g (f x) := by
  rw [List.flatMap_map]
theorem tri_eq (c : Cam) : tL (sets c) = (tri c).map e3 := by
  unfold tL sets ext tri
  simp only [List.flatMap_cons, List.flatMap_nil, List.append_nil, List.nil_append, List.map_flatMap, List.flatMap_map, List.flatMap_assoc, List.map_map, List.cons_append]
  rfl
def In3 (c : Cam) (t : T3) : Prop := InS c t.1 t.2.1 t.2.2
theorem mem_tri {c : Cam} {t : T3} : t ∈ tri c ↔ In3 c t := by
  obtain ⟨x, y, z⟩ := t
  unfold tri In3
  simp only [List.mem_flatMap, List.mem_map, Prod.mk.injEq]
  constructor
  · rintro ⟨x', hx, y', hy, z', hz, rfl, rfl, rfl⟩
    exact ⟨hx, hy, hz⟩
  · intro h
    exact ⟨x, h.a, y, h.b, z, h.d, rfl, rfl, rfl⟩
def lt3 (t u : T3) : Bool := decide (t.1 < u.1 ∨ t.1 = u.1 ∧ (t.2.1 < u.2.1 ∨ t.2.1 = u.2.1 ∧ t.2.2 < u.2.2))
theorem tri_sorted {c : Cam} (g : GoodC c) : (tri c).Pairwise fun t u => lt3 t u = true := by
  have p1 : 0 < c.s1 := by have := g.w1.s0; omega
  have p2 : 0 < c.s2 := by have := g.w2.s0; omega
  have p3 : 0 < c.s3 := by have := g.w3.s0; omega
  unfold tri
  rw [List.pairwise_flatMap]
  refine ⟨fun x _ => ?_, ?_⟩
  · rw [List.pairwise_flatMap]
    refine ⟨fun y _ => ?_, ?_⟩
    · refine List.Pairwise.map _ (fun a b hab => ?_) (wv_sorted c.l3 c.m3 p3)
      exact decide_eq_true (.inr ⟨rfl, .inr ⟨rfl, hab⟩⟩)
    · refine List.Pairwise.imp (fun {a b} hab t ht u hu => ?_) (wv_sorted c.l2 c.m2 p2)
      obtain ⟨z, _, rfl⟩ := List.mem_map.mp ht
      obtain ⟨z', _, rfl⟩ := List.mem_map.mp hu
      exact decide_eq_true (.inr ⟨rfl, .inl hab⟩)
  · refine List.Pairwise.imp (fun {a b} hab t ht u hu => ?_) (wv_sorted c.l1 c.m1 p1)
    obtain ⟨y, _, ht⟩ := List.mem_flatMap.mp ht
    obtain ⟨z, _, rfl⟩ := List.mem_map.mp ht
    obtain ⟨y', _, hu⟩ := List.mem_flatMap.mp hu
    obtain ⟨z', _, rfl⟩ := List.mem_map.mp hu
    exact decide_eq_true (.inl hab)
def num (t : T3) : Int := t.1 + t.2.1 - t.2.2
theorem tri_len {c : Cam} : (tri c).length = (sets c).length := by
  have := congrArg List.length (tri_eq c)
  rw [List.length_map, List.length_map] at this
  omega
theorem tri_pos {c : Cam} (g : GoodC c) : 0 < (tri c).length := by rw [tri_len]; exact sets_pos g
theorem tri_le {c : Cam} (g : GoodC c) : (tri c).length ≤ 2197 := by
  rw [tri_len, sets_len]
  exact Nat.mul_le_mul (Nat.mul_le_mul (wv_len g.w1) (wv_len g.w2)) (wv_len g.w3)
theorem in3_b {c : Cam} (g : GoodC c) {t : T3} (h : In3 c t) : 0 ≤ t.1 ∧ t.1 ≤ 60 ∧ 0 ≤ t.2.1 ∧ t.2.1 ≤ 60 ∧ 0 ≤ t.2.2 ∧ t.2.2 ≤ 60 := by
  have aux : ∀ {l m s x : Int}, GoodW l m s → x ∈ wv l m s → 0 ≤ x ∧ x ≤ 60 := fun {l m s x} gw h => by
    obtain ⟨h1, h2, _⟩ := (mem_wv gw.m0 (by have := gw.s0; omega)).mp h
    have := gw.l0
    have := gw.m1
    omega
  have a1 := aux g.w1 h.a
  have a2 := aux g.w2 h.b
  have a3 := aux g.w3 h.d
  exact ⟨a1.1, a1.2, a2.1, a2.2, a3.1, a3.2⟩
theorem sh_e3s {α : Type} (f : α → T3) (ts : List α) : SeqAt.shaped (.list (ts.map fun a => e3 (f a))) = true := by
  obtain ⟨h1, h2⟩ := sh_i3s (ds := ts.map fun a => e3 (f a)) fun d hd => by
    obtain ⟨t, _, rfl⟩ := List.mem_map.mp hd
    exact ⟨_, _, _, rfl⟩
  show (PyData.canLayAll0 (ts.map fun a => e3 (f a)) && decide (PyData.depthAll (ts.map fun a => e3 (f a)) + 1 ≤ 64)) = true
  rw [h1, decide_eq_true (by omega)]
  rfl
theorem sh_t3 (ts : List T3) : SeqAt.shaped (.list (ts.map e3)) = true := sh_e3s id ts
theorem ne_same {d : D} (h : SeqAt.shaped d = true) : gNe d d = .ok (.bool false) := ne_self h (SeqAt.eqv_refl d (by
  unfold SeqAt.shaped at h
  rw [Bool.and_eq_true] at h
  exact h.1))
theorem eq_same {d : D} (h : SeqAt.shaped d = true) : gEq d d = .ok (.bool true) := by
  unfold gEq
  rw [h, SeqAt.eqv_refl d (by
    unfold SeqAt.shaped at h
    rw [Bool.and_eq_true] at h
    exact h.1)]
  rfl
theorem eqv_nil (ts : List D) : PyData.eqv (.list ts) (.list []) = ts.isEmpty := by
  cases ts <;> rfl
theorem ne_nilD {ts : List D} (h : SeqAt.shaped (.list ts) = true) : gNe (.list ts) (.list []) = .ok (.bool (!ts.isEmpty)) := by
  unfold gNe
  rw [h, eqv_nil]
  rfl
theorem eq_nilD {ts : List D} (h : SeqAt.shaped (.list ts) = true) : gEq (.list ts) (.list []) = .ok (.bool ts.isEmpty) := by
  unfold gEq
  rw [h, eqv_nil]
  rfl
theorem ix_tri {c : Cam} {p : Int} (h0 : 0 ≤ p) (h1 : p < ((tri c).length : Nat)) : ∃ t, gIx (.list ((tri c).map e3)) (.int p) = .ok (e3 t) ∧ In3 c t := by
  have h3 : p.toNat < (tri c).length := by omega
  refine ⟨(tri c)[p.toNat], ?_, mem_tri.mp (List.getElem_mem h3)⟩
  refine g_ixL ?_
  unfold ixD
  rw [if_pos h0, List.getElem?_eq_getElem (by rw [List.length_map]; exact h3), List.getElem_map]
end Lw
namespace Lw
open PySem L2 PD
theorem small_b {c : Cam} (g : SmallC c) {t : T3} (h : In3 c t) : 0 ≤ t.1 ∧ t.1 ≤ 30 ∧ 0 ≤ t.2.1 ∧ t.2.1 ≤ 30 ∧ 0 ≤ t.2.2 ∧ t.2.2 ≤ 30 := by
  have aux : ∀ {l m s x : Int}, SmallW l m s → x ∈ wv l m s → 0 ≤ x ∧ x ≤ 30 := fun {l m s x} gw h => by
    obtain ⟨h1, h2, _⟩ := (mem_wv gw.g.m0 (by have := gw.g.s0; omega)).mp h
    have := gw.g.l0
    have := gw.m30
    omega
  have a1 := aux g.w1 h.a
  have a2 := aux g.w2 h.b
  have a3 := aux g.w3 h.d
  exact ⟨a1.1, a1.2, a2.1, a2.2, a3.1, a3.2⟩
/-! ### _law_light of the second family -/
theorem light_ok (ns : List Int) (hl : ns.length ≤ 63) {c : Cam} (g : SmallC c) (at_ : Int) (h0 : 0 ≤ at_) (h1 : at_ ≤ 80000) : ∃ b : Int, F_law_light [.list (iL ns), .int at_, cD c] = .ok (.int b) ∧ -60 ≤ b ∧ b ≤ 120 := by
  have hp := tri_pos g.g
  obtain ⟨p, e1, a1, b1⟩ := drawn_ok ns hl at_ ((tri c).length : Nat) h0 (by omega) (by omega)
  obtain ⟨q, e2, a2, b2⟩ := drawn_ok ns hl (at_ + 1) 9 (by omega) (by omega) (by omega)
  obtain ⟨r, e4, a4, b4⟩ := drawn_ok ns hl (at_ + 2) 4 (by omega) (by omega) (by omega)
  obtain ⟨t, e5, hi⟩ := ix_tri (c := c) a1 b1
  have hb := small_b g hi
  have e6 : F_law_number [e3 t] = .ok (.int (num t)) := number_eq _ _ _
  have hr : r = 0 ∨ r = 1 ∨ r = 2 ∨ r = 3 := by omega
  have e7 : ∃ v : Int, gIx (.list [.int 0, .int 0, .int 1, .int (q - 4)]) (.int r) = .ok (.int v) ∧ -4 ≤ v ∧ v ≤ 4 := by
    rcases hr with rfl | rfl | rfl | rfl
    · exact ⟨0, rfl, by decide, by decide⟩
    · exact ⟨0, rfl, by decide, by decide⟩
    · exact ⟨1, rfl, by decide, by decide⟩
    · exact ⟨q - 4, rfl, by omega, by omega⟩
  obtain ⟨v, e8, v0, v1⟩ := e7
  refine ⟨num t + v, ?_, ?_, ?_⟩
  · unfold F_law_light B_law_light
    walk_at "ev"
    rw [settings_good g.g, tri_eq]
    walk_at "ev"
    rw [List.length_map, e1]
    walk_at "ev"
    rw [e5]
    walk_at "ev"
    rw [e6]
    walk_at "ev"
    rw [e2]
    walk_at "ev"
    try simp only [x_mkL4]
    walk_at "ev"
    rw [e4]
    walk_at "ev"
    rw [e8]
    rfl
  · unfold num; omega
  · unfold num; omega
end Lw
namespace Lw
open PySem L2 PD
/-! ### right settings -/
def rt (c : Cam) (L : Int) : List T3 := (tri c).filter fun t => num t == L
theorem rt_in {c : Cam} {L : Int} {t : T3} (h : t ∈ rt c L) : In3 c t := mem_tri.mp (List.mem_filter.mp h).1
theorem rt_le {c : Cam} (g : GoodC c) (L : Int) : (rt c L).length ≤ 2197 := Nat.le_trans (List.length_filter_le _ _) (tri_le g)
theorem check_both_ok {c : Cam} (g : GoodC c) {L : Int} (h1 : -60 ≤ L) (h2 : L ≤ 120) : F_check_both [cD c, .int L] = .ok .none := by
  unfold F_check_both B_check_both
  walk_at "ev"
  simp only [check_camera_good g]
  walk_at "ev"
  simp only [check_light_ok h1 h2]
  walk_at "ev"
end Lw
namespace Lw
open PySem L2 PD
theorem find_right_good {c : Cam} (g : GoodC c) (L : Int) : F_find_right [cD c, .int L] = .ok (.list ((rt c L).map e3)) := by
  have hl := rt_le g L
  unfold F_find_right B_find_right
  have st : startD 3 [cD c, PyData.int L] = [.d (cD c), .d (.int L), .un] := rfl
  have e : fLc (fSeq (fCall 1 F_all_settings (fCons (fVar 0) fNil))) [2] [2] hOne (fTest (fBin gEq (fCall 1 F_find_exposure (fCons (fVar 2) fNil)) (fVar 1))) (fVar 2) [.d (cD c), .d (.int L), .un] = .ok (.list ((rt c L).map e3)) := by
    refine x_lc (ds := (tri c).map e3) ?_ ?_ (by rw [List.length_map]; omega)
    · walk_at "ev"
      rw [all_settings_good g, tri_eq]
      rfl
    · unfold rt
      rw [← flatMap_if (fun t => num t == L) e3]
      refine lcGo_enc e3 (fun t => if (num t == L) = true then [e3 t] else []) fun t _ => ?_
      rw [l_1t]
      walk_at "ev"
      rw [show F_find_exposure [e3 t] = .ok (.int (num t)) from exposure_eq _ _ _]
      walk_at "ev"
      cases (num t == L) <;> rfl
  rw [y_fn, st, y_rt, e]
  rfl
end Lw
namespace Lw
open PySem L2 PD
/-! ### order of pairs (number, setting) -/
theorem alike_e3 (t u : T3) : PySem.W.alike (e3 t) (e3 u) = true := by
  simp [e3, PySem.W.alike, PySem.W.alikeAll]
theorem eqv_e3 (t u : T3) : PyData.eqv (e3 t) (e3 u) = decide (t = u) := by
  obtain ⟨x, y, z⟩ := t
  obtain ⟨a, b, c⟩ := u
  unfold e3
  rw [eqv_i3, Bool.eq_iff_iff]
  simp only [Bool.and_eq_true, decide_eq_true_eq, Prod.mk.injEq]
theorem lexNil : PyProof.Rows.lexLt PyProof.Rows.itemOrd (PySem.W.keyToksAll []) (PySem.W.keyToksAll []) = false := by decide +kernel
theorem dataLt_e3 (t u : T3) : PySem.W.dataLt (e3 t) (e3 u) = lt3 t u := by
  obtain ⟨x, y, z⟩ := t
  obtain ⟨a, b, c⟩ := u
  have ai : ∀ i j : Int, PySem.W.alike (.int i) (.int j) = true := fun i j => by simp [PySem.W.alike]
  have ei : ∀ i j : Int, PyData.eqv (.int i) (.int j) = decide (i = j) := fun i j => rfl
  unfold e3 lt3
  dsimp only
  rw [PySem.W.dataLt_tuple, PySem.W.dataLt_cons (ai _ _), PySem.W.dataLt_cons (ai _ _), PySem.W.dataLt_cons (ai _ _), lexNil]
  rw [ei, ei, ei, PySem.W.dataLt_int, PySem.W.dataLt_int, PySem.W.dataLt_int]
  rw [Bool.eq_iff_iff]
  simp only [decide_eq_true_eq]
  by_cases h1 : x = a
  · by_cases h2 : y = b
    · by_cases h3 : z = c
      · simp [h1, h2, h3]
      · simp [h1, h2, h3]
    · simp [h1, h2]
  · simp [h1]
def pr (l : Int) (t : T3) : D := .tuple [.int l, e3 t]
def ltQ (k : T3 → Int) (t u : T3) : Bool := decide (k t < k u ∨ k t = k u ∧ lt3 t u = true)
theorem dataLt_pr (k : T3 → Int) (t u : T3) : PySem.W.dataLt (pr (k t) t) (pr (k u) u) = ltQ k t u := by
  have ai : PySem.W.alike (.int (k t)) (.int (k u)) = true := by simp [PySem.W.alike]
  have ei : PyData.eqv (.int (k t)) (.int (k u)) = decide (k t = k u) := rfl
  unfold pr ltQ
  rw [PySem.W.dataLt_pair ai (alike_e3 t u), ei, eqv_e3, PySem.W.dataLt_int, dataLt_e3, Bool.eq_iff_iff]
  simp only [decide_eq_true_eq]
  by_cases h1 : k t = k u
  · by_cases h2 : t = u
    · subst h2
      have : lt3 t t = false := decide_eq_false (by omega)
      simp [this]
    · simp [h1, h2]
  · simp [h1]
/-- the least of a row -/
def bst (k : T3 → Int) (r : T3) (rs : List T3) : T3 := rs.foldl (fun a t => if ltQ k t a = true then t else a) r
theorem minD_pr (k : T3 → Int) : ∀ (rs : List T3) (r : T3), PySem.W.minD (pr (k r) r) (rs.map fun t => pr (k t) t) = pr (k (bst k r rs)) (bst k r rs)
  | [], r => rfl
  | e :: rs, r => by
    show PySem.W.minD (if PySem.W.dataLt (pr (k e) e) (pr (k r) r) = true then pr (k e) e else pr (k r) r) (rs.map fun t => pr (k t) t) = pr (k (bst k (if ltQ k e r = true then e else r) rs)) (bst k (if ltQ k e r = true then e else r) rs)
    rw [dataLt_pr]
    cases ltQ k e r with
    | true => exact minD_pr k rs e
    | false => exact minD_pr k rs r
theorem bst_spec (k : T3 → Int) : ∀ (rs : List T3) (r : T3), bst k r rs ∈ r :: rs ∧ ∀ t ∈ r :: rs, ltQ k t (bst k r rs) = false
  | [], r => ⟨List.mem_cons_self, fun t ht => by
    rw [List.mem_singleton.mp ht]
    show ltQ k r r = false
    unfold ltQ lt3
    exact decide_eq_false (by simp only [decide_eq_true_eq]; omega)⟩
  | e :: rs, r => by
    have trans : ∀ a b c : T3, ltQ k a b = false → ltQ k b c = false → ltQ k a c = false := fun a b c h1 h2 => by
      unfold ltQ lt3 at *
      simp only [decide_eq_true_eq, decide_eq_false_iff_not] at *
      omega
    have asym : ∀ a b : T3, ltQ k a b = true → ltQ k b a = false := fun a b h1 => by
      unfold ltQ lt3 at *
      simp only [decide_eq_true_eq, decide_eq_false_iff_not] at *
      omega
    have e1 : bst k r (e :: rs) = bst k (if ltQ k e r = true then e else r) rs := rfl
    rw [e1]
    cases h : ltQ k e r with
    | true =>
      obtain ⟨i1, i2⟩ := bst_spec k rs e
      refine ⟨List.mem_cons_of_mem _ i1, fun t ht => ?_⟩
      rcases List.mem_cons.mp ht with q | q
      · subst q
        exact trans _ _ _ (asym _ _ h) (i2 e List.mem_cons_self)
      · exact i2 t q
    | false =>
      obtain ⟨i1, i2⟩ := bst_spec k rs r
      refine ⟨?_, fun t ht => ?_⟩
      · rcases List.mem_cons.mp i1 with q | q
        · show bst k r rs ∈ _
          rw [q]
          exact List.mem_cons_self
        · exact List.mem_cons_of_mem _ (List.mem_cons_of_mem _ q)
      · rcases List.mem_cons.mp ht with q | q
        · subst q
          exact i2 _ List.mem_cons_self
        · rcases List.mem_cons.mp q with q | q
          · subst q
            exact trans _ _ _ h (i2 r List.mem_cons_self)
          · exact i2 t (List.mem_cons_of_mem _ q)
theorem bst_le {k : T3 → Int} {r : T3} {rs : List T3} {t : T3} (h : t ∈ r :: rs) : k (bst k r rs) ≤ k t := by
  have := (bst_spec k rs r).2 t h
  unfold ltQ at this
  simp only [decide_eq_false_iff_not] at this
  omega
theorem canLay_prs (k : T3 → Int) : ∀ ts : List T3, PyData.canLayAll0 (ts.map fun t => pr (k t) t) = true ∧ PyData.depthAll (ts.map fun t => pr (k t) t) ≤ 2
  | [] => ⟨rfl, Nat.zero_le _⟩
  | t :: ts => by
    obtain ⟨h1, h2⟩ := canLay_prs k ts
    refine ⟨?_, ?_⟩
    · show (PyData.canLay0 (pr (k t) t) && PyData.canLayAll0 (ts.map fun t => pr (k t) t)) = true
      rw [h1]
      rfl
    · show max (PyData.depth (pr (k t) t)) (PyData.depthAll (ts.map fun t => pr (k t) t)) ≤ 2
      have : PyData.depth (pr (k t) t) = 2 := rfl
      omega
theorem sh_prs (k : T3 → Int) (ts : List T3) : SeqAt.shaped (.list (ts.map fun t => pr (k t) t)) = true := by
  obtain ⟨h1, h2⟩ := canLay_prs k ts
  show (PyData.canLayAll0 (ts.map fun t => pr (k t) t) && decide (PyData.depthAll (ts.map fun t => pr (k t) t) + 1 ≤ 64)) = true
  rw [h1, decide_eq_true (by omega)]
  rfl
theorem ord_prs (k : T3 → Int) (ts : List T3) : ordOk (ts.map fun t => pr (k t) t) = true := by
  unfold ordOk
  rw [sh_prs]
  have h1 : allAl (ts.map fun t => pr (k t) t) = true := allAl_iff.mpr fun x hx y hy => by
    obtain ⟨t, _, rfl⟩ := List.mem_map.mp hx
    obtain ⟨u, _, rfl⟩ := List.mem_map.mp hy
    simp [pr, PySem.W.alike, PySem.W.alikeAll, alike_e3]
  have h2 : noNone (ts.map fun t => pr (k t) t) = true := List.all_eq_true.mpr fun x hx => by
    obtain ⟨t, _, rfl⟩ := List.mem_map.mp hx
    rfl
  rw [h1, h2]
  rfl
theorem min_prs (k : T3 → Int) (r : T3) (rs : List T3) : gMinD [.list ((r :: rs).map fun t => pr (k t) t)] = .ok (pr (k (bst k r rs)) (bst k r rs)) := by
  have h := ord_prs k (r :: rs)
  rw [List.map_cons] at h ⊢
  unfold gMinD
  dsimp only
  rw [if_pos h, minD_pr]
theorem lt_e3 (t u : T3) : gLtD (e3 t) (e3 u) = .ok (.bool (lt3 t u)) := by
  unfold gLtD
  rw [alike_e3, dataLt_e3]
  rfl
theorem lt_int (i j : Int) : gLtD (.int i) (.int j) = .ok (.bool (decide (i < j))) := by
  unfold gLtD
  rw [show PySem.W.alike (.int i) (.int j) = true by simp [PySem.W.alike], PySem.W.dataLt_int]
  rfl
end Lw
namespace Lw
open PySem L2 PD
/-! ### limits -/
def mx0 (j : Int) : Int := if j > 0 then j else 0
def lackI (u t : T3) : Int := mx0 (u.1 - t.1) + mx0 (u.2.1 - t.2.1) + mx0 (t.2.2 - u.2.2)
theorem find_lack_eq (t u : T3) : F_find_lack [e3 t, e3 u] = .ok (.int (lackI u t)) := by rfl
structure LimB (u : T3) : Prop where
  a0 : 0 ≤ u.1
  a1 : u.1 ≤ 60
  b0 : 0 ≤ u.2.1
  b1 : u.2.1 ≤ 60
  c0 : 0 ≤ u.2.2
  c1 : u.2.2 ≤ 60
theorem check_limits_ok {u : T3} (h : LimB u) : F_check_limits [e3 u] = .ok .none := by
  have e : fLc (fSeq (fVar 0)) [1] [1] hOne fYes (fCall 3 F_is_int (fCons (fVar 1) (fCons (fC (.int 0)) (fCons (fC (.int 60)) fNil)))) [.d (e3 u), .un] = .ok (.list ([true, true, true].map PyData.bool)) := by
    refine x_lc (ds := [.int u.1, .int u.2.1, .int u.2.2]) rfl ?_ (by show 3 < 1000000; decide)
    unfold lcGo lcGo lcGo lcGo
    walk_at "ev"
    simp only [is_int_eq, isIntD_int, decide_eq_true h.a0, decide_eq_true h.a1, decide_eq_true h.b0, decide_eq_true h.b1, decide_eq_true h.c0, decide_eq_true h.c1]
    rfl
  unfold F_check_limits B_check_limits
  have st : startD 2 [e3 u] = [.d (e3 u), .un] := rfl
  rw [y_fn, st, y_if]
  simp only [v_cons, v_nil, w_d, w_un, x_or, x_not, x_test, x_b, x_cons, x_nil, e, bind_ok, x_isi, x_var0]
  rw [all_bools]
  rfl
theorem find_lacks_eq {c : Cam} (g : GoodC c) {u : T3} (h : LimB u) {L : Int} (h1 : -60 ≤ L) (h2 : L ≤ 120) : F_find_lacks [cD c, e3 u, .int L] = .ok (.list ((rt c L).map fun t => pr (lackI u t) t)) := by
  have hl := rt_le g L
  have e : fLc (fSeq (fCall 2 F_find_right (fCons (fVar 0) (fCons (fVar 2) fNil)))) [3] [3] hOne fYes (fTup (fCons (fCall 2 F_find_lack (fCons (fVar 3) (fCons (fVar 1) fNil))) (fCons (fVar 3) fNil))) [.d (cD c), .d (e3 u), .d (.int L), .un] = .ok (.list ((rt c L).map fun t => pr (lackI u t) t)) := by
    refine x_lc (ds := (rt c L).map e3) ?_ ?_ (by rw [List.length_map]; omega)
    · walk_at "ev"
      rw [find_right_good g]
      rfl
    · rw [← flatMap_one (fun t => pr (lackI u t) t)]
      refine lcGo_enc e3 (fun t => [pr (lackI u t) t]) fun t _ => ?_
      walk_at "ev"
      rw [find_lack_eq]
      rfl
  unfold F_find_lacks B_find_lacks
  walk_at "ev"
  simp only [check_camera_good g]
  walk_at "ev"
  simp only [check_limits_ok h]
  walk_at "ev"
  simp only [check_both_ok g h1 h2]
  walk_at "ev"
  rw [e]
  rfl
def al (c : Cam) (u : T3) (L : Int) : List T3 := (rt c L).filter fun t => lackI u t == 0
theorem allowed_eq {c : Cam} (g : GoodC c) {u : T3} (h : LimB u) {L : Int} (h1 : -60 ≤ L) (h2 : L ≤ 120) : F_allowed [cD c, e3 u, .int L] = .ok (.list ((al c u L).map e3)) := by
  have hl := rt_le g L
  have hl2 : (al c u L).length ≤ (rt c L).length := List.length_filter_le _ _
  have e : fLc (fSeq (fCall 3 F_find_lacks (fCons (fVar 0) (fCons (fVar 1) (fCons (fVar 2) fNil))))) [3, 4] [3, 4] (hTup 2) (fTest (fBin gEq (fVar 3) (fC (.int 0)))) (fVar 4) [.d (cD c), .d (e3 u), .d (.int L), .un, .un] = .ok (.list ((al c u L).map e3)) := by
    refine x_lc (ds := (rt c L).map fun t => pr (lackI u t) t) ?_ ?_ (by rw [List.length_map]; omega)
    · walk_at "ev"
      rw [find_lacks_eq g h h1 h2]
      rfl
    · unfold al
      rw [← flatMap_if (fun t => lackI u t == 0) e3]
      refine lcGo_enc (fun t => pr (lackI u t) t) (fun t => if (lackI u t == 0) = true then [e3 t] else []) fun t _ => ?_
      unfold pr
      rw [l_2t]
      walk_at "ev"
      cases (lackI u t == 0) <;> rfl
  unfold F_allowed B_allowed
  have st : startD 5 [cD c, e3 u, PyData.int L] = [.d (cD c), .d (e3 u), .d (.int L), .un, .un] := rfl
  rw [y_fn, st, y_rt, e]
  rfl
def leastD (u : T3) : List T3 → D
  | [] => .none
  | r :: rs => .int (lackI u (bst (lackI u) r rs))
def bestD (u : T3) : List T3 → D
  | [] => .none
  | r :: rs => e3 (bst (lackI u) r rs)
end Lw
namespace Lw
open PySem L2 PD
/-! ### comprehensions and loops, evaluated -/
theorem lc_fm {α : Type} (enc : α → D) (xs : List α) (P : α → Bool) (h : α → D) {src : DEnv → Res (List D)} {own is : List Nat} {hh : D → Option (List D)} {ft : DEnv → Res Bool} {fe : DEnv → Res D} {ρ : DEnv} (h1 : src ρ = .ok (xs.map enc))
    (h2 : ∀ a ∈ xs, lcStep ρ own is hh ft fe (enc a) = .ok (if P a = true then [h a] else [])) (h3 : xs.length < 1000000) : fLc src own is hh ft fe ρ = .ok (.list ((xs.filter P).map h)) := by
  refine x_lc h1 ?_ (by rw [List.length_map]; exact Nat.lt_of_le_of_lt (List.length_filter_le _ _) h3)
  rw [← flatMap_if P h]
  exact lcGo_enc enc (fun a => if P a = true then [h a] else []) h2
theorem lc_m {α : Type} (enc : α → D) (xs : List α) (h : α → D) {src : DEnv → Res (List D)} {own is : List Nat} {hh : D → Option (List D)} {ft : DEnv → Res Bool} {fe : DEnv → Res D} {ρ : DEnv} (h1 : src ρ = .ok (xs.map enc))
    (h2 : ∀ a ∈ xs, lcStep ρ own is hh ft fe (enc a) = .ok [h a]) (h3 : xs.length < 1000000) : fLc src own is hh ft fe ρ = .ok (.list (xs.map h)) := by
  refine x_lc h1 ?_ (by rw [List.length_map]; exact h3)
  rw [← flatMap_one h]
  exact lcGo_enc enc (fun a => [h a]) h2
end Lw
namespace Lw
open PySem L2 PD
theorem iL_app (a b : List Int) : iL (a ++ b) = iL a ++ iL b := List.map_append
theorem iL_map {α : Type} (f : α → Int) (xs : List α) : xs.map (fun x => PyData.int (f x)) = iL (xs.map f) := (List.map_map).symm
theorem iL_len (ns : List Int) : (iL ns).length = ns.length := List.length_map _
theorem maxL_ints {ns : List Int} (h : ns ≠ []) : gMaxL [.list (iL ns)] = .ok (.int (maxI ns)) := by
  unfold gMaxL gIsL
  dsimp only
  rw [asIs_map]
  dsimp only
  cases ns with
  | nil => exact absurd rfl h
  | cons a b => rfl
theorem minL_ints {ns : List Int} (h : ns ≠ []) : gMinL [.list (iL ns)] = .ok (.int (minI ns)) := by
  unfold gMinL gIsL
  dsimp only
  rw [asIs_map]
  dsimp only
  cases ns with
  | nil => exact absurd rfl h
  | cons a b => rfl
end Lw
namespace Lw
open PySem L2 PD
theorem nodup_sub_len {α : Type} [DecidableEq α] : ∀ {xs ys : List α}, xs.Nodup → (∀ x ∈ xs, x ∈ ys) → xs.length ≤ ys.length
  | [], _, _, _ => Nat.zero_le _
  | x :: xs, ys, hn, hs => by
    rw [List.nodup_cons] at hn
    have hx := hs x List.mem_cons_self
    have ih := nodup_sub_len (ys := ys.erase x) hn.2 fun y hy => (List.mem_erase_of_ne (fun (e : y = x) => hn.1 (by rw [← e]; exact hy))).mpr (hs y (List.mem_cons_of_mem _ hy))
    rw [List.length_erase_of_mem hx] at ih
    have : 0 < ys.length := List.length_pos_of_mem hx
    rw [List.length_cons]
    omega
end Lw
namespace Lw
open PySem L2 PD
/-! ### the least of data -/
def best {α : Type} (lt : α → α → Bool) (r : α) (rs : List α) : α := rs.foldl (fun a t => if lt t a = true then t else a) r
theorem best_inv {α : Type} {lt : α → α → Bool} (hi : ∀ x, lt x x = false) (ht : ∀ x y z, lt x y = true → lt y z = true → lt x z = true) : ∀ (rs : List α) (r : α) (seen : List α), (∀ t ∈ seen, lt t r = false) → (best lt r rs = r ∨ best lt r rs ∈ rs) ∧ (∀ t ∈ seen, lt t (best lt r rs) = false) ∧ lt r (best lt r rs) = false ∧ ∀ t ∈ rs, lt t (best lt r rs) = false
  | [], r, seen, hs => ⟨.inl rfl, hs, hi r, fun t h => absurd h List.not_mem_nil⟩
  | e :: rs, r, seen, hs => by
    have hn : ∀ t ∈ e :: r :: seen, lt t (if lt e r = true then e else r) = false := fun t h => by
      split
      · rename_i he
        rcases List.mem_cons.mp h with q | q
        · rw [q]; exact hi e
        · have hr : lt t r = false := by
            rcases List.mem_cons.mp q with z | z
            · rw [z]; exact hi r
            · exact hs t z
          cases hx : lt t e with
          | false => rfl
          | true => rw [ht t e r hx he] at hr; cases hr
      · rename_i he
        rcases List.mem_cons.mp h with q | q
        · rw [q]
          cases hx : lt e r with
          | false => rfl
          | true => exact absurd hx he
        · rcases List.mem_cons.mp q with z | z
          · rw [z]; exact hi r
          · exact hs t z
    obtain ⟨h1, h2, h3, h4⟩ := best_inv hi ht rs (if lt e r = true then e else r) (e :: r :: seen) hn
    show (best lt (if lt e r = true then e else r) rs = r ∨ best lt (if lt e r = true then e else r) rs ∈ e :: rs) ∧ (∀ t ∈ seen, lt t (best lt (if lt e r = true then e else r) rs) = false) ∧ lt r (best lt (if lt e r = true then e else r) rs) = false ∧ ∀ t ∈ e :: rs, lt t (best lt (if lt e r = true then e else r) rs) = false
    refine ⟨?_, fun t h => h2 t (List.mem_cons_of_mem _ (List.mem_cons_of_mem _ h)), h2 r (List.mem_cons_of_mem _ List.mem_cons_self), fun t h => ?_⟩
    · rcases h1 with q | q
      · by_cases he : lt e r = true
        · rw [if_pos he] at q ⊢
          exact .inr (by rw [q]; exact List.mem_cons_self)
        · rw [if_neg he] at q ⊢
          exact .inl q
      · exact .inr (List.mem_cons_of_mem _ q)
    · rcases List.mem_cons.mp h with q | q
      · rw [q]; exact h2 e List.mem_cons_self
      · exact h4 t q
theorem best_spec {α : Type} {lt : α → α → Bool} (hi : ∀ x, lt x x = false) (ht : ∀ x y z, lt x y = true → lt y z = true → lt x z = true) (rs : List α) (r : α) : best lt r rs ∈ r :: rs ∧ ∀ t ∈ r :: rs, lt t (best lt r rs) = false := by
  obtain ⟨h1, _, h3, h4⟩ := best_inv hi ht rs r [] (fun t h => absurd h List.not_mem_nil)
  refine ⟨?_, fun t h => ?_⟩
  · rcases h1 with q | q
    · rw [q]; exact List.mem_cons_self
    · exact List.mem_cons_of_mem _ q
  · rcases List.mem_cons.mp h with q | q
    · rw [q]; exact h3
    · exact h4 t q
theorem minD_gen {α : Type} {enc : α → D} {lt : α → α → Bool} (h : ∀ x y, PySem.W.dataLt (enc x) (enc y) = lt x y) : ∀ (rs : List α) (r : α), PySem.W.minD (enc r) (rs.map enc) = enc (best lt r rs)
  | [], r => rfl
  | e :: rs, r => by
    show PySem.W.minD (if PySem.W.dataLt (enc e) (enc r) = true then enc e else enc r) (rs.map enc) = enc (best lt (if lt e r = true then e else r) rs)
    rw [h]
    cases lt e r with
    | true => exact minD_gen h rs e
    | false => exact minD_gen h rs r
theorem gMinD_gen {α : Type} {enc : α → D} {lt : α → α → Bool} (h : ∀ x y, PySem.W.dataLt (enc x) (enc y) = lt x y) (r : α) (rs : List α) (ho : ordOk ((r :: rs).map enc) = true) : gMinD [.list ((r :: rs).map enc)] = .ok (enc (best lt r rs)) := by
  rw [List.map_cons] at ho ⊢
  unfold gMinD
  dsimp only
  rw [if_pos ho, minD_gen h]
/-- pairs of ints -/
def p2 (k : Int → Int) (n : Int) : D := .tuple [.int (k n), .int n]
def lt2 (k : Int → Int) (n m : Int) : Bool := decide (k n < k m ∨ k n = k m ∧ n < m)
theorem dataLt_p2 (k : Int → Int) (n m : Int) : PySem.W.dataLt (p2 k n) (p2 k m) = lt2 k n m := by
  have ai : ∀ i j : Int, PySem.W.alike (.int i) (.int j) = true := fun i j => by simp [PySem.W.alike]
  have ei : ∀ i j : Int, PyData.eqv (.int i) (.int j) = decide (i = j) := fun i j => rfl
  unfold p2 lt2
  rw [PySem.W.dataLt_pair (ai _ _) (ai _ _), ei, ei, PySem.W.dataLt_int, PySem.W.dataLt_int, Bool.eq_iff_iff]
  simp only [decide_eq_true_eq]
  by_cases h1 : k n = k m
  · by_cases h2 : n = m
    · subst h2
      simp
    · simp [h1, h2]
  · simp [h1]
theorem ord_p2 (k : Int → Int) (ns : List Int) : ordOk (ns.map (p2 k)) = true := by
  unfold ordOk
  have hs : SeqAt.shaped (.list (ns.map (p2 k))) = true := by
    have q : PyData.canLayAll0 (ns.map (p2 k)) = true ∧ PyData.depthAll (ns.map (p2 k)) ≤ 1 := by
      induction ns with
      | nil => exact ⟨rfl, Nat.zero_le _⟩
      | cons n ns ih =>
        refine ⟨?_, ?_⟩
        · show (PyData.canLay0 (p2 k n) && PyData.canLayAll0 (ns.map (p2 k))) = true
          rw [ih.1]
          rfl
        · show max (PyData.depth (p2 k n)) (PyData.depthAll (ns.map (p2 k))) ≤ 1
          have : PyData.depth (p2 k n) = 1 := rfl
          omega
    show (PyData.canLayAll0 (ns.map (p2 k)) && decide (PyData.depthAll (ns.map (p2 k)) + 1 ≤ 64)) = true
    rw [q.1, decide_eq_true (by omega)]
    rfl
  have h1 : allAl (ns.map (p2 k)) = true := allAl_iff.mpr fun x hx y hy => by
    obtain ⟨t, _, rfl⟩ := List.mem_map.mp hx
    obtain ⟨u, _, rfl⟩ := List.mem_map.mp hy
    simp [p2, PySem.W.alike, PySem.W.alikeAll]
  have h2 : noNone (ns.map (p2 k)) = true := List.all_eq_true.mpr fun x hx => by
    obtain ⟨t, _, rfl⟩ := List.mem_map.mp hx
    rfl
  rw [h1, h2, hs]
  rfl
theorem best2_spec (k : Int → Int) (rs : List Int) (r : Int) : best (lt2 k) r rs ∈ r :: rs ∧ ∀ t ∈ r :: rs, lt2 k t (best (lt2 k) r rs) = false := best_spec (lt := lt2 k) (fun x => decide_eq_false (by omega)) (fun x y z h1 h2 => by
  unfold lt2 at *
  simp only [decide_eq_true_eq] at *
  omega) rs r
end Lw
namespace Lw
open PySem L2 PD
/-! ### the order of plans: (number of clicks, settings) -/
def ltL : List T3 → List T3 → Bool
  | [], [] => false
  | [], _ :: _ => true
  | _ :: _, [] => false
  | t :: ts, u :: us => if t = u then ltL ts us else lt3 t u
theorem lex_plan : ∀ ts us : List T3, PyProof.Rows.lexLt PyProof.Rows.itemOrd (PySem.W.keyToksAll (ts.map e3)) (PySem.W.keyToksAll (us.map e3)) = ltL ts us
  | [], [] => lexNil
  | [], u :: us => by
    show PyProof.Rows.lexLt PyProof.Rows.itemOrd [.inl 0] (.inl 1 :: _) = true
    rw [PyProof.Rows.lex_cons]
    rfl
  | t :: ts, [] => by
    show PyProof.Rows.lexLt PyProof.Rows.itemOrd (.inl 1 :: _) [.inl 0] = false
    rw [PyProof.Rows.lex_cons]
    rfl
  | t :: ts, u :: us => by
    rw [List.map_cons, List.map_cons, PySem.W.dataLt_cons (alike_e3 t u), lex_plan ts us, eqv_e3, dataLt_e3]
    show _ = if t = u then ltL ts us else lt3 t u
    by_cases h : t = u
    · rw [if_pos (decide_eq_true h), if_pos h]
    · rw [if_neg (by rw [decide_eq_false h]; decide), if_neg h]
theorem alike_plan : ∀ ts us : List T3, PySem.W.alikeAll (ts.map e3) (us.map e3) = true
  | [], _ => by rw [List.map_nil, PySem.W.alikeAll]
  | _ :: _, [] => by rw [List.map_nil, List.map_cons, PySem.W.alikeAll]
  | t :: ts, u :: us => by
    rw [List.map_cons, List.map_cons, PySem.W.alikeAll, alike_e3, alike_plan ts us]
    rfl
theorem lt3_tot {t u : T3} (h1 : lt3 t u = false) (h2 : lt3 u t = false) : t = u := by
  obtain ⟨x, y, z⟩ := t
  obtain ⟨a, b, c⟩ := u
  unfold lt3 at h1 h2
  simp only [decide_eq_false_iff_not] at h1 h2
  have e1 : x = a := by omega
  have e2 : y = b := by omega
  have e3 : z = c := by omega
  rw [e1, e2, e3]
theorem lt3_ir (t : T3) : lt3 t t = false := by
  unfold lt3
  simp
theorem lt3_tr {t u v : T3} (h1 : lt3 t u = true) (h2 : lt3 u v = true) : lt3 t v = true := by
  unfold lt3 at *
  simp only [decide_eq_true_eq] at *
  omega
theorem ltL_ir : ∀ ts : List T3, ltL ts ts = false
  | [] => rfl
  | t :: ts => by
    show (if t = t then ltL ts ts else lt3 t t) = false
    rw [if_pos rfl, ltL_ir ts]
theorem ltL_tr : ∀ ts us vs : List T3, ltL ts us = true → ltL us vs = true → ltL ts vs = true
  | [], [], _, h, _ => by cases h
  | [], _ :: _, [], _, h => by cases h
  | [], _ :: _, _ :: _, _, _ => rfl
  | _ :: _, [], _, h, _ => by cases h
  | _ :: _, _ :: _, [], _, h => by cases h
  | t :: ts, u :: us, v :: vs, h1, h2 => by
    have h1 : (if t = u then ltL ts us else lt3 t u) = true := h1
    have h2 : (if u = v then ltL us vs else lt3 u v) = true := h2
    show (if t = v then ltL ts vs else lt3 t v) = true
    by_cases a : t = u
    · subst a
      rw [if_pos rfl] at h1
      by_cases b : t = v
      · rw [if_pos b] at h2 ⊢
        exact ltL_tr ts us vs h1 h2
      · rw [if_neg b] at h2 ⊢
        exact h2
    · rw [if_neg a] at h1
      by_cases b : u = v
      · subst b
        rw [if_neg a]
        exact h1
      · rw [if_neg b] at h2
        have h3 := lt3_tr h1 h2
        have : t ≠ v := fun z => by subst z; rw [lt3_ir] at h3; cases h3
        rw [if_neg this]
        exact h3
theorem ltL_tot : ∀ ts us : List T3, ltL ts us = false → ltL us ts = false → ts = us
  | [], [], _, _ => rfl
  | [], _ :: _, h, _ => by cases h
  | _ :: _, [], _, h => by cases h
  | t :: ts, u :: us, h1, h2 => by
    have h1 : (if t = u then ltL ts us else lt3 t u) = false := h1
    have h2 : (if u = t then ltL us ts else lt3 u t) = false := h2
    by_cases a : t = u
    · subst a
      rw [if_pos rfl] at h1 h2
      rw [ltL_tot ts us h1 h2]
    · rw [if_neg a] at h1
      rw [if_neg (fun z => a z.symm)] at h2
      exact absurd (lt3_tot h1 h2) a
abbrev Pl := Int × List T3
def qT (q : Pl) : D := .tuple [.int q.1, .tuple (q.2.map e3)]
def qL (q : Pl) : D := .tuple [.int q.1, .list (q.2.map e3)]
def ltP (p q : Pl) : Bool := decide (p.1 < q.1 ∨ p.1 = q.1 ∧ ltL p.2 q.2 = true)
theorem ltP_ir (p : Pl) : ltP p p = false := by
  unfold ltP
  rw [ltL_ir]
  simp
theorem ltP_tr (p q r : Pl) (h1 : ltP p q = true) (h2 : ltP q r = true) : ltP p r = true := by
  unfold ltP at *
  simp only [decide_eq_true_eq] at *
  rcases h1 with a | ⟨a, b⟩
  · rcases h2 with c | ⟨c, d⟩
    · left; omega
    · left; omega
  · rcases h2 with c | ⟨c, d⟩
    · left; omega
    · exact .inr ⟨by omega, ltL_tr _ _ _ b d⟩
theorem ltP_tot {p q : Pl} (h1 : ltP p q = false) (h2 : ltP q p = false) : p = q := by
  unfold ltP at h1 h2
  simp only [decide_eq_false_iff_not] at h1 h2
  have e : p.1 = q.1 := by omega
  have e2 : p.2 = q.2 := ltL_tot _ _ (by
    cases h : ltL p.2 q.2 with
    | false => rfl
    | true => exact absurd (.inr ⟨e, h⟩) h1) (by
    cases h : ltL q.2 p.2 with
    | false => rfl
    | true => exact absurd (.inr ⟨e.symm, h⟩) h2)
  exact Prod.ext e e2
theorem lt_pair {a b : Int} {x y : D} (h' : PySem.W.alike x y = true) (hv : PyData.eqv x y = true → PySem.W.dataLt x y = false) : PySem.W.dataLt (.tuple [.int a, x]) (.tuple [.int b, y]) = decide (a < b ∨ a = b ∧ PySem.W.dataLt x y = true) := by
  have ai : PySem.W.alike (.int a) (.int b) = true := by simp [PySem.W.alike]
  have ei : PyData.eqv (.int a) (.int b) = decide (a = b) := rfl
  rw [PySem.W.dataLt_pair ai h', ei, PySem.W.dataLt_int, Bool.eq_iff_iff]
  simp only [decide_eq_true_eq]
  by_cases h : a = b
  · rw [if_pos h]
    by_cases q : PyData.eqv x y = true
    · rw [if_pos q, hv q]
      simp [h]
    · rw [if_neg q]
      simp [h]
  · rw [if_neg h]
    simp [h]
end Lw
namespace Lw
open PySem L2 PD
theorem eqv_plan : ∀ ts us : List T3, PyData.eqvAll (ts.map e3) (us.map e3) = true → ltL ts us = false
  | [], [], _ => rfl
  | [], _ :: _, h => by cases h
  | _ :: _, [], h => by cases h
  | t :: ts, u :: us, h => by
    have h : (PyData.eqv (e3 t) (e3 u) && PyData.eqvAll (ts.map e3) (us.map e3)) = true := h
    obtain ⟨h1, h2⟩ := and_split h
    rw [eqv_e3] at h1
    have h1 := of_decide_eq_true h1
    show (if t = u then ltL ts us else lt3 t u) = false
    rw [if_pos h1, eqv_plan ts us h2]
theorem dataLt_qT (p q : Pl) : PySem.W.dataLt (qT p) (qT q) = ltP p q := by
  unfold qT ltP
  rw [lt_pair (by show PySem.W.alikeAll _ _ = true; exact alike_plan _ _) (fun h => ?_), PySem.W.dataLt_tuple, lex_plan]
  rw [PySem.W.dataLt_tuple, lex_plan]
  exact eqv_plan _ _ h
theorem dataLt_qL (p q : Pl) : PySem.W.dataLt (qL p) (qL q) = ltP p q := by
  unfold qL ltP
  rw [lt_pair (by show PySem.W.alikeAll _ _ = true; exact alike_plan _ _) (fun h => ?_), PySem.W.dataLt_list, lex_plan]
  rw [PySem.W.dataLt_list, lex_plan]
  exact eqv_plan _ _ h
theorem lay_t3 (ts : List T3) : PyData.canLayAll0 (ts.map e3) = true ∧ PyData.depthAll (ts.map e3) ≤ 1 := by
  induction ts with
  | nil => exact ⟨rfl, Nat.zero_le _⟩
  | cons t ts ih =>
    refine ⟨?_, ?_⟩
    · show (PyData.canLay0 (e3 t) && PyData.canLayAll0 (ts.map e3)) = true
      rw [ih.1]
      rfl
    · show max (PyData.depth (e3 t)) (PyData.depthAll (ts.map e3)) ≤ 1
      have : PyData.depth (e3 t) = 1 := rfl
      omega
theorem ord_q {f : Pl → D} (hf : f = qT ∨ f = qL) (qs : List Pl) : ordOk (qs.map f) = true := by
  have hl : ∀ q, PyData.canLay0 (f q) = true ∧ PyData.depth (f q) ≤ 3 := fun q => by
    obtain ⟨a, b⟩ := lay_t3 q.2
    rcases hf with rfl | rfl
    · refine ⟨?_, ?_⟩
      · show (PyData.canLay0 (.int q.1) && (PyData.canLayAll0 (q.2.map e3) && true)) = true
        rw [a]
        rfl
      · show max 0 (max (PyData.depthAll (q.2.map e3) + 1) 0) + 1 ≤ 3
        omega
    · refine ⟨?_, ?_⟩
      · show (PyData.canLay0 (.int q.1) && (PyData.canLayAll0 (q.2.map e3) && true)) = true
        rw [a]
        rfl
      · show max 0 (max (PyData.depthAll (q.2.map e3) + 1) 0) + 1 ≤ 3
        omega
  unfold ordOk
  have hs : SeqAt.shaped (.list (qs.map f)) = true := by
    have q : PyData.canLayAll0 (qs.map f) = true ∧ PyData.depthAll (qs.map f) ≤ 3 := by
      induction qs with
      | nil => exact ⟨rfl, Nat.zero_le _⟩
      | cons n ns ih =>
        refine ⟨?_, ?_⟩
        · show (PyData.canLay0 (f n) && PyData.canLayAll0 (ns.map f)) = true
          rw [ih.1, (hl n).1]
          rfl
        · show max (PyData.depth (f n)) (PyData.depthAll (ns.map f)) ≤ 3
          have := (hl n).2
          omega
    show (PyData.canLayAll0 (qs.map f) && decide (PyData.depthAll (qs.map f) + 1 ≤ 64)) = true
    rw [q.1, decide_eq_true (by omega)]
    rfl
  have h1 : allAl (qs.map f) = true := allAl_iff.mpr fun x hx y hy => by
    obtain ⟨t, _, rfl⟩ := List.mem_map.mp hx
    obtain ⟨u, _, rfl⟩ := List.mem_map.mp hy
    rcases hf with rfl | rfl
    · simp [qT, PySem.W.alike, PySem.W.alikeAll, alike_plan]
    · simp [qL, PySem.W.alike, PySem.W.alikeAll, alike_plan]
  have h2 : noNone (qs.map f) = true := List.all_eq_true.mpr fun x hx => by
    obtain ⟨t, _, rfl⟩ := List.mem_map.mp hx
    rcases hf with rfl | rfl <;> rfl
  rw [h1, h2, hs]
  rfl
/-- the least of plans -/
def bestP : Pl → List Pl → Pl := best ltP
theorem bestP_spec (r : Pl) (rs : List Pl) : bestP r rs ∈ r :: rs ∧ ∀ t ∈ r :: rs, ltP t (bestP r rs) = false := best_spec ltP_ir ltP_tr rs r
theorem minT_q (r : Pl) (rs : List Pl) : gMinD [.list ((r :: rs).map qT)] = .ok (qT (bestP r rs)) := gMinD_gen dataLt_qT r rs (ord_q (.inl rfl) _)
theorem minL_q (r : Pl) (rs : List Pl) : gMinD [.list ((r :: rs).map qL)] = .ok (qL (bestP r rs)) := gMinD_gen dataLt_qL r rs (ord_q (.inr rfl) _)
/-! ### clicks between settings -/
def absC (i : Int) : Int := if i < 0 then -i else i
def cl (c : Cam) (t u : T3) : Int := absC (t.1 - u.1) / c.s1 + absC (t.2.1 - u.2.1) / c.s2 + absC (t.2.2 - u.2.2) / c.s3
/-- the clicks of a plan -/
def cost (c : Cam) : List T3 → Int
  | t :: u :: r => cl c t u + cost c (u :: r)
  | _ => 0
end Lw
namespace Lw
open PySem L2 PD
theorem ltP_nlt {a b d : Pl} (h1 : ltP a b = false) (h2 : ltP b d = false) : ltP a d = false := by
  cases h : ltP a d with
  | false => rfl
  | true =>
    cases q : ltP b a with
    | true => rw [ltP_tr b a d q h] at h2; cases h2
    | false =>
      have := ltP_tot h1 q
      subst this
      rw [h2] at h
      cases h
def PlOK (c : Cam) : List Int → List T3 → Prop
  | [], [] => True
  | p :: ps, t :: ts => t ∈ rt c p ∧ PlOK c ps ts
  | _, _ => False
def extP (c : Cam) (s : T3) (q : Pl) : Pl := (q.1 + cl c s (q.2.headD (0, 0, 0)), s :: q.2)
def rowP (c : Cam) (s : T3) : List Pl → List Pl
  | [] => []
  | f :: fs => [bestP (extP c s f) (fs.map (extP c s))]
def FP (c : Cam) : List Int → List Pl
  | [] => []
  | [p] => (rt c p).map fun s => (0, [s])
  | p :: q :: r => (rt c p).flatMap fun s => rowP c s (FP c (q :: r))
theorem rowP_in {c : Cam} {s : T3} {fs : List Pl} {q : Pl} (h : q ∈ rowP c s fs) : ∃ f ∈ fs, q = extP c s f := by
  cases fs with
  | nil => exact absurd h List.not_mem_nil
  | cons f fs =>
    have := List.mem_singleton.mp h
    subst this
    have hm := (bestP_spec (extP c s f) (fs.map (extP c s))).1
    rw [← List.map_cons] at hm
    obtain ⟨e, he, ee⟩ := List.mem_map.mp hm
    exact ⟨e, he, ee.symm⟩
theorem rowP_le {c : Cam} {s : T3} {fs : List Pl} {f : Pl} (h : f ∈ fs) : ∃ q ∈ rowP c s fs, ltP (extP c s f) q = false := by
  cases fs with
  | nil => exact absurd h List.not_mem_nil
  | cons f' fs => exact ⟨_, List.mem_singleton.mpr rfl, (bestP_spec (extP c s f') (fs.map (extP c s))).2 _ (by rw [← List.map_cons]; exact List.mem_map.mpr ⟨f, h, rfl⟩)⟩
theorem PlOK_len {c : Cam} : ∀ {ps : List Int} {ts : List T3}, PlOK c ps ts → ts.length = ps.length
  | [], [], _ => rfl
  | _ :: ps, _ :: ts, h => congrArg (· + 1) (PlOK_len h.2)
  | [], _ :: _, h => h.elim
  | _ :: _, [], h => h.elim
theorem cost_cons (c : Cam) (s : T3) {ts : List T3} (h : ts ≠ []) : cost c (s :: ts) = cl c s (ts.headD (0, 0, 0)) + cost c ts := by
  cases ts with
  | nil => exact absurd rfl h
  | cons t ts => rfl
theorem FP_ok (c : Cam) : ∀ (ps : List Int) (q : Pl), q ∈ FP c ps → PlOK c ps q.2 ∧ q.1 = cost c q.2
  | [], q, h => absurd h List.not_mem_nil
  | [p], q, h => by
    obtain ⟨s, hs, rfl⟩ := List.mem_map.mp h
    exact ⟨⟨hs, trivial⟩, rfl⟩
  | p :: p2 :: r, q, h => by
    obtain ⟨s, hs, hq⟩ := List.mem_flatMap.mp h
    obtain ⟨f, hf, rfl⟩ := rowP_in hq
    obtain ⟨i1, i2⟩ := FP_ok c (p2 :: r) f hf
    refine ⟨⟨hs, i1⟩, ?_⟩
    have hne : f.2 ≠ [] := fun z => by
      have := PlOK_len i1
      rw [z] at this
      cases this
    show f.1 + cl c s (f.2.headD (0, 0, 0)) = cost c (s :: f.2)
    rw [cost_cons c s hne, i2]
    omega
theorem FP_least (c : Cam) : ∀ (ps : List Int) (pl : List T3), ps ≠ [] → PlOK c ps pl → ∃ q ∈ FP c ps, q.2.headD (0, 0, 0) = pl.headD (0, 0, 0) ∧ ltP (cost c pl, pl) q = false
  | [], _, h, _ => absurd rfl h
  | [p], [], _, h => h.elim
  | [p], [s], _, h => ⟨(0, [s]), List.mem_map.mpr ⟨s, h.1, rfl⟩, rfl, ltP_ir _⟩
  | [p], _ :: _ :: _, _, h => h.2.elim
  | p :: p2 :: r, [], _, h => h.elim
  | p :: p2 :: r, s :: pl, _, h => by
    obtain ⟨f, hf, f1, f2⟩ := FP_least c (p2 :: r) pl (by simp) h.2
    obtain ⟨q, hq, hlt⟩ := rowP_le (c := c) (s := s) hf
    obtain ⟨e, _, rfl⟩ := rowP_in hq
    refine ⟨_, List.mem_flatMap.mpr ⟨s, h.1, hq⟩, rfl, ltP_nlt ?_ hlt⟩
    have hne : pl ≠ [] := fun z => by
      have := PlOK_len h.2
      rw [z] at this
      cases this
    rw [cost_cons c s hne]
    unfold ltP at f2 ⊢
    simp only [decide_eq_false_iff_not] at f2 ⊢
    unfold extP
    dsimp only at f2 ⊢
    rw [f1]
    have e : ltL (s :: pl) (s :: f.2) = ltL pl f.2 := by
      show (if s = s then ltL pl f.2 else lt3 s s) = _
      rw [if_pos rfl]
    rw [e]
    rintro (z | ⟨z1, z2⟩)
    · exact f2 (.inl (by omega))
    · exact f2 (.inr ⟨by omega, z2⟩)
theorem FP_ne {c : Cam} {ps : List Int} (hp : ps ≠ []) : FP c ps ≠ [] ↔ ∀ p ∈ ps, rt c p ≠ [] := by
  constructor
  · intro h p hpm
    obtain ⟨q, hq⟩ := List.exists_mem_of_ne_nil _ h
    have := (FP_ok c ps q hq).1
    have aux : ∀ (ps : List Int) (ts : List T3), PlOK c ps ts → ∀ p ∈ ps, rt c p ≠ [] := by
      intro ps
      induction ps with
      | nil => intro ts _ p h; exact absurd h List.not_mem_nil
      | cons a ps ih =>
        intro ts h p hp
        cases ts with
        | nil => exact h.elim
        | cons t ts =>
          rcases List.mem_cons.mp hp with z | z
          · rw [z]; exact List.ne_nil_of_mem h.1
          · exact ih ts h.2 p z
    exact aux ps q.2 this p hpm
  · intro h
    have aux : ∀ ps : List Int, (∀ p ∈ ps, rt c p ≠ []) → ∃ ts, PlOK c ps ts := by
      intro ps
      induction ps with
      | nil => intro _; exact ⟨[], trivial⟩
      | cons a ps ih =>
        intro h
        obtain ⟨t, ht⟩ := List.exists_mem_of_ne_nil _ (h a List.mem_cons_self)
        obtain ⟨ts, hts⟩ := ih fun p hp => h p (List.mem_cons_of_mem _ hp)
        exact ⟨t :: ts, ht, hts⟩
    obtain ⟨ts, hts⟩ := aux ps h
    obtain ⟨q, hq, _⟩ := FP_least c ps ts hp hts
    exact List.ne_nil_of_mem hq
end Lw
namespace Lw
open PySem L2 PD
theorem count_clicks_eq {c : Cam} (g : GoodC c) (t u : T3) : F_count_clicks [cD c, e3 t, e3 u] = .ok (.int (cl c t u)) := by
  obtain ⟨x, y, z⟩ := t
  obtain ⟨a, b, d⟩ := u
  have st : ∀ (k l m s p q : Int) (r4 r5 r6 : Slot) (c0 c1 c2 : D), 1 ≤ s → s ≤ 3 → L_count_clicks_0 [.d c0, .d c1, .d c2, .d (.int k), .d (wD l m s), .d (.int p), .d (.int q)] = .next [.d c0, .d c1, .d c2, .d (.int (k + absC (p - q) / s)), .d (wD l m s), .d (.int p), .d (.int q)] := fun k l m s p q r4 r5 r6 c0 c1 c2 hs hs3 => by
    unfold L_count_clicks_0
    walk_at "ev"
    rw [show gAbs [.int (p - q)] = .ok (.int (absC (p - q))) from rfl]
    walk_at "ev"
    rw [g_div (show divOk _ _ = true by unfold divOk; simp; omega)]
    walk_at "ev"
  unfold F_count_clicks B_count_clicks
  have s0 : startD 7 [cD c, e3 (x, y, z), e3 (a, b, d)] = [.d (cD c), .d (e3 (x, y, z)), .d (e3 (a, b, d)), .un, .un, .un, .un] := rfl
  rw [y_fn, s0]
  walk_at "ev"
  rw [y_for (ds := [.tuple [wD c.l1 c.m1 c.s1, .int x, .int a], .tuple [wD c.l2 c.m2 c.s2, .int y, .int b], .tuple [wD c.l3 c.m3 c.s3, .int z, .int d]]) rfl]
  rw [f_cons rfl (st 0 _ _ _ _ _ .un .un .un _ _ _ g.w1.s0 g.w1.s1), f_cons rfl (st _ _ _ _ _ _ .un .un .un _ _ _ g.w2.s0 g.w2.s1), f_cons rfl (st _ _ _ _ _ _ .un .un .un _ _ _ g.w3.s0 g.w3.s1), f_nil]
  walk_at "ev"
  unfold cl
  dsimp only
  rw [Int.zero_add]
end Lw
namespace Lw
open PySem L2 PD
def rowQ (c : Cam) (s : T3) (done : List Int) : List Pl := if done = [] then [(0, [s])] else rowP c s (FP c done)
theorem FP_cons (c : Cam) (p : Int) (done : List Int) : FP c (p :: done) = (rt c p).flatMap fun s => rowQ c s done := by
  cases done with
  | nil =>
    show (rt c p).map (fun s => ((0, [s]) : Pl)) = (rt c p).flatMap fun s => [(0, [s])]
    induction rt c p with
    | nil => rfl
    | cons a b ih => rw [List.map_cons, List.flatMap_cons, ih]; rfl
  | cons q r =>
    show ((rt c p).flatMap fun s => rowP c s (FP c (q :: r))) = (rt c p).flatMap fun s => rowQ c s (q :: r)
    refine congrArg (fun f => (rt c p).flatMap f) (funext fun s => ?_)
    unfold rowQ
    rw [if_neg (List.cons_ne_nil q r)]
theorem rowQ_len (c : Cam) (s : T3) (done : List Int) : (rowQ c s done).length ≤ 1 := by
  unfold rowQ
  split
  · exact Nat.le_refl _
  · cases FP c done with
    | nil => exact Nat.zero_le _
    | cons f fs => exact Nat.le_refl _
theorem FP_len {c : Cam} (g : GoodC c) (ps : List Int) : (FP c ps).length ≤ 2197 := by
  cases ps with
  | nil => exact Nat.zero_le _
  | cons p done =>
    rw [FP_cons]
    have aux : ∀ l : List T3, (l.flatMap fun s => rowQ c s done).length ≤ l.length := by
      intro l
      induction l with
      | nil => exact Nat.le_refl _
      | cons a b ih =>
        rw [List.flatMap_cons, List.length_append, List.length_cons]
        have := rowQ_len c a done
        omega
    have := aux (rt c p)
    have := rt_le g p
    omega
theorem FP_plan_len {c : Cam} {ps : List Int} {q : Pl} (h : q ∈ FP c ps) : q.2.length = ps.length := PlOK_len (FP_ok c ps q h).1
theorem ix_head {ts : List T3} (h : ts ≠ []) : gIx (.tuple (ts.map e3)) (.int 0) = .ok (e3 (ts.headD (0, 0, 0))) := by
  cases ts with
  | nil => exact absurd rfl h
  | cons t ts => rfl
theorem add_T1 (s : T3) {ts : List T3} (h : ts.length ≤ 100) : gAdd (.tuple [e3 s]) (.tuple (ts.map e3)) = .ok (.tuple ((s :: ts).map e3)) := by
  unfold gAdd
  dsimp only
  rw [if_pos (by rw [List.length_map]; exact decide_eq_true (by simp only [List.length_cons, List.length_nil]; omega))]
  rfl
theorem mkT2 (a b : D) : mkT [a, b] = .ok (.tuple [a, b]) := rfl
def bR : List Pl → List Pl
  | [] => []
  | r :: rs => [bestP r rs]
theorem rowP_bR (c : Cam) (s : T3) (fs : List Pl) : rowP c s fs = bR (fs.map (extP c s)) := by cases fs <;> rfl
theorem tail_row (R acc : List Pl) (ha : acc.length ≤ 10000) (e0 e1 e2 e3' e4 e6 e8 e9 : Slot) :
    sAsg (fBin gAdd (fVar 5) (fIf (fTest (fBin gNe (fVar 7) (fLst fNil))) (fLst (fCons (fB gMinD (fCons (fVar 7) fNil)) fNil)) (fLst fNil))) [5] hOne [e0, e1, e2, e3', e4, .d (.list (acc.map qT)), e6, .d (.list (R.map qT)), e8, e9] = .next [e0, e1, e2, e3', e4, .d (.list ((acc ++ bR R).map qT)), e6, .d (.list (R.map qT)), e8, e9] := by
  have hs : SeqAt.shaped (.list (R.map qT)) = true := by
    obtain ⟨_, p2, p3⟩ := ord_parts (ord_q (f := qT) (.inl rfl) R)
    show (PyData.canLayAll0 (R.map qT) && decide (PyData.depthAll (R.map qT) + 1 ≤ 64)) = true
    rw [p2, decide_eq_true (by omega)]
    rfl
  walk_at "ev"
  rw [ne_nilD hs]
  walk_at "ev"
  cases R with
  | nil =>
    show ofRes ((Res.ok (PyData.list [])).bind fun b => gAdd (.list (acc.map qT)) b) _ = _
    rw [bind_ok, g_addL' (by rw [List.length_map]; simp only [List.length_nil]; omega)]
    show SR.next _ = SR.next _
    rw [List.append_nil, show acc ++ bR [] = acc from List.append_nil _]
  | cons r rs =>
    rw [show (!((r :: rs).map qT).isEmpty) = true from rfl]
    walk_at "ev"
    rw [show qT r :: rs.map qT = (r :: rs).map qT from rfl, minT_q]
    walk_at "ev"
    rw [g_addL' (by rw [List.length_map]; simp only [List.length_cons, List.length_nil]; omega)]
    walk_at "ev"
    rw [List.map_append]
    rfl
theorem plans_in {c : Cam} (g : GoodC c) {done : List Int} (hd : done.length ≤ 10) (s : T3) (acc : List Pl) (ha : acc.length ≤ 10000) (parts part : D) (s7 s8 s9 : Slot) :
    ∃ t7, L_find_plans_0 [.d (cD c), .d parts, .d (.list ((FP c done).map qT)), .d (.int (done.length : Nat)), .d part, .d (.list (acc.map qT)), .d (e3 s), s7, s8, s9] = .next [.d (cD c), .d parts, .d (.list ((FP c done).map qT)), .d (.int (done.length : Nat)), .d part, .d (.list ((acc ++ rowQ c s done).map qT)), .d (e3 s), t7, s8, s9] := by
  have hl := FP_len g done
  have hrow : fLc (fSeq (fVar 2)) [8, 9] [8, 9] (hTup 2) fYes (fTup (fCons (fBin gAdd (fVar 8) (fCall 3 F_count_clicks (fCons (fVar 0) (fCons (fVar 6) (fCons (fBin gIx (fVar 9) (fC (.int 0))) fNil))))) (fCons (fBin gAdd (fTup (fCons (fVar 6) fNil)) (fVar 9)) fNil))) [.d (cD c), .d parts, .d (.list ((FP c done).map qT)), .d (.int (done.length : Nat)), .d part, .d (.list (acc.map qT)), .d (e3 s), s7, s8, s9] = .ok (.list (((FP c done).map (extP c s)).map qT)) := by
    rw [lc_m qT (FP c done) (fun q => qT (extP c s q)) rfl ?_ (by omega), List.map_map]
    · rfl
    · intro q hq
      have hq2 := FP_plan_len hq
      have hne : q.2 ≠ [] := fun z => by
        cases done with
        | nil => exact absurd hq List.not_mem_nil
        | cons a b => rw [z] at hq2; cases hq2
      show lcStep _ _ _ _ _ _ (.tuple [.int q.1, .tuple (q.2.map e3)]) = _
      rw [l_2]
      walk_at "ev"
      rw [ix_head hne]
      walk_at "ev"
      rw [count_clicks_eq g]
      walk_at "ev"
      rw [add_T1 s (by omega)]
      walk_at "ev"
      rfl
  have hr2 := rowQ_len c s done
  unfold L_find_plans_0
  rw [y_seq, y_as1, hrow]
  walk_at "ev"
  by_cases hdn : done = []
  · refine ⟨.d (.list ([((0, [s]) : Pl)].map qT)), ?_⟩
    rw [show (((done.length : Nat) : Int) == 0) = true from by rw [hdn]; rfl]
    walk_at "ev"
    have := tail_row [((0, [s]) : Pl)] acc ha (.d (cD c)) (.d parts) (.d (.list ((FP c done).map qT))) (.d (.int (done.length : Nat))) (.d part) (.d (e3 s)) s8 s9
    unfold rowQ
    rw [if_pos hdn]
    exact this
  · refine ⟨.d (.list (((FP c done).map (extP c s)).map qT)), ?_⟩
    rw [show (((done.length : Nat) : Int) == 0) = false from beq_eq_false_iff_ne.mpr (fun z => hdn (List.length_eq_zero_iff.mp (by omega)))]
    rw [if_neg (by decide), y_next, tail_row _ acc ha]
    unfold rowQ
    rw [if_neg hdn, rowP_bR]
end Lw
namespace Lw
open PySem L2 PD
theorem plans_rights {c : Cam} (g : GoodC c) {done : List Int} (hd : done.length ≤ 10) (parts part : D) (s8 s9 : Slot) : ∀ (ts : List T3) (acc : List Pl) (s6 s7 : Slot), acc.length + ts.length ≤ 10000 →
    ∃ t6 t7, forGo (asgOf [6] hOne) L_find_plans_0 (ts.map e3) [.d (cD c), .d parts, .d (.list ((FP c done).map qT)), .d (.int (done.length : Nat)), .d part, .d (.list (acc.map qT)), s6, s7, s8, s9] = .next [.d (cD c), .d parts, .d (.list ((FP c done).map qT)), .d (.int (done.length : Nat)), .d part, .d (.list ((acc ++ ts.flatMap fun s => rowQ c s done).map qT)), t6, t7, s8, s9]
  | [], acc, s6, s7, _ => ⟨s6, s7, by rw [List.flatMap_nil, List.append_nil]; rfl⟩
  | t :: ts, acc, s6, s7, h => by
    rw [List.length_cons] at h
    have hr := rowQ_len c t done
    obtain ⟨u7, e⟩ := plans_in g hd t acc (by omega) parts part s7 s8 s9
    obtain ⟨t6, t7, ih⟩ := plans_rights g hd parts part s8 s9 ts (acc ++ rowQ c t done) (.d (e3 t)) u7 (by rw [List.length_append]; omega)
    refine ⟨t6, t7, ?_⟩
    rw [List.map_cons, f_cons rfl e, ih, List.flatMap_cons, List.append_assoc]
theorem plans_step {c : Cam} (g : GoodC c) {done : List Int} (hd : done.length ≤ 10) (parts : D) (p : Int) (s5 s6 s7 s8 s9 : Slot) :
    ∃ t5 t6 t7, L_find_plans_1 [.d (cD c), .d parts, .d (.list ((FP c done).map qT)), .d (.int (done.length : Nat)), .d (.int p), s5, s6, s7, s8, s9] = .next [.d (cD c), .d parts, .d (.list ((FP c (p :: done)).map qT)), .d (.int (done.length : Nat)), .d (.int p), t5, t6, t7, s8, s9] := by
  have hl := rt_le g p
  obtain ⟨t6, t7, e⟩ := plans_rights g hd parts (.int p) s8 s9 (rt c p) [] s6 s7 (by simp only [List.length_nil]; omega)
  refine ⟨.d (.list ((FP c (p :: done)).map qT)), t6, t7, ?_⟩
  unfold L_find_plans_1
  walk_at "ev"
  rw [y_for (ds := (rt c p).map e3) (by walk_at "ev"; rw [find_right_good g]; rfl)]
  rw [List.map_nil, List.nil_append, ← FP_cons] at e
  rw [e]
  walk_at "ev"
theorem plans_loop {c : Cam} (g : GoodC c) (parts : D) (s8 s9 : Slot) : ∀ (rs done : List Int) (s3 s4 s5 s6 s7 : Slot), rs.length + done.length ≤ 10 →
    ∃ t3 t4 t5 t6 t7, forGo (asgOf [3, 4] (hTup 2)) L_find_plans_1 (enumD done.length (iL rs)) [.d (cD c), .d parts, .d (.list ((FP c done).map qT)), s3, s4, s5, s6, s7, s8, s9] = .next [.d (cD c), .d parts, .d (.list ((FP c (rs.reverse ++ done)).map qT)), t3, t4, t5, t6, t7, s8, s9]
  | [], done, s3, s4, s5, s6, s7, _ => ⟨s3, s4, s5, s6, s7, rfl⟩
  | p :: rs, done, s3, s4, s5, s6, s7, h => by
    rw [List.length_cons] at h
    obtain ⟨t5, t6, t7, e⟩ := plans_step g (done := done) (by omega) parts p s5 s6 s7 s8 s9
    obtain ⟨u3, u4, u5, u6, u7, ih⟩ := plans_loop g parts s8 s9 rs (p :: done) (.d (.int (done.length : Nat))) (.d (.int p)) t5 t6 t7 (by rw [List.length_cons]; omega)
    refine ⟨u3, u4, u5, u6, u7, ?_⟩
    show forGo (asgOf [3, 4] (hTup 2)) L_find_plans_1 (.tuple [.int (done.length : Nat), .int p] :: enumD (done.length + 1) (iL rs)) _ = _
    rw [f_cons rfl e]
    rw [List.reverse_cons, List.append_assoc]
    exact ih
theorem find_plans_eq {c : Cam} (g : GoodC c) {ps : List Int} (hp : ps.length ≤ 10) : F_find_plans [cD c, .list (iL ps)] = .ok (.list ((FP c ps).map qT)) := by
  obtain ⟨t3, t4, t5, t6, t7, e⟩ := plans_loop g (.list (iL ps)) .un .un ps.reverse [] .un .un .un .un .un (by rw [List.length_reverse]; simpa using hp)
  rw [List.reverse_reverse, List.append_nil] at e
  unfold F_find_plans B_find_plans
  walk_at "ev"
  rw [y_for (ds := enumD 0 (iL ps.reverse)) (by
    walk_at "ev"
    show Res.ok (enumD 0 (iL ps).reverse) = _
    rw [← List.map_reverse])]
  have e' : forGo (asgOf [3, 4] (hTup 2)) L_find_plans_1 (enumD 0 (iL ps.reverse)) [.d (cD c), .d (.list (iL ps)), .d (.list []), .un, .un, .un, .un, .un, .un, .un] = .next [.d (cD c), .d (.list (iL ps)), .d (.list ((FP c ps).map qT)), t3, t4, t5, t6, t7, .un, .un] := e
  rw [e']
  walk_at "ev"
end Lw
namespace Lw
open PySem L2 PD
/-! ### parts, latitudes -/
def absI (i : Int) : Int := if i < 0 then -i else i
theorem abs_eq (i : Int) : gAbs [.int i] = .ok (.int (absI i)) := rfl
theorem absI_nn (i : Int) : 0 ≤ absI i := by unfold absI; split <;> omega
structure PartsB (ps : List Int) : Prop where
  ne : ps ≠ []
  le : ps.length ≤ 6
  b : ∀ p ∈ ps, -60 ≤ p ∧ p ≤ 120
theorem check_parts_ok {ps : List Int} (h : PartsB ps) : F_check_parts [.list (iL ps)] = .ok .none := by
  have hp : 0 < ps.length := List.length_pos_iff.mpr h.ne
  have hl := h.le
  unfold F_check_parts B_check_parts
  walk_at "ev"
  rw [iL_len, decide_eq_true (show (1 : Int) ≤ (ps.length : Nat) by omega), decide_eq_true (show ((ps.length : Nat) : Int) ≤ 6 by omega)]
  walk_at "ev"
  rw [lc_m PyData.int ps (fun _ => PyData.bool true) rfl ?_ (by omega)]
  · walk_at "ev"
    have e : ps.map (fun _ => PyData.bool true) = (ps.map fun _ => true).map PyData.bool := by rw [List.map_map]; rfl
    rw [e, all_bools]
    have e2 : (ps.map fun _ => true).all id = true := by
      rw [List.all_eq_true]
      intro x hx
      obtain ⟨_, _, rfl⟩ := List.mem_map.mp hx
      rfl
    rw [e2]
    rfl
  · intro p hm
    have := h.b p hm
    rw [l_1]
    walk_at "ev"
    rw [is_int_eq, isIntD_int, decide_eq_true this.1, decide_eq_true this.2]
    rfl
end Lw
namespace Lw
open PySem L2 PD
/-! ### the least plan -/
def MP (c : Cam) (ps : List Int) : Option Pl := match FP c ps with
  | [] => none
  | f :: fs => some (bestP f fs)
def oD (f : Pl → D) : Option Pl → D
  | none => .none
  | some q => f q
theorem sh_qs (R : List Pl) : SeqAt.shaped (.list (R.map qT)) = true := by
  obtain ⟨_, p2, p3⟩ := ord_parts (ord_q (f := qT) (.inl rfl) R)
  show (PyData.canLayAll0 (R.map qT) && decide (PyData.depthAll (R.map qT) + 1 ≤ 64)) = true
  rw [p2, decide_eq_true (by omega)]
  rfl
theorem find_row_eq {c : Cam} (g : GoodC c) {ps : List Int} (hp : ps.length ≤ 10) : F_find_row [cD c, .list (iL ps)] = .ok (oD qT (MP c ps)) := by
  unfold F_find_row B_find_row
  walk_at "ev"
  rw [find_plans_eq g hp]
  walk_at "ev"
  rw [ne_nilD (sh_qs _)]
  walk_at "ev"
  unfold MP
  cases FP c ps with
  | nil => rfl
  | cons f fs =>
    rw [show (!((f :: fs).map qT).isEmpty) = true from rfl]
    walk_at "ev"
    rw [show qT f :: fs.map qT = (f :: fs).map qT from rfl, minT_q]
    rfl
theorem check_row_ok {c : Cam} (g : GoodC c) {ps : List Int} (hp : PartsB ps) : F_check_row [cD c, .list (iL ps)] = .ok .none := by
  unfold F_check_row B_check_row
  walk_at "ev"
  rw [check_camera_good g]
  walk_at "ev"
  rw [check_parts_ok hp]
  rfl
theorem best_row_eq {c : Cam} (g : GoodC c) {ps : List Int} (hp : PartsB ps) : F_best_row [cD c, .list (iL ps)] = .ok (oD (fun q => .list (q.2.map e3)) (MP c ps)) := by
  have := hp.le
  unfold F_best_row B_best_row
  walk_at "ev"
  rw [check_row_ok g hp]
  walk_at "ev"
  rw [find_row_eq g (by omega)]
  walk_at "ev"
  cases MP c ps <;> rfl
theorem MP_spec {c : Cam} {ps : List Int} (hn : ps ≠ []) {q : Pl} (h : MP c ps = some q) : PlOK c ps q.2 ∧ q.1 = cost c q.2 ∧ ∀ pl, PlOK c ps pl → ltP (cost c pl, pl) q = false := by
  unfold MP at h
  split at h
  · cases h
  · rename_i f fs e
    cases h
    obtain ⟨h1, h2⟩ := bestP_spec f fs
    rw [← e] at h1 h2
    obtain ⟨a, b⟩ := FP_ok c ps _ h1
    refine ⟨a, b, fun pl hp => ?_⟩
    obtain ⟨q, hq, _, hl⟩ := FP_least c ps pl hn hp
    exact ltP_nlt hl (h2 q hq)
theorem MP_none {c : Cam} {ps : List Int} (hn : ps ≠ []) : MP c ps = none ↔ ∃ p ∈ ps, rt c p = [] := by
  have h := FP_ne (c := c) hn
  unfold MP
  constructor
  · intro e
    split at e
    · rename_i e2
      have : ¬ ∀ p ∈ ps, rt c p ≠ [] := fun z => (h.mpr z) e2
      simpa using this
    · cases e
  · rintro ⟨p, hp, e⟩
    split
    · rfl
    · rename_i f fs e2
      exact absurd e (h.mp (by rw [e2]; simp) p hp)
end Lw
namespace Lw
open PySem L2 PD
/-! ### from a setting -/
def stC (c : Cam) (s : T3) (pl : List T3) : Int := cost c pl + cl c s (pl.headD (0, 0, 0))
def SP (c : Cam) (s : T3) (ps : List Int) : Option Int := match FP c ps with
  | [] => none
  | f :: fs => some (minI ((f :: fs).map fun q => q.1 + cl c s (q.2.headD (0, 0, 0))))
def oI : Option Int → D
  | none => .none
  | some i => .int i
theorem SP_spec {c : Cam} {s : T3} {ps : List Int} (hn : ps ≠ []) {v : Int} (h : SP c s ps = some v) : (∃ pl, PlOK c ps pl ∧ stC c s pl = v) ∧ ∀ pl, PlOK c ps pl → v ≤ stC c s pl := by
  unfold SP at h
  split at h
  · cases h
  · rename_i f fs e
    cases h
    obtain ⟨a, b⟩ := minI_spec ((f :: fs).map fun q => q.1 + cl c s (q.2.headD (0, 0, 0))) (by simp)
    constructor
    · obtain ⟨q, hq, eq⟩ := List.mem_map.mp a
      obtain ⟨i1, i2⟩ := FP_ok c ps q (by rw [e]; exact hq)
      exact ⟨q.2, i1, by unfold stC; rw [← i2]; exact eq⟩
    · intro pl hp
      obtain ⟨q, hq, h1, h2⟩ := FP_least c ps pl hn hp
      have := b _ (List.mem_map.mpr ⟨q, by rw [← e]; exact hq, rfl⟩)
      unfold ltP at h2
      simp only [decide_eq_false_iff_not] at h2
      unfold stC
      rw [h1] at this
      omega
theorem SP_none {c : Cam} {s : T3} {ps : List Int} : SP c s ps = none ↔ MP c ps = none := by
  unfold SP MP
  cases FP c ps with
  | nil => exact ⟨fun _ => rfl, fun _ => rfl⟩
  | cons f fs => exact ⟨(fun h => nomatch h), (fun h => nomatch h)⟩
end Lw
namespace Lw
open PySem L2 PD
/-! ### costs -/
theorem absC_nn (i : Int) : 0 ≤ absC i := by unfold absC; split <;> omega
theorem absC_sym (i j : Int) : absC (i - j) = absC (j - i) := by unfold absC; split <;> split <;> omega
theorem absC_self (i : Int) : absC (i - i) = 0 := by unfold absC; split <;> omega
theorem cl_nn {c : Cam} (g : GoodC c) (t u : T3) : 0 ≤ cl c t u := by
  unfold cl
  have h1 := Int.ediv_nonneg (absC_nn (t.1 - u.1)) (show 0 ≤ c.s1 by have := g.w1.s0; omega)
  have h2 := Int.ediv_nonneg (absC_nn (t.2.1 - u.2.1)) (show 0 ≤ c.s2 by have := g.w2.s0; omega)
  have h3 := Int.ediv_nonneg (absC_nn (t.2.2 - u.2.2)) (show 0 ≤ c.s3 by have := g.w3.s0; omega)
  omega
theorem cl_sym (c : Cam) (t u : T3) : cl c t u = cl c u t := by
  unfold cl
  rw [absC_sym t.1, absC_sym t.2.1, absC_sym t.2.2]
theorem cl_self (c : Cam) (t : T3) : cl c t t = 0 := by
  unfold cl
  rw [absC_self, absC_self, absC_self, Int.zero_ediv, Int.zero_ediv, Int.zero_ediv]
  rfl
theorem cost_nn {c : Cam} (g : GoodC c) : ∀ pl : List T3, 0 ≤ cost c pl
  | [] => Int.le_refl _
  | [_] => Int.le_refl _
  | t :: u :: r => by
    have h1 := cl_nn g t u
    have h2 := cost_nn g (u :: r)
    show 0 ≤ cl c t u + cost c (u :: r)
    omega
theorem cost_snoc (c : Cam) (a b : T3) : ∀ pl : List T3, cost c (pl ++ [a, b]) = cost c (pl ++ [a]) + cl c a b
  | [] => by
    show cl c a b + 0 = 0 + cl c a b
    omega
  | [t] => by
    show cl c t a + (cl c a b + 0) = cl c t a + 0 + cl c a b
    omega
  | t :: u :: r => by
    have ih := cost_snoc c a b (u :: r)
    show cl c t u + cost c (u :: r ++ [a, b]) = cl c t u + cost c (u :: r ++ [a]) + cl c a b
    omega
theorem cost_rev (c : Cam) : ∀ pl : List T3, cost c pl.reverse = cost c pl
  | [] => rfl
  | [_] => rfl
  | t :: u :: r => by
    have ih := cost_rev c (u :: r)
    rw [List.reverse_cons] at ih
    rw [List.reverse_cons, List.reverse_cons, List.append_assoc]
    show cost c (r.reverse ++ [u, t]) = cl c t u + cost c (u :: r)
    rw [cost_snoc, ih, cl_sym c u t]
    omega
theorem PlOK_app {c : Cam} : ∀ {a : List Int} {x : List T3} {b : List Int} {y : List T3}, PlOK c a x → PlOK c b y → PlOK c (a ++ b) (x ++ y)
  | [], [], _, _, _, h => h
  | _ :: a, _ :: x, _, _, h1, h2 => ⟨h1.1, PlOK_app h1.2 h2⟩
  | [], _ :: _, _, _, h, _ => h.elim
  | _ :: _, [], _, _, h, _ => h.elim
theorem PlOK_rev {c : Cam} : ∀ {a : List Int} {x : List T3}, PlOK c a x → PlOK c a.reverse x.reverse
  | [], [], _ => trivial
  | p :: a, t :: x, h => by
    rw [List.reverse_cons, List.reverse_cons]
    exact PlOK_app (PlOK_rev h.2) ⟨h.1, trivial⟩
  | [], _ :: _, h => h.elim
  | _ :: _, [], h => h.elim
theorem PlOK_split {c : Cam} : ∀ {a b : List Int} {z : List T3}, PlOK c (a ++ b) z → ∃ x y, z = x ++ y ∧ PlOK c a x ∧ PlOK c b y
  | [], b, z, h => ⟨[], z, rfl, trivial, h⟩
  | p :: a, b, [], h => h.elim
  | p :: a, b, t :: z, h => by
    obtain ⟨x, y, e, h1, h2⟩ := PlOK_split (a := a) h.2
    exact ⟨t :: x, y, by rw [e]; rfl, ⟨h.1, h1⟩, h2⟩
theorem MP_le {c : Cam} {ps : List Int} (hn : ps ≠ []) {q : Pl} (h : MP c ps = some q) {pl : List T3} (hp : PlOK c ps pl) : q.1 ≤ cost c pl := by
  have := (MP_spec hn h).2.2 pl hp
  unfold ltP at this
  simp only [decide_eq_false_iff_not] at this
  omega
end Lw
namespace Lw
open PySem L2 PD
/-! ### the law's facts about costs -/
theorem MP_some {c : Cam} {ps : List Int} (h : MP c ps ≠ none) : ∃ q, MP c ps = some q := by
  cases e : MP c ps with
  | none => exact absurd e h
  | some q => exact ⟨q, rfl⟩
/-- as dear one way as the other -/
theorem MP_rev {c : Cam} {ps : List Int} (hn : ps ≠ []) {q q' : Pl} (h : MP c ps = some q) (h' : MP c ps.reverse = some q') : q'.1 = q.1 := by
  have hn' : ps.reverse ≠ [] := fun z => hn (List.reverse_eq_nil_iff.mp z)
  obtain ⟨a, b, _⟩ := MP_spec hn h
  obtain ⟨a', b', _⟩ := MP_spec hn' h'
  have h1 := MP_le hn' h' (PlOK_rev a)
  have h2 := MP_le hn h (pl := q'.2.reverse) (by have := PlOK_rev a'; rw [List.reverse_reverse] at this; exact this)
  rw [cost_rev] at h1 h2
  omega
/-- fewer parts cost no more -/
theorem MP_less {c : Cam} (g : GoodC c) {ps : List Int} {p : Int} (hn : ps ≠ []) {q q' : Pl} (h : MP c ps = some q) (h' : MP c (ps ++ [p]) = some q') : q.1 ≤ q'.1 := by
  obtain ⟨a', b', _⟩ := MP_spec (by simp) h'
  obtain ⟨x, y, e, h1, h2⟩ := PlOK_split a'
  have hle := MP_le hn h h1
  have hy : ∃ t, y = [t] := by
    match y, h2 with
    | [t], _ => exact ⟨t, rfl⟩
    | [], h => exact h.elim
    | _ :: _ :: _, h => exact h.2.elim
  obtain ⟨t, rfl⟩ := hy
  have hx : x ≠ [] := fun z => by
    have := PlOK_len h1
    rw [z] at this
    exact hn (List.length_eq_zero_iff.mp this.symm)
  obtain ⟨x', l, ex⟩ : ∃ x' l, x = x' ++ [l] := ⟨x.dropLast, x.getLast hx, (List.dropLast_concat_getLast hx).symm⟩
  have : cost c q'.2 = cost c x + cl c l t := by
    rw [e, ex, List.append_assoc]
    exact cost_snoc c l t x'
  have := cl_nn g l t
  omega
/-- a part that is repeated costs nothing -/
theorem MP_twice {c : Cam} (g : GoodC c) {ps : List Int} {p : Int} {q q' : Pl} (h : MP c (ps ++ [p]) = some q) (h' : MP c (ps ++ [p] ++ [p]) = some q') : q'.1 = q.1 := by
  have h1 := MP_less g (by simp) h h'
  obtain ⟨a, b, _⟩ := MP_spec (by simp) h
  obtain ⟨x, y, e, k1, k2⟩ := PlOK_split a
  have hy : ∃ t, y = [t] := by
    match y, k2 with
    | [t], _ => exact ⟨t, rfl⟩
    | [], h => exact h.elim
    | _ :: _ :: _, h => exact h.2.elim
  obtain ⟨t, rfl⟩ := hy
  have h2 := MP_le (by simp) h' (pl := x ++ [t] ++ [t]) (PlOK_app (PlOK_app k1 k2) k2)
  rw [List.append_assoc] at h2
  have e2 : cost c (x ++ [t, t]) = cost c (x ++ [t]) + cl c t t := cost_snoc c t t x
  rw [cl_self] at e2
  rw [e] at b
  have e3 : x ++ ([t] ++ [t]) = x ++ [t, t] := rfl
  rw [e3] at h2
  omega
end Lw
namespace Lw
open PySem L2 PD
def tI (ns : List Int) : D := .tuple (iL ns)
theorem orders1 : F_all_orders [.int 1] = .ok (.list ([[0]].map tI)) := by rfl
theorem orders2 : F_all_orders [.int 2] = .ok (.list ([[0, 1], [1, 0]].map tI)) := by rfl
theorem orders3 : F_all_orders [.int 3] = .ok (.list ([[0, 1, 2], [0, 2, 1], [1, 0, 2], [1, 2, 0], [2, 0, 1], [2, 1, 0]].map tI)) := by rfl
end Lw
namespace Lw
open PySem L2 PD
/-! ### orders: pairs (clicks, order) -/
def ltI : List Int → List Int → Bool
  | [], [] => false
  | [], _ :: _ => true
  | _ :: _, [] => false
  | t :: ts, u :: us => if t = u then ltI ts us else decide (t < u)
theorem alike_int (i j : Int) : PySem.W.alike (.int i) (.int j) = true := by simp [PySem.W.alike]
theorem lex_ints : ∀ ts us : List Int, PyProof.Rows.lexLt PyProof.Rows.itemOrd (PySem.W.keyToksAll (iL ts)) (PySem.W.keyToksAll (iL us)) = ltI ts us
  | [], [] => lexNil
  | [], u :: us => by
    show PyProof.Rows.lexLt PyProof.Rows.itemOrd [.inl 0] (.inl 1 :: _) = true
    rw [PyProof.Rows.lex_cons]
    rfl
  | t :: ts, [] => by
    show PyProof.Rows.lexLt PyProof.Rows.itemOrd (.inl 1 :: _) [.inl 0] = false
    rw [PyProof.Rows.lex_cons]
    rfl
  | t :: ts, u :: us => by
    have ei : PyData.eqv (.int t) (.int u) = decide (t = u) := rfl
    rw [show iL (t :: ts) = .int t :: iL ts from rfl, show iL (u :: us) = .int u :: iL us from rfl, PySem.W.dataLt_cons (alike_int t u), lex_ints ts us, ei, PySem.W.dataLt_int]
    show _ = if t = u then ltI ts us else decide (t < u)
    by_cases h : t = u
    · rw [if_pos (decide_eq_true h), if_pos h]
    · rw [if_neg (by rw [decide_eq_false h]; decide), if_neg h]
theorem alike_ints : ∀ ts us : List Int, PySem.W.alikeAll (iL ts) (iL us) = true
  | [], _ => by rw [show iL [] = [] from rfl, PySem.W.alikeAll]
  | t :: ts, [] => by
    show PySem.W.alikeAll (.int t :: iL ts) [] = true
    rw [PySem.W.alikeAll]
  | t :: ts, u :: us => by
    show PySem.W.alikeAll (.int t :: iL ts) (.int u :: iL us) = true
    rw [PySem.W.alikeAll, alike_int, alike_ints ts us]
    rfl
theorem ltI_ir : ∀ ts : List Int, ltI ts ts = false
  | [] => rfl
  | t :: ts => by
    show (if t = t then ltI ts ts else decide (t < t)) = false
    rw [if_pos rfl, ltI_ir ts]
theorem ltI_tr : ∀ ts us vs : List Int, ltI ts us = true → ltI us vs = true → ltI ts vs = true
  | [], [], _, h, _ => by cases h
  | [], _ :: _, [], _, h => by cases h
  | [], _ :: _, _ :: _, _, _ => rfl
  | _ :: _, [], _, h, _ => by cases h
  | _ :: _, _ :: _, [], _, h => by cases h
  | t :: ts, u :: us, v :: vs, h1, h2 => by
    have h1 : (if t = u then ltI ts us else decide (t < u)) = true := h1
    have h2 : (if u = v then ltI us vs else decide (u < v)) = true := h2
    show (if t = v then ltI ts vs else decide (t < v)) = true
    by_cases a : t = u
    · subst a
      rw [if_pos rfl] at h1
      by_cases b : t = v
      · rw [if_pos b] at h2 ⊢
        exact ltI_tr ts us vs h1 h2
      · rw [if_neg b] at h2 ⊢
        exact h2
    · rw [if_neg a] at h1
      have h1 := of_decide_eq_true h1
      by_cases b : u = v
      · subst b
        rw [if_neg a]
        exact decide_eq_true h1
      · rw [if_neg b] at h2
        have h2 := of_decide_eq_true h2
        rw [if_neg (by omega)]
        exact decide_eq_true (by omega)
theorem eqv_ints2 : ∀ ts us : List Int, PyData.eqvAll (iL ts) (iL us) = true → ltI ts us = false
  | [], [], _ => rfl
  | [], _ :: _, h => by cases h
  | _ :: _, [], h => by cases h
  | t :: ts, u :: us, h => by
    have h : (decide (t = u) && PyData.eqvAll (iL ts) (iL us)) = true := h
    obtain ⟨h1, h2⟩ := and_split h
    have h1 := of_decide_eq_true h1
    show (if t = u then ltI ts us else decide (t < u)) = false
    rw [if_pos h1, eqv_ints2 ts us h2]
abbrev Od := Int × List Int
def odT (q : Od) : D := .tuple [.int q.1, tI q.2]
def ltO (p q : Od) : Bool := decide (p.1 < q.1 ∨ p.1 = q.1 ∧ ltI p.2 q.2 = true)
theorem ltO_ir (p : Od) : ltO p p = false := by
  unfold ltO
  rw [ltI_ir]
  simp
theorem ltO_tr (p q r : Od) (h1 : ltO p q = true) (h2 : ltO q r = true) : ltO p r = true := by
  unfold ltO at *
  simp only [decide_eq_true_eq] at *
  rcases h1 with a | ⟨a, b⟩
  · rcases h2 with c | ⟨c, d⟩
    · left; omega
    · left; omega
  · rcases h2 with c | ⟨c, d⟩
    · left; omega
    · exact .inr ⟨by omega, ltI_tr _ _ _ b d⟩
theorem dataLt_od (p q : Od) : PySem.W.dataLt (odT p) (odT q) = ltO p q := by
  unfold odT ltO tI
  rw [lt_pair (by show PySem.W.alikeAll _ _ = true; exact alike_ints _ _) (fun h => ?_), PySem.W.dataLt_tuple, lex_ints]
  rw [PySem.W.dataLt_tuple, lex_ints]
  exact eqv_ints2 _ _ h
theorem sh_ods (qs : List Od) : SeqAt.shaped (.list (qs.map odT)) = true := by
  have hl : ∀ q, PyData.canLay0 (odT q) = true ∧ PyData.depth (odT q) ≤ 3 := fun q => by
    refine ⟨?_, ?_⟩
    · show (PyData.canLay0 (.int q.1) && (PyData.canLayAll0 (iL q.2) && true)) = true
      rw [canLay_ints]
      rfl
    · show max 0 (max (PyData.depthAll (iL q.2) + 1) 0) + 1 ≤ 3
      rw [depth_ints]
      decide
  have q : PyData.canLayAll0 (qs.map odT) = true ∧ PyData.depthAll (qs.map odT) ≤ 3 := by
    induction qs with
    | nil => exact ⟨rfl, Nat.zero_le _⟩
    | cons n ns ih =>
      refine ⟨?_, ?_⟩
      · show (PyData.canLay0 (odT n) && PyData.canLayAll0 (ns.map odT)) = true
        rw [ih.1, (hl n).1]
        rfl
      · show max (PyData.depth (odT n)) (PyData.depthAll (ns.map odT)) ≤ 3
        have := (hl n).2
        omega
  show (PyData.canLayAll0 (qs.map odT) && decide (PyData.depthAll (qs.map odT) + 1 ≤ 64)) = true
  rw [q.1, decide_eq_true (by omega)]
  rfl
theorem ord_od (qs : List Od) : ordOk (qs.map odT) = true := by
  unfold ordOk
  have h1 : allAl (qs.map odT) = true := allAl_iff.mpr fun x hx y hy => by
    obtain ⟨t, _, rfl⟩ := List.mem_map.mp hx
    obtain ⟨u, _, rfl⟩ := List.mem_map.mp hy
    simp [odT, tI, PySem.W.alike, PySem.W.alikeAll, alike_ints]
  have h2 : noNone (qs.map odT) = true := List.all_eq_true.mpr fun x hx => by
    obtain ⟨t, _, rfl⟩ := List.mem_map.mp hx
    rfl
  rw [h1, h2, sh_ods]
  rfl
def bestO : Od → List Od → Od := best ltO
theorem bestO_spec (r : Od) (rs : List Od) : bestO r rs ∈ r :: rs ∧ ∀ t ∈ r :: rs, ltO t (bestO r rs) = false := best_spec ltO_ir ltO_tr rs r
theorem min_od (r : Od) (rs : List Od) : gMinD [.list ((r :: rs).map odT)] = .ok (odT (bestO r rs)) := gMinD_gen dataLt_od r rs (ord_od _)
end Lw
namespace Lw
open PySem L2 PD
/-! ### best_start -/
def ords : Nat → List (List Int)
  | 1 => [[0]]
  | 2 => [[0, 1], [1, 0]]
  | 3 => [[0, 1, 2], [0, 2, 1], [1, 0, 2], [1, 2, 0], [2, 0, 1], [2, 1, 0]]
  | _ => []
def pickI (ps o : List Int) : List Int := o.map fun i => ps.getD i.toNat 0
def row1 (c : Cam) (ps o : List Int) : List Od := match MP c (pickI ps o) with
  | none => []
  | some q => [(q.1, o)]
def BL (c : Cam) (ps : List Int) (os : List (List Int)) : List Od := os.flatMap (row1 c ps)
def BS (c : Cam) (ps : List Int) : Option (List Int) := match BL c ps (ords ps.length) with
  | [] => none
  | r :: rs => some (bestO r rs).2
def oT : Option (List Int) → D
  | none => .none
  | some o => tI o
theorem ords_b : ∀ n : Nat, ∀ o ∈ ords n, o.length ≤ 3 ∧ ∀ i ∈ o, 0 ≤ i ∧ i.toNat < n
  | 0 => by decide
  | 1 => by decide
  | 2 => by decide
  | 3 => by decide
  | n + 4 => fun o h => absurd h List.not_mem_nil
theorem ords_len : ∀ n : Nat, (ords n).length ≤ 6
  | 0 => by decide
  | 1 => by decide
  | 2 => by decide
  | 3 => by decide
  | n + 4 => Nat.zero_le _
theorem all_orders_eq {n : Nat} (h1 : 1 ≤ n) (h3 : n ≤ 3) : F_all_orders [.int (n : Nat)] = .ok (.list ((ords n).map tI)) := by
  have : n = 1 ∨ n = 2 ∨ n = 3 := by omega
  rcases this with rfl | rfl | rfl
  · exact orders1
  · exact orders2
  · exact orders3
theorem pick_eq {ps o : List Int} (h : ∀ i ∈ o, 0 ≤ i ∧ i.toNat < ps.length) (hl : o.length ≤ 10) {ρ : DEnv} {a b : Nat} {own : List Nat} (h1 : fVar a ρ = .ok (tI o)) (h2 : ∀ s, fVar b ((wipeD ρ own).set 5 s) = .ok (.list (iL ps))) (h3 : ∀ x, fVar 5 ((wipeD ρ own).set 5 (.d x)) = .ok x) :
    fLc (fSeq (fVar a)) own [5] hOne fYes (fBin gIx (fVar b) (fVar 5)) ρ = .ok (.list (iL (pickI ps o))) := by
  rw [lc_m PyData.int o (fun i => .int (ps.getD i.toNat 0)) (by rw [x_seq, h1]; rfl) ?_ (by omega), iL_map]
  · rfl
  · intro i hi
    obtain ⟨i0, i1⟩ := h i hi
    rw [l_1, x_bin, h2, h3]
    walk_at "ev"
    rw [g_ixL (d := .int (ps.getD i.toNat 0))]
    · rfl
    · unfold ixD
      rw [if_pos i0, List.getElem?_map, List.getD_eq_getElem?_getD, List.getElem?_eq_getElem i1]
      rfl
theorem start_step {c : Cam} (g : GoodC c) {ps o : List Int} (hi : ∀ i ∈ o, 0 ≤ i ∧ i.toNat < ps.length) (hl : o.length ≤ 10) (acc : List Od) (ha : acc.length ≤ 1000) (s4 s5 : Slot) :
    L_best_start_0 [.d (cD c), .d (.list (iL ps)), .d (.list (acc.map odT)), .d (tI o), s4, s5] = .next [.d (cD c), .d (.list (iL ps)), .d (.list ((acc ++ row1 c ps o).map odT)), .d (tI o), .d (oD qT (MP c (pickI ps o))), s5] := by
  unfold L_best_start_0
  rw [y_seq, y_as1, x_call2, x_var0, bind_ok, pick_eq hi hl rfl (fun _ => rfl) (fun _ => rfl), bind_ok, find_row_eq g (by unfold pickI; rw [List.length_map]; exact hl)]
  walk_at "ev"
  unfold row1
  cases MP c (pickI ps o) with
  | none =>
    show ofRes ((Res.ok (PyData.list [])).bind fun b => gAdd (.list (acc.map odT)) b) _ = _
    rw [bind_ok, g_addL' (by rw [List.length_map]; simp only [List.length_nil]; omega)]
    show SR.next _ = SR.next _
    rw [List.append_nil, List.append_nil]
  | some q =>
    show ofRes ((Res.ok (PyData.list [odT (q.1, o)])).bind fun b => gAdd (.list (acc.map odT)) b) _ = _
    rw [bind_ok, g_addL' (by rw [List.length_map]; simp only [List.length_cons, List.length_nil]; omega)]
    show SR.next _ = SR.next _
    rw [List.map_append]
    rfl
theorem start_loop {c : Cam} (g : GoodC c) {ps : List Int} (s5 : Slot) : ∀ (os : List (List Int)) (acc : List Od) (s3 s4 : Slot), (∀ o ∈ os, o.length ≤ 3 ∧ ∀ i ∈ o, 0 ≤ i ∧ i.toNat < ps.length) → acc.length + os.length ≤ 1000 →
    ∃ t3 t4, forGo (asgOf [3] hOne) L_best_start_0 (os.map tI) [.d (cD c), .d (.list (iL ps)), .d (.list (acc.map odT)), s3, s4, s5] = .next [.d (cD c), .d (.list (iL ps)), .d (.list ((acc ++ BL c ps os).map odT)), t3, t4, s5]
  | [], acc, s3, s4, _, _ => ⟨s3, s4, by unfold BL; rw [List.flatMap_nil, List.append_nil]; rfl⟩
  | o :: os, acc, s3, s4, h, hn => by
    obtain ⟨h1, h2⟩ := h o List.mem_cons_self
    rw [List.length_cons] at hn
    have hr : (row1 c ps o).length ≤ 1 := by unfold row1; split <;> simp
    obtain ⟨t3, t4, ih⟩ := start_loop g s5 os (acc ++ row1 c ps o) (.d (tI o)) (.d (oD qT (MP c (pickI ps o)))) (fun o' h' => h o' (List.mem_cons_of_mem _ h')) (by rw [List.length_append]; omega)
    refine ⟨t3, t4, ?_⟩
    rw [List.map_cons, f_cons rfl (start_step g h2 (by omega) acc (by omega) s4 s5), ih]
    unfold BL
    rw [List.flatMap_cons, List.append_assoc]
theorem best_start_eq {c : Cam} (g : GoodC c) {ps : List Int} (hp : PartsB ps) (h3 : ps.length ≤ 3) : F_best_start [cD c, .list (iL ps)] = .ok (oT (BS c ps)) := by
  have h1 : 1 ≤ ps.length := List.length_pos_iff.mpr hp.ne
  have hl := ords_len ps.length
  obtain ⟨t3, t4, e⟩ := start_loop g (ps := ps) .un (ords ps.length) [] .un .un (ords_b ps.length) (by simp only [List.length_nil]; omega)
  unfold F_best_start B_best_start
  walk_at "ev"
  rw [check_row_ok g hp]
  walk_at "ev"
  rw [iL_len, decide_eq_false (show ¬ ((4 : Int) < (ps.length : Nat)) by omega)]
  walk_at "ev"
  rw [y_for (ds := (ords ps.length).map tI) (by
    walk_at "ev"
    rw [iL_len, all_orders_eq h1 h3]
    rfl)]
  have e' : forGo (asgOf [3] hOne) L_best_start_0 ((ords ps.length).map tI) [.d (cD c), .d (.list (iL ps)), .d (.list []), .un, .un, .un] = .next [.d (cD c), .d (.list (iL ps)), .d (.list ((BL c ps (ords ps.length)).map odT)), t3, t4, .un] := e
  rw [e']
  walk_at "ev"
  rw [ne_nilD (sh_ods _)]
  walk_at "ev"
  unfold BS
  cases BL c ps (ords ps.length) with
  | nil => rfl
  | cons r rs =>
    rw [show (!((r :: rs).map odT).isEmpty) = true from rfl, if_pos rfl, min_od]
    rfl
end Lw
namespace Lw
open PySem L2 PD
theorem check_lat_ok {l : Int} (h0 : 0 ≤ l) (h1 : l ≤ 60) : F_check_latitude [.int l] = .ok .none := by
  unfold F_check_latitude B_check_latitude
  walk_at "ev"
  rw [is_int_eq, isIntD_int, decide_eq_true h0, decide_eq_true h1]
  rfl
theorem check_lat_bad {d : D} (h : isIntD d 0 60 = false) : F_check_latitude [d] = .err "InvalidNumber" := by
  unfold F_check_latitude B_check_latitude
  walk_at "ev"
  rw [is_int_eq, h]
  rfl
/-- the indexes of what is held -/
def heldF (n lat : Int) : Nat → List Int → List Int
  | _, [] => []
  | k, p :: ps => (if absI (n - p) ≤ lat then [(k : Int)] else []) ++ heldF n lat (k + 1) ps
theorem heldF_len (n lat : Int) : ∀ (ps : List Int) (k : Nat), (heldF n lat k ps).length ≤ ps.length
  | [], _ => Nat.le_refl _
  | p :: ps, k => by
    have := heldF_len n lat ps (k + 1)
    show ((if absI (n - p) ≤ lat then [(k : Int)] else []) ++ heldF n lat (k + 1) ps).length ≤ ps.length + 1
    rw [List.length_append]
    split
    · have : [(k : Int)].length = 1 := rfl
      omega
    · have : ([] : List Int).length = 0 := rfl
      omega
theorem lcGo_held {step : D → Res (List D)} {n lat : Int} (hs : ∀ (k : Nat) (p : Int), step (.tuple [.int (k : Int), .int p]) = .ok (if absI (n - p) ≤ lat then [.int (k : Int)] else [])) : ∀ (ps : List Int) (k : Nat), lcGo step (enumD k (iL ps)) = .ok (iL (heldF n lat k ps))
  | [], _ => rfl
  | p :: ps, k => by
    show ((step (.tuple [.int (k : Int), .int p])).strict.bind fun o => (lcGo step (enumD (k + 1) (iL ps))).bind fun r => .ok (o ++ r)) = _
    rw [hs, lcGo_held hs ps (k + 1)]
    show Res.ok ((if absI (n - p) ≤ lat then [PyData.int (k : Int)] else []) ++ iL (heldF n lat (k + 1) ps)) = .ok (iL ((if absI (n - p) ≤ lat then [(k : Int)] else []) ++ heldF n lat (k + 1) ps))
    split <;> rfl
theorem find_held_eq (t : T3) {ps : List Int} (hl : ps.length ≤ 1000) (lat : Int) : F_find_held [e3 t, .list (iL ps), .int lat] = .ok (.list (iL (heldF (num t) lat 0 ps))) := by
  have hl2 := heldF_len (num t) lat ps 0
  unfold F_find_held B_find_held
  walk_at "ev"
  rw [show F_find_exposure [e3 t] = .ok (.int (num t)) from exposure_eq _ _ _]
  walk_at "ev"
  rw [x_lc (ds := enumD 0 (iL ps)) rfl (lcGo_held (n := num t) (lat := lat) (fun k p => ?_) ps 0) (by rw [iL_len]; omega)]
  · rfl
  · rw [l_2t]
    walk_at "ev"
    rw [abs_eq]
    walk_at "ev"
    by_cases h : absI (num t - p) ≤ lat
    · rw [decide_eq_true h, if_pos h]
      rfl
    · rw [decide_eq_false h, if_neg h]
      rfl
theorem set_ok {c : Cam} (g : GoodC c) {t : T3} (hi : In3 c t) : F_check_setting [cD c, e3 t] = .ok .none := check_setting_3 g (inS_val hi)
theorem held_eq {c : Cam} (g : GoodC c) {t : T3} (hi : In3 c t) {ps : List Int} (hp : PartsB ps) {lat : Int} (l0 : 0 ≤ lat) (l1 : lat ≤ 60) : F_held [cD c, e3 t, .list (iL ps), .int lat] = .ok (.list (iL (heldF (num t) lat 0 ps))) := by
  have := hp.le
  unfold F_held B_held
  walk_at "ev"
  rw [check_camera_good g]
  walk_at "ev"
  rw [set_ok g hi]
  walk_at "ev"
  rw [check_parts_ok hp]
  walk_at "ev"
  rw [check_lat_ok l0 l1]
  walk_at "ev"
  rw [find_held_eq t (by omega)]
  walk_at "ev"
def hN (ps : List Int) (lat : Int) (t : T3) : Int := ((heldF (num t) lat 0 ps).length : Nat)
def hK (ps : List Int) (lat : Int) (t : T3) : Int := 0 - hN ps lat t
theorem find_best_eq {c : Cam} (g : GoodC c) {r : T3} {rs : List T3} (hr : tri c = r :: rs) {ps : List Int} (hp : PartsB ps) {lat : Int} (l0 : 0 ≤ lat) (l1 : lat ≤ 60) :
    F_find_best [cD c, .list (iL ps), .int lat] = .ok (pr (hK ps lat (bst (hK ps lat) r rs)) (bst (hK ps lat) r rs)) := by
  have := hp.le
  have hl := tri_le g
  unfold F_find_best B_find_best
  walk_at "ev"
  rw [check_camera_good g]
  walk_at "ev"
  rw [check_parts_ok hp]
  walk_at "ev"
  rw [check_lat_ok l0 l1]
  walk_at "ev"
  rw [lc_m e3 (tri c) (fun t => pr (hK ps lat t) t) ?_ ?_ (by omega)]
  · walk_at "ev"
    rw [hr, min_prs]
    rfl
  · walk_at "ev"
    rw [all_settings_good g, tri_eq]
    rfl
  · intro t _
    rw [l_1]
    walk_at "ev"
    rw [find_held_eq t (by omega)]
    walk_at "ev"
    rw [iL_len]
    rfl
theorem best_setting_eq {c : Cam} (g : GoodC c) {r : T3} {rs : List T3} (hr : tri c = r :: rs) {ps : List Int} (hp : PartsB ps) {lat : Int} (l0 : 0 ≤ lat) (l1 : lat ≤ 60) :
    F_best_setting [cD c, .list (iL ps), .int lat] = .ok (e3 (bst (hK ps lat) r rs)) := by
  unfold F_best_setting B_best_setting
  walk_at "ev"
  rw [find_best_eq g hr hp l0 l1]
  rfl
/-! ### least latitudes -/
def wd (ps : List Int) (t : T3) : Int := maxI (ps.map fun p => absI (num t - p))
theorem latitude_loop {ps : List Int} (hp : PartsB ps) (cam : D) : ∀ (ts : List T3) (acc : List Int) (s3 s4 s5 : Slot), acc.length + ts.length ≤ 100000 → ∃ t3 t4 t5, forGo (asgOf [3] hOne) L_least_latitude_0 (ts.map e3) [.d cam, .d (.list (iL ps)), .own (iL acc), s3, s4, s5] = .next [.d cam, .d (.list (iL ps)), .own (iL (acc ++ ts.map (wd ps))), t3, t4, t5]
  | [], acc, s3, s4, s5, _ => ⟨s3, s4, s5, by rw [List.map_nil, List.map_nil, List.append_nil]; rfl⟩
  | t :: ts, acc, s3, s4, s5, hz => by
    have hle := hp.le
    obtain ⟨t3, t4, t5, ih⟩ := latitude_loop hp cam ts (acc ++ [wd ps t]) (.d (e3 t)) (.d (.int (num t))) s5 (by rw [List.length_append]; simp only [List.length_cons, List.length_nil] at *; omega)
    refine ⟨t3, t4, t5, ?_⟩
    have e : L_least_latitude_0 [.d cam, .d (.list (iL ps)), .own (iL acc), .d (e3 t), s4, s5] = .next [.d cam, .d (.list (iL ps)), .own (iL (acc ++ [wd ps t])), .d (e3 t), .d (.int (num t)), s5] := by
      unfold L_least_latitude_0
      walk_at "ev"
      rw [show F_find_exposure [e3 t] = .ok (.int (num t)) from exposure_eq _ _ _]
      walk_at "ev"
      rw [y_app (d := .int (wd ps t)) rfl ?_ (by rw [iL_len]; simp only [List.length_cons] at hz; omega)]
      · show SR.next [.d cam, .d (.list (iL ps)), .own (iL acc ++ [.int (wd ps t)]), .d (e3 t), .d (.int (num t)), s5] = _
        rw [iL_app]
        rfl
      · walk_at "ev"
        rw [lc_m PyData.int ps (fun p => PyData.int (absI (num t - p))) rfl ?_ (by omega)]
        · walk_at "ev"
          rw [iL_map, maxL_ints (fun e => hp.ne (List.map_eq_nil_iff.mp e))]
          rfl
        · intro p _
          rw [l_1]
          walk_at "ev"
          rw [abs_eq]
          rfl
    rw [List.map_cons, f_cons (ρ1 := [.d cam, .d (.list (iL ps)), .own (iL acc), .d (e3 t), s4, s5]) rfl e, ih]
    rw [List.map_cons, List.append_assoc]
    rfl
def latD (ps : List Int) (ts : List T3) : D := if minI (ts.map (wd ps)) ≤ 60 then .int (minI (ts.map (wd ps))) else .none
theorem least_lat_eq {c : Cam} (g : GoodC c) {ps : List Int} (hp : PartsB ps) : F_least_latitude [cD c, .list (iL ps)] = .ok (latD ps (tri c)) := by
  have hl := tri_le g
  have h0 := tri_pos g
  obtain ⟨t3, t4, t5, e⟩ := latitude_loop hp (cD c) (tri c) [] .un .un .un (by simp only [List.length_nil]; omega)
  have hne : (tri c).map (wd ps) ≠ [] := fun z => by
    rw [List.map_eq_nil_iff.mp z] at h0
    exact absurd h0 (Nat.lt_irrefl 0)
  unfold F_least_latitude B_least_latitude
  walk_at "ev"
  rw [check_camera_good g]
  walk_at "ev"
  rw [check_parts_ok hp]
  walk_at "ev"
  rw [y_own0]
  walk_at "ev"
  rw [y_for (ds := (tri c).map e3) (by walk_at "ev"; rw [all_settings_good g, tri_eq]; rfl)]
  have e' := e
  rw [List.nil_append] at e'
  refine Eq.trans (congrArg (fun r => toRes (SR.seq r _)) e') ?_
  rw [y_next, y_frz]
  show toRes (sRet _ [.d (cD c), .d (.list (iL ps)), .d (.list (iL ((tri c).map (wd ps)))), t3, t4, t5]) = _
  walk_at "ev"
  rw [minL_ints hne]
  walk_at "ev"
  unfold latD
  by_cases h : minI ((tri c).map (wd ps)) ≤ 60
  · rw [decide_eq_true h, if_pos h]
    rfl
  · rw [decide_eq_false h, if_neg h]
    rfl
end Lw
namespace Lw
open PySem L2 PD
/-! ### parts that are drawn -/
theorem lcGo_ex {step : D → Res (List D)} {P : Int → Prop} : ∀ (ks : List Int), (∀ k ∈ ks, ∃ p, step (.int k) = .ok [.int p] ∧ P p) → ∃ ps : List Int, lcGo step (iL ks) = .ok (iL ps) ∧ ps.length = ks.length ∧ ∀ p ∈ ps, P p
  | [], _ => ⟨[], rfl, rfl, fun _ h => absurd h List.not_mem_nil⟩
  | k :: ks, h => by
    obtain ⟨p, e1, h1⟩ := h k List.mem_cons_self
    obtain ⟨ps, e2, h2, h3⟩ := lcGo_ex ks fun k' hk => h k' (List.mem_cons_of_mem _ hk)
    refine ⟨p :: ps, ?_, by simp [h2], fun q hq => ?_⟩
    · show ((step (.int k)).strict.bind fun o => (lcGo step (iL ks)).bind fun r => .ok (o ++ r)) = _
      rw [e1, e2]
      rfl
    · rcases List.mem_cons.mp hq with e | e
      · rw [e]; exact h1
      · exact h3 q e
theorem cut_to {xs : List D} {k : Nat} (h : k ≤ 1000) : cutD xs none (some (k : Int)) = xs.take k := by
  have e : HT.sIx xs.length xs.length (some (k : Int)) = min k xs.length := by
    unfold HT.sIx
    dsimp only
    rw [if_neg (by omega)]
    simp
  have e0 : HT.sIx xs.length 0 none = 0 := rfl
  unfold cutD
  rw [e, e0, List.drop_zero, Nat.sub_zero]
  rcases Nat.le_total k xs.length with q | q
  · rw [Nat.min_eq_left q]
  · rw [Nat.min_eq_right q, List.take_length, List.take_of_length_le q]
theorem y_parZ (f : DEnv → Res D) (i j k : Nat) (ρ : DEnv) : sPar (zD f (zL fNil (zL fNil zNil))) [i, j, k] ρ = ofRes (f ρ) fun a => .next (((ρ.set i (.d a)).set j (.own [])).set k (.own [])) := by
  unfold sPar zD
  cases f ρ <;> rfl
theorem rng1_D {n : Nat} (h : n ≤ 1000) : gRng1 [.int (n : Int)] = .ok (rngD 0 n) := by
  unfold gRng1
  dsimp only
  rw [if_pos (show rngOk (n : Int) = true from by unfold rngOk; simp only [Bool.and_eq_true, decide_eq_true_eq]; omega)]
  rfl
theorem rngD_succ (lo : Int) (n : Nat) : rngD lo (n + 1) = .int lo :: rngD (lo + 1) n := by
  unfold rngD
  rw [List.range_succ_eq_map, List.map_cons, List.map_map]
  congr 1
  · show PyData.int (lo + (0 : Nat)) = .int lo
    rw [show (lo + (0 : Nat) : Int) = lo by omega]
  · refine List.map_congr_left fun i _ => ?_
    show PyData.int (lo + ((i + 1 : Nat) : Int)) = .int (lo + 1 + (i : Int))
    congr 1
    omega
end Lw
namespace Lw
open PySem L2 PD
theorem is_noneF (d : D) : gIs false d .none = .ok (.bool (isNone d)) := rfl
theorem in_t3 (neg : Bool) (t : T3) (ts : List T3) : gIn neg (e3 t) (.list (ts.map e3)) = .ok (.bool (if neg = true then !decide (t ∈ ts) else decide (t ∈ ts))) := by
  have e : inD (e3 t) (ts.map e3) = decide (t ∈ ts) := by
    rw [Bool.eq_iff_iff]
    unfold inD
    rw [List.any_eq_true, decide_eq_true_eq]
    constructor
    · rintro ⟨d, hd, he⟩
      obtain ⟨u, hu, rfl⟩ := List.mem_map.mp hd
      rw [eqv_e3, decide_eq_true_eq] at he
      rw [← he]
      exact hu
    · intro h
      exact ⟨e3 t, List.mem_map.mpr ⟨t, h, rfl⟩, by rw [eqv_e3]; simp⟩
  unfold gIn
  dsimp only
  rw [sh_t3, if_pos (show (SeqAt.shaped (e3 t) && true) = true from rfl), e]
theorem lcGo_enum_nil {step : D → Res (List D)} : ∀ (ps : List Int) (k : Nat), (∀ (i : Nat) (p : Int), ps[i]? = some p → step (.tuple [.int ((k + i : Nat) : Int), .int p]) = .ok []) → lcGo step (enumD k (iL ps)) = .ok []
  | [], _, _ => rfl
  | p :: ps, k, hs => by
    show ((step (.tuple [.int (k : Int), .int p])).strict.bind fun o => (lcGo step (enumD (k + 1) (iL ps))).bind fun r => .ok (o ++ r)) = _
    rw [show step (.tuple [.int (k : Int), .int p]) = .ok [] from hs 0 p rfl, lcGo_enum_nil ps (k + 1) fun i q hq => by
      have := hs (i + 1) q (by simpa using hq)
      rw [show k + 1 + i = k + (i + 1) by omega]
      exact this]
    rfl
theorem PlOK_get {c : Cam} : ∀ {ps : List Int} {ts : List T3} {i : Nat} {p : Int}, PlOK c ps ts → ps[i]? = some p → ∃ t, ts[i]? = some t ∧ t ∈ rt c p
  | p :: ps, t :: ts, 0, p', h, e => by
    cases e
    exact ⟨t, rfl, h.1⟩
  | p :: ps, t :: ts, i + 1, p', h, e => by
    obtain ⟨u, h1, h2⟩ := PlOK_get (i := i) h.2 (by simpa using e)
    exact ⟨u, by simpa using h1, h2⟩
  | [], _, _, _, _, e => by simp at e
  | _ :: _, [], _, _, h, _ => h.elim
def costL (c : Cam) : List T3 → List Int
  | t :: u :: r => cl c t u :: costL c (u :: r)
  | _ => []
theorem costL_sum (c : Cam) : ∀ pl : List T3, (costL c pl).sum = cost c pl
  | [] => rfl
  | [_] => rfl
  | t :: u :: r => by
    show (cl c t u :: costL c (u :: r)).sum = cl c t u + cost c (u :: r)
    rw [List.sum_cons, costL_sum c (u :: r)]
theorem lcGo_zip {c : Cam} {step : D → Res (List D)} : ∀ (t : T3) (r : List T3), (∀ a ∈ t :: r, ∀ b ∈ t :: r, step (.tuple [e3 a, e3 b]) = .ok [.int (cl c a b)]) → lcGo step (zipD ((t :: r).map e3) (r.map e3)) = .ok (iL (costL c (t :: r)))
  | t, [], _ => rfl
  | t, u :: r, h => by
    show ((step (.tuple [e3 t, e3 u])).strict.bind fun o => (lcGo step (zipD ((u :: r).map e3) (r.map e3))).bind fun r => .ok (o ++ r)) = _
    rw [h t (by simp) u (by simp), lcGo_zip u r fun a ha b hb => h a (List.mem_cons_of_mem _ ha) b (List.mem_cons_of_mem _ hb)]
    rfl
theorem sum_ints (ns : List Int) : gSum [.list (iL ns)] = .ok (.int ns.sum) := by
  unfold gSum gIsL
  dsimp only
  rw [asIs_map]
  dsimp only
  cases ns <;> rfl
theorem PlOK_in {c : Cam} {ps : List Int} {ts : List T3} (h : PlOK c ps ts) : ∀ t ∈ ts, In3 c t := fun t ht => by
  obtain ⟨i, hi, e⟩ := List.getElem_of_mem ht
  have hl := PlOK_len h
  obtain ⟨u, h1, h2⟩ := PlOK_get (i := i) (p := ps[i]'(by omega)) h (List.getElem?_eq_getElem _)
  rw [List.getElem?_eq_getElem hi, e] at h1
  cases h1
  exact rt_in h2
theorem lights_ok (ns : List Int) (hl : ns.length ≤ 63) {c : Cam} (gs : SmallC c) (n : Nat) (h1 : 1 ≤ n) (h6 : n ≤ 6) {step : D → Res (List D)}
    (hs : ∀ k b : Int, F_law_light [.list (iL ns), .int (30 + 3 * k), cD c] = .ok (.int b) → step (.int k) = .ok [.int b]) :
    ∃ ps, PartsB ps ∧ ps.length = n ∧ lcGo step (rngD 0 n) = .ok (iL ps) := by
  obtain ⟨ps, e, h2, h3⟩ := lcGo_ex (P := fun b => -60 ≤ b ∧ b ≤ 120) (step := step) (up 0 n) fun k hk => by
    have hm := mem_up.mp hk
    obtain ⟨b, e1, b0, b1⟩ := light_ok ns hl gs (30 + 3 * k) (by omega) (by omega)
    exact ⟨b, hs k b e1, b0, b1⟩
  have hl2 : ps.length = n := by
    rw [h2]
    unfold up
    rw [List.length_map, List.length_range]
  refine ⟨ps, ⟨fun z => ?_, by omega, h3⟩, hl2, ?_⟩
  · rw [z] at hl2
    simp at hl2
    omega
  · rw [up_D]
    exact e
theorem y_asT2 (f : DEnv → Res D) (i j : Nat) (ρ : DEnv) {x y : D} (h : f ρ = .ok (.tuple [x, y])) : sAsg f [i, j] (hTup 2) ρ = .next ((ρ.set i (.d x)).set j (.d y)) := by
  unfold sAsg
  rw [h]
  rfl
theorem partsB_of {ps : List Int} (qs : List Int) (h : PartsB ps) (hn : qs ≠ []) (hl : qs.length ≤ 6) (hm : ∀ p ∈ qs, p ∈ ps) : PartsB qs := ⟨hn, hl, fun p hp => h.b p (hm p hp)⟩
end Lw
namespace Lw
open PySem L2 PD
theorem x_callSt (n : Nat) (F : List D → Res D) (g : DEnv → Res (List D)) (ρ : DEnv) : fCall n F (fSt g) ρ = ((g ρ).strict).bind fun ds => if ds.length = n then F ds else .bad := rfl
theorem lc4 {i : Nat} {fe : DEnv → Res D} {ρ : DEnv} {d : D} (h0 : fe ((wipeD ρ [i]).set i (.d (.int 0))) = .ok d) (h1 : fe ((wipeD ρ [i]).set i (.d (.int 1))) = .ok d) (h2 : fe ((wipeD ρ [i]).set i (.d (.int 2))) = .ok d) (h3 : fe ((wipeD ρ [i]).set i (.d (.int 3))) = .ok d) :
    fLc (fRng gRng1 (fCons (fC (.int 4)) fNil)) [i] [i] hOne fYes fe ρ = .ok (.list [d, d, d, d]) := by
  refine x_lc (ds := [.int 0, .int 1, .int 2, .int 3]) rfl ?_ (by show 4 < 1000000; decide)
  unfold lcGo lcGo lcGo lcGo lcGo
  rw [l_1, l_1, l_1, l_1, h0, h1, h2, h3]
  rfl
theorem wv_small {l m s : Int} (g : SmallW l m s) : (wv l m s).length ≤ 4 := by
  unfold wv
  rw [List.length_map, List.length_range]
  unfold rngN
  have := g.g.m0
  have := g.n
  have := g.g.s0
  rw [if_pos (by omega), show m + 1 - l - 1 = m - l by omega]
  omega
theorem tri_small {c : Cam} (g : SmallC c) : (tri c).length ≤ 64 := by
  rw [tri_len, sets_len]
  exact Nat.mul_le_mul (Nat.mul_le_mul (wv_small g.w1) (wv_small g.w2)) (wv_small g.w3)
theorem rt_small {c : Cam} (g : SmallC c) (L : Int) : (rt c L).length ≤ 64 := Nat.le_trans (List.length_filter_le _ _) (tri_small g)
end Lw
namespace Lw
open PySem L2 PD
abbrev nmD : List D := [.str "aperture", .str "time", .str "sensitivity"]
theorem find_of {x : Str} {j : Nat} (h1 : (SeqAt.shaped (.str x) && SeqAt.shaped (.tuple nmD)) = true) (h2 : inD (.str x) nmD = true) (h3 : (["aperture", "time", "sensitivity"] : List Str).idxOf? x = some j) : F_find_wheel [.str x] = .ok (.int j) := by
  have e1 : gIn true (.str x) (.tuple nmD) = .ok (.bool false) := by
    unfold gIn
    dsimp only
    rw [if_pos h1, h2]
    rfl
  have e2 : gNamesIx ["aperture", "time", "sensitivity"] (.str x) = .ok (.int j) := by
    unfold gNamesIx
    dsimp only
    rw [h3]
  unfold F_find_wheel B_find_wheel
  walk_at "ev"
  rw [e1]
  walk_at "ev"
  unfold fNix
  walk_at "ev"
  rw [e2]
  rfl
theorem find_0 : F_find_wheel [.str "aperture"] = .ok (.int 0) := find_of (j := 0) (by decide +kernel) (by decide +kernel) (by decide +kernel)
theorem find_1 : F_find_wheel [.str "time"] = .ok (.int 1) := find_of (j := 1) (by decide +kernel) (by decide +kernel) (by decide +kernel)
theorem find_2 : F_find_wheel [.str "sensitivity"] = .ok (.int 2) := find_of (j := 2) (by decide +kernel) (by decide +kernel) (by decide +kernel)
end Lw
namespace Lw
open PySem L2 PD
/-! ### the marks -/
def MK (m : Nat) : Str := ⟨Array.replicate m 120⟩
theorem MK_len (m : Nat) : (MK m).length = m := by
  show (Array.replicate m 120).size = m
  simp
theorem MK_0 : (Str.ofString "") = MK 0 := by decide +kernel
theorem MK_1 : (Str.ofString "x") = MK 1 := by decide +kernel
theorem MK_app (m n : Nat) : MK m ++ MK n = MK (m + n) := by
  show (⟨(MK m).cps ++ (MK n).cps⟩ : Str) = _
  unfold MK
  congr 1
  show Array.replicate m 120 ++ Array.replicate n 120 = _
  rw [Array.replicate_append_replicate]
theorem rep_app (n : Nat) : ∀ (acc : Nat), (List.replicate n (Array.replicate 1 120)).foldl (· ++ ·) (Array.replicate acc 120) = Array.replicate (acc + n) 120 := by
  induction n with
  | zero => intro acc; rfl
  | succ n ih =>
    intro acc
    rw [List.replicate_succ, List.foldl_cons, Array.replicate_append_replicate, ih]
    congr 1
    omega
theorem MK_rep {k : Int} (h : 0 ≤ k) : repS (MK 1) k = MK k.toNat := by
  unfold repS
  split
  · have : k = 0 := by omega
    subst this
    decide +kernel
  · split
    · rename_i h1 h2
      rw [MK_len] at h2
      have : k = 1 := by
        rw [Bool.or_eq_true] at h2
        rcases h2 with h2 | h2
        · exact eq_of_beq h2
        · cases h2
      subst this
      rfl
    · unfold MK
      congr 1
      have := rep_app k.toNat 0
      rw [Nat.zero_add] at this
      exact this
end Lw
namespace Lw
open PySem L2 PD
/-! ### a hand in the store -/
def pD (p : T3 × Nat) : D := .tuple [e3 p.1, .str (MK p.2)]
def fsOf (c : Cam) (p : T3 × Nat) (a b : Nat) : List (Str × MV) := [("camera", .d (cD c)), ("present", .d (pD p)), ("done", .id a), ("undone", .id b)]
theorem ne_pc : (Str.ofString "present" == Str.ofString "camera") = false := by decide +kernel
theorem ne_dc : (Str.ofString "done" == Str.ofString "camera") = false := by decide +kernel
theorem ne_dp : (Str.ofString "done" == Str.ofString "present") = false := by decide +kernel
theorem ne_uc : (Str.ofString "undone" == Str.ofString "camera") = false := by decide +kernel
theorem ne_up : (Str.ofString "undone" == Str.ofString "present") = false := by decide +kernel
theorem ne_ud : (Str.ofString "undone" == Str.ofString "done") = false := by decide +kernel
theorem lk_c (c : Cam) (p : T3 × Nat) (a b : Nat) : (fsOf c p a b).lookup (Str.ofString "camera") = some (.d (cD c)) := by
  unfold fsOf
  simp only [List.lookup, beq_self_eq_true]
theorem lk_p (c : Cam) (p : T3 × Nat) (a b : Nat) : (fsOf c p a b).lookup (Str.ofString "present") = some (.d (pD p)) := by
  unfold fsOf
  simp only [List.lookup, beq_self_eq_true, ne_pc]
theorem lk_d (c : Cam) (p : T3 × Nat) (a b : Nat) : (fsOf c p a b).lookup (Str.ofString "done") = some (.id a) := by
  unfold fsOf
  simp only [List.lookup, beq_self_eq_true, ne_dc, ne_dp]
theorem lk_u (c : Cam) (p : T3 × Nat) (a b : Nat) : (fsOf c p a b).lookup (Str.ofString "undone") = some (.id b) := by
  unfold fsOf
  simp only [List.lookup, beq_self_eq_true, ne_uc, ne_up, ne_ud]
theorem sne {x y : Str} (h : (x == y) = false) : ¬ x = y := fun e => by rw [e, beq_self_eq_true] at h; cases h
theorem sne' {x y : Str} (h : (x == y) = false) : ¬ y = x := fun e => sne h e.symm
theorem put_p (c : Cam) (p q : T3 × Nat) (a b : Nat) : putM "present" (.d (pD q)) (fsOf c p a b) = fsOf c q a b := by
  unfold fsOf
  simp only [putM, if_neg (sne' ne_pc), if_true]
theorem put_u (c : Cam) (p : T3 × Nat) (a b b' : Nat) : putM "undone" (.id b') (fsOf c p a b) = fsOf c p a b' := by
  unfold fsOf
  simp only [putM, if_neg (sne' ne_uc), if_neg (sne' ne_up), if_neg (sne' ne_ud), if_true]
structure HA (θ : Th) (i : Nat) (c : Cam) (p : T3 × Nat) (a b : Nat) (ds us : List (T3 × Nat)) : Prop where
  h : θ[i]? = some (.ins (fsOf c p a b))
  d : θ[a]? = some (.lst (ds.map pD))
  u : θ[b]? = some (.lst (us.map pD))
  n : a ≠ b
/-- all but some ids stay -/
def Keeps (θ θ' : Th) (is : List Nat) : Prop := θ.length ≤ θ'.length ∧ ∀ n o, n ∉ is → θ[n]? = some o → θ'[n]? = some o
theorem Keeps.refl (θ : Th) (is : List Nat) : Keeps θ θ is := ⟨Nat.le_refl _, fun _ _ _ h => h⟩
theorem Keeps.trans {θ θ' θ'' : Th} {is : List Nat} (a : Keeps θ θ' is) (b : Keeps θ' θ'' is) : Keeps θ θ'' is := ⟨Nat.le_trans a.1 b.1, fun n o h e => b.2 n o h (a.2 n o h e)⟩
theorem Keeps.set {θ : Th} {i : Nat} {o : MO} {is : List Nat} (h : i ∈ is) : Keeps θ (θ.set i o) is := ⟨by rw [List.length_set]; exact Nat.le_refl _, fun n u hn e => by
  have hi : i ≠ n := fun z => hn (z ▸ h)
  rw [List.getElem?_set_ne hi]
  exact e⟩
theorem Keeps.app (θ : Th) (o : MO) (is : List Nat) : Keeps θ (θ ++ [o]) is := ⟨by rw [List.length_append]; omega, fun n u hn e => by
  rw [List.getElem?_append_left (List.getElem?_eq_some_iff.mp e).1]
  exact e⟩
theorem set_here {θ : Th} {i : Nat} {o u : MO} (h : θ[i]? = some u) : (θ.set i o)[i]? = some o := List.getElem?_set_self (List.getElem?_eq_some_iff.mp h).1
theorem set_there {θ : Th} {i j : Nat} {o u : MO} (h : θ[j]? = some u) (hn : i ≠ j) : (θ.set i o)[j]? = some u := by rw [List.getElem?_set_ne hn]; exact h
theorem app_old {θ : Th} {j : Nat} {o u : MO} (h : θ[j]? = some u) : (θ ++ [o])[j]? = some u := by rw [List.getElem?_append_left (List.getElem?_eq_some_iff.mp h).1]; exact h
theorem app_new (θ : Th) (o : MO) : (θ ++ [o])[θ.length]? = some o := by rw [List.getElem?_append_right (Nat.le_refl _), Nat.sub_self]; rfl
theorem ne_ids {θ : Th} {i j : Nat} {fs : List (Str × MV)} {xs : List D} (h : θ[i]? = some (.ins fs)) (g : θ[j]? = some (.lst xs)) : i ≠ j := fun z => by
  subst z
  rw [h] at g
  cases g
theorem lst_at {θ : Th} {i : Nat} {xs : List D} (h : θ[i]? = some (.lst xs)) : lstAt θ (.id i) = some (i, xs) := by
  unfold lstAt
  dsimp only
  rw [h]
end Lw
namespace Lw
open PySem L2 PD
/-! ### evaluation of the store's expressions -/
theorem fn_M (n : Nat) (B : MEnv → Th → MSR) (ms : List MV) (θ : Th) : fnM n B ms θ = toM (B (startM n ms) θ) := rfl
theorem st_M (n : Nat) (ms : List MV) : startM n ms = ms.map some ++ List.replicate (n - ms.length) none := rfl
theorem t_ret (m : MV) (θ : Th) : toM (.ret m θ) = .ok m θ := rfl
theorem t_next (ρ : MEnv) (θ : Th) : toM (.next ρ θ) = .ok (.d .none) θ := rfl
theorem t_err (c : Str) (ρ : MEnv) (θ : Th) : toM (.err c ρ θ) = .err c θ := rfl
theorem m_b (gg : List D → Res D) (g : MEnv → Th → MRes (List MV)) (ρ : MEnv) (θ : Th) : mB gg g ρ θ = (g ρ θ).bind fun ms θ1 => withD ms θ1 gg := rfl
theorem m_callD (n : Nat) (F : List D → Res D) (g : MEnv → Th → MRes (List MV)) (ρ : MEnv) (θ : Th) : mCallD n F g ρ θ = (g ρ θ).bind fun ms θ1 => withD ms θ1 fun ds => if ds.length = n then F ds else .bad := rfl
theorem m_call (n : Nat) (F : List MV → Th → MRes MV) (g : MEnv → Th → MRes (List MV)) (ρ : MEnv) (θ : Th) : mCall n F g ρ θ = (g ρ θ).bind fun ms θ1 => if ms.length = n then F ms θ1 else .bad := rfl
def methAt (n : Nat) (m : Str) (F : List MV → Th → MRes MV) (g : MEnv → Th → MRes (List MV)) (ρ : MEnv) (u : MV) (θ1 : Th) : MRes MV := match insAt θ1 u with
  | some (i, fs) => match fs.lookup m with
    | none => (g ρ θ1).bind fun ms θ2 => if ms.length + 1 = n then F (.id i :: ms) θ2 else .bad
    | some _ => .bad
  | none => .bad
theorem m_meth (n : Nat) (m : Str) (F : List MV → Th → MRes MV) (fo : MEnv → Th → MRes MV) (g : MEnv → Th → MRes (List MV)) (ρ : MEnv) (θ : Th) : mMeth n m F fo g ρ θ = (fo ρ θ).bind fun u θ1 => methAt n m F g ρ u θ1 := rfl
theorem ins_at {θ : Th} {i : Nat} {fs : List (Str × MV)} (h : θ[i]? = some (.ins fs)) : insAt θ (.id i) = some (i, fs) := by
  unfold insAt
  dsimp only
  rw [h]
theorem methAt_at {n : Nat} {m : Str} {F : List MV → Th → MRes MV} {g : MEnv → Th → MRes (List MV)} {ρ : MEnv} {i : Nat} {θ : Th} {fs : List (Str × MV)} (h : θ[i]? = some (.ins fs)) (hm : fs.lookup m = none) :
    methAt n m F g ρ (.id i) θ = (g ρ θ).bind fun ms θ2 => if ms.length + 1 = n then F (.id i :: ms) θ2 else .bad := by
  unfold methAt
  rw [ins_at h]
  dsimp only
  rw [hm]
def appV (i : Nat) (v : MV) (θ2 : Th) : MRes MV := match v, lstAt θ2 (.id i) with
  | .d d, some (_, xs) => if lenOk (xs.length + 1) = true then .ok (.d .none) (θ2.set i (MO.lst (xs ++ [d]))) else .bad
  | _, _ => .bad
def appAt (fe : MEnv → Th → MRes MV) (ρ : MEnv) (u : MV) (θ1 : Th) : MRes MV := match u with
  | .id i => match lstAt θ1 (.id i) with
    | some _ => (fe ρ θ1).bind fun v θ2 => appV i v θ2
    | none => .bad
  | _ => .bad
theorem m_app (fo fe : MEnv → Th → MRes MV) (ρ : MEnv) (θ : Th) : mApp fo fe ρ θ = (fo ρ θ).bind fun u θ1 => appAt fe ρ u θ1 := rfl
theorem appAt_at {fe : MEnv → Th → MRes MV} {ρ : MEnv} {i : Nat} {θ : Th} {xs : List D} (h : θ[i]? = some (.lst xs)) : appAt fe ρ (.id i) θ = (fe ρ θ).bind fun v θ2 => appV i v θ2 := by
  unfold appAt
  dsimp only
  rw [lst_at h]
theorem appV_at {i : Nat} {d : D} {θ : Th} {xs : List D} (h : θ[i]? = some (.lst xs)) (hl : xs.length ≤ 10000) : appV i (.d d) θ = .ok (.d .none) (θ.set i (MO.lst (xs ++ [d]))) := by
  unfold appV
  rw [lst_at h]
  exact if_pos (decide_eq_true (by omega))
def popAt (u : MV) (θ1 : Th) : MRes MV := match lstAt θ1 u with
  | some (i, xs) => match xs[xs.length - 1]? with
    | some d => .ok (.d d) (θ1.set i (.lst xs.dropLast))
    | none => .bad
  | none => .bad
theorem m_pop (fo : MEnv → Th → MRes MV) (ρ : MEnv) (θ : Th) : mPop fo ρ θ = (fo ρ θ).bind popAt := rfl
theorem popAt_at {i : Nat} {d : D} {θ : Th} {xs : List D} (h : θ[i]? = some (MO.lst (xs ++ [d]))) : popAt (.id i) θ = .ok (.d d) (θ.set i (.lst xs)) := by
  unfold popAt
  rw [lst_at h]
  dsimp only
  rw [List.getElem?_append_right (by rw [List.length_append]; show xs.length ≤ xs.length + 1 - 1; omega), show (xs ++ [d]).length - 1 - xs.length = 0 from by rw [List.length_append]; show xs.length + 1 - 1 - xs.length = 0; omega]
  dsimp only [List.getElem?_cons_zero]
  rw [List.dropLast_concat]
def lenAt (F : List MV → Th → MRes MV) (u : MV) (θ1 : Th) : MRes MV := match insAt θ1 u with
  | some (i, _) => lenOf F i θ1
  | none => .bad
theorem m_lenO (F : List MV → Th → MRes MV) (fe : MEnv → Th → MRes MV) (ρ : MEnv) (θ : Th) : mLenO F fe ρ θ = (fe ρ θ).bind fun u θ1 => lenAt F u θ1 := rfl
theorem lenAt_at {F : List MV → Th → MRes MV} {i : Nat} {θ : Th} {fs : List (Str × MV)} {n : Nat} (h : θ[i]? = some (.ins fs)) (hF : F [.id i] θ = .ok (.d (.int n)) θ) (hn : n ≤ 1000000) : lenAt F (.id i) θ = .ok (.d (.int n)) θ := by
  unfold lenAt
  rw [ins_at h]
  dsimp only
  unfold lenOf
  rw [hF]
  exact if_pos ⟨by omega, by omega⟩
def makeAt (F : List MV → Th → MRes MV) (ms : List MV) (θ1 : Th) : MRes MV := (F (.id θ1.length :: ms) (θ1 ++ [MO.ins []])).bind fun r θ2 => (match r with
    | .d .none => .ok (.id θ1.length) θ2
    | _ => .bad)
theorem m_make (n : Nat) (F : List MV → Th → MRes MV) (g : MEnv → Th → MRes (List MV)) (ρ : MEnv) (θ : Th) : mMake n F g ρ θ = (g ρ θ).bind fun ms θ1 => if ms.length + 1 = n then makeAt F ms θ1 else .bad := rfl
theorem p_0 (p : T3 × Nat) : gIx (pD p) (.int 0) = .ok (e3 p.1) := rfl
theorem p_1 (p : T3 × Nat) : gIx (pD p) (.int 1) = .ok (.str (MK p.2)) := rfl
theorem len_mk {m : Nat} (h : m ≤ 100000) : gLen [.str (MK m)] = .ok (.int m) := by
  unfold gLen
  dsimp only
  rw [MK_len]
  exact if_pos (decide_eq_true (by omega))
theorem fs_len (c : Cam) (p : T3 × Nat) (a b : Nat) : (fsOf c p a b).length < 100 := by show 4 < 100; decide
section
variable {θ : Th} {i : Nat} {c : Cam} {p : T3 × Nat} {a b : Nat} {ds us : List (T3 × Nat)}
theorem HA.gp (h : HA θ i c p a b ds us) : getF "present" (.id i) θ = .ok (.d (pD p)) θ := getF_at h.h (lk_p c p a b)
theorem HA.gc (h : HA θ i c p a b ds us) : getF "camera" (.id i) θ = .ok (.d (cD c)) θ := getF_at h.h (lk_c c p a b)
theorem HA.gd (h : HA θ i c p a b ds us) : getF "done" (.id i) θ = .ok (.id a) θ := getF_at h.h (lk_d c p a b)
theorem HA.gu (h : HA θ i c p a b ds us) : getF "undone" (.id i) θ = .ok (.id b) θ := getF_at h.h (lk_u c p a b)
theorem setting_eq (h : HA θ i c p a b ds us) : F_Hand_setting [.id i] θ = .ok (.d (e3 p.1)) θ := by
  unfold F_Hand_setting B_Hand_setting
  simp_all_arith [fn_M, st_M, t_ret, h.gp, p_0]
theorem hlen_eq (h : HA θ i c p a b ds us) (hp : p.2 ≤ 100000) : F_Hand_len [.id i] θ = .ok (.d (.int p.2)) θ := by
  unfold F_Hand_len B_Hand_len
  simp_all_arith [fn_M, st_M, t_ret, h.gp, p_1, m_b, len_mk hp]
/-- what is not the hand's stays, and what was not the hand's is not its own now -/
structure Fr (θ θ' : Th) (i a b a' b' : Nat) : Prop where
  k : Keeps θ θ' [i, a, b]
  n : ∀ j, j < θ.length → j ≠ a → j ≠ b → j ≠ a' ∧ j ≠ b'
theorem mul_mk {k : Int} (h0 : 0 ≤ k) (h1 : k ≤ 1000) : gMulS (.str "x") (.int k) = .ok (.str (MK k.toNat)) := by
  unfold gMulS
  dsimp only
  rw [MK_1, MK_rep h0, MK_len, decide_eq_true h0, decide_eq_true (show k ≤ 100000 by omega)]
  rfl
theorem add_mk {m n : Nat} (h : m ≤ 100000) (h' : n ≤ 100000) : gAdd (.str (MK m)) (.str (MK n)) = .ok (.str (MK (m + n))) := by
  unfold gAdd
  dsimp only
  rw [MK_app, MK_len, MK_len]
  exact if_pos (decide_eq_true (by omega))
theorem change_eq (h : HA θ i c p a b ds us) (hl : ds.length ≤ 1000) {t : T3} {k : Int} (h0 : 0 ≤ k) (h1 : k ≤ 1000) (hp : p.2 ≤ 50000) :
    ∃ θ' b', F_Hand_change [.id i, .d (e3 t), .d (.int k)] θ = .ok (.d .none) θ' ∧ HA θ' i c (t, p.2 + k.toNat) a b' (ds ++ [p]) [] ∧ Fr θ θ' i a b a b' := by
  have hia : i ≠ a := ne_ids h.h h.d
  have hib : i ≠ b := ne_ids h.h h.u
  have g1 : (θ.set a (MO.lst (ds.map pD ++ [pD p])))[i]? = some (MO.ins (fsOf c p a b)) := set_there h.h (Ne.symm hia)
  have g2 : ((θ.set a (MO.lst (ds.map pD ++ [pD p]))).set i (MO.ins (fsOf c (t, p.2 + k.toNat) a b)) ++ [MO.lst []])[i]? = some (MO.ins (fsOf c (t, p.2 + k.toNat) a b)) := app_old (set_here g1)
  have g3 : (θ.set a (MO.lst (ds.map pD ++ [pD p])))[a]? = some (MO.lst (ds.map pD ++ [pD p])) := set_here h.d
  have ep : (PyData.tuple [e3 t, .str (MK (p.2 + k.toNat))]) = pD (t, p.2 + k.toNat) := rfl
  refine ⟨((θ.set a (MO.lst (ds.map pD ++ [pD p]))).set i (MO.ins (fsOf c (t, p.2 + k.toNat) a b)) ++ [MO.lst []]).set i (MO.ins (fsOf c (t, p.2 + k.toNat) a ((θ.set a (MO.lst (ds.map pD ++ [pD p]))).set i (MO.ins (fsOf c (t, p.2 + k.toNat) a b))).length)), ((θ.set a (MO.lst (ds.map pD ++ [pD p]))).set i (MO.ins (fsOf c (t, p.2 + k.toNat) a b))).length, ?_, ?_, ?_⟩
  · unfold F_Hand_change B_Hand_change
    simp_all_arith [fn_M, st_M, t_next, h.gp, h.gd, m_app, appAt_at h.d, appV_at (d := pD p) h.d (by rw [List.length_map]; omega), getF_at g1 (lk_p c p a b), p_1, mul_mk h0 h1, add_mk (m := p.2) (n := k.toNat) (by omega) (by omega), ep, putF'_at g1 (fs_len _ _ _ _), put_p, putF'_at g2 (fs_len _ _ _ _), put_u]
  · refine ⟨set_here g2, ?_, ?_, ?_⟩
    · refine set_there (app_old (set_there ?_ hia)) hia
      rw [List.map_append]
      exact g3
    · refine set_there (app_new _ _) ?_
      rw [List.length_set, List.length_set]
      have := (List.getElem?_eq_some_iff.mp h.h).1
      omega
    · rw [List.length_set, List.length_set]
      have := (List.getElem?_eq_some_iff.mp h.d).1
      omega
  · refine ⟨((Keeps.set (by simp)).trans (Keeps.set (by simp))).trans ((Keeps.app _ _ _).trans (Keeps.set (by simp))), fun j hj h1 h2 => ⟨h1, ?_⟩⟩
    rw [List.length_set, List.length_set]
    omega
end
end Lw
namespace Lw
open PySem L2 PD
/-! ### undo and redo -/
theorem strOk_mk (m : Nat) : PyData.strOk (MK m) = true := by
  unfold PyData.strOk MK
  rw [Array.all_eq_true]
  intro i hi
  simp
theorem sh_pDs : ∀ ps : List (T3 × Nat), PyData.canLayAll0 (ps.map pD) = true ∧ PyData.depthAll (ps.map pD) ≤ 2
  | [] => ⟨rfl, Nat.zero_le _⟩
  | p :: ps => by
    obtain ⟨h1, h2⟩ := sh_pDs ps
    refine ⟨?_, ?_⟩
    · show ((PyData.canLay0 (e3 p.1) && (PyData.strOk (MK p.2) && true)) && PyData.canLayAll0 (ps.map pD)) = true
      rw [h1, strOk_mk]
      rfl
    · show max (PyData.depth (pD p)) (PyData.depthAll (ps.map pD)) ≤ 2
      have : PyData.depth (pD p) = 2 := rfl
      omega
theorem sh_pD (ps : List (T3 × Nat)) : SeqAt.shaped (.list (ps.map pD)) = true := by
  obtain ⟨h1, h2⟩ := sh_pDs ps
  show (PyData.canLayAll0 (ps.map pD) && decide (PyData.depthAll (ps.map pD) + 1 ≤ 64)) = true
  rw [h1, decide_eq_true (by omega)]
  rfl
theorem emp_map {A B : Type} (f : A → B) (l : List A) : (l.map f).isEmpty = l.isEmpty := by cases l <;> rfl
section
variable {θ : Th} {i : Nat} {c : Cam} {p : T3 × Nat} {a b : Nat} {ds us : List (T3 × Nat)}
theorem emp_app {A : Type} (l : List A) (x : A) : (l ++ [x]).isEmpty = false := by cases l <;> rfl
end
end Lw
namespace Lw
open PySem L2 PD
/-! ### aim -/
theorem lk_no (c : Cam) (p : T3 × Nat) (a b : Nat) {m : Str} (h1 : (m == "camera") = false) (h2 : (m == "present") = false) (h3 : (m == "done") = false) (h4 : (m == "undone") = false) : (fsOf c p a b).lookup m = none := by
  unfold fsOf
  simp only [List.lookup, h1, h2, h3, h4]
theorem lk_change (c : Cam) (p : T3 × Nat) (a b : Nat) : (fsOf c p a b).lookup (Str.ofString "change") = none := lk_no c p a b (by decide +kernel) (by decide +kernel) (by decide +kernel) (by decide +kernel)
theorem lk_click (c : Cam) (p : T3 × Nat) (a b : Nat) : (fsOf c p a b).lookup (Str.ofString "click") = none := lk_no c p a b (by decide +kernel) (by decide +kernel) (by decide +kernel) (by decide +kernel)
theorem lk_aim (c : Cam) (p : T3 × Nat) (a b : Nat) : (fsOf c p a b).lookup (Str.ofString "aim") = none := lk_no c p a b (by decide +kernel) (by decide +kernel) (by decide +kernel) (by decide +kernel)
theorem lk_undo (c : Cam) (p : T3 × Nat) (a b : Nat) : (fsOf c p a b).lookup (Str.ofString "undo") = none := lk_no c p a b (by decide +kernel) (by decide +kernel) (by decide +kernel) (by decide +kernel)
theorem lk_redo (c : Cam) (p : T3 × Nat) (a b : Nat) : (fsOf c p a b).lookup (Str.ofString "redo") = none := lk_no c p a b (by decide +kernel) (by decide +kernel) (by decide +kernel) (by decide +kernel)
theorem lk_setting (c : Cam) (p : T3 × Nat) (a b : Nat) : (fsOf c p a b).lookup (Str.ofString "setting") = none := lk_no c p a b (by decide +kernel) (by decide +kernel) (by decide +kernel) (by decide +kernel)
theorem lk_clicked (c : Cam) (p : T3 × Nat) (a b : Nat) : (fsOf c p a b).lookup (Str.ofString "clicked") = none := lk_no c p a b (by decide +kernel) (by decide +kernel) (by decide +kernel) (by decide +kernel)
theorem pr_0 (k : Int) (t : T3) : gIx (pr k t) (.int 0) = .ok (.int k) := rfl
theorem pr_1 (k : Int) (t : T3) : gIx (pr k t) (.int 1) = .ok (e3 t) := rfl
theorem pr_is (neg : Bool) (k : Int) (t : T3) : gIs neg (pr k t) .none = .ok (.bool neg) := by cases neg <;> rfl
theorem none_is (neg : Bool) : gIs neg .none .none = .ok (.bool (!neg)) := by cases neg <;> rfl
section
variable {θ : Th} {i : Nat} {c : Cam} {p : T3 × Nat} {a b : Nat} {ds us : List (T3 × Nat)}
/-! ### click -/
theorem in_wv (neg : Bool) (v : Int) (ns : List Int) : gIn neg (.int v) (.list (iL ns)) = .ok (.bool (if neg = true then !decide (v ∈ ns) else decide (v ∈ ns))) := by
  unfold gIn
  dsimp only
  rw [sh_ints, sh_int]
  show Res.ok (PyData.bool (if neg = true then !inD (.int v) (iL ns) else inD (.int v) (iL ns))) = _
  rw [inD_int]
theorem eq_pm {st : Int} (hst : st = 1 ∨ st = -1) : gEq (.int st) (.int 0) = .ok (.bool false) := by rcases hst with rfl | rfl <;> rfl
theorem is_pm {st : Int} (hst : st = 1 ∨ st = -1) : isIntD (.int st) (-1) 1 = true := by rcases hst with rfl | rfl <;> rfl
theorem click_no (h : HA θ i c p a b ds us) {w : Str} {k l m s x : Int} (gw : GoodW l m s) (hw : F_find_wheel [.str w] = .ok (.int k)) (hx : gIx (e3 p.1) (.int k) = .ok (.int x)) (hc : gIx (cD c) (.int k) = .ok (wD l m s))
    {st : Int} (hst : st = 1 ∨ st = -1) (hv : x + st * s ∉ wv l m s) : F_Hand_click [.id i, .d (.str w), .d (.int st)] θ = .err "NoClick" θ := by
  have hm : gMulI (.int st) (.int s) = .ok (.int (st * s)) := g_mulc (by omega) (by omega)
  unfold F_Hand_click B_Hand_click
  simp_all_arith [fn_M, st_M, t_err, h.gp, h.gc, p_0, hw, is_int_eq, is_pm hst, eq_pm hst, hx, hc, hm, m_callD, wheel_values_good gw, in_wv true, decide_eq_false hv]
theorem click_yes (h : HA θ i c p a b ds us) (hl : ds.length ≤ 1000) (hp : p.2 ≤ 50000) {w : Str} {k l m s x : Int} (gw : GoodW l m s) (hw : F_find_wheel [.str w] = .ok (.int k)) (hx : gIx (e3 p.1) (.int k) = .ok (.int x)) (hc : gIx (cD c) (.int k) = .ok (wD l m s))
    {st : Int} (hst : st = 1 ∨ st = -1) (hv : x + st * s ∈ wv l m s) {A B G : D} {t : T3} (s1 : gSl (e3 p.1) none (some k) = .ok A) (s2 : gAdd A (.tuple [.int (x + st * s)]) = .ok B) (s3 : gSl (e3 p.1) (some (k + 1)) none = .ok G) (s4 : gAdd B G = .ok (e3 t)) :
    ∃ θ' b', F_Hand_click [.id i, .d (.str w), .d (.int st)] θ = .ok (.d (.int (x + st * s))) θ' ∧ HA θ' i c (t, p.2 + 1) a b' (ds ++ [p]) [] ∧ Fr θ θ' i a b a b' := by
  have hm : gMulI (.int st) (.int s) = .ok (.int (st * s)) := g_mulc (by omega) (by omega)
  obtain ⟨θ', b', e1, e2, e3⟩ := change_eq h hl (t := t) (k := 1) (by decide) (by decide) hp
  refine ⟨θ', b', ?_, e2, e3⟩
  unfold F_Hand_click B_Hand_click
  simp_all_arith [fn_M, st_M, t_ret, h.gp, h.gc, p_0, hw, is_int_eq, is_pm hst, eq_pm hst, hx, hc, hm, m_callD, wheel_values_good gw, in_wv true, decide_eq_true hv, s1, s2, s3, s4, m_meth, methAt_at h.h (lk_change _ _ _ _), e1]
end
def nmOf (k : Nat) : Str := match k with
  | 0 => "aperture"
  | 1 => "time"
  | _ => "sensitivity"
def lOf (c : Cam) (k : Nat) : Int := match k with
  | 0 => c.l1
  | 1 => c.l2
  | _ => c.l3
def mOf (c : Cam) (k : Nat) : Int := match k with
  | 0 => c.m1
  | 1 => c.m2
  | _ => c.m3
def sOf (c : Cam) (k : Nat) : Int := match k with
  | 0 => c.s1
  | 1 => c.s2
  | _ => c.s3
def atOf (t : T3) (k : Nat) : Int := match k with
  | 0 => t.1
  | 1 => t.2.1
  | _ => t.2.2
def putOf (t : T3) (k : Nat) (v : Int) : T3 := match k with
  | 0 => (v, t.2.1, t.2.2)
  | 1 => (t.1, v, t.2.2)
  | _ => (t.1, t.2.1, v)
theorem goodOf {c : Cam} (g : GoodC c) (k : Nat) : GoodW (lOf c k) (mOf c k) (sOf c k) := match k with
  | 0 => g.w1
  | 1 => g.w2
  | _ + 2 => g.w3
theorem inOf {c : Cam} {t : T3} (h : In3 c t) (k : Nat) : atOf t k ∈ wv (lOf c k) (mOf c k) (sOf c k) := match k with
  | 0 => h.a
  | 1 => h.b
  | _ + 2 => h.d
theorem in_put {c : Cam} {t : T3} (h : In3 c t) (k : Nat) {v : Int} (hv : v ∈ wv (lOf c k) (mOf c k) (sOf c k)) : In3 c (putOf t k v) := match k with
  | 0 => ⟨hv, h.b, h.d⟩
  | 1 => ⟨h.a, hv, h.d⟩
  | _ + 2 => ⟨h.a, h.b, hv⟩
theorem ixt {k : Nat} (h : k ≤ 2) (t : T3) : gIx (e3 t) (.int k) = .ok (.int (atOf t k)) := match k, h with
  | 0, _ => rfl
  | 1, _ => rfl
  | 2, _ => rfl
theorem ixc {k : Nat} (h : k ≤ 2) (c : Cam) : gIx (cD c) (.int k) = .ok (wD (lOf c k) (mOf c k) (sOf c k)) := match k, h with
  | 0, _ => rfl
  | 1, _ => rfl
  | 2, _ => rfl
theorem find_nm {k : Nat} (h : k ≤ 2) : F_find_wheel [.str (nmOf k)] = .ok (.int k) := match k, h with
  | 0, _ => find_0
  | 1, _ => find_1
  | 2, _ => find_2
theorem sls {k : Nat} (h : k ≤ 2) (t : T3) (v : Int) : ∃ A B G, gSl (e3 t) none (some (k : Int)) = .ok A ∧ gAdd A (.tuple [.int v]) = .ok B ∧ gSl (e3 t) (some ((k : Int) + 1)) none = .ok G ∧ gAdd B G = .ok (e3 (putOf t k v)) := match k, h with
  | 0, _ => ⟨.tuple [], .tuple [.int v], .tuple [.int t.2.1, .int t.2.2], rfl, rfl, rfl, rfl⟩
  | 1, _ => ⟨.tuple [.int t.1], .tuple [.int t.1, .int v], .tuple [.int t.2.2], rfl, rfl, rfl, rfl⟩
  | 2, _ => ⟨.tuple [.int t.1, .int t.2.1], .tuple [.int t.1, .int t.2.1, .int v], .tuple [], rfl, rfl, rfl, rfl⟩
end Lw
namespace Lw
open PySem L2 PD
/-! ### Hand(camera) -/
theorem put_1 (x y : MV) : putM "present" y [(Str.ofString "camera", x)] = [(Str.ofString "camera", x), (Str.ofString "present", y)] := by
  simp only [putM, if_neg (sne' ne_pc)]
theorem put_2 (x y z : MV) : putM "done" z [(Str.ofString "camera", x), (Str.ofString "present", y)] = [(Str.ofString "camera", x), (Str.ofString "present", y), (Str.ofString "done", z)] := by
  simp only [putM, if_neg (sne' ne_dc), if_neg (sne' ne_dp)]
theorem put_3 (x y z w : MV) : putM "undone" w [(Str.ofString "camera", x), (Str.ofString "present", y), (Str.ofString "done", z)] = [(Str.ofString "camera", x), (Str.ofString "present", y), (Str.ofString "done", z), (Str.ofString "undone", w)] := by
  simp only [putM, if_neg (sne' ne_uc), if_neg (sne' ne_up), if_neg (sne' ne_ud)]
theorem put_0 (x : MV) : putM "camera" x [] = [(Str.ofString "camera", x)] := rfl
def fst3 (c : Cam) : T3 := (c.l1, c.l2, c.l3)
def TA (θ : Th) (i : Nat) (c : Cam) : Th := θ.set i (.ins [(Str.ofString "camera", .d (cD c))])
def TB (θ : Th) (i : Nat) (c : Cam) : Th := (TA θ i c).set i (.ins [(Str.ofString "camera", .d (cD c)), (Str.ofString "present", .d (pD (fst3 c, 0)))])
def TC (θ : Th) (i : Nat) (c : Cam) : Th := (TB θ i c ++ [MO.lst []]).set i (.ins [(Str.ofString "camera", .d (cD c)), (Str.ofString "present", .d (pD (fst3 c, 0))), (Str.ofString "done", .id (TB θ i c).length)])
def TD (θ : Th) (i : Nat) (c : Cam) : Th := (TC θ i c ++ [MO.lst []]).set i (.ins (fsOf c (fst3 c, 0) (TB θ i c).length (TC θ i c).length))
theorem lc_first (c : Cam) {ρ : DEnv} {i j : Nat} (h1 : fVar j ρ = .ok (cD c)) (h2 : ∀ d, fVar i ((wipeD ρ [i]).set i (.d d)) = .ok d) : fLc (fSeq (fVar j)) [i] [i] hOne fYes (fBin gIx (fVar i) (fC (.int 0))) ρ = .ok (.list [.int c.l1, .int c.l2, .int c.l3]) := by
  refine x_lc (ds := [wD c.l1 c.m1 c.s1, wD c.l2 c.m2 c.s2, wD c.l3 c.m3 c.s3]) (by rw [x_seq, h1]; rfl) ?_ (by show 3 < 1000000; decide)
  unfold lcGo lcGo lcGo lcGo
  rw [l_1, l_1, l_1, x_bin, x_bin, x_bin, h2, h2, h2]
  rfl
theorem init_eq {c : Cam} (g : GoodC c) {θ : Th} {i : Nat} (h : θ[i]? = some (.ins [])) : F_Hand_init [.id i, .d (cD c)] θ = .ok (.d .none) (TD θ i c) := by
  have hA : (TA θ i c)[i]? = some (.ins [(Str.ofString "camera", .d (cD c))]) := set_here h
  have hB : (TB θ i c ++ [MO.lst []])[i]? = some (.ins [(Str.ofString "camera", .d (cD c)), (Str.ofString "present", .d (pD (fst3 c, 0)))]) := app_old (set_here hA)
  have hC : (TC θ i c ++ [MO.lst []])[i]? = some (.ins [(Str.ofString "camera", .d (cD c)), (Str.ofString "present", .d (pD (fst3 c, 0))), (Str.ofString "done", .id (TB θ i c).length)]) := app_old (set_here hB)
  have eA : θ.set i (.ins [(Str.ofString "camera", .d (cD c))]) = TA θ i c := rfl
  have eB : (TA θ i c).set i (.ins [(Str.ofString "camera", .d (cD c)), (Str.ofString "present", .d (pD (fst3 c, 0)))]) = TB θ i c := rfl
  have eC : (TB θ i c ++ [MO.lst []]).set i (.ins [(Str.ofString "camera", .d (cD c)), (Str.ofString "present", .d (pD (fst3 c, 0))), (Str.ofString "done", .id (TB θ i c).length)]) = TC θ i c := rfl
  have eD : (TC θ i c ++ [MO.lst []]).set i (.ins [(Str.ofString "camera", .d (cD c)), (Str.ofString "present", .d (pD (fst3 c, 0))), (Str.ofString "done", .id (TB θ i c).length), (Str.ofString "undone", .id (TC θ i c).length)]) = TD θ i c := rfl
  have ep : fTup (fCons (fB gTupOf (fCons (fLc (fSeq (fVar 1)) [2] [2] hOne fYes (fBin gIx (fVar 2) (fC (.int 0)))) fNil)) (fCons (fC (.str "")) fNil)) [.un, .d (cD c), .un] = .ok (pD (fst3 c, 0)) := by
    rw [x_tup, x_cons, x_b, x_cons, lc_first c rfl (fun d => rfl), MK_0]
    rfl
  unfold F_Hand_init B_Hand_init
  simp only [fn_M, st_M, List.map_cons, List.map_nil, List.length_cons, List.length_nil, Nat.reduceAdd, Nat.reduceSub, List.replicate_succ, List.replicate_zero, List.cons_append, List.nil_append]
  rw [s_seq, s_expr, m_pure, show (fCall 1 F_check_camera (fCons (fVar 1) fNil)) (eraseM [some (MV.id i), some (MV.d (cD c)), none]) = F_check_camera [cD c] from rfl, check_camera_good g, lr_ok, om_ok, q_next]
  rw [s_seq, s_fldS, m_pure, show fVar 1 (eraseM [some (MV.id i), some (MV.d (cD c)), none]) = .ok (cD c) from rfl, lr_ok, om_ok, m_var0, om_ok, putF'_at h (by decide), put_0, eA, q_next]
  rw [s_seq, s_fldS, m_pure, show eraseM [some (MV.id i), some (MV.d (cD c)), none] = [.un, .d (cD c), .un] from rfl, ep, lr_ok, om_ok, m_var0, om_ok, putF'_at hA (Nat.lt_of_sub_eq_succ rfl), put_1, eB, q_next]
  rw [s_seq, s_fldS, m_newL0, om_ok, m_var0, om_ok, putF'_at hB (Nat.lt_of_sub_eq_succ rfl), put_2, eC, q_next]
  rw [s_fldS, m_newL0, om_ok, m_var0, om_ok, putF'_at hC (Nat.lt_of_sub_eq_succ rfl), put_3, eD, t_next]
theorem init_bad {θ : Th} {i : Nat} {d : D} (h : F_check_camera [d] = .err "InvalidCamera") : F_Hand_init [.id i, .d d] θ = .err "InvalidCamera" θ := by
  unfold F_Hand_init B_Hand_init
  simp_all_arith [fn_M, st_M, t_err, h]
/-- what was there stays -/
def Grows (θ θ' : Th) : Prop := θ.length ≤ θ'.length ∧ ∀ (n : Nat) (o : MO), θ[n]? = some o → θ'[n]? = some o
theorem Grows.app (θ : Th) (o : MO) : Grows θ (θ ++ [o]) := ⟨by rw [List.length_append]; omega, fun n u h => app_old h⟩
theorem HA.grow {θ θ' : Th} {i : Nat} {c : Cam} {p : T3 × Nat} {a b : Nat} {ds us : List (T3 × Nat)} (h : HA θ i c p a b ds us) (g : Grows θ θ') : HA θ' i c p a b ds us := ⟨g.2 _ _ h.h, g.2 _ _ h.d, g.2 _ _ h.u, h.n⟩
theorem make_eq {c : Cam} (g : GoodC c) (θ : Th) : ∃ θ' a b, makeAt F_Hand_init [.d (cD c)] θ = .ok (.id θ.length) θ' ∧ HA θ' θ.length c (fst3 c, 0) a b [] [] ∧ θ.length < a ∧ θ.length < b ∧ Grows θ θ' ∧ θ'.length = θ.length + 3 := by
  have h0 : (θ ++ [MO.ins []])[θ.length]? = some (.ins []) := app_new θ _
  have hA : (TA (θ ++ [MO.ins []]) θ.length c)[θ.length]? = some (.ins [(Str.ofString "camera", .d (cD c))]) := set_here h0
  have hB : (TB (θ ++ [MO.ins []]) θ.length c ++ [MO.lst []])[θ.length]? = some (.ins [(Str.ofString "camera", .d (cD c)), (Str.ofString "present", .d (pD (fst3 c, 0)))]) := app_old (set_here hA)
  have hC : (TC (θ ++ [MO.ins []]) θ.length c ++ [MO.lst []])[θ.length]? = some (.ins [(Str.ofString "camera", .d (cD c)), (Str.ofString "present", .d (pD (fst3 c, 0))), (Str.ofString "done", .id (TB (θ ++ [MO.ins []]) θ.length c).length)]) := app_old (set_here hB)
  have lB : (TB (θ ++ [MO.ins []]) θ.length c).length = θ.length + 1 := by unfold TB TA; rw [List.length_set, List.length_set, List.length_append]; rfl
  have lC : (TC (θ ++ [MO.ins []]) θ.length c).length = θ.length + 2 := by unfold TC; rw [List.length_set, List.length_append, lB]; rfl
  refine ⟨TD (θ ++ [MO.ins []]) θ.length c, (TB (θ ++ [MO.ins []]) θ.length c).length, (TC (θ ++ [MO.ins []]) θ.length c).length, ?_, ⟨set_here hC, ?_, ?_, by omega⟩, by omega, by omega, ⟨?_, fun n o hn => ?_⟩, ?_⟩
  · unfold makeAt
    rw [init_eq g h0]
    rfl
  · refine set_there (app_old (set_there (app_new _ _) ?_)) ?_ <;> omega
  · refine set_there (app_new _ _) ?_
    omega
  · unfold TD
    rw [List.length_set, List.length_append]
    omega
  · have hl := (List.getElem?_eq_some_iff.mp hn).1
    have hne : θ.length ≠ n := by omega
    exact set_there (app_old (set_there (app_old (set_there (set_there (app_old hn) hne) hne)) hne)) hne
  · unfold TD
    rw [List.length_set, List.length_append, lC]
    rfl
theorem make_bad {θ : Th} {d : D} (h : F_check_camera [d] = .err "InvalidCamera") : makeAt F_Hand_init [.d d] θ = .err "InvalidCamera" (θ ++ [MO.ins []]) := by
  unfold makeAt
  rw [init_bad h]
  rfl
end Lw
namespace Lw
open PySem L2 PD
/-! ### evaluation of statements over the store -/
theorem s_par (g : MEnv → Th → MRes (List MV)) (is : List Nat) (ρ : MEnv) (θ : Th) : mPar g is ρ θ = ofM (g ρ θ) ρ fun ms θ1 => if ms.length = is.length then .next (setM ρ is ms) θ1 else .bad := rfl
theorem s_alias (gc : MEnv → Th → MRes Bool) (g1 g2 : MEnv → Th → MRes (List MV)) (is : List Nat) (ρ : MEnv) (θ : Th) : mAlias gc g1 g2 is ρ θ = ofM (gc ρ θ) ρ fun b θ1 => ofM (if b = true then g1 ρ θ1 else g2 ρ θ1) ρ fun ms θ2 => if ms.length = is.length then .next (setM ρ is ms) θ2 else .bad := rfl
def asgAt (is : List Nat) (hh : D → Option (List D)) (ρ : MEnv) (m : MV) (θ1 : Th) : MSR := match m with
  | .d d => match hh d with
    | some ds => .next (setM ρ is (ds.map MV.d)) θ1
    | none => .bad
  | _ => .bad
theorem s_asg (f : MEnv → Th → MRes MV) (is : List Nat) (hh : D → Option (List D)) (ρ : MEnv) (θ : Th) : mAsg f is hh ρ θ = ofM (f ρ θ) ρ fun m θ1 => asgAt is hh ρ m θ1 := by
  unfold mAsg asgAt
  congr 1
theorem asg_2 (i j : Nat) (x y : D) (ρ : MEnv) (θ : Th) : asgAt [i, j] (hTup 2) ρ (.d (.tuple [x, y])) θ = .next ((ρ.set i (some (.d x))).set j (some (.d y))) θ := rfl
theorem set_M1 (ρ : MEnv) (i : Nat) (is : List Nat) (m : MV) (ms : List MV) : setM ρ (i :: is) (m :: ms) = setM (ρ.set i (some m)) is ms := rfl
theorem set_M0 (ρ : MEnv) : setM ρ [] [] = ρ := rfl
theorem vm_c (θ : Th) (r : Option MV) (ρ : MEnv) : viewM θ (r :: ρ) = viewS θ r :: viewM θ ρ := rfl
theorem vs_d (θ : Th) (x : D) : viewS θ (some (.d x)) = .d x := rfl
theorem vs_id (θ : Th) (n : Nat) : viewS θ (some (.id n)) = idS θ n := rfl
theorem vs_lsi (θ : Th) (ns : List Nat) : viewS θ (some (.lsi ns)) = .un := rfl
theorem s_for (src : DEnv → Res (List D)) (is : List Nat) (hh : D → Option (List D)) (body : MEnv → Th → MSR) (ρ : MEnv) (θ : Th) : mFor src is hh body ρ θ = ofM (liftR (src (eraseM ρ)) (fun ds => ds) θ) ρ fun ds θ1 => mForGo (mAsgOf is hh) body ds ρ θ1 := rfl
end Lw
namespace Lw
open PySem L2 PD
/-! ### new objects -/
theorem newP_ok {f : DEnv → Res D} {ρ : MEnv} {θ : Th} {xs : List D} (h : f (eraseM ρ) = .ok (.list xs)) : mNewP f ρ θ = .ok (.id θ.length) (θ ++ [.lst xs]) := by
  unfold mNewP
  rw [h]
theorem ret_of {r : Res D} {x : D} (h : toRes (ofRes r fun d => .ret d) = .ok x) : r = .ok x := by
  cases r with
  | ok d => exact h
  | err c => cases h
  | bad => cases h
theorem M_allowed_eq {c : Cam} (g : GoodC c) {u : T3} (h : LimB u) {L : Int} (h1 : -60 ≤ L) (h2 : L ≤ 120) (θ : Th) : F_M_allowed [.d (cD c), .d (e3 u), .d (.int L)] θ = .ok (.id θ.length) (θ ++ [.lst ((al c u L).map e3)]) := by
  have e := allowed_eq g h h1 h2
  unfold F_allowed B_allowed at e
  rw [y_fn, show startD 5 [cD c, e3 u, PyData.int L] = [.d (cD c), .d (e3 u), .d (.int L), .un, .un] from rfl, y_rt] at e
  have e := ret_of e
  unfold F_M_allowed B_M_allowed
  rw [fn_M, show startM 5 [.d (cD c), .d (e3 u), .d (.int L)] = [some (.d (cD c)), some (.d (e3 u)), some (.d (.int L)), none, none] from rfl, s_ret, newP_ok e]
  rfl
theorem M_find_held_eq (t : T3) {ps : List Int} (hl : ps.length ≤ 1000) (lat : Int) (θ : Th) : F_M_find_held [.d (e3 t), .d (.list (iL ps)), .d (.int lat)] θ = .ok (.id θ.length) (θ ++ [.lst (iL (heldF (num t) lat 0 ps))]) := by
  have e := find_held_eq t hl lat
  unfold F_find_held B_find_held at e
  rw [y_fn, show startD 6 [e3 t, .list (iL ps), .int lat] = [.d (e3 t), .d (.list (iL ps)), .d (.int lat), .un, .un, .un] from rfl, y_seq, y_as1, x_call1, show fVar 0 [.d (e3 t), .d (.list (iL ps)), .d (.int lat), .un, .un, .un] = .ok (e3 t) from rfl, bind_ok, show F_find_exposure [e3 t] = .ok (.int (num t)) from exposure_eq _ _ _, y_ok, y_next, y_rt] at e
  have e := ret_of e
  unfold F_M_find_held B_M_find_held
  rw [fn_M, show startM 6 [.d (e3 t), .d (.list (iL ps)), .d (.int lat)] = [some (.d (e3 t)), some (.d (.list (iL ps))), some (.d (.int lat)), none, none, none] from rfl, s_seq, s_set, m_pure, show fCall 1 F_find_exposure (fCons (fVar 0) fNil) (eraseM [some (.d (e3 t)), some (.d (.list (iL ps))), some (.d (.int lat)), none, none, none]) = F_find_exposure [e3 t] from rfl, show F_find_exposure [e3 t] = .ok (.int (num t)) from exposure_eq _ _ _, lr_ok, om_ok, q_next, s_ret, newP_ok e]
  rfl
theorem M_held_eq {c : Cam} (g : GoodC c) {t : T3} (hi : In3 c t) {ps : List Int} (hp : PartsB ps) {lat : Int} (l0 : 0 ≤ lat) (l1 : lat ≤ 60) (θ : Th) : F_M_held [.d (cD c), .d (e3 t), .d (.list (iL ps)), .d (.int lat)] θ = .ok (.id θ.length) (θ ++ [.lst (iL (heldF (num t) lat 0 ps))]) := by
  have := hp.le
  unfold F_M_held B_M_held
  simp_all_arith [fn_M, st_M, t_ret, check_camera_good g, set_ok g hi, check_parts_ok hp, check_lat_ok l0 l1, m_call, M_find_held_eq t (ps := ps) (by omega) lat]
theorem M_best_row_eq {c : Cam} (g : GoodC c) {ps : List Int} (hp : PartsB ps) {q : Pl} (hq : MP c ps = some q) (θ : Th) : F_M_best_row [.d (cD c), .d (.list (iL ps))] θ = .ok (.id θ.length) (θ ++ [.lst (q.2.map e3)]) := by
  have := hp.le
  have er := find_row_eq g (ps := ps) (by omega)
  rw [hq] at er
  have er : F_find_row [cD c, .list (iL ps)] = .ok (qT q) := er
  have en : fB gListOf (fCons (fBin gIx (fVar 2) (fC (.int 1))) fNil) (eraseM [some (.d (cD c)), some (.d (.list (iL ps))), some (.d (qT q))]) = .ok (.list (q.2.map e3)) := rfl
  unfold F_M_best_row B_M_best_row
  simp_all_arith [fn_M, st_M, check_row_ok g hp, er, show gIs true (qT q) .none = .ok (.bool true) from rfl]
  rw [newP_ok en, om_ok, t_ret]
theorem num_first {c : Cam} (gs : SmallC c) : -60 ≤ num (fst3 c) ∧ num (fst3 c) ≤ 120 := by
  have h1 := gs.w1.l20
  have h2 := gs.w2.l20
  have h3 := gs.w3.l20
  have k1 := gs.g.w1.l0
  have k2 := gs.g.w2.l0
  have k3 := gs.g.w3.l0
  show -60 ≤ c.l1 + c.l2 - c.l3 ∧ c.l1 + c.l2 - c.l3 ≤ 120
  omega
theorem first_in {c : Cam} (g : GoodC c) : In3 c (fst3 c) := by
  have w : ∀ {l m s : Int}, GoodW l m s → l ∈ wv l m s := fun g => (mem_wv g.m0 (by have := g.s0; omega)).mpr ⟨Int.le_refl _, g.m0, by rw [Int.sub_self]; exact Int.zero_emod _⟩
  exact ⟨w g.w1, w g.w2, w g.w3⟩
theorem lim60 : LimB (0, 0, 60) := ⟨by decide, by decide, by decide, by decide, by decide, by decide⟩
theorem row_some {c : Cam} (gs : SmallC c) : ∃ q, MP c [num (fst3 c), num (fst3 c)] = some q := by
  cases h : MP c [num (fst3 c), num (fst3 c)] with
  | some q => exact ⟨q, rfl⟩
  | none =>
    obtain ⟨p, hp, e⟩ := (MP_none (by simp)).mp h
    have : p = num (fst3 c) := by simpa using hp
    subst this
    have : fst3 c ∈ rt c (num (fst3 c)) := List.mem_filter.mpr ⟨mem_tri.mpr (first_in gs.g), by simp⟩
    rw [e] at this
    cases this
theorem two_parts {c : Cam} (gs : SmallC c) : PartsB [num (fst3 c), num (fst3 c)] := ⟨by simp, by simp, fun p hp => by
  have : p = num (fst3 c) := by simpa using hp
  rw [this]
  exact num_first gs⟩
/-! ### _law_lists -/
section
variable {c : Cam} {ps : List Int} {q : Pl}
theorem lists_eq (gs : SmallC c) (hp : PartsB ps) (hq : MP c [num (fst3 c), num (fst3 c)] = some q) : F_law_lists [cD c, .list (iL ps)] = .ok (.list [.list ((al c (0, 0, 60) (num (fst3 c))).map e3), .list (iL (heldF (num (fst3 c)) 60 0 ps)), .list (q.2.map e3)]) := by
  have g := gs.g
  obtain ⟨b1, b2⟩ := num_first gs
  have e1 : fLc (fSeq (fVar 0)) [4] [4] hOne fYes (fBin gIx (fVar 4) (fC (.int 0))) [.d (cD c), .d (.list (iL ps)), .un, .un, .un] = .ok (.list [.int c.l1, .int c.l2, .int c.l3]) := lc_first c rfl (fun d => rfl)
  have e2 : PyData.tuple [.int c.l1, .int c.l2, .int c.l3] = e3 (fst3 c) := rfl
  have ea : F_allowed [cD c, .tuple [.int 0, .int 0, .int 60], .int (num (fst3 c))] = .ok (.list ((al c (0, 0, 60) (num (fst3 c))).map e3)) := allowed_eq g lim60 b1 b2
  have eb := best_row_eq g (two_parts gs)
  rw [hq] at eb
  have eb : F_best_row [cD c, .list [.int (num (fst3 c)), .int (num (fst3 c))]] = .ok (.list (q.2.map e3)) := eb
  unfold F_law_lists B_law_lists
  simp_arith [e1, e2, show F_law_number [e3 (fst3 c)] = .ok (.int (num (fst3 c))) from number_eq _ _ _, ea, x_call4, held_eq g (first_in g) hp (lat := 60) (by decide) (by decide), eb]
theorem M_lists_eq (gs : SmallC c) (hp : PartsB ps) (hq : MP c [num (fst3 c), num (fst3 c)] = some q) (θ : Th) : F_M__law_lists [.d (cD c), .d (.list (iL ps))] θ = .ok (.lsi [θ.length, (θ ++ [MO.lst ((al c (0, 0, 60) (num (fst3 c))).map e3)]).length, (θ ++ [MO.lst ((al c (0, 0, 60) (num (fst3 c))).map e3)] ++ [MO.lst (iL (heldF (num (fst3 c)) 60 0 ps))]).length])
    (θ ++ [MO.lst ((al c (0, 0, 60) (num (fst3 c))).map e3)] ++ [MO.lst (iL (heldF (num (fst3 c)) 60 0 ps))] ++ [MO.lst (q.2.map e3)]) := by
  have g := gs.g
  obtain ⟨b1, b2⟩ := num_first gs
  have e1 : fLc (fSeq (fVar 0)) [4] [4] hOne fYes (fBin gIx (fVar 4) (fC (.int 0))) [.d (cD c), .d (.list (iL ps)), .un, .un, .un] = .ok (.list [.int c.l1, .int c.l2, .int c.l3]) := lc_first c rfl (fun d => rfl)
  have e2 : PyData.tuple [.int c.l1, .int c.l2, .int c.l3] = e3 (fst3 c) := rfl
  have ea : ∀ θ : Th, F_M_allowed [.d (cD c), .d (.tuple [.int 0, .int 0, .int 60]), .d (.int (num (fst3 c)))] θ = .ok (.id θ.length) (θ ++ [.lst ((al c (0, 0, 60) (num (fst3 c))).map e3)]) := M_allowed_eq g lim60 b1 b2
  have eb : ∀ θ : Th, F_M_best_row [.d (cD c), .d (.list [.int (num (fst3 c)), .int (num (fst3 c))])] θ = .ok (.id θ.length) (θ ++ [.lst (q.2.map e3)]) := M_best_row_eq g (two_parts gs) hq
  have em : ∀ (g : MEnv → Th → MRes (List MV)) (ρ : MEnv) (θ : Th), mLsi g ρ θ = (g ρ θ).bind fun ms θ1 => match allI ms with
    | some ns => if ns.length ≤ 100 then .ok (.lsi ns) θ1 else .bad
    | none => .bad := fun _ _ _ => rfl
  unfold F_M__law_lists B_M__law_lists
  simp_all_arith [fn_M, st_M, e1, e2, show F_law_number [e3 (fst3 c)] = .ok (.int (num (fst3 c))) from number_eq _ _ _, em, m_call, ea, M_held_eq g (first_in g) hp (lat := 60) (by decide) (by decide), eb]
  rfl
end
end Lw
namespace Lw
open PySem L2 PD
/-! ### _law_changed -/
theorem forL_go {i : Nat} {body : MEnv → Th → MSR} {n : Nat} {ns : List Nat} {ρ ρ' : MEnv} {θ θ' : Th} (h : body (ρ.set i (some (.id n))) θ = .next ρ' θ') : mForL.mForLGo i body (n :: ns) ρ θ = mForL.mForLGo i body ns ρ' θ' := by
  rw [mForL.mForLGo, h]
def insW (d : D) (u : MV) (θ1 : Th) : MRes MV := match u with
  | .id i => insV i d θ1
  | _ => .bad
theorem m_ins0 (fo : MEnv → Th → MRes MV) (d : D) (ρ : MEnv) (θ : Th) : mIns0 fo d ρ θ = (fo ρ θ).bind fun u θ1 => insW d u θ1 := rfl
theorem insW_at {i : Nat} {d : D} {θ : Th} {xs : List D} (h : θ[i]? = some (.lst xs)) (hl : xs.length ≤ 10000) : insW d (.id i) θ = .ok (.d .none) (θ.set i (.lst (d :: xs))) := by
  show insV i d θ = _
  unfold insV
  rw [lst_at h]
  exact if_pos (decide_eq_true (by omega))
theorem changed_step {θ : Th} {ms : List Nat} {n : Nat} {xs : List D} {r : Option MV} (h : θ[n]? = some (.lst xs)) (hl : xs.length ≤ 5000) : ∃ θ', L_law_changed_0 [some (.lsi ms), some (.id n)] θ = .next [some (.lsi ms), some (.id n)] θ' ∧ Keeps θ θ' [n] := by
  have h2 : (θ.set n (.lst (xs ++ [.none])))[n]? = some (.lst (xs ++ [.none])) := set_here h
  refine ⟨(θ.set n (MO.lst (xs ++ [.none]))).set n (MO.lst (.int 7 :: (xs ++ [.none]))), ?_, (Keeps.set (by simp)).trans (Keeps.set (by simp))⟩
  unfold L_law_changed_0
  simp_all_arith [vm_c, vs_d, vs_id, vs_lsi, idS_lst h, show isiD "list" (.list xs) = true from rfl, m_app, appAt_at h, appV_at (d := .none) h (by omega), m_ins0, insW_at (d := .int 7) h2 (by rw [List.length_append]; simp only [List.length_cons, List.length_nil]; omega)]
theorem changed_eq {θ : Th} {n1 n2 n3 : Nat} {x1 x2 x3 : List D} (h1 : θ[n1]? = some (.lst x1)) (h2 : θ[n2]? = some (.lst x2)) (h3 : θ[n3]? = some (.lst x3)) (l1 : x1.length ≤ 5000) (l2 : x2.length ≤ 5000) (l3 : x3.length ≤ 5000) (d12 : n2 ≠ n1) (d13 : n3 ≠ n1) (d23 : n3 ≠ n2) :
    ∃ θ', F_law_changed [.lsi [n1, n2, n3]] θ = .ok (.d (.bool true)) θ' := by
  obtain ⟨θ1, e1, k1⟩ := changed_step (ms := [n1, n2, n3]) (r := none) h1 l1
  have h2 := k1.2 n2 _ (by simp [d12]) h2
  have h3 := k1.2 n3 _ (by simp [d13]) h3
  obtain ⟨θ2, e2, k2⟩ := changed_step (ms := [n1, n2, n3]) (r := none) h2 l2
  have h3 := k2.2 n3 _ (by simp [d23]) h3
  obtain ⟨θ3, e3, k3⟩ := changed_step (ms := [n1, n2, n3]) (r := none) h3 l3
  refine ⟨θ3, ?_⟩
  have ef : mForL (mVar 0) 1 L_law_changed_0 [some (.lsi [n1, n2, n3]), none] θ = .next [some (.lsi [n1, n2, n3]), some (.id n3)] θ3 := by
    show mForL.mForLGo 1 L_law_changed_0 [n1, n2, n3] [some (.lsi [n1, n2, n3]), none] θ = _
    rw [forL_go e1, forL_go e2, forL_go e3]
    rfl
  unfold F_law_changed B_law_changed
  rw [fn_M, show startM 2 [.lsi [n1, n2, n3]] = [some (.lsi [n1, n2, n3]), none] from rfl, s_seq, ef, q_next]
  rfl
/-! ### copy -/
theorem m_copy (fe : MEnv → Th → MRes MV) (ρ : MEnv) (θ : Th) : mCopy fe ρ θ = (fe ρ θ).bind copyAt := rfl
theorem copyAt_at {i : Nat} {θ : Th} {xs : List D} (h : θ[i]? = some (.lst xs)) : copyAt (.id i) θ = .ok (.id θ.length) (θ ++ [.lst xs]) := by
  unfold copyAt
  rw [lst_at h]
def putsAt (i : Nat) (fs : List Str) (ms : List MV) (ρ : MEnv) (θ1 : Th) : MSR := match ρ[i]? with
  | some (some u) => match insAt θ1 u with
    | some (n, l) => if ms.length = fs.length ∧ l.length + fs.length ≤ 100 then .next ρ (θ1.set n (.ins (putsM i fs ms l))) else .bad
    | none => .bad
  | _ => .bad
theorem s_putF (i : Nat) (g : MEnv → Th → MRes (List MV)) (fs : List Str) (ρ : MEnv) (θ : Th) : mPutF i g fs ρ θ = ofM (g ρ θ) ρ fun ms θ1 => putsAt i fs ms ρ θ1 := rfl
theorem putsAt_at {i : Nat} {fs : List Str} {ms : List MV} {ρ : MEnv} {θ : Th} {n : Nat} {l : List (Str × MV)} (h1 : ρ[i]? = some (some (.id n))) (h2 : θ[n]? = some (.ins l)) (h3 : ms.length = fs.length ∧ l.length + fs.length ≤ 100) : putsAt i fs ms ρ θ = .next ρ (θ.set n (.ins (putsM i fs ms l))) := by
  unfold putsAt
  rw [h1]
  dsimp only
  rw [ins_at h2]
  exact if_pos h3
theorem put_d (c : Cam) (p : T3 × Nat) (a a' b : Nat) : putM "done" (.id a') (fsOf c p a b) = fsOf c p a' b := by
  unfold fsOf
  simp only [putM, if_neg (sne' ne_dc), if_neg (sne' ne_dp), if_true]
theorem puts_eq (i : Nat) (c : Cam) (p q : T3 × Nat) (a b a' b' : Nat) : putsM i ["present", "done", "undone"] [.d (pD q), .id a', .id b'] (fsOf c p a b) = fsOf c q a' b' := by
  show putM "undone" (.id b') (putM "done" (.id a') (putM "present" (.d (pD q)) (fsOf c p a b))) = _
  rw [put_p, put_d, put_u]
theorem copy_eq {θ : Th} {i : Nat} {c : Cam} {p : T3 × Nat} {a b : Nat} {ds us : List (T3 × Nat)} (g : GoodC c) (h : HA θ i c p a b ds us) :
    ∃ θ' a' b', F_Hand_copy [.id i] θ = .ok (.id θ.length) θ' ∧ HA θ' θ.length c p a' b' ds us ∧ Grows θ θ' ∧ θ.length < a' ∧ θ.length < b' := by
  obtain ⟨θ1, a1, b1, mk, h1, la, lb, gr, l3⟩ := make_eq g θ
  have hh := h.grow gr
  have g1 : (θ1 ++ [MO.lst (ds.map pD)])[i]? = some (.ins (fsOf c p a b)) := app_old hh.h
  have g2 : (θ1 ++ [MO.lst (ds.map pD)])[b]? = some (.lst (us.map pD)) := app_old hh.u
  have g3 : (θ1 ++ [MO.lst (ds.map pD)] ++ [MO.lst (us.map pD)])[θ.length]? = some (.ins (fsOf c (fst3 c, 0) a1 b1)) := app_old (app_old h1.h)
  have k1 : (θ1 ++ [MO.lst (ds.map pD)]).length = θ1.length + 1 := by rw [List.length_append]; rfl
  refine ⟨(θ1 ++ [MO.lst (ds.map pD)] ++ [MO.lst (us.map pD)]).set θ.length (.ins (fsOf c p θ1.length (θ1 ++ [MO.lst (ds.map pD)]).length)), θ1.length, (θ1 ++ [MO.lst (ds.map pD)]).length, ?_, ⟨set_here g3, set_there (app_old (app_new _ _)) (by omega), set_there (app_new _ _) (by omega), by omega⟩, ⟨?_, fun n o hn => ?_⟩, by omega, by omega⟩
  · unfold F_Hand_copy B_Hand_copy
    simp_all_arith [fn_M, st_M, h.gc, m_make, mk, s_putF, getF_at hh.h (lk_p _ _ _ _), getF_at hh.h (lk_d _ _ _ _), m_copy, copyAt_at hh.d, getF_at g1 (lk_u _ _ _ _), copyAt_at g2]
    rw [putsAt_at rfl g3 ⟨rfl, by show 4 + 3 ≤ 100; decide⟩, puts_eq, q_next]
    rfl
  · rw [List.length_set, List.length_append, k1]
    omega
  · have hl := (List.getElem?_eq_some_iff.mp hn).1
    exact set_there (app_old (app_old (gr.2 _ _ hn))) (by omega)
theorem HA.keep {θ θ' : Th} {i : Nat} {c : Cam} {p : T3 × Nat} {a b : Nat} {ds us : List (T3 × Nat)} {is : List Nat} (h : HA θ i c p a b ds us) (k : Keeps θ θ' is) (h1 : i ∉ is) (h2 : a ∉ is) (h3 : b ∉ is) : HA θ' i c p a b ds us := ⟨k.2 _ _ h1 h.h, k.2 _ _ h2 h.d, k.2 _ _ h3 h.u, h.n⟩
def cSm : Cam := ⟨0, 6, 3, 0, 6, 3, 0, 6, 3⟩
theorem good_sm : GoodC cSm := by
  have w : GoodW 0 6 3 := ⟨by decide, by decide, by decide, by decide, by decide, by decide, by decide⟩
  exact ⟨w, w, w⟩
end Lw
namespace Lw
open PySem L2 PD
/-! ### the law -/
theorem sh_oT (o : Option (List Int)) : SeqAt.shaped (oT o) = true := by
  cases o with
  | none => rfl
  | some o =>
    show (PyData.canLayAll0 (iL o) && decide (PyData.depthAll (iL o) + 1 ≤ 64)) = true
    rw [canLay_ints, depth_ints]
    rfl
theorem sh_three (ts us : List T3) (ns : List Int) : SeqAt.shaped (.list [.list (ts.map e3), .list (iL ns), .list (us.map e3)]) = true := by
  have k : ∀ ts : List T3, PyData.canLayAll0 (ts.map e3) = true ∧ PyData.depthAll (ts.map e3) ≤ 1 := fun ts => sh_i3s fun d hd => by
    obtain ⟨t, _, rfl⟩ := List.mem_map.mp hd
    exact ⟨_, _, _, rfl⟩
  obtain ⟨a1, a2⟩ := k ts
  obtain ⟨b1, b2⟩ := k us
  show ((PyData.canLayAll0 (ts.map e3) && (PyData.canLayAll0 (iL ns) && (PyData.canLayAll0 (us.map e3) && true))) && decide (max (PyData.depthAll (ts.map e3) + 1) (max (PyData.depthAll (iL ns) + 1) (max (PyData.depthAll (us.map e3) + 1) 0)) + 1 ≤ 64)) = true
  rw [a1, b1, canLay_ints, depth_ints, decide_eq_true (by omega)]
  rfl
theorem m_andV (f g : MEnv → Th → MRes MV) (ρ : MEnv) (θ : Th) : mAndV f g ρ θ = (mTest f ρ θ).bind fun b θ1 => if b = true then g ρ θ1 else .ok (.d (.bool false)) θ1 := rfl
theorem nm3 {x a b c : Nat} (h1 : x ≠ a) (h2 : x ≠ b) (h3 : x ≠ c) : x ∉ [a, b, c] := by simp [h1, h2, h3]
theorem click_sm {θ : Th} {i : Nat} {y : Int} {n : Nat} {a b : Nat} {ds us : List (T3 × Nat)} (h : HA θ i cSm ((0, y, 0), n) a b ds us) (hl : ds.length ≤ 10) (hn : n ≤ 10) (hy : y = 0 ∨ y = 3) :
    ∃ θ' b', F_Hand_click [.id i, .d (.str "time"), .d (.int 1)] θ = .ok (.d (.int (y + 1 * 3))) θ' ∧ HA θ' i cSm ((0, y + 1 * 3, 0), n + 1) a b' (ds ++ [((0, y, 0), n)]) [] ∧ Fr θ θ' i a b a b' := by
  refine click_yes h (by omega) (by dsimp only; omega) (l := 0) (m := 6) (s := 3) (x := y) good_sm.w2 find_1 rfl rfl (.inl rfl) ?_ (A := .tuple [.int 0]) (B := .tuple [.int 0, .int (y + 1 * 3)]) (G := .tuple [.int 0]) (t := (0, y + 1 * 3, 0)) rfl rfl rfl rfl
  rw [mem_wv (by decide) (by decide)]
  rcases hy with rfl | rfl <;> decide
theorem law_true : ∀ ns : List Int, ns.length ≤ 63 → overD F_law [.list (ns.map PyData.int)] = .ok (.bool true) := fun ns hl => by
  obtain ⟨c, gs, ec⟩ := camera_ok ns hl 10 (by decide) (by decide)
  have g := gs.g
  obtain ⟨m, em, m0, m1⟩ := drawn_ok ns hl 1 3 (by decide) (by decide) (by decide)
  obtain ⟨ps, hp, hpl, eps⟩ := lights_ok ns hl gs (1 + m).toNat (by omega) (by omega) (step := lcStep [.d (.list (iL ns)), .d (cD c), .un, .un, .un, .un, .un, .un, .un, .un, .un] [9] [9] hOne fYes (fCall 3 F_law_light (fCons (fVar 0) (fCons (fBin gAdd (fC (.int 30)) (fBin gMulI (fC (.int 3)) (fVar 9))) (fCons (fVar 1) fNil))))) fun k b e => by
    rw [l_1]
    simp_arith [g_mulc (i := 3) (j := k) (by decide) (by decide), e]
  have er : gRng1 [PyData.int (1 + m)] = .ok (rngD 0 (1 + m).toNat) := by
    unfold gRng1
    dsimp only
    rw [if_pos (by unfold rngOk; simp only [Bool.and_eq_true, decide_eq_true_eq]; omega)]
  have elights : fLc (fRng gRng1 (fCons (fBin gAdd (fC (.int 1)) (fCall 3 F_law_drawn (fCons (fVar 0) (fCons (fC (.int 1)) (fCons (fC (.int 3)) fNil))))) fNil)) [9] [9] hOne fYes (fCall 3 F_law_light (fCons (fVar 0) (fCons (fBin gAdd (fC (.int 30)) (fBin gMulI (fC (.int 3)) (fVar 9))) (fCons (fVar 1) fNil)))) [.d (.list (iL ns)), .d (cD c), .un, .un, .un, .un, .un, .un, .un, .un, .un] = .ok (.list (iL ps)) :=
    x_lc (ds := rngD 0 (1 + m).toNat) (by simp_arith [em, er]) eps (by rw [iL_len]; omega)
  obtain ⟨q, hq⟩ := row_some gs
  have el := lists_eq gs hp hq
  have eM := M_lists_eq gs hp hq []
  have sh3 := sh_three (al c (0, 0, 60) (num (fst3 c))) q.2 (heldF (num (fst3 c)) 60 0 ps)
  have la : (al c (0, 0, 60) (num (fst3 c))).length ≤ 2197 := Nat.le_trans (List.length_filter_le _ _) (rt_le g _)
  have lh := heldF_len (num (fst3 c)) 60 ps 0
  have lq : q.2.length ≤ 2 := by
    have := PlOK_len (MP_spec (by simp) hq).1
    simpa using Nat.le_of_eq this
  have hle := hp.le
  obtain ⟨r, rs, hr⟩ : ∃ r rs, tri c = r :: rs := by
    cases h : tri c with
    | nil => have := tri_pos g; rw [h] at this; cases this
    | cons r rs => exact ⟨r, rs, rfl⟩
  have ebs := best_setting_eq g hr hp (lat := 3) (by decide) (by decide)
  have ell := least_lat_eq g hp
  have shl : SeqAt.shaped (latD ps (tri c)) = true := by unfold latD; split <;> rfl
  have ebst := best_start_eq g hp (by omega)
  have lA : ((al c (0, 0, 60) (num (fst3 c))).map e3).length ≤ 5000 := by rw [List.length_map]; omega
  have lB : (iL (heldF (num (fst3 c)) 60 0 ps)).length ≤ 5000 := by rw [iL_len]; omega
  have lZ : (q.2.map e3).length ≤ 5000 := by rw [List.length_map]; omega
  generalize (al c (0, 0, 60) (num (fst3 c))).map e3 = A at *
  generalize iL (heldF (num (fst3 c)) 60 0 ps) = B at *
  generalize q.2.map e3 = Z at *
  have eM : F_M__law_lists [.d (cD c), .d (.list (iL ps))] [] = .ok (.lsi [0, 1, 2]) [.lst A, .lst B, .lst Z] := eM
  obtain ⟨θ1, ech⟩ := changed_eq (θ := [.lst A, .lst B, .lst Z]) (n1 := 0) (n2 := 1) (n3 := 2) rfl rfl rfl lA lB lZ (by decide) (by decide) (by decide)
  obtain ⟨θ2, a1, b1, mk1, hA1, la1, lb1, gr1, n1⟩ := make_eq good_sm θ1
  obtain ⟨θ3, a2, b2, mk2, hA2, la2, lb2, gr2, n2⟩ := make_eq good_sm θ2
  have ba1 := (List.getElem?_eq_some_iff.mp hA1.d).1
  have bb1 := (List.getElem?_eq_some_iff.mp hA1.u).1
  have bi1 := (List.getElem?_eq_some_iff.mp hA1.h).1
  have hA1' : HA θ3 θ1.length cSm ((0, 0, 0), 0) a1 b1 [] [] := hA1.grow gr2
  obtain ⟨θ4, b1', ck1, hA1c, fr1⟩ := click_sm hA1' (by simp) (by decide) (.inl rfl)
  have hA1c : HA θ4 θ1.length cSm ((0, 3, 0), 1) a1 b1' [((0, 0, 0), 0)] [] := hA1c
  have hA2c : HA θ4 θ2.length cSm ((0, 0, 0), 0) a2 b2 [] [] := hA2.keep fr1.k (nm3 (by omega) (by omega) (by omega)) (nm3 (by omega) (by omega) (by omega)) (nm3 (by omega) (by omega) (by omega))
  obtain ⟨θ5, a3, b3, cp, hA3, gr3, la3, lb3⟩ := copy_eq good_sm hA1c
  obtain ⟨θ6, b3', ck2, hA3c, fr2⟩ := click_sm hA3 (by simp) (by decide) (.inr rfl)
  have hA3c : HA θ6 θ4.length cSm ((0, 6, 0), 2) a3 b3' [((0, 0, 0), 0), ((0, 3, 0), 1)] [] := hA3c
  have ca := (List.getElem?_eq_some_iff.mp hA1c.d).1
  have cb := (List.getElem?_eq_some_iff.mp hA1c.u).1
  have ci := (List.getElem?_eq_some_iff.mp hA1c.h).1
  have da := (List.getElem?_eq_some_iff.mp hA2c.d).1
  have db := (List.getElem?_eq_some_iff.mp hA2c.u).1
  have di := (List.getElem?_eq_some_iff.mp hA2c.h).1
  have F1 : HA θ6 θ1.length cSm ((0, 3, 0), 1) a1 b1' [((0, 0, 0), 0)] [] := (hA1c.grow gr3).keep fr2.k (nm3 (by omega) (by omega) (by omega)) (nm3 (by omega) (by omega) (by omega)) (nm3 (by omega) (by omega) (by omega))
  have F2 : HA θ6 θ2.length cSm ((0, 0, 0), 0) a2 b2 [] [] := (hA2c.grow gr3).keep fr2.k (nm3 (by omega) (by omega) (by omega)) (nm3 (by omega) (by omega) (by omega)) (nm3 (by omega) (by omega) (by omega))
  have efirst : fLc (fSeq (fCall 2 F_law_lists (fCons (fVar 1) (fCons (fVar 2) fNil)))) [10] [10] hOne fYes (fB gListOf (fCons (fVar 10) fNil)) [.d (.list (iL ns)), .d (cD c), .d (.list (iL ps)), .un, .un, .un, .un, .un, .un, .un, .un] = .ok (.list [.list A, .list B, .list Z]) := by
    refine x_lc (ds := [.list A, .list B, .list Z]) (by simp_arith [el]) ?_ (by show 3 < 1000000; decide)
    unfold lcGo lcGo lcGo lcGo
    rw [l_1, l_1, l_1]
    rfl
  have esm : gRep (.tuple [.tuple [.int 0, .int 6, .int 3]]) (.int 3) = .ok (cD cSm) := rfl
  have t1 : gEq (e3 (0, 3, 0)) (.tuple [.int 0, .int 3, .int 0]) = .ok (.bool true) := eq_same rfl
  have t2 : gEq (e3 (0, 0, 0)) (.tuple [.int 0, .int 0, .int 0]) = .ok (.bool true) := eq_same rfl
  have t3 : gEq (e3 (0, 6, 0)) (.tuple [.int 0, .int 6, .int 0]) = .ok (.bool true) := eq_same rfl
  have eF : F_law [.d (.list (iL ns))] [] = .ok (.d (.bool true)) θ6 := by
    unfold F_law B_law
    rw [fn_M, st_M]
    simp_all_arith [ec, elights, efirst, s_par, set_M1, set_M0, m_call, eM, ech, vm_c, vs_d, vs_id, el, ne_same sh3, ne_same (sh_ints ps), ebs, ne_same (show SeqAt.shaped (e3 (bst (hK ps 3) r rs)) = true from rfl), ell, ne_same shl, ebst, ne_same (sh_oT _), esm, m_make, mk1, mk2, m_meth, methAt_at hA1'.h (lk_click _ _ _ _), ck1, methAt_at hA1c.h (lk_no _ _ _ _ (m := "copy") (by decide +kernel) (by decide +kernel) (by decide +kernel) (by decide +kernel)), cp, methAt_at hA3.h (lk_click _ _ _ _), ck2, methAt_at F1.h (lk_setting _ _ _ _), setting_eq F1, methAt_at F2.h (lk_setting _ _ _ _), setting_eq F2, methAt_at hA3c.h (lk_setting _ _ _ _), setting_eq hA3c, t1, t2, t3, m_lenO, lenAt_at hA3c.h (hlen_eq hA3c (by decide)) (by decide), t_ret, m_andV]
  unfold overD
  rw [show List.map MV.d [PyData.list (ns.map PyData.int)] = [.d (.list (iL ns))] from rfl, eF]
end Lw
namespace Lw
open PySem L2 PD
def topS (i : Nat) : Stmt := PySem.Challenge.pw_lightsteps_k99_repeated_calls.main.body.getD i (.Pass ⟨0, 0, 0, 0⟩)
abbrev s_wall : Stmt := topS 0
abbrev N_wall : List Str := ["k"]
theorem sc_wall : FnScope N_wall ["k"] (defScope s_wall) := ⟨rfl, rfl, rfl, by decide +kernel, rfl, by decide +kernel, by decide +kernel⟩
abbrev s_is_int : Stmt := topS 20
abbrev N_is_int : List Str := ["value", "least", "most"]
theorem sc_is_int : FnScope N_is_int ["value", "least", "most"] (defScope s_is_int) := ⟨rfl, rfl, rfl, by decide +kernel, rfl, by decide +kernel, by decide +kernel⟩
abbrev s_is_wheel : Stmt := topS 21
abbrev N_is_wheel : List Str := ["value", "least", "most", "step"]
theorem sc_is_wheel : FnScope N_is_wheel ["value"] (defScope s_is_wheel) := ⟨rfl, rfl, rfl, by decide +kernel, rfl, by decide +kernel, by decide +kernel⟩
abbrev s_is_camera : Stmt := topS 22
abbrev N_is_camera : List Str := ["candidate", "wheel"]
theorem sc_is_camera : FnScope N_is_camera ["candidate"] (defScope s_is_camera) := ⟨rfl, rfl, rfl, by decide +kernel, rfl, by decide +kernel, by decide +kernel⟩
abbrev s_wheel_values : Stmt := topS 23
abbrev N_wheel_values : List Str := ["wheel", "least", "most", "step"]
theorem sc_wheel_values : FnScope N_wheel_values ["wheel"] (defScope s_wheel_values) := ⟨rfl, rfl, rfl, by decide +kernel, rfl, by decide +kernel, by decide +kernel⟩
abbrev s_has_setting : Stmt := topS 24
abbrev N_has_setting : List Str := ["camera", "candidate", "known", "value", "wheel"]
theorem sc_has_setting : FnScope N_has_setting ["camera", "candidate"] (defScope s_has_setting) := ⟨rfl, rfl, rfl, by decide +kernel, rfl, by decide +kernel, by decide +kernel⟩
abbrev s_check_camera : Stmt := topS 25
abbrev N_check_camera : List Str := ["value"]
theorem sc_check_camera : FnScope N_check_camera ["value"] (defScope s_check_camera) := ⟨rfl, rfl, rfl, by decide +kernel, rfl, by decide +kernel, by decide +kernel⟩
abbrev s_check_setting : Stmt := topS 26
abbrev N_check_setting : List Str := ["camera", "value"]
theorem sc_check_setting : FnScope N_check_setting ["camera", "value"] (defScope s_check_setting) := ⟨rfl, rfl, rfl, by decide +kernel, rfl, by decide +kernel, by decide +kernel⟩
abbrev s_check_light : Stmt := topS 27
abbrev N_check_light : List Str := ["value"]
theorem sc_check_light : FnScope N_check_light ["value"] (defScope s_check_light) := ⟨rfl, rfl, rfl, by decide +kernel, rfl, by decide +kernel, by decide +kernel⟩
abbrev s_find_wheel : Stmt := topS 28
abbrev N_find_wheel : List Str := ["value"]
theorem sc_find_wheel : FnScope N_find_wheel ["value"] (defScope s_find_wheel) := ⟨rfl, rfl, rfl, by decide +kernel, rfl, by decide +kernel, by decide +kernel⟩
abbrev s_all_settings : Stmt := topS 29
abbrev N_all_settings : List Str := ["camera", "found", "wheel", "begun", "value"]
theorem sc_all_settings : FnScope N_all_settings ["camera"] (defScope s_all_settings) := ⟨rfl, rfl, rfl, by decide +kernel, rfl, by decide +kernel, by decide +kernel⟩
abbrev s_find_exposure : Stmt := topS 30
abbrev N_find_exposure : List Str := ["setting"]
theorem sc_find_exposure : FnScope N_find_exposure ["setting"] (defScope s_find_exposure) := ⟨rfl, rfl, rfl, by decide +kernel, rfl, by decide +kernel, by decide +kernel⟩
abbrev s_find_right : Stmt := topS 32
abbrev N_find_right : List Str := ["camera", "brightness", "setting"]
theorem sc_find_right : FnScope N_find_right ["camera", "brightness"] (defScope s_find_right) := ⟨rfl, rfl, rfl, by decide +kernel, rfl, by decide +kernel, by decide +kernel⟩
abbrev s_check_both : Stmt := topS 33
abbrev N_check_both : List Str := ["camera", "brightness"]
theorem sc_check_both : FnScope N_check_both ["camera", "brightness"] (defScope s_check_both) := ⟨rfl, rfl, rfl, by decide +kernel, rfl, by decide +kernel, by decide +kernel⟩
abbrev s_count_clicks : Stmt := topS 35
abbrev N_count_clicks : List Str := ["camera", "one", "other", "found", "wheel", "left", "right"]
theorem sc_count_clicks : FnScope N_count_clicks ["camera", "one", "other"] (defScope s_count_clicks) := ⟨rfl, rfl, rfl, by decide +kernel, rfl, by decide +kernel, by decide +kernel⟩
abbrev s_Hand_init : Stmt := (clsBody (topS 38)).getD 0 (.Pass ⟨0, 0, 0, 0⟩)
abbrev N_Hand_init : List Str := ["self", "camera", "wheel"]
theorem sc_Hand_init : FnScope N_Hand_init ["self", "camera"] (defScope s_Hand_init) := ⟨rfl, rfl, rfl, by decide +kernel, rfl, by decide +kernel, by decide +kernel⟩
abbrev s_Hand_len : Stmt := (clsBody (topS 38)).getD 1 (.Pass ⟨0, 0, 0, 0⟩)
abbrev N_Hand_len : List Str := ["self"]
theorem sc_Hand_len : FnScope N_Hand_len ["self"] (defScope s_Hand_len) := ⟨rfl, rfl, rfl, by decide +kernel, rfl, by decide +kernel, by decide +kernel⟩
abbrev s_Hand_setting : Stmt := (clsBody (topS 38)).getD 3 (.Pass ⟨0, 0, 0, 0⟩)
abbrev N_Hand_setting : List Str := ["self"]
theorem sc_Hand_setting : FnScope N_Hand_setting ["self"] (defScope s_Hand_setting) := ⟨rfl, rfl, rfl, by decide +kernel, rfl, by decide +kernel, by decide +kernel⟩
abbrev s_Hand_change : Stmt := (clsBody (topS 38)).getD 5 (.Pass ⟨0, 0, 0, 0⟩)
abbrev N_Hand_change : List Str := ["self", "setting", "many"]
theorem sc_Hand_change : FnScope N_Hand_change ["self", "setting", "many"] (defScope s_Hand_change) := ⟨rfl, rfl, rfl, by decide +kernel, rfl, by decide +kernel, by decide +kernel⟩
abbrev s_Hand_click : Stmt := (clsBody (topS 38)).getD 6 (.Pass ⟨0, 0, 0, 0⟩)
abbrev N_Hand_click : List Str := ["self", "wheel", "step", "number", "setting", "value"]
theorem sc_Hand_click : FnScope N_Hand_click ["self", "wheel", "step"] (defScope s_Hand_click) := ⟨rfl, rfl, rfl, by decide +kernel, rfl, by decide +kernel, by decide +kernel⟩
abbrev s_Hand_copy : Stmt := (clsBody (topS 38)).getD 10 (.Pass ⟨0, 0, 0, 0⟩)
abbrev N_Hand_copy : List Str := ["self", "clone"]
theorem sc_Hand_copy : FnScope N_Hand_copy ["self"] (defScope s_Hand_copy) := ⟨rfl, rfl, rfl, by decide +kernel, rfl, by decide +kernel, by decide +kernel⟩
abbrev s_check_parts : Stmt := topS 42
abbrev N_check_parts : List Str := ["value", "part"]
theorem sc_check_parts : FnScope N_check_parts ["value"] (defScope s_check_parts) := ⟨rfl, rfl, rfl, by decide +kernel, rfl, by decide +kernel, by decide +kernel⟩
abbrev s_check_latitude : Stmt := topS 43
abbrev N_check_latitude : List Str := ["value"]
theorem sc_check_latitude : FnScope N_check_latitude ["value"] (defScope s_check_latitude) := ⟨rfl, rfl, rfl, by decide +kernel, rfl, by decide +kernel, by decide +kernel⟩
abbrev s_find_held : Stmt := topS 44
abbrev N_find_held : List Str := ["setting", "parts", "latitude", "number", "index", "part"]
theorem sc_find_held : FnScope N_find_held ["setting", "parts", "latitude"] (defScope s_find_held) := ⟨rfl, rfl, rfl, by decide +kernel, rfl, by decide +kernel, by decide +kernel⟩
abbrev s_held : Stmt := topS 45
abbrev N_held : List Str := ["camera", "setting", "parts", "latitude"]
theorem sc_held : FnScope N_held ["camera", "setting", "parts", "latitude"] (defScope s_held) := ⟨rfl, rfl, rfl, by decide +kernel, rfl, by decide +kernel, by decide +kernel⟩
abbrev s_find_best : Stmt := topS 46
abbrev N_find_best : List Str := ["camera", "parts", "latitude", "setting"]
theorem sc_find_best : FnScope N_find_best ["camera", "parts", "latitude"] (defScope s_find_best) := ⟨rfl, rfl, rfl, by decide +kernel, rfl, by decide +kernel, by decide +kernel⟩
abbrev s_best_setting : Stmt := topS 47
abbrev N_best_setting : List Str := ["camera", "parts", "latitude"]
theorem sc_best_setting : FnScope N_best_setting ["camera", "parts", "latitude"] (defScope s_best_setting) := ⟨rfl, rfl, rfl, by decide +kernel, rfl, by decide +kernel, by decide +kernel⟩
abbrev s_least_latitude : Stmt := topS 48
abbrev N_least_latitude : List Str := ["camera", "parts", "found", "setting", "number", "part"]
theorem sc_least_latitude : FnScope N_least_latitude ["camera", "parts"] (defScope s_least_latitude) := ⟨rfl, rfl, rfl, by decide +kernel, rfl, by decide +kernel, by decide +kernel⟩
abbrev s_check_limits : Stmt := topS 52
abbrev N_check_limits : List Str := ["value", "one"]
theorem sc_check_limits : FnScope N_check_limits ["value"] (defScope s_check_limits) := ⟨rfl, rfl, rfl, by decide +kernel, rfl, by decide +kernel, by decide +kernel⟩
abbrev s_find_lack : Stmt := topS 53
abbrev N_find_lack : List Str := ["setting", "limits", "aperture", "time", "sensitivity", "depth", "blur", "noise"]
theorem sc_find_lack : FnScope N_find_lack ["setting", "limits"] (defScope s_find_lack) := ⟨rfl, rfl, rfl, by decide +kernel, rfl, by decide +kernel, by decide +kernel⟩
abbrev s_find_lacks : Stmt := topS 54
abbrev N_find_lacks : List Str := ["camera", "limits", "brightness", "setting"]
theorem sc_find_lacks : FnScope N_find_lacks ["camera", "limits", "brightness"] (defScope s_find_lacks) := ⟨rfl, rfl, rfl, by decide +kernel, rfl, by decide +kernel, by decide +kernel⟩
abbrev s_allowed : Stmt := topS 55
abbrev N_allowed : List Str := ["camera", "limits", "brightness", "many", "setting"]
theorem sc_allowed : FnScope N_allowed ["camera", "limits", "brightness"] (defScope s_allowed) := ⟨rfl, rfl, rfl, by decide +kernel, rfl, by decide +kernel, by decide +kernel⟩
abbrev s_find_plans : Stmt := topS 58
abbrev N_find_plans : List Str := ["camera", "parts", "found", "place", "part", "later", "setting", "rows", "many", "plan"]
theorem sc_find_plans : FnScope N_find_plans ["camera", "parts"] (defScope s_find_plans) := ⟨rfl, rfl, rfl, by decide +kernel, rfl, by decide +kernel, by decide +kernel⟩
abbrev s_check_row : Stmt := topS 59
abbrev N_check_row : List Str := ["camera", "parts"]
theorem sc_check_row : FnScope N_check_row ["camera", "parts"] (defScope s_check_row) := ⟨rfl, rfl, rfl, by decide +kernel, rfl, by decide +kernel, by decide +kernel⟩
abbrev s_find_row : Stmt := topS 60
abbrev N_find_row : List Str := ["camera", "parts", "found"]
theorem sc_find_row : FnScope N_find_row ["camera", "parts"] (defScope s_find_row) := ⟨rfl, rfl, rfl, by decide +kernel, rfl, by decide +kernel, by decide +kernel⟩
abbrev s_best_row : Stmt := topS 61
abbrev N_best_row : List Str := ["camera", "parts", "found"]
theorem sc_best_row : FnScope N_best_row ["camera", "parts"] (defScope s_best_row) := ⟨rfl, rfl, rfl, by decide +kernel, rfl, by decide +kernel, by decide +kernel⟩
abbrev s_all_orders : Stmt := topS 62
abbrev N_all_orders : List Str := ["many", "found", "turn", "begun", "index"]
theorem sc_all_orders : FnScope N_all_orders ["many"] (defScope s_all_orders) := ⟨rfl, rfl, rfl, by decide +kernel, rfl, by decide +kernel, by decide +kernel⟩
abbrev s_best_start : Stmt := topS 63
abbrev N_best_start : List Str := ["camera", "parts", "found", "order", "best", "index"]
theorem sc_best_start : FnScope N_best_start ["camera", "parts"] (defScope s_best_start) := ⟨rfl, rfl, rfl, by decide +kernel, rfl, by decide +kernel, by decide +kernel⟩
abbrev s_law_drawn : Stmt := topS 65
abbrev N_law_drawn : List Str := ["script", "k", "many", "cell", "turn", "rest"]
theorem sc_law_drawn : FnScope N_law_drawn ["script", "k", "many"] (defScope s_law_drawn) := ⟨rfl, rfl, rfl, by decide +kernel, rfl, by decide +kernel, by decide +kernel⟩
abbrev s_law_camera : Stmt := topS 66
abbrev N_law_camera : List Str := ["script", "at", "found", "k", "least", "step", "most"]
theorem sc_law_camera : FnScope N_law_camera ["script", "at"] (defScope s_law_camera) := ⟨rfl, rfl, rfl, by decide +kernel, rfl, by decide +kernel, by decide +kernel⟩
abbrev s_law_settings : Stmt := topS 67
abbrev N_law_settings : List Str := ["camera", "found", "least", "most", "step", "longer", "some", "value"]
theorem sc_law_settings : FnScope N_law_settings ["camera"] (defScope s_law_settings) := ⟨rfl, rfl, rfl, by decide +kernel, rfl, by decide +kernel, by decide +kernel⟩
abbrev s_law_number : Stmt := topS 68
abbrev N_law_number : List Str := ["setting"]
theorem sc_law_number : FnScope N_law_number ["setting"] (defScope s_law_number) := ⟨rfl, rfl, rfl, by decide +kernel, rfl, by decide +kernel, by decide +kernel⟩
abbrev s_law_light : Stmt := topS 69
abbrev N_law_light : List Str := ["script", "at", "camera", "some", "number"]
theorem sc_law_light : FnScope N_law_light ["script", "at", "camera"] (defScope s_law_light) := ⟨rfl, rfl, rfl, by decide +kernel, rfl, by decide +kernel, by decide +kernel⟩
abbrev s_law_lists : Stmt := topS 70
abbrev N_law_lists : List Str := ["camera", "parts", "least", "light", "wheel"]
theorem sc_law_lists : FnScope N_law_lists ["camera", "parts"] (defScope s_law_lists) := ⟨rfl, rfl, rfl, by decide +kernel, rfl, by decide +kernel, by decide +kernel⟩
abbrev s_M_allowed : Stmt := topS 55
abbrev N_M_allowed : List Str := ["camera", "limits", "brightness", "many", "setting"]
theorem sc_M_allowed : FnScope N_M_allowed ["camera", "limits", "brightness"] (defScope s_M_allowed) := ⟨rfl, rfl, rfl, by decide +kernel, rfl, by decide +kernel, by decide +kernel⟩
abbrev s_M_find_held : Stmt := topS 44
abbrev N_M_find_held : List Str := ["setting", "parts", "latitude", "number", "index", "part"]
theorem sc_M_find_held : FnScope N_M_find_held ["setting", "parts", "latitude"] (defScope s_M_find_held) := ⟨rfl, rfl, rfl, by decide +kernel, rfl, by decide +kernel, by decide +kernel⟩
abbrev s_M_held : Stmt := topS 45
abbrev N_M_held : List Str := ["camera", "setting", "parts", "latitude"]
theorem sc_M_held : FnScope N_M_held ["camera", "setting", "parts", "latitude"] (defScope s_M_held) := ⟨rfl, rfl, rfl, by decide +kernel, rfl, by decide +kernel, by decide +kernel⟩
abbrev s_M_best_row : Stmt := topS 61
abbrev N_M_best_row : List Str := ["camera", "parts", "found"]
theorem sc_M_best_row : FnScope N_M_best_row ["camera", "parts"] (defScope s_M_best_row) := ⟨rfl, rfl, rfl, by decide +kernel, rfl, by decide +kernel, by decide +kernel⟩
abbrev s_M__law_lists : Stmt := topS 70
abbrev N_M__law_lists : List Str := ["camera", "parts", "least", "light", "wheel"]
theorem sc_M__law_lists : FnScope N_M__law_lists ["camera", "parts"] (defScope s_M__law_lists) := ⟨rfl, rfl, rfl, by decide +kernel, rfl, by decide +kernel, by decide +kernel⟩
abbrev s_law_changed : Stmt := topS 71
abbrev N_law_changed : List Str := ["rows", "some"]
theorem sc_law_changed : FnScope N_law_changed ["rows"] (defScope s_law_changed) := ⟨rfl, rfl, rfl, by decide +kernel, rfl, by decide +kernel, by decide +kernel⟩
abbrev s_law : Stmt := topS 72
abbrev N_law : List Str := ["script", "camera", "parts", "kept", "first", "small", "hand", "second", "third", "k", "some"]
theorem sc_law : FnScope N_law ["script"] (defScope s_law) := ⟨rfl, rfl, rfl, by decide +kernel, rfl, by decide +kernel, by decide +kernel⟩
structure Ad where
  f_wall : Addr
  fd_wall : FuncData
  f_is_int : Addr
  fd_is_int : FuncData
  f_is_wheel : Addr
  fd_is_wheel : FuncData
  f_is_camera : Addr
  fd_is_camera : FuncData
  f_wheel_values : Addr
  fd_wheel_values : FuncData
  f_has_setting : Addr
  fd_has_setting : FuncData
  f_check_camera : Addr
  fd_check_camera : FuncData
  f_check_setting : Addr
  fd_check_setting : FuncData
  f_check_light : Addr
  fd_check_light : FuncData
  f_find_wheel : Addr
  fd_find_wheel : FuncData
  f_all_settings : Addr
  fd_all_settings : FuncData
  f_find_exposure : Addr
  fd_find_exposure : FuncData
  f_find_right : Addr
  fd_find_right : FuncData
  f_check_both : Addr
  fd_check_both : FuncData
  f_count_clicks : Addr
  fd_count_clicks : FuncData
  f_Hand_init : Addr
  fd_Hand_init : FuncData
  f_Hand_len : Addr
  fd_Hand_len : FuncData
  f_Hand_setting : Addr
  fd_Hand_setting : FuncData
  f_Hand_change : Addr
  fd_Hand_change : FuncData
  f_Hand_click : Addr
  fd_Hand_click : FuncData
  f_Hand_copy : Addr
  fd_Hand_copy : FuncData
  f_check_parts : Addr
  fd_check_parts : FuncData
  f_check_latitude : Addr
  fd_check_latitude : FuncData
  f_find_held : Addr
  fd_find_held : FuncData
  f_held : Addr
  fd_held : FuncData
  f_find_best : Addr
  fd_find_best : FuncData
  f_best_setting : Addr
  fd_best_setting : FuncData
  f_least_latitude : Addr
  fd_least_latitude : FuncData
  f_check_limits : Addr
  fd_check_limits : FuncData
  f_find_lack : Addr
  fd_find_lack : FuncData
  f_find_lacks : Addr
  fd_find_lacks : FuncData
  f_allowed : Addr
  fd_allowed : FuncData
  f_find_plans : Addr
  fd_find_plans : FuncData
  f_check_row : Addr
  fd_check_row : FuncData
  f_find_row : Addr
  fd_find_row : FuncData
  f_best_row : Addr
  fd_best_row : FuncData
  f_all_orders : Addr
  fd_all_orders : FuncData
  f_best_start : Addr
  fd_best_start : FuncData
  f_law_drawn : Addr
  fd_law_drawn : FuncData
  f_law_camera : Addr
  fd_law_camera : FuncData
  f_law_settings : Addr
  fd_law_settings : FuncData
  f_law_number : Addr
  fd_law_number : FuncData
  f_law_light : Addr
  fd_law_light : FuncData
  f_law_lists : Addr
  fd_law_lists : FuncData
  f_M_allowed : Addr
  fd_M_allowed : FuncData
  f_M_find_held : Addr
  fd_M_find_held : FuncData
  f_M_held : Addr
  fd_M_held : FuncData
  f_M_best_row : Addr
  fd_M_best_row : FuncData
  f_M__law_lists : Addr
  fd_M__law_lists : FuncData
  f_law_changed : Addr
  fd_law_changed : FuncData
  f_law : Addr
  fd_law : FuncData
  C_InvalidBrightness : Addr
  C_InvalidCamera : Addr
  C_InvalidLimits : Addr
  C_InvalidNumber : Addr
  C_InvalidParts : Addr
  C_InvalidSetting : Addr
  C_InvalidWheel : Addr
  C_NoClick : Addr
  C_TooLarge : Addr
  C_Hand : Addr
  a_NAMES : Addr
structure Txt (K : PySem.W.Frag) (mg : Str → Option Value) (a : Ad) : Prop where
  F_wall : Fun K "_wall" "_wall" s_wall a.f_wall a.fd_wall
  b_wall : Binds K a.fd_wall ["k"] []
  g_wall : mg "_wall" = some (.ref a.f_wall)
  F_is_int : Fun K "is_int" "is_int" s_is_int a.f_is_int a.fd_is_int
  b_is_int : Binds K a.fd_is_int ["value", "least", "most"] []
  g_is_int : mg "is_int" = some (.ref a.f_is_int)
  F_is_wheel : Fun K "is_wheel" "is_wheel" s_is_wheel a.f_is_wheel a.fd_is_wheel
  b_is_wheel : Binds K a.fd_is_wheel ["value"] []
  g_is_wheel : mg "is_wheel" = some (.ref a.f_is_wheel)
  F_is_camera : Fun K "is_camera" "is_camera" s_is_camera a.f_is_camera a.fd_is_camera
  b_is_camera : Binds K a.fd_is_camera ["candidate"] []
  g_is_camera : mg "is_camera" = some (.ref a.f_is_camera)
  F_wheel_values : Fun K "wheel_values" "wheel_values" s_wheel_values a.f_wheel_values a.fd_wheel_values
  b_wheel_values : Binds K a.fd_wheel_values ["wheel"] []
  g_wheel_values : mg "wheel_values" = some (.ref a.f_wheel_values)
  F_has_setting : Fun K "has_setting" "has_setting" s_has_setting a.f_has_setting a.fd_has_setting
  b_has_setting : Binds K a.fd_has_setting ["camera", "candidate"] []
  g_has_setting : mg "has_setting" = some (.ref a.f_has_setting)
  F_check_camera : Fun K "check_camera" "check_camera" s_check_camera a.f_check_camera a.fd_check_camera
  b_check_camera : Binds K a.fd_check_camera ["value"] []
  g_check_camera : mg "check_camera" = some (.ref a.f_check_camera)
  F_check_setting : Fun K "check_setting" "check_setting" s_check_setting a.f_check_setting a.fd_check_setting
  b_check_setting : Binds K a.fd_check_setting ["camera", "value"] []
  g_check_setting : mg "check_setting" = some (.ref a.f_check_setting)
  F_check_light : Fun K "check_light" "check_light" s_check_light a.f_check_light a.fd_check_light
  b_check_light : Binds K a.fd_check_light ["value"] []
  g_check_light : mg "check_light" = some (.ref a.f_check_light)
  F_find_wheel : Fun K "find_wheel" "find_wheel" s_find_wheel a.f_find_wheel a.fd_find_wheel
  b_find_wheel : Binds K a.fd_find_wheel ["value"] []
  g_find_wheel : mg "find_wheel" = some (.ref a.f_find_wheel)
  F_all_settings : Fun K "all_settings" "all_settings" s_all_settings a.f_all_settings a.fd_all_settings
  b_all_settings : Binds K a.fd_all_settings ["camera"] []
  g_all_settings : mg "all_settings" = some (.ref a.f_all_settings)
  F_find_exposure : Fun K "find_exposure" "find_exposure" s_find_exposure a.f_find_exposure a.fd_find_exposure
  b_find_exposure : Binds K a.fd_find_exposure ["setting"] []
  g_find_exposure : mg "find_exposure" = some (.ref a.f_find_exposure)
  F_find_right : Fun K "find_right" "find_right" s_find_right a.f_find_right a.fd_find_right
  b_find_right : Binds K a.fd_find_right ["camera", "brightness"] []
  g_find_right : mg "find_right" = some (.ref a.f_find_right)
  F_check_both : Fun K "check_both" "check_both" s_check_both a.f_check_both a.fd_check_both
  b_check_both : Binds K a.fd_check_both ["camera", "brightness"] []
  g_check_both : mg "check_both" = some (.ref a.f_check_both)
  F_count_clicks : Fun K "count_clicks" "count_clicks" s_count_clicks a.f_count_clicks a.fd_count_clicks
  b_count_clicks : Binds K a.fd_count_clicks ["camera", "one", "other"] []
  g_count_clicks : mg "count_clicks" = some (.ref a.f_count_clicks)
  F_Hand_init : Fun K "__init__" "Hand.__init__" s_Hand_init a.f_Hand_init a.fd_Hand_init
  b_Hand_init : Binds K a.fd_Hand_init ["self", "camera"] []
  me_Hand_init : Meth K a.C_Hand "__init__" a.f_Hand_init
  F_Hand_len : Fun K "__len__" "Hand.__len__" s_Hand_len a.f_Hand_len a.fd_Hand_len
  b_Hand_len : Binds K a.fd_Hand_len ["self"] []
  me_Hand_len : Meth K a.C_Hand "__len__" a.f_Hand_len
  F_Hand_setting : Fun K "setting" "Hand.setting" s_Hand_setting a.f_Hand_setting a.fd_Hand_setting
  b_Hand_setting : Binds K a.fd_Hand_setting ["self"] []
  me_Hand_setting : Meth K a.C_Hand "setting" a.f_Hand_setting
  F_Hand_change : Fun K "change" "Hand.change" s_Hand_change a.f_Hand_change a.fd_Hand_change
  b_Hand_change : Binds K a.fd_Hand_change ["self", "setting", "many"] []
  me_Hand_change : Meth K a.C_Hand "change" a.f_Hand_change
  F_Hand_click : Fun K "click" "Hand.click" s_Hand_click a.f_Hand_click a.fd_Hand_click
  b_Hand_click : Binds K a.fd_Hand_click ["self", "wheel", "step"] []
  me_Hand_click : Meth K a.C_Hand "click" a.f_Hand_click
  F_Hand_copy : Fun K "copy" "Hand.copy" s_Hand_copy a.f_Hand_copy a.fd_Hand_copy
  b_Hand_copy : Binds K a.fd_Hand_copy ["self"] []
  me_Hand_copy : Meth K a.C_Hand "copy" a.f_Hand_copy
  F_check_parts : Fun K "check_parts" "check_parts" s_check_parts a.f_check_parts a.fd_check_parts
  b_check_parts : Binds K a.fd_check_parts ["value"] []
  g_check_parts : mg "check_parts" = some (.ref a.f_check_parts)
  F_check_latitude : Fun K "check_latitude" "check_latitude" s_check_latitude a.f_check_latitude a.fd_check_latitude
  b_check_latitude : Binds K a.fd_check_latitude ["value"] []
  g_check_latitude : mg "check_latitude" = some (.ref a.f_check_latitude)
  F_find_held : Fun K "find_held" "find_held" s_find_held a.f_find_held a.fd_find_held
  b_find_held : Binds K a.fd_find_held ["setting", "parts", "latitude"] []
  g_find_held : mg "find_held" = some (.ref a.f_find_held)
  F_held : Fun K "held" "held" s_held a.f_held a.fd_held
  b_held : Binds K a.fd_held ["camera", "setting", "parts", "latitude"] []
  g_held : mg "held" = some (.ref a.f_held)
  F_find_best : Fun K "find_best" "find_best" s_find_best a.f_find_best a.fd_find_best
  b_find_best : Binds K a.fd_find_best ["camera", "parts", "latitude"] []
  g_find_best : mg "find_best" = some (.ref a.f_find_best)
  F_best_setting : Fun K "best_setting" "best_setting" s_best_setting a.f_best_setting a.fd_best_setting
  b_best_setting : Binds K a.fd_best_setting ["camera", "parts", "latitude"] []
  g_best_setting : mg "best_setting" = some (.ref a.f_best_setting)
  F_least_latitude : Fun K "least_latitude" "least_latitude" s_least_latitude a.f_least_latitude a.fd_least_latitude
  b_least_latitude : Binds K a.fd_least_latitude ["camera", "parts"] []
  g_least_latitude : mg "least_latitude" = some (.ref a.f_least_latitude)
  F_check_limits : Fun K "check_limits" "check_limits" s_check_limits a.f_check_limits a.fd_check_limits
  b_check_limits : Binds K a.fd_check_limits ["value"] []
  g_check_limits : mg "check_limits" = some (.ref a.f_check_limits)
  F_find_lack : Fun K "find_lack" "find_lack" s_find_lack a.f_find_lack a.fd_find_lack
  b_find_lack : Binds K a.fd_find_lack ["setting", "limits"] []
  g_find_lack : mg "find_lack" = some (.ref a.f_find_lack)
  F_find_lacks : Fun K "find_lacks" "find_lacks" s_find_lacks a.f_find_lacks a.fd_find_lacks
  b_find_lacks : Binds K a.fd_find_lacks ["camera", "limits", "brightness"] []
  g_find_lacks : mg "find_lacks" = some (.ref a.f_find_lacks)
  F_allowed : Fun K "allowed" "allowed" s_allowed a.f_allowed a.fd_allowed
  b_allowed : Binds K a.fd_allowed ["camera", "limits", "brightness"] []
  g_allowed : mg "allowed" = some (.ref a.f_allowed)
  F_find_plans : Fun K "find_plans" "find_plans" s_find_plans a.f_find_plans a.fd_find_plans
  b_find_plans : Binds K a.fd_find_plans ["camera", "parts"] []
  g_find_plans : mg "find_plans" = some (.ref a.f_find_plans)
  F_check_row : Fun K "check_row" "check_row" s_check_row a.f_check_row a.fd_check_row
  b_check_row : Binds K a.fd_check_row ["camera", "parts"] []
  g_check_row : mg "check_row" = some (.ref a.f_check_row)
  F_find_row : Fun K "find_row" "find_row" s_find_row a.f_find_row a.fd_find_row
  b_find_row : Binds K a.fd_find_row ["camera", "parts"] []
  g_find_row : mg "find_row" = some (.ref a.f_find_row)
  F_best_row : Fun K "best_row" "best_row" s_best_row a.f_best_row a.fd_best_row
  b_best_row : Binds K a.fd_best_row ["camera", "parts"] []
  g_best_row : mg "best_row" = some (.ref a.f_best_row)
  F_all_orders : Fun K "all_orders" "all_orders" s_all_orders a.f_all_orders a.fd_all_orders
  b_all_orders : Binds K a.fd_all_orders ["many"] []
  g_all_orders : mg "all_orders" = some (.ref a.f_all_orders)
  F_best_start : Fun K "best_start" "best_start" s_best_start a.f_best_start a.fd_best_start
  b_best_start : Binds K a.fd_best_start ["camera", "parts"] []
  g_best_start : mg "best_start" = some (.ref a.f_best_start)
  F_law_drawn : Fun K "_law_drawn" "_law_drawn" s_law_drawn a.f_law_drawn a.fd_law_drawn
  b_law_drawn : Binds K a.fd_law_drawn ["script", "k", "many"] []
  g_law_drawn : mg "_law_drawn" = some (.ref a.f_law_drawn)
  F_law_camera : Fun K "_law_camera" "_law_camera" s_law_camera a.f_law_camera a.fd_law_camera
  b_law_camera : Binds K a.fd_law_camera ["script", "at"] []
  g_law_camera : mg "_law_camera" = some (.ref a.f_law_camera)
  F_law_settings : Fun K "_law_settings" "_law_settings" s_law_settings a.f_law_settings a.fd_law_settings
  b_law_settings : Binds K a.fd_law_settings ["camera"] []
  g_law_settings : mg "_law_settings" = some (.ref a.f_law_settings)
  F_law_number : Fun K "_law_number" "_law_number" s_law_number a.f_law_number a.fd_law_number
  b_law_number : Binds K a.fd_law_number ["setting"] []
  g_law_number : mg "_law_number" = some (.ref a.f_law_number)
  F_law_light : Fun K "_law_light" "_law_light" s_law_light a.f_law_light a.fd_law_light
  b_law_light : Binds K a.fd_law_light ["script", "at", "camera"] []
  g_law_light : mg "_law_light" = some (.ref a.f_law_light)
  F_law_lists : Fun K "_law_lists" "_law_lists" s_law_lists a.f_law_lists a.fd_law_lists
  b_law_lists : Binds K a.fd_law_lists ["camera", "parts"] []
  g_law_lists : mg "_law_lists" = some (.ref a.f_law_lists)
  F_M_allowed : Fun K "allowed" "allowed" s_M_allowed a.f_M_allowed a.fd_M_allowed
  b_M_allowed : Binds K a.fd_M_allowed ["camera", "limits", "brightness"] []
  g_M_allowed : mg "allowed" = some (.ref a.f_M_allowed)
  F_M_find_held : Fun K "find_held" "find_held" s_M_find_held a.f_M_find_held a.fd_M_find_held
  b_M_find_held : Binds K a.fd_M_find_held ["setting", "parts", "latitude"] []
  g_M_find_held : mg "find_held" = some (.ref a.f_M_find_held)
  F_M_held : Fun K "held" "held" s_M_held a.f_M_held a.fd_M_held
  b_M_held : Binds K a.fd_M_held ["camera", "setting", "parts", "latitude"] []
  g_M_held : mg "held" = some (.ref a.f_M_held)
  F_M_best_row : Fun K "best_row" "best_row" s_M_best_row a.f_M_best_row a.fd_M_best_row
  b_M_best_row : Binds K a.fd_M_best_row ["camera", "parts"] []
  g_M_best_row : mg "best_row" = some (.ref a.f_M_best_row)
  F_M__law_lists : Fun K "_law_lists" "_law_lists" s_M__law_lists a.f_M__law_lists a.fd_M__law_lists
  b_M__law_lists : Binds K a.fd_M__law_lists ["camera", "parts"] []
  g_M__law_lists : mg "_law_lists" = some (.ref a.f_M__law_lists)
  F_law_changed : Fun K "_law_changed" "_law_changed" s_law_changed a.f_law_changed a.fd_law_changed
  b_law_changed : Binds K a.fd_law_changed ["rows"] []
  g_law_changed : mg "_law_changed" = some (.ref a.f_law_changed)
  F_law : Fun K "law" "law" s_law a.f_law a.fd_law
  b_law : Binds K a.fd_law ["script"] []
  g_law : mg "law" = some (.ref a.f_law)
  cls : Cls K a.C_Hand
  mkc : Mk K a.C_Hand a.f_Hand_init
  g_Hand : mg "Hand" = some (.ref a.C_Hand)
  na_camera : NoAttr K a.C_Hand "camera"
  na_present : NoAttr K a.C_Hand "present"
  na_done : NoAttr K a.C_Hand "done"
  na_undone : NoAttr K a.C_Hand "undone"
  x_InvalidBrightness : PySem.W.excIn K a.C_InvalidBrightness [.type "ValueError", .type "Exception", .type "BaseException", .type "object"] "ValueError.__new__" = true
  g_InvalidBrightness : mg "InvalidBrightness" = some (.ref a.C_InvalidBrightness)
  k_InvalidBrightness : PySem.W.keepIn K (.ref a.C_InvalidBrightness) = true
  bx_InvalidBrightness : PySem.W.subIn K (.ref a.C_InvalidBrightness) (.type "BaseException") = some true
  t_InvalidBrightness : PySem.W.typeIn K (.ref a.C_InvalidBrightness) = some (.type "type")
  x_InvalidCamera : PySem.W.excIn K a.C_InvalidCamera [.type "ValueError", .type "Exception", .type "BaseException", .type "object"] "ValueError.__new__" = true
  g_InvalidCamera : mg "InvalidCamera" = some (.ref a.C_InvalidCamera)
  k_InvalidCamera : PySem.W.keepIn K (.ref a.C_InvalidCamera) = true
  bx_InvalidCamera : PySem.W.subIn K (.ref a.C_InvalidCamera) (.type "BaseException") = some true
  t_InvalidCamera : PySem.W.typeIn K (.ref a.C_InvalidCamera) = some (.type "type")
  x_InvalidLimits : PySem.W.excIn K a.C_InvalidLimits [.type "ValueError", .type "Exception", .type "BaseException", .type "object"] "ValueError.__new__" = true
  g_InvalidLimits : mg "InvalidLimits" = some (.ref a.C_InvalidLimits)
  k_InvalidLimits : PySem.W.keepIn K (.ref a.C_InvalidLimits) = true
  bx_InvalidLimits : PySem.W.subIn K (.ref a.C_InvalidLimits) (.type "BaseException") = some true
  t_InvalidLimits : PySem.W.typeIn K (.ref a.C_InvalidLimits) = some (.type "type")
  x_InvalidNumber : PySem.W.excIn K a.C_InvalidNumber [.type "ValueError", .type "Exception", .type "BaseException", .type "object"] "ValueError.__new__" = true
  g_InvalidNumber : mg "InvalidNumber" = some (.ref a.C_InvalidNumber)
  k_InvalidNumber : PySem.W.keepIn K (.ref a.C_InvalidNumber) = true
  bx_InvalidNumber : PySem.W.subIn K (.ref a.C_InvalidNumber) (.type "BaseException") = some true
  t_InvalidNumber : PySem.W.typeIn K (.ref a.C_InvalidNumber) = some (.type "type")
  x_InvalidParts : PySem.W.excIn K a.C_InvalidParts [.type "ValueError", .type "Exception", .type "BaseException", .type "object"] "ValueError.__new__" = true
  g_InvalidParts : mg "InvalidParts" = some (.ref a.C_InvalidParts)
  k_InvalidParts : PySem.W.keepIn K (.ref a.C_InvalidParts) = true
  bx_InvalidParts : PySem.W.subIn K (.ref a.C_InvalidParts) (.type "BaseException") = some true
  t_InvalidParts : PySem.W.typeIn K (.ref a.C_InvalidParts) = some (.type "type")
  x_InvalidSetting : PySem.W.excIn K a.C_InvalidSetting [.type "ValueError", .type "Exception", .type "BaseException", .type "object"] "ValueError.__new__" = true
  g_InvalidSetting : mg "InvalidSetting" = some (.ref a.C_InvalidSetting)
  k_InvalidSetting : PySem.W.keepIn K (.ref a.C_InvalidSetting) = true
  bx_InvalidSetting : PySem.W.subIn K (.ref a.C_InvalidSetting) (.type "BaseException") = some true
  t_InvalidSetting : PySem.W.typeIn K (.ref a.C_InvalidSetting) = some (.type "type")
  x_InvalidWheel : PySem.W.excIn K a.C_InvalidWheel [.type "ValueError", .type "Exception", .type "BaseException", .type "object"] "ValueError.__new__" = true
  g_InvalidWheel : mg "InvalidWheel" = some (.ref a.C_InvalidWheel)
  k_InvalidWheel : PySem.W.keepIn K (.ref a.C_InvalidWheel) = true
  bx_InvalidWheel : PySem.W.subIn K (.ref a.C_InvalidWheel) (.type "BaseException") = some true
  t_InvalidWheel : PySem.W.typeIn K (.ref a.C_InvalidWheel) = some (.type "type")
  x_NoClick : PySem.W.excIn K a.C_NoClick [.type "ValueError", .type "Exception", .type "BaseException", .type "object"] "ValueError.__new__" = true
  g_NoClick : mg "NoClick" = some (.ref a.C_NoClick)
  k_NoClick : PySem.W.keepIn K (.ref a.C_NoClick) = true
  bx_NoClick : PySem.W.subIn K (.ref a.C_NoClick) (.type "BaseException") = some true
  t_NoClick : PySem.W.typeIn K (.ref a.C_NoClick) = some (.type "type")
  x_TooLarge : PySem.W.excIn K a.C_TooLarge [.type "ValueError", .type "Exception", .type "BaseException", .type "object"] "ValueError.__new__" = true
  g_TooLarge : mg "TooLarge" = some (.ref a.C_TooLarge)
  k_TooLarge : PySem.W.keepIn K (.ref a.C_TooLarge) = true
  bx_TooLarge : PySem.W.subIn K (.ref a.C_TooLarge) (.type "BaseException") = some true
  t_TooLarge : PySem.W.typeIn K (.ref a.C_TooLarge) = some (.type "type")
  c_MARK : ∃ t, mg "MARK" = some (.str "x" t)
  c_MAX_LATITUDE : ∃ t, mg "MAX_LATITUDE" = some (.int (60) t)
  c_MAX_LEAST : ∃ t, mg "MAX_LEAST" = some (.int (40) t)
  c_MAX_LIGHT : ∃ t, mg "MAX_LIGHT" = some (.int (120) t)
  c_MAX_LIMIT : ∃ t, mg "MAX_LIMIT" = some (.int (60) t)
  c_MAX_MOST : ∃ t, mg "MAX_MOST" = some (.int (60) t)
  c_MAX_ORDERED : ∃ t, mg "MAX_ORDERED" = some (.int (4) t)
  c_MAX_PARTS : ∃ t, mg "MAX_PARTS" = some (.int (6) t)
  c_MAX_STEP : ∃ t, mg "MAX_STEP" = some (.int (3) t)
  c_MAX_VALUES : ∃ t, mg "MAX_VALUES" = some (.int (13) t)
  c_MIN_LIGHT : ∃ t, mg "MIN_LIGHT" = some (.int (-60) t)
  c_NAMES : mg "NAMES" = some (.ref a.a_NAMES)
  d_NAMES : ∀ S, DV K S (.ref a.a_NAMES) (.tuple [(.str "aperture"), (.str "time"), (.str "sensitivity")])
  oe_NAMES : ∃ ob, K.lookup a.a_NAMES = some ob ∧ ob.cls = .type "tuple" ∧ ob.dict = none
  s_NAMES : ∀ H, SqT K H a.a_NAMES ((["aperture", "time", "sensitivity"] : List Str).map V.str)
  c_PARTS : ∃ t, mg "PARTS" = some (.int (3) t)
  m_abs : mg "abs" = none
  m_all : mg "all" = none
  m_bool : mg "bool" = none
  m_enumerate : mg "enumerate" = none
  m_int : mg "int" = none
  m_isinstance : mg "isinstance" = none
  m_len : mg "len" = none
  m_list : mg "list" = none
  m_max : mg "max" = none
  m_min : mg "min" = none
  m_range : mg "range" = none
  m_str : mg "str" = none
  m_tuple : mg "tuple" = none
  m_zip : mg "zip" = none
section
variable {P : Program} {w : World} {K : PySem.W.Frag} {mg : Str → Option Value} {base : Heap} {a : Ad}
theorem ok_wall (T : Txt K mg a) : FnOk P w K mg base (L2.CX P w) 1 a.f_wall a.fd_wall ["k"] (spD K mg 1 F_wall) :=
  fnD (N := N_wall) (B := B_wall) T.F_wall sc_wall rfl fun cdv A outer s H E hr => ⟨_, sds_one (sd_while 100000 poX (td_val pd_bl) (sds_one sd_pass))⟩
theorem ok_is_int (T : Txt K mg a) : FnOk P w K mg base (L2.CX P w) 1 a.f_is_int a.fd_is_int ["value", "least", "most"] (spD K mg 3 F_is_int) :=
  fnD (N := N_is_int) (B := B_is_int) T.F_is_int sc_is_int rfl fun cdv A outer s H E hr => ⟨_, sds_one (sd_ret (pd_and (pd_isi (T := "int") (by decide) (pdv 0) rfl T.m_isinstance bt_isinstance rfl T.m_int bt_int) (pd_and (pd_not (pd_isi (T := "bool") (by decide) (pdv 0) rfl T.m_isinstance bt_isinstance rfl T.m_bool bt_bool)) (pd_one (pd_chain op_le op_le os_le os_le (pdv 1) (pdv 0) (pdv 2))))))⟩
theorem ok_wheel_values (T : Txt K mg a) : FnOk P w K mg base (L2.CX P w) 1 a.f_wheel_values a.fd_wheel_values ["wheel"] (spD K mg 1 F_wheel_values) :=
  fnD (N := N_wheel_values) (B := B_wheel_values) T.F_wheel_values sc_wheel_values rfl fun cdv A outer s H E hr => ⟨_, sds_cons (sd_asg (pdv 0) (gd_tup rfl (gds_cons (gn 1 sc_wheel_values.nd) (gds_cons (gn 2 sc_wheel_values.nd) (gds_cons (gn 3 sc_wheel_values.nd) gds_nil))))) (sds_one (sd_ret (pd_listR3 rfl rfl T.m_list rfl T.m_range (ad_cons (pdv 1) (ad_cons (pd_op op_addA os_add (pdv 2) pd_int) (ad_cons (pdv 3) ad_nil))))))⟩
theorem ok_find_wheel (T : Txt K mg a) : FnOk P w K mg base (L2.CX P w) 1 a.f_find_wheel a.fd_find_wheel ["value"] (spD K mg 1 F_find_wheel) :=
  fnD (N := N_find_wheel) (B := B_find_wheel) T.F_find_wheel sc_find_wheel rfl fun cdv A outer s H E hr => ⟨_, sds_cons (sd_if (WD.td (wd_or (td_not (td_val (pd_isi (T := "str") (by decide) (pdv 0) rfl T.m_isinstance bt_isinstance rfl T.m_str bt_str))) (wd_or1 (td_cmp (op_notInK (hU hr)) os_notin (pdv 0) (pd_gref T.c_NAMES T.d_NAMES))))) (sds_one (sd_raise rfl tkX T.x_InvalidWheel T.g_InvalidWheel T.k_InvalidWheel T.bx_InvalidWheel T.t_InvalidWheel rfl)) sds_nil) (sds_one (sd_ret (pd_namesIx (ys := ["aperture", "time", "sensitivity"]) T.oe_NAMES T.s_NAMES (pdv 0) (pe_bm PySem.F.plainAttrs_tuple PySem.F.slot_tuple_index PySem.F.type_tuple_index mt_nix (pe_glob rfl T.c_NAMES rfl) (pa_cons (PD.pe (K := K) (mg := mg) (E := E0) (pdv 0)) pa_nil)))))⟩
theorem ok_find_exposure (T : Txt K mg a) : FnOk P w K mg base (L2.CX P w) 1 a.f_find_exposure a.fd_find_exposure ["setting"] (spD K mg 1 F_find_exposure) :=
  fnD (N := N_find_exposure) (B := B_find_exposure) T.F_find_exposure sc_find_exposure rfl fun cdv A outer s H E hr => ⟨_, sds_one (sd_ret (pd_op op_sub os_sub (pd_op op_addA os_add (pd_ix ix_A os_ix (pdv 0) pd_int) (pd_ix ix_A os_ix (pdv 0) pd_int)) (pd_ix ix_A os_ix (pdv 0) pd_int)))⟩
theorem ok_count_clicks (T : Txt K mg a) : FnOk P w K mg base (L2.CX P w) 1 a.f_count_clicks a.fd_count_clicks ["camera", "one", "other"] (spD K mg 3 F_count_clicks) :=
  fnD (N := N_count_clicks) (B := B_count_clicks) T.F_count_clicks sc_count_clicks rfl fun cdv A outer s H E hr => ⟨_, sds_cons (sd_set pd_int sc_count_clicks.nd rfl) (sds_cons (sd_forI poX rfl (id_zip3 rfl T.m_zip (ad_cons (pdv 0) (ad_cons (pdv 1) (ad_cons (pdv 2) ad_nil)))) (gd_tup rfl (gds_cons (gn 4 sc_count_clicks.nd) (gds_cons (gn 5 sc_count_clicks.nd) (gds_cons (gn 6 sc_count_clicks.nd) gds_nil)))) (sds_one (sd_set (pd_op op_addA os_add (pdv 3) (pd_op op_fdivW os_div (pd_callB call_abs cs_abs rfl T.m_abs bt_abs (ad_cons (pd_op op_sub os_sub (pdv 5) (pdv 6)) ad_nil)) (pd_ix ix_A os_ix (pdv 4) pd_int))) sc_count_clicks.nd rfl))) (sds_one (sd_ret (pdv 3))))⟩
theorem ok_Hand_len (T : Txt K mg a) : FnOk P w K mg base (L2.CX P w) 1 a.f_Hand_len a.fd_Hand_len ["self"] (spM K mg a.C_Hand 1 F_Hand_len) :=
  fnMk (N := N_Hand_len) (B := B_Hand_len) T.F_Hand_len sc_Hand_len rfl fun cdv A outer s H E hr => ⟨_, mss_one (ms_ret (md_callB c_len (fun _ => cs_len) rfl T.m_len bt_len (ma_cons (md_ix ix_A (fun _ => os_ix) (md_fld (md_var 0 (pv 0)) T.cls T.na_present) (md_pure pd_int)) ma_nil)))⟩
theorem ok_Hand_setting (T : Txt K mg a) : FnOk P w K mg base (L2.CX P w) 1 a.f_Hand_setting a.fd_Hand_setting ["self"] (spM K mg a.C_Hand 1 F_Hand_setting) :=
  fnMk (N := N_Hand_setting) (B := B_Hand_setting) T.F_Hand_setting sc_Hand_setting rfl fun cdv A outer s H E hr => ⟨_, mss_one (ms_ret (md_ix ix_A (fun _ => os_ix) (md_fld (md_var 0 (pv 0)) T.cls T.na_present) (md_pure pd_int)))⟩
theorem ok_Hand_change (T : Txt K mg a) : FnOk P w K mg base (L2.CX P w) 1 a.f_Hand_change a.fd_Hand_change ["self", "setting", "many"] (spM K mg a.C_Hand 3 F_Hand_change) :=
  fnMk (N := N_Hand_change) (B := B_Hand_change) T.F_Hand_change sc_Hand_change rfl fun cdv A outer s H E hr => ⟨_, mss_cons (ms_expr (md_app (md_fld (md_var 0 (pv 0)) T.cls T.na_done) (md_fld (md_var 0 (pv 0)) T.cls T.na_present))) (mss_cons (ms_fld (md_var 0 (pv 0)) (md_tup (ma_cons (md_pure (pdv 1)) (ma_cons (md_op op_addA (fun _ => os_add) (md_ix ix_A (fun _ => os_ix) (md_fld (md_var 0 (pv 0)) T.cls T.na_present) (md_pure pd_int)) (md_pure (pd_op op_mulS os_mulS (pd_gstr T.c_MARK) (pdv 2)))) ma_nil))) T.cls T.na_present) (mss_one (ms_fld (md_var 0 (pv 0)) (md_newL ma_nil) T.cls T.na_undone)))⟩
theorem ok_find_lack (T : Txt K mg a) : FnOk P w K mg base (L2.CX P w) 1 a.f_find_lack a.fd_find_lack ["setting", "limits"] (spD K mg 2 F_find_lack) :=
  fnD (N := N_find_lack) (B := B_find_lack) T.F_find_lack sc_find_lack rfl fun cdv A outer s H E hr => ⟨_, sds_cons (sd_asg (pdv 0) (gd_tup rfl (gds_cons (gn 2 sc_find_lack.nd) (gds_cons (gn 3 sc_find_lack.nd) (gds_cons (gn 4 sc_find_lack.nd) gds_nil))))) (sds_cons (sd_asg (pdv 1) (gd_tup rfl (gds_cons (gn 5 sc_find_lack.nd) (gds_cons (gn 6 sc_find_lack.nd) (gds_cons (gn 7 sc_find_lack.nd) gds_nil))))) (sds_one (sd_ret (pd_op op_addA os_add (pd_op op_addA os_add (pd_callB (call_max2 rfl) cs_max2 rfl T.m_max bt_max (ad_cons pd_int (ad_cons (pd_op op_sub os_sub (pdv 5) (pdv 2)) ad_nil))) (pd_callB (call_max2 rfl) cs_max2 rfl T.m_max bt_max (ad_cons pd_int (ad_cons (pd_op op_sub os_sub (pdv 6) (pdv 3)) ad_nil)))) (pd_callB (call_max2 rfl) cs_max2 rfl T.m_max bt_max (ad_cons pd_int (ad_cons (pd_op op_sub os_sub (pdv 4) (pdv 7)) ad_nil)))))))⟩
theorem ok_all_orders (T : Txt K mg a) : FnOk P w K mg base (L2.CX P w) 1 a.f_all_orders a.fd_all_orders ["many"] (spD K mg 1 F_all_orders) :=
  fnD (N := N_all_orders) (B := B_all_orders) T.F_all_orders sc_all_orders rfl fun cdv A outer s H E hr => ⟨_, sds_cons (sd_set (pd_lst (ad_cons (pd_tup ad_nil) ad_nil)) sc_all_orders.nd rfl) (sds_cons (sd_forI poX rfl (id_range1 rfl T.m_range (ad_cons (pdv 0) ad_nil)) (gd_name (gn 2 sc_all_orders.nd)) (sds_one (sd_setLc2 (vs1 := [4]) rfl sc_all_orders.nd rfl rfl (sw_true rfl rfl rfl (by decide +kernel)) (id_seq (pdv 1)) (blkOk_by (own := [("begun", 3), ("index", 4)]) (N := N_all_orders) (sc := defScope s_all_orders) (by decide +kernel)) (by decide) (fun _ _ _ _ _ => gd_name (gn 3 sc_all_orders.nd)) (fun _ _ _ _ _ => tds_nil) (fun _ _ _ _ _ => id_range1 rfl T.m_range (ad_cons (pdv 0) ad_nil)) (fun _ _ _ _ _ => gd_name (gn 4 sc_all_orders.nd)) (fun _ _ _ _ _ => tds_one (td_cmp (op_notInK (hU hr)) os_notin (pdv 4) (pdv 3))) (fun _ _ _ _ _ => pd_op op_addA os_add (pdv 3) (pd_tup (ad_cons (pdv 4) ad_nil)))))) (sds_one (sd_ret (pdv 1))))⟩
theorem ok_law_drawn (T : Txt K mg a) : FnOk P w K mg base (L2.CX P w) 1 a.f_law_drawn a.fd_law_drawn ["script", "k", "many"] (spD K mg 3 F_law_drawn) :=
  fnD (N := N_law_drawn) (B := B_law_drawn) T.F_law_drawn sc_law_drawn rfl fun cdv A outer s H E hr => ⟨_, sds_cons (sd_set (pd_op op_mul os_mulI pd_int (pdv 1)) sc_law_drawn.nd rfl) (sds_cons (sd_if (td_cmp (op_neK (hU hr)) os_ne (pdv 0) (pd_lst ad_nil)) (sds_cons (sd_set (pd_ix ix_A os_ix (pdv 0) (pd_op op_mod os_mod (pdv 1) (pd_callB c_len cs_len rfl T.m_len bt_len (ad_cons (pdv 0) ad_nil)))) sc_law_drawn.nd rfl) (sds_cons (sd_set (pd_op op_fdivW os_div (pdv 1) (pd_callB c_len cs_len rfl T.m_len bt_len (ad_cons (pdv 0) ad_nil))) sc_law_drawn.nd rfl) (sds_cons (sd_if (WD.td (wd_and (td_cmp op_ge os_ge (pdv 3) (pd_op op_pow os_pow pd_int pd_int)) (wd_and1 (td_cmp op_lt os_lt (pdv 4) pd_int)))) (sds_cons (sd_set (pd_op op_fdivW os_div (pdv 3) (pd_op op_pow os_pow pd_int pd_int)) sc_law_drawn.nd rfl) (sds_cons (sd_while 100000 poX (WD.td (wd_and (td_cmp op_gt os_gt (pdv 5) pd_int) (wd_and1 (td_cmp op_gt os_gt (pdv 4) pd_int)))) (sds_cons (sd_set (pd_op op_fdivW os_div (pdv 5) pd_int) sc_law_drawn.nd rfl) (sds_one (sd_set (pd_op op_sub os_sub (pdv 4) pd_int) sc_law_drawn.nd rfl)))) (sds_one (sd_if (td_cmp op_gt os_gt (pdv 5) pd_int) (sds_one (sd_ret (pd_op op_mod os_mod (pd_op op_mod os_mod (pdv 5) pd_int) (pdv 2)))) sds_nil)))) sds_nil) (sds_one (sd_set (pd_op op_addA os_add (pdv 3) (pd_op op_mul os_mulI pd_int (pd_op op_fdivW os_div (pdv 1) (pd_callB c_len cs_len rfl T.m_len bt_len (ad_cons (pdv 0) ad_nil))))) sc_law_drawn.nd rfl))))) sds_nil) (sds_cons (sd_set (pd_op op_mod os_mod (pd_op op_addA os_add (pd_op op_mul os_mulI (pd_op op_mod os_mod (pdv 3) pd_int) pd_int) (pd_op op_mul os_mulI pd_int (pd_op op_addA os_add (pdv 1) pd_int))) pd_int) sc_law_drawn.nd rfl) (sds_cons (sd_set (pd_op op_mod os_mod (pd_op op_addA os_add (pd_op op_mul os_mulI (pdv 3) (pdv 3)) (pd_op op_fdivW os_div (pdv 3) pd_int)) pd_int) sc_law_drawn.nd rfl) (sds_one (sd_ret (pd_op op_mod os_mod (pd_op op_fdivW os_div (pd_op op_mod os_mod (pd_op op_addA os_add (pd_op op_mul os_mulI (pdv 3) (pdv 3)) (pd_op op_fdivW os_div (pdv 3) pd_int)) pd_int) pd_int) (pdv 2)))))))⟩
theorem ok_law_settings (T : Txt K mg a) : FnOk P w K mg base (L2.CX P w) 1 a.f_law_settings a.fd_law_settings ["camera"] (spD K mg 1 F_law_settings) :=
  fnD (N := N_law_settings) (B := B_law_settings) T.F_law_settings sc_law_settings rfl fun cdv A outer s H E hr => ⟨_, sds_cons (sd_set (pd_lst (ad_cons (pd_tup ad_nil) ad_nil)) sc_law_settings.nd rfl) (sds_cons (sd_forI poX rfl (id_seq (pdv 0)) (gd_tup rfl (gds_cons (gn 2 sc_law_settings.nd) (gds_cons (gn 3 sc_law_settings.nd) (gds_cons (gn 4 sc_law_settings.nd) gds_nil)))) (sds_cons (sd_set (pd_lst ad_nil) sc_law_settings.nd rfl) (sds_cons (sd_forI poX rfl (id_seq (pdv 1)) (gd_name (gn 6 sc_law_settings.nd)) (sds_one (sd_set (pd_op op_addA os_add (pdv 5) (pd_lc rfl sc_law_settings.nd (id_range3 rfl T.m_range (ad_cons (pdv 2) (ad_cons (pd_op op_addA os_add (pdv 3) pd_int) (ad_cons (pdv 4) ad_nil)))) (blkOk_by (own := [("value", 7)]) (N := N_law_settings) (sc := defScope s_law_settings) (by decide +kernel)) (fun _ _ _ _ _ => gd_name (gn 7 sc_law_settings.nd)) (fun _ _ _ _ _ => tds_nil) (fun _ _ _ _ _ => pd_op op_addA os_add (pdv 6) (pd_tup (ad_cons (pdv 7) ad_nil))))) sc_law_settings.nd rfl))) (sds_one (sd_set (pdv 5) sc_law_settings.nd rfl))))) (sds_one (sd_ret (pdv 1))))⟩
theorem ok_law_number (T : Txt K mg a) : FnOk P w K mg base (L2.CX P w) 1 a.f_law_number a.fd_law_number ["setting"] (spD K mg 1 F_law_number) :=
  fnD (N := N_law_number) (B := B_law_number) T.F_law_number sc_law_number rfl fun cdv A outer s H E hr => ⟨_, sds_one (sd_ret (pd_op op_sub os_sub (pd_op op_addA os_add (pd_ix ix_A os_ix (pdv 0) pd_int) (pd_ix ix_A os_ix (pdv 0) pd_int)) (pd_ix ix_A os_ix (pdv 0) pd_int)))⟩
theorem ok_law_changed (T : Txt K mg a) : FnOk P w K mg base (L2.CX P w) 1 a.f_law_changed a.fd_law_changed ["rows"] (spM K mg a.C_Hand 1 F_law_changed) :=
  fnMk (N := N_law_changed) (B := B_law_changed) T.F_law_changed sc_law_changed rfl fun cdv A outer s H E hr => ⟨_, mss_cons (ms_forL poX rfl (md_var 0 (pv 0)) (gn 1 sc_law_changed.nd) (mss_cons (ms_if (mt_pure (td_not (td_val (pd_isi (T := "list") (by decide) (pdv 1) rfl T.m_isinstance bt_isinstance rfl T.m_list bt_list)))) (mss_one (ms_ret (md_pure pd_bl))) mss_nil) (mss_cons (ms_expr (md_app (md_var 1 (pv 1)) (md_pure pd_non))) (mss_one (ms_expr (md_ins0 (md_var 1 (pv 1)) pd_int pd_int)))))) (mss_one (ms_ret (md_pure pd_bl)))⟩
theorem ok_is_wheel (T : Txt K mg a) : FnOk P w K mg base (L2.CX P w) 2 a.f_is_wheel a.fd_is_wheel ["value"] (spD K mg 1 F_is_wheel) :=
  fnD (N := N_is_wheel) (B := B_is_wheel) T.F_is_wheel sc_is_wheel rfl fun cdv A outer s H E hr => ⟨_, sds_cons (sd_if (WD.td (wd_or (td_not (td_val (pd_isi (T := "tuple") (by decide) (pdv 0) rfl T.m_isinstance bt_isinstance rfl T.m_tuple bt_tuple))) (wd_or (td_cmp (op_neK (hU hr)) os_ne (pd_callB c_len cs_len rfl T.m_len bt_len (ad_cons (pdv 0) ad_nil)) pd_int) (wd_or1 (td_not (td_val (pd_call (ok_is_int T) (hr.mono (by decide)) rfl T.g_is_int T.F_is_int.kp T.b_is_int pX (ad_cons (pd_ix ix_A os_ix (pdv 0) pd_int) (ad_cons pd_int (ad_cons (pd_gint T.c_MAX_LEAST) ad_nil)))))))))) (sds_one (sd_ret pd_bl)) sds_nil) (sds_cons (sd_asg (pdv 0) (gd_tup rfl (gds_cons (gn 1 sc_is_wheel.nd) (gds_cons (gn 2 sc_is_wheel.nd) (gds_cons (gn 3 sc_is_wheel.nd) gds_nil))))) (sds_cons (sd_if (WD.td (wd_or (td_not (td_val (pd_call (ok_is_int T) (hr.mono (by decide)) rfl T.g_is_int T.F_is_int.kp T.b_is_int pX (ad_cons (pdv 2) (ad_cons (pdv 1) (ad_cons (pd_gint T.c_MAX_MOST) ad_nil)))))) (wd_or1 (td_not (td_val (pd_call (ok_is_int T) (hr.mono (by decide)) rfl T.g_is_int T.F_is_int.kp T.b_is_int pX (ad_cons (pdv 3) (ad_cons pd_int (ad_cons (pd_gint T.c_MAX_STEP) ad_nil))))))))) (sds_one (sd_ret pd_bl)) sds_nil) (sds_one (sd_ret (pd_cmp op_le os_le (pd_op op_addA os_add (pd_op op_fdivW os_div (pd_op op_sub os_sub (pdv 2) (pdv 1)) (pdv 3)) pd_int) (pd_gint T.c_MAX_VALUES))))))⟩
theorem ok_has_setting (T : Txt K mg a) : FnOk P w K mg base (L2.CX P w) 2 a.f_has_setting a.fd_has_setting ["camera", "candidate"] (spD K mg 2 F_has_setting) :=
  fnD (N := N_has_setting) (B := B_has_setting) T.F_has_setting sc_has_setting rfl fun cdv A outer s H E hr => ⟨_, sds_cons (sd_if (WD.td (wd_or (td_not (td_val (pd_isi (T := "tuple") (by decide) (pdv 1) rfl T.m_isinstance bt_isinstance rfl T.m_tuple bt_tuple))) (wd_or1 (td_cmp (op_neK (hU hr)) os_ne (pd_callB c_len cs_len rfl T.m_len bt_len (ad_cons (pdv 1) ad_nil)) (pd_callB c_len cs_len rfl T.m_len bt_len (ad_cons (pd_gref T.c_NAMES T.d_NAMES) ad_nil)))))) (sds_one (sd_ret pd_bl)) sds_nil) (sds_cons (sd_setLc rfl sc_has_setting.nd rfl rfl (sw_true rfl rfl rfl (by decide +kernel)) (id_zip rfl T.m_zip (ad_cons (pdv 1) (ad_cons (pdv 0) ad_nil))) (blkOk_by (own := [("value", 3), ("wheel", 4)]) (N := N_has_setting) (sc := defScope s_has_setting) (by decide +kernel)) (fun _ _ _ _ _ => gd_tup rfl (gds_cons (gn 3 sc_has_setting.nd) (gds_cons (gn 4 sc_has_setting.nd) gds_nil))) (fun _ _ _ _ _ => tds_nil) (fun _ _ _ _ _ => pd_and (pd_call (ok_is_int T) (hr.mono (by decide)) rfl T.g_is_int T.F_is_int.kp T.b_is_int passL (ad_cons (pdv 3) (ad_cons pd_int (ad_cons (pd_gint T.c_MAX_MOST) ad_nil)))) (pd_one (pd_cmp (op_inK (hU hr)) os_in (pdv 3) (pd_call (ok_wheel_values T) (hr.mono (by decide)) rfl T.g_wheel_values T.F_wheel_values.kp T.b_wheel_values passL (ad_cons (pdv 4) ad_nil)))))) (sds_one (sd_ret (pd_callB (c_all rfl) cs_all rfl T.m_all bt_all (ad_cons (pdv 2) ad_nil)))))⟩
theorem ok_check_light (T : Txt K mg a) : FnOk P w K mg base (L2.CX P w) 2 a.f_check_light a.fd_check_light ["value"] (spD K mg 1 F_check_light) :=
  fnD (N := N_check_light) (B := B_check_light) T.F_check_light sc_check_light rfl fun cdv A outer s H E hr => ⟨_, sds_one (sd_if (td_not (td_val (pd_call (ok_is_int T) (hr.mono (by decide)) rfl T.g_is_int T.F_is_int.kp T.b_is_int pX (ad_cons (pdv 0) (ad_cons (pd_gint T.c_MIN_LIGHT) (ad_cons (pd_gint T.c_MAX_LIGHT) ad_nil)))))) (sds_one (sd_raise rfl tkX T.x_InvalidBrightness T.g_InvalidBrightness T.k_InvalidBrightness T.bx_InvalidBrightness T.t_InvalidBrightness rfl)) sds_nil)⟩
theorem ok_all_settings (T : Txt K mg a) : FnOk P w K mg base (L2.CX P w) 2 a.f_all_settings a.fd_all_settings ["camera"] (spD K mg 1 F_all_settings) :=
  fnD (N := N_all_settings) (B := B_all_settings) T.F_all_settings sc_all_settings rfl fun cdv A outer s H E hr => ⟨_, sds_cons (sd_set (pd_lst (ad_cons (pd_tup ad_nil) ad_nil)) sc_all_settings.nd rfl) (sds_cons (sd_forI poX rfl (id_seq (pdv 0)) (gd_name (gn 2 sc_all_settings.nd)) (sds_one (sd_setLc2 (vs1 := [4]) rfl sc_all_settings.nd rfl rfl (sw_true rfl rfl rfl (by decide +kernel)) (id_seq (pdv 1)) (blkOk_by (own := [("begun", 3), ("value", 4)]) (N := N_all_settings) (sc := defScope s_all_settings) (by decide +kernel)) (by decide) (fun _ _ _ _ _ => gd_name (gn 3 sc_all_settings.nd)) (fun _ _ _ _ _ => tds_nil) (fun _ _ _ _ _ => id_seq (pd_call (ok_wheel_values T) (hr.mono (by decide)) rfl T.g_wheel_values T.F_wheel_values.kp T.b_wheel_values passL (ad_cons (pdv 2) ad_nil))) (fun _ _ _ _ _ => gd_name (gn 4 sc_all_settings.nd)) (fun _ _ _ _ _ => tds_nil) (fun _ _ _ _ _ => pd_op op_addA os_add (pdv 3) (pd_tup (ad_cons (pdv 4) ad_nil)))))) (sds_one (sd_ret (pdv 1))))⟩
theorem ok_Hand_click (T : Txt K mg a) : FnOk P w K mg base (L2.CX P w) 2 a.f_Hand_click a.fd_Hand_click ["self", "wheel", "step"] (spM K mg a.C_Hand 3 F_Hand_click) :=
  fnMk (N := N_Hand_click) (B := B_Hand_click) T.F_Hand_click sc_Hand_click rfl fun cdv A outer s H E hr => ⟨_, mss_cons (ms_set (md_pure (pd_call (ok_find_wheel T) (hr.mono (by decide)) rfl T.g_find_wheel T.F_find_wheel.kp T.b_find_wheel pX (ad_cons (pdv 1) ad_nil))) sc_Hand_click.nd rfl) (mss_cons (ms_if (mt_pure (WD.td (wd_or (td_not (td_val (pd_call (ok_is_int T) (hr.mono (by decide)) rfl T.g_is_int T.F_is_int.kp T.b_is_int pX (ad_cons (pdv 2) (ad_cons (pd_neg pd_int) (ad_cons pd_int ad_nil)))))) (wd_or1 (td_cmp (op_eqK (hU hr)) os_eq (pdv 2) pd_int))))) (mss_one (ms_raise rfl tkX T.x_InvalidNumber T.g_InvalidNumber T.k_InvalidNumber T.bx_InvalidNumber T.t_InvalidNumber rfl)) mss_nil) (mss_cons (ms_set (md_ix ix_A (fun _ => os_ix) (md_fld (md_var 0 (pv 0)) T.cls T.na_present) (md_pure pd_int)) sc_Hand_click.nd rfl) (mss_cons (ms_set (md_op op_addA (fun _ => os_add) (md_pure (pd_ix ix_A os_ix (pdv 4) (pdv 3))) (md_op op_mul (fun _ => os_mulI) (md_pure (pdv 2)) (md_ix ix_A (fun _ => os_ix) (md_ix ix_A (fun _ => os_ix) (md_fld (md_var 0 (pv 0)) T.cls T.na_camera) (md_pure (pdv 3))) (md_pure pd_int)))) sc_Hand_click.nd rfl) (mss_cons (ms_if (mt_cmp (op_notInK (hU hr)) (fun _ => os_notin) (md_pure (pdv 5)) (md_callD (ok_wheel_values T) (hr.mono (by decide)) rfl T.g_wheel_values T.F_wheel_values.kp T.b_wheel_values pXM (ma_cons (md_ix ix_A (fun _ => os_ix) (md_fld (md_var 0 (pv 0)) T.cls T.na_camera) (md_pure (pdv 3))) ma_nil))) (mss_one (ms_raise rfl tkX T.x_NoClick T.g_NoClick T.k_NoClick T.bx_NoClick T.t_NoClick rfl)) mss_nil) (mss_cons (ms_expr (md_meth (md_var 0 (pv 0)) T.cls T.me_Hand_change (ok_Hand_change T) (hr.mono (by decide)) T.b_Hand_change pXM (ma_cons (md_pure (pd_op op_addA os_add (pd_op op_addA os_add (pd_slice sl_D ss_sl (pdv 4) od_none (od_some (pdv 3))) (pd_tup (ad_cons (pdv 5) ad_nil))) (pd_slice sl_D ss_sl (pdv 4) (od_some (pd_op op_addA os_add (pdv 3) pd_int)) od_none))) (ma_cons (md_pure pd_int) ma_nil)))) (mss_one (ms_ret (md_pure (pdv 5)))))))))⟩
theorem ok_check_parts (T : Txt K mg a) : FnOk P w K mg base (L2.CX P w) 2 a.f_check_parts a.fd_check_parts ["value"] (spD K mg 1 F_check_parts) :=
  fnD (N := N_check_parts) (B := B_check_parts) T.F_check_parts sc_check_parts rfl fun cdv A outer s H E hr => ⟨_, sds_cons (sd_if (WD.td (wd_or (td_not (td_val (pd_isi (T := "list") (by decide) (pdv 0) rfl T.m_isinstance bt_isinstance rfl T.m_list bt_list))) (wd_or1 (td_not (td_chain op_le op_le os_le os_le pd_int (pd_callB c_len cs_len rfl T.m_len bt_len (ad_cons (pdv 0) ad_nil)) (pd_gint T.c_MAX_PARTS)))))) (sds_one (sd_raise rfl tkX T.x_InvalidParts T.g_InvalidParts T.k_InvalidParts T.bx_InvalidParts T.t_InvalidParts rfl)) sds_nil) (sds_one (sd_if (td_not (td_val (pd_callB (c_all rfl) cs_all rfl T.m_all bt_all (ad_cons (pd_lc rfl sc_check_parts.nd (id_seq (pdv 0)) (blkOk_by (own := [("part", 1)]) (N := N_check_parts) (sc := defScope s_check_parts) (by decide +kernel)) (fun _ _ _ _ _ => gd_name (gn 1 sc_check_parts.nd)) (fun _ _ _ _ _ => tds_nil) (fun _ _ _ _ _ => pd_call (ok_is_int T) (hr.mono (by decide)) rfl T.g_is_int T.F_is_int.kp T.b_is_int passL (ad_cons (pdv 1) (ad_cons (pd_gint T.c_MIN_LIGHT) (ad_cons (pd_gint T.c_MAX_LIGHT) ad_nil))))) ad_nil)))) (sds_one (sd_raise rfl tkX T.x_InvalidParts T.g_InvalidParts T.k_InvalidParts T.bx_InvalidParts T.t_InvalidParts rfl)) sds_nil))⟩
theorem ok_check_latitude (T : Txt K mg a) : FnOk P w K mg base (L2.CX P w) 2 a.f_check_latitude a.fd_check_latitude ["value"] (spD K mg 1 F_check_latitude) :=
  fnD (N := N_check_latitude) (B := B_check_latitude) T.F_check_latitude sc_check_latitude rfl fun cdv A outer s H E hr => ⟨_, sds_one (sd_if (td_not (td_val (pd_call (ok_is_int T) (hr.mono (by decide)) rfl T.g_is_int T.F_is_int.kp T.b_is_int pX (ad_cons (pdv 0) (ad_cons pd_int (ad_cons (pd_gint T.c_MAX_LATITUDE) ad_nil)))))) (sds_one (sd_raise rfl tkX T.x_InvalidNumber T.g_InvalidNumber T.k_InvalidNumber T.bx_InvalidNumber T.t_InvalidNumber rfl)) sds_nil)⟩
theorem ok_find_held (T : Txt K mg a) : FnOk P w K mg base (L2.CX P w) 2 a.f_find_held a.fd_find_held ["setting", "parts", "latitude"] (spD K mg 3 F_find_held) :=
  fnD (N := N_find_held) (B := B_find_held) T.F_find_held sc_find_held rfl fun cdv A outer s H E hr => ⟨_, sds_cons (sd_set (pd_call (ok_find_exposure T) (hr.mono (by decide)) rfl T.g_find_exposure T.F_find_exposure.kp T.b_find_exposure pX (ad_cons (pdv 0) ad_nil)) sc_find_held.nd rfl) (sds_one (sd_ret (pd_lc rfl sc_find_held.nd (id_enum rfl T.m_enumerate (ad_cons (pdv 1) ad_nil)) (blkOk_by (own := [("index", 4), ("part", 5)]) (N := N_find_held) (sc := defScope s_find_held) (by decide +kernel)) (fun _ _ _ _ _ => gd_tup rfl (gds_cons (gn 4 sc_find_held.nd) (gds_cons (gn 5 sc_find_held.nd) gds_nil))) (fun _ _ _ _ _ => tds_one (td_cmp op_le os_le (pd_callB call_abs cs_abs rfl T.m_abs bt_abs (ad_cons (pd_op op_sub os_sub (pdv 3) (pdv 5)) ad_nil)) (pdv 2))) (fun _ _ _ _ _ => pdv 4))))⟩
theorem ok_check_limits (T : Txt K mg a) : FnOk P w K mg base (L2.CX P w) 2 a.f_check_limits a.fd_check_limits ["value"] (spD K mg 1 F_check_limits) :=
  fnD (N := N_check_limits) (B := B_check_limits) T.F_check_limits sc_check_limits rfl fun cdv A outer s H E hr => ⟨_, sds_one (sd_if (WD.td (wd_or (td_not (td_val (pd_isi (T := "tuple") (by decide) (pdv 0) rfl T.m_isinstance bt_isinstance rfl T.m_tuple bt_tuple))) (wd_or (td_cmp (op_neK (hU hr)) os_ne (pd_callB c_len cs_len rfl T.m_len bt_len (ad_cons (pdv 0) ad_nil)) (pd_gint T.c_PARTS)) (wd_or1 (td_not (td_val (pd_callB (c_all rfl) cs_all rfl T.m_all bt_all (ad_cons (pd_lc rfl sc_check_limits.nd (id_seq (pdv 0)) (blkOk_by (own := [("one", 1)]) (N := N_check_limits) (sc := defScope s_check_limits) (by decide +kernel)) (fun _ _ _ _ _ => gd_name (gn 1 sc_check_limits.nd)) (fun _ _ _ _ _ => tds_nil) (fun _ _ _ _ _ => pd_call (ok_is_int T) (hr.mono (by decide)) rfl T.g_is_int T.F_is_int.kp T.b_is_int passL (ad_cons (pdv 1) (ad_cons pd_int (ad_cons (pd_gint T.c_MAX_LIMIT) ad_nil))))) ad_nil)))))))) (sds_one (sd_raise rfl tkX T.x_InvalidLimits T.g_InvalidLimits T.k_InvalidLimits T.bx_InvalidLimits T.t_InvalidLimits rfl)) sds_nil)⟩
theorem ok_law_camera (T : Txt K mg a) : FnOk P w K mg base (L2.CX P w) 2 a.f_law_camera a.fd_law_camera ["script", "at"] (spD K mg 2 F_law_camera) :=
  fnD (N := N_law_camera) (B := B_law_camera) T.F_law_camera sc_law_camera rfl fun cdv A outer s H E hr => ⟨_, sds_cons (sd_ownL ad_nil sc_law_camera.nd rfl) (sds_cons (sd_forI poX rfl (id_range1 rfl T.m_range (ad_cons pd_int ad_nil)) (gd_name (gn 3 sc_law_camera.nd)) (sds_cons (sd_p2 (i := 4) (j := 5) sc_law_camera.nd (zd_d (pd_call (ok_law_drawn T) (hr.mono (by decide)) rfl T.g_law_drawn T.F_law_drawn.kp T.b_law_drawn pX (ad_cons (pdv 0) (ad_cons (pd_op op_addA os_add (pdv 1) (pd_op op_mul os_mulI pd_int (pdv 3))) (ad_cons pd_int ad_nil)))) (zd_d (pd_op op_addA os_add pd_int (pd_call (ok_law_drawn T) (hr.mono (by decide)) rfl T.g_law_drawn T.F_law_drawn.kp T.b_law_drawn pX (ad_cons (pdv 0) (ad_cons (pd_op op_addA os_add (pd_op op_addA os_add (pdv 1) pd_int) (pd_op op_mul os_mulI pd_int (pdv 3))) (ad_cons pd_int ad_nil))))) zd_nil))) (sds_cons (sd_set (pd_op op_addA os_add (pd_op op_addA os_add (pdv 4) (pd_op op_mul os_mulI (pdv 5) (pd_call (ok_law_drawn T) (hr.mono (by decide)) rfl T.g_law_drawn T.F_law_drawn.kp T.b_law_drawn pX (ad_cons (pdv 0) (ad_cons (pd_op op_addA os_add (pd_op op_addA os_add (pdv 1) pd_int) (pd_op op_mul os_mulI pd_int (pdv 3))) (ad_cons pd_int ad_nil)))))) (pd_call (ok_law_drawn T) (hr.mono (by decide)) rfl T.g_law_drawn T.F_law_drawn.kp T.b_law_drawn pX (ad_cons (pdv 0) (ad_cons (pd_op op_addA os_add (pd_op op_addA os_add (pdv 1) pd_int) (pdv 3)) (ad_cons (pdv 5) ad_nil))))) sc_law_camera.nd rfl) (sds_one (sd_app' false (pv 2) (pd_tup (ad_cons (pdv 4) (ad_cons (pdv 6) (ad_cons (pdv 5) ad_nil))))))))) (sds_one (sd_frz [2] (sd_ret (pd_callTy c_tup cs_tupOf rfl T.m_tuple bt_tuple (ad_cons (pdv 2) ad_nil))))))⟩
theorem ok_law_light (T : Txt K mg a) : FnOk P w K mg base (L2.CX P w) 2 a.f_law_light a.fd_law_light ["script", "at", "camera"] (spD K mg 3 F_law_light) :=
  fnD (N := N_law_light) (B := B_law_light) T.F_law_light sc_law_light rfl fun cdv A outer s H E hr => ⟨_, sds_cons (sd_set (pd_call (ok_law_settings T) (hr.mono (by decide)) rfl T.g_law_settings T.F_law_settings.kp T.b_law_settings pX (ad_cons (pdv 2) ad_nil)) sc_law_light.nd rfl) (sds_cons (sd_set (pd_call (ok_law_number T) (hr.mono (by decide)) rfl T.g_law_number T.F_law_number.kp T.b_law_number pX (ad_cons (pd_ix ix_A os_ix (pdv 3) (pd_call (ok_law_drawn T) (hr.mono (by decide)) rfl T.g_law_drawn T.F_law_drawn.kp T.b_law_drawn pX (ad_cons (pdv 0) (ad_cons (pdv 1) (ad_cons (pd_callB c_len cs_len rfl T.m_len bt_len (ad_cons (pdv 3) ad_nil)) ad_nil))))) ad_nil)) sc_law_light.nd rfl) (sds_one (sd_ret (pd_op op_addA os_add (pdv 4) (pd_ix ix_A os_ix (pd_lst (ad_cons pd_int (ad_cons pd_int (ad_cons pd_int (ad_cons (pd_op op_sub os_sub (pd_call (ok_law_drawn T) (hr.mono (by decide)) rfl T.g_law_drawn T.F_law_drawn.kp T.b_law_drawn pX (ad_cons (pdv 0) (ad_cons (pd_op op_addA os_add (pdv 1) pd_int) (ad_cons pd_int ad_nil)))) pd_int) ad_nil))))) (pd_call (ok_law_drawn T) (hr.mono (by decide)) rfl T.g_law_drawn T.F_law_drawn.kp T.b_law_drawn pX (ad_cons (pdv 0) (ad_cons (pd_op op_addA os_add (pdv 1) pd_int) (ad_cons pd_int ad_nil)))))))))⟩
theorem ok_M_find_held (T : Txt K mg a) : FnOk P w K mg base (L2.CX P w) 2 a.f_M_find_held a.fd_M_find_held ["setting", "parts", "latitude"] (spM K mg a.C_Hand 3 F_M_find_held) :=
  fnMk (N := N_M_find_held) (B := B_M_find_held) T.F_M_find_held sc_M_find_held rfl fun cdv A outer s H E hr => ⟨_, mss_cons (ms_set (md_pure (pd_call (ok_find_exposure T) (hr.mono (by decide)) rfl T.g_find_exposure T.F_find_exposure.kp T.b_find_exposure pX (ad_cons (pdv 0) ad_nil))) sc_M_find_held.nd rfl) (mss_one (ms_ret (md_lcN (E1 := E) rfl sc_M_find_held.nd (id_enum rfl T.m_enumerate (ad_cons (pdv 1) ad_nil)) (blkOk_by (own := [("index", 4), ("part", 5)]) (N := N_M_find_held) (sc := defScope s_M_find_held) (by decide +kernel)) (fun _ _ _ _ _ => gd_tup rfl (gds_cons (gn 4 sc_M_find_held.nd) (gds_cons (gn 5 sc_M_find_held.nd) gds_nil))) (fun _ _ _ _ _ => tds_one (td_cmp op_le os_le (pd_callB call_abs cs_abs rfl T.m_abs bt_abs (ad_cons (pd_op op_sub os_sub (pdv 3) (pdv 5)) ad_nil)) (pdv 2))) (fun _ _ _ _ _ => pdv 4))))⟩
theorem ok_is_camera (T : Txt K mg a) : FnOk P w K mg base (L2.CX P w) 3 a.f_is_camera a.fd_is_camera ["candidate"] (spD K mg 1 F_is_camera) :=
  fnD (N := N_is_camera) (B := B_is_camera) T.F_is_camera sc_is_camera rfl fun cdv A outer s H E hr => ⟨_, sds_cons (sd_if (WD.td (wd_or (td_not (td_val (pd_isi (T := "tuple") (by decide) (pdv 0) rfl T.m_isinstance bt_isinstance rfl T.m_tuple bt_tuple))) (wd_or1 (td_cmp (op_neK (hU hr)) os_ne (pd_callB c_len cs_len rfl T.m_len bt_len (ad_cons (pdv 0) ad_nil)) (pd_callB c_len cs_len rfl T.m_len bt_len (ad_cons (pd_gref T.c_NAMES T.d_NAMES) ad_nil)))))) (sds_one (sd_ret pd_bl)) sds_nil) (sds_one (sd_ret (pd_callB (c_all rfl) cs_all rfl T.m_all bt_all (ad_cons (pd_lc rfl sc_is_camera.nd (id_seq (pdv 0)) (blkOk_by (own := [("wheel", 1)]) (N := N_is_camera) (sc := defScope s_is_camera) (by decide +kernel)) (fun _ _ _ _ _ => gd_name (gn 1 sc_is_camera.nd)) (fun _ _ _ _ _ => tds_nil) (fun _ _ _ _ _ => pd_call (ok_is_wheel T) (hr.mono (by decide)) rfl T.g_is_wheel T.F_is_wheel.kp T.b_is_wheel passL (ad_cons (pdv 1) ad_nil))) ad_nil))))⟩
theorem ok_check_setting (T : Txt K mg a) : FnOk P w K mg base (L2.CX P w) 3 a.f_check_setting a.fd_check_setting ["camera", "value"] (spD K mg 2 F_check_setting) :=
  fnD (N := N_check_setting) (B := B_check_setting) T.F_check_setting sc_check_setting rfl fun cdv A outer s H E hr => ⟨_, sds_one (sd_if (td_not (td_val (pd_call (ok_has_setting T) (hr.mono (by decide)) rfl T.g_has_setting T.F_has_setting.kp T.b_has_setting pX (ad_cons (pdv 0) (ad_cons (pdv 1) ad_nil))))) (sds_one (sd_raise rfl tkX T.x_InvalidSetting T.g_InvalidSetting T.k_InvalidSetting T.bx_InvalidSetting T.t_InvalidSetting rfl)) sds_nil)⟩
theorem ok_find_right (T : Txt K mg a) : FnOk P w K mg base (L2.CX P w) 3 a.f_find_right a.fd_find_right ["camera", "brightness"] (spD K mg 2 F_find_right) :=
  fnD (N := N_find_right) (B := B_find_right) T.F_find_right sc_find_right rfl fun cdv A outer s H E hr => ⟨_, sds_one (sd_ret (pd_lc rfl sc_find_right.nd (id_seq (pd_call (ok_all_settings T) (hr.mono (by decide)) rfl T.g_all_settings T.F_all_settings.kp T.b_all_settings pX (ad_cons (pdv 0) ad_nil))) (blkOk_by (own := [("setting", 2)]) (N := N_find_right) (sc := defScope s_find_right) (by decide +kernel)) (fun _ _ _ _ _ => gd_name (gn 2 sc_find_right.nd)) (fun _ _ _ _ _ => tds_one (td_cmp (op_eqK (hU hr)) os_eq (pd_call (ok_find_exposure T) (hr.mono (by decide)) rfl T.g_find_exposure T.F_find_exposure.kp T.b_find_exposure passL (ad_cons (pdv 2) ad_nil)) (pdv 1))) (fun _ _ _ _ _ => pdv 2)))⟩
theorem ok_check_camera (T : Txt K mg a) : FnOk P w K mg base (L2.CX P w) 4 a.f_check_camera a.fd_check_camera ["value"] (spD K mg 1 F_check_camera) :=
  fnD (N := N_check_camera) (B := B_check_camera) T.F_check_camera sc_check_camera rfl fun cdv A outer s H E hr => ⟨_, sds_one (sd_if (td_not (td_val (pd_call (ok_is_camera T) (hr.mono (by decide)) rfl T.g_is_camera T.F_is_camera.kp T.b_is_camera pX (ad_cons (pdv 0) ad_nil)))) (sds_one (sd_raise rfl tkX T.x_InvalidCamera T.g_InvalidCamera T.k_InvalidCamera T.bx_InvalidCamera T.t_InvalidCamera rfl)) sds_nil)⟩
theorem ok_find_plans (T : Txt K mg a) : FnOk P w K mg base (L2.CX P w) 4 a.f_find_plans a.fd_find_plans ["camera", "parts"] (spD K mg 2 F_find_plans) :=
  fnD (N := N_find_plans) (B := B_find_plans) T.F_find_plans sc_find_plans rfl fun cdv A outer s H E hr => ⟨_, sds_cons (sd_set (pd_lst ad_nil) sc_find_plans.nd rfl) (sds_cons (sd_forI poX rfl (id_enum rfl T.m_enumerate (ad_cons (pd_rev (pdv 1)) ad_nil)) (gd_tup rfl (gds_cons (gn 3 sc_find_plans.nd) (gds_cons (gn 4 sc_find_plans.nd) gds_nil))) (sds_cons (sd_set (pd_lst ad_nil) sc_find_plans.nd rfl) (sds_cons (sd_forI poX rfl (id_seq (pd_call (ok_find_right T) (hr.mono (by decide)) rfl T.g_find_right T.F_find_right.kp T.b_find_right pX (ad_cons (pdv 0) (ad_cons (pdv 4) ad_nil)))) (gd_name (gn 6 sc_find_plans.nd)) (sds_cons (sd_setLc rfl sc_find_plans.nd rfl rfl (sw_true rfl rfl rfl (by decide +kernel)) (id_seq (pdv 2)) (blkOk_by (own := [("many", 8), ("plan", 9)]) (N := N_find_plans) (sc := defScope s_find_plans) (by decide +kernel)) (fun _ _ _ _ _ => gd_tup rfl (gds_cons (gn 8 sc_find_plans.nd) (gds_cons (gn 9 sc_find_plans.nd) gds_nil))) (fun _ _ _ _ _ => tds_nil) (fun _ _ _ _ _ => pd_tup (ad_cons (pd_op op_addA os_add (pdv 8) (pd_call (ok_count_clicks T) (hr.mono (by decide)) rfl T.g_count_clicks T.F_count_clicks.kp T.b_count_clicks passL (ad_cons (pdv 0) (ad_cons (pdv 6) (ad_cons (pd_ix ix_A os_ix (pdv 9) pd_int) ad_nil))))) (ad_cons (pd_op op_addA os_add (pd_tup (ad_cons (pdv 6) ad_nil)) (pdv 9)) ad_nil)))) (sds_cons (sd_if (td_cmp (op_eqK (hU hr)) os_eq (pdv 3) pd_int) (sds_one (sd_set (pd_lst (ad_cons (pd_tup (ad_cons pd_int (ad_cons (pd_tup (ad_cons (pdv 6) ad_nil)) ad_nil))) ad_nil)) sc_find_plans.nd rfl)) sds_nil) (sds_one (sd_set (pd_op op_addA os_add (pdv 5) (pd_if (td_cmp (op_neK (hU hr)) os_ne (pdv 7) (pd_lst ad_nil)) (pd_lst (ad_cons (pd_callB (c_minD rfl (hV hr)) cs_minD rfl T.m_min bt_min (ad_cons (pdv 7) ad_nil)) ad_nil)) (pd_lst ad_nil))) sc_find_plans.nd rfl))))) (sds_one (sd_set (pdv 5) sc_find_plans.nd rfl))))) (sds_one (sd_ret (pdv 2))))⟩
theorem ok_check_both (T : Txt K mg a) : FnOk P w K mg base (L2.CX P w) 5 a.f_check_both a.fd_check_both ["camera", "brightness"] (spD K mg 2 F_check_both) :=
  fnD (N := N_check_both) (B := B_check_both) T.F_check_both sc_check_both rfl fun cdv A outer s H E hr => ⟨_, sds_cons (sd_expr (pd_call (ok_check_camera T) (hr.mono (by decide)) rfl T.g_check_camera T.F_check_camera.kp T.b_check_camera pX (ad_cons (pdv 0) ad_nil))) (sds_one (sd_expr (pd_call (ok_check_light T) (hr.mono (by decide)) rfl T.g_check_light T.F_check_light.kp T.b_check_light pX (ad_cons (pdv 1) ad_nil))))⟩
theorem ok_Hand_init (T : Txt K mg a) : FnOk P w K mg base (L2.CX P w) 5 a.f_Hand_init a.fd_Hand_init ["self", "camera"] (spM K mg a.C_Hand 2 F_Hand_init) :=
  fnMk (N := N_Hand_init) (B := B_Hand_init) T.F_Hand_init sc_Hand_init rfl fun cdv A outer s H E hr => ⟨_, mss_cons (ms_expr (md_pure (pd_call (ok_check_camera T) (hr.mono (by decide)) rfl T.g_check_camera T.F_check_camera.kp T.b_check_camera pX (ad_cons (pdv 1) ad_nil)))) (mss_cons (ms_fld (md_var 0 (pv 0)) (md_pure (pdv 1)) T.cls T.na_camera) (mss_cons (ms_fld (md_var 0 (pv 0)) (md_pure (pd_tup (ad_cons (pd_callTy c_tup cs_tupOf rfl T.m_tuple bt_tuple (ad_cons (pd_lc rfl sc_Hand_init.nd (id_seq (pdv 1)) (blkOk_by (own := [("wheel", 2)]) (N := N_Hand_init) (sc := defScope s_Hand_init) (by decide +kernel)) (fun _ _ _ _ _ => gd_name (gn 2 sc_Hand_init.nd)) (fun _ _ _ _ _ => tds_nil) (fun _ _ _ _ _ => pd_ix ix_A os_ix (pdv 2) pd_int)) ad_nil)) (ad_cons pd_str ad_nil)))) T.cls T.na_present) (mss_cons (ms_fld (md_var 0 (pv 0)) (md_newL ma_nil) T.cls T.na_done) (mss_one (ms_fld (md_var 0 (pv 0)) (md_newL ma_nil) T.cls T.na_undone)))))⟩
theorem ok_held (T : Txt K mg a) : FnOk P w K mg base (L2.CX P w) 5 a.f_held a.fd_held ["camera", "setting", "parts", "latitude"] (spD K mg 4 F_held) :=
  fnD (N := N_held) (B := B_held) T.F_held sc_held rfl fun cdv A outer s H E hr => ⟨_, sds_cons (sd_expr (pd_call (ok_check_camera T) (hr.mono (by decide)) rfl T.g_check_camera T.F_check_camera.kp T.b_check_camera pX (ad_cons (pdv 0) ad_nil))) (sds_cons (sd_expr (pd_call (ok_check_setting T) (hr.mono (by decide)) rfl T.g_check_setting T.F_check_setting.kp T.b_check_setting pX (ad_cons (pdv 0) (ad_cons (pdv 1) ad_nil)))) (sds_cons (sd_expr (pd_call (ok_check_parts T) (hr.mono (by decide)) rfl T.g_check_parts T.F_check_parts.kp T.b_check_parts pX (ad_cons (pdv 2) ad_nil))) (sds_cons (sd_expr (pd_call (ok_check_latitude T) (hr.mono (by decide)) rfl T.g_check_latitude T.F_check_latitude.kp T.b_check_latitude pX (ad_cons (pdv 3) ad_nil))) (sds_one (sd_ret (pd_call (ok_find_held T) (hr.mono (by decide)) rfl T.g_find_held T.F_find_held.kp T.b_find_held pX (ad_cons (pdv 1) (ad_cons (pdv 2) (ad_cons (pdv 3) ad_nil)))))))))⟩
theorem ok_find_best (T : Txt K mg a) : FnOk P w K mg base (L2.CX P w) 5 a.f_find_best a.fd_find_best ["camera", "parts", "latitude"] (spD K mg 3 F_find_best) :=
  fnD (N := N_find_best) (B := B_find_best) T.F_find_best sc_find_best rfl fun cdv A outer s H E hr => ⟨_, sds_cons (sd_expr (pd_call (ok_check_camera T) (hr.mono (by decide)) rfl T.g_check_camera T.F_check_camera.kp T.b_check_camera pX (ad_cons (pdv 0) ad_nil))) (sds_cons (sd_expr (pd_call (ok_check_parts T) (hr.mono (by decide)) rfl T.g_check_parts T.F_check_parts.kp T.b_check_parts pX (ad_cons (pdv 1) ad_nil))) (sds_cons (sd_expr (pd_call (ok_check_latitude T) (hr.mono (by decide)) rfl T.g_check_latitude T.F_check_latitude.kp T.b_check_latitude pX (ad_cons (pdv 2) ad_nil))) (sds_one (sd_ret (pd_callB (c_minD rfl (hV hr)) cs_minD rfl T.m_min bt_min (ad_cons (pd_lc rfl sc_find_best.nd (id_seq (pd_call (ok_all_settings T) (hr.mono (by decide)) rfl T.g_all_settings T.F_all_settings.kp T.b_all_settings pX (ad_cons (pdv 0) ad_nil))) (blkOk_by (own := [("setting", 3)]) (N := N_find_best) (sc := defScope s_find_best) (by decide +kernel)) (fun _ _ _ _ _ => gd_name (gn 3 sc_find_best.nd)) (fun _ _ _ _ _ => tds_nil) (fun _ _ _ _ _ => pd_tup (ad_cons (pd_op op_sub os_sub pd_int (pd_callB c_len cs_len rfl T.m_len bt_len (ad_cons (pd_call (ok_find_held T) (hr.mono (by decide)) rfl T.g_find_held T.F_find_held.kp T.b_find_held passL (ad_cons (pdv 3) (ad_cons (pdv 1) (ad_cons (pdv 2) ad_nil)))) ad_nil))) (ad_cons (pdv 3) ad_nil)))) ad_nil))))))⟩
theorem ok_least_latitude (T : Txt K mg a) : FnOk P w K mg base (L2.CX P w) 5 a.f_least_latitude a.fd_least_latitude ["camera", "parts"] (spD K mg 2 F_least_latitude) :=
  fnD (N := N_least_latitude) (B := B_least_latitude) T.F_least_latitude sc_least_latitude rfl fun cdv A outer s H E hr => ⟨_, sds_cons (sd_expr (pd_call (ok_check_camera T) (hr.mono (by decide)) rfl T.g_check_camera T.F_check_camera.kp T.b_check_camera pX (ad_cons (pdv 0) ad_nil))) (sds_cons (sd_expr (pd_call (ok_check_parts T) (hr.mono (by decide)) rfl T.g_check_parts T.F_check_parts.kp T.b_check_parts pX (ad_cons (pdv 1) ad_nil))) (sds_cons (sd_ownL ad_nil sc_least_latitude.nd rfl) (sds_cons (sd_forI poX rfl (id_seq (pd_call (ok_all_settings T) (hr.mono (by decide)) rfl T.g_all_settings T.F_all_settings.kp T.b_all_settings pX (ad_cons (pdv 0) ad_nil))) (gd_name (gn 3 sc_least_latitude.nd)) (sds_cons (sd_set (pd_call (ok_find_exposure T) (hr.mono (by decide)) rfl T.g_find_exposure T.F_find_exposure.kp T.b_find_exposure pX (ad_cons (pdv 3) ad_nil)) sc_least_latitude.nd rfl) (sds_one (sd_app' false (pv 2) (pd_callB (c_max rfl) cs_maxL rfl T.m_max bt_max (ad_cons (pd_lc rfl sc_least_latitude.nd (id_seq (pdv 1)) (blkOk_by (own := [("part", 5)]) (N := N_least_latitude) (sc := defScope s_least_latitude) (by decide +kernel)) (fun _ _ _ _ _ => gd_name (gn 5 sc_least_latitude.nd)) (fun _ _ _ _ _ => tds_nil) (fun _ _ _ _ _ => pd_callB call_abs cs_abs rfl T.m_abs bt_abs (ad_cons (pd_op op_sub os_sub (pdv 4) (pdv 5)) ad_nil))) ad_nil)))))) (sds_one (sd_frz [2] (sd_ret (pd_if (td_cmp op_le os_le (pd_callB (c_min rfl) cs_minL rfl T.m_min bt_min (ad_cons (pdv 2) ad_nil)) (pd_gint T.c_MAX_LATITUDE)) (pd_callB (c_min rfl) cs_minL rfl T.m_min bt_min (ad_cons (pdv 2) ad_nil)) pd_non)))))))⟩
theorem ok_check_row (T : Txt K mg a) : FnOk P w K mg base (L2.CX P w) 5 a.f_check_row a.fd_check_row ["camera", "parts"] (spD K mg 2 F_check_row) :=
  fnD (N := N_check_row) (B := B_check_row) T.F_check_row sc_check_row rfl fun cdv A outer s H E hr => ⟨_, sds_cons (sd_expr (pd_call (ok_check_camera T) (hr.mono (by decide)) rfl T.g_check_camera T.F_check_camera.kp T.b_check_camera pX (ad_cons (pdv 0) ad_nil))) (sds_one (sd_expr (pd_call (ok_check_parts T) (hr.mono (by decide)) rfl T.g_check_parts T.F_check_parts.kp T.b_check_parts pX (ad_cons (pdv 1) ad_nil))))⟩
theorem ok_find_row (T : Txt K mg a) : FnOk P w K mg base (L2.CX P w) 5 a.f_find_row a.fd_find_row ["camera", "parts"] (spD K mg 2 F_find_row) :=
  fnD (N := N_find_row) (B := B_find_row) T.F_find_row sc_find_row rfl fun cdv A outer s H E hr => ⟨_, sds_cons (sd_set (pd_call (ok_find_plans T) (hr.mono (by decide)) rfl T.g_find_plans T.F_find_plans.kp T.b_find_plans pX (ad_cons (pdv 0) (ad_cons (pdv 1) ad_nil))) sc_find_row.nd rfl) (sds_one (sd_ret (pd_if (td_cmp (op_neK (hU hr)) os_ne (pdv 2) (pd_lst ad_nil)) (pd_callB (c_minD rfl (hV hr)) cs_minD rfl T.m_min bt_min (ad_cons (pdv 2) ad_nil)) pd_non)))⟩
theorem ok_M_held (T : Txt K mg a) : FnOk P w K mg base (L2.CX P w) 5 a.f_M_held a.fd_M_held ["camera", "setting", "parts", "latitude"] (spM K mg a.C_Hand 4 F_M_held) :=
  fnMk (N := N_M_held) (B := B_M_held) T.F_M_held sc_M_held rfl fun cdv A outer s H E hr => ⟨_, mss_cons (ms_expr (md_pure (pd_call (ok_check_camera T) (hr.mono (by decide)) rfl T.g_check_camera T.F_check_camera.kp T.b_check_camera pX (ad_cons (pdv 0) ad_nil)))) (mss_cons (ms_expr (md_pure (pd_call (ok_check_setting T) (hr.mono (by decide)) rfl T.g_check_setting T.F_check_setting.kp T.b_check_setting pX (ad_cons (pdv 0) (ad_cons (pdv 1) ad_nil))))) (mss_cons (ms_expr (md_pure (pd_call (ok_check_parts T) (hr.mono (by decide)) rfl T.g_check_parts T.F_check_parts.kp T.b_check_parts pX (ad_cons (pdv 2) ad_nil)))) (mss_cons (ms_expr (md_pure (pd_call (ok_check_latitude T) (hr.mono (by decide)) rfl T.g_check_latitude T.F_check_latitude.kp T.b_check_latitude pX (ad_cons (pdv 3) ad_nil)))) (mss_one (ms_ret (md_call (ok_M_find_held T) (hr.mono (by decide)) rfl T.g_M_find_held T.F_M_find_held.kp T.b_M_find_held pXM (ma_cons (md_pure (pdv 1)) (ma_cons (md_pure (pdv 2)) (ma_cons (md_pure (pdv 3)) ma_nil)))))))))⟩
theorem ok_best_setting (T : Txt K mg a) : FnOk P w K mg base (L2.CX P w) 6 a.f_best_setting a.fd_best_setting ["camera", "parts", "latitude"] (spD K mg 3 F_best_setting) :=
  fnD (N := N_best_setting) (B := B_best_setting) T.F_best_setting sc_best_setting rfl fun cdv A outer s H E hr => ⟨_, sds_one (sd_ret (pd_ix ix_A os_ix (pd_call (ok_find_best T) (hr.mono (by decide)) rfl T.g_find_best T.F_find_best.kp T.b_find_best pX (ad_cons (pdv 0) (ad_cons (pdv 1) (ad_cons (pdv 2) ad_nil)))) pd_int))⟩
theorem ok_find_lacks (T : Txt K mg a) : FnOk P w K mg base (L2.CX P w) 6 a.f_find_lacks a.fd_find_lacks ["camera", "limits", "brightness"] (spD K mg 3 F_find_lacks) :=
  fnD (N := N_find_lacks) (B := B_find_lacks) T.F_find_lacks sc_find_lacks rfl fun cdv A outer s H E hr => ⟨_, sds_cons (sd_expr (pd_call (ok_check_camera T) (hr.mono (by decide)) rfl T.g_check_camera T.F_check_camera.kp T.b_check_camera pX (ad_cons (pdv 0) ad_nil))) (sds_cons (sd_expr (pd_call (ok_check_limits T) (hr.mono (by decide)) rfl T.g_check_limits T.F_check_limits.kp T.b_check_limits pX (ad_cons (pdv 1) ad_nil))) (sds_cons (sd_expr (pd_call (ok_check_both T) (hr.mono (by decide)) rfl T.g_check_both T.F_check_both.kp T.b_check_both pX (ad_cons (pdv 0) (ad_cons (pdv 2) ad_nil)))) (sds_one (sd_ret (pd_lc rfl sc_find_lacks.nd (id_seq (pd_call (ok_find_right T) (hr.mono (by decide)) rfl T.g_find_right T.F_find_right.kp T.b_find_right pX (ad_cons (pdv 0) (ad_cons (pdv 2) ad_nil)))) (blkOk_by (own := [("setting", 3)]) (N := N_find_lacks) (sc := defScope s_find_lacks) (by decide +kernel)) (fun _ _ _ _ _ => gd_name (gn 3 sc_find_lacks.nd)) (fun _ _ _ _ _ => tds_nil) (fun _ _ _ _ _ => pd_tup (ad_cons (pd_call (ok_find_lack T) (hr.mono (by decide)) rfl T.g_find_lack T.F_find_lack.kp T.b_find_lack passL (ad_cons (pdv 3) (ad_cons (pdv 1) ad_nil))) (ad_cons (pdv 3) ad_nil))))))))⟩
theorem ok_best_row (T : Txt K mg a) : FnOk P w K mg base (L2.CX P w) 6 a.f_best_row a.fd_best_row ["camera", "parts"] (spD K mg 2 F_best_row) :=
  fnD (N := N_best_row) (B := B_best_row) T.F_best_row sc_best_row rfl fun cdv A outer s H E hr => ⟨_, sds_cons (sd_expr (pd_call (ok_check_row T) (hr.mono (by decide)) rfl T.g_check_row T.F_check_row.kp T.b_check_row pX (ad_cons (pdv 0) (ad_cons (pdv 1) ad_nil)))) (sds_cons (sd_set (pd_call (ok_find_row T) (hr.mono (by decide)) rfl T.g_find_row T.F_find_row.kp T.b_find_row pX (ad_cons (pdv 0) (ad_cons (pdv 1) ad_nil))) sc_best_row.nd rfl) (sds_one (sd_ret (pd_if (td_cmp op_isNotA os_isnot (pdv 2) pd_non) (pd_callTy c_list cs_listOf rfl T.m_list bt_list (ad_cons (pd_ix ix_A os_ix (pdv 2) pd_int) ad_nil)) pd_non))))⟩
theorem ok_best_start (T : Txt K mg a) : FnOk P w K mg base (L2.CX P w) 6 a.f_best_start a.fd_best_start ["camera", "parts"] (spD K mg 2 F_best_start) :=
  fnD (N := N_best_start) (B := B_best_start) T.F_best_start sc_best_start rfl fun cdv A outer s H E hr => ⟨_, sds_cons (sd_expr (pd_call (ok_check_row T) (hr.mono (by decide)) rfl T.g_check_row T.F_check_row.kp T.b_check_row pX (ad_cons (pdv 0) (ad_cons (pdv 1) ad_nil)))) (sds_cons (sd_if (td_cmp op_gt os_gt (pd_callB c_len cs_len rfl T.m_len bt_len (ad_cons (pdv 1) ad_nil)) (pd_gint T.c_MAX_ORDERED)) (sds_one (sd_raise rfl tkX T.x_TooLarge T.g_TooLarge T.k_TooLarge T.bx_TooLarge T.t_TooLarge rfl)) sds_nil) (sds_cons (sd_set (pd_lst ad_nil) sc_best_start.nd rfl) (sds_cons (sd_forI poX rfl (id_seq (pd_call (ok_all_orders T) (hr.mono (by decide)) rfl T.g_all_orders T.F_all_orders.kp T.b_all_orders pX (ad_cons (pd_callB c_len cs_len rfl T.m_len bt_len (ad_cons (pdv 1) ad_nil)) ad_nil))) (gd_name (gn 3 sc_best_start.nd)) (sds_cons (sd_set (pd_call (ok_find_row T) (hr.mono (by decide)) rfl T.g_find_row T.F_find_row.kp T.b_find_row pX (ad_cons (pdv 0) (ad_cons (pd_lc rfl sc_best_start.nd (id_seq (pdv 3)) (blkOk_by (own := [("index", 5)]) (N := N_best_start) (sc := defScope s_best_start) (by decide +kernel)) (fun _ _ _ _ _ => gd_name (gn 5 sc_best_start.nd)) (fun _ _ _ _ _ => tds_nil) (fun _ _ _ _ _ => pd_ix ix_A os_ix (pdv 1) (pdv 5))) ad_nil))) sc_best_start.nd rfl) (sds_one (sd_set (pd_op op_addA os_add (pdv 2) (pd_if (td_cmp op_isNotA os_isnot (pdv 4) pd_non) (pd_lst (ad_cons (pd_tup (ad_cons (pd_ix ix_A os_ix (pdv 4) pd_int) (ad_cons (pdv 3) ad_nil))) ad_nil)) (pd_lst ad_nil))) sc_best_start.nd rfl)))) (sds_one (sd_ret (pd_if (td_cmp (op_neK (hU hr)) os_ne (pdv 2) (pd_lst ad_nil)) (pd_ix ix_A os_ix (pd_callB (c_minD rfl (hV hr)) cs_minD rfl T.m_min bt_min (ad_cons (pdv 2) ad_nil)) pd_int) pd_non))))))⟩
theorem ok_M_best_row (T : Txt K mg a) : FnOk P w K mg base (L2.CX P w) 6 a.f_M_best_row a.fd_M_best_row ["camera", "parts"] (spM K mg a.C_Hand 2 F_M_best_row) :=
  fnMk (N := N_M_best_row) (B := B_M_best_row) T.F_M_best_row sc_M_best_row rfl fun cdv A outer s H E hr => ⟨_, mss_cons (ms_expr (md_pure (pd_call (ok_check_row T) (hr.mono (by decide)) rfl T.g_check_row T.F_check_row.kp T.b_check_row pX (ad_cons (pdv 0) (ad_cons (pdv 1) ad_nil))))) (mss_cons (ms_set (md_pure (pd_call (ok_find_row T) (hr.mono (by decide)) rfl T.g_find_row T.F_find_row.kp T.b_find_row pX (ad_cons (pdv 0) (ad_cons (pdv 1) ad_nil)))) sc_M_best_row.nd rfl) (mss_one (ms_ret (md_if (mt_pure (td_cmp op_isNotA os_isnot (pdv 2) pd_non)) (md_listN (E1 := E) (pd_ix ix_A os_ix (pdv 2) pd_int) rfl T.m_list) (md_pure pd_non)))))⟩
theorem ok_Hand_copy (T : Txt K mg a) : FnOk P w K mg base (L2.CX P w) 7 a.f_Hand_copy a.fd_Hand_copy ["self"] (spM K mg a.C_Hand 1 F_Hand_copy) :=
  fnMk (N := N_Hand_copy) (B := B_Hand_copy) T.F_Hand_copy sc_Hand_copy rfl fun cdv A outer s H E hr => ⟨_, mss_cons (ms_set (md_make T.mkc (ok_Hand_init T) (hr.mono (by decide)) rfl T.g_Hand T.b_Hand_init pXM (ma_cons (md_fld (md_var 0 (pv 0)) T.cls T.na_camera) ma_nil)) sc_Hand_copy.nd rfl) (mss_cons (ms_putF rfl (ma_cons (md_fld (md_var 0 (pv 0)) T.cls T.na_present) (ma_cons (md_copy (md_fld (md_var 0 (pv 0)) T.cls T.na_done) rfl T.m_list) (ma_cons (md_copy (md_fld (md_var 0 (pv 0)) T.cls T.na_undone) rfl T.m_list) ma_nil))) T.cls (.cons (pv 1) T.na_present (.cons (pv 1) T.na_done (.cons (pv 1) T.na_undone .nil rfl) rfl) rfl)) (mss_one (ms_ret (md_var 1 (pv 1)))))⟩
theorem ok_allowed (T : Txt K mg a) : FnOk P w K mg base (L2.CX P w) 7 a.f_allowed a.fd_allowed ["camera", "limits", "brightness"] (spD K mg 3 F_allowed) :=
  fnD (N := N_allowed) (B := B_allowed) T.F_allowed sc_allowed rfl fun cdv A outer s H E hr => ⟨_, sds_one (sd_ret (pd_lc rfl sc_allowed.nd (id_seq (pd_call (ok_find_lacks T) (hr.mono (by decide)) rfl T.g_find_lacks T.F_find_lacks.kp T.b_find_lacks pX (ad_cons (pdv 0) (ad_cons (pdv 1) (ad_cons (pdv 2) ad_nil))))) (blkOk_by (own := [("many", 3), ("setting", 4)]) (N := N_allowed) (sc := defScope s_allowed) (by decide +kernel)) (fun _ _ _ _ _ => gd_tup rfl (gds_cons (gn 3 sc_allowed.nd) (gds_cons (gn 4 sc_allowed.nd) gds_nil))) (fun _ _ _ _ _ => tds_one (td_cmp (op_eqK (hU hr)) os_eq (pdv 3) pd_int)) (fun _ _ _ _ _ => pdv 4)))⟩
theorem ok_M_allowed (T : Txt K mg a) : FnOk P w K mg base (L2.CX P w) 7 a.f_M_allowed a.fd_M_allowed ["camera", "limits", "brightness"] (spM K mg a.C_Hand 3 F_M_allowed) :=
  fnMk (N := N_M_allowed) (B := B_M_allowed) T.F_M_allowed sc_M_allowed rfl fun cdv A outer s H E hr => ⟨_, mss_one (ms_ret (md_lcN (E1 := E) rfl sc_M_allowed.nd (id_seq (pd_call (ok_find_lacks T) (hr.mono (by decide)) rfl T.g_find_lacks T.F_find_lacks.kp T.b_find_lacks pX (ad_cons (pdv 0) (ad_cons (pdv 1) (ad_cons (pdv 2) ad_nil))))) (blkOk_by (own := [("many", 3), ("setting", 4)]) (N := N_M_allowed) (sc := defScope s_M_allowed) (by decide +kernel)) (fun _ _ _ _ _ => gd_tup rfl (gds_cons (gn 3 sc_M_allowed.nd) (gds_cons (gn 4 sc_M_allowed.nd) gds_nil))) (fun _ _ _ _ _ => tds_one (td_cmp (op_eqK (hU hr)) os_eq (pdv 3) pd_int)) (fun _ _ _ _ _ => pdv 4)))⟩
theorem ok_law_lists (T : Txt K mg a) : FnOk P w K mg base (L2.CX P w) 8 a.f_law_lists a.fd_law_lists ["camera", "parts"] (spD K mg 2 F_law_lists) :=
  fnD (N := N_law_lists) (B := B_law_lists) T.F_law_lists sc_law_lists rfl fun cdv A outer s H E hr => ⟨_, sds_cons (sd_set (pd_callTy c_tup cs_tupOf rfl T.m_tuple bt_tuple (ad_cons (pd_lc rfl sc_law_lists.nd (id_seq (pdv 0)) (blkOk_by (own := [("wheel", 4)]) (N := N_law_lists) (sc := defScope s_law_lists) (by decide +kernel)) (fun _ _ _ _ _ => gd_name (gn 4 sc_law_lists.nd)) (fun _ _ _ _ _ => tds_nil) (fun _ _ _ _ _ => pd_ix ix_A os_ix (pdv 4) pd_int)) ad_nil)) sc_law_lists.nd rfl) (sds_cons (sd_set (pd_call (ok_law_number T) (hr.mono (by decide)) rfl T.g_law_number T.F_law_number.kp T.b_law_number pX (ad_cons (pdv 2) ad_nil)) sc_law_lists.nd rfl) (sds_one (sd_ret (pd_lst (ad_cons (pd_call (ok_allowed T) (hr.mono (by decide)) rfl T.g_allowed T.F_allowed.kp T.b_allowed pX (ad_cons (pdv 0) (ad_cons (pd_tup (ad_cons pd_int (ad_cons pd_int (ad_cons pd_int ad_nil)))) (ad_cons (pdv 3) ad_nil)))) (ad_cons (pd_call (ok_held T) (hr.mono (by decide)) rfl T.g_held T.F_held.kp T.b_held pX (ad_cons (pdv 0) (ad_cons (pdv 2) (ad_cons (pdv 1) (ad_cons pd_int ad_nil))))) (ad_cons (pd_call (ok_best_row T) (hr.mono (by decide)) rfl T.g_best_row T.F_best_row.kp T.b_best_row pX (ad_cons (pdv 0) (ad_cons (pd_lst (ad_cons (pdv 3) (ad_cons (pdv 3) ad_nil))) ad_nil))) ad_nil)))))))⟩
theorem ok_M__law_lists (T : Txt K mg a) : FnOk P w K mg base (L2.CX P w) 8 a.f_M__law_lists a.fd_M__law_lists ["camera", "parts"] (spM K mg a.C_Hand 2 F_M__law_lists) :=
  fnMk (N := N_M__law_lists) (B := B_M__law_lists) T.F_M__law_lists sc_M__law_lists rfl fun cdv A outer s H E hr => ⟨_, mss_cons (ms_set (md_pure (pd_callTy c_tup cs_tupOf rfl T.m_tuple bt_tuple (ad_cons (pd_lc rfl sc_M__law_lists.nd (id_seq (pdv 0)) (blkOk_by (own := [("wheel", 4)]) (N := N_M__law_lists) (sc := defScope s_M__law_lists) (by decide +kernel)) (fun _ _ _ _ _ => gd_name (gn 4 sc_M__law_lists.nd)) (fun _ _ _ _ _ => tds_nil) (fun _ _ _ _ _ => pd_ix ix_A os_ix (pdv 4) pd_int)) ad_nil))) sc_M__law_lists.nd rfl) (mss_cons (ms_set (md_pure (pd_call (ok_law_number T) (hr.mono (by decide)) rfl T.g_law_number T.F_law_number.kp T.b_law_number pX (ad_cons (pdv 2) ad_nil))) sc_M__law_lists.nd rfl) (mss_one (ms_ret (md_lsi (ma_cons (md_call (ok_M_allowed T) (hr.mono (by decide)) rfl T.g_M_allowed T.F_M_allowed.kp T.b_M_allowed pXM (ma_cons (md_pure (pdv 0)) (ma_cons (md_pure (pd_tup (ad_cons pd_int (ad_cons pd_int (ad_cons pd_int ad_nil))))) (ma_cons (md_pure (pdv 3)) ma_nil)))) (ma_cons (md_call (ok_M_held T) (hr.mono (by decide)) rfl T.g_M_held T.F_M_held.kp T.b_M_held pXM (ma_cons (md_pure (pdv 0)) (ma_cons (md_pure (pdv 2)) (ma_cons (md_pure (pdv 1)) (ma_cons (md_pure pd_int) ma_nil))))) (ma_cons (md_call (ok_M_best_row T) (hr.mono (by decide)) rfl T.g_M_best_row T.F_M_best_row.kp T.b_M_best_row pXM (ma_cons (md_pure (pdv 0)) (ma_cons (md_pure (pd_lst (ad_cons (pdv 3) (ad_cons (pdv 3) ad_nil)))) ma_nil))) ma_nil)))))))⟩
theorem ok_law (T : Txt K mg a) : FnOk P w K mg base (L2.CX P w) 9 a.f_law a.fd_law ["script"] (spM K mg a.C_Hand 1 F_law) :=
  fnMk (N := N_law) (B := B_law) T.F_law sc_law rfl fun cdv A outer s H E hr => ⟨_, mss_cons (ms_set (md_pure (pd_call (ok_law_camera T) (hr.mono (by decide)) rfl T.g_law_camera T.F_law_camera.kp T.b_law_camera pX (ad_cons (pdv 0) (ad_cons pd_int ad_nil)))) sc_law.nd rfl) (mss_cons (ms_setLc (E1 := E) rfl sc_law.nd rfl rfl (sw_true rfl rfl rfl (by decide +kernel)) (id_range1 rfl T.m_range (ad_cons (pd_op op_addA os_add pd_int (pd_call (ok_law_drawn T) (hr.mono (by decide)) rfl T.g_law_drawn T.F_law_drawn.kp T.b_law_drawn pX (ad_cons (pdv 0) (ad_cons pd_int (ad_cons pd_int ad_nil))))) ad_nil)) (blkOk_by (own := [("k", 9)]) (N := N_law) (sc := defScope s_law) (by decide +kernel)) (fun _ _ _ _ _ => gd_name (gn 9 sc_law.nd)) (fun _ _ _ _ _ => tds_nil) (fun _ _ _ _ _ => pd_call (ok_law_light T) (hr.mono (by decide)) rfl T.g_law_light T.F_law_light.kp T.b_law_light passL (ad_cons (pdv 0) (ad_cons (pd_op op_addA os_add pd_int (pd_op op_mul os_mulI pd_int (pdv 9))) (ad_cons (pdv 1) ad_nil))))) (mss_cons (ms_p2 (i := 3) (j := 4) sc_law.nd (ma_cons (md_pure (pd_callTy c_list cs_listOf rfl T.m_list bt_list (ad_cons (pdv 2) ad_nil))) (ma_cons (md_pure (pd_lc rfl sc_law.nd (id_seq (pd_call (ok_law_lists T) (hr.mono (by decide)) rfl T.g_law_lists T.F_law_lists.kp T.b_law_lists pX (ad_cons (pdv 1) (ad_cons (pdv 2) ad_nil)))) (blkOk_by (own := [("some", 10)]) (N := N_law) (sc := defScope s_law) (by decide +kernel)) (fun _ _ _ _ _ => gd_name (gn 10 sc_law.nd)) (fun _ _ _ _ _ => tds_nil) (fun _ _ _ _ _ => pd_callTy c_list cs_listOf rfl T.m_list bt_list (ad_cons (pdv 10) ad_nil)))) ma_nil))) (mss_cons (ms_if (mt_not (mt_val (md_call (ok_law_changed T) (hr.mono (by decide)) rfl T.g_law_changed T.F_law_changed.kp T.b_law_changed pXM (ma_cons (md_call (ok_M__law_lists T) (hr.mono (by decide)) rfl T.g_M__law_lists T.F_M__law_lists.kp T.b_M__law_lists pXM (ma_cons (md_pure (pdv 1)) (ma_cons (md_pure (pdv 2)) ma_nil))) ma_nil)))) (mss_one (ms_ret (md_pure pd_bl))) mss_nil) (mss_cons (ms_if (mt_pure (WD.td (wd_or (td_cmp (op_neK (hU hr)) os_ne (pd_call (ok_law_lists T) (hr.mono (by decide)) rfl T.g_law_lists T.F_law_lists.kp T.b_law_lists pX (ad_cons (pdv 1) (ad_cons (pdv 2) ad_nil))) (pdv 4)) (wd_or1 (td_cmp (op_neK (hU hr)) os_ne (pdv 2) (pdv 3)))))) (mss_one (ms_ret (md_pure pd_bl))) mss_nil) (mss_cons (ms_if (mt_pure (td_cmp (op_neK (hU hr)) os_ne (pd_call (ok_best_setting T) (hr.mono (by decide)) rfl T.g_best_setting T.F_best_setting.kp T.b_best_setting pX (ad_cons (pdv 1) (ad_cons (pdv 2) (ad_cons pd_int ad_nil)))) (pd_call (ok_best_setting T) (hr.mono (by decide)) rfl T.g_best_setting T.F_best_setting.kp T.b_best_setting pX (ad_cons (pdv 1) (ad_cons (pdv 2) (ad_cons pd_int ad_nil)))))) (mss_one (ms_ret (md_pure pd_bl))) mss_nil) (mss_cons (ms_if (mt_pure (td_cmp (op_neK (hU hr)) os_ne (pd_call (ok_least_latitude T) (hr.mono (by decide)) rfl T.g_least_latitude T.F_least_latitude.kp T.b_least_latitude pX (ad_cons (pdv 1) (ad_cons (pdv 2) ad_nil))) (pd_call (ok_least_latitude T) (hr.mono (by decide)) rfl T.g_least_latitude T.F_least_latitude.kp T.b_least_latitude pX (ad_cons (pdv 1) (ad_cons (pdv 2) ad_nil))))) (mss_one (ms_ret (md_pure pd_bl))) mss_nil) (mss_cons (ms_if (mt_pure (WD.td (wd_or (td_cmp (op_neK (hU hr)) os_ne (pd_call (ok_best_start T) (hr.mono (by decide)) rfl T.g_best_start T.F_best_start.kp T.b_best_start pX (ad_cons (pdv 1) (ad_cons (pdv 2) ad_nil))) (pd_call (ok_best_start T) (hr.mono (by decide)) rfl T.g_best_start T.F_best_start.kp T.b_best_start pX (ad_cons (pdv 1) (ad_cons (pdv 2) ad_nil)))) (wd_or1 (td_cmp (op_neK (hU hr)) os_ne (pdv 2) (pdv 3)))))) (mss_one (ms_ret (md_pure pd_bl))) mss_nil) (mss_cons (ms_set (md_pure (pd_op op_repA os_rep (pd_tup (ad_cons (pd_tup (ad_cons pd_int (ad_cons pd_int (ad_cons pd_int ad_nil)))) ad_nil)) pd_int)) sc_law.nd rfl) (mss_cons (ms_p2 (i := 6) (j := 7) sc_law.nd (ma_cons (md_make T.mkc (ok_Hand_init T) (hr.mono (by decide)) rfl T.g_Hand T.b_Hand_init pXM (ma_cons (md_pure (pdv 5)) ma_nil)) (ma_cons (md_make T.mkc (ok_Hand_init T) (hr.mono (by decide)) rfl T.g_Hand T.b_Hand_init pXM (ma_cons (md_pure (pdv 5)) ma_nil)) ma_nil))) (mss_cons (ms_expr (md_meth (md_var 6 (pv 6)) T.cls T.me_Hand_click (ok_Hand_click T) (hr.mono (by decide)) T.b_Hand_click pXM (ma_cons (md_pure pd_str) (ma_cons (md_pure pd_int) ma_nil)))) (mss_cons (ms_set (md_meth0 (md_var 6 (pv 6)) T.cls T.me_Hand_copy (ok_Hand_copy T) (hr.mono (by decide)) T.b_Hand_copy pXM) sc_law.nd rfl) (mss_cons (ms_expr (md_meth (md_var 8 (pv 8)) T.cls T.me_Hand_click (ok_Hand_click T) (hr.mono (by decide)) T.b_Hand_click pXM (ma_cons (md_pure pd_str) (ma_cons (md_pure pd_int) ma_nil)))) (mss_cons (ms_if (mt_not (MW.mt (mw_and (mt_cmp (op_eqK (hU hr)) (fun _ => os_eq) (md_meth0 (md_var 6 (pv 6)) T.cls T.me_Hand_setting (ok_Hand_setting T) (hr.mono (by decide)) T.b_Hand_setting pXM) (md_pure (pd_tup (ad_cons pd_int (ad_cons pd_int (ad_cons pd_int ad_nil)))))) (mw_and1 (mt_cmp (op_eqK (hU hr)) (fun _ => os_eq) (md_meth0 (md_var 7 (pv 7)) T.cls T.me_Hand_setting (ok_Hand_setting T) (hr.mono (by decide)) T.b_Hand_setting pXM) (md_pure (pd_tup (ad_cons pd_int (ad_cons pd_int (ad_cons pd_int ad_nil)))))))))) (mss_one (ms_ret (md_pure pd_bl))) mss_nil) (mss_one (ms_ret (md_and (md_cmp (op_eqK (hU hr)) (fun _ => os_eq) (md_meth0 (md_var 8 (pv 8)) T.cls T.me_Hand_setting (ok_Hand_setting T) (hr.mono (by decide)) T.b_Hand_setting pXM) (md_pure (pd_tup (ad_cons pd_int (ad_cons pd_int (ad_cons pd_int ad_nil)))))) (md_one (md_cmp (op_eqK (hU hr)) (fun _ => os_eq) (md_lenO (md_var 8 (pv 8)) (ok_Hand_len T) T.me_Hand_len.at_ T.me_Hand_len.fn (hr.mono (by decide)) T.b_Hand_len rfl T.m_len) (md_pure pd_int)))))))))))))))))))⟩
end
end Lw
namespace Lw
open PySem L2 PD
theorem all_mk {l : PySem.W.OpenLaw} {w : World} {K : PySem.W.Frag} {h : Heap} {mg : Str → Option Value} {fa : Addr} (X : K.In h) (G : h.Ns mainGlobals mg) (hfa : mg "law" = some (.ref fa))
    {C_Hand : Addr}
    {f_wall : Addr} {od_wall an_wall : Option Addr} {sl_wall : Array (Option Value)} {oc_wall kV_wall dc_wall pm_wall cd_wall ct_wall : Value}
    {f_is_int : Addr} {od_is_int an_is_int : Option Addr} {sl_is_int : Array (Option Value)} {oc_is_int kV_is_int dc_is_int pm_is_int cd_is_int ct_is_int : Value}
    {f_is_wheel : Addr} {od_is_wheel an_is_wheel : Option Addr} {sl_is_wheel : Array (Option Value)} {oc_is_wheel kV_is_wheel dc_is_wheel pm_is_wheel cd_is_wheel ct_is_wheel : Value}
    {f_is_camera : Addr} {od_is_camera an_is_camera : Option Addr} {sl_is_camera : Array (Option Value)} {oc_is_camera kV_is_camera dc_is_camera pm_is_camera cd_is_camera ct_is_camera : Value}
    {f_wheel_values : Addr} {od_wheel_values an_wheel_values : Option Addr} {sl_wheel_values : Array (Option Value)} {oc_wheel_values kV_wheel_values dc_wheel_values pm_wheel_values cd_wheel_values ct_wheel_values : Value}
    {f_has_setting : Addr} {od_has_setting an_has_setting : Option Addr} {sl_has_setting : Array (Option Value)} {oc_has_setting kV_has_setting dc_has_setting pm_has_setting cd_has_setting ct_has_setting : Value}
    {f_check_camera : Addr} {od_check_camera an_check_camera : Option Addr} {sl_check_camera : Array (Option Value)} {oc_check_camera kV_check_camera dc_check_camera pm_check_camera cd_check_camera ct_check_camera : Value}
    {f_check_setting : Addr} {od_check_setting an_check_setting : Option Addr} {sl_check_setting : Array (Option Value)} {oc_check_setting kV_check_setting dc_check_setting pm_check_setting cd_check_setting ct_check_setting : Value}
    {f_check_light : Addr} {od_check_light an_check_light : Option Addr} {sl_check_light : Array (Option Value)} {oc_check_light kV_check_light dc_check_light pm_check_light cd_check_light ct_check_light : Value}
    {f_find_wheel : Addr} {od_find_wheel an_find_wheel : Option Addr} {sl_find_wheel : Array (Option Value)} {oc_find_wheel kV_find_wheel dc_find_wheel pm_find_wheel cd_find_wheel ct_find_wheel : Value}
    {f_all_settings : Addr} {od_all_settings an_all_settings : Option Addr} {sl_all_settings : Array (Option Value)} {oc_all_settings kV_all_settings dc_all_settings pm_all_settings cd_all_settings ct_all_settings : Value}
    {f_find_exposure : Addr} {od_find_exposure an_find_exposure : Option Addr} {sl_find_exposure : Array (Option Value)} {oc_find_exposure kV_find_exposure dc_find_exposure pm_find_exposure cd_find_exposure ct_find_exposure : Value}
    {f_find_right : Addr} {od_find_right an_find_right : Option Addr} {sl_find_right : Array (Option Value)} {oc_find_right kV_find_right dc_find_right pm_find_right cd_find_right ct_find_right : Value}
    {f_check_both : Addr} {od_check_both an_check_both : Option Addr} {sl_check_both : Array (Option Value)} {oc_check_both kV_check_both dc_check_both pm_check_both cd_check_both ct_check_both : Value}
    {f_count_clicks : Addr} {od_count_clicks an_count_clicks : Option Addr} {sl_count_clicks : Array (Option Value)} {oc_count_clicks kV_count_clicks dc_count_clicks pm_count_clicks cd_count_clicks ct_count_clicks : Value}
    {f_Hand_init : Addr} {od_Hand_init an_Hand_init : Option Addr} {sl_Hand_init : Array (Option Value)} {oc_Hand_init kV_Hand_init dc_Hand_init pm_Hand_init cd_Hand_init ct_Hand_init : Value}
    {f_Hand_len : Addr} {od_Hand_len an_Hand_len : Option Addr} {sl_Hand_len : Array (Option Value)} {oc_Hand_len kV_Hand_len dc_Hand_len pm_Hand_len cd_Hand_len ct_Hand_len : Value}
    {f_Hand_setting : Addr} {od_Hand_setting an_Hand_setting : Option Addr} {sl_Hand_setting : Array (Option Value)} {oc_Hand_setting kV_Hand_setting dc_Hand_setting pm_Hand_setting cd_Hand_setting ct_Hand_setting : Value}
    {f_Hand_change : Addr} {od_Hand_change an_Hand_change : Option Addr} {sl_Hand_change : Array (Option Value)} {oc_Hand_change kV_Hand_change dc_Hand_change pm_Hand_change cd_Hand_change ct_Hand_change : Value}
    {f_Hand_click : Addr} {od_Hand_click an_Hand_click : Option Addr} {sl_Hand_click : Array (Option Value)} {oc_Hand_click kV_Hand_click dc_Hand_click pm_Hand_click cd_Hand_click ct_Hand_click : Value}
    {f_Hand_copy : Addr} {od_Hand_copy an_Hand_copy : Option Addr} {sl_Hand_copy : Array (Option Value)} {oc_Hand_copy kV_Hand_copy dc_Hand_copy pm_Hand_copy cd_Hand_copy ct_Hand_copy : Value}
    {f_check_parts : Addr} {od_check_parts an_check_parts : Option Addr} {sl_check_parts : Array (Option Value)} {oc_check_parts kV_check_parts dc_check_parts pm_check_parts cd_check_parts ct_check_parts : Value}
    {f_check_latitude : Addr} {od_check_latitude an_check_latitude : Option Addr} {sl_check_latitude : Array (Option Value)} {oc_check_latitude kV_check_latitude dc_check_latitude pm_check_latitude cd_check_latitude ct_check_latitude : Value}
    {f_find_held : Addr} {od_find_held an_find_held : Option Addr} {sl_find_held : Array (Option Value)} {oc_find_held kV_find_held dc_find_held pm_find_held cd_find_held ct_find_held : Value}
    {f_held : Addr} {od_held an_held : Option Addr} {sl_held : Array (Option Value)} {oc_held kV_held dc_held pm_held cd_held ct_held : Value}
    {f_find_best : Addr} {od_find_best an_find_best : Option Addr} {sl_find_best : Array (Option Value)} {oc_find_best kV_find_best dc_find_best pm_find_best cd_find_best ct_find_best : Value}
    {f_best_setting : Addr} {od_best_setting an_best_setting : Option Addr} {sl_best_setting : Array (Option Value)} {oc_best_setting kV_best_setting dc_best_setting pm_best_setting cd_best_setting ct_best_setting : Value}
    {f_least_latitude : Addr} {od_least_latitude an_least_latitude : Option Addr} {sl_least_latitude : Array (Option Value)} {oc_least_latitude kV_least_latitude dc_least_latitude pm_least_latitude cd_least_latitude ct_least_latitude : Value}
    {f_check_limits : Addr} {od_check_limits an_check_limits : Option Addr} {sl_check_limits : Array (Option Value)} {oc_check_limits kV_check_limits dc_check_limits pm_check_limits cd_check_limits ct_check_limits : Value}
    {f_find_lack : Addr} {od_find_lack an_find_lack : Option Addr} {sl_find_lack : Array (Option Value)} {oc_find_lack kV_find_lack dc_find_lack pm_find_lack cd_find_lack ct_find_lack : Value}
    {f_find_lacks : Addr} {od_find_lacks an_find_lacks : Option Addr} {sl_find_lacks : Array (Option Value)} {oc_find_lacks kV_find_lacks dc_find_lacks pm_find_lacks cd_find_lacks ct_find_lacks : Value}
    {f_allowed : Addr} {od_allowed an_allowed : Option Addr} {sl_allowed : Array (Option Value)} {oc_allowed kV_allowed dc_allowed pm_allowed cd_allowed ct_allowed : Value}
    {f_find_plans : Addr} {od_find_plans an_find_plans : Option Addr} {sl_find_plans : Array (Option Value)} {oc_find_plans kV_find_plans dc_find_plans pm_find_plans cd_find_plans ct_find_plans : Value}
    {f_check_row : Addr} {od_check_row an_check_row : Option Addr} {sl_check_row : Array (Option Value)} {oc_check_row kV_check_row dc_check_row pm_check_row cd_check_row ct_check_row : Value}
    {f_find_row : Addr} {od_find_row an_find_row : Option Addr} {sl_find_row : Array (Option Value)} {oc_find_row kV_find_row dc_find_row pm_find_row cd_find_row ct_find_row : Value}
    {f_best_row : Addr} {od_best_row an_best_row : Option Addr} {sl_best_row : Array (Option Value)} {oc_best_row kV_best_row dc_best_row pm_best_row cd_best_row ct_best_row : Value}
    {f_all_orders : Addr} {od_all_orders an_all_orders : Option Addr} {sl_all_orders : Array (Option Value)} {oc_all_orders kV_all_orders dc_all_orders pm_all_orders cd_all_orders ct_all_orders : Value}
    {f_best_start : Addr} {od_best_start an_best_start : Option Addr} {sl_best_start : Array (Option Value)} {oc_best_start kV_best_start dc_best_start pm_best_start cd_best_start ct_best_start : Value}
    {f_law_drawn : Addr} {od_law_drawn an_law_drawn : Option Addr} {sl_law_drawn : Array (Option Value)} {oc_law_drawn kV_law_drawn dc_law_drawn pm_law_drawn cd_law_drawn ct_law_drawn : Value}
    {f_law_camera : Addr} {od_law_camera an_law_camera : Option Addr} {sl_law_camera : Array (Option Value)} {oc_law_camera kV_law_camera dc_law_camera pm_law_camera cd_law_camera ct_law_camera : Value}
    {f_law_settings : Addr} {od_law_settings an_law_settings : Option Addr} {sl_law_settings : Array (Option Value)} {oc_law_settings kV_law_settings dc_law_settings pm_law_settings cd_law_settings ct_law_settings : Value}
    {f_law_number : Addr} {od_law_number an_law_number : Option Addr} {sl_law_number : Array (Option Value)} {oc_law_number kV_law_number dc_law_number pm_law_number cd_law_number ct_law_number : Value}
    {f_law_light : Addr} {od_law_light an_law_light : Option Addr} {sl_law_light : Array (Option Value)} {oc_law_light kV_law_light dc_law_light pm_law_light cd_law_light ct_law_light : Value}
    {f_law_lists : Addr} {od_law_lists an_law_lists : Option Addr} {sl_law_lists : Array (Option Value)} {oc_law_lists kV_law_lists dc_law_lists pm_law_lists cd_law_lists ct_law_lists : Value}
    {f_M_allowed : Addr} {od_M_allowed an_M_allowed : Option Addr} {sl_M_allowed : Array (Option Value)} {oc_M_allowed kV_M_allowed dc_M_allowed pm_M_allowed cd_M_allowed ct_M_allowed : Value}
    {f_M_find_held : Addr} {od_M_find_held an_M_find_held : Option Addr} {sl_M_find_held : Array (Option Value)} {oc_M_find_held kV_M_find_held dc_M_find_held pm_M_find_held cd_M_find_held ct_M_find_held : Value}
    {f_M_held : Addr} {od_M_held an_M_held : Option Addr} {sl_M_held : Array (Option Value)} {oc_M_held kV_M_held dc_M_held pm_M_held cd_M_held ct_M_held : Value}
    {f_M_best_row : Addr} {od_M_best_row an_M_best_row : Option Addr} {sl_M_best_row : Array (Option Value)} {oc_M_best_row kV_M_best_row dc_M_best_row pm_M_best_row cd_M_best_row ct_M_best_row : Value}
    {f_M__law_lists : Addr} {od_M__law_lists an_M__law_lists : Option Addr} {sl_M__law_lists : Array (Option Value)} {oc_M__law_lists kV_M__law_lists dc_M__law_lists pm_M__law_lists cd_M__law_lists ct_M__law_lists : Value}
    {f_law_changed : Addr} {od_law_changed an_law_changed : Option Addr} {sl_law_changed : Array (Option Value)} {oc_law_changed kV_law_changed dc_law_changed pm_law_changed cd_law_changed ct_law_changed : Value}
    {f_law : Addr} {od_law an_law : Option Addr} {sl_law : Array (Option Value)} {oc_law kV_law dc_law pm_law cd_law ct_law : Value}
    {C_InvalidBrightness : Addr}
    {C_InvalidCamera : Addr}
    {C_InvalidLimits : Addr}
    {C_InvalidNumber : Addr}
    {C_InvalidParts : Addr}
    {C_InvalidSetting : Addr}
    {C_InvalidWheel : Addr}
    {C_NoClick : Addr}
    {C_TooLarge : Addr}
    {t_MARK : Tok}
    {t_MAX_LATITUDE : Tok}
    {t_MAX_LEAST : Tok}
    {t_MAX_LIGHT : Tok}
    {t_MAX_LIMIT : Tok}
    {t_MAX_MOST : Tok}
    {t_MAX_ORDERED : Tok}
    {t_MAX_PARTS : Tok}
    {t_MAX_STEP : Tok}
    {t_MAX_VALUES : Tok}
    {t_MIN_LIGHT : Tok}
    {a_NAMES : Addr} {t_NAMES0 t_NAMES1 t_NAMES2 : Tok} {n_NAMES : Nat} {sl_NAMES : Array (Option Value)}
    {t_PARTS : Tok}
    (ax_Hand : PySem.W.nsIn K mainGlobals "Hand" = some (some (.ref C_Hand)))
    (clg : PySem.W.plainGet K C_Hand Str.empty = true)
    (cld : PySem.W.hasDictIn K C_Hand = true)
    (clo : PySem.W.plainOver K C_Hand = true)
    (cls : PySem.W.findIn K (.ref C_Hand) "__setattr__" = some (some (.builtin "object.__setattr__")))
    (clm : PySem.W.makesIn K C_Hand = true)
    (clk : PySem.W.keepIn K (.ref C_Hand) = true)
    (na_camera : PySem.W.findIn K (.ref C_Hand) "camera" = some none)
    (na_present : PySem.W.findIn K (.ref C_Hand) "present" = some none)
    (na_done : PySem.W.findIn K (.ref C_Hand) "done" = some none)
    (na_undone : PySem.W.findIn K (.ref C_Hand) "undone" = some none)
    (a_wall : PySem.W.nsIn K mainGlobals "_wall" = some (some (.ref f_wall)))
    (l_wall : K.lookup f_wall = some ⟨oc_wall, od_wall, .func (PySem.W.fnOf "_wall" "_wall" (defArgs s_wall) (defBody s_wall) (defScope s_wall) .none kV_wall dc_wall pm_wall an_wall cd_wall ct_wall), sl_wall⟩)
    (c_wall : PySem.W.codeIn K cd_wall "_wall" = true)
    (k_wall : PySem.W.keepIn K (.ref f_wall) = true)
    (a_is_int : PySem.W.nsIn K mainGlobals "is_int" = some (some (.ref f_is_int)))
    (l_is_int : K.lookup f_is_int = some ⟨oc_is_int, od_is_int, .func (PySem.W.fnOf "is_int" "is_int" (defArgs s_is_int) (defBody s_is_int) (defScope s_is_int) .none kV_is_int dc_is_int pm_is_int an_is_int cd_is_int ct_is_int), sl_is_int⟩)
    (c_is_int : PySem.W.codeIn K cd_is_int "is_int" = true)
    (k_is_int : PySem.W.keepIn K (.ref f_is_int) = true)
    (a_is_wheel : PySem.W.nsIn K mainGlobals "is_wheel" = some (some (.ref f_is_wheel)))
    (l_is_wheel : K.lookup f_is_wheel = some ⟨oc_is_wheel, od_is_wheel, .func (PySem.W.fnOf "is_wheel" "is_wheel" (defArgs s_is_wheel) (defBody s_is_wheel) (defScope s_is_wheel) .none kV_is_wheel dc_is_wheel pm_is_wheel an_is_wheel cd_is_wheel ct_is_wheel), sl_is_wheel⟩)
    (c_is_wheel : PySem.W.codeIn K cd_is_wheel "is_wheel" = true)
    (k_is_wheel : PySem.W.keepIn K (.ref f_is_wheel) = true)
    (a_is_camera : PySem.W.nsIn K mainGlobals "is_camera" = some (some (.ref f_is_camera)))
    (l_is_camera : K.lookup f_is_camera = some ⟨oc_is_camera, od_is_camera, .func (PySem.W.fnOf "is_camera" "is_camera" (defArgs s_is_camera) (defBody s_is_camera) (defScope s_is_camera) .none kV_is_camera dc_is_camera pm_is_camera an_is_camera cd_is_camera ct_is_camera), sl_is_camera⟩)
    (c_is_camera : PySem.W.codeIn K cd_is_camera "is_camera" = true)
    (k_is_camera : PySem.W.keepIn K (.ref f_is_camera) = true)
    (a_wheel_values : PySem.W.nsIn K mainGlobals "wheel_values" = some (some (.ref f_wheel_values)))
    (l_wheel_values : K.lookup f_wheel_values = some ⟨oc_wheel_values, od_wheel_values, .func (PySem.W.fnOf "wheel_values" "wheel_values" (defArgs s_wheel_values) (defBody s_wheel_values) (defScope s_wheel_values) .none kV_wheel_values dc_wheel_values pm_wheel_values an_wheel_values cd_wheel_values ct_wheel_values), sl_wheel_values⟩)
    (c_wheel_values : PySem.W.codeIn K cd_wheel_values "wheel_values" = true)
    (k_wheel_values : PySem.W.keepIn K (.ref f_wheel_values) = true)
    (a_has_setting : PySem.W.nsIn K mainGlobals "has_setting" = some (some (.ref f_has_setting)))
    (l_has_setting : K.lookup f_has_setting = some ⟨oc_has_setting, od_has_setting, .func (PySem.W.fnOf "has_setting" "has_setting" (defArgs s_has_setting) (defBody s_has_setting) (defScope s_has_setting) .none kV_has_setting dc_has_setting pm_has_setting an_has_setting cd_has_setting ct_has_setting), sl_has_setting⟩)
    (c_has_setting : PySem.W.codeIn K cd_has_setting "has_setting" = true)
    (k_has_setting : PySem.W.keepIn K (.ref f_has_setting) = true)
    (a_check_camera : PySem.W.nsIn K mainGlobals "check_camera" = some (some (.ref f_check_camera)))
    (l_check_camera : K.lookup f_check_camera = some ⟨oc_check_camera, od_check_camera, .func (PySem.W.fnOf "check_camera" "check_camera" (defArgs s_check_camera) (defBody s_check_camera) (defScope s_check_camera) .none kV_check_camera dc_check_camera pm_check_camera an_check_camera cd_check_camera ct_check_camera), sl_check_camera⟩)
    (c_check_camera : PySem.W.codeIn K cd_check_camera "check_camera" = true)
    (k_check_camera : PySem.W.keepIn K (.ref f_check_camera) = true)
    (a_check_setting : PySem.W.nsIn K mainGlobals "check_setting" = some (some (.ref f_check_setting)))
    (l_check_setting : K.lookup f_check_setting = some ⟨oc_check_setting, od_check_setting, .func (PySem.W.fnOf "check_setting" "check_setting" (defArgs s_check_setting) (defBody s_check_setting) (defScope s_check_setting) .none kV_check_setting dc_check_setting pm_check_setting an_check_setting cd_check_setting ct_check_setting), sl_check_setting⟩)
    (c_check_setting : PySem.W.codeIn K cd_check_setting "check_setting" = true)
    (k_check_setting : PySem.W.keepIn K (.ref f_check_setting) = true)
    (a_check_light : PySem.W.nsIn K mainGlobals "check_light" = some (some (.ref f_check_light)))
    (l_check_light : K.lookup f_check_light = some ⟨oc_check_light, od_check_light, .func (PySem.W.fnOf "check_light" "check_light" (defArgs s_check_light) (defBody s_check_light) (defScope s_check_light) .none kV_check_light dc_check_light pm_check_light an_check_light cd_check_light ct_check_light), sl_check_light⟩)
    (c_check_light : PySem.W.codeIn K cd_check_light "check_light" = true)
    (k_check_light : PySem.W.keepIn K (.ref f_check_light) = true)
    (a_find_wheel : PySem.W.nsIn K mainGlobals "find_wheel" = some (some (.ref f_find_wheel)))
    (l_find_wheel : K.lookup f_find_wheel = some ⟨oc_find_wheel, od_find_wheel, .func (PySem.W.fnOf "find_wheel" "find_wheel" (defArgs s_find_wheel) (defBody s_find_wheel) (defScope s_find_wheel) .none kV_find_wheel dc_find_wheel pm_find_wheel an_find_wheel cd_find_wheel ct_find_wheel), sl_find_wheel⟩)
    (c_find_wheel : PySem.W.codeIn K cd_find_wheel "find_wheel" = true)
    (k_find_wheel : PySem.W.keepIn K (.ref f_find_wheel) = true)
    (a_all_settings : PySem.W.nsIn K mainGlobals "all_settings" = some (some (.ref f_all_settings)))
    (l_all_settings : K.lookup f_all_settings = some ⟨oc_all_settings, od_all_settings, .func (PySem.W.fnOf "all_settings" "all_settings" (defArgs s_all_settings) (defBody s_all_settings) (defScope s_all_settings) .none kV_all_settings dc_all_settings pm_all_settings an_all_settings cd_all_settings ct_all_settings), sl_all_settings⟩)
    (c_all_settings : PySem.W.codeIn K cd_all_settings "all_settings" = true)
    (k_all_settings : PySem.W.keepIn K (.ref f_all_settings) = true)
    (a_find_exposure : PySem.W.nsIn K mainGlobals "find_exposure" = some (some (.ref f_find_exposure)))
    (l_find_exposure : K.lookup f_find_exposure = some ⟨oc_find_exposure, od_find_exposure, .func (PySem.W.fnOf "find_exposure" "find_exposure" (defArgs s_find_exposure) (defBody s_find_exposure) (defScope s_find_exposure) .none kV_find_exposure dc_find_exposure pm_find_exposure an_find_exposure cd_find_exposure ct_find_exposure), sl_find_exposure⟩)
    (c_find_exposure : PySem.W.codeIn K cd_find_exposure "find_exposure" = true)
    (k_find_exposure : PySem.W.keepIn K (.ref f_find_exposure) = true)
    (a_find_right : PySem.W.nsIn K mainGlobals "find_right" = some (some (.ref f_find_right)))
    (l_find_right : K.lookup f_find_right = some ⟨oc_find_right, od_find_right, .func (PySem.W.fnOf "find_right" "find_right" (defArgs s_find_right) (defBody s_find_right) (defScope s_find_right) .none kV_find_right dc_find_right pm_find_right an_find_right cd_find_right ct_find_right), sl_find_right⟩)
    (c_find_right : PySem.W.codeIn K cd_find_right "find_right" = true)
    (k_find_right : PySem.W.keepIn K (.ref f_find_right) = true)
    (a_check_both : PySem.W.nsIn K mainGlobals "check_both" = some (some (.ref f_check_both)))
    (l_check_both : K.lookup f_check_both = some ⟨oc_check_both, od_check_both, .func (PySem.W.fnOf "check_both" "check_both" (defArgs s_check_both) (defBody s_check_both) (defScope s_check_both) .none kV_check_both dc_check_both pm_check_both an_check_both cd_check_both ct_check_both), sl_check_both⟩)
    (c_check_both : PySem.W.codeIn K cd_check_both "check_both" = true)
    (k_check_both : PySem.W.keepIn K (.ref f_check_both) = true)
    (a_count_clicks : PySem.W.nsIn K mainGlobals "count_clicks" = some (some (.ref f_count_clicks)))
    (l_count_clicks : K.lookup f_count_clicks = some ⟨oc_count_clicks, od_count_clicks, .func (PySem.W.fnOf "count_clicks" "count_clicks" (defArgs s_count_clicks) (defBody s_count_clicks) (defScope s_count_clicks) .none kV_count_clicks dc_count_clicks pm_count_clicks an_count_clicks cd_count_clicks ct_count_clicks), sl_count_clicks⟩)
    (c_count_clicks : PySem.W.codeIn K cd_count_clicks "count_clicks" = true)
    (k_count_clicks : PySem.W.keepIn K (.ref f_count_clicks) = true)
    (a_Hand_init : PySem.W.findIn K (.ref C_Hand) "__init__" = some (some (.ref f_Hand_init)))
    (l_Hand_init : K.lookup f_Hand_init = some ⟨oc_Hand_init, od_Hand_init, .func (PySem.W.fnOf "__init__" "Hand.__init__" (defArgs s_Hand_init) (defBody s_Hand_init) (defScope s_Hand_init) .none kV_Hand_init dc_Hand_init pm_Hand_init an_Hand_init cd_Hand_init ct_Hand_init), sl_Hand_init⟩)
    (fn_Hand_init : PySem.W.isFn K (.ref f_Hand_init) = true)
    (c_Hand_init : PySem.W.codeIn K cd_Hand_init "Hand.__init__" = true)
    (k_Hand_init : PySem.W.keepIn K (.ref f_Hand_init) = true)
    (a_Hand_len : PySem.W.findIn K (.ref C_Hand) "__len__" = some (some (.ref f_Hand_len)))
    (l_Hand_len : K.lookup f_Hand_len = some ⟨oc_Hand_len, od_Hand_len, .func (PySem.W.fnOf "__len__" "Hand.__len__" (defArgs s_Hand_len) (defBody s_Hand_len) (defScope s_Hand_len) .none kV_Hand_len dc_Hand_len pm_Hand_len an_Hand_len cd_Hand_len ct_Hand_len), sl_Hand_len⟩)
    (fn_Hand_len : PySem.W.isFn K (.ref f_Hand_len) = true)
    (c_Hand_len : PySem.W.codeIn K cd_Hand_len "Hand.__len__" = true)
    (k_Hand_len : PySem.W.keepIn K (.ref f_Hand_len) = true)
    (a_Hand_setting : PySem.W.findIn K (.ref C_Hand) "setting" = some (some (.ref f_Hand_setting)))
    (l_Hand_setting : K.lookup f_Hand_setting = some ⟨oc_Hand_setting, od_Hand_setting, .func (PySem.W.fnOf "setting" "Hand.setting" (defArgs s_Hand_setting) (defBody s_Hand_setting) (defScope s_Hand_setting) .none kV_Hand_setting dc_Hand_setting pm_Hand_setting an_Hand_setting cd_Hand_setting ct_Hand_setting), sl_Hand_setting⟩)
    (fn_Hand_setting : PySem.W.isFn K (.ref f_Hand_setting) = true)
    (c_Hand_setting : PySem.W.codeIn K cd_Hand_setting "Hand.setting" = true)
    (k_Hand_setting : PySem.W.keepIn K (.ref f_Hand_setting) = true)
    (a_Hand_change : PySem.W.findIn K (.ref C_Hand) "change" = some (some (.ref f_Hand_change)))
    (l_Hand_change : K.lookup f_Hand_change = some ⟨oc_Hand_change, od_Hand_change, .func (PySem.W.fnOf "change" "Hand.change" (defArgs s_Hand_change) (defBody s_Hand_change) (defScope s_Hand_change) .none kV_Hand_change dc_Hand_change pm_Hand_change an_Hand_change cd_Hand_change ct_Hand_change), sl_Hand_change⟩)
    (fn_Hand_change : PySem.W.isFn K (.ref f_Hand_change) = true)
    (c_Hand_change : PySem.W.codeIn K cd_Hand_change "Hand.change" = true)
    (k_Hand_change : PySem.W.keepIn K (.ref f_Hand_change) = true)
    (a_Hand_click : PySem.W.findIn K (.ref C_Hand) "click" = some (some (.ref f_Hand_click)))
    (l_Hand_click : K.lookup f_Hand_click = some ⟨oc_Hand_click, od_Hand_click, .func (PySem.W.fnOf "click" "Hand.click" (defArgs s_Hand_click) (defBody s_Hand_click) (defScope s_Hand_click) .none kV_Hand_click dc_Hand_click pm_Hand_click an_Hand_click cd_Hand_click ct_Hand_click), sl_Hand_click⟩)
    (fn_Hand_click : PySem.W.isFn K (.ref f_Hand_click) = true)
    (c_Hand_click : PySem.W.codeIn K cd_Hand_click "Hand.click" = true)
    (k_Hand_click : PySem.W.keepIn K (.ref f_Hand_click) = true)
    (a_Hand_copy : PySem.W.findIn K (.ref C_Hand) "copy" = some (some (.ref f_Hand_copy)))
    (l_Hand_copy : K.lookup f_Hand_copy = some ⟨oc_Hand_copy, od_Hand_copy, .func (PySem.W.fnOf "copy" "Hand.copy" (defArgs s_Hand_copy) (defBody s_Hand_copy) (defScope s_Hand_copy) .none kV_Hand_copy dc_Hand_copy pm_Hand_copy an_Hand_copy cd_Hand_copy ct_Hand_copy), sl_Hand_copy⟩)
    (fn_Hand_copy : PySem.W.isFn K (.ref f_Hand_copy) = true)
    (c_Hand_copy : PySem.W.codeIn K cd_Hand_copy "Hand.copy" = true)
    (k_Hand_copy : PySem.W.keepIn K (.ref f_Hand_copy) = true)
    (a_check_parts : PySem.W.nsIn K mainGlobals "check_parts" = some (some (.ref f_check_parts)))
    (l_check_parts : K.lookup f_check_parts = some ⟨oc_check_parts, od_check_parts, .func (PySem.W.fnOf "check_parts" "check_parts" (defArgs s_check_parts) (defBody s_check_parts) (defScope s_check_parts) .none kV_check_parts dc_check_parts pm_check_parts an_check_parts cd_check_parts ct_check_parts), sl_check_parts⟩)
    (c_check_parts : PySem.W.codeIn K cd_check_parts "check_parts" = true)
    (k_check_parts : PySem.W.keepIn K (.ref f_check_parts) = true)
    (a_check_latitude : PySem.W.nsIn K mainGlobals "check_latitude" = some (some (.ref f_check_latitude)))
    (l_check_latitude : K.lookup f_check_latitude = some ⟨oc_check_latitude, od_check_latitude, .func (PySem.W.fnOf "check_latitude" "check_latitude" (defArgs s_check_latitude) (defBody s_check_latitude) (defScope s_check_latitude) .none kV_check_latitude dc_check_latitude pm_check_latitude an_check_latitude cd_check_latitude ct_check_latitude), sl_check_latitude⟩)
    (c_check_latitude : PySem.W.codeIn K cd_check_latitude "check_latitude" = true)
    (k_check_latitude : PySem.W.keepIn K (.ref f_check_latitude) = true)
    (a_find_held : PySem.W.nsIn K mainGlobals "find_held" = some (some (.ref f_find_held)))
    (l_find_held : K.lookup f_find_held = some ⟨oc_find_held, od_find_held, .func (PySem.W.fnOf "find_held" "find_held" (defArgs s_find_held) (defBody s_find_held) (defScope s_find_held) .none kV_find_held dc_find_held pm_find_held an_find_held cd_find_held ct_find_held), sl_find_held⟩)
    (c_find_held : PySem.W.codeIn K cd_find_held "find_held" = true)
    (k_find_held : PySem.W.keepIn K (.ref f_find_held) = true)
    (a_held : PySem.W.nsIn K mainGlobals "held" = some (some (.ref f_held)))
    (l_held : K.lookup f_held = some ⟨oc_held, od_held, .func (PySem.W.fnOf "held" "held" (defArgs s_held) (defBody s_held) (defScope s_held) .none kV_held dc_held pm_held an_held cd_held ct_held), sl_held⟩)
    (c_held : PySem.W.codeIn K cd_held "held" = true)
    (k_held : PySem.W.keepIn K (.ref f_held) = true)
    (a_find_best : PySem.W.nsIn K mainGlobals "find_best" = some (some (.ref f_find_best)))
    (l_find_best : K.lookup f_find_best = some ⟨oc_find_best, od_find_best, .func (PySem.W.fnOf "find_best" "find_best" (defArgs s_find_best) (defBody s_find_best) (defScope s_find_best) .none kV_find_best dc_find_best pm_find_best an_find_best cd_find_best ct_find_best), sl_find_best⟩)
    (c_find_best : PySem.W.codeIn K cd_find_best "find_best" = true)
    (k_find_best : PySem.W.keepIn K (.ref f_find_best) = true)
    (a_best_setting : PySem.W.nsIn K mainGlobals "best_setting" = some (some (.ref f_best_setting)))
    (l_best_setting : K.lookup f_best_setting = some ⟨oc_best_setting, od_best_setting, .func (PySem.W.fnOf "best_setting" "best_setting" (defArgs s_best_setting) (defBody s_best_setting) (defScope s_best_setting) .none kV_best_setting dc_best_setting pm_best_setting an_best_setting cd_best_setting ct_best_setting), sl_best_setting⟩)
    (c_best_setting : PySem.W.codeIn K cd_best_setting "best_setting" = true)
    (k_best_setting : PySem.W.keepIn K (.ref f_best_setting) = true)
    (a_least_latitude : PySem.W.nsIn K mainGlobals "least_latitude" = some (some (.ref f_least_latitude)))
    (l_least_latitude : K.lookup f_least_latitude = some ⟨oc_least_latitude, od_least_latitude, .func (PySem.W.fnOf "least_latitude" "least_latitude" (defArgs s_least_latitude) (defBody s_least_latitude) (defScope s_least_latitude) .none kV_least_latitude dc_least_latitude pm_least_latitude an_least_latitude cd_least_latitude ct_least_latitude), sl_least_latitude⟩)
    (c_least_latitude : PySem.W.codeIn K cd_least_latitude "least_latitude" = true)
    (k_least_latitude : PySem.W.keepIn K (.ref f_least_latitude) = true)
    (a_check_limits : PySem.W.nsIn K mainGlobals "check_limits" = some (some (.ref f_check_limits)))
    (l_check_limits : K.lookup f_check_limits = some ⟨oc_check_limits, od_check_limits, .func (PySem.W.fnOf "check_limits" "check_limits" (defArgs s_check_limits) (defBody s_check_limits) (defScope s_check_limits) .none kV_check_limits dc_check_limits pm_check_limits an_check_limits cd_check_limits ct_check_limits), sl_check_limits⟩)
    (c_check_limits : PySem.W.codeIn K cd_check_limits "check_limits" = true)
    (k_check_limits : PySem.W.keepIn K (.ref f_check_limits) = true)
    (a_find_lack : PySem.W.nsIn K mainGlobals "find_lack" = some (some (.ref f_find_lack)))
    (l_find_lack : K.lookup f_find_lack = some ⟨oc_find_lack, od_find_lack, .func (PySem.W.fnOf "find_lack" "find_lack" (defArgs s_find_lack) (defBody s_find_lack) (defScope s_find_lack) .none kV_find_lack dc_find_lack pm_find_lack an_find_lack cd_find_lack ct_find_lack), sl_find_lack⟩)
    (c_find_lack : PySem.W.codeIn K cd_find_lack "find_lack" = true)
    (k_find_lack : PySem.W.keepIn K (.ref f_find_lack) = true)
    (a_find_lacks : PySem.W.nsIn K mainGlobals "find_lacks" = some (some (.ref f_find_lacks)))
    (l_find_lacks : K.lookup f_find_lacks = some ⟨oc_find_lacks, od_find_lacks, .func (PySem.W.fnOf "find_lacks" "find_lacks" (defArgs s_find_lacks) (defBody s_find_lacks) (defScope s_find_lacks) .none kV_find_lacks dc_find_lacks pm_find_lacks an_find_lacks cd_find_lacks ct_find_lacks), sl_find_lacks⟩)
    (c_find_lacks : PySem.W.codeIn K cd_find_lacks "find_lacks" = true)
    (k_find_lacks : PySem.W.keepIn K (.ref f_find_lacks) = true)
    (a_allowed : PySem.W.nsIn K mainGlobals "allowed" = some (some (.ref f_allowed)))
    (l_allowed : K.lookup f_allowed = some ⟨oc_allowed, od_allowed, .func (PySem.W.fnOf "allowed" "allowed" (defArgs s_allowed) (defBody s_allowed) (defScope s_allowed) .none kV_allowed dc_allowed pm_allowed an_allowed cd_allowed ct_allowed), sl_allowed⟩)
    (c_allowed : PySem.W.codeIn K cd_allowed "allowed" = true)
    (k_allowed : PySem.W.keepIn K (.ref f_allowed) = true)
    (a_find_plans : PySem.W.nsIn K mainGlobals "find_plans" = some (some (.ref f_find_plans)))
    (l_find_plans : K.lookup f_find_plans = some ⟨oc_find_plans, od_find_plans, .func (PySem.W.fnOf "find_plans" "find_plans" (defArgs s_find_plans) (defBody s_find_plans) (defScope s_find_plans) .none kV_find_plans dc_find_plans pm_find_plans an_find_plans cd_find_plans ct_find_plans), sl_find_plans⟩)
    (c_find_plans : PySem.W.codeIn K cd_find_plans "find_plans" = true)
    (k_find_plans : PySem.W.keepIn K (.ref f_find_plans) = true)
    (a_check_row : PySem.W.nsIn K mainGlobals "check_row" = some (some (.ref f_check_row)))
    (l_check_row : K.lookup f_check_row = some ⟨oc_check_row, od_check_row, .func (PySem.W.fnOf "check_row" "check_row" (defArgs s_check_row) (defBody s_check_row) (defScope s_check_row) .none kV_check_row dc_check_row pm_check_row an_check_row cd_check_row ct_check_row), sl_check_row⟩)
    (c_check_row : PySem.W.codeIn K cd_check_row "check_row" = true)
    (k_check_row : PySem.W.keepIn K (.ref f_check_row) = true)
    (a_find_row : PySem.W.nsIn K mainGlobals "find_row" = some (some (.ref f_find_row)))
    (l_find_row : K.lookup f_find_row = some ⟨oc_find_row, od_find_row, .func (PySem.W.fnOf "find_row" "find_row" (defArgs s_find_row) (defBody s_find_row) (defScope s_find_row) .none kV_find_row dc_find_row pm_find_row an_find_row cd_find_row ct_find_row), sl_find_row⟩)
    (c_find_row : PySem.W.codeIn K cd_find_row "find_row" = true)
    (k_find_row : PySem.W.keepIn K (.ref f_find_row) = true)
    (a_best_row : PySem.W.nsIn K mainGlobals "best_row" = some (some (.ref f_best_row)))
    (l_best_row : K.lookup f_best_row = some ⟨oc_best_row, od_best_row, .func (PySem.W.fnOf "best_row" "best_row" (defArgs s_best_row) (defBody s_best_row) (defScope s_best_row) .none kV_best_row dc_best_row pm_best_row an_best_row cd_best_row ct_best_row), sl_best_row⟩)
    (c_best_row : PySem.W.codeIn K cd_best_row "best_row" = true)
    (k_best_row : PySem.W.keepIn K (.ref f_best_row) = true)
    (a_all_orders : PySem.W.nsIn K mainGlobals "all_orders" = some (some (.ref f_all_orders)))
    (l_all_orders : K.lookup f_all_orders = some ⟨oc_all_orders, od_all_orders, .func (PySem.W.fnOf "all_orders" "all_orders" (defArgs s_all_orders) (defBody s_all_orders) (defScope s_all_orders) .none kV_all_orders dc_all_orders pm_all_orders an_all_orders cd_all_orders ct_all_orders), sl_all_orders⟩)
    (c_all_orders : PySem.W.codeIn K cd_all_orders "all_orders" = true)
    (k_all_orders : PySem.W.keepIn K (.ref f_all_orders) = true)
    (a_best_start : PySem.W.nsIn K mainGlobals "best_start" = some (some (.ref f_best_start)))
    (l_best_start : K.lookup f_best_start = some ⟨oc_best_start, od_best_start, .func (PySem.W.fnOf "best_start" "best_start" (defArgs s_best_start) (defBody s_best_start) (defScope s_best_start) .none kV_best_start dc_best_start pm_best_start an_best_start cd_best_start ct_best_start), sl_best_start⟩)
    (c_best_start : PySem.W.codeIn K cd_best_start "best_start" = true)
    (k_best_start : PySem.W.keepIn K (.ref f_best_start) = true)
    (a_law_drawn : PySem.W.nsIn K mainGlobals "_law_drawn" = some (some (.ref f_law_drawn)))
    (l_law_drawn : K.lookup f_law_drawn = some ⟨oc_law_drawn, od_law_drawn, .func (PySem.W.fnOf "_law_drawn" "_law_drawn" (defArgs s_law_drawn) (defBody s_law_drawn) (defScope s_law_drawn) .none kV_law_drawn dc_law_drawn pm_law_drawn an_law_drawn cd_law_drawn ct_law_drawn), sl_law_drawn⟩)
    (c_law_drawn : PySem.W.codeIn K cd_law_drawn "_law_drawn" = true)
    (k_law_drawn : PySem.W.keepIn K (.ref f_law_drawn) = true)
    (a_law_camera : PySem.W.nsIn K mainGlobals "_law_camera" = some (some (.ref f_law_camera)))
    (l_law_camera : K.lookup f_law_camera = some ⟨oc_law_camera, od_law_camera, .func (PySem.W.fnOf "_law_camera" "_law_camera" (defArgs s_law_camera) (defBody s_law_camera) (defScope s_law_camera) .none kV_law_camera dc_law_camera pm_law_camera an_law_camera cd_law_camera ct_law_camera), sl_law_camera⟩)
    (c_law_camera : PySem.W.codeIn K cd_law_camera "_law_camera" = true)
    (k_law_camera : PySem.W.keepIn K (.ref f_law_camera) = true)
    (a_law_settings : PySem.W.nsIn K mainGlobals "_law_settings" = some (some (.ref f_law_settings)))
    (l_law_settings : K.lookup f_law_settings = some ⟨oc_law_settings, od_law_settings, .func (PySem.W.fnOf "_law_settings" "_law_settings" (defArgs s_law_settings) (defBody s_law_settings) (defScope s_law_settings) .none kV_law_settings dc_law_settings pm_law_settings an_law_settings cd_law_settings ct_law_settings), sl_law_settings⟩)
    (c_law_settings : PySem.W.codeIn K cd_law_settings "_law_settings" = true)
    (k_law_settings : PySem.W.keepIn K (.ref f_law_settings) = true)
    (a_law_number : PySem.W.nsIn K mainGlobals "_law_number" = some (some (.ref f_law_number)))
    (l_law_number : K.lookup f_law_number = some ⟨oc_law_number, od_law_number, .func (PySem.W.fnOf "_law_number" "_law_number" (defArgs s_law_number) (defBody s_law_number) (defScope s_law_number) .none kV_law_number dc_law_number pm_law_number an_law_number cd_law_number ct_law_number), sl_law_number⟩)
    (c_law_number : PySem.W.codeIn K cd_law_number "_law_number" = true)
    (k_law_number : PySem.W.keepIn K (.ref f_law_number) = true)
    (a_law_light : PySem.W.nsIn K mainGlobals "_law_light" = some (some (.ref f_law_light)))
    (l_law_light : K.lookup f_law_light = some ⟨oc_law_light, od_law_light, .func (PySem.W.fnOf "_law_light" "_law_light" (defArgs s_law_light) (defBody s_law_light) (defScope s_law_light) .none kV_law_light dc_law_light pm_law_light an_law_light cd_law_light ct_law_light), sl_law_light⟩)
    (c_law_light : PySem.W.codeIn K cd_law_light "_law_light" = true)
    (k_law_light : PySem.W.keepIn K (.ref f_law_light) = true)
    (a_law_lists : PySem.W.nsIn K mainGlobals "_law_lists" = some (some (.ref f_law_lists)))
    (l_law_lists : K.lookup f_law_lists = some ⟨oc_law_lists, od_law_lists, .func (PySem.W.fnOf "_law_lists" "_law_lists" (defArgs s_law_lists) (defBody s_law_lists) (defScope s_law_lists) .none kV_law_lists dc_law_lists pm_law_lists an_law_lists cd_law_lists ct_law_lists), sl_law_lists⟩)
    (c_law_lists : PySem.W.codeIn K cd_law_lists "_law_lists" = true)
    (k_law_lists : PySem.W.keepIn K (.ref f_law_lists) = true)
    (a_M_allowed : PySem.W.nsIn K mainGlobals "allowed" = some (some (.ref f_M_allowed)))
    (l_M_allowed : K.lookup f_M_allowed = some ⟨oc_M_allowed, od_M_allowed, .func (PySem.W.fnOf "allowed" "allowed" (defArgs s_M_allowed) (defBody s_M_allowed) (defScope s_M_allowed) .none kV_M_allowed dc_M_allowed pm_M_allowed an_M_allowed cd_M_allowed ct_M_allowed), sl_M_allowed⟩)
    (c_M_allowed : PySem.W.codeIn K cd_M_allowed "allowed" = true)
    (k_M_allowed : PySem.W.keepIn K (.ref f_M_allowed) = true)
    (a_M_find_held : PySem.W.nsIn K mainGlobals "find_held" = some (some (.ref f_M_find_held)))
    (l_M_find_held : K.lookup f_M_find_held = some ⟨oc_M_find_held, od_M_find_held, .func (PySem.W.fnOf "find_held" "find_held" (defArgs s_M_find_held) (defBody s_M_find_held) (defScope s_M_find_held) .none kV_M_find_held dc_M_find_held pm_M_find_held an_M_find_held cd_M_find_held ct_M_find_held), sl_M_find_held⟩)
    (c_M_find_held : PySem.W.codeIn K cd_M_find_held "find_held" = true)
    (k_M_find_held : PySem.W.keepIn K (.ref f_M_find_held) = true)
    (a_M_held : PySem.W.nsIn K mainGlobals "held" = some (some (.ref f_M_held)))
    (l_M_held : K.lookup f_M_held = some ⟨oc_M_held, od_M_held, .func (PySem.W.fnOf "held" "held" (defArgs s_M_held) (defBody s_M_held) (defScope s_M_held) .none kV_M_held dc_M_held pm_M_held an_M_held cd_M_held ct_M_held), sl_M_held⟩)
    (c_M_held : PySem.W.codeIn K cd_M_held "held" = true)
    (k_M_held : PySem.W.keepIn K (.ref f_M_held) = true)
    (a_M_best_row : PySem.W.nsIn K mainGlobals "best_row" = some (some (.ref f_M_best_row)))
    (l_M_best_row : K.lookup f_M_best_row = some ⟨oc_M_best_row, od_M_best_row, .func (PySem.W.fnOf "best_row" "best_row" (defArgs s_M_best_row) (defBody s_M_best_row) (defScope s_M_best_row) .none kV_M_best_row dc_M_best_row pm_M_best_row an_M_best_row cd_M_best_row ct_M_best_row), sl_M_best_row⟩)
    (c_M_best_row : PySem.W.codeIn K cd_M_best_row "best_row" = true)
    (k_M_best_row : PySem.W.keepIn K (.ref f_M_best_row) = true)
    (a_M__law_lists : PySem.W.nsIn K mainGlobals "_law_lists" = some (some (.ref f_M__law_lists)))
    (l_M__law_lists : K.lookup f_M__law_lists = some ⟨oc_M__law_lists, od_M__law_lists, .func (PySem.W.fnOf "_law_lists" "_law_lists" (defArgs s_M__law_lists) (defBody s_M__law_lists) (defScope s_M__law_lists) .none kV_M__law_lists dc_M__law_lists pm_M__law_lists an_M__law_lists cd_M__law_lists ct_M__law_lists), sl_M__law_lists⟩)
    (c_M__law_lists : PySem.W.codeIn K cd_M__law_lists "_law_lists" = true)
    (k_M__law_lists : PySem.W.keepIn K (.ref f_M__law_lists) = true)
    (a_law_changed : PySem.W.nsIn K mainGlobals "_law_changed" = some (some (.ref f_law_changed)))
    (l_law_changed : K.lookup f_law_changed = some ⟨oc_law_changed, od_law_changed, .func (PySem.W.fnOf "_law_changed" "_law_changed" (defArgs s_law_changed) (defBody s_law_changed) (defScope s_law_changed) .none kV_law_changed dc_law_changed pm_law_changed an_law_changed cd_law_changed ct_law_changed), sl_law_changed⟩)
    (c_law_changed : PySem.W.codeIn K cd_law_changed "_law_changed" = true)
    (k_law_changed : PySem.W.keepIn K (.ref f_law_changed) = true)
    (a_law : PySem.W.nsIn K mainGlobals "law" = some (some (.ref f_law)))
    (l_law : K.lookup f_law = some ⟨oc_law, od_law, .func (PySem.W.fnOf "law" "law" (defArgs s_law) (defBody s_law) (defScope s_law) .none kV_law dc_law pm_law an_law cd_law ct_law), sl_law⟩)
    (c_law : PySem.W.codeIn K cd_law "law" = true)
    (k_law : PySem.W.keepIn K (.ref f_law) = true)
    (ax_InvalidBrightness : PySem.W.nsIn K mainGlobals "InvalidBrightness" = some (some (.ref C_InvalidBrightness)))
    (x_InvalidBrightness : PySem.W.excIn K C_InvalidBrightness [.type "ValueError", .type "Exception", .type "BaseException", .type "object"] "ValueError.__new__" = true)
    (kx_InvalidBrightness : PySem.W.keepIn K (.ref C_InvalidBrightness) = true)
    (bx_InvalidBrightness : PySem.W.subIn K (.ref C_InvalidBrightness) (.type "BaseException") = some true)
    (t_InvalidBrightness : PySem.W.typeIn K (.ref C_InvalidBrightness) = some (.type "type"))
    (ax_InvalidCamera : PySem.W.nsIn K mainGlobals "InvalidCamera" = some (some (.ref C_InvalidCamera)))
    (x_InvalidCamera : PySem.W.excIn K C_InvalidCamera [.type "ValueError", .type "Exception", .type "BaseException", .type "object"] "ValueError.__new__" = true)
    (kx_InvalidCamera : PySem.W.keepIn K (.ref C_InvalidCamera) = true)
    (bx_InvalidCamera : PySem.W.subIn K (.ref C_InvalidCamera) (.type "BaseException") = some true)
    (t_InvalidCamera : PySem.W.typeIn K (.ref C_InvalidCamera) = some (.type "type"))
    (ax_InvalidLimits : PySem.W.nsIn K mainGlobals "InvalidLimits" = some (some (.ref C_InvalidLimits)))
    (x_InvalidLimits : PySem.W.excIn K C_InvalidLimits [.type "ValueError", .type "Exception", .type "BaseException", .type "object"] "ValueError.__new__" = true)
    (kx_InvalidLimits : PySem.W.keepIn K (.ref C_InvalidLimits) = true)
    (bx_InvalidLimits : PySem.W.subIn K (.ref C_InvalidLimits) (.type "BaseException") = some true)
    (t_InvalidLimits : PySem.W.typeIn K (.ref C_InvalidLimits) = some (.type "type"))
    (ax_InvalidNumber : PySem.W.nsIn K mainGlobals "InvalidNumber" = some (some (.ref C_InvalidNumber)))
    (x_InvalidNumber : PySem.W.excIn K C_InvalidNumber [.type "ValueError", .type "Exception", .type "BaseException", .type "object"] "ValueError.__new__" = true)
    (kx_InvalidNumber : PySem.W.keepIn K (.ref C_InvalidNumber) = true)
    (bx_InvalidNumber : PySem.W.subIn K (.ref C_InvalidNumber) (.type "BaseException") = some true)
    (t_InvalidNumber : PySem.W.typeIn K (.ref C_InvalidNumber) = some (.type "type"))
    (ax_InvalidParts : PySem.W.nsIn K mainGlobals "InvalidParts" = some (some (.ref C_InvalidParts)))
    (x_InvalidParts : PySem.W.excIn K C_InvalidParts [.type "ValueError", .type "Exception", .type "BaseException", .type "object"] "ValueError.__new__" = true)
    (kx_InvalidParts : PySem.W.keepIn K (.ref C_InvalidParts) = true)
    (bx_InvalidParts : PySem.W.subIn K (.ref C_InvalidParts) (.type "BaseException") = some true)
    (t_InvalidParts : PySem.W.typeIn K (.ref C_InvalidParts) = some (.type "type"))
    (ax_InvalidSetting : PySem.W.nsIn K mainGlobals "InvalidSetting" = some (some (.ref C_InvalidSetting)))
    (x_InvalidSetting : PySem.W.excIn K C_InvalidSetting [.type "ValueError", .type "Exception", .type "BaseException", .type "object"] "ValueError.__new__" = true)
    (kx_InvalidSetting : PySem.W.keepIn K (.ref C_InvalidSetting) = true)
    (bx_InvalidSetting : PySem.W.subIn K (.ref C_InvalidSetting) (.type "BaseException") = some true)
    (t_InvalidSetting : PySem.W.typeIn K (.ref C_InvalidSetting) = some (.type "type"))
    (ax_InvalidWheel : PySem.W.nsIn K mainGlobals "InvalidWheel" = some (some (.ref C_InvalidWheel)))
    (x_InvalidWheel : PySem.W.excIn K C_InvalidWheel [.type "ValueError", .type "Exception", .type "BaseException", .type "object"] "ValueError.__new__" = true)
    (kx_InvalidWheel : PySem.W.keepIn K (.ref C_InvalidWheel) = true)
    (bx_InvalidWheel : PySem.W.subIn K (.ref C_InvalidWheel) (.type "BaseException") = some true)
    (t_InvalidWheel : PySem.W.typeIn K (.ref C_InvalidWheel) = some (.type "type"))
    (ax_NoClick : PySem.W.nsIn K mainGlobals "NoClick" = some (some (.ref C_NoClick)))
    (x_NoClick : PySem.W.excIn K C_NoClick [.type "ValueError", .type "Exception", .type "BaseException", .type "object"] "ValueError.__new__" = true)
    (kx_NoClick : PySem.W.keepIn K (.ref C_NoClick) = true)
    (bx_NoClick : PySem.W.subIn K (.ref C_NoClick) (.type "BaseException") = some true)
    (t_NoClick : PySem.W.typeIn K (.ref C_NoClick) = some (.type "type"))
    (ax_TooLarge : PySem.W.nsIn K mainGlobals "TooLarge" = some (some (.ref C_TooLarge)))
    (x_TooLarge : PySem.W.excIn K C_TooLarge [.type "ValueError", .type "Exception", .type "BaseException", .type "object"] "ValueError.__new__" = true)
    (kx_TooLarge : PySem.W.keepIn K (.ref C_TooLarge) = true)
    (bx_TooLarge : PySem.W.subIn K (.ref C_TooLarge) (.type "BaseException") = some true)
    (t_TooLarge : PySem.W.typeIn K (.ref C_TooLarge) = some (.type "type"))
    (co_MARK : PySem.W.nsIn K mainGlobals "MARK" = some (some (.str "x" t_MARK)))
    (co_MAX_LATITUDE : PySem.W.nsIn K mainGlobals "MAX_LATITUDE" = some (some (.int (60) t_MAX_LATITUDE)))
    (co_MAX_LEAST : PySem.W.nsIn K mainGlobals "MAX_LEAST" = some (some (.int (40) t_MAX_LEAST)))
    (co_MAX_LIGHT : PySem.W.nsIn K mainGlobals "MAX_LIGHT" = some (some (.int (120) t_MAX_LIGHT)))
    (co_MAX_LIMIT : PySem.W.nsIn K mainGlobals "MAX_LIMIT" = some (some (.int (60) t_MAX_LIMIT)))
    (co_MAX_MOST : PySem.W.nsIn K mainGlobals "MAX_MOST" = some (some (.int (60) t_MAX_MOST)))
    (co_MAX_ORDERED : PySem.W.nsIn K mainGlobals "MAX_ORDERED" = some (some (.int (4) t_MAX_ORDERED)))
    (co_MAX_PARTS : PySem.W.nsIn K mainGlobals "MAX_PARTS" = some (some (.int (6) t_MAX_PARTS)))
    (co_MAX_STEP : PySem.W.nsIn K mainGlobals "MAX_STEP" = some (some (.int (3) t_MAX_STEP)))
    (co_MAX_VALUES : PySem.W.nsIn K mainGlobals "MAX_VALUES" = some (some (.int (13) t_MAX_VALUES)))
    (co_MIN_LIGHT : PySem.W.nsIn K mainGlobals "MIN_LIGHT" = some (some (.int (-60) t_MIN_LIGHT)))
    (co_NAMES : PySem.W.nsIn K mainGlobals "NAMES" = some (some (.ref a_NAMES)))
    (cl_NAMES : K.lookup a_NAMES = some ⟨.type "tuple", none, .seq #[.str "aperture" t_NAMES0, .str "time" t_NAMES1, .str "sensitivity" t_NAMES2] n_NAMES, sl_NAMES⟩)
    (co_PARTS : PySem.W.nsIn K mainGlobals "PARTS" = some (some (.int (3) t_PARTS)))
    (z_abs : PySem.W.nsIn K mainGlobals "abs" = some none)
    (z_all : PySem.W.nsIn K mainGlobals "all" = some none)
    (z_bool : PySem.W.nsIn K mainGlobals "bool" = some none)
    (z_enumerate : PySem.W.nsIn K mainGlobals "enumerate" = some none)
    (z_int : PySem.W.nsIn K mainGlobals "int" = some none)
    (z_isinstance : PySem.W.nsIn K mainGlobals "isinstance" = some none)
    (z_len : PySem.W.nsIn K mainGlobals "len" = some none)
    (z_list : PySem.W.nsIn K mainGlobals "list" = some none)
    (z_max : PySem.W.nsIn K mainGlobals "max" = some none)
    (z_min : PySem.W.nsIn K mainGlobals "min" = some none)
    (z_range : PySem.W.nsIn K mainGlobals "range" = some none)
    (z_str : PySem.W.nsIn K mainGlobals "str" = some none)
    (z_tuple : PySem.W.nsIn K mainGlobals "tuple" = some none)
    (z_zip : PySem.W.nsIn K mainGlobals "zip" = some none)
    : ∃ fd : FuncData, (∀ (s : Shared) (u : Value), BindsTo s fd ⟨[u], []⟩ [("script", u)]) ∧ ∀ base : Heap, K.In base → base.Ns mainGlobals mg → FnOk l.prog w K mg base (L2.CX l.prog w) 9 fa fd ["script"] (spD K mg 1 (overD F_law)) := by
  have e := hfa.symm.trans (PySem.W.mg_of X G a_law)
  cases e
  have T : Txt K mg { f_wall := f_wall, fd_wall := _, f_is_int := f_is_int, fd_is_int := _, f_is_wheel := f_is_wheel, fd_is_wheel := _, f_is_camera := f_is_camera, fd_is_camera := _, f_wheel_values := f_wheel_values, fd_wheel_values := _, f_has_setting := f_has_setting, fd_has_setting := _, f_check_camera := f_check_camera, fd_check_camera := _, f_check_setting := f_check_setting, fd_check_setting := _, f_check_light := f_check_light, fd_check_light := _, f_find_wheel := f_find_wheel, fd_find_wheel := _, f_all_settings := f_all_settings, fd_all_settings := _, f_find_exposure := f_find_exposure, fd_find_exposure := _, f_find_right := f_find_right, fd_find_right := _, f_check_both := f_check_both, fd_check_both := _, f_count_clicks := f_count_clicks, fd_count_clicks := _, f_Hand_init := f_Hand_init, fd_Hand_init := _, f_Hand_len := f_Hand_len, fd_Hand_len := _, f_Hand_setting := f_Hand_setting, fd_Hand_setting := _, f_Hand_change := f_Hand_change, fd_Hand_change := _, f_Hand_click := f_Hand_click, fd_Hand_click := _, f_Hand_copy := f_Hand_copy, fd_Hand_copy := _, f_check_parts := f_check_parts, fd_check_parts := _, f_check_latitude := f_check_latitude, fd_check_latitude := _, f_find_held := f_find_held, fd_find_held := _, f_held := f_held, fd_held := _, f_find_best := f_find_best, fd_find_best := _, f_best_setting := f_best_setting, fd_best_setting := _, f_least_latitude := f_least_latitude, fd_least_latitude := _, f_check_limits := f_check_limits, fd_check_limits := _, f_find_lack := f_find_lack, fd_find_lack := _, f_find_lacks := f_find_lacks, fd_find_lacks := _, f_allowed := f_allowed, fd_allowed := _, f_find_plans := f_find_plans, fd_find_plans := _, f_check_row := f_check_row, fd_check_row := _, f_find_row := f_find_row, fd_find_row := _, f_best_row := f_best_row, fd_best_row := _, f_all_orders := f_all_orders, fd_all_orders := _, f_best_start := f_best_start, fd_best_start := _, f_law_drawn := f_law_drawn, fd_law_drawn := _, f_law_camera := f_law_camera, fd_law_camera := _, f_law_settings := f_law_settings, fd_law_settings := _, f_law_number := f_law_number, fd_law_number := _, f_law_light := f_law_light, fd_law_light := _, f_law_lists := f_law_lists, fd_law_lists := _, f_M_allowed := f_M_allowed, fd_M_allowed := _, f_M_find_held := f_M_find_held, fd_M_find_held := _, f_M_held := f_M_held, fd_M_held := _, f_M_best_row := f_M_best_row, fd_M_best_row := _, f_M__law_lists := f_M__law_lists, fd_M__law_lists := _, f_law_changed := f_law_changed, fd_law_changed := _, f_law := fa, fd_law := _, C_Hand := C_Hand, C_InvalidBrightness := C_InvalidBrightness, C_InvalidCamera := C_InvalidCamera, C_InvalidLimits := C_InvalidLimits, C_InvalidNumber := C_InvalidNumber, C_InvalidParts := C_InvalidParts, C_InvalidSetting := C_InvalidSetting, C_InvalidWheel := C_InvalidWheel, C_NoClick := C_NoClick, C_TooLarge := C_TooLarge, a_NAMES := a_NAMES } := {
    F_wall := fun_mk (st := s_wall) l_wall c_wall k_wall,
    b_wall := (fun_mk (st := s_wall) l_wall c_wall k_wall).binds (ps := ["k"]) fun _ _ _ _ _ _ us hl => match us, hl with | [_], _ => rfl,
    g_wall := PySem.W.mg_of X G a_wall,
    F_is_int := fun_mk (st := s_is_int) l_is_int c_is_int k_is_int,
    b_is_int := (fun_mk (st := s_is_int) l_is_int c_is_int k_is_int).binds (ps := ["value", "least", "most"]) fun _ _ _ _ _ _ us hl => match us, hl with | [_, _, _], _ => rfl,
    g_is_int := PySem.W.mg_of X G a_is_int,
    F_is_wheel := fun_mk (st := s_is_wheel) l_is_wheel c_is_wheel k_is_wheel,
    b_is_wheel := (fun_mk (st := s_is_wheel) l_is_wheel c_is_wheel k_is_wheel).binds (ps := ["value"]) fun _ _ _ _ _ _ us hl => match us, hl with | [_], _ => rfl,
    g_is_wheel := PySem.W.mg_of X G a_is_wheel,
    F_is_camera := fun_mk (st := s_is_camera) l_is_camera c_is_camera k_is_camera,
    b_is_camera := (fun_mk (st := s_is_camera) l_is_camera c_is_camera k_is_camera).binds (ps := ["candidate"]) fun _ _ _ _ _ _ us hl => match us, hl with | [_], _ => rfl,
    g_is_camera := PySem.W.mg_of X G a_is_camera,
    F_wheel_values := fun_mk (st := s_wheel_values) l_wheel_values c_wheel_values k_wheel_values,
    b_wheel_values := (fun_mk (st := s_wheel_values) l_wheel_values c_wheel_values k_wheel_values).binds (ps := ["wheel"]) fun _ _ _ _ _ _ us hl => match us, hl with | [_], _ => rfl,
    g_wheel_values := PySem.W.mg_of X G a_wheel_values,
    F_has_setting := fun_mk (st := s_has_setting) l_has_setting c_has_setting k_has_setting,
    b_has_setting := (fun_mk (st := s_has_setting) l_has_setting c_has_setting k_has_setting).binds (ps := ["camera", "candidate"]) fun _ _ _ _ _ _ us hl => match us, hl with | [_, _], _ => rfl,
    g_has_setting := PySem.W.mg_of X G a_has_setting,
    F_check_camera := fun_mk (st := s_check_camera) l_check_camera c_check_camera k_check_camera,
    b_check_camera := (fun_mk (st := s_check_camera) l_check_camera c_check_camera k_check_camera).binds (ps := ["value"]) fun _ _ _ _ _ _ us hl => match us, hl with | [_], _ => rfl,
    g_check_camera := PySem.W.mg_of X G a_check_camera,
    F_check_setting := fun_mk (st := s_check_setting) l_check_setting c_check_setting k_check_setting,
    b_check_setting := (fun_mk (st := s_check_setting) l_check_setting c_check_setting k_check_setting).binds (ps := ["camera", "value"]) fun _ _ _ _ _ _ us hl => match us, hl with | [_, _], _ => rfl,
    g_check_setting := PySem.W.mg_of X G a_check_setting,
    F_check_light := fun_mk (st := s_check_light) l_check_light c_check_light k_check_light,
    b_check_light := (fun_mk (st := s_check_light) l_check_light c_check_light k_check_light).binds (ps := ["value"]) fun _ _ _ _ _ _ us hl => match us, hl with | [_], _ => rfl,
    g_check_light := PySem.W.mg_of X G a_check_light,
    F_find_wheel := fun_mk (st := s_find_wheel) l_find_wheel c_find_wheel k_find_wheel,
    b_find_wheel := (fun_mk (st := s_find_wheel) l_find_wheel c_find_wheel k_find_wheel).binds (ps := ["value"]) fun _ _ _ _ _ _ us hl => match us, hl with | [_], _ => rfl,
    g_find_wheel := PySem.W.mg_of X G a_find_wheel,
    F_all_settings := fun_mk (st := s_all_settings) l_all_settings c_all_settings k_all_settings,
    b_all_settings := (fun_mk (st := s_all_settings) l_all_settings c_all_settings k_all_settings).binds (ps := ["camera"]) fun _ _ _ _ _ _ us hl => match us, hl with | [_], _ => rfl,
    g_all_settings := PySem.W.mg_of X G a_all_settings,
    F_find_exposure := fun_mk (st := s_find_exposure) l_find_exposure c_find_exposure k_find_exposure,
    b_find_exposure := (fun_mk (st := s_find_exposure) l_find_exposure c_find_exposure k_find_exposure).binds (ps := ["setting"]) fun _ _ _ _ _ _ us hl => match us, hl with | [_], _ => rfl,
    g_find_exposure := PySem.W.mg_of X G a_find_exposure,
    F_find_right := fun_mk (st := s_find_right) l_find_right c_find_right k_find_right,
    b_find_right := (fun_mk (st := s_find_right) l_find_right c_find_right k_find_right).binds (ps := ["camera", "brightness"]) fun _ _ _ _ _ _ us hl => match us, hl with | [_, _], _ => rfl,
    g_find_right := PySem.W.mg_of X G a_find_right,
    F_check_both := fun_mk (st := s_check_both) l_check_both c_check_both k_check_both,
    b_check_both := (fun_mk (st := s_check_both) l_check_both c_check_both k_check_both).binds (ps := ["camera", "brightness"]) fun _ _ _ _ _ _ us hl => match us, hl with | [_, _], _ => rfl,
    g_check_both := PySem.W.mg_of X G a_check_both,
    F_count_clicks := fun_mk (st := s_count_clicks) l_count_clicks c_count_clicks k_count_clicks,
    b_count_clicks := (fun_mk (st := s_count_clicks) l_count_clicks c_count_clicks k_count_clicks).binds (ps := ["camera", "one", "other"]) fun _ _ _ _ _ _ us hl => match us, hl with | [_, _, _], _ => rfl,
    g_count_clicks := PySem.W.mg_of X G a_count_clicks,
    F_Hand_init := fun_mk (st := s_Hand_init) l_Hand_init c_Hand_init k_Hand_init,
    b_Hand_init := (fun_mk (st := s_Hand_init) l_Hand_init c_Hand_init k_Hand_init).binds (ps := ["self", "camera"]) fun _ _ _ _ _ _ us hl => match us, hl with | [_, _], _ => rfl,
    me_Hand_init := ⟨a_Hand_init, fn_Hand_init, k_Hand_init⟩,
    F_Hand_len := fun_mk (st := s_Hand_len) l_Hand_len c_Hand_len k_Hand_len,
    b_Hand_len := (fun_mk (st := s_Hand_len) l_Hand_len c_Hand_len k_Hand_len).binds (ps := ["self"]) fun _ _ _ _ _ _ us hl => match us, hl with | [_], _ => rfl,
    me_Hand_len := ⟨a_Hand_len, fn_Hand_len, k_Hand_len⟩,
    F_Hand_setting := fun_mk (st := s_Hand_setting) l_Hand_setting c_Hand_setting k_Hand_setting,
    b_Hand_setting := (fun_mk (st := s_Hand_setting) l_Hand_setting c_Hand_setting k_Hand_setting).binds (ps := ["self"]) fun _ _ _ _ _ _ us hl => match us, hl with | [_], _ => rfl,
    me_Hand_setting := ⟨a_Hand_setting, fn_Hand_setting, k_Hand_setting⟩,
    F_Hand_change := fun_mk (st := s_Hand_change) l_Hand_change c_Hand_change k_Hand_change,
    b_Hand_change := (fun_mk (st := s_Hand_change) l_Hand_change c_Hand_change k_Hand_change).binds (ps := ["self", "setting", "many"]) fun _ _ _ _ _ _ us hl => match us, hl with | [_, _, _], _ => rfl,
    me_Hand_change := ⟨a_Hand_change, fn_Hand_change, k_Hand_change⟩,
    F_Hand_click := fun_mk (st := s_Hand_click) l_Hand_click c_Hand_click k_Hand_click,
    b_Hand_click := (fun_mk (st := s_Hand_click) l_Hand_click c_Hand_click k_Hand_click).binds (ps := ["self", "wheel", "step"]) fun _ _ _ _ _ _ us hl => match us, hl with | [_, _, _], _ => rfl,
    me_Hand_click := ⟨a_Hand_click, fn_Hand_click, k_Hand_click⟩,
    F_Hand_copy := fun_mk (st := s_Hand_copy) l_Hand_copy c_Hand_copy k_Hand_copy,
    b_Hand_copy := (fun_mk (st := s_Hand_copy) l_Hand_copy c_Hand_copy k_Hand_copy).binds (ps := ["self"]) fun _ _ _ _ _ _ us hl => match us, hl with | [_], _ => rfl,
    me_Hand_copy := ⟨a_Hand_copy, fn_Hand_copy, k_Hand_copy⟩,
    F_check_parts := fun_mk (st := s_check_parts) l_check_parts c_check_parts k_check_parts,
    b_check_parts := (fun_mk (st := s_check_parts) l_check_parts c_check_parts k_check_parts).binds (ps := ["value"]) fun _ _ _ _ _ _ us hl => match us, hl with | [_], _ => rfl,
    g_check_parts := PySem.W.mg_of X G a_check_parts,
    F_check_latitude := fun_mk (st := s_check_latitude) l_check_latitude c_check_latitude k_check_latitude,
    b_check_latitude := (fun_mk (st := s_check_latitude) l_check_latitude c_check_latitude k_check_latitude).binds (ps := ["value"]) fun _ _ _ _ _ _ us hl => match us, hl with | [_], _ => rfl,
    g_check_latitude := PySem.W.mg_of X G a_check_latitude,
    F_find_held := fun_mk (st := s_find_held) l_find_held c_find_held k_find_held,
    b_find_held := (fun_mk (st := s_find_held) l_find_held c_find_held k_find_held).binds (ps := ["setting", "parts", "latitude"]) fun _ _ _ _ _ _ us hl => match us, hl with | [_, _, _], _ => rfl,
    g_find_held := PySem.W.mg_of X G a_find_held,
    F_held := fun_mk (st := s_held) l_held c_held k_held,
    b_held := (fun_mk (st := s_held) l_held c_held k_held).binds (ps := ["camera", "setting", "parts", "latitude"]) fun _ _ _ _ _ _ us hl => match us, hl with | [_, _, _, _], _ => rfl,
    g_held := PySem.W.mg_of X G a_held,
    F_find_best := fun_mk (st := s_find_best) l_find_best c_find_best k_find_best,
    b_find_best := (fun_mk (st := s_find_best) l_find_best c_find_best k_find_best).binds (ps := ["camera", "parts", "latitude"]) fun _ _ _ _ _ _ us hl => match us, hl with | [_, _, _], _ => rfl,
    g_find_best := PySem.W.mg_of X G a_find_best,
    F_best_setting := fun_mk (st := s_best_setting) l_best_setting c_best_setting k_best_setting,
    b_best_setting := (fun_mk (st := s_best_setting) l_best_setting c_best_setting k_best_setting).binds (ps := ["camera", "parts", "latitude"]) fun _ _ _ _ _ _ us hl => match us, hl with | [_, _, _], _ => rfl,
    g_best_setting := PySem.W.mg_of X G a_best_setting,
    F_least_latitude := fun_mk (st := s_least_latitude) l_least_latitude c_least_latitude k_least_latitude,
    b_least_latitude := (fun_mk (st := s_least_latitude) l_least_latitude c_least_latitude k_least_latitude).binds (ps := ["camera", "parts"]) fun _ _ _ _ _ _ us hl => match us, hl with | [_, _], _ => rfl,
    g_least_latitude := PySem.W.mg_of X G a_least_latitude,
    F_check_limits := fun_mk (st := s_check_limits) l_check_limits c_check_limits k_check_limits,
    b_check_limits := (fun_mk (st := s_check_limits) l_check_limits c_check_limits k_check_limits).binds (ps := ["value"]) fun _ _ _ _ _ _ us hl => match us, hl with | [_], _ => rfl,
    g_check_limits := PySem.W.mg_of X G a_check_limits,
    F_find_lack := fun_mk (st := s_find_lack) l_find_lack c_find_lack k_find_lack,
    b_find_lack := (fun_mk (st := s_find_lack) l_find_lack c_find_lack k_find_lack).binds (ps := ["setting", "limits"]) fun _ _ _ _ _ _ us hl => match us, hl with | [_, _], _ => rfl,
    g_find_lack := PySem.W.mg_of X G a_find_lack,
    F_find_lacks := fun_mk (st := s_find_lacks) l_find_lacks c_find_lacks k_find_lacks,
    b_find_lacks := (fun_mk (st := s_find_lacks) l_find_lacks c_find_lacks k_find_lacks).binds (ps := ["camera", "limits", "brightness"]) fun _ _ _ _ _ _ us hl => match us, hl with | [_, _, _], _ => rfl,
    g_find_lacks := PySem.W.mg_of X G a_find_lacks,
    F_allowed := fun_mk (st := s_allowed) l_allowed c_allowed k_allowed,
    b_allowed := (fun_mk (st := s_allowed) l_allowed c_allowed k_allowed).binds (ps := ["camera", "limits", "brightness"]) fun _ _ _ _ _ _ us hl => match us, hl with | [_, _, _], _ => rfl,
    g_allowed := PySem.W.mg_of X G a_allowed,
    F_find_plans := fun_mk (st := s_find_plans) l_find_plans c_find_plans k_find_plans,
    b_find_plans := (fun_mk (st := s_find_plans) l_find_plans c_find_plans k_find_plans).binds (ps := ["camera", "parts"]) fun _ _ _ _ _ _ us hl => match us, hl with | [_, _], _ => rfl,
    g_find_plans := PySem.W.mg_of X G a_find_plans,
    F_check_row := fun_mk (st := s_check_row) l_check_row c_check_row k_check_row,
    b_check_row := (fun_mk (st := s_check_row) l_check_row c_check_row k_check_row).binds (ps := ["camera", "parts"]) fun _ _ _ _ _ _ us hl => match us, hl with | [_, _], _ => rfl,
    g_check_row := PySem.W.mg_of X G a_check_row,
    F_find_row := fun_mk (st := s_find_row) l_find_row c_find_row k_find_row,
    b_find_row := (fun_mk (st := s_find_row) l_find_row c_find_row k_find_row).binds (ps := ["camera", "parts"]) fun _ _ _ _ _ _ us hl => match us, hl with | [_, _], _ => rfl,
    g_find_row := PySem.W.mg_of X G a_find_row,
    F_best_row := fun_mk (st := s_best_row) l_best_row c_best_row k_best_row,
    b_best_row := (fun_mk (st := s_best_row) l_best_row c_best_row k_best_row).binds (ps := ["camera", "parts"]) fun _ _ _ _ _ _ us hl => match us, hl with | [_, _], _ => rfl,
    g_best_row := PySem.W.mg_of X G a_best_row,
    F_all_orders := fun_mk (st := s_all_orders) l_all_orders c_all_orders k_all_orders,
    b_all_orders := (fun_mk (st := s_all_orders) l_all_orders c_all_orders k_all_orders).binds (ps := ["many"]) fun _ _ _ _ _ _ us hl => match us, hl with | [_], _ => rfl,
    g_all_orders := PySem.W.mg_of X G a_all_orders,
    F_best_start := fun_mk (st := s_best_start) l_best_start c_best_start k_best_start,
    b_best_start := (fun_mk (st := s_best_start) l_best_start c_best_start k_best_start).binds (ps := ["camera", "parts"]) fun _ _ _ _ _ _ us hl => match us, hl with | [_, _], _ => rfl,
    g_best_start := PySem.W.mg_of X G a_best_start,
    F_law_drawn := fun_mk (st := s_law_drawn) l_law_drawn c_law_drawn k_law_drawn,
    b_law_drawn := (fun_mk (st := s_law_drawn) l_law_drawn c_law_drawn k_law_drawn).binds (ps := ["script", "k", "many"]) fun _ _ _ _ _ _ us hl => match us, hl with | [_, _, _], _ => rfl,
    g_law_drawn := PySem.W.mg_of X G a_law_drawn,
    F_law_camera := fun_mk (st := s_law_camera) l_law_camera c_law_camera k_law_camera,
    b_law_camera := (fun_mk (st := s_law_camera) l_law_camera c_law_camera k_law_camera).binds (ps := ["script", "at"]) fun _ _ _ _ _ _ us hl => match us, hl with | [_, _], _ => rfl,
    g_law_camera := PySem.W.mg_of X G a_law_camera,
    F_law_settings := fun_mk (st := s_law_settings) l_law_settings c_law_settings k_law_settings,
    b_law_settings := (fun_mk (st := s_law_settings) l_law_settings c_law_settings k_law_settings).binds (ps := ["camera"]) fun _ _ _ _ _ _ us hl => match us, hl with | [_], _ => rfl,
    g_law_settings := PySem.W.mg_of X G a_law_settings,
    F_law_number := fun_mk (st := s_law_number) l_law_number c_law_number k_law_number,
    b_law_number := (fun_mk (st := s_law_number) l_law_number c_law_number k_law_number).binds (ps := ["setting"]) fun _ _ _ _ _ _ us hl => match us, hl with | [_], _ => rfl,
    g_law_number := PySem.W.mg_of X G a_law_number,
    F_law_light := fun_mk (st := s_law_light) l_law_light c_law_light k_law_light,
    b_law_light := (fun_mk (st := s_law_light) l_law_light c_law_light k_law_light).binds (ps := ["script", "at", "camera"]) fun _ _ _ _ _ _ us hl => match us, hl with | [_, _, _], _ => rfl,
    g_law_light := PySem.W.mg_of X G a_law_light,
    F_law_lists := fun_mk (st := s_law_lists) l_law_lists c_law_lists k_law_lists,
    b_law_lists := (fun_mk (st := s_law_lists) l_law_lists c_law_lists k_law_lists).binds (ps := ["camera", "parts"]) fun _ _ _ _ _ _ us hl => match us, hl with | [_, _], _ => rfl,
    g_law_lists := PySem.W.mg_of X G a_law_lists,
    F_M_allowed := fun_mk (st := s_M_allowed) l_M_allowed c_M_allowed k_M_allowed,
    b_M_allowed := (fun_mk (st := s_M_allowed) l_M_allowed c_M_allowed k_M_allowed).binds (ps := ["camera", "limits", "brightness"]) fun _ _ _ _ _ _ us hl => match us, hl with | [_, _, _], _ => rfl,
    g_M_allowed := PySem.W.mg_of X G a_M_allowed,
    F_M_find_held := fun_mk (st := s_M_find_held) l_M_find_held c_M_find_held k_M_find_held,
    b_M_find_held := (fun_mk (st := s_M_find_held) l_M_find_held c_M_find_held k_M_find_held).binds (ps := ["setting", "parts", "latitude"]) fun _ _ _ _ _ _ us hl => match us, hl with | [_, _, _], _ => rfl,
    g_M_find_held := PySem.W.mg_of X G a_M_find_held,
    F_M_held := fun_mk (st := s_M_held) l_M_held c_M_held k_M_held,
    b_M_held := (fun_mk (st := s_M_held) l_M_held c_M_held k_M_held).binds (ps := ["camera", "setting", "parts", "latitude"]) fun _ _ _ _ _ _ us hl => match us, hl with | [_, _, _, _], _ => rfl,
    g_M_held := PySem.W.mg_of X G a_M_held,
    F_M_best_row := fun_mk (st := s_M_best_row) l_M_best_row c_M_best_row k_M_best_row,
    b_M_best_row := (fun_mk (st := s_M_best_row) l_M_best_row c_M_best_row k_M_best_row).binds (ps := ["camera", "parts"]) fun _ _ _ _ _ _ us hl => match us, hl with | [_, _], _ => rfl,
    g_M_best_row := PySem.W.mg_of X G a_M_best_row,
    F_M__law_lists := fun_mk (st := s_M__law_lists) l_M__law_lists c_M__law_lists k_M__law_lists,
    b_M__law_lists := (fun_mk (st := s_M__law_lists) l_M__law_lists c_M__law_lists k_M__law_lists).binds (ps := ["camera", "parts"]) fun _ _ _ _ _ _ us hl => match us, hl with | [_, _], _ => rfl,
    g_M__law_lists := PySem.W.mg_of X G a_M__law_lists,
    F_law_changed := fun_mk (st := s_law_changed) l_law_changed c_law_changed k_law_changed,
    b_law_changed := (fun_mk (st := s_law_changed) l_law_changed c_law_changed k_law_changed).binds (ps := ["rows"]) fun _ _ _ _ _ _ us hl => match us, hl with | [_], _ => rfl,
    g_law_changed := PySem.W.mg_of X G a_law_changed,
    F_law := fun_mk (st := s_law) l_law c_law k_law,
    b_law := (fun_mk (st := s_law) l_law c_law k_law).binds (ps := ["script"]) fun _ _ _ _ _ _ us hl => match us, hl with | [_], _ => rfl,
    g_law := PySem.W.mg_of X G a_law,
    cls := ⟨clg, cld, clo, cls⟩,
    mkc := ⟨clm, a_Hand_init, fn_Hand_init, clk⟩,
    g_Hand := PySem.W.mg_of X G ax_Hand,
    na_camera := na_camera,
    na_present := na_present,
    na_done := na_done,
    na_undone := na_undone,
    x_InvalidBrightness := x_InvalidBrightness,
    g_InvalidBrightness := PySem.W.mg_of X G ax_InvalidBrightness,
    k_InvalidBrightness := kx_InvalidBrightness,
    bx_InvalidBrightness := bx_InvalidBrightness,
    t_InvalidBrightness := t_InvalidBrightness,
    x_InvalidCamera := x_InvalidCamera,
    g_InvalidCamera := PySem.W.mg_of X G ax_InvalidCamera,
    k_InvalidCamera := kx_InvalidCamera,
    bx_InvalidCamera := bx_InvalidCamera,
    t_InvalidCamera := t_InvalidCamera,
    x_InvalidLimits := x_InvalidLimits,
    g_InvalidLimits := PySem.W.mg_of X G ax_InvalidLimits,
    k_InvalidLimits := kx_InvalidLimits,
    bx_InvalidLimits := bx_InvalidLimits,
    t_InvalidLimits := t_InvalidLimits,
    x_InvalidNumber := x_InvalidNumber,
    g_InvalidNumber := PySem.W.mg_of X G ax_InvalidNumber,
    k_InvalidNumber := kx_InvalidNumber,
    bx_InvalidNumber := bx_InvalidNumber,
    t_InvalidNumber := t_InvalidNumber,
    x_InvalidParts := x_InvalidParts,
    g_InvalidParts := PySem.W.mg_of X G ax_InvalidParts,
    k_InvalidParts := kx_InvalidParts,
    bx_InvalidParts := bx_InvalidParts,
    t_InvalidParts := t_InvalidParts,
    x_InvalidSetting := x_InvalidSetting,
    g_InvalidSetting := PySem.W.mg_of X G ax_InvalidSetting,
    k_InvalidSetting := kx_InvalidSetting,
    bx_InvalidSetting := bx_InvalidSetting,
    t_InvalidSetting := t_InvalidSetting,
    x_InvalidWheel := x_InvalidWheel,
    g_InvalidWheel := PySem.W.mg_of X G ax_InvalidWheel,
    k_InvalidWheel := kx_InvalidWheel,
    bx_InvalidWheel := bx_InvalidWheel,
    t_InvalidWheel := t_InvalidWheel,
    x_NoClick := x_NoClick,
    g_NoClick := PySem.W.mg_of X G ax_NoClick,
    k_NoClick := kx_NoClick,
    bx_NoClick := bx_NoClick,
    t_NoClick := t_NoClick,
    x_TooLarge := x_TooLarge,
    g_TooLarge := PySem.W.mg_of X G ax_TooLarge,
    k_TooLarge := kx_TooLarge,
    bx_TooLarge := bx_TooLarge,
    t_TooLarge := t_TooLarge,
    c_MARK := ⟨_, PySem.W.mg_of X G co_MARK⟩,
    c_MAX_LATITUDE := ⟨_, PySem.W.mg_of X G co_MAX_LATITUDE⟩,
    c_MAX_LEAST := ⟨_, PySem.W.mg_of X G co_MAX_LEAST⟩,
    c_MAX_LIGHT := ⟨_, PySem.W.mg_of X G co_MAX_LIGHT⟩,
    c_MAX_LIMIT := ⟨_, PySem.W.mg_of X G co_MAX_LIMIT⟩,
    c_MAX_MOST := ⟨_, PySem.W.mg_of X G co_MAX_MOST⟩,
    c_MAX_ORDERED := ⟨_, PySem.W.mg_of X G co_MAX_ORDERED⟩,
    c_MAX_PARTS := ⟨_, PySem.W.mg_of X G co_MAX_PARTS⟩,
    c_MAX_STEP := ⟨_, PySem.W.mg_of X G co_MAX_STEP⟩,
    c_MAX_VALUES := ⟨_, PySem.W.mg_of X G co_MAX_VALUES⟩,
    c_MIN_LIGHT := ⟨_, PySem.W.mg_of X G co_MIN_LIGHT⟩,
    c_NAMES := PySem.W.mg_of X G co_NAMES,
    d_NAMES := fun S => dv_written (vs := [.str "aperture", .str "time", .str "sensitivity"]) cl_NAMES rfl rfl (by show 3 ≤ sizeLine; decide) (.cons ⟨_, rfl⟩ (.cons ⟨_, rfl⟩ (.cons ⟨_, rfl⟩ (.nil)))) (⟨rfl, ⟨rfl, ⟨rfl, trivial⟩⟩⟩),
    oe_NAMES := ⟨_, cl_NAMES, rfl, rfl⟩,
    s_NAMES := fun H => .inr ⟨_, _, _, cl_NAMES, rfl, rfl, (by show 3 ≤ sizeLine; decide), (.cons ⟨_, rfl⟩ (.cons ⟨_, rfl⟩ (.cons ⟨_, rfl⟩ (.nil))))⟩,
    c_PARTS := ⟨_, PySem.W.mg_of X G co_PARTS⟩,
    m_abs := PySem.W.mg_none_of X G z_abs,
    m_all := PySem.W.mg_none_of X G z_all,
    m_bool := PySem.W.mg_none_of X G z_bool,
    m_enumerate := PySem.W.mg_none_of X G z_enumerate,
    m_int := PySem.W.mg_none_of X G z_int,
    m_isinstance := PySem.W.mg_none_of X G z_isinstance,
    m_len := PySem.W.mg_none_of X G z_len,
    m_list := PySem.W.mg_none_of X G z_list,
    m_max := PySem.W.mg_none_of X G z_max,
    m_min := PySem.W.mg_none_of X G z_min,
    m_range := PySem.W.mg_none_of X G z_range,
    m_str := PySem.W.mg_none_of X G z_str,
    m_tuple := PySem.W.mg_none_of X G z_tuple,
    m_zip := PySem.W.mg_none_of X G z_zip }
  exact ⟨_, fun s v => .of_eq rfl, fun base _ _ => fn_over (ok_law T)⟩
end Lw
open PySem PySem.W PyProof.Rows
theorem PySem.Challenge.cw_lightsteps_k99_repeated_calls_holds : PySem.Challenge.rw_lightsteps_k99_repeated_calls.Holds := by
  w_on; o_law; k_head; (case hw => w_witness2)
  k_fill
  refine PD.walkD (l := PySem.Challenge.rw_lightsteps_k99_repeated_calls) (k := 9) (F := (PD.overD Lw.F_law)) rfl rfl ⟨rfl, by decide, by decide⟩ (fun w h Y => PySem.W.kIn_of Y) ?F Lw.law_true
  case F =>
    intro w mg fa h KX G hmg
    refine' Lw.all_mk KX G hmg ?ax_Hand ?clg ?cld ?clo ?cls ?clm ?clk ?na_camera ?na_present ?na_done ?na_undone ?a_wall ?l_wall ?c_wall ?k_wall ?a_is_int ?l_is_int ?c_is_int ?k_is_int ?a_is_wheel ?l_is_wheel ?c_is_wheel ?k_is_wheel ?a_is_camera ?l_is_camera ?c_is_camera ?k_is_camera ?a_wheel_values ?l_wheel_values ?c_wheel_values ?k_wheel_values ?a_has_setting ?l_has_setting ?c_has_setting ?k_has_setting ?a_check_camera ?l_check_camera ?c_check_camera ?k_check_camera ?a_check_setting ?l_check_setting ?c_check_setting ?k_check_setting ?a_check_light ?l_check_light ?c_check_light ?k_check_light ?a_find_wheel ?l_find_wheel ?c_find_wheel ?k_find_wheel ?a_all_settings ?l_all_settings ?c_all_settings ?k_all_settings ?a_find_exposure ?l_find_exposure ?c_find_exposure ?k_find_exposure ?a_find_right ?l_find_right ?c_find_right ?k_find_right ?a_check_both ?l_check_both ?c_check_both ?k_check_both ?a_count_clicks ?l_count_clicks ?c_count_clicks ?k_count_clicks ?a_Hand_init ?l_Hand_init ?fn_Hand_init ?c_Hand_init ?k_Hand_init ?a_Hand_len ?l_Hand_len ?fn_Hand_len ?c_Hand_len ?k_Hand_len ?a_Hand_setting ?l_Hand_setting ?fn_Hand_setting ?c_Hand_setting ?k_Hand_setting ?a_Hand_change ?l_Hand_change ?fn_Hand_change ?c_Hand_change ?k_Hand_change ?a_Hand_click ?l_Hand_click ?fn_Hand_click ?c_Hand_click ?k_Hand_click ?a_Hand_copy ?l_Hand_copy ?fn_Hand_copy ?c_Hand_copy ?k_Hand_copy ?a_check_parts ?l_check_parts ?c_check_parts ?k_check_parts ?a_check_latitude ?l_check_latitude ?c_check_latitude ?k_check_latitude ?a_find_held ?l_find_held ?c_find_held ?k_find_held ?a_held ?l_held ?c_held ?k_held ?a_find_best ?l_find_best ?c_find_best ?k_find_best ?a_best_setting ?l_best_setting ?c_best_setting ?k_best_setting ?a_least_latitude ?l_least_latitude ?c_least_latitude ?k_least_latitude ?a_check_limits ?l_check_limits ?c_check_limits ?k_check_limits ?a_find_lack ?l_find_lack ?c_find_lack ?k_find_lack ?a_find_lacks ?l_find_lacks ?c_find_lacks ?k_find_lacks ?a_allowed ?l_allowed ?c_allowed ?k_allowed ?a_find_plans ?l_find_plans ?c_find_plans ?k_find_plans ?a_check_row ?l_check_row ?c_check_row ?k_check_row ?a_find_row ?l_find_row ?c_find_row ?k_find_row ?a_best_row ?l_best_row ?c_best_row ?k_best_row ?a_all_orders ?l_all_orders ?c_all_orders ?k_all_orders ?a_best_start ?l_best_start ?c_best_start ?k_best_start ?a_law_drawn ?l_law_drawn ?c_law_drawn ?k_law_drawn ?a_law_camera ?l_law_camera ?c_law_camera ?k_law_camera ?a_law_settings ?l_law_settings ?c_law_settings ?k_law_settings ?a_law_number ?l_law_number ?c_law_number ?k_law_number ?a_law_light ?l_law_light ?c_law_light ?k_law_light ?a_law_lists ?l_law_lists ?c_law_lists ?k_law_lists ?a_M_allowed ?l_M_allowed ?c_M_allowed ?k_M_allowed ?a_M_find_held ?l_M_find_held ?c_M_find_held ?k_M_find_held ?a_M_held ?l_M_held ?c_M_held ?k_M_held ?a_M_best_row ?l_M_best_row ?c_M_best_row ?k_M_best_row ?a_M__law_lists ?l_M__law_lists ?c_M__law_lists ?k_M__law_lists ?a_law_changed ?l_law_changed ?c_law_changed ?k_law_changed ?a_law ?l_law ?c_law ?k_law ?ax_InvalidBrightness ?x_InvalidBrightness ?kx_InvalidBrightness ?bx_InvalidBrightness ?t_InvalidBrightness ?ax_InvalidCamera ?x_InvalidCamera ?kx_InvalidCamera ?bx_InvalidCamera ?t_InvalidCamera ?ax_InvalidLimits ?x_InvalidLimits ?kx_InvalidLimits ?bx_InvalidLimits ?t_InvalidLimits ?ax_InvalidNumber ?x_InvalidNumber ?kx_InvalidNumber ?bx_InvalidNumber ?t_InvalidNumber ?ax_InvalidParts ?x_InvalidParts ?kx_InvalidParts ?bx_InvalidParts ?t_InvalidParts ?ax_InvalidSetting ?x_InvalidSetting ?kx_InvalidSetting ?bx_InvalidSetting ?t_InvalidSetting ?ax_InvalidWheel ?x_InvalidWheel ?kx_InvalidWheel ?bx_InvalidWheel ?t_InvalidWheel ?ax_NoClick ?x_NoClick ?kx_NoClick ?bx_NoClick ?t_NoClick ?ax_TooLarge ?x_TooLarge ?kx_TooLarge ?bx_TooLarge ?t_TooLarge ?co_MARK ?co_MAX_LATITUDE ?co_MAX_LEAST ?co_MAX_LIGHT ?co_MAX_LIMIT ?co_MAX_MOST ?co_MAX_ORDERED ?co_MAX_PARTS ?co_MAX_STEP ?co_MAX_VALUES ?co_MIN_LIGHT ?co_NAMES ?cl_NAMES ?co_PARTS ?z_abs ?z_all ?z_bool ?z_enumerate ?z_int ?z_isinstance ?z_len ?z_list ?z_max ?z_min ?z_range ?z_str ?z_tuple ?z_zip
    (case ax_Hand => k_is)
    (case clg => k_is)
    (case cld => k_is)
    (case clo => k_is)
    (case cls => k_is)
    (case clm => k_is)
    (case clk => k_is)
    (case na_camera => k_is)
    (case na_present => k_is)
    (case na_done => k_is)
    (case na_undone => k_is)
    (case a_wall => k_is)
    (case l_wall => k_is)
    (case c_wall => k_is)
    (case k_wall => k_is)
    (case a_is_int => k_is)
    (case l_is_int => k_is)
    (case c_is_int => k_is)
    (case k_is_int => k_is)
    (case a_is_wheel => k_is)
    (case l_is_wheel => k_is)
    (case c_is_wheel => k_is)
    (case k_is_wheel => k_is)
    (case a_is_camera => k_is)
    (case l_is_camera => k_is)
    (case c_is_camera => k_is)
    (case k_is_camera => k_is)
    (case a_wheel_values => k_is)
    (case l_wheel_values => k_is)
    (case c_wheel_values => k_is)
    (case k_wheel_values => k_is)
    (case a_has_setting => k_is)
    (case l_has_setting => k_is)
    (case c_has_setting => k_is)
    (case k_has_setting => k_is)
    (case a_check_camera => k_is)
    (case l_check_camera => k_is)
    (case c_check_camera => k_is)
    (case k_check_camera => k_is)
    (case a_check_setting => k_is)
    (case l_check_setting => k_is)
    (case c_check_setting => k_is)
    (case k_check_setting => k_is)
    (case a_check_light => k_is)
    (case l_check_light => k_is)
    (case c_check_light => k_is)
    (case k_check_light => k_is)
    (case a_find_wheel => k_is)
    (case l_find_wheel => k_is)
    (case c_find_wheel => k_is)
    (case k_find_wheel => k_is)
    (case a_all_settings => k_is)
    (case l_all_settings => k_is)
    (case c_all_settings => k_is)
    (case k_all_settings => k_is)
    (case a_find_exposure => k_is)
    (case l_find_exposure => k_is)
    (case c_find_exposure => k_is)
    (case k_find_exposure => k_is)
    (case a_find_right => k_is)
    (case l_find_right => k_is)
    (case c_find_right => k_is)
    (case k_find_right => k_is)
    (case a_check_both => k_is)
    (case l_check_both => k_is)
    (case c_check_both => k_is)
    (case k_check_both => k_is)
    (case a_count_clicks => k_is)
    (case l_count_clicks => k_is)
    (case c_count_clicks => k_is)
    (case k_count_clicks => k_is)
    (case a_Hand_init => k_is)
    (case l_Hand_init => k_is)
    (case fn_Hand_init => k_is)
    (case c_Hand_init => k_is)
    (case k_Hand_init => k_is)
    (case a_Hand_len => k_is)
    (case l_Hand_len => k_is)
    (case fn_Hand_len => k_is)
    (case c_Hand_len => k_is)
    (case k_Hand_len => k_is)
    (case a_Hand_setting => k_is)
    (case l_Hand_setting => k_is)
    (case fn_Hand_setting => k_is)
    (case c_Hand_setting => k_is)
    (case k_Hand_setting => k_is)
    (case a_Hand_change => k_is)
    (case l_Hand_change => k_is)
    (case fn_Hand_change => k_is)
    (case c_Hand_change => k_is)
    (case k_Hand_change => k_is)
    (case a_Hand_click => k_is)
    (case l_Hand_click => k_is)
    (case fn_Hand_click => k_is)
    (case c_Hand_click => k_is)
    (case k_Hand_click => k_is)
    (case a_Hand_copy => k_is)
    (case l_Hand_copy => k_is)
    (case fn_Hand_copy => k_is)
    (case c_Hand_copy => k_is)
    (case k_Hand_copy => k_is)
    (case a_check_parts => k_is)
    (case l_check_parts => k_is)
    (case c_check_parts => k_is)
    (case k_check_parts => k_is)
    (case a_check_latitude => k_is)
    (case l_check_latitude => k_is)
    (case c_check_latitude => k_is)
    (case k_check_latitude => k_is)
    (case a_find_held => k_is)
    (case l_find_held => k_is)
    (case c_find_held => k_is)
    (case k_find_held => k_is)
    (case a_held => k_is)
    (case l_held => k_is)
    (case c_held => k_is)
    (case k_held => k_is)
    (case a_find_best => k_is)
    (case l_find_best => k_is)
    (case c_find_best => k_is)
    (case k_find_best => k_is)
    (case a_best_setting => k_is)
    (case l_best_setting => k_is)
    (case c_best_setting => k_is)
    (case k_best_setting => k_is)
    (case a_least_latitude => k_is)
    (case l_least_latitude => k_is)
    (case c_least_latitude => k_is)
    (case k_least_latitude => k_is)
    (case a_check_limits => k_is)
    (case l_check_limits => k_is)
    (case c_check_limits => k_is)
    (case k_check_limits => k_is)
    (case a_find_lack => k_is)
    (case l_find_lack => k_is)
    (case c_find_lack => k_is)
    (case k_find_lack => k_is)
    (case a_find_lacks => k_is)
    (case l_find_lacks => k_is)
    (case c_find_lacks => k_is)
    (case k_find_lacks => k_is)
    (case a_allowed => k_is)
    (case l_allowed => k_is)
    (case c_allowed => k_is)
    (case k_allowed => k_is)
    (case a_find_plans => k_is)
    (case l_find_plans => k_is)
    (case c_find_plans => k_is)
    (case k_find_plans => k_is)
    (case a_check_row => k_is)
    (case l_check_row => k_is)
    (case c_check_row => k_is)
    (case k_check_row => k_is)
    (case a_find_row => k_is)
    (case l_find_row => k_is)
    (case c_find_row => k_is)
    (case k_find_row => k_is)
    (case a_best_row => k_is)
    (case l_best_row => k_is)
    (case c_best_row => k_is)
    (case k_best_row => k_is)
    (case a_all_orders => k_is)
    (case l_all_orders => k_is)
    (case c_all_orders => k_is)
    (case k_all_orders => k_is)
    (case a_best_start => k_is)
    (case l_best_start => k_is)
    (case c_best_start => k_is)
    (case k_best_start => k_is)
    (case a_law_drawn => k_is)
    (case l_law_drawn => k_is)
    (case c_law_drawn => k_is)
    (case k_law_drawn => k_is)
    (case a_law_camera => k_is)
    (case l_law_camera => k_is)
    (case c_law_camera => k_is)
    (case k_law_camera => k_is)
    (case a_law_settings => k_is)
    (case l_law_settings => k_is)
    (case c_law_settings => k_is)
    (case k_law_settings => k_is)
    (case a_law_number => k_is)
    (case l_law_number => k_is)
    (case c_law_number => k_is)
    (case k_law_number => k_is)
    (case a_law_light => k_is)
    (case l_law_light => k_is)
    (case c_law_light => k_is)
    (case k_law_light => k_is)
    (case a_law_lists => k_is)
    (case l_law_lists => k_is)
    (case c_law_lists => k_is)
    (case k_law_lists => k_is)
    (case a_M_allowed => k_is)
    (case l_M_allowed => k_is)
    (case c_M_allowed => k_is)
    (case k_M_allowed => k_is)
    (case a_M_find_held => k_is)
    (case l_M_find_held => k_is)
    (case c_M_find_held => k_is)
    (case k_M_find_held => k_is)
    (case a_M_held => k_is)
    (case l_M_held => k_is)
    (case c_M_held => k_is)
    (case k_M_held => k_is)
    (case a_M_best_row => k_is)
    (case l_M_best_row => k_is)
    (case c_M_best_row => k_is)
    (case k_M_best_row => k_is)
    (case a_M__law_lists => k_is)
    (case l_M__law_lists => k_is)
    (case c_M__law_lists => k_is)
    (case k_M__law_lists => k_is)
    (case a_law_changed => k_is)
    (case l_law_changed => k_is)
    (case c_law_changed => k_is)
    (case k_law_changed => k_is)
    (case a_law => k_is)
    (case l_law => k_is)
    (case c_law => k_is)
    (case k_law => k_is)
    (case ax_InvalidBrightness => k_is)
    (case x_InvalidBrightness => k_exc)
    (case kx_InvalidBrightness => k_is)
    (case bx_InvalidBrightness => k_is)
    (case t_InvalidBrightness => k_is)
    (case ax_InvalidCamera => k_is)
    (case x_InvalidCamera => k_exc)
    (case kx_InvalidCamera => k_is)
    (case bx_InvalidCamera => k_is)
    (case t_InvalidCamera => k_is)
    (case ax_InvalidLimits => k_is)
    (case x_InvalidLimits => k_exc)
    (case kx_InvalidLimits => k_is)
    (case bx_InvalidLimits => k_is)
    (case t_InvalidLimits => k_is)
    (case ax_InvalidNumber => k_is)
    (case x_InvalidNumber => k_exc)
    (case kx_InvalidNumber => k_is)
    (case bx_InvalidNumber => k_is)
    (case t_InvalidNumber => k_is)
    (case ax_InvalidParts => k_is)
    (case x_InvalidParts => k_exc)
    (case kx_InvalidParts => k_is)
    (case bx_InvalidParts => k_is)
    (case t_InvalidParts => k_is)
    (case ax_InvalidSetting => k_is)
    (case x_InvalidSetting => k_exc)
    (case kx_InvalidSetting => k_is)
    (case bx_InvalidSetting => k_is)
    (case t_InvalidSetting => k_is)
    (case ax_InvalidWheel => k_is)
    (case x_InvalidWheel => k_exc)
    (case kx_InvalidWheel => k_is)
    (case bx_InvalidWheel => k_is)
    (case t_InvalidWheel => k_is)
    (case ax_NoClick => k_is)
    (case x_NoClick => k_exc)
    (case kx_NoClick => k_is)
    (case bx_NoClick => k_is)
    (case t_NoClick => k_is)
    (case ax_TooLarge => k_is)
    (case x_TooLarge => k_exc)
    (case kx_TooLarge => k_is)
    (case bx_TooLarge => k_is)
    (case t_TooLarge => k_is)
    (case co_MARK => k_is)
    (case co_MAX_LATITUDE => k_is)
    (case co_MAX_LEAST => k_is)
    (case co_MAX_LIGHT => k_is)
    (case co_MAX_LIMIT => k_is)
    (case co_MAX_MOST => k_is)
    (case co_MAX_ORDERED => k_is)
    (case co_MAX_PARTS => k_is)
    (case co_MAX_STEP => k_is)
    (case co_MAX_VALUES => k_is)
    (case co_MIN_LIGHT => k_is)
    (case co_NAMES => k_is)
    (case cl_NAMES => k_is)
    (case co_PARTS => k_is)
    (case z_abs => k_is)
    (case z_all => k_is)
    (case z_bool => k_is)
    (case z_enumerate => k_is)
    (case z_int => k_is)
    (case z_isinstance => k_is)
    (case z_len => k_is)
    (case z_list => k_is)
    (case z_max => k_is)
    (case z_min => k_is)
    (case z_range => k_is)
    (case z_str => k_is)
    (case z_tuple => k_is)
    (case z_zip => k_is)
