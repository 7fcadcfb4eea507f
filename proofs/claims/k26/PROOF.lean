import PyProof.Rows.All
import HandS.ForMost
import HandS.ForExc
import HandS.IsInst
import HandS.Zip
import HandS.Wide
import HandS.TupAny
import HandS.TupMul
import HandS.Conv
import HandS.Strs
import HandS.Deep
import HandS.Style
import KE.DataMinMax
import KE.SortData
import HandS.ExcIs
import KE.GoesMore
import KE.GoesEnum
import HandS.TupSets
import HandS.More
import HandS.Nested
import HandS.HotCalls
import HandS.EndTab
import KE.DataFind
import HandS.EndOwn
import KE.KNestM
import PySem.Challenge.RW_lightsteps_k26_errors
set_option Elab.async false
set_option autoImplicit false
set_option linter.all false
set_option maxRecDepth 100000
set_option maxHeartbeats 4000000
namespace PD
open PySem L2

/-! ### results -/
abbrev D := PyData
inductive Res (α : Type) where
  | ok (a : α)
  | err (c : Str)
  | bad
def Res.bind {α β : Type} (r : Res α) (k : α → Res β) : Res β := match r with
  | .ok a => k a
  | .err c => .err c
  | .bad => .bad
theorem bind_ok {α β : Type} (a : α) (k : α → Res β) : (Res.ok a).bind k = k a := rfl
theorem bind_err {α β : Type} (c : Str) (k : α → Res β) : (Res.err c : Res α).bind k = .err c := rfl
theorem bind_bad {α β : Type} (k : α → Res β) : (Res.bad : Res α).bind k = .bad := rfl
def kD : Key → D
  | .inl i => .int i
  | .inr x => .str x

/-! ### data in a heap -/
/-- a list that is read: tracked, known, or a plain list of the written part -/
def LsAt (K : PySem.W.Frag) (S : Hp) (a : Addr) (xs : List V) : Prop :=
  Rd S a (.lst xs) ∨ ∃ (its : List Value) (n : Nat), K.lookup a = some { cls := .type "list", data := .seq its.toArray n } ∧ its.length ≤ sizeLine ∧ Vals xs its
theorem rd_same {S S' : Hp} {a : Addr} {u : HO} (e : Same S S') (h : Rd S a u) : Rd S' a u := by
  rcases h with h | ⟨o, h⟩
  · exact .inl (e _ _ h)
  · exact .inr ⟨o, e _ _ h⟩
theorem ls_of {K : PySem.W.Frag} {S : Hp} {a : Addr} {xs : List V} (h : S a = some (.lst xs)) : LsAt K S a xs := .inl (.inl h)
theorem ls_mono {K : PySem.W.Frag} {S S' : Hp} {a : Addr} {xs : List V} (e : Same S S') (h : LsAt K S a xs) : LsAt K S' a xs := by
  rcases h with (h | ⟨o, h⟩) | h
  · exact .inl (.inl (e _ _ h))
  · exact .inl (.inr ⟨o, e _ _ h⟩)
  · exact .inr h
theorem ls_sq {K : PySem.W.Frag} {S : Hp} {a : Addr} {xs : List V} (h : LsAt K S a xs) : SqL K S a xs := by
  rcases h with h | ⟨its, n, h1, h2, h3⟩
  · exact .inl h
  · exact .inr ⟨_, its.toArray, n, h1, rfl, rfl, rfl, by simpa using h2, by simpa using h3⟩
/-- tuples of ints alone are tracked (all but the one of signs) -/
def allInt (ds : List D) : Bool := ds.all fun d => match d with
  | .int _ => true
  | _ => false
def isSigns : List D → Bool
  | [.int a, .int b, .int c] => decide (a = 1) && decide (b = 1) && decide (c = -1)
  | _ => false
def keyT (ds : List D) : Bool := allInt ds && !isSigns ds
def TpAt (K : PySem.W.Frag) (S : Hp) (a : Addr) (xs : List V) (ds : List D) : Prop := SqT K S a xs ∧ (keyT ds = true → S a = some (.tup xs))
theorem tp_of {K : PySem.W.Frag} {S : Hp} {a : Addr} {xs : List V} {ds : List D} (h : S a = some (.tup xs)) : TpAt K S a xs ds := ⟨SqT.of h, fun _ => h⟩
mutual
def DV (K : PySem.W.Frag) (S : Hp) : V → D → Prop
  | v, .none => v = .non
  | v, .bool b => v = .bl b
  | v, .int i => v = .int i
  | v, .str x => v = .str x
  | v, .list ds => ∃ a xs, v = .ref a ∧ LsAt K S a xs ∧ DVs K S xs ds
  | v, .tuple ds => ∃ a xs, v = .ref a ∧ TpAt K S a xs ds ∧ DVs K S xs ds
  | v, .dict kvs => ∃ a, v = .ref a ∧ ((∃ es : List (Key × V), Rd S a (.dK es) ∧ kvs.map (·.1) = es.map (fun e => kD e.1) ∧ DVp K S (es.map (·.2)) kvs) ∨
      (∃ es : List (List Key × V), Rd S a (.dT es) ∧ kvs.map (·.1) = es.map (fun e => PyData.tuple (e.1.map kD)) ∧ DVp K S (es.map (·.2)) kvs))
def DVs (K : PySem.W.Frag) (S : Hp) : List V → List D → Prop
  | [], [] => True
  | v :: vs, d :: ds => DV K S v d ∧ DVs K S vs ds
  | [], _ :: _ => False
  | _ :: _, [] => False
def DVp (K : PySem.W.Frag) (S : Hp) : List V → List (D × D) → Prop
  | [], [] => True
  | v :: vs, (_, d) :: ds => DV K S v d ∧ DVp K S vs ds
  | [], _ :: _ => False
  | _ :: _, [] => False
end
example (K : PySem.W.Frag) (S : Hp) (v : V) (i : Int) : DV K S v (.int i) = (v = .int i) := rfl
theorem DV_tuple (K : PySem.W.Frag) (S : Hp) (v : V) (ds : List D) : DV K S v (.tuple ds) = (∃ a xs, v = .ref a ∧ TpAt K S a xs ds ∧ DVs K S xs ds) := by rw [DV]
mutual
theorem DV.mono {K : PySem.W.Frag} {S S' : Hp} (e : Same S S') : ∀ (d : D) (v : V), DV K S v d → DV K S' v d
  | .none, v, h => by rw [DV] at h ⊢; exact h
  | .bool b, v, h => by rw [DV] at h ⊢; exact h
  | .int b, v, h => by rw [DV] at h ⊢; exact h
  | .str b, v, h => by rw [DV] at h ⊢; exact h
  | .list ds, v, h => by
    rw [DV] at h ⊢
    obtain ⟨a, xs, h1, h2, h3⟩ := h
    exact ⟨a, xs, h1, ls_mono e h2, DVs.mono e ds xs h3⟩
  | .tuple ds, v, h => by
    rw [DV] at h ⊢
    obtain ⟨a, xs, h1, h2, h3⟩ := h
    refine ⟨a, xs, h1, ⟨?_, fun z => e _ _ (h2.2 z)⟩, DVs.mono e ds xs h3⟩
    rcases h2.1 with (h | ⟨o, h⟩) | h
    · exact .inl (.inl (e _ _ h))
    · exact .inl (.inr ⟨o, e _ _ h⟩)
    · exact .inr h
  | .dict kvs, v, h => by
    rw [DV] at h ⊢
    obtain ⟨a, h1, h2⟩ := h
    refine ⟨a, h1, ?_⟩
    rcases h2 with ⟨es, h2, h3, h4⟩ | ⟨es, h2, h3, h4⟩
    · exact .inl ⟨es, rd_same e h2, h3, DVp.mono e kvs _ h4⟩
    · exact .inr ⟨es, rd_same e h2, h3, DVp.mono e kvs _ h4⟩
theorem DVs.mono {K : PySem.W.Frag} {S S' : Hp} (e : Same S S') : ∀ (ds : List D) (vs : List V), DVs K S vs ds → DVs K S' vs ds
  | [], [], _ => by rw [DVs]; trivial
  | d :: ds, v :: vs, h => by
    rw [DVs] at h ⊢
    exact ⟨DV.mono e d v h.1, DVs.mono e ds vs h.2⟩
  | [], _ :: _, h => by rw [DVs] at h; exact h.elim
  | _ :: _, [], h => by rw [DVs] at h; exact h.elim
theorem DVp.mono {K : PySem.W.Frag} {S S' : Hp} (e : Same S S') : ∀ (ds : List (D × D)) (vs : List V), DVp K S vs ds → DVp K S' vs ds
  | [], [], _ => by rw [DVp]; trivial
  | (_, d) :: ds, v :: vs, h => by
    rw [DVp] at h ⊢
    exact ⟨DV.mono e d v h.1, DVp.mono e ds vs h.2⟩
  | [], _ :: _, h => by rw [DVp] at h; exact h.elim
  | _ :: _, [], h => by rw [DVp] at h; exact h.elim
end
end PD
namespace PD
open PySem L2

/-! ### two heaps: what is shared (S) within what is tracked (H) -/
structure Ext (S H S' H' : Hp) : Prop where
  s : Same S S'
  h : Same H H'
  sh : Same S' H'
  old : ∀ x, H x ≠ none → S' x = S x
theorem same_upd {H : Hp} {p : Addr} {o : HO} (h : H p = none) : Same H (upd H p o) := fun b x e => by
  rw [upd_ne (ne_of_none e h)]
  exact e
theorem Ext.refl {S H : Hp} (h : Same S H) : Ext S H S H := ⟨Same.refl S, Same.refl H, h, fun _ _ => rfl⟩
theorem Ext.trans {S H S1 H1 S2 H2 : Hp} (a : Ext S H S1 H1) (b : Ext S1 H1 S2 H2) : Ext S H S2 H2 :=
  ⟨a.s.trans b.s, a.h.trans b.h, b.sh, fun x hx => by
    refine (b.old x ?_).trans (a.old x hx)
    cases e : H x with
    | none => exact absurd e hx
    | some o => rw [a.h x o e]; exact (fun z => nomatch z)⟩
theorem same_upd2 {S H : Hp} {p : Addr} {o : HO} (h : Same S H) : Same (upd S p o) (upd H p o) := fun b x e => by
  by_cases hb : b = p
  · subst hb
    rw [upd_same] at e ⊢
    exact e
  · rw [upd_ne hb] at e ⊢
    exact h b x e
theorem Ext.new {S H : Hp} {p : Addr} {o : HO} (h : Same S H) (hp : H p = none) : Ext S H (upd S p o) (upd H p o) :=
  ⟨same_upd (h.free hp), same_upd hp, same_upd2 h, fun x hx => upd_ne fun z => hx (by rw [z]; exact hp)⟩
theorem Ext.same {S H S' H' : Hp} (x : Ext S H S' H') : Same S H' := x.s.trans x.sh

/-! ### what is wanted of a result -/
def PostG {α W : Type} (mg : Str → Option Value) (E : XK) (S H : Hp) (R : Hp → W → α → Prop) (r : Res α) (Q : W → Hp → Prop) : Prop := match r with
  | .ok a => ∀ w S' H', Ext S H S' H' → R S' w a → Q w H'
  | .err c => ∀ u H', mg c = some u → Same H H' → E u none H'
  | .bad => False
section
variable {α β W Z : Type} {mg : Str → Option Value} {E : XK} {S H S' H' : Hp}
theorem PostG.mono {R : Hp → W → α → Prop} {r : Res α} {Q : W → Hp → Prop} (x : Ext S H S' H') (h : PostG mg E S H R r Q) : PostG mg E S' H' R r Q := by
  cases r with
  | ok a => exact fun w S2 H2 x2 hr => h w S2 H2 (x.trans x2) hr
  | err c => exact fun u H2 e sm => h u H2 e (x.h.trans sm)
  | bad => exact h
theorem PostG.bind {R1 : Hp → W → α → Prop} {R2 : Hp → Z → β → Prop} {r : Res α} {k : α → Res β} {Q : Z → Hp → Prop} {Q1 : W → Hp → Prop} (h : PostG mg E S H R2 (r.bind k) Q)
    (hk : ∀ a w S' H', Ext S H S' H' → R1 S' w a → PostG mg E S' H' R2 (k a) Q → Q1 w H') : PostG mg E S H R1 r Q1 := by
  cases r with
  | ok a => exact fun w S2 H2 x2 hr => hk a w S2 H2 x2 hr (PostG.mono x2 h)
  | err c => exact h
  | bad => exact h
theorem PostG.ok {R : Hp → W → α → Prop} {a : α} {Q : W → Hp → Prop} (h : PostG mg E S H R (.ok a) Q) {w : W} (x : Ext S H S' H') (hr : R S' w a) : Q w H' := h w S' H' x hr
theorem PostG.ok0 {R : Hp → W → α → Prop} {a : α} {Q : W → Hp → Prop} (h : PostG mg E S H R (.ok a) Q) {w : W} (x : Same S H) (hr : R S w a) : Q w H := h w S H (Ext.refl x) hr
end

/-! ### slots -/
inductive Slot where
  | un
  | d (x : D)
  | own (xs : List D)
  | ownK (kvs : List (Key × D))
  | ownT (kvs : List (List Key × D))
  | raw (v : V)
abbrev DEnv := List Slot
structure RelE (K : PySem.W.Frag) (S H : Hp) (σ : St) (ρ : DEnv) : Prop where
  sh : Same S H
  len : σ.length = ρ.length
  dt : ∀ (i : Nat) (x : D), ρ[i]? = some (Slot.d x) → ∃ v, σ[i]? = some (some v) ∧ DV K S v x
  rw : ∀ (i : Nat) (v : V), ρ[i]? = some (Slot.raw v) → σ[i]? = some (some v)
theorem RelE.mono {K : PySem.W.Frag} {S H S' H' : Hp} {σ : St} {ρ : DEnv} (r : RelE K S H σ ρ) (x : Ext S H S' H') : RelE K S' H' σ ρ :=
  ⟨x.sh, r.len, fun i y e => let ⟨v, h1, h2⟩ := r.dt i y e; ⟨v, h1, h2.mono x.s⟩, r.rw⟩

/-! ### judgements -/
abbrev EqB : Hp → Bool → Bool → Prop := fun _ b c => b = c
structure PD (K : PySem.W.Frag) (mg : Str → Option Value) (X : Cx) (E : XK) (e : Expr) (t : TE) (f : DEnv → Res D) : Prop where
  pe : PE X e t
  sd : ∀ (S H : Hp) (σ : St) (ρ : DEnv) (Q : VK), RelE K S H σ ρ → PostG mg E S H (DV K) (f ρ) Q → t σ H Q
structure TD (K : PySem.W.Frag) (mg : Str → Option Value) (X : Cx) (E : XK) (e : Expr) (t : TT) (f : DEnv → Res Bool) : Prop where
  pe : PT X e t
  sd : ∀ (S H : Hp) (σ : St) (ρ : DEnv) (Q : Bool → Hp → Prop), RelE K S H σ ρ → PostG mg E S H EqB (f ρ) Q → t σ H Q
structure WD (K : PySem.W.Frag) (mg : Str → Option Value) (X : Cx) (E : XK) (e : Expr) (t : TT) (f : DEnv → Res Bool) : Prop where
  pe : PW X e t
  sd : ∀ (S H : Hp) (σ : St) (ρ : DEnv) (Q : Bool → Hp → Prop), RelE K S H σ ρ → PostG mg E S H EqB (f ρ) Q → t σ H Q
structure AD (K : PySem.W.Frag) (mg : Str → Option Value) (X : Cx) (E : XK) (es : List Expr) (t : TA) (f : DEnv → Res (List D)) : Prop where
  pe : PA X es t
  sd : ∀ (S H : Hp) (σ : St) (ρ : DEnv) (Q : List V → Hp → Prop), RelE K S H σ ρ → PostG mg E S H (DVs K) (f ρ) Q → t σ H Q

section
variable {K : PySem.W.Frag} {mg : Str → Option Value} {X : Cx} {E : XK}
/-! ### names, constants -/
def fVar (i : Nat) : DEnv → Res D := fun ρ => match ρ[i]? with
  | some (Slot.d x) => .ok x
  | _ => .bad
theorem pd_var (i : Nat) {x : Str} {pos : Pos} (h : PE X (.Name x pos) (tVar i)) : PD K mg X E (.Name x pos) (tVar i) (fVar i) := ⟨h, fun S H σ ρ Q r h => by
  unfold fVar at h
  split at h
  · rename_i x e
    obtain ⟨v, h1, h2⟩ := r.dt i x e
    exact ⟨v, h1, h.ok0 r.sh h2⟩
  · exact h.elim⟩
theorem pdv (i : Nat) {x : Str} {pos : Pos} (hN : X.N[i]? = some x := by rfl) (hv : Vis X.env.scope x := by first | exact Or.inl rfl | exact Or.inr (Or.inl rfl) | exact Or.inr (Or.inr rfl)) (hd : (x == ("__debug__" : Str)) = false := by decide)
    (hcd : (x == ("__classdict__" : Str)) = false := by decide) : PD K mg X E (.Name x pos) (tVar i) (fVar i) := pd_var i (pe_var hN hv hd hcd)
def fC (d : D) : DEnv → Res D := fun _ => .ok d
theorem pd_c {e : Expr} {v : V} {d : D} (h : PE X e (tC v)) (hd : ∀ S, DV K S v d) : PD K mg X E e (tC v) (fC d) := ⟨h, fun S H σ ρ Q r h => h.ok0 r.sh (hd S)⟩
theorem pd_int {i j pos} : PD K mg X E (.Constant (.int i) j pos) (tC (.int i)) (fC (.int i)) := pd_c pe_int fun _ => rfl
theorem pd_bl {b j pos} : PD K mg X E (.Constant (.bool b) j pos) (tC (.bl b)) (fC (.bool b)) := pd_c pe_bl fun _ => rfl
theorem pd_non {j pos} : PD K mg X E (.Constant .none j pos) (tC .non) (fC .none) := pd_c pe_non fun _ => rfl
theorem pd_str {x j pos} : PD K mg X E (.Constant (.str x) j pos) (tC (.str x)) (fC (.str x)) := pd_c pe_str fun _ => rfl

/-! ### operators -/
def OpS (K : PySem.W.Frag) (mg : Str → Option Value) (E : XK) (r : R2) (g : D → D → Res D) : Prop := ∀ (S H : Hp) (x y : V) (a b : D) (Q : VK), Same S H → DV K S x a → DV K S y b → PostG mg E S H (DV K) (g a b) Q → r x y H Q
def fBin (g : D → D → Res D) (f1 f2 : DEnv → Res D) : DEnv → Res D := fun ρ => (f1 ρ).bind fun a => (f2 ρ).bind fun b => g a b
variable {a b c : Expr} {ta tb tc : TE} {fa fb fc : DEnv → Res D} {pos : Pos}
theorem bin_sd {r : R2} {g : D → D → Res D} (hs : OpS K mg E r g) (ha : PD K mg X E a ta fa) (hb : PD K mg X E b tb fb) (S H : Hp) (σ : St) (ρ : DEnv) (Q : VK) (rl : RelE K S H σ ρ)
    (h : PostG mg E S H (DV K) (fBin g fa fb ρ) Q) : tOp r ta tb σ H Q := by
  refine ha.sd S H σ ρ _ rl (h.bind fun x v S1 H1 x1 d1 h1 => ?_)
  refine hb.sd S1 H1 σ ρ _ (rl.mono x1) (h1.bind fun y u S2 H2 x2 d2 h2 => ?_)
  exact hs S2 H2 v u x y Q x2.sh (d1.mono x2.s) d2 h2
theorem pd_op {op : Operator} {r : R2} {g : D → D → Res D} (ho : OpR X (binaryOp op) r) (hs : OpS K mg E r g) (ha : PD K mg X E a ta fa) (hb : PD K mg X E b tb fb) : PD K mg X E (.BinOp a op b pos) (tOp r ta tb) (fBin g fa fb) :=
  ⟨pe_op ho ha.pe hb.pe, bin_sd hs ha hb⟩
theorem pd_cmp {op : CmpOp} {r : R2} {g : D → D → Res D} (ho : OpR X (compareOp op) r) (hs : OpS K mg E r g) (ha : PD K mg X E a ta fa) (hb : PD K mg X E b tb fb) (hm : behindInMarks op b = false := by first | exact nomark _ | rfl) :
    PD K mg X E (.Compare a [op] [b] pos) (tOp r ta tb) (fBin g fa fb) := ⟨pe_cmpR ho ha.pe hb.pe hm, bin_sd hs ha hb⟩
/-- the truth of a value that is a bool -/
def asB : D → Res Bool
  | .bool b => .ok b
  | _ => .bad
def fTest (f : DEnv → Res D) : DEnv → Res Bool := fun ρ => (f ρ).bind asB
theorem test_sd {e : Expr} {te : TE} {f : DEnv → Res D} (he : PD K mg X E e te f) (S H : Hp) (σ : St) (ρ : DEnv) (Q : Bool → Hp → Prop) (rl : RelE K S H σ ρ) (h : PostG mg E S H EqB (fTest f ρ) Q) : te σ H fun x H1 => ∃ k, x = .bl k ∧ Q k H1 := by
  refine he.sd S H σ ρ _ rl (h.bind fun x v S1 H1 x1 d1 h1 => ?_)
  cases x with
  | bool k => exact ⟨k, d1, h1.ok0 x1.sh rfl⟩
  | _ => exact h1.elim
theorem td_cmp {op : CmpOp} {r : R2} {g : D → D → Res D} (ho : OpR X (compareOp op) r) (hs : OpS K mg E r g) (ha : PD K mg X E a ta fa) (hb : PD K mg X E b tb fb) (hm : behindInMarks op b = false := by first | exact nomark _ | rfl) :
    TD K mg X E (.Compare a [op] [b] pos) (tTest (tOp r ta tb)) (fTest (fBin g fa fb)) :=
  ⟨pt_cmpR ho ha.pe hb.pe hm, fun S H σ ρ Q rl h => test_sd (pd_cmp (pos := pos) ho hs ha hb hm) S H σ ρ Q rl h⟩
theorem td_val {e : Expr} {te : TE} {f : DEnv → Res D} (he : PD K mg X E e te f) (hw : ∀ whole, isTrue e X.env whole = (do let v ← whole; standAt e.pos; holding [v] (truthy v)) := by intro _; rfl) : TD K mg X E e (tB te) (fTest f) :=
  ⟨pt_val he.pe hw, fun S H σ ρ Q rl h => test_sd he S H σ ρ Q rl h⟩
/-! ### not, and, or, if else -/
def fNot (f : DEnv → Res Bool) : DEnv → Res Bool := fun ρ => (f ρ).bind fun b => .ok (!b)
theorem td_not {tA : TT} {f : DEnv → Res Bool} (ha : TD K mg X E a tA f) : TD K mg X E (.UnaryOp .Not a pos) (tNot tA) (fNot f) :=
  ⟨pt_not ha.pe, fun S H σ ρ Q rl h => ha.sd S H σ ρ _ rl (h.bind fun b w S1 H1 x1 e h1 => by cases e; exact h1.ok0 x1.sh rfl)⟩
def fAnd (f g : DEnv → Res Bool) : DEnv → Res Bool := fun ρ => (f ρ).bind fun b => if b = true then g ρ else .ok false
def fOr (f g : DEnv → Res Bool) : DEnv → Res Bool := fun ρ => (f ρ).bind fun b => if b = true then .ok true else g ρ
variable {tA tB' : TT} {gA gB : DEnv → Res Bool} {rest : List Expr}
theorem WD.td {e : Expr} {t : TT} {f : DEnv → Res Bool} (h : WD K mg X E e t f) : TD K mg X E e t f := ⟨h.pe.pt, h.sd⟩
theorem wd_and1 (ha : TD K mg X E a tA gA) : WD K mg X E (.BoolOp .And [a] pos) tA gA := ⟨pw_and1 ha.pe, ha.sd⟩
theorem wd_or1 (ha : TD K mg X E a tA gA) : WD K mg X E (.BoolOp .Or [a] pos) tA gA := ⟨pw_or1 ha.pe, ha.sd⟩
theorem wd_and (ha : TD K mg X E a tA gA) (hb : WD K mg X E (.BoolOp .And (b :: rest) pos) tB' gB) : WD K mg X E (.BoolOp .And (a :: b :: rest) pos) (tAnd tA tB') (fAnd gA gB) :=
  ⟨pw_and ha.pe hb.pe, fun S H σ ρ Q rl h => ha.sd S H σ ρ _ rl (h.bind fun k w S1 H1 x1 e h1 => by
    cases e
    cases k with
    | true => exact hb.sd S1 H1 σ ρ Q (rl.mono x1) h1
    | false => exact h1.ok0 x1.sh rfl)⟩
theorem wd_or (ha : TD K mg X E a tA gA) (hb : WD K mg X E (.BoolOp .Or (b :: rest) pos) tB' gB) : WD K mg X E (.BoolOp .Or (a :: b :: rest) pos) (tOr tA tB') (fOr gA gB) :=
  ⟨pw_or ha.pe hb.pe, fun S H σ ρ Q rl h => ha.sd S H σ ρ _ rl (h.bind fun k w S1 H1 x1 e h1 => by
    cases e
    cases k with
    | false => exact hb.sd S1 H1 σ ρ Q (rl.mono x1) h1
    | true => exact h1.ok0 x1.sh rfl)⟩
/-- .. as values, bools -/
def fAndV (f g : DEnv → Res D) : DEnv → Res D := fun ρ => (fTest f ρ).bind fun b => if b = true then g ρ else .ok (.bool false)
def fOrV (f g : DEnv → Res D) : DEnv → Res D := fun ρ => (fTest f ρ).bind fun b => if b = true then .ok (.bool true) else g ρ
def fNotV (f : DEnv → Res D) : DEnv → Res D := fun ρ => (fTest f ρ).bind fun b => .ok (.bool !b)
theorem pd_one {op} {t : TE} (h : PD K mg X E a t fa) : PD K mg X E (.BoolOp op [a] pos) t fa := ⟨pe_one h.pe, h.sd⟩
theorem pd_and (ha : PD K mg X E a ta fa) (hb : PD K mg X E (.BoolOp .And (b :: rest) pos) tb fb) : PD K mg X E (.BoolOp .And (a :: b :: rest) pos) (tAndV ta tb) (fAndV fa fb) :=
  ⟨pe_and ha.pe hb.pe, fun S H σ ρ Q rl h => by
    refine ha.sd S H σ ρ _ rl ?_
    unfold fAndV fTest at h
    cases e : fa ρ with
    | bad => rw [e] at h; exact h
    | err c => rw [e] at h; exact h
    | ok x =>
      rw [e] at h
      intro v S1 H1 x1 d1
      cases x with
      | bool k =>
        refine ⟨k, d1, ?_⟩
        cases k with
        | true => exact hb.sd S1 H1 σ ρ Q (rl.mono x1) (h.mono x1)
        | false => exact PostG.ok0 (PostG.mono x1 h) x1.sh rfl
      | _ => exact h.elim⟩
theorem pd_or (ha : PD K mg X E a ta fa) (hb : PD K mg X E (.BoolOp .Or (b :: rest) pos) tb fb) : PD K mg X E (.BoolOp .Or (a :: b :: rest) pos) (tOrV ta tb) (fOrV fa fb) :=
  ⟨pe_or ha.pe hb.pe, fun S H σ ρ Q rl h => by
    refine ha.sd S H σ ρ _ rl ?_
    unfold fOrV fTest at h
    cases e : fa ρ with
    | bad => rw [e] at h; exact h
    | err c => rw [e] at h; exact h
    | ok x =>
      rw [e] at h
      intro v S1 H1 x1 d1
      cases x with
      | bool k =>
        refine ⟨k, d1, ?_⟩
        cases k with
        | false => exact hb.sd S1 H1 σ ρ Q (rl.mono x1) (h.mono x1)
        | true => exact PostG.ok0 (PostG.mono x1 h) x1.sh rfl
      | _ => exact h.elim⟩
theorem pd_not (ha : PD K mg X E a ta fa) : PD K mg X E (.UnaryOp .Not a pos) (tNotV ta) (fNotV fa) :=
  ⟨pe_not ha.pe, fun S H σ ρ Q rl h => by
    refine ha.sd S H σ ρ _ rl ?_
    unfold fNotV fTest at h
    cases e : fa ρ with
    | bad => rw [e] at h; exact h
    | err c => rw [e] at h; exact h
    | ok x =>
      rw [e] at h
      intro v S1 H1 x1 d1
      cases x with
      | bool k => exact ⟨k, d1, PostG.ok0 (PostG.mono x1 h) x1.sh rfl⟩
      | _ => exact h.elim⟩
def fIf (g : DEnv → Res Bool) (f1 f2 : DEnv → Res D) : DEnv → Res D := fun ρ => (g ρ).bind fun b => if b = true then f1 ρ else f2 ρ
theorem pd_if (hc : TD K mg X E c tA gA) (ha : PD K mg X E a ta fa) (hb : PD K mg X E b tb fb) : PD K mg X E (.IfExp c a b pos) (tIf tA ta tb) (fIf gA fa fb) :=
  ⟨pe_ifExp hc.pe ha.pe hb.pe, fun S H σ ρ Q rl h => hc.sd S H σ ρ _ rl (h.bind fun k w S1 H1 x1 e h1 => by
    cases e
    cases k with
    | true => exact ha.sd S1 H1 σ ρ Q (rl.mono x1) h1
    | false => exact hb.sd S1 H1 σ ρ Q (rl.mono x1) h1)⟩
/-! ### arguments, displays -/
def fNil : DEnv → Res (List D) := fun _ => .ok []
def fCons (f : DEnv → Res D) (g : DEnv → Res (List D)) : DEnv → Res (List D) := fun ρ => (f ρ).bind fun x => (g ρ).bind fun xs => .ok (x :: xs)
theorem ad_nil : AD K mg X E [] tNil fNil := ⟨pa_nil, fun S H σ ρ Q rl h => h.ok0 rl.sh trivial⟩
theorem ad_cons {e : Expr} {es : List Expr} {te : TE} {t : TA} {f : DEnv → Res D} {g : DEnv → Res (List D)} (ha : PD K mg X E e te f) (hr : AD K mg X E es t g) (hs : starEach (e :: es) X.env = (false, eval e X.env) :: starEach es X.env := by rfl) :
    AD K mg X E (e :: es) (tCons te t) (fCons f g) := ⟨pa_cons ha.pe hr.pe hs, fun S H σ ρ Q rl h => by
  refine ha.sd S H σ ρ _ rl (h.bind fun x v S1 H1 x1 d1 h1 => ?_)
  refine hr.sd S1 H1 σ ρ _ (rl.mono x1) (h1.bind fun xs vs S2 H2 x2 d2 h2 => ?_)
  exact h2.ok0 x2.sh ⟨d1.mono x2.s, d2⟩⟩
theorem DVs.length {K : PySem.W.Frag} {S : Hp} : ∀ {vs : List V} {ds : List D}, DVs K S vs ds → vs.length = ds.length
  | [], [], _ => rfl
  | _ :: vs, _ :: ds, h => congrArg (· + 1) (DVs.length (vs := vs) (ds := ds) h.2)
  | [], _ :: _, h => h.elim
  | _ :: _, [], h => h.elim
def lenOk (n : Nat) : Bool := decide (n ≤ 1000000)
theorem lenOk.le {n : Nat} (h : lenOk n = true) : n ≤ sizeLine := Nat.le_trans (of_decide_eq_true h) (by decide)
theorem lenOk.lt {n : Nat} (h : lenOk n = true) : n < sizeLine := Nat.lt_of_le_of_lt (of_decide_eq_true h) (by decide)
def mkT (xs : List D) : Res D := if lenOk xs.length = true then .ok (.tuple xs) else .bad
def mkL (xs : List D) : Res D := if lenOk xs.length = true then .ok (.list xs) else .bad
def fTup (g : DEnv → Res (List D)) : DEnv → Res D := fun ρ => (g ρ).bind mkT
def fLst (g : DEnv → Res (List D)) : DEnv → Res D := fun ρ => (g ρ).bind mkL
/-- a new tuple, a new list -/
theorem new_tup {S H : Hp} {xs : List V} {ds : List D} {Q : VK} {p : Addr} (sh : Same S H) (d : DVs K S xs ds) (h : PostG mg E S H (DV K) (.ok (.tuple ds)) Q) (hp : H p = none) : Q (.ref p) (upd H p (.tup xs)) :=
  h.ok (Ext.new sh hp) ⟨p, xs, rfl, tp_of upd_same, d.mono (same_upd (sh.free hp))⟩
theorem new_lst {S H : Hp} {xs : List V} {ds : List D} {Q : VK} {p : Addr} (sh : Same S H) (d : DVs K S xs ds) (h : PostG mg E S H (DV K) (.ok (.list ds)) Q) (hp : H p = none) : Q (.ref p) (upd H p (.lst xs)) :=
  h.ok (Ext.new sh hp) ⟨p, xs, rfl, ls_of upd_same, d.mono (same_upd (sh.free hp))⟩
theorem pd_tup {es : List Expr} {t : TA} {g : DEnv → Res (List D)} {k} (h : AD K mg X E es t g) : PD K mg X E (.Tuple es k pos) (tTup t) (fTup g) := ⟨pe_tup h.pe, fun S H σ ρ Q rl hp => by
  refine h.sd S H σ ρ _ rl (hp.bind fun ds vs S1 H1 x1 d1 h1 => ?_)
  unfold mkT at h1
  split at h1
  · rename_i hz
    exact ⟨by rw [d1.length]; exact lenOk.le hz, fun p hn => new_tup (S := S1) x1.sh d1 h1 hn⟩
  · exact h1.elim⟩
theorem pd_lst {es : List Expr} {t : TA} {g : DEnv → Res (List D)} (h : AD K mg X E es t g) : PD K mg X E (.List es pos) (tLst t) (fLst g) := ⟨pe_lst h.pe, fun S H σ ρ Q rl hp => by
  refine h.sd S H σ ρ _ rl (hp.bind fun ds vs S1 H1 x1 d1 h1 => ?_)
  unfold mkL at h1
  split at h1
  · rename_i hz
    exact ⟨by rw [d1.length]; exact lenOk.le hz, fun p hn => new_lst (S := S1) x1.sh d1 h1 hn⟩
  · exact h1.elim⟩
/-! ### calls -/
/-- the promise of a def that is a function of data -/
def spD (K : PySem.W.Frag) (mg : Str → Option Value) (n : Nat) (F : List D → Res D) : Sp := fun vs H Q E => ∃ S ds, Same S H ∧ DVs K S vs ds ∧ vs.length = n ∧ PostG mg E S H (DV K) (F ds) Q
def fCall (n : Nat) (F : List D → Res D) (g : DEnv → Res (List D)) : DEnv → Res D := fun ρ => (g ρ).bind fun ds => if ds.length = n then F ds else .bad
theorem pd_call {n k : Nat} {f : Addr} {fd : FuncData} {ps : List Str} {F : List D → Res D} {x : Str} {p : Pos} {e : Expr} {es : List Expr} {t : TA} {g : DEnv → Res (List D)} (G : FnOk X.prog X.w X.K X.mg X.base (L2.CX X.prog X.w) k f fd ps (spD K mg n F)) (hr : Room k X.A) (hg : Gl X x) (hm : X.mg x = some (.ref f)) (hk : PySem.W.keepIn X.K (.ref f) = true)
    (hb : Binds X.K fd ps []) (hx : Passes (L2.CX X.prog X.w) X E) (ha : AD K mg X E (e :: es) t g) (hdb : (x == ("__debug__" : Str)) = false := by decide) (he : starEach (e :: es) X.env = (false, eval e X.env) :: starEach es X.env := by rfl)
    (hpl : (backTo pos (starEach es X.env)).any (·.1) = false := by rfl) : PD K mg X E (.Call (.Name x p) (e :: es) [] pos) (tCall (spD K mg n F) [] E t) (fCall n F g) :=
  ⟨pe_call G hr hg hm hk hb .nil hx ha.pe hdb he hpl, fun S H σ ρ Q rl h => by
    refine ha.sd S H σ ρ _ rl (h.bind fun ds vs S1 H1 x1 d1 h1 => ?_)
    split at h1
    · rename_i hn
      refine ⟨S1, ds, x1.sh, by rw [List.append_nil]; exact d1, by rw [List.append_nil, d1.length]; exact hn, h1⟩
    · exact h1.elim⟩
theorem pd_call0 {k : Nat} {f : Addr} {fd : FuncData} {ps : List Str} {F : List D → Res D} {x : Str} {p : Pos} (G : FnOk X.prog X.w X.K X.mg X.base (L2.CX X.prog X.w) k f fd ps (spD K mg 0 F)) (hr : Room k X.A) (hg : Gl X x) (hm : X.mg x = some (.ref f)) (hk : PySem.W.keepIn X.K (.ref f) = true)
    (hb : Binds X.K fd ps []) (hx : Passes (L2.CX X.prog X.w) X E) (hdb : (x == ("__debug__" : Str)) = false := by decide) : PD K mg X E (.Call (.Name x p) [] [] pos) (tCall (spD K mg 0 F) [] E tNil) (fCall 0 F fNil) :=
  ⟨pe_call0 G hr hg hm hk hb .nil hx hdb, fun S H σ ρ Q rl h => ⟨S, [], rl.sh, trivial, rfl, h⟩⟩
/-! ### builtins by values -/
def CaS (K : PySem.W.Frag) (mg : Str → Option Value) (E : XK) (r : List V → Hp → VK → Prop) (g : List D → Res D) : Prop := ∀ (S H : Hp) (xs : List V) (ds : List D) (Q : VK), Same S H → DVs K S xs ds → PostG mg E S H (DV K) (g ds) Q → r xs H Q
def fB (g : List D → Res D) (f : DEnv → Res (List D)) : DEnv → Res D := fun ρ => (f ρ).bind g
variable {e : Expr} {es : List Expr} {t : TA} {ga : DEnv → Res (List D)} {x : Str} {p : Pos}
theorem cb_sd {r : List V → Hp → VK → Prop} {g : List D → Res D} (hs : CaS K mg E r g) (ha : AD K mg X E es t ga) (S H : Hp) (σ : St) (ρ : DEnv) (Q : VK) (rl : RelE K S H σ ρ) (h : PostG mg E S H (DV K) (fB g ga ρ) Q) : tCB r t σ H Q :=
  ha.sd S H σ ρ _ rl (h.bind fun ds vs S1 H1 x1 d1 h1 => hs S1 H1 vs ds Q x1.sh d1 h1)
theorem pd_callB {id : String} {r : List V → Hp → VK → Prop} {g : List D → Res D} (hc : CallR X (.builtin id) r) (hs : CaS K mg E r g) (hg : Gl X x) (hm : X.mg x = none) (hv : bootBuiltins x = some (.builtin id)) (ha : AD K mg X E (e :: es) t ga) (hn : x ≠ "__name__" := by decide) (hdb : (x == ("__debug__" : Str)) = false := by decide)
    (he : starEach (e :: es) X.env = (false, eval e X.env) :: starEach es X.env := by rfl) (hpl : (backTo pos (starEach es X.env)).any (·.1) = false := by rfl) : PD K mg X E (.Call (.Name x p) (e :: es) [] pos) (tCB r t) (fB g ga) :=
  ⟨pe_callB hc hg hm hv ha.pe hn hdb he hpl, cb_sd hs ha⟩
theorem pd_callTy {T : String} {r : List V → Hp → VK → Prop} {g : List D → Res D} (hc : CallR X (.type T) r) (hs : CaS K mg E r g) (hg : Gl X x) (hm : X.mg x = none) (hv : bootBuiltins x = some (.type T)) (ha : AD K mg X E (e :: es) t ga) (hn : x ≠ "__name__" := by decide) (hdb : (x == ("__debug__" : Str)) = false := by decide)
    (he : starEach (e :: es) X.env = (false, eval e X.env) :: starEach es X.env := by rfl) (hpl : (backTo pos (starEach es X.env)).any (·.1) = false := by rfl) : PD K mg X E (.Call (.Name x p) (e :: es) [] pos) (tCB r t) (fB g ga) :=
  ⟨pe_callTy hc hg hm hv ha.pe hn hdb he hpl, cb_sd hs ha⟩
/-! ### subscripts -/
theorem pd_ix {r : R2} {g : D → D → Res D} (hr : IxR X r) (hs : OpS K mg E r g) (ha : PD K mg X E a ta fa) (hb : PD K mg X E b tb fb) (hp : PlainIx b := by exact fun _ _ => rfl) : PD K mg X E (.Subscript a b pos) (tOp r ta tb) (fBin g fa fb) :=
  ⟨pe_ix hr ha.pe hb.pe hp, bin_sd hs ha hb⟩
def SlS (K : PySem.W.Frag) (mg : Str → Option Value) (E : XK) (r : V → Option Int → Option Int → Hp → VK → Prop) (g : D → Option Int → Option Int → Res D) : Prop := ∀ (S H : Hp) (x : V) (lo hi : Option Int) (a : D) (Q : VK), Same S H → DV K S x a → PostG mg E S H (DV K) (g a lo hi) Q → r x lo hi H Q
abbrev EqO : Hp → Option Int → Option Int → Prop := fun _ b c => b = c
structure OD (K : PySem.W.Frag) (mg : Str → Option Value) (X : Cx) (E : XK) (e : Option Expr) (t : TO) (f : DEnv → Res (Option Int)) : Prop where
  pe : PO X e t
  sd : ∀ (S H : Hp) (σ : St) (ρ : DEnv) (Q : Option Int → Hp → Prop), RelE K S H σ ρ → PostG mg E S H EqO (f ρ) Q → t σ H Q
def fNoPart : DEnv → Res (Option Int) := fun _ => .ok none
def asI : D → Res (Option Int)
  | .int i => .ok (some i)
  | _ => .bad
def fPart (f : DEnv → Res D) : DEnv → Res (Option Int) := fun ρ => (f ρ).bind asI
theorem od_none : OD K mg X E none tNoPart fNoPart := ⟨po_none, fun S H σ ρ Q rl h => h.ok0 rl.sh rfl⟩
theorem od_some (ha : PD K mg X E a ta fa) : OD K mg X E (some a) (tPart ta) (fPart fa) := ⟨po_some ha.pe, fun S H σ ρ Q rl h => ha.sd S H σ ρ _ rl (h.bind fun y v S1 H1 x1 d1 h1 => by
  cases y with
  | int i => exact ⟨i, d1, h1.ok0 x1.sh rfl⟩
  | _ => exact h1.elim)⟩
def fSl (g : D → Option Int → Option Int → Res D) (f : DEnv → Res D) (fl fh : DEnv → Res (Option Int)) : DEnv → Res D := fun ρ => (f ρ).bind fun x => (fl ρ).bind fun lo => (fh ρ).bind fun hi => g x lo hi
theorem pd_slice {r : V → Option Int → Option Int → Hp → VK → Prop} {g : D → Option Int → Option Int → Res D} {lo hi : Option Expr} {tl th : TO} {fl fh : DEnv → Res (Option Int)} {p2 : Pos} (hr : SlR X r) (hs : SlS K mg E r g) (ha : PD K mg X E a ta fa) (hl : OD K mg X E lo tl fl) (hh : OD K mg X E hi th fh) :
    PD K mg X E (.Subscript a (.Slice lo hi none p2) pos) (tSl r ta tl th) (fSl g fa fl fh) := ⟨pe_slice hr ha.pe hl.pe hh.pe, fun S H σ ρ Q rl h => by
  refine ha.sd S H σ ρ _ rl (h.bind fun y v S1 H1 x1 d1 h1 => ?_)
  refine hl.sd S1 H1 σ ρ _ (rl.mono x1) (h1.bind fun l w S2 H2 x2 e2 h2 => ?_)
  cases e2
  refine hh.sd S2 H2 σ ρ _ ((rl.mono x1).mono x2) (h2.bind fun u w' S3 H3 x3 e3 h3 => ?_)
  cases e3
  exact hs S3 H3 v l u y Q x3.sh ((d1.mono x2.s).mono x3.s) h3⟩
/-- a chain of two comparisons -/
def fChain (g g' : D → D → Res D) (f1 f2 f3 : DEnv → Res D) : DEnv → Res D := fun ρ => (f1 ρ).bind fun x => (f2 ρ).bind fun y => (g x y).bind fun z => (asB z).bind fun k => if k = true then (f3 ρ).bind fun w => g' y w else .ok (.bool false)
theorem asB_bind {β : Type} {z : D} {k : Bool → Res β} {mg : Str → Option Value} {S H : Hp} {W : Type} {R : Hp → W → β → Prop} {Q : W → Hp → Prop} (h : PostG mg E S H R ((asB z).bind k) Q) : ∃ b, z = .bool b ∧ PostG mg E S H R (k b) Q := by
  cases z with
  | bool b => exact ⟨b, rfl, h⟩
  | _ => exact h.elim
theorem chain_sd {r r' : R2} {g g' : D → D → Res D} (hs : OpS K mg E r g) (hs' : OpS K mg E r' g') (ha : PD K mg X E a ta fa) (hb : PD K mg X E b tb fb) (hc : PD K mg X E c tc fc) (S H : Hp) (σ : St) (ρ : DEnv) (Q : VK) (rl : RelE K S H σ ρ)
    (h : PostG mg E S H (DV K) (fChain g g' fa fb fc ρ) Q) : tChain r r' ta tb tc σ H Q := by
  refine ha.sd S H σ ρ _ rl (h.bind fun x v S1 H1 x1 d1 h1 => ?_)
  refine hb.sd S1 H1 σ ρ _ (rl.mono x1) (h1.bind fun y u S2 H2 x2 d2 h2 => ?_)
  refine hs S2 H2 v u x y _ x2.sh (d1.mono x2.s) d2 (h2.bind fun z w S3 H3 x3 d3 h3 => ?_)
  obtain ⟨k, rfl, h3⟩ := asB_bind h3
  refine ⟨k, d3, ?_⟩
  cases k with
  | true =>
    refine hc.sd S3 H3 σ ρ _ (((rl.mono x1).mono x2).mono x3) (PostG.bind h3 fun w2 u2 S4 H4 x4 d4 h4 => ?_)
    exact hs' S4 H4 u u2 y w2 Q x4.sh ((d2.mono x3.s).mono x4.s) d4 h4
  | false => exact h3.ok0 x3.sh rfl
end
end PD
namespace PD
open PySem L2
theorem hU {k : Nat} {A : Around} (r : Room k A) : A.units + 65 < cLine := by have := r.un; omega
theorem hU4 {A : Around} (h : A.units + 65 < cLine) : A.units + 64 < cLine := by omega
/-! ### data for the library's comparison -/
theorem same_t {K : PySem.W.Frag} {H H' : Hp} {a : Addr} {xs : List V} (e : Same H H') (h : SqT K H a xs) : SqT K H' a xs := by
  rcases h with (h | ⟨o, h⟩) | h
  · exact .inl (.inl (e _ _ h))
  · exact .inl (.inr ⟨o, e _ _ h⟩)
  · exact .inr h
mutual
theorem DV.dp {K : PySem.W.Frag} {S H : Hp} (e : Same S H) : ∀ (d : D) (v : V), d.canLay0 = true → DV K S v d → Dp K H v d
  | .none, v, _, h => by rw [DV] at h; subst h; exact .non
  | .bool b, v, _, h => by rw [DV] at h; subst h; exact .bl b
  | .int i, v, _, h => by rw [DV] at h; subst h; exact .int i
  | .str x, v, _, h => by rw [DV] at h; subst h; exact .str x
  | .list ds, v, c, h => by
    rw [DV] at h
    obtain ⟨a, xs, rfl, h2, h3⟩ := h
    exact .lst (ls_sq (ls_mono e h2)) (DVs.dp e ds xs (by rw [PyData.canLay0] at c; exact c) h3)
  | .tuple ds, v, c, h => by
    rw [DV] at h
    obtain ⟨a, xs, rfl, h2, h3⟩ := h
    exact .tup (same_t e h2.1) (DVs.dp e ds xs (by rw [PyData.canLay0] at c; exact c) h3)
  | .dict kvs, v, c, h => by rw [PyData.canLay0] at c; cases c
theorem DVs.dp {K : PySem.W.Frag} {S H : Hp} (e : Same S H) : ∀ (ds : List D) (vs : List V), PyData.canLayAll0 ds = true → DVs K S vs ds → DpAll K H vs ds
  | [], [], _, _ => .nil
  | d :: ds, v :: vs, c, h => by
    rw [PyData.canLayAll0, Bool.and_eq_true] at c
    exact .cons (DV.dp e d v c.1 h.1) (DVs.dp e ds vs c.2 h.2)
  | [], _ :: _, _, h => h.elim
  | _ :: _, [], _, h => h.elim
end
theorem dp_of {K : PySem.W.Frag} {S H : Hp} {d : D} {v : V} (e : Same S H) (c : SeqAt.shaped d = true) (h : DV K S v d) : Dp K H v d := DV.dp e d v (SeqAt.canLay_of_shaped c) h
theorem and_split {a b : Bool} (h : (a && b) = true) : a = true ∧ b = true := by rw [Bool.and_eq_true] at h; exact h
section
variable {K : PySem.W.Frag} {mg : Str → Option Value} {X : Cx} {E : XK}
theorem OpR.imp {f : Value → Value → Sem Value} {r r' : R2} (h : OpR X f r) (i : ∀ x y H Q, r' x y H Q → r x y H Q) : OpR X f r' := fun pins s σ H x y v u Q I rx ry q => h pins s σ H x y v u Q I rx ry (i x y H Q q)
theorem OpS.or {r r' : R2} {g : D → D → Res D} (h : ∀ (S H : Hp) (x y : V) (a b : D) (Q : VK), Same S H → DV K S x a → DV K S y b → PostG mg E S H (DV K) (g a b) Q → r x y H Q ∨ r' x y H Q) : OpS K mg E (fun x y H Q => r x y H Q ∨ r' x y H Q) g := h
/-! ### == and != -/
def gEq (a b : D) : Res D := if (SeqAt.shaped a && SeqAt.shaped b) = true then .ok (.bool (PyData.eqv a b)) else .bad
def gNe (a b : D) : Res D := if (SeqAt.shaped a && SeqAt.shaped b) = true then .ok (.bool (!PyData.eqv a b)) else .bad
theorem os_eq : OpS K mg E (rEqD K) gEq := fun S H x y a b Q sh dx dy h => by
  unfold gEq at h
  split at h
  · rename_i c
    obtain ⟨c1, c2⟩ := and_split c
    exact ⟨a, b, dp_of sh c1 dx, dp_of sh c2 dy, c1, c2, h.ok0 sh rfl⟩
  · exact h.elim
theorem os_ne : OpS K mg E (rNeD K) gNe := fun S H x y a b Q sh dx dy h => by
  unfold gNe at h
  split at h
  · rename_i c
    obtain ⟨c1, c2⟩ := and_split c
    exact ⟨a, b, dp_of sh c1 dx, dp_of sh c2 dy, c1, c2, h.ok0 sh rfl⟩
  · exact h.elim
/-! ### orders of ints -/
def gI (C : Int → Int → Bool) (k : Int → Int → D) : D → D → Res D
  | .int i, .int j => if C i j = true then .ok (k i j) else .bad
  | _, _ => .bad
def gI0 (k : Int → Int → D) : D → D → Res D
  | .int i, .int j => .ok (k i j)
  | _, _ => .bad
theorem os_I0 {k : Int → Int → D} {g : Int → Int → V} (hk : ∀ S i j, DV K S (g i j) (k i j)) : OpS K mg E (rI0 g) (gI0 k) := fun S H x y a b Q sh dx dy h => by
  cases a with
  | int i =>
    cases b with
    | int j => exact ⟨i, j, dx, dy, h.ok0 sh (hk S i j)⟩
    | _ => exact h.elim
  | _ => exact h.elim
theorem os_I {C : Int → Int → Bool} {P : Int → Int → Prop} {k : Int → Int → D} {g : Int → Int → V} (hC : ∀ i j, C i j = true → P i j) (hk : ∀ S i j, DV K S (g i j) (k i j)) : OpS K mg E (rI P g) (gI C k) := fun S H x y a b Q sh dx dy h => by
  cases a with
  | int i =>
    cases b with
    | int j =>
      unfold gI at h
      dsimp only at h
      split at h
      · rename_i c
        exact ⟨i, j, dx, dy, hC i j c, h.ok0 sh (hk S i j)⟩
      · exact h.elim
    | _ => exact h.elim
  | _ => exact h.elim
def gLt : D → D → Res D := gI0 fun i j => .bool (decide (i < j))
def gLe : D → D → Res D := gI0 fun i j => .bool (decide (i ≤ j))
def gGt : D → D → Res D := gI0 fun i j => .bool (decide (j < i))
def gGe : D → D → Res D := gI0 fun i j => .bool (decide (j ≤ i))
def gSub : D → D → Res D := gI0 fun i j => .int (i - j)
theorem os_lt : OpS K mg E (rI0 fun i j => .bl (decide (i < j))) gLt := os_I0 fun _ _ _ => rfl
theorem os_le : OpS K mg E (rI0 fun i j => .bl (decide (i ≤ j))) gLe := os_I0 fun _ _ _ => rfl
theorem os_gt : OpS K mg E (rI0 fun i j => .bl (decide (j < i))) gGt := os_I0 fun _ _ _ => rfl
theorem os_ge : OpS K mg E (rI0 fun i j => .bl (decide (j ≤ i))) gGe := os_I0 fun _ _ _ => rfl
theorem os_sub : OpS K mg E (rI0 fun i j => .int (i - j)) gSub := os_I0 fun _ _ _ => rfl
/-! ### // % ** -/
def divOk (_ j : Int) : Bool := decide (0 < j) && decide (j ≤ 1000000000000000000)
def gDiv : D → D → Res D := gI divOk fun i j => .int (i / j)
theorem os_div : OpS K mg E (rI CDivW fun i j => .int (i / j)) gDiv := os_I (fun i j h => by
  obtain ⟨h1, h2⟩ := and_split h
  have h1 := of_decide_eq_true h1
  have h2 := of_decide_eq_true h2
  refine wide_div (b := 64) h1 ?_ (by decide) (by decide)
  have : (2 : Nat) ^ 64 = 18446744073709551616 := by decide
  omega) fun _ _ _ => rfl
def gMod : D → D → Res D := gI (fun _ j => decide (0 < j)) fun i j => .int (i % j)
theorem os_mod : OpS K mg E (rI (fun _ j => 0 < j) fun i j => .int (i % j)) gMod := os_I (fun i j h => of_decide_eq_true h) fun _ _ _ => rfl
def powOk (i j : Int) : Bool := decide (0 ≤ j) && decide (j ≤ 1000) && decide (0 ≤ i) && decide (i ≤ 1000)
def gPow : D → D → Res D := gI powOk fun i j => .int (i ^ j.toNat)
theorem os_pow : OpS K mg E (rI CPow fun i j => .int (i ^ j.toNat)) gPow := os_I (fun i j h => by
  obtain ⟨h, h4⟩ := and_split h
  obtain ⟨h, h3⟩ := and_split h
  obtain ⟨h1, h2⟩ := and_split h
  have h1 := of_decide_eq_true h1
  have h2 := of_decide_eq_true h2
  have h3 := of_decide_eq_true h3
  have h4 := of_decide_eq_true h4
  have e : (2 : Nat) ^ 64 = 18446744073709551616 := by decide
  exact ⟨h1, by omega, by omega⟩) fun _ _ _ => rfl
/-! ### + -/
theorem DVs.append {K : PySem.W.Frag} {S : Hp} : ∀ {vs ws : List V} {ds es : List D}, DVs K S vs ds → DVs K S ws es → DVs K S (vs ++ ws) (ds ++ es)
  | [], _, [], _, _, h => h
  | _ :: vs, _, _ :: ds, _, h, h' => ⟨h.1, DVs.append (vs := vs) (ds := ds) h.2 h'⟩
  | [], _, _ :: _, _, h, _ => h.elim
  | _ :: _, _, [], _, h, _ => h.elim
/-- xs + ys, of any two lists that are read -/
def rCatR (K : PySem.W.Frag) : R2 := fun x y H Q => ∃ l b xs zs, x = .ref l ∧ y = .ref b ∧ LsAt K H l xs ∧ LsAt K H b zs ∧ xs.length + zs.length ≤ sizeLine ∧ ∀ p, H p = none → Q (.ref p) (upd H p (.lst (xs ++ zs)))
theorem rd_lst {pins : List (Addr × Obj)} {σ : L2.St} {H : Hp} {s : Shared} {a : Addr} {xs : List V} (I : Inv X pins σ H s) (h : LsAt X.K H a xs) : ∃ (its : List Value) (n : Nat), Vals xs its ∧ xs.length = its.length ∧ s.heap.get? a = some { cls := .type "list", data := .seq its.toArray n } := by
  rcases h with h | ⟨its, n, h1, h2, h3⟩
  · obtain ⟨z, its, n, r, e⟩ := h.ok I.hok
    exact ⟨its, n, r, r.length, e⟩
  · exact ⟨its, n, h3, h3.length, I.kIn a _ h1⟩
theorem op_catR : OpR X (binaryOp .Add) (rCatR X.K) := by
  intro pins s σ H x y v u Q I rx ry h
  obtain ⟨l, b, xs, zs, rfl, rfl, hH, hB, hz, q⟩ := h
  cases rx
  cases ry
  obtain ⟨its, n, r, hl, e⟩ := rd_lst I hH
  obtain ⟨its2, n2, r2, hl2, e2⟩ := rd_lst I hB
  refine PySem.P.add_list e e2 ?_ (by rw [List.size_toArray, List.size_toArray]; omega)
  have ea : its.toArray ++ its2.toArray = (its ++ its2).toArray := by simp
  rw [ea]
  exact ⟨.ref _, _, I.lnew (t' := s.toks) (r.append r2) (by rw [List.length_append]; omega), rfl, q _ I.fresh⟩
def rStrAdd : R2 := fun x y H Q => ∃ i j, x = .str i ∧ y = .str j ∧ i.length + j.length ≤ sizeLine ∧ Q (.str (i ++ j)) H
def rAddA (K : PySem.W.Frag) : R2 := fun x y H Q => rI0 (fun i j => .int (i + j)) x y H Q ∨ (rCatR K x y H Q ∨ (rCatA K x y H Q ∨ rStrAdd x y H Q))
theorem op_addA (hK : X.K = K := by rfl) : OpR X (binaryOp .Add) (rAddA K) := by subst hK; exact op_add.or (op_catR.or (op_catA.or op_add_str))
theorem op_eqK (hu : X.A.units + 65 < cLine) (hK : X.K = K := by rfl) : OpR X (compareOp .Eq) (rEqD K) := by subst hK; exact op_eqD (hU4 hu)
theorem op_neK (hu : X.A.units + 65 < cLine) (hK : X.K = K := by rfl) : OpR X (compareOp .NotEq) (rNeD K) := by subst hK; exact op_neD (hU4 hu)
def gAdd : D → D → Res D
  | .int i, .int j => .ok (.int (i + j))
  | .list xs, .list ys => if lenOk (xs.length + ys.length) = true then .ok (.list (xs ++ ys)) else .bad
  | .tuple xs, .tuple ys => if lenOk (xs.length + ys.length) = true then .ok (.tuple (xs ++ ys)) else .bad
  | .str i, .str j => if lenOk (i.length + j.length) = true then .ok (.str (i ++ j)) else .bad
  | _, _ => .bad
theorem os_add : OpS K mg E (rAddA K) gAdd := fun S H x y a b Q sh dx dy h => by
  unfold gAdd at h
  split at h
  · rename_i i j
    exact .inl ⟨i, j, dx, dy, h.ok0 sh rfl⟩
  · rename_i xs ys
    split at h
    · rename_i hz
      rw [DV] at dx dy
      obtain ⟨p, us, rfl, h1, h2⟩ := dx
      obtain ⟨q, ws, rfl, h3, h4⟩ := dy
      refine .inr (.inl ⟨p, q, us, ws, rfl, rfl, ls_mono sh h1, ls_mono sh h3, ?_, fun n hn => new_lst sh (h2.append h4) h hn⟩)
      rw [h2.length, h4.length]
      exact lenOk.le hz
    · exact h.elim
  · rename_i xs ys
    split at h
    · rename_i hz
      rw [DV] at dx dy
      obtain ⟨p, us, rfl, h1, h2⟩ := dx
      obtain ⟨q, ws, rfl, h3, h4⟩ := dy
      have hl : us.length + ws.length ≤ sizeLine := by
        rw [h2.length, h4.length]
        exact lenOk.le hz
      refine .inr (.inr (.inl ⟨p, q, us, ws, rfl, rfl, same_t sh h1.1, same_t sh h3.1, hl, fun e => ?_, fun e e' => ?_, fun _ _ n hn => new_tup sh (h2.append h4) h hn⟩))
      · subst e
        cases xs with
        | nil => exact h.ok0 sh (by rw [DV]; exact ⟨q, ws, rfl, h3, h4⟩)
        | cons _ _ => exact h2.elim
      · subst e'
        cases ys with
        | nil => exact h.ok0 sh (by rw [List.append_nil, DV]; exact ⟨p, us, rfl, h1, h2⟩)
        | cons _ _ => exact h4.elim
    · exact h.elim
  · rename_i i j
    split at h
    · rename_i hz
      exact .inr (.inr (.inr ⟨i, j, dx, dy, lenOk.le hz, h.ok0 sh rfl⟩))
    · exact h.elim
  · exact h.elim
/-! ### * -/
def rRepR : R2 := fun x y H Q => ∃ l k xs, x = .ref l ∧ y = .int k ∧ H l = some (.lst xs) ∧ -(2 ^ 63) ≤ k ∧ k < 2 ^ 63 ∧ xs.length * k.toNat ≤ sizeLine ∧
  ∀ p, H p = none → Q (.ref p) (upd H p (.lst (List.replicate k.toNat xs).flatten))
def mulOk (i j : Int) : Bool := (decide (-1000000000000000000 ≤ i) && decide (i ≤ 1000000000000000000)) || (decide (-1000000000000000000 ≤ j) && decide (j ≤ 1000000000000000000))
def gMulI : D → D → Res D := gI mulOk fun i j => .int (i * j)
theorem os_mulI : OpS K mg E (rI CMul fun i j => .int (i * j)) gMulI := os_I (fun i j h => by
  unfold mulOk at h
  rw [Bool.or_eq_true] at h
  have e : (2 : Int) ^ 64 = 18446744073709551616 := by decide
  rcases h with h | h
  · obtain ⟨h1, h2⟩ := and_split h
    have h1 := of_decide_eq_true h1
    have h2 := of_decide_eq_true h2
    exact .inl ⟨by omega, by omega⟩
  · obtain ⟨h1, h2⟩ := and_split h
    have h1 := of_decide_eq_true h1
    have h2 := of_decide_eq_true h2
    exact .inr ⟨by omega, by omega⟩) fun _ _ _ => rfl
/-! ### in, not in -/
def rInT (K : PySem.W.Frag) : R2 := fun x y H Q => ∃ d ds, Dp K H x d ∧ Dp K H y (.tuple ds) ∧ SeqAt.shaped d = true ∧ SeqAt.shaped (.tuple ds) = true ∧ Q (.bl (ds.any fun z => PyData.eqv z d)) H
def rNotInT (K : PySem.W.Frag) : R2 := fun x y H Q => ∃ d ds, Dp K H x d ∧ Dp K H y (.tuple ds) ∧ SeqAt.shaped d = true ∧ SeqAt.shaped (.tuple ds) = true ∧ Q (.bl (!ds.any fun z => PyData.eqv z d)) H
theorem op_inT (hu : X.A.units + 65 < cLine) : OpR X (compareOp .In) (rInT X.K) := by
  intro pins s σ H x y v u Q I rx ry h
  obtain ⟨d, ds, hd, he, sd, se, q⟩ := h
  obtain ⟨as, r1⟩ := Dp.reads I d x v hd rx
  obtain ⟨bs, r2⟩ := Dp.reads I (.tuple ds) y u he ry
  exact SeqAt.in_tuple_reads r2 r1 (SeqAt.canLay_of_shaped se) (SeqAt.canLay_of_shaped sd) (PyProof.Rows.room_in_shaped sd hu) ⟨.bl _, H, I, rfl, q⟩
theorem op_notInT (hu : X.A.units + 65 < cLine) : OpR X (compareOp .NotIn) (rNotInT X.K) := by
  intro pins s σ H x y v u Q I rx ry h
  obtain ⟨d, ds, hd, he, sd, se, q⟩ := h
  obtain ⟨as, r1⟩ := Dp.reads I d x v hd rx
  obtain ⟨bs, r2⟩ := Dp.reads I (.tuple ds) y u he ry
  exact SeqAt.notIn_tuple_reads r2 r1 (SeqAt.canLay_of_shaped se) (SeqAt.canLay_of_shaped sd) (PyProof.Rows.room_in_shaped sd hu) ⟨.bl _, H, I, rfl, q⟩
theorem op_inK (hu : X.A.units + 65 < cLine) (hK : X.K = K := by rfl) : OpR X (compareOp .In) (fun x y H Q => rInD K x y H Q ∨ rInT K x y H Q) := by subst hK; exact (op_inD hu).or (op_inT hu)
theorem op_notInK (hu : X.A.units + 65 < cLine) (hK : X.K = K := by rfl) : OpR X (compareOp .NotIn) (fun x y H Q => rNotInD K x y H Q ∨ rNotInT K x y H Q) := by subst hK; exact (op_notInD hu).or (op_notInT hu)
def inD (a : D) (ds : List D) : Bool := ds.any fun z => PyData.eqv z a
def gIn (neg : Bool) (a b : D) : Res D := match b with
  | .list ds => if (SeqAt.shaped a && SeqAt.shaped (.list ds)) = true then .ok (.bool (if neg then !inD a ds else inD a ds)) else .bad
  | .tuple ds => if (SeqAt.shaped a && SeqAt.shaped (.tuple ds)) = true then .ok (.bool (if neg then !inD a ds else inD a ds)) else .bad
  | _ => .bad
theorem os_in : OpS K mg E (fun x y H Q => rInD K x y H Q ∨ rInT K x y H Q) (gIn false) := fun S H x y a b Q sh dx dy h => by
  unfold gIn at h
  split at h
  · rename_i ds
    split at h
    · rename_i c
      obtain ⟨c1, c2⟩ := and_split c
      exact .inl ⟨a, ds, dp_of sh c1 dx, dp_of sh c2 dy, c1, c2, h.ok0 sh rfl⟩
    · exact h.elim
  · rename_i ds
    split at h
    · rename_i c
      obtain ⟨c1, c2⟩ := and_split c
      exact .inr ⟨a, ds, dp_of sh c1 dx, dp_of sh c2 dy, c1, c2, h.ok0 sh rfl⟩
    · exact h.elim
  · exact h.elim
theorem os_notin : OpS K mg E (fun x y H Q => rNotInD K x y H Q ∨ rNotInT K x y H Q) (gIn true) := fun S H x y a b Q sh dx dy h => by
  unfold gIn at h
  split at h
  · rename_i ds
    split at h
    · rename_i c
      obtain ⟨c1, c2⟩ := and_split c
      exact .inl ⟨a, ds, dp_of sh c1 dx, dp_of sh c2 dy, c1, c2, h.ok0 sh rfl⟩
    · exact h.elim
  · rename_i ds
    split at h
    · rename_i c
      obtain ⟨c1, c2⟩ := and_split c
      exact .inr ⟨a, ds, dp_of sh c1 dx, dp_of sh c2 dy, c1, c2, h.ok0 sh rfl⟩
    · exact h.elim
  · exact h.elim
/-! ### is -/
def rIsA : R2 := fun x y H Q => (y = .non ∧ Q (.bl (decide (x = .non))) H) ∨ rIsB x y H Q
def rIsNotA : R2 := fun x y H Q => (y = .non ∧ Q (.bl (!decide (x = .non))) H) ∨ rNotB x y H Q
theorem op_isA : OpR X (compareOp .Is) rIsA := op_isN.or op_isBl
theorem op_isNotA : OpR X (compareOp .IsNot) rIsNotA := op_notN.or op_notBl
def isNone : D → Bool
  | .none => true
  | _ => false
theorem DV.isNone {K : PySem.W.Frag} {S : Hp} {v : V} {d : D} (h : DV K S v d) : decide (v = .non) = PD.isNone d := by
  cases d with
  | none => rw [DV] at h; subst h; rfl
  | bool b => rw [DV] at h; subst h; rfl
  | int b => rw [DV] at h; subst h; rfl
  | str b => rw [DV] at h; subst h; rfl
  | list b => rw [DV] at h; obtain ⟨a, xs, rfl, _⟩ := h; rfl
  | tuple b => rw [DV] at h; obtain ⟨a, xs, rfl, _⟩ := h; rfl
  | dict b => rw [DV] at h; obtain ⟨a, rfl, _⟩ := h; rfl
def gIs (neg : Bool) (a b : D) : Res D := match b with
  | .none => .ok (.bool (if neg then !isNone a else isNone a))
  | .bool k => match a with
    | .bool j => .ok (.bool (if neg then !decide (j = k) else decide (j = k)))
    | _ => .bad
  | _ => .bad
theorem os_is : OpS K mg E rIsA (gIs false) := fun S H x y a b Q sh dx dy h => by
  unfold gIs at h
  split at h
  · refine .inl ⟨dy, ?_⟩
    rw [dx.isNone]
    exact h.ok0 sh rfl
  · split at h
    · exact .inr ⟨_, _, dx, dy, h.ok0 sh rfl⟩
    · exact h.elim
  · exact h.elim
theorem os_isnot : OpS K mg E rIsNotA (gIs true) := fun S H x y a b Q sh dx dy h => by
  unfold gIs at h
  split at h
  · refine .inl ⟨dy, ?_⟩
    rw [dx.isNone]
    exact h.ok0 sh rfl
  · split at h
    · exact .inr ⟨_, _, dx, dy, h.ok0 sh rfl⟩
    · exact h.elim
  · exact h.elim
/-! ### a[i] -/
def ixD (xs : List D) (i : Int) : Option D := if 0 ≤ i then xs[i.toNat]? else if -(xs.length : Int) ≤ i then xs[(i + xs.length).toNat]? else none
def gIx : D → D → Res D
  | .list xs, .int i => match ixD xs i with
    | some d => .ok d
    | none => .bad
  | .tuple xs, .int i => match ixD xs i with
    | some d => .ok d
    | none => .bad
  | _, _ => .bad
theorem DVs.get {K : PySem.W.Frag} {S : Hp} : ∀ {vs : List V} {ds : List D} {i : Nat} {d : D}, DVs K S vs ds → ds[i]? = some d → ∃ v, vs[i]? = some v ∧ DV K S v d
  | v :: _, d :: _, 0, x, h, e => by
    have e : d = x := Option.some.inj e
    subst e
    exact ⟨v, rfl, h.1⟩
  | _ :: vs, _ :: ds, i + 1, x, h, e => DVs.get (vs := vs) (ds := ds) (i := i) h.2 e
  | [], [], _, _, _, e => by simp at e
  | [], _ :: _, _, _, h, _ => h.elim
  | _ :: _, [], _, _, h, _ => h.elim
theorem ixD_at {K : PySem.W.Frag} {S : Hp} {vs : List V} {ds : List D} {i : Int} {d : D} (h : DVs K S vs ds) (e : ixD ds i = some d) : ∃ v, atI vs i = some v ∧ DV K S v d := by
  unfold ixD at e
  unfold atI ixN
  rw [h.length]
  split at e
  · rename_i h0
    obtain ⟨v, h1, h2⟩ := h.get e
    have hl : i.toNat < ds.length := (List.getElem?_eq_some_iff.mp e).1
    rw [if_pos h0, if_pos (by omega)]
    exact ⟨v, h1, h2⟩
  · rename_i h0
    split at e
    · rename_i h1
      obtain ⟨v, h2, h3⟩ := h.get e
      rw [if_neg h0, if_pos h1]
      exact ⟨v, h2, h3⟩
    · cases e
def rIxA (K : PySem.W.Frag) : R2 := fun x y H Q => rIxL K x y H Q ∨ rIxT K x y H Q
theorem ix_A (hK : X.K = K := by rfl) : IxR X (rIxA K) := by subst hK; exact ix_list.or ix_tup
theorem os_ix : OpS K mg E (rIxA K) gIx := fun S H x y a b Q sh dx dy h => by
  unfold gIx at h
  split at h
  · rename_i xs i
    split at h
    · rename_i d e
      rw [DV] at dx
      obtain ⟨p, us, rfl, h1, h2⟩ := dx
      obtain ⟨v, h3, h4⟩ := ixD_at h2 e
      exact .inl ⟨p, us, i, v, rfl, dy, ls_sq (ls_mono sh h1), h3, h.ok0 sh h4⟩
    · exact h.elim
  · rename_i xs i
    split at h
    · rename_i d e
      rw [DV] at dx
      obtain ⟨p, us, rfl, h1, h2⟩ := dx
      obtain ⟨v, h3, h4⟩ := ixD_at h2 e
      exact .inr ⟨p, us, i, v, rfl, dy, same_t sh h1.1, h3, h.ok0 sh h4⟩
    · exact h.elim
  · exact h.elim
/-! ### a[lo:hi] -/
def cutD (xs : List D) (lo hi : Option Int) : List D := (xs.drop (HT.sIx xs.length 0 lo)).take (HT.sIx xs.length xs.length hi - HT.sIx xs.length 0 lo)
theorem DVs.drop {K : PySem.W.Frag} {S : Hp} : ∀ {vs : List V} {ds : List D} (i : Nat), DVs K S vs ds → DVs K S (vs.drop i) (ds.drop i)
  | _, _, 0, h => h
  | [], [], _ + 1, _ => trivial
  | _ :: vs, _ :: ds, i + 1, h => DVs.drop (vs := vs) (ds := ds) i h.2
  | [], _ :: _, _ + 1, h => h.elim
  | _ :: _, [], _ + 1, h => h.elim
theorem DVs.take {K : PySem.W.Frag} {S : Hp} : ∀ {vs : List V} {ds : List D} (i : Nat), DVs K S vs ds → DVs K S (vs.take i) (ds.take i)
  | _, _, 0, _ => trivial
  | [], [], _ + 1, _ => trivial
  | _ :: vs, _ :: ds, i + 1, h => ⟨h.1, DVs.take (vs := vs) (ds := ds) i h.2⟩
  | [], _ :: _, _ + 1, h => h.elim
  | _ :: _, [], _ + 1, h => h.elim
theorem DVs.cut {K : PySem.W.Frag} {S : Hp} {vs : List V} {ds : List D} (lo hi : Option Int) (h : DVs K S vs ds) : DVs K S (cutV vs lo hi) (cutD ds lo hi) := by
  unfold cutV cutD
  rw [h.length]
  exact (h.drop _).take _
def gSl (a : D) (lo hi : Option Int) : Res D := match a with
  | .list xs => .ok (.list (cutD xs lo hi))
  | .tuple xs => .ok (.tuple (cutD xs lo hi))
  | _ => .bad
def rSlD (K : PySem.W.Frag) : V → Option Int → Option Int → Hp → VK → Prop := fun x lo hi H Q => rSlL K x lo hi H Q ∨ rSlA K x lo hi H Q
theorem sl_D (hK : X.K = K := by rfl) : SlR X (rSlD K) := by subst hK; exact sl_list.or sl_tupA
theorem ss_sl : SlS K mg E (rSlD K) gSl := fun S H x lo hi a Q sh dx h => by
  unfold gSl at h
  split at h
  · rename_i xs
    rw [DV] at dx
    obtain ⟨p, us, rfl, h1, h2⟩ := dx
    exact .inl ⟨p, us, rfl, ls_sq (ls_mono sh h1), fun n hn => new_lst sh (h2.cut lo hi) h hn⟩
  · rename_i xs
    rw [DV] at dx
    obtain ⟨p, us, rfl, h1, h2⟩ := dx
    refine .inr ⟨p, us, rfl, same_t sh h1.1, fun hw => ?_, fun _ n hn => new_tup sh (h2.cut lo hi) h hn⟩
    refine h.ok0 sh ?_
    have e : cutD xs lo hi = xs := by
      unfold cutD
      rw [h2.length] at hw
      rw [hw.1, hw.2, List.drop_zero, Nat.sub_zero, List.take_length]
    rw [e, DV]
    exact ⟨p, us, rfl, h1, h2⟩
  · exact h.elim
end
end PD
namespace PD
open PySem L2
/-! ### targets -/
def setAll (σ : L2.St) : List Nat → List V → L2.St
  | i :: is, v :: vs => setAll (σ.set i (some v)) is vs
  | _, _ => σ
def setD (ρ : DEnv) : List Nat → List D → DEnv
  | i :: is, d :: ds => setD (ρ.set i (.d d)) is ds
  | _, _ => ρ
structure GD (K : PySem.W.Frag) (X : Cx) (tg : Expr) (g : TG) (is : List Nat) (h : D → Option (List D)) : Prop where
  pg : PG X tg g
  sd : ∀ (S H : Hp) (v : V) (σ : L2.St) (d : D) (ds : List D) (Q : L2.St → Hp → Prop), Same S H → DV K S v d → h d = some ds → (∀ vs, DVs K S vs ds → Q (setAll σ is vs) H) → g v σ H Q
def hOne (d : D) : Option (List D) := some [d]
def hTup (n : Nat) : D → Option (List D)
  | .tuple ds => if ds.length = n then some ds else none
  | _ => none
structure GDs (X : Cx) (ts : List Expr) (g : TGs) (is : List Nat) : Prop where
  pg : PGs X ts g
  sd : ∀ (H : Hp) (vs : List V) (σ : L2.St) (Q : L2.St → Hp → Prop), vs.length = is.length → Q (setAll σ is vs) H → g vs σ H Q
section
variable {K : PySem.W.Frag} {mg : Str → Option Value} {X : Cx} {E : XK} {pos : Pos}
theorem gd_name {i : Nat} {x : Str} (h : PG X (.Name x pos) (gName i)) : GD K X (.Name x pos) (gName i) [i] hOne := ⟨h, fun S H v σ d ds Q sh dv e q => by
  cases e
  exact q [v] ⟨dv, trivial⟩⟩
theorem gds_nil : GDs X [] gNil [] := ⟨pgs_nil, fun H vs σ Q hl q => by
  cases vs with
  | nil => exact ⟨rfl, q⟩
  | cons _ _ => cases hl⟩
theorem gds_cons {e : Expr} {es : List Expr} {i : Nat} {u : TGs} {is : List Nat} (h1 : PG X e (gName i)) (h2 : GDs X es u is) (hs : (assignEach (e :: es) X.env).map (·.2) = assign e X.env :: (assignEach es X.env).map (·.2) := by rfl) :
    GDs X (e :: es) (gCons (gName i) u) (i :: is) := ⟨pgs_cons h1 h2.pg hs, fun H vs σ Q hl q => by
  cases vs with
  | nil => cases hl
  | cons v vs => exact ⟨v, vs, rfl, h2.sd H vs _ Q (Nat.succ.inj hl) q⟩⟩
theorem gd_tup {es : List Expr} {k : Nat} {t : TGs} {n : Nat} {is : List Nat} (hc : X.calm = true) (h : GDs X es t is) (hn : (assignEach es X.env).length = n := by rfl) (hst : (assignEach es X.env).findIdx? (·.1) = none := by rfl) (hl : is.length = n := by rfl) (hK : X.K = K := by rfl) :
    GD K X (.Tuple es k pos) (gTup K n t) is (hTup n) := ⟨hK ▸ pg_tup hc h.pg hn hst, fun S H v σ d ds Q sh dv e q => by
  cases d with
  | tuple xs =>
    unfold hTup at e
    dsimp only at e
    split at e
    · rename_i hx
      cases e
      rw [DV] at dv
      obtain ⟨a, us, rfl, h1, h2⟩ := dv
      exact ⟨a, us, rfl, same_t sh h1.1, by rw [h2.length]; exact hx, h.sd H us σ Q (by rw [h2.length, hl]; exact hx) (q us h2)⟩
    · cases e
  | _ => cases e⟩
end
theorem setAll_length : ∀ (is : List Nat) (vs : List V) (σ : L2.St), (setAll σ is vs).length = σ.length
  | [], _, _ => rfl
  | _ :: _, [], _ => rfl
  | i :: is, v :: vs, σ => by
    show (setAll (σ.set i (some v)) is vs).length = σ.length
    rw [setAll_length is vs, List.length_set]
theorem setD_length : ∀ (is : List Nat) (vs : List D) (ρ : DEnv), (setD ρ is vs).length = ρ.length
  | [], _, _ => rfl
  | _ :: _, [], _ => rfl
  | i :: is, v :: vs, ρ => by
    show (setD (ρ.set i (.d v)) is vs).length = ρ.length
    rw [setD_length is vs, List.length_set]
/-! ### slots forgotten -/
def wipeD (ρ : DEnv) : List Nat → DEnv
  | [] => ρ
  | v :: vs => (wipeD ρ vs).set v .un
theorem RelE.set {K : PySem.W.Frag} {S H : Hp} {σ : L2.St} {ρ : DEnv} {i : Nat} {v : V} {d : D} (r : RelE K S H σ ρ) (h : DV K S v d) : RelE K S H (σ.set i (some v)) (ρ.set i (.d d)) := by
  have hl := r.len
  refine ⟨r.sh, by rw [List.length_set, List.length_set]; exact hl, fun j x e => ?_, fun j x e => ?_⟩
  · by_cases hj : i = j
    · subst hj
      by_cases hi : i < ρ.length
      · rw [List.getElem?_set_self hi] at e
        cases e
        exact ⟨v, List.getElem?_set_self (by omega), h⟩
      · rw [List.getElem?_eq_none (by rw [List.length_set]; omega)] at e
        cases e
    · rw [List.getElem?_set_ne hj] at e ⊢
      exact r.dt j x e
  · by_cases hj : i = j
    · subst hj
      by_cases hi : i < ρ.length
      · rw [List.getElem?_set_self hi] at e
        cases e
      · rw [List.getElem?_eq_none (by rw [List.length_set]; omega)] at e
        cases e
    · rw [List.getElem?_set_ne hj] at e ⊢
      exact r.rw j x e
theorem RelE.setAll {K : PySem.W.Frag} {S H : Hp} : ∀ (is : List Nat) (vs : List V) (ds : List D) {σ : L2.St} {ρ : DEnv}, RelE K S H σ ρ → DVs K S vs ds → RelE K S H (PD.setAll σ is vs) (setD ρ is ds)
  | [], _, _, _, _, r, _ => by cases ‹List V› <;> cases ‹List D› <;> exact r
  | _ :: _, [], [], _, _, r, _ => r
  | i :: is, v :: vs, d :: ds, σ, ρ, r, h => by
    show RelE K S H (PD.setAll (σ.set i (some v)) is vs) (setD (ρ.set i (.d d)) is ds)
    exact RelE.setAll is vs ds (r.set h.1) h.2
  | _ :: _, [], _ :: _, _, _, _, h => h.elim
  | _ :: _, _ :: _, [], _, _, _, h => h.elim
theorem wipeD_length (ρ : DEnv) : ∀ vs : List Nat, (wipeD ρ vs).length = ρ.length
  | [] => rfl
  | v :: vs => by unfold wipeD; rw [List.length_set, wipeD_length ρ vs]
theorem RelE.wipe {K : PySem.W.Frag} {S H : Hp} {σ : L2.St} {ρ : DEnv} (r : RelE K S H σ ρ) : ∀ vs : List Nat, RelE K S H (L2.wipe σ vs) (wipeD ρ vs)
  | [] => r
  | v :: vs => by
    have q := RelE.wipe r vs
    unfold L2.wipe wipeD
    refine ⟨q.sh, by rw [List.length_set, List.length_set]; exact q.len, fun j x e => ?_, fun j x e => ?_⟩
    · by_cases hj : v = j
      · subst hj
        by_cases hi : v < (wipeD ρ vs).length
        · rw [List.getElem?_set_self hi] at e
          cases e
        · rw [List.getElem?_eq_none (by rw [List.length_set]; omega)] at e
          cases e
      · rw [List.getElem?_set_ne hj] at e ⊢
        exact q.dt j x e
    · by_cases hj : v = j
      · subst hj
        by_cases hi : v < (wipeD ρ vs).length
        · rw [List.getElem?_set_self hi] at e
          cases e
        · rw [List.getElem?_eq_none (by rw [List.length_set]; omega)] at e
          cases e
      · rw [List.getElem?_set_ne hj] at e ⊢
        exact q.rw j x e
theorem wipe_set {i : Nat} {v : Option V} : ∀ {vs : List Nat} {σ : L2.St}, i ∈ vs → L2.wipe (σ.set i v) vs = L2.wipe σ vs
  | j :: vs, σ, h => by
    show (L2.wipe (σ.set i v) vs).set j none = (L2.wipe σ vs).set j none
    by_cases hm : i ∈ vs
    · rw [wipe_set hm]
    · have e : i = j := by
        rcases List.mem_cons.mp h with z | z
        · exact z
        · exact absurd z hm
      subst e
      have key : ∀ (ws : List Nat) (τ : L2.St), i ∉ ws → L2.wipe (τ.set i v) ws = (L2.wipe τ ws).set i v := by
        intro ws
        induction ws with
        | nil => intro τ _; rfl
        | cons k ws ih =>
          intro τ hk
          show (L2.wipe (τ.set i v) ws).set k none = ((L2.wipe τ ws).set k none).set i v
          rw [ih τ (fun z => hk (List.mem_cons_of_mem _ z)), List.set_comm _ _ (fun z : i = k => hk (by rw [z]; exact List.mem_cons_self))]
      rw [key vs σ hm, List.set_set]
theorem wipe_wipe {σ : L2.St} : ∀ (vs ws : List Nat), (∀ i ∈ ws, i ∈ vs) → L2.wipe (L2.wipe σ ws) vs = L2.wipe σ vs
  | _, [], _ => rfl
  | vs, w :: ws, h => by
    show L2.wipe ((L2.wipe σ ws).set w none) vs = L2.wipe σ vs
    rw [wipe_set (h w List.mem_cons_self), wipe_wipe vs ws fun i hi => h i (List.mem_cons_of_mem _ hi)]
theorem wipe_setAll : ∀ (is : List Nat) (xs : List V) {vs : List Nat} {σ : L2.St}, (∀ i ∈ is, i ∈ vs) → L2.wipe (PD.setAll σ is xs) vs = L2.wipe σ vs
  | [], xs, vs, σ, _ => by cases xs <;> rfl
  | _ :: _, [], vs, σ, _ => rfl
  | i :: is, x :: xs, vs, σ, h => by
    show L2.wipe (PD.setAll (σ.set i (some x)) is xs) vs = L2.wipe σ vs
    rw [wipe_setAll is xs fun j hj => h j (List.mem_cons_of_mem _ hj), wipe_set (h i List.mem_cons_self)]
/-! ### what is walked -/
def Walks (K : PySem.W.Frag) (S : Hp) (J : It) (ds : List D) : Prop := ∀ S' H', Same S S' → Same S' H' →
  (∀ (i : Nat) (d : D), ds[i]? = some d → J.go i H' ∧ ∀ x H'', J.yld i H' x H'' → ∃ S'', Ext S' H' S'' H'' ∧ DV K S'' x d) ∧ J.stop ds.length H'
theorem Walks.mono {K : PySem.W.Frag} {S S1 : Hp} {J : It} {ds : List D} (w : Walks K S J ds) (e : Same S S1) : Walks K S1 J ds := fun S' H' h1 h2 => w S' H' (e.trans h1) h2
structure ID (K : PySem.W.Frag) (mg : Str → Option Value) (X : Cx) (E : XK) (tg iter : Expr) (wi : TI) (f : DEnv → Res (List D)) : Prop where
  pi : PI X tg iter wi
  sd : ∀ (S H : Hp) (σ : L2.St) (ρ : DEnv) (R : It → Hp → Prop), RelE K S H σ ρ → PostG mg E S H (fun S J ds => Walks K S J ds) (f ρ) R → wi σ H R
section
variable {K : PySem.W.Frag} {mg : Str → Option Value} {X : Cx} {E : XK} {pos : Pos} {tg l : Expr} {tl : TE} {f : DEnv → Res D}
def asList : D → Res (List D)
  | .list ds => .ok ds
  | _ => .bad
def asTup : D → Res (List D)
  | .tuple ds => .ok ds
  | _ => .bad
def fItL (f : DEnv → Res D) : DEnv → Res (List D) := fun ρ => (f ρ).bind asList
def fItT (f : DEnv → Res D) : DEnv → Res (List D) := fun ρ => (f ρ).bind asTup
theorem walks_list {K : PySem.W.Frag} {S : Hp} {a : Addr} {us : List V} {ds : List D} (h1 : LsAt K S a us) (h2 : DVs K S us ds) : Walks K S (Itl K a) ds := fun S' H' e1 e2 => by
  have q : SqL K H' a us := ls_sq (ls_mono (e1.trans e2) h1)
  refine ⟨fun i d hi => ?_, us, q, by rw [h2.length]; exact Nat.le_refl _⟩
  obtain ⟨v, g1, g2⟩ := h2.get hi
  refine ⟨⟨us, v, q, g1⟩, fun x H'' hy => ?_⟩
  obtain ⟨rfl, fv⟩ := hy
  have ev : x = v := Option.some.inj ((fv _ q).symm.trans g1)
  subst ev
  exact ⟨S', Ext.refl e2, g2.mono e1⟩
theorem walks_tup {K : PySem.W.Frag} {S : Hp} {a : Addr} {us : List V} {ds : List D} (h1 : SqT K S a us) (h2 : DVs K S us ds) : Walks K S (Itt K a) ds := fun S' H' e1 e2 => by
  have q : SqT K H' a us := same_t (e1.trans e2) h1
  refine ⟨fun i d hi => ?_, us, q, by rw [h2.length]; exact Nat.le_refl _⟩
  obtain ⟨v, g1, g2⟩ := h2.get hi
  refine ⟨⟨us, v, q, g1⟩, fun x H'' hy => ?_⟩
  obtain ⟨rfl, fv⟩ := hy
  have ev : x = v := Option.some.inj ((fv _ q).symm.trans g1)
  subst ev
  exact ⟨S', Ext.refl e2, g2.mono e1⟩
theorem id_list (hl : PD K mg X E l tl f) (hK : X.K = K := by rfl) : ID K mg X E tg l (iList K tl) (fItL f) := ⟨hK ▸ pi_list hl.pe, fun S H σ ρ R rl h => by
  refine hl.sd S H σ ρ _ rl (h.bind fun d v S1 H1 x1 d1 h1 => ?_)
  cases d with
  | list ds =>
    rw [DV] at d1
    obtain ⟨a, us, rfl, g1, g2⟩ := d1
    exact ⟨a, rfl, ⟨us, ls_sq (ls_mono x1.sh g1)⟩, h1.ok0 x1.sh (walks_list g1 g2)⟩
  | _ => exact h1.elim⟩
theorem id_tup (hl : PD K mg X E l tl f) (hK : X.K = K := by rfl) : ID K mg X E tg l (iTup K tl) (fItT f) := ⟨hK ▸ pi_tup hl.pe, fun S H σ ρ R rl h => by
  refine hl.sd S H σ ρ _ rl (h.bind fun d v S1 H1 x1 d1 h1 => ?_)
  cases d with
  | tuple ds =>
    rw [DV] at d1
    obtain ⟨a, us, rfl, g1, g2⟩ := d1
    exact ⟨a, rfl, ⟨us, same_t x1.sh g1.1⟩, h1.ok0 x1.sh (walks_tup g1.1 g2)⟩
  | _ => exact h1.elim⟩
def rngD (lo : Int) (n : Nat) : List D := (List.range n).map fun (i : Nat) => PyData.int (lo + (i : Int))
theorem walks_rng {K : PySem.W.Frag} {S : Hp} (lo : Int) (n : Nat) : Walks K S (Itr lo n) (rngD lo n) := fun S' H' e1 e2 => by
  have hl : (rngD lo n).length = n := by unfold rngD; rw [List.length_map, List.length_range]
  refine ⟨fun i d hi => ?_, by rw [hl]; exact Nat.le_refl n⟩
  have hin : i < n := by
    have := (List.getElem?_eq_some_iff.mp hi).1
    omega
  refine ⟨hin, fun x H'' hy => ?_⟩
  obtain ⟨rfl, rfl⟩ := hy
  refine ⟨S', Ext.refl e2, ?_⟩
  unfold rngD at hi
  rw [List.getElem?_map, List.getElem?_range hin] at hi
  have hi := Option.some.inj hi
  rw [← hi]
  rfl
def rngOk (i : Int) : Bool := decide (-1000000000000 ≤ i) && decide (i ≤ 1000000000000)
theorem rngOk.b {i : Int} (h : rngOk i = true) : -(2 ^ 62) ≤ i ∧ i < 2 ^ 62 := by
  obtain ⟨h1, h2⟩ := and_split h
  have h1 := of_decide_eq_true h1
  have h2 := of_decide_eq_true h2
  have e : (2 : Int) ^ 62 = 4611686018427387904 := by decide
  omega
def gRng1 : List D → Res (List D)
  | [.int j] => if rngOk j = true then .ok (rngD 0 j.toNat) else .bad
  | _ => .bad
def gRng2 : List D → Res (List D)
  | [.int i, .int j] => if (rngOk i && rngOk j) = true then .ok (rngD i (j - i).toNat) else .bad
  | _ => .bad
def fRng (g : List D → Res (List D)) (f : DEnv → Res (List D)) : DEnv → Res (List D) := fun ρ => (f ρ).bind g
variable {a b c : Expr} {ta : TA} {ga : DEnv → Res (List D)} {p : Pos}
theorem dvs1 {K : PySem.W.Frag} {S : Hp} {vs : List V} {d : D} (h : DVs K S vs [d]) : ∃ v, vs = [v] ∧ DV K S v d := by
  cases vs with
  | nil => exact h.elim
  | cons v vs =>
    cases vs with
    | nil => exact ⟨v, rfl, h.1⟩
    | cons _ _ => exact h.2.elim
theorem dvs2 {K : PySem.W.Frag} {S : Hp} {vs : List V} {d e : D} (h : DVs K S vs [d, e]) : ∃ v w, vs = [v, w] ∧ DV K S v d ∧ DV K S w e := by
  cases vs with
  | nil => exact h.elim
  | cons v vs =>
    obtain ⟨w, rfl, h2⟩ := dvs1 h.2
    exact ⟨v, w, rfl, h.1, h2⟩
theorem dvs3 {K : PySem.W.Frag} {S : Hp} {vs : List V} {d e f : D} (h : DVs K S vs [d, e, f]) : ∃ v w u, vs = [v, w, u] ∧ DV K S v d ∧ DV K S w e ∧ DV K S u f := by
  cases vs with
  | nil => exact h.elim
  | cons v vs =>
    obtain ⟨w, u, rfl, h2, h3⟩ := dvs2 h.2
    exact ⟨v, w, u, rfl, h.1, h2, h3⟩
theorem id_range1 (hg : Gl X "range") (hm : X.mg "range" = none) (ha : AD K mg X E [a] ta ga) (hs : starEach [a] X.env = [(false, eval a X.env)] := by rfl) : ID K mg X E tg (.Call (.Name "range" p) [a] [] pos) (iRng1 ta) (fRng gRng1 ga) :=
  ⟨pi_range1 hg hm ha.pe hs, fun S H σ ρ R rl h => ha.sd S H σ ρ _ rl (h.bind fun ds vs S1 H1 x1 d1 h1 => by
    unfold gRng1 at h1
    split at h1
    · rename_i j
      split at h1
      · rename_i hz
        obtain ⟨v, rfl, hv⟩ := dvs1 d1
        cases hv
        exact ⟨j, rfl, (rngOk.b hz).1, (rngOk.b hz).2, h1.ok0 x1.sh (walks_rng _ _)⟩
      · exact h1.elim
    · exact h1.elim)⟩
theorem id_range2 (hg : Gl X "range") (hm : X.mg "range" = none) (ha : AD K mg X E [a, b] ta ga) (hs : starEach [a, b] X.env = [(false, eval a X.env), (false, eval b X.env)] := by rfl) (hs2 : starEach [b] X.env = [(false, eval b X.env)] := by rfl) : ID K mg X E tg (.Call (.Name "range" p) [a, b] [] pos) (iRng2 ta) (fRng gRng2 ga) :=
  ⟨pi_range2 hg hm ha.pe hs hs2, fun S H σ ρ R rl h => ha.sd S H σ ρ _ rl (h.bind fun ds vs S1 H1 x1 d1 h1 => by
    unfold gRng2 at h1
    split at h1
    · rename_i i j
      split at h1
      · rename_i hz
        obtain ⟨hz1, hz2⟩ := and_split hz
        obtain ⟨v, w, rfl, hv, hw⟩ := dvs2 d1
        cases hv
        cases hw
        exact ⟨i, j, rfl, ⟨(rngOk.b hz1).1, (rngOk.b hz1).2, (rngOk.b hz2).1, (rngOk.b hz2).2⟩, h1.ok0 x1.sh (walks_rng _ _)⟩
      · exact h1.elim
    · exact h1.elim)⟩
end
end PD
namespace PD
open PySem L2
/-! ### list comprehensions -/
def Res.strict {α : Type} : Res α → Res α
  | .ok a => .ok a
  | .err _ => .bad
  | .bad => .bad
def lcGo (step : D → Res (List D)) : List D → Res (List D)
  | [] => .ok []
  | d :: ds => (step d).strict.bind fun o => (lcGo step ds).bind fun r => .ok (o ++ r)
theorem lcGo_snoc (step : D → Res (List D)) (d : D) : ∀ (xs : List D) {r : List D}, lcGo step xs = .ok r → lcGo step (xs ++ [d]) = (step d).strict.bind fun o => .ok (r ++ o)
  | [], r, h => by
    cases h
    show (step d).strict.bind (fun o => (Res.ok []).bind fun r => .ok (o ++ r)) = _
    cases (step d).strict with
    | ok o => show Res.ok (o ++ []) = Res.ok ([] ++ o); rw [List.append_nil, List.nil_append]
    | err c => rfl
    | bad => rfl
  | x :: xs, r, h => by
    have h : ((step x).strict.bind fun o => (lcGo step xs).bind fun r => .ok (o ++ r)) = .ok r := h
    show ((step x).strict.bind fun o => (lcGo step (xs ++ [d])).bind fun r => .ok (o ++ r)) = _
    cases e1 : (step x).strict with
    | ok o =>
      rw [e1] at h
      cases e2 : lcGo step xs with
      | ok r1 =>
        rw [e2] at h
        have h : Res.ok (o ++ r1) = Res.ok r := h
        cases h
        have q := lcGo_snoc step d xs e2
        show (lcGo step (xs ++ [d])).bind (fun r => .ok (o ++ r)) = _
        rw [q]
        cases (step d).strict with
        | ok o2 => show Res.ok (o ++ (r1 ++ o2)) = Res.ok (o ++ r1 ++ o2); rw [List.append_assoc]
        | err c => rfl
        | bad => rfl
      | err c => rw [e2] at h; cases h
      | bad => rw [e2] at h; cases h
    | err c => rw [e1] at h; cases h
    | bad => rw [e1] at h; cases h
/-- where the whole is ok, each part is -/
theorem lcGo_part {step : D → Res (List D)} : ∀ {xs : List D} {r : List D} (i : Nat), lcGo step xs = .ok r → ∃ r', lcGo step (xs.take i) = .ok r' ∧ ∀ d, xs[i]? = some d → ∃ o, step d = .ok o ∧ lcGo step (xs.take (i + 1)) = .ok (r' ++ o)
  | [], r, i, h => ⟨[], by rw [List.take_nil]; rfl, fun d e => by simp at e⟩
  | x :: xs, r, i, h => by
    have h : ((step x).strict.bind fun o => (lcGo step xs).bind fun r => .ok (o ++ r)) = .ok r := h
    cases e0 : step x with
    | ok o =>
      rw [e0] at h
      cases e2 : lcGo step xs with
      | ok r1 =>
        cases i with
        | zero =>
          refine ⟨[], rfl, fun d e => ?_⟩
          have e : x = d := Option.some.inj e
          subst e
          refine ⟨o, e0, ?_⟩
          show ((step x).strict.bind fun o => (Res.ok []).bind fun r => .ok (o ++ r)) = .ok ([] ++ o)
          rw [e0]
          show Res.ok (o ++ []) = Res.ok ([] ++ o)
          rw [List.append_nil, List.nil_append]
        | succ i =>
          obtain ⟨r', g1, g2⟩ := lcGo_part i e2
          refine ⟨o ++ r', ?_, fun d e => ?_⟩
          · show ((step x).strict.bind fun o => (lcGo step (xs.take i)).bind fun r => .ok (o ++ r)) = _
            rw [e0, g1]
            rfl
          · obtain ⟨o2, g3, g4⟩ := g2 d e
            refine ⟨o2, g3, ?_⟩
            show ((step x).strict.bind fun o => (lcGo step (xs.take (i + 1))).bind fun r => .ok (o ++ r)) = _
            rw [e0, g4]
            show Res.ok (o ++ (r' ++ o2)) = Res.ok (o ++ r' ++ o2)
            rw [List.append_assoc]
      | err c => rw [e2] at h; cases h
      | bad => rw [e2] at h; cases h
    | err c => rw [e0] at h; cases h
    | bad => rw [e0] at h; cases h
theorem lcGo_noerr (step : D → Res (List D)) : ∀ (xs : List D) (c : Str), lcGo step xs ≠ .err c
  | [], c, h => by cases h
  | x :: xs, c, h => by
    have h : ((step x).strict.bind fun o => (lcGo step xs).bind fun r => .ok (o ++ r)) = .err c := h
    cases e0 : step x with
    | ok o =>
      rw [e0] at h
      cases e2 : lcGo step xs with
      | ok r1 => rw [e2] at h; cases h
      | err c => exact lcGo_noerr step xs c e2
      | bad => rw [e2] at h; cases h
    | err c => rw [e0] at h; cases h
    | bad => rw [e0] at h; cases h
/-- the step: the item to the slots, the tests, the element -/
def lcStep (ρ : DEnv) (own is : List Nat) (h : D → Option (List D)) (tt : DEnv → Res Bool) (fe : DEnv → Res D) (d : D) : Res (List D) := match h d with
  | none => .bad
  | some xs => (tt (setD (wipeD ρ own) is xs)).bind fun b => if b = true then (fe (setD (wipeD ρ own) is xs)).bind fun y => .ok [y] else .ok []
def lcEnd (r : Res (List D)) : Res D := r.bind fun ys => if lenOk (ys.length + 1) = true then .ok (.list ys) else .bad
def fLc (src : DEnv → Res (List D)) (own is : List Nat) (h : D → Option (List D)) (tt : DEnv → Res Bool) (fe : DEnv → Res D) : DEnv → Res D := fun ρ => (src ρ).bind fun ds => lcEnd (lcGo (lcStep ρ own is h tt fe) ds)
structure TDs (K : PySem.W.Frag) (mg : Str → Option Value) (X : Cx) (E : XK) (ifs : List Expr) (t : TT) (f : DEnv → Res Bool) : Prop where
  pe : PTs X ifs t
  sd : ∀ (S H : Hp) (σ : L2.St) (ρ : DEnv) (Q : Bool → Hp → Prop), RelE K S H σ ρ → PostG mg E S H EqB (f ρ) Q → t σ H Q
def fYes : DEnv → Res Bool := fun _ => .ok true
section
variable {K : PySem.W.Frag} {mg : Str → Option Value} {X : Cx} {E : XK}
theorem tds_nil : TDs K mg X E [] tYes fYes := ⟨pts_nil, fun S H σ ρ Q rl h => h.ok0 rl.sh rfl⟩
theorem tds_one {c : Expr} {t : TT} {f : DEnv → Res Bool} (h : TD K mg X E c t f) : TDs K mg X E [c] t f := ⟨pts_one h.pe, h.sd⟩
/-- the state of a comprehension that grows the list at D -/
structure LcAt (K : PySem.W.Frag) (S1 H1 : Hp) (D0 : Addr) (acc : List V) (r : List D) (S H : Hp) : Prop where
  s : Same S1 S
  h : Same H1 H
  sh : Same S H
  old : ∀ x, H1 x ≠ none → S x = S1 x
  sD : S D0 = none
  hD : H D0 = some (.lst acc)
  dv : DVs K S acc r
theorem LcAt.start {K : PySem.W.Frag} {S1 H1 : Hp} {D0 : Addr} (sh : Same S1 H1) (hD : H1 D0 = none) : LcAt K S1 H1 D0 [] [] S1 (upd H1 D0 (.lst [])) :=
  ⟨Same.refl _, same_upd hD, sh.trans (same_upd hD), fun _ _ => rfl, sh.free hD, upd_same, trivial⟩
theorem LcAt.ext {K : PySem.W.Frag} {S1 H1 S H S' H' : Hp} {D0 : Addr} {acc : List V} {r : List D} (l : LcAt K S1 H1 D0 acc r S H) (x : Ext S H S' H') : LcAt K S1 H1 D0 acc r S' H' :=
  ⟨l.s.trans x.s, l.h.trans x.h, x.sh, fun a ha => by
    refine (x.old a ?_).trans (l.old a ha)
    cases e : H1 a with
    | none => exact absurd e ha
    | some o => rw [l.h a o e]; exact (fun z => nomatch z),
   by rw [x.old D0 (by rw [l.hD]; exact (fun z => nomatch z))]; exact l.sD, x.h _ _ l.hD, l.dv.mono x.s⟩
theorem LcAt.push {K : PySem.W.Frag} {S1 H1 S H : Hp} {D0 : Addr} {acc : List V} {r : List D} {y : V} {d : D} (l : LcAt K S1 H1 D0 acc r S H) (h1 : H1 D0 = none) (hy : DV K S y d) : LcAt K S1 H1 D0 (acc ++ [y]) (r ++ [d]) S (upd H D0 (.lst (acc ++ [y]))) :=
  ⟨l.s, fun b o e => by rw [upd_ne (ne_of_none e h1)]; exact l.h b o e, fun b o e => by rw [upd_ne (ne_of_none e l.sD)]; exact l.sh b o e, l.old, l.sD, upd_same, l.dv.append ⟨hy, trivial⟩⟩
theorem LcAt.done {K : PySem.W.Frag} {S1 H1 S H : Hp} {D0 : Addr} {acc : List V} {r : List D} (l : LcAt K S1 H1 D0 acc r S H) (h1 : H1 D0 = none) : Ext S1 H1 (upd S D0 (.lst acc)) H ∧ DV K (upd S D0 (.lst acc)) (.ref D0) (.list r) := by
  have sm : Same S (upd S D0 (.lst acc)) := same_upd l.sD
  refine ⟨⟨l.s.trans sm, l.h, fun b o e => ?_, fun x hx => ?_⟩, D0, acc, rfl, ls_of upd_same, l.dv.mono sm⟩
  · by_cases hb : b = D0
    · subst hb
      rw [upd_same] at e
      rw [l.hD]
      exact e
    · rw [upd_ne hb] at e
      exact l.sh b o e
  · rw [upd_ne (fun z => hx (by rw [z]; exact h1))]
    exact l.old x hx
theorem ok_of_noerr {α : Type} {mg : Str → Option Value} {S H : Hp} {W : Type} {R : Hp → W → α → Prop} {r : Res α} {Q : W → Hp → Prop} (h : PostG mg E S H R r Q) (hn : ∀ c, r ≠ .err c) : ∃ a, r = .ok a ∧ PostG mg E S H R (.ok a) Q := by
  cases r with
  | ok a => exact ⟨a, rfl, h⟩
  | err c => exact absurd rfl (hn c)
  | bad => exact h.elim
theorem lcEnd_ok {S H : Hp} {r : Res (List D)} {Q : VK} (h : PostG mg E S H (DV K) (lcEnd r) Q) (hn : ∀ c, r ≠ .err c) : ∃ ys, r = .ok ys ∧ lenOk (ys.length + 1) = true ∧ PostG mg E S H (DV K) (.ok (.list ys)) Q := by
  cases r with
  | ok ys =>
    unfold lcEnd at h
    rw [bind_ok] at h
    split at h
    · rename_i hz
      exact ⟨ys, rfl, hz, h⟩
    · exact h.elim
  | err c => exact absurd rfl (hn c)
  | bad => exact h.elim
theorem lcGo_le {step : D → Res (List D)} {xs ys : List D} (h : lcGo step xs = .ok ys) (i : Nat) {r : List D} (hr : lcGo step (xs.take i) = .ok r) : r.length ≤ ys.length := by
  have key : ∀ (as bs : List D) (ra r : List D), lcGo step (as ++ bs) = .ok r → lcGo step as = .ok ra → ra.length ≤ r.length := by
    intro as
    induction as with
    | nil => intro bs ra r _ h2; cases h2; exact Nat.zero_le _
    | cons a as ih =>
      intro bs ra r h1 h2
      have h1 : ((step a).strict.bind fun o => (lcGo step (as ++ bs)).bind fun r => .ok (o ++ r)) = .ok r := h1
      have h2 : ((step a).strict.bind fun o => (lcGo step as).bind fun r => .ok (o ++ r)) = .ok ra := h2
      cases e0 : (step a).strict with
      | ok o =>
        rw [e0] at h1 h2
        cases e1 : lcGo step (as ++ bs) with
        | ok r1 =>
          rw [e1] at h1
          cases e2 : lcGo step as with
          | ok r2 =>
            rw [e2] at h2
            have h1 : Res.ok (o ++ r1) = Res.ok r := h1
            have h2 : Res.ok (o ++ r2) = Res.ok ra := h2
            cases h1
            cases h2
            have := ih bs r2 r1 e1 e2
            rw [List.length_append, List.length_append]
            omega
          | err c => rw [e2] at h2; cases h2
          | bad => rw [e2] at h2; cases h2
        | err c => rw [e1] at h1; cases h1
        | bad => rw [e1] at h1; cases h1
      | err c => rw [e0] at h1; cases h1
      | bad => rw [e0] at h1; cases h1
  refine key (xs.take i) (xs.drop i) r ys ?_ hr
  rw [List.take_append_drop]
  exact h
variable {elt tg iter : Expr} {ifs : List Expr} {scope : Scope} {own : List (Str × Nat)} {pos : Pos} {wi : TI} {g : TG} {tt : TT} {te : TE} {src : DEnv → Res (List D)} {is : List Nat} {h : D → Option (List D)} {ft : DEnv → Res Bool} {fe : DEnv → Res D}
/-- the step is sound -/
theorem lcStep_ok {ρ : DEnv} {own is : List Nat} {h : D → Option (List D)} {ft : DEnv → Res Bool} {fe : DEnv → Res D} {d : D} {o : List D} (e : lcStep ρ own is h ft fe d = .ok o) : ∃ xs b, h d = some xs ∧ ft (setD (wipeD ρ own) is xs) = .ok b ∧
    ((b = false ∧ o = []) ∨ (b = true ∧ ∃ y, fe (setD (wipeD ρ own) is xs) = .ok y ∧ o = [y])) := by
  unfold lcStep at e
  split at e
  · cases e
  · rename_i xs hx
    cases e1 : ft (setD (wipeD ρ own) is xs) with
    | ok b =>
      rw [e1, bind_ok] at e
      refine ⟨xs, b, hx, e1, ?_⟩
      cases b with
      | false =>
        cases e
        exact .inl ⟨rfl, rfl⟩
      | true =>
        cases e2 : fe (setD (wipeD ρ own) is xs) with
        | ok y =>
          rw [e2] at e
          cases e
          exact .inr ⟨rfl, y, rfl, rfl⟩
        | err c => rw [e2] at e; cases e
        | bad => rw [e2] at e; cases e
    | err c => rw [e1] at e; cases e
    | bad => rw [e1] at e; cases e
theorem lc_sd' {X' : Cx} {S H : Hp} {σ : L2.St} {ρ : DEnv} (hsrc : ∀ R : It → Hp → Prop, PostG mg E S H (fun S J ds => Walks K S J ds) (src ρ) R → wi σ H R) (hg : GD K X' tg g is h) (ht : TDs K mg X' E0 ifs tt ft) (he : PD K mg X' E0 elt te fe) {vs : List Nat} (his : ∀ i ∈ is, i ∈ vs)
    (Q : VK) (rl : RelE K S H σ ρ) (hp : PostG mg E S H (DV K) (fLc src vs is h ft fe ρ) Q) : tLc wi g tt te vs σ H Q := by
  refine hsrc _ (hp.bind fun ds J S1 H1 x1 wk hq => ?_)
  intro D0 hD
  obtain ⟨ys, hgo, hlen, hq⟩ := lcEnd_ok hq (lcGo_noerr _ _)
  refine ⟨fun i m H => i + m = ds.length ∧ ∃ S acc r, LcAt K S1 H1 D0 acc r S H ∧ lcGo (lcStep ρ vs is h ft fe) (ds.take i) = .ok r, ⟨ds.length, by omega, S1, [], [], LcAt.start x1.sh hD, rfl⟩, ?_⟩
  rintro i m H2 ⟨him, S2, acc, r, la, hr⟩
  have wk2 := wk S2 H2 la.s la.sh
  by_cases hi : i < ds.length
  · obtain ⟨go, yl⟩ := wk2.1 i ds[i] (List.getElem?_eq_getElem hi)
    obtain ⟨r', g1, g2⟩ := lcGo_part i hgo
    obtain ⟨o, g3, g4⟩ := g2 ds[i] (List.getElem?_eq_getElem hi)
    rw [hr] at g1
    cases g1
    have hrl : (r ++ o).length ≤ ys.length := lcGo_le hgo (i + 1) g4
    have hz := lenOk.le hlen
    obtain ⟨xs, b, k1, k2, k3⟩ := lcStep_ok g3
    refine .inr ⟨go, fun H' => ∃ S acc, LcAt K S1 H1 D0 acc (r ++ o) S H', fun H' ⟨S', acc', l'⟩ => ⟨m - 1, by omega, by omega, S', acc', _, l', g4⟩, fun x H3 hy => ?_⟩
    obtain ⟨S3, x3, dx⟩ := yl x H3 hy
    have l3 := la.ext x3
    refine hg.sd S3 H3 x _ ds[i] xs _ x3.sh dx k1 fun us hus => ?_
    refine ⟨by rw [wipe_setAll is us his, wipe_wipe vs vs fun _ z => z], ?_⟩
    have x13 : Ext S H S3 H3 := by
      refine x1.trans ⟨l3.s, l3.h, l3.sh, l3.old⟩
    have rl3 : RelE K S3 H3 (PD.setAll (L2.wipe σ vs) is us) (setD (wipeD ρ vs) is xs) := ((rl.mono x13).wipe vs).setAll is us xs hus
    refine ht.sd S3 H3 _ (setD (wipeD ρ vs) is xs) _ rl3 ?_
    rw [k2]
    intro b' S4 H4 x4 eb
    cases eb
    have l4 := l3.ext x4
    rcases k3 with ⟨rfl, rfl⟩ | ⟨rfl, y, ey, rfl⟩
    · refine iteF ?_
      exact ⟨S4, acc, by rw [List.append_nil]; exact l4⟩
    · refine iteT ?_
      refine he.sd S4 H4 _ (setD (wipeD ρ vs) is xs) _ (rl3.mono x4) ?_
      rw [ey]
      intro v S5 H5 x5 dv
      have l5 := l4.ext x5
      refine ⟨acc, l5.hD, ?_, S5, acc ++ [v], l5.push hD dv⟩
      rw [la.dv.length]
      rw [List.length_append] at hrl
      have : ([y] : List D).length = 1 := rfl
      omega
  · have ei : ds.take i = ds := List.take_of_length_le (by omega)
    have e2 : i = ds.length := by omega
    subst e2
    rw [ei, hgo] at hr
    cases hr
    obtain ⟨xx, dd⟩ := la.done hD
    exact .inl ⟨wk2.2, hq.ok xx dd⟩
theorem lc_sd {X' : Cx} (hsrc : ID K mg X E tg iter wi src) (hg : GD K X' tg g is h) (ht : TDs K mg X' E0 ifs tt ft) (he : PD K mg X' E0 elt te fe) {vs : List Nat} (his : ∀ i ∈ is, i ∈ vs)
    (S H : Hp) (σ : L2.St) (ρ : DEnv) (Q : VK) (rl : RelE K S H σ ρ) (hp : PostG mg E S H (DV K) (fLc src vs is h ft fe ρ) Q) : tLc wi g tt te vs σ H Q :=
  lc_sd' (fun R q => hsrc.sd S H σ ρ R rl q) hg ht he his Q rl hp
end
end PD
namespace PD
open PySem L2
section
variable {K : PySem.W.Frag} {mg : Str → Option Value} {X : Cx} {E : XK}
variable {elt tg iter tg1 iter1 : Expr} {ifs ifs1 : List Expr} {scope : Scope} {own : List (Str × Nat)} {pos : Pos} {wi wi1 : TI} {g g1 : TG} {tt tt1 : TT} {te : TE} {src src1 : DEnv → Res (List D)} {is is1 : List Nat} {h h1 : D → Option (List D)} {ft ft1 : DEnv → Res Bool} {fe : DEnv → Res D}
abbrev Blk (X : Cx) (scope : Scope) (s : Shared) (H : Hp) (C : Addr) (cl : List (Str × Addr)) (fp : List Addr) : Cx := X.blk s H scope (compEnvC scope cl C X.env) fp
theorem pd_lc {vs : List Nat} (hc : X.calm = true) (hN : X.N.Nodup) (hi : ID K mg X E tg iter wi src) (ok : BlkOk X.N X.env.scope scope own)
    (hg : ∀ (s : Shared) (H : Hp) (C : Addr) (cl : List (Str × Addr)) (fp : List Addr), GD K (Blk X scope s H C cl fp) tg g is h) (ht : ∀ (s : Shared) (H : Hp) (C : Addr) (cl : List (Str × Addr)) (fp : List Addr), TDs K mg (Blk X scope s H C cl fp) E0 ifs tt ft)
    (he : ∀ (s : Shared) (H : Hp) (C : Addr) (cl : List (Str × Addr)) (fp : List Addr), PD K mg (Blk X scope s H C cl fp) E0 elt te fe) (hvs : own.map (·.2) = vs := by rfl) (his : ∀ i ∈ is, i ∈ vs := by decide) (hs : ∀ x, foldedSetIterable iter X.env x = pure x := by intro _; rfl) :
    PD K mg X E (.ListComp elt [⟨tg, iter, ifs, 0⟩] scope pos) (tLc wi g tt te vs) (fLc src vs is h ft fe) :=
  ⟨hvs ▸ pe_lc hc hN hi.pi ok (fun s H C cl fp => (hg s H C cl fp).pg) (fun s H C cl fp => (ht s H C cl fp).pe) (fun s H C cl fp => (he s H C cl fp).pe) hs,
   fun S H σ ρ Q rl hp => lc_sd (X := X) (X' := Blk X scope X.s_0 X.H_0 0 [] []) hi (hg _ _ _ _ _) (ht _ _ _ _ _) (he _ _ _ _ _) his S H σ ρ Q rl hp⟩
def lc2Step (ρ : DEnv) (own is : List Nat) (h : D → Option (List D)) (ft : DEnv → Res Bool) (src1 : DEnv → Res (List D)) (own1 is1 : List Nat) (h1 : D → Option (List D)) (ft1 : DEnv → Res Bool) (fe : DEnv → Res D) (d : D) : Res (List D) := match h d with
  | none => .bad
  | some xs => (ft (setD (wipeD ρ own) is xs)).bind fun b => if b = true then (src1 (setD (wipeD ρ own) is xs)).bind fun es => lcGo (lcStep (setD (wipeD ρ own) is xs) own1 is1 h1 ft1 fe) es else .ok []
def fLc2 (src : DEnv → Res (List D)) (own is : List Nat) (h : D → Option (List D)) (ft : DEnv → Res Bool) (src1 : DEnv → Res (List D)) (own1 is1 : List Nat) (h1 : D → Option (List D)) (ft1 : DEnv → Res Bool) (fe : DEnv → Res D) : DEnv → Res D :=
  fun ρ => (src ρ).bind fun ds => lcEnd (lcGo (lc2Step ρ own is h ft src1 own1 is1 h1 ft1 fe) ds)
theorem lc2Step_ok {ρ : DEnv} {own is : List Nat} {h : D → Option (List D)} {ft : DEnv → Res Bool} {src1 : DEnv → Res (List D)} {own1 is1 : List Nat} {h1 : D → Option (List D)} {ft1 : DEnv → Res Bool} {fe : DEnv → Res D} {d : D} {o : List D} (e : lc2Step ρ own is h ft src1 own1 is1 h1 ft1 fe d = .ok o) :
    ∃ xs b, h d = some xs ∧ ft (setD (wipeD ρ own) is xs) = .ok b ∧ ((b = false ∧ o = []) ∨ (b = true ∧ ∃ es, src1 (setD (wipeD ρ own) is xs) = .ok es ∧ lcGo (lcStep (setD (wipeD ρ own) is xs) own1 is1 h1 ft1 fe) es = .ok o)) := by
  unfold lc2Step at e
  split at e
  · cases e
  · rename_i xs hx
    cases e1 : ft (setD (wipeD ρ own) is xs) with
    | ok b =>
      rw [e1, bind_ok] at e
      refine ⟨xs, b, hx, e1, ?_⟩
      cases b with
      | false =>
        cases e
        exact .inl ⟨rfl, rfl⟩
      | true =>
        cases e2 : src1 (setD (wipeD ρ own) is xs) with
        | ok y =>
          rw [e2] at e
          exact .inr ⟨rfl, y, rfl, e⟩
        | err c => rw [e2] at e; cases e
        | bad => rw [e2] at e; cases e
    | err c => rw [e1] at e; cases e
    | bad => rw [e1] at e; cases e
theorem lc2_sd {X' : Cx} (hsrc : ID K mg X E tg iter wi src) (hg : GD K X' tg g is h) (ht : TDs K mg X' E0 ifs tt ft) (hsrc1 : ID K mg X' E0 tg1 iter1 wi1 src1) (hg1 : GD K X' tg1 g1 is1 h1) (ht1 : TDs K mg X' E0 ifs1 tt1 ft1) (he : PD K mg X' E0 elt te fe) {vs vs1 : List Nat} (his : ∀ i ∈ is, i ∈ vs) (his1 : ∀ i ∈ is1, i ∈ vs1)
    (S H : Hp) (σ : L2.St) (ρ : DEnv) (Q : VK) (rl : RelE K S H σ ρ) (hp : PostG mg E S H (DV K) (fLc2 src vs is h ft src1 vs1 is1 h1 ft1 fe ρ) Q) : tLc2 wi g tt wi1 g1 tt1 te vs vs1 σ H Q := by
  refine hsrc.sd S H σ ρ _ rl (hp.bind fun ds J S1 H1 x1 wk hq => ?_)
  intro D0 hD
  obtain ⟨ys, hgo, hlen, hq⟩ := lcEnd_ok hq (lcGo_noerr _ _)
  refine ⟨fun i m H => i + m = ds.length ∧ ∃ S acc r, LcAt K S1 H1 D0 acc r S H ∧ lcGo (lc2Step ρ vs is h ft src1 vs1 is1 h1 ft1 fe) (ds.take i) = .ok r, ⟨ds.length, by omega, S1, [], [], LcAt.start x1.sh hD, rfl⟩, ?_⟩
  rintro i m H2 ⟨him, S2, acc, r, la, hr⟩
  have wk2 := wk S2 H2 la.s la.sh
  by_cases hi : i < ds.length
  · obtain ⟨go, yl⟩ := wk2.1 i ds[i] (List.getElem?_eq_getElem hi)
    obtain ⟨r', g1', g2⟩ := lcGo_part i hgo
    obtain ⟨o, g3, g4⟩ := g2 ds[i] (List.getElem?_eq_getElem hi)
    rw [hr] at g1'
    cases g1'
    have hrl : (r ++ o).length ≤ ys.length := lcGo_le hgo (i + 1) g4
    have hz := lenOk.le hlen
    obtain ⟨xs, b, k1, k2, k3⟩ := lc2Step_ok g3
    refine .inr ⟨go, fun H' => ∃ S acc, LcAt K S1 H1 D0 acc (r ++ o) S H', fun H' ⟨S', acc', l'⟩ => ⟨m - 1, by omega, by omega, S', acc', _, l', g4⟩, fun x H3 hy => ?_⟩
    obtain ⟨S3, x3, dx⟩ := yl x H3 hy
    have l3 := la.ext x3
    refine hg.sd S3 H3 x _ ds[i] xs _ x3.sh dx k1 fun us hus => ?_
    refine ⟨by rw [wipe_setAll is us his, wipe_wipe vs vs fun _ z => z], ?_⟩
    have x13 : Ext S H S3 H3 := x1.trans ⟨l3.s, l3.h, l3.sh, l3.old⟩
    have rl3 : RelE K S3 H3 (PD.setAll (L2.wipe σ vs) is us) (setD (wipeD ρ vs) is xs) := ((rl.mono x13).wipe vs).setAll is us xs hus
    refine ht.sd S3 H3 _ (setD (wipeD ρ vs) is xs) _ rl3 ?_
    rw [k2]
    intro b' S4 H4 x4 eb
    cases eb
    have l4 := l3.ext x4
    rcases k3 with ⟨rfl, rfl⟩ | ⟨rfl, es, ee, hin⟩
    · refine iteF ?_
      exact ⟨S4, acc, by rw [List.append_nil]; exact l4⟩
    · refine iteT ?_
      have rl4 := rl3.mono x4
      refine hsrc1.sd S4 H4 _ (setD (wipeD ρ vs) is xs) _ rl4 ?_
      rw [ee]
      intro J1 S5 H5 x5 wk5
      have l5 := l4.ext x5
      have rl5 := rl4.mono x5
      refine ⟨fun j k H => j + k = es.length ∧ ∃ S acc rj, LcAt K S1 H1 D0 acc (r ++ rj) S H ∧ Ext S5 (fun a => if a = D0 then none else H5 a) S (fun a => if a = D0 then none else H a) ∧ lcGo (lcStep (setD (wipeD ρ vs) is xs) vs1 is1 h1 ft1 fe) (es.take j) = .ok rj, ⟨es.length, by omega, S5, acc, [], by rw [List.append_nil]; exact l5, ?_, rfl⟩, ?_⟩
      · refine Ext.refl fun a o e => ?_
        have : a ≠ D0 := ne_of_none e l5.sD
        show (if a = D0 then none else H5 a) = some o
        rw [if_neg this]
        exact l5.sh a o e
      rintro j k H6 ⟨hjk, S6, acc6, rj, l6, x6, hrj⟩
      have s56 : Same S5 S6 := x6.s
      have wk6 := wk5 S6 H6 s56 l6.sh
      by_cases hj : j < es.length
      · obtain ⟨go1, yl1⟩ := wk6.1 j es[j] (List.getElem?_eq_getElem hj)
        obtain ⟨rj', q1, q2⟩ := lcGo_part j hin
        obtain ⟨o1, q3, q4⟩ := q2 es[j] (List.getElem?_eq_getElem hj)
        rw [hrj] at q1
        cases q1
        have hrl1 : (rj ++ o1).length ≤ o.length := lcGo_le hin (j + 1) q4
        obtain ⟨xs1, b1, p1, p2, p3⟩ := lcStep_ok q3
        have push : ∀ {S' H'}, Ext S6 H6 S' H' → Ext S5 (fun a => if a = D0 then none else H5 a) S' (fun a => if a = D0 then none else H' a) := fun {S' H'} xx => by
          refine x6.trans ⟨xx.s, fun a o e => ?_, fun a o e => ?_, fun a ha => ?_⟩
          · have e : (if a = D0 then none else H6 a) = some o := e
            show (if a = D0 then none else H' a) = some o
            split at e
            · cases e
            · rename_i hn
              rw [if_neg hn]
              exact xx.h a o e
          · have hn : a ≠ D0 := by
              intro z
              subst z
              rw [xx.old a (by rw [l6.hD]; exact (fun z => nomatch z)), l6.sD] at e
              cases e
            show (if a = D0 then none else H' a) = some o
            rw [if_neg hn]
            exact xx.sh a o e
          · refine xx.old a fun z => ha ?_
            show (if a = D0 then none else H6 a) = none
            split
            · rfl
            · exact z
        refine .inr ⟨go1, fun H' => ∃ S acc, LcAt K S1 H1 D0 acc (r ++ (rj ++ o1)) S H' ∧ Ext S5 (fun a => if a = D0 then none else H5 a) S (fun a => if a = D0 then none else H' a), fun H' ⟨S', acc', l', xx⟩ => ⟨k - 1, by omega, by omega, S', acc', _, l', xx, q4⟩, fun x' H7 hy' => ?_⟩
        obtain ⟨S7, x7, dx7⟩ := yl1 x' H7 hy'
        have l7 := l6.ext x7
        refine hg1.sd S7 H7 x' _ es[j] xs1 _ x7.sh dx7 p1 fun us1 hus1 => ?_
        refine ⟨by rw [wipe_setAll is1 us1 his1, wipe_wipe vs1 vs1 fun _ z => z], ?_⟩
        have rl7 : RelE K S7 H7 (PD.setAll (L2.wipe σ vs) is us) (setD (wipeD ρ vs) is xs) :=
          ⟨x7.sh, rl5.len, fun a y e => let ⟨v, e1, e2⟩ := rl5.dt a y e; ⟨v, e1, (e2.mono s56).mono x7.s⟩, rl5.rw⟩
        have rl8 := (rl7.wipe vs1).setAll is1 us1 xs1 hus1
        refine ht1.sd S7 H7 _ _ _ rl8 ?_
        rw [p2]
        intro b'' S8 H8 x8 eb
        cases eb
        have l8 := l7.ext x8
        rcases p3 with ⟨rfl, rfl⟩ | ⟨rfl, y, ey, rfl⟩
        · refine iteF ?_
          exact ⟨S8, acc6, by rw [List.append_nil]; exact l8, push (x7.trans x8)⟩
        · refine iteT ?_
          refine he.sd S8 H8 _ _ _ (rl8.mono x8) ?_
          rw [ey]
          intro v S9 H9 x9 dv
          have l9 := l8.ext x9
          refine ⟨acc6, l9.hD, ?_, S9, acc6 ++ [v], ?_, ?_⟩
          · rw [l6.dv.length, List.length_append]
            rw [List.length_append] at hrl hrl1
            have : ([y] : List D).length = 1 := rfl
            omega
          · rw [← List.append_assoc]
            exact l9.push hD dv
          · have q := push ((x7.trans x8).trans x9)
            have eqh : (fun a => if a = D0 then none else upd H9 D0 (.lst (acc6 ++ [v])) a) = (fun a => if a = D0 then none else H9 a) := by
              funext a
              by_cases ha : a = D0
              · rw [if_pos ha, if_pos ha]
              · rw [if_neg ha, if_neg ha, upd_ne ha]
            show Ext S5 (fun a => if a = D0 then none else H5 a) S9 (fun a => if a = D0 then none else upd H9 D0 (.lst (acc6 ++ [v])) a)
            rw [eqh]
            exact q
      · have ei : es.take j = es := List.take_of_length_le (by omega)
        have e2 : j = es.length := by omega
        subst e2
        rw [ei, hin] at hrj
        cases hrj
        exact .inl ⟨wk6.2, S6, acc6, l6⟩
  · have ei : ds.take i = ds := List.take_of_length_le (by omega)
    have e2 : i = ds.length := by omega
    subst e2
    rw [ei, hgo] at hr
    cases hr
    obtain ⟨xx, dd⟩ := la.done hD
    exact .inl ⟨wk2.2, hq.ok xx dd⟩
theorem pd_lc2 {vs vs1 : List Nat} (hc : X.calm = true) (hN : X.N.Nodup) (hi : ID K mg X E tg iter wi src) (ok : BlkOk X.N X.env.scope scope own) (hv : ∀ i ∈ vs1, i ∈ own.map (·.2))
    (hg : ∀ (s : Shared) (H : Hp) (C : Addr) (cl : List (Str × Addr)) (fp : List Addr), GD K (Blk X scope s H C cl fp) tg g is h) (ht : ∀ (s : Shared) (H : Hp) (C : Addr) (cl : List (Str × Addr)) (fp : List Addr), TDs K mg (Blk X scope s H C cl fp) E0 ifs tt ft)
    (hi1 : ∀ (s : Shared) (H : Hp) (C : Addr) (cl : List (Str × Addr)) (fp : List Addr), ID K mg (Blk X scope s H C cl fp) E0 tg1 iter1 wi1 src1)
    (hg1 : ∀ (s : Shared) (H : Hp) (C : Addr) (cl : List (Str × Addr)) (fp : List Addr), GD K (Blk X scope s H C cl fp) tg1 g1 is1 h1) (ht1 : ∀ (s : Shared) (H : Hp) (C : Addr) (cl : List (Str × Addr)) (fp : List Addr), TDs K mg (Blk X scope s H C cl fp) E0 ifs1 tt1 ft1)
    (he : ∀ (s : Shared) (H : Hp) (C : Addr) (cl : List (Str × Addr)) (fp : List Addr), PD K mg (Blk X scope s H C cl fp) E0 elt te fe) (hvs : own.map (·.2) = vs := by rfl) (his : ∀ i ∈ is, i ∈ vs := by decide) (his1 : ∀ i ∈ is1, i ∈ vs1 := by decide)
    (hs : ∀ x, foldedSetIterable iter X.env x = pure x := by intro _; rfl) (hs1 : ∀ (env : Env) x, foldedSetIterable iter1 env x = pure x := by intro _ _; rfl) :
    PD K mg X E (.ListComp elt [⟨tg, iter, ifs, 0⟩, ⟨tg1, iter1, ifs1, 0⟩] scope pos) (tLc2 wi g tt wi1 g1 tt1 te vs vs1) (fLc2 src vs is h ft src1 vs1 is1 h1 ft1 fe) :=
  ⟨hvs ▸ pe_lc2 hc hN hi.pi ok hv (fun s H C cl fp => (hg s H C cl fp).pg) (fun s H C cl fp => (ht s H C cl fp).pe) (fun s H C cl fp => (hi1 s H C cl fp).pi) (fun s H C cl fp => (hg1 s H C cl fp).pg) (fun s H C cl fp => (ht1 s H C cl fp).pe) (fun s H C cl fp => (he s H C cl fp).pe) hs hs1,
   fun S H σ ρ Q rl hp => lc2_sd (X := X) (X' := Blk X scope X.s_0 X.H_0 0 [] []) hi (hg _ _ _ _ _) (ht _ _ _ _ _) (hi1 _ _ _ _ _) (hg1 _ _ _ _ _) (ht1 _ _ _ _ _) (he _ _ _ _ _) his his1 S H σ ρ Q rl hp⟩
end
end PD
namespace PD
open PySem L2
/-! ### states of a body: what is shared, what a slot owns -/
def isOwn : Slot → Bool
  | .own _ => true
  | .ownK _ => true
  | .ownT _ => true
  | _ => false
def OwnOk (K : PySem.W.Frag) (S H : Hp) (p : Addr) : Slot → Prop
  | .own xs => ∃ vs, H p = some (.lst vs) ∧ DVs K S vs xs
  | .ownK kvs => ∃ es : List (Key × V), H p = some (.dK es) ∧ es.map (·.1) = kvs.map (·.1) ∧ DVs K S (es.map (·.2)) (kvs.map (·.2))
  | .ownT kvs => ∃ es : List (List Key × V), H p = some (.dT es) ∧ es.map (·.1) = kvs.map (·.1) ∧ DVs K S (es.map (·.2)) (kvs.map (·.2))
  | _ => False
theorem OwnOk.mono {K : PySem.W.Frag} {S H S' H' : Hp} {p : Addr} {s : Slot} (o : OwnOk K S H p s) (e : Same S S') (h : ∀ u, H p = some u → H' p = some u) : OwnOk K S' H' p s := by
  cases s with
  | own xs => obtain ⟨vs, h1, h2⟩ := o; exact ⟨vs, h _ h1, h2.mono e⟩
  | ownK kvs => obtain ⟨vs, h1, h2, h3⟩ := o; exact ⟨vs, h _ h1, h2, h3.mono e⟩
  | ownT kvs => obtain ⟨vs, h1, h2, h3⟩ := o; exact ⟨vs, h _ h1, h2, h3.mono e⟩
  | _ => exact o.elim
theorem OwnOk.some {K : PySem.W.Frag} {S H : Hp} {p : Addr} {s : Slot} (o : OwnOk K S H p s) : ∃ u, H p = some u := by
  cases s with
  | own xs => obtain ⟨vs, h1, h2⟩ := o; exact ⟨_, h1⟩
  | ownK kvs => obtain ⟨vs, h1, h2, h3⟩ := o; exact ⟨_, h1⟩
  | ownT kvs => obtain ⟨vs, h1, h2, h3⟩ := o; exact ⟨_, h1⟩
  | _ => exact o.elim
structure Rel (K : PySem.W.Frag) (S0 H0 S H : Hp) (σ : L2.St) (ρ : DEnv) : Prop where
  x : Ext S0 H0 S H
  len : σ.length = ρ.length
  dt : ∀ (i : Nat) (y : D), ρ[i]? = some (Slot.d y) → ∃ v, σ[i]? = some (some v) ∧ DV K S v y
  rw : ∀ (i : Nat) (v : V), ρ[i]? = some (Slot.raw v) → σ[i]? = some (some v)
  own : ∀ (i : Nat) (s : Slot), ρ[i]? = some s → isOwn s = true → ∃ p, σ[i]? = some (some (.ref p)) ∧ S p = none ∧ H0 p = none ∧ OwnOk K S H p s
  dis : ∀ (i j : Nat) (s s' : Slot) (p : Addr), ρ[i]? = some s → ρ[j]? = some s' → isOwn s = true → isOwn s' = true → σ[i]? = some (some (.ref p)) → σ[j]? = some (some (.ref p)) → i = j
def view : Slot → Slot
  | .own xs => .d (.list xs)
  | .ownK kvs => .d (.dict (kvs.map fun e => (kD e.1, e.2)))
  | .ownT kvs => .d (.dict (kvs.map fun e => (.tuple (e.1.map kD), e.2)))
  | s => s
def viewAll (ρ : DEnv) : DEnv := ρ.map view
section
variable {K : PySem.W.Frag} {S0 H0 S H S' H' : Hp} {σ : L2.St} {ρ : DEnv}
theorem Rel.relE (r : Rel K S0 H0 S H σ ρ) : RelE K S H σ ρ := ⟨r.x.sh, r.len, r.dt, r.rw⟩
theorem DVp_of {K : PySem.W.Frag} {S : Hp} {κ : Type} (f : κ → D) : ∀ {vs : List V} {kvs : List (κ × D)}, DVs K S vs (kvs.map (·.2)) → DVp K S vs (kvs.map fun e => (f e.1, e.2))
  | [], [], _ => by rw [List.map_nil, DVp]; trivial
  | v :: vs, e :: kvs, h => by
    rw [List.map_cons, DVp]
    exact ⟨h.1, DVp_of f (vs := vs) (kvs := kvs) h.2⟩
  | [], _ :: _, h => h.elim
  | _ :: _, [], h => h.elim
theorem own_dv {p : Addr} {s : Slot} {y : D} (o : OwnOk K S H p s) (e : view s = .d y) (hs : isOwn s = true) (T : Hp) (st : Same S T) (ht : ∀ u, H p = some u → T p = some u) : DV K T (.ref p) y := by
  cases s with
  | own xs =>
    obtain ⟨vs, h1, h2⟩ := o
    cases e
    exact ⟨p, vs, rfl, ls_of (ht _ h1), h2.mono st⟩
  | ownK kvs =>
    obtain ⟨vs, h1, h2, h3⟩ := o
    cases e
    refine ⟨p, rfl, .inl ⟨vs, .inl (ht _ h1), ?_, DVp_of _ (h3.mono st)⟩⟩
    have := congrArg (List.map kD) h2
    simp only [List.map_map] at this ⊢
    exact this.symm
  | ownT kvs =>
    obtain ⟨vs, h1, h2, h3⟩ := o
    cases e
    refine ⟨p, rfl, .inr ⟨vs, .inl (ht _ h1), ?_, DVp_of (fun k : List Key => PyData.tuple (k.map kD)) (h3.mono st)⟩⟩
    have := congrArg (List.map fun k : List Key => PyData.tuple (k.map kD)) h2
    simp only [List.map_map] at this ⊢
    exact this.symm
  | _ => cases hs
theorem view_d {s : Slot} {y : D} (e : view s = .d y) : (isOwn s = true) ∨ s = .d y := by
  cases s with
  | un => cases e
  | d x => exact .inr e
  | own xs => exact .inl rfl
  | ownK kvs => exact .inl rfl
  | ownT kvs => exact .inl rfl
  | raw v => cases e
theorem view_raw {s : Slot} {v : V} (e : view s = .raw v) : s = .raw v := by
  cases s with
  | raw w => exact e
  | _ => cases e
/-- all that is tracked, read: nothing is owned for the while -/
theorem Rel.relV (r : Rel K S0 H0 S H σ ρ) : RelE K H H σ (viewAll ρ) := by
  refine ⟨Same.refl H, by unfold viewAll; rw [List.length_map]; exact r.len, fun i y e => ?_, fun i v e => ?_⟩
  · unfold viewAll at e
    rw [List.getElem?_map] at e
    cases e1 : ρ[i]? with
    | none => rw [e1] at e; cases e
    | some s =>
      rw [e1] at e
      have e2 : view s = .d y := Option.some.inj e
      rcases view_d e2 with hs | hs
      · obtain ⟨p, h1, h2, h3, h4⟩ := r.own i s e1 hs
        exact ⟨_, h1, own_dv h4 e2 hs H r.x.sh fun _ z => z⟩
      · rw [hs] at e1
        obtain ⟨v, h1, h2⟩ := r.dt i y e1
        exact ⟨v, h1, h2.mono r.x.sh⟩
  · unfold viewAll at e
    rw [List.getElem?_map] at e
    cases e1 : ρ[i]? with
    | none => rw [e1] at e; cases e
    | some s =>
      rw [e1] at e
      have e2 : view s = .raw v := Option.some.inj e
      rw [view_raw e2] at e1
      exact r.rw i v e1
theorem Rel.ext (r : Rel K S0 H0 S H σ ρ) (y : Ext S H S' H') : Rel K S0 H0 S' H' σ ρ :=
  ⟨r.x.trans y, r.len, fun i z e => let ⟨v, h1, h2⟩ := r.dt i z e; ⟨v, h1, h2.mono y.s⟩, r.rw, fun i s e hs => by
    obtain ⟨p, h1, h2, h3, h4⟩ := r.own i s e hs
    obtain ⟨u, hu⟩ := h4.some
    exact ⟨p, h1, by rw [y.old p (by rw [hu]; exact (fun z => nomatch z))]; exact h2, h3, h4.mono y.s fun _ z => y.h _ _ z⟩, r.dis⟩
theorem Rel.grow (r : Rel K S0 H0 S H σ ρ) (y : Same H H') : Rel K S0 H0 S H' σ ρ :=
  ⟨⟨r.x.s, r.x.h.trans y, r.x.sh.trans y, r.x.old⟩, r.len, r.dt, r.rw, fun i s e hs => by
    obtain ⟨p, h1, h2, h3, h4⟩ := r.own i s e hs
    exact ⟨p, h1, h2, h3, h4.mono (Same.refl _) fun _ z => y _ _ z⟩, r.dis⟩
theorem set_at {α : Type} {l : List α} {i j : Nat} {x y : α} (e : (l.set i x)[j]? = some y) : (i = j ∧ i < l.length ∧ x = y) ∨ (i ≠ j ∧ l[j]? = some y) := by
  by_cases hj : i = j
  · subst hj
    by_cases hi : i < l.length
    · rw [List.getElem?_set_self hi] at e
      exact .inl ⟨rfl, hi, Option.some.inj e⟩
    · rw [List.getElem?_eq_none (by rw [List.length_set]; omega)] at e
      cases e
  · rw [List.getElem?_set_ne hj] at e
    exact .inr ⟨hj, e⟩
theorem Rel.setV (r : Rel K S0 H0 S H σ ρ) {i : Nat} {v : V} {y : D} (h : DV K S v y) : Rel K S0 H0 S H (σ.set i (some v)) (ρ.set i (.d y)) := by
  have hl := r.len
  refine ⟨r.x, by rw [List.length_set, List.length_set]; exact hl, fun j z e => ?_, fun j z e => ?_, fun j s e hs => ?_, fun j k s s' p e1 e2 h1 h2 g1 g2 => ?_⟩
  · rcases set_at e with ⟨rfl, hi, e⟩ | ⟨hj, e⟩
    · cases e
      exact ⟨v, List.getElem?_set_self (by omega), h⟩
    · rw [List.getElem?_set_ne hj]
      exact r.dt j z e
  · rcases set_at e with ⟨rfl, hi, e⟩ | ⟨hj, e⟩
    · cases e
    · rw [List.getElem?_set_ne hj]
      exact r.rw j z e
  · rcases set_at e with ⟨rfl, hi, e⟩ | ⟨hj, e⟩
    · subst e
      cases hs
    · rw [List.getElem?_set_ne hj]
      exact r.own j s e hs
  · rcases set_at e1 with ⟨rfl, hi, e1⟩ | ⟨hj, e1⟩
    · subst e1
      cases h1
    · rcases set_at e2 with ⟨rfl, hi, e2⟩ | ⟨hk, e2⟩
      · subst e2
        cases h2
      · rw [List.getElem?_set_ne hj] at g1
        rw [List.getElem?_set_ne hk] at g2
        exact r.dis j k s s' p e1 e2 h1 h2 g1 g2
theorem Rel.setAll (is : List Nat) : ∀ (vs : List V) (ds : List D) {σ : L2.St} {ρ : DEnv}, Rel K S0 H0 S H σ ρ → DVs K S vs ds → Rel K S0 H0 S H (PD.setAll σ is vs) (setD ρ is ds) := by
  induction is with
  | nil => intro vs ds σ ρ r _; cases vs <;> cases ds <;> exact r
  | cons i is ih =>
    intro vs ds σ ρ r h
    cases vs with
    | nil =>
      cases ds with
      | nil => exact r
      | cons _ _ => exact h.elim
    | cons v vs =>
      cases ds with
      | nil => exact h.elim
      | cons d ds => exact ih vs ds (r.setV h.1) h.2
/-- a slot takes what is new and owned -/
theorem Rel.setOwn (r : Rel K S0 H0 S H σ ρ) {i : Nat} {p : Addr} {s : Slot} (hs : isOwn s = true) (h1 : S p = none) (h2 : H0 p = none) (h3 : OwnOk K S H p s) (h4 : ∀ (j : Nat) (s' : Slot), ρ[j]? = some s' → isOwn s' = true → σ[j]? ≠ some (some (.ref p))) :
    Rel K S0 H0 S H (σ.set i (some (.ref p))) (ρ.set i s) := by
  have hl := r.len
  refine ⟨r.x, by rw [List.length_set, List.length_set]; exact hl, fun j z e => ?_, fun j z e => ?_, fun j s' e hs' => ?_, fun j k s1 s2 q e1 e2 k1 k2 g1 g2 => ?_⟩
  · rcases set_at e with ⟨rfl, hi, e⟩ | ⟨hj, e⟩
    · subst e
      cases hs
    · rw [List.getElem?_set_ne hj]
      exact r.dt j z e
  · rcases set_at e with ⟨rfl, hi, e⟩ | ⟨hj, e⟩
    · subst e
      cases hs
    · rw [List.getElem?_set_ne hj]
      exact r.rw j z e
  · rcases set_at e with ⟨rfl, hi, e⟩ | ⟨hj, e⟩
    · subst e
      exact ⟨p, List.getElem?_set_self (by omega), h1, h2, h3⟩
    · rw [List.getElem?_set_ne hj]
      exact r.own j s' e hs'
  · rcases set_at e1 with ⟨rfl, hi, e1⟩ | ⟨hj, e1⟩
    · rcases set_at e2 with ⟨z, _, _⟩ | ⟨hk, e2⟩
      · exact z
      · rw [List.getElem?_set_self (by omega)] at g1
        rw [List.getElem?_set_ne hk] at g2
        cases g1
        exact absurd g2 (h4 k s2 e2 k2)
    · rcases set_at e2 with ⟨rfl, hi, e2⟩ | ⟨hk, e2⟩
      · rw [List.getElem?_set_self (by omega)] at g2
        rw [List.getElem?_set_ne hj] at g1
        cases g2
        exact absurd g1 (h4 j s1 e1 k1)
      · rw [List.getElem?_set_ne hj] at g1
        rw [List.getElem?_set_ne hk] at g2
        exact r.dis j k s1 s2 q e1 e2 k1 k2 g1 g2
/-- what a slot owns is changed -/
theorem Rel.mut (r : Rel K S0 H0 S H σ ρ) {i : Nat} {p : Addr} {s s' : Slot} {o : HO} (e : ρ[i]? = some s) (hs : isOwn s = true) (hs' : isOwn s' = true) (hp : σ[i]? = some (some (.ref p))) (h3 : OwnOk K S (upd H p o) p s') :
    Rel K S0 H0 S (upd H p o) σ (ρ.set i s') := by
  have hl := r.len
  obtain ⟨p', g1, g2, g3, g4⟩ := r.own i s e hs
  have ep : p' = p := by
    rw [hp] at g1
    cases g1
    rfl
  subst ep
  have il : i < ρ.length := (List.getElem?_eq_some_iff.mp e).1
  refine ⟨⟨r.x.s, fun b u q => ?_, fun b u q => ?_, r.x.old⟩, by rw [List.length_set]; exact hl, fun j z e' => ?_, fun j z e' => ?_, fun j s2 e' hs2 => ?_, fun j k s1 s2 q e1 e2 k1 k2 q1 q2 => ?_⟩
  · rw [upd_ne (ne_of_none q g3)]
    exact r.x.h b u q
  · rw [upd_ne (ne_of_none q g2)]
    exact r.x.sh b u q
  · rcases set_at e' with ⟨rfl, hi, e'⟩ | ⟨hj, e'⟩
    · subst e'
      cases hs'
    · exact r.dt j z e'
  · rcases set_at e' with ⟨rfl, hi, e'⟩ | ⟨hj, e'⟩
    · subst e'
      cases hs'
    · exact r.rw j z e'
  · rcases set_at e' with ⟨rfl, hi, e'⟩ | ⟨hj, e'⟩
    · subst e'
      exact ⟨p', hp, g2, g3, h3⟩
    · obtain ⟨q, q1, q2, q3, q4⟩ := r.own j s2 e' hs2
      have hq : q ≠ p' := fun z => hj (by
        subst z
        exact r.dis i j s s2 q e e' hs hs2 hp q1)
      exact ⟨q, q1, q2, q3, q4.mono (Same.refl _) fun u z => by rw [upd_ne hq]; exact z⟩
  · have w1 : ∃ t, ρ[j]? = some t ∧ isOwn t = true := by
      rcases set_at e1 with ⟨rfl, hi, e1⟩ | ⟨hj, e1⟩
      · exact ⟨s, e, hs⟩
      · exact ⟨s1, e1, k1⟩
    have w2 : ∃ t, ρ[k]? = some t ∧ isOwn t = true := by
      rcases set_at e2 with ⟨rfl, hi, e2⟩ | ⟨hj, e2⟩
      · exact ⟨s, e, hs⟩
      · exact ⟨s2, e2, k2⟩
    obtain ⟨t1, f1, f2⟩ := w1
    obtain ⟨t2, f3, f4⟩ := w2
    exact r.dis j k t1 t2 q f1 f3 f2 f4 q1 q2
/-- a slot gives up what it owns: it is shared -/
def frz1 (ρ : DEnv) (i : Nat) : DEnv := match ρ[i]? with
  | some s => ρ.set i (view s)
  | none => ρ
def frz (ρ : DEnv) : List Nat → DEnv
  | [] => ρ
  | i :: is => frz (frz1 ρ i) is
theorem Rel.frz1 (r : Rel K S0 H0 S H σ ρ) (i : Nat) : ∃ S', Same S S' ∧ Rel K S0 H0 S' H σ (PD.frz1 ρ i) := by
  unfold PD.frz1
  cases e : ρ[i]? with
  | none => exact ⟨S, Same.refl _, r⟩
  | some s =>
    show ∃ S', Same S S' ∧ Rel K S0 H0 S' H σ (ρ.set i (view s))
    by_cases hs : isOwn s = true
    · obtain ⟨p, g1, g2, g3, g4⟩ := r.own i s e hs
      obtain ⟨u, hu⟩ := g4.some
      have sm : Same S (upd S p u) := same_upd g2
      have il : i < ρ.length := (List.getElem?_eq_some_iff.mp e).1
      refine ⟨upd S p u, sm, ⟨r.x.s.trans sm, r.x.h, fun b o q => ?_, fun a ha => ?_⟩, by rw [List.length_set]; exact r.len, fun j z e' => ?_, fun j z e' => ?_, fun j s2 e' hs2 => ?_, fun j k s1 s2 q e1 e2 k1 k2 q1 q2 => ?_⟩
      · by_cases hb : b = p
        · subst hb
          rw [upd_same] at q
          rw [hu]
          exact q
        · rw [upd_ne hb] at q
          exact r.x.sh b o q
      · rw [upd_ne (fun z => ha (by rw [z]; exact g3))]
        exact r.x.old a ha
      · rcases set_at e' with ⟨rfl, hi, e'⟩ | ⟨hj, e'⟩
        · exact ⟨_, g1, own_dv g4 e' hs _ sm fun v hv => by rw [upd_same]; rw [hu] at hv; exact hv⟩
        · obtain ⟨v, h1, h2⟩ := r.dt j z e'
          exact ⟨v, h1, h2.mono sm⟩
      · rcases set_at e' with ⟨rfl, hi, e'⟩ | ⟨hj, e'⟩
        · have := view_raw e'
          subst this
          cases hs
        · exact r.rw j z e'
      · rcases set_at e' with ⟨rfl, hi, e'⟩ | ⟨hj, e'⟩
        · subst e'
          cases s <;> first | cases hs2 | cases hs
        · obtain ⟨q, q1, q2, q3, q4⟩ := r.own j s2 e' hs2
          have hq : q ≠ p := fun z => hj (by
            subst z
            exact r.dis i j s s2 q e e' hs hs2 g1 q1)
          exact ⟨q, q1, by rw [upd_ne hq]; exact q2, q3, q4.mono sm fun _ z => z⟩
      · have w1 : i ≠ j ∧ ρ[j]? = some s1 := by
          rcases set_at e1 with ⟨rfl, hi, e1⟩ | h
          · subst e1
            cases s <;> first | cases k1 | cases hs
          · exact h
        have w2 : i ≠ k ∧ ρ[k]? = some s2 := by
          rcases set_at e2 with ⟨rfl, hi, e2⟩ | h
          · subst e2
            cases s <;> first | cases k2 | cases hs
          · exact h
        exact r.dis j k s1 s2 q w1.2 w2.2 k1 k2 q1 q2
    · have ev : view s = s := by
        cases s <;> first | rfl | exact absurd rfl hs
      rw [ev]
      have es : ρ.set i s = ρ := by
        obtain ⟨h1, h2⟩ := List.getElem?_eq_some_iff.mp e
        rw [← h2, List.set_getElem_self]
      rw [es]
      exact ⟨S, Same.refl _, r⟩
theorem Rel.frz (is : List Nat) : ∀ {S : Hp} {ρ : DEnv}, Rel K S0 H0 S H σ ρ → ∃ S', Same S S' ∧ Rel K S0 H0 S' H σ (PD.frz ρ is) := by
  induction is with
  | nil => intro S ρ r; exact ⟨S, Same.refl _, r⟩
  | cons i is ih =>
    intro S ρ r
    obtain ⟨S1, s1, r1⟩ := r.frz1 i
    obtain ⟨S2, s2, r2⟩ := ih r1
    exact ⟨S2, s1.trans s2, r2⟩
end
end PD
namespace PD
open PySem L2
/-! ### statements -/
inductive SR where
  | next (ρ : DEnv)
  | ret (d : D)
  | err (c : Str)
  | brk (ρ : DEnv)
  | cont (ρ : DEnv)
  | bad
def SPost (K : PySem.W.Frag) (mg : Str → Option Value) (E : XK) (S0 H0 S : Hp) (r : SR) (N : Ends) : Prop := match r with
  | .next ρ => ∀ S' H' σ', Same S S' → Rel K S0 H0 S' H' σ' ρ → N.nx σ' H'
  | .ret d => ∀ v S' H', Ext S0 H0 S' H' → DV K S' v d → N.rt v H'
  | .err c => ∀ u H', mg c = some u → Same H0 H' → E u none H'
  | .brk ρ => ∀ S' H' σ', Same S S' → Rel K S0 H0 S' H' σ' ρ → N.bk σ' H'
  | .cont ρ => ∀ S' H' σ', Same S S' → Rel K S0 H0 S' H' σ' ρ → N.ct σ' H'
  | .bad => False
theorem SPost.mono {K : PySem.W.Frag} {mg : Str → Option Value} {E : XK} {S0 H0 S S1 : Hp} {r : SR} {N : Ends} (h : SPost K mg E S0 H0 S r N) (e : Same S S1) : SPost K mg E S0 H0 S1 r N := by
  cases r with
  | next ρ => exact fun S' H' σ' e' q => h S' H' σ' (e.trans e') q
  | ret d => exact h
  | err c => exact h
  | brk ρ => exact fun S' H' σ' e' q => h S' H' σ' (e.trans e') q
  | cont ρ => exact fun S' H' σ' e' q => h S' H' σ' (e.trans e') q
  | bad => exact h
structure SD (K : PySem.W.Frag) (mg : Str → Option Value) (X : Cx) (E : XK) (st : Stmt) (t : TS) (F : DEnv → SR) : Prop where
  ps : PS X st t
  sd : ∀ (S0 H0 S H : Hp) (σ : L2.St) (ρ : DEnv) (N : Ends), Rel K S0 H0 S H σ ρ → SPost K mg E S0 H0 S (F ρ) N → t N σ H
structure SDs (K : PySem.W.Frag) (mg : Str → Option Value) (X : Cx) (E : XK) (st : List Stmt) (t : TS) (F : DEnv → SR) : Prop where
  ps : PSs X st t
  sd : ∀ (S0 H0 S H : Hp) (σ : L2.St) (ρ : DEnv) (N : Ends), Rel K S0 H0 S H σ ρ → SPost K mg E S0 H0 S (F ρ) N → t N σ H
def SR.seq (r : SR) (k : DEnv → SR) : SR := match r with
  | .next ρ => k ρ
  | .ret d => .ret d
  | .err c => .err c
  | .brk ρ => .brk ρ
  | .cont ρ => .cont ρ
  | .bad => .bad
def ofRes {α : Type} (r : Res α) (k : α → SR) : SR := match r with
  | .ok a => k a
  | .err c => .err c
  | .bad => .bad
section
variable {K : PySem.W.Frag} {mg : Str → Option Value} {X : Cx} {E : XK} {st : Stmt} {rest : List Stmt} {t u : TS} {e : Expr} {te : TE} {pos : Pos} {F G : DEnv → SR} {f : DEnv → Res D}
def sNext : DEnv → SR := fun ρ => .next ρ
def sSeq (F G : DEnv → SR) : DEnv → SR := fun ρ => (F ρ).seq G
theorem sds_nil : SDs K mg X E [] tNext sNext := ⟨pss_nil, fun S0 H0 S H σ ρ N r h => h S H σ (Same.refl _) r⟩
theorem sds_one (h : SD K mg X E st t F) : SDs K mg X E [st] t F := ⟨pss_one h.ps, h.sd⟩
theorem sds_cons (h1 : SD K mg X E st t F) (h2 : SDs K mg X E rest u G) : SDs K mg X E (st :: rest) (tSeq t u) (sSeq F G) := ⟨pss_cons h1.ps h2.ps, fun S0 H0 S H σ ρ N r h => by
  refine h1.sd S0 H0 S H σ ρ _ r ?_
  unfold sSeq at h
  cases e : F ρ with
  | next ρ1 =>
    rw [e] at h
    intro S' H' σ' e' r'
    exact h2.sd S0 H0 S' H' σ' ρ1 N r' (SPost.mono h e')
  | ret d => rw [e] at h; exact h
  | err c => rw [e] at h; exact h
  | brk ρ1 => rw [e] at h; exact h
  | cont ρ1 => rw [e] at h; exact h
  | bad => rw [e] at h; exact h⟩
/-- from what is wanted of a statement to what is wanted of its expression -/
theorem post_of {α W : Type} {K : PySem.W.Frag} {mg : Str → Option Value} {S0 H0 S H T : Hp} {σ : L2.St} {ρ : DEnv} {N : Ends} {R : Hp → W → α → Prop} {r : Res α} {k : α → SR} {Q : W → Hp → Prop} (rl : Rel K S0 H0 S H σ ρ) (h : SPost K mg E S0 H0 S (ofRes r k) N)
    (hk : ∀ a w S' H', r = .ok a → Ext T H S' H' → R S' w a → SPost K mg E S0 H0 S (k a) N → Q w H') : PostG mg E T H R r Q := by
  cases r with
  | ok a => exact fun w S' H' x q => hk a w S' H' rfl x q h
  | err c => exact fun u H' e sm => h u H' e (rl.x.h.trans sm)
  | bad => exact h
def sExpr (f : DEnv → Res D) : DEnv → SR := fun ρ => ofRes (f ρ) fun _ => .next ρ
theorem sd_expr (he : PD K mg X E e te f) (hs : swapsWith e none pos.line X.env = pure false := by rfl) : SD K mg X E (.Expr e pos) (tDrop te) (sExpr f) := ⟨ps_expr he.pe hs, fun S0 H0 S H σ ρ N r h =>
  he.sd S H σ ρ _ r.relE (post_of r h fun a w S' H' _ x q h => h S' H' σ x.s (r.ext x))⟩
def sRet (f : DEnv → Res D) : DEnv → SR := fun ρ => ofRes (f ρ) fun d => .ret d
theorem sd_ret (he : PD K mg X E e te f) : SD K mg X E (.Return (some e) pos) (tRet te) (sRet f) := ⟨ps_ret he.pe, fun S0 H0 S H σ ρ N r h =>
  he.sd S H σ ρ _ r.relE (post_of r h fun a w S' H' _ x q h => h w S' H' (r.x.trans x) q)⟩
def sRetN : DEnv → SR := fun _ => .ret .none
theorem sd_retN : SD K mg X E (.Return none pos) tRetN sRetN := ⟨ps_retN, fun S0 H0 S H σ ρ N r h => h .non S H r.x rfl⟩
theorem sd_pass : SD K mg X E (.Pass pos) tNext sNext := ⟨ps_pass, fun S0 H0 S H σ ρ N r h => h S H σ (Same.refl _) r⟩
def sIf (g : DEnv → Res Bool) (F G : DEnv → SR) : DEnv → SR := fun ρ => ofRes (g (viewAll ρ)) fun b => if b = true then F ρ else G ρ
theorem sd_if {c : Expr} {a b : List Stmt} {tc : TT} {g : DEnv → Res Bool} (hc : TD K mg X E c tc g) (ha : SDs K mg X E a t F) (hb : SDs K mg X E b u G) : SD K mg X E (.If c a b pos) (tIfS tc t u) (sIf g F G) := ⟨ps_if hc.pe ha.ps hb.ps, fun S0 H0 S H σ ρ N r h =>
  hc.sd H H σ (viewAll ρ) _ r.relV (post_of r h fun k w S' H' _ x q h => by
    cases q
    have r' := r.grow x.h
    cases k with
    | true => exact ha.sd S0 H0 S H' σ ρ N r' h
    | false => exact hb.sd S0 H0 S H' σ ρ N r' h)⟩
/-! ### assignments -/
def sAsg (f : DEnv → Res D) (is : List Nat) (hh : D → Option (List D)) : DEnv → SR := fun ρ => ofRes (f ρ) fun d => match hh d with
  | some ds => .next (setD ρ is ds)
  | none => .bad
theorem asg_sd {g : TG} {is : List Nat} {hh : D → Option (List D)} {tg : Expr} (he : PD K mg X E e te f) (hg : GD K X tg g is hh) (S0 H0 S H : Hp) (σ : L2.St) (ρ : DEnv) (N : Ends) (r : Rel K S0 H0 S H σ ρ) (h : SPost K mg E S0 H0 S (sAsg f is hh ρ) N) : tAsg te g N σ H :=
  he.sd S H σ ρ _ r.relE (post_of r h fun a w S' H' _ x q h => by
    cases e1 : hh a with
    | none => rw [e1] at h; exact h.elim
    | some ds =>
      rw [e1] at h
      exact hg.sd S' H' w σ a ds _ x.sh q e1 fun vs hv => h S' H' _ x.s ((r.ext x).setAll is vs ds hv))
theorem sd_asg {tg : Expr} {g : TG} {is : List Nat} {hh : D → Option (List D)} (he : PD K mg X E e te f) (hg : GD K X tg g is hh) (hs : swapsWithSole [tg] e pos.line X.env = pure false := by rfl) (hw : swappedStores [tg] e X.env = pure none := by rfl) (h1 : (assignEach [tg] X.env).map (·.2) = [assign tg X.env] := by rfl) :
    SD K mg X E (.Assign [tg] e pos) (tAsg te g) (sAsg f is hh) := ⟨ps_asg he.pe hg.pg hs hw h1, asg_sd he hg⟩
theorem sd_set {i : Nat} {x : Str} {pos' : Pos} (he : PD K mg X E e te f) (hN : X.N.Nodup) (hi : X.N[i]? = some x) (hx : Loc X.env.scope x := by first | exact Or.inl rfl | exact Or.inr rfl) (hs : swapsWith e (some (.Name x pos')) pos.line X.env = pure false := by rfl) (hf : X.fn x = true ∨ X.env.scope.names.lookup x = some .local := by first | exact .inl rfl | exact .inr rfl | assumption) :
    SD K mg X E (.Assign [.Name x pos'] e pos) (tAsg te (gName i)) (sAsg f [i] hOne) := ⟨ps_set hN hi hx he.pe hs hf, asg_sd he (gd_name (pg_name (pos := pos') hN hi hx hf))⟩
/-- x = [..] on one line -/
theorem sd_setLc {i : Nat} {vs : List Nat} {y : Str} {py : Pos} {elt tg iter : Expr} {ifs : List Expr} {scope : Scope} {own : List (Str × Nat)} {spos : Pos} {wi : TI} {g : TG} {tt : TT} {src : DEnv → Res (List D)} {is : List Nat} {h : D → Option (List D)} {ft : DEnv → Res Bool} {fe : DEnv → Res D} (hc : X.calm = true) (hN : X.N.Nodup) (hy : X.N[i]? = some y) (hyl : X.env.scope.names.lookup y = some .local)
    (hsw : swapsWith (.ListComp elt [⟨tg, iter, ifs, 0⟩] scope pos) (some (.Name y py)) spos.line X.env = pure true) (hi : ID K mg X E tg iter wi src) (ok : BlkOk X.N X.env.scope scope own)
    (hg : ∀ (s : Shared) (H : Hp) (C : Addr) (cl : List (Str × Addr)) (fp : List Addr), GD K (Blk X scope s H C cl fp) tg g is h) (ht : ∀ (s : Shared) (H : Hp) (C : Addr) (cl : List (Str × Addr)) (fp : List Addr), TDs K mg (Blk X scope s H C cl fp) E0 ifs tt ft)
    (he : ∀ (s : Shared) (H : Hp) (C : Addr) (cl : List (Str × Addr)) (fp : List Addr), PD K mg (Blk X scope s H C cl fp) E0 elt te fe) (hvs : own.map (·.2) = vs := by rfl) (his : ∀ i ∈ is, i ∈ vs := by decide) (hs : ∀ x, foldedSetIterable iter X.env x = pure x := by intro _; rfl) :
    SD K mg X E (.Assign [.Name y py] (.ListComp elt [⟨tg, iter, ifs, 0⟩] scope pos) spos) (tAsg (tLc wi g tt te vs) (gName i)) (sAsg (fLc src vs is h ft fe) [i] hOne) :=
  ⟨hvs ▸ ps_setLc hc hN hy hyl hsw hi.pi ok (fun s H C cl fp => (hg s H C cl fp).pg) (fun s H C cl fp => (ht s H C cl fp).pe) (fun s H C cl fp => (he s H C cl fp).pe) hs, asg_sd (pd_lc (pos := pos) hc hN hi ok hg ht he hvs his hs) (gd_name (pg_name (pos := py) hN hy (.inl hyl) (.inr hyl)))⟩
theorem sd_setLc2 {i : Nat} {vs : List Nat} {y : Str} {py : Pos} {elt tg iter tg1 iter1 : Expr} {ifs ifs1 : List Expr} {scope : Scope} {own : List (Str × Nat)} {spos : Pos} {wi wi1 : TI} {g g1 : TG} {tt tt1 : TT} {src src1 : DEnv → Res (List D)} {is is1 : List Nat} {h h1 : D → Option (List D)} {ft ft1 : DEnv → Res Bool} {fe : DEnv → Res D} {vs1 : List Nat} (hc : X.calm = true) (hN : X.N.Nodup) (hy : X.N[i]? = some y) (hyl : X.env.scope.names.lookup y = some .local)
    (hsw : swapsWith (.ListComp elt [⟨tg, iter, ifs, 0⟩, ⟨tg1, iter1, ifs1, 0⟩] scope pos) (some (.Name y py)) spos.line X.env = pure true) (hi : ID K mg X E tg iter wi src) (ok : BlkOk X.N X.env.scope scope own) (hv : ∀ i ∈ vs1, i ∈ own.map (·.2))
    (hg : ∀ (s : Shared) (H : Hp) (C : Addr) (cl : List (Str × Addr)) (fp : List Addr), GD K (Blk X scope s H C cl fp) tg g is h) (ht : ∀ (s : Shared) (H : Hp) (C : Addr) (cl : List (Str × Addr)) (fp : List Addr), TDs K mg (Blk X scope s H C cl fp) E0 ifs tt ft)
    (hi1 : ∀ (s : Shared) (H : Hp) (C : Addr) (cl : List (Str × Addr)) (fp : List Addr), ID K mg (Blk X scope s H C cl fp) E0 tg1 iter1 wi1 src1)
    (hg1 : ∀ (s : Shared) (H : Hp) (C : Addr) (cl : List (Str × Addr)) (fp : List Addr), GD K (Blk X scope s H C cl fp) tg1 g1 is1 h1) (ht1 : ∀ (s : Shared) (H : Hp) (C : Addr) (cl : List (Str × Addr)) (fp : List Addr), TDs K mg (Blk X scope s H C cl fp) E0 ifs1 tt1 ft1)
    (he : ∀ (s : Shared) (H : Hp) (C : Addr) (cl : List (Str × Addr)) (fp : List Addr), PD K mg (Blk X scope s H C cl fp) E0 elt te fe) (hvs : own.map (·.2) = vs := by rfl) (his : ∀ i ∈ is, i ∈ vs := by decide) (his1 : ∀ i ∈ is1, i ∈ vs1 := by decide)
    (hs : ∀ x, foldedSetIterable iter X.env x = pure x := by intro _; rfl) (hs1 : ∀ (env : Env) x, foldedSetIterable iter1 env x = pure x := by intro _ _; rfl) :
    SD K mg X E (.Assign [.Name y py] (.ListComp elt [⟨tg, iter, ifs, 0⟩, ⟨tg1, iter1, ifs1, 0⟩] scope pos) spos) (tAsg (tLc2 wi g tt wi1 g1 tt1 te vs vs1) (gName i)) (sAsg (fLc2 src vs is h ft src1 vs1 is1 h1 ft1 fe) [i] hOne) :=
  ⟨hvs ▸ ps_setLc2 hc hN hy hyl hsw hi.pi ok hv (fun s H C cl fp => (hg s H C cl fp).pg) (fun s H C cl fp => (ht s H C cl fp).pe) (fun s H C cl fp => (hi1 s H C cl fp).pi) (fun s H C cl fp => (hg1 s H C cl fp).pg) (fun s H C cl fp => (ht1 s H C cl fp).pe) (fun s H C cl fp => (he s H C cl fp).pe) hs hs1,
   asg_sd (pd_lc2 (pos := pos) hc hN hi ok hv hg ht hi1 hg1 ht1 he hvs his his1 hs hs1) (gd_name (pg_name (pos := py) hN hy (.inl hyl) (.inr hyl)))⟩
/-- what a slot owns is given up ahead of a statement -/
def sFrz (is : List Nat) (F : DEnv → SR) : DEnv → SR := fun ρ => F (frz ρ is)
theorem sd_frz (is : List Nat) (h : SD K mg X E st t F) : SD K mg X E st t (sFrz is F) := ⟨h.ps, fun S0 H0 S H σ ρ N r q => by
  obtain ⟨S', e, r'⟩ := r.frz is
  exact h.sd S0 H0 S' H σ _ N r' (SPost.mono q e)⟩
/-! ### for -/
def forGo (asg : D → DEnv → Option DEnv) (body : DEnv → SR) : List D → DEnv → SR
  | [], ρ => .next ρ
  | d :: ds, ρ => match asg d ρ with
    | none => .bad
    | some ρ1 => match body ρ1 with
      | .next ρ' => forGo asg body ds ρ'
      | .cont ρ' => forGo asg body ds ρ'
      | .brk ρ' => .next ρ'
      | .ret x => .ret x
      | .err c => .err c
      | .bad => .bad
def asgOf (is : List Nat) (hh : D → Option (List D)) (d : D) (ρ : DEnv) : Option DEnv := (hh d).map fun ds => setD ρ is ds
def sFor (src : DEnv → Res (List D)) (is : List Nat) (hh : D → Option (List D)) (body : DEnv → SR) : DEnv → SR := fun ρ => ofRes (src ρ) fun ds => forGo (asgOf is hh) body ds ρ
theorem sd_for {tg iter : Expr} {body : List Stmt} {wi : TI} {g : TG} {tb : TS} {src : DEnv → Res (List D)} {is : List Nat} {hh : D → Option (List D)} {B : DEnv → SR} (hp : PassesOwn (model X.prog X.w) X.A X.env X.xe) (hc : X.calm = true) (hi : ID K mg X E tg iter wi src) (hg : GD K X tg g is hh) (hb : SDs K mg X E body tb B)
    (hps : PS X (.For tg iter body [] pos) (tFor wi g tb)) : SD K mg X E (.For tg iter body [] pos) (tFor wi g tb) (sFor src is hh B) := ⟨hps, fun S0 H0 S H σ ρ N r h => by
  refine hi.sd S H σ ρ _ r.relE (post_of r h fun ds J S1 H1 _ x1 wk h => ?_)
  refine ⟨fun i m σ' H' => i + m = ds.length ∧ ∃ S' ρ', Same S1 S' ∧ Rel K S0 H0 S' H' σ' ρ' ∧ SPost K mg E S0 H0 S' (forGo (asgOf is hh) B (ds.drop i) ρ') N, ⟨ds.length, by omega, S1, ρ, Same.refl _, r.ext x1, SPost.mono h x1.s⟩, ?_⟩
  rintro i m σ2 H2 ⟨him, S2, ρ2, e2, r2, h2⟩
  have wk2 := wk S2 H2 e2 r2.x.sh
  by_cases hil : i < ds.length
  · obtain ⟨go, yl⟩ := wk2.1 i ds[i] (List.getElem?_eq_getElem hil)
    have ed : ds.drop i = ds[i] :: ds.drop (i + 1) := (List.drop_eq_getElem_cons hil)
    rw [ed] at h2
    unfold forGo at h2
    refine .inr ⟨go, fun σ' H' => ∃ S' ρ', Same S1 S' ∧ Rel K S0 H0 S' H' σ' ρ' ∧ SPost K mg E S0 H0 S' (forGo (asgOf is hh) B (ds.drop (i + 1)) ρ') N, fun σ' H' ⟨S', ρ', a1, a2, a3⟩ => ⟨m - 1, by omega, by omega, S', ρ', a1, a2, a3⟩, fun x H3 hy => ?_⟩
    obtain ⟨S3, x3, dx⟩ := yl x H3 hy
    cases e1 : hh ds[i] with
    | none =>
      unfold asgOf at h2
      rw [e1] at h2
      exact h2.elim
    | some xs =>
      have ea : asgOf is hh ds[i] ρ2 = some (setD ρ2 is xs) := by unfold asgOf; rw [e1]; rfl
      rw [ea] at h2
      dsimp only at h2
      refine hg.sd S3 H3 x σ2 ds[i] xs _ x3.sh dx e1 fun vs hv => ?_
      have r3 := (r2.ext x3).setAll is vs xs hv
      refine hb.sd S0 H0 S3 H3 _ _ _ r3 ?_
      have h3 := SPost.mono h2 x3.s
      cases eb : B (setD ρ2 is xs) with
      | next ρ' =>
        rw [eb] at h3
        exact fun S' H' σ' e' r' => ⟨S', ρ', (e2.trans x3.s).trans e', r', SPost.mono h3 e'⟩
      | cont ρ' =>
        rw [eb] at h3
        exact fun S' H' σ' e' r' => ⟨S', ρ', (e2.trans x3.s).trans e', r', SPost.mono h3 e'⟩
      | brk ρ' => rw [eb] at h3; exact h3
      | ret d => rw [eb] at h3; exact h3
      | err c => rw [eb] at h3; exact h3
      | bad => rw [eb] at h3; exact h3
  · have ed : ds.drop i = [] := List.drop_eq_nil_of_le (by omega)
    have e3 : i = ds.length := by omega
    rw [ed] at h2
    refine .inl ⟨by rw [e3]; exact wk2.2, ?_⟩
    exact h2 S2 H2 σ2 (Same.refl _) r2⟩
/-! ### while -/
def whileGo (g : DEnv → Res Bool) (body : DEnv → SR) : Nat → DEnv → SR
  | 0, _ => .bad
  | n + 1, ρ => match g (viewAll ρ) with
    | .bad => .bad
    | .err c => .err c
    | .ok b => if b = true then (match body ρ with
      | .next ρ' => whileGo g body n ρ'
      | .cont ρ' => whileGo g body n ρ'
      | .brk ρ' => .next ρ'
      | .ret x => .ret x
      | .err c => .err c
      | .bad => .bad) else .next ρ
theorem sd_while (n : Nat) {c : Expr} {body : List Stmt} {tc : TT} {tb : TS} {g : DEnv → Res Bool} {B : DEnv → SR} (hp : PassesOwn (model X.prog X.w) X.A X.env X.xe) (hc : TD K mg X E c tc g) (hb : SDs K mg X E body tb B) : SD K mg X E (.While c body [] pos) (tWhile tc tb) (whileGo g B n) :=
  ⟨ps_while hp hc.pe hb.ps, fun S0 H0 S H σ ρ N r h => by
    refine ⟨fun m σ' H' => ∃ S' ρ', Rel K S0 H0 S' H' σ' ρ' ∧ SPost K mg E S0 H0 S' (whileGo g B m ρ') N, ⟨n, S, ρ, r, h⟩, ?_⟩
    rintro m σ2 H2 ⟨S2, ρ2, r2, h2⟩
    cases m with
    | zero => exact h2.elim
    | succ m =>
      unfold whileGo at h2
      refine hc.sd H2 H2 σ2 (viewAll ρ2) _ r2.relV ?_
      cases eg : g (viewAll ρ2) with
      | bad => rw [eg] at h2; exact h2
      | err c =>
        rw [eg] at h2
        exact fun u H' e sm => h2 u H' e (r2.x.h.trans sm)
      | ok b =>
        rw [eg] at h2
        intro w S' H' x q
        cases q
        have r' := r2.grow x.h
        cases b with
        | false => exact h2 S2 H' σ2 (Same.refl _) r'
        | true =>
          dsimp only at h2
          rw [if_pos rfl] at h2
          refine iteT ⟨fun σ' H' => ∃ S' ρ', Rel K S0 H0 S' H' σ' ρ' ∧ SPost K mg E S0 H0 S' (whileGo g B m ρ') N, fun σ' H' q => ⟨m, Nat.lt_succ_self m, q⟩, ?_⟩
          refine hb.sd S0 H0 S2 H' σ2 ρ2 _ r' ?_
          cases eb : B ρ2 with
          | next ρ' =>
            rw [eb] at h2
            exact fun S' H' σ' e' r' => ⟨S', ρ', r', SPost.mono h2 e'⟩
          | cont ρ' =>
            rw [eb] at h2
            exact fun S' H' σ' e' r' => ⟨S', ρ', r', SPost.mono h2 e'⟩
          | brk ρ' => rw [eb] at h2; exact h2
          | ret d => rw [eb] at h2; exact h2
          | err c => rw [eb] at h2; exact h2
          | bad => rw [eb] at h2; exact h2⟩
/-! ### raise -/
def sRaise (c : Str) : DEnv → SR := fun _ => .err c
theorem sd_raise {x m : Str} {j : Nat} {p p2 pos2 : Pos} {C : Addr} (hc : X.calm = true) (tk : Takes X (fun cls d _ H => E cls d H)) (q : PySem.W.excIn X.K C [.type "ValueError", .type "Exception", .type "BaseException", .type "object"] "ValueError.__new__" = true) (gC : X.mg x = some (.ref C)) (kC : PySem.W.keepIn X.K (.ref C) = true)
    (bC : PySem.W.subIn X.K (.ref C) (.type "BaseException") = some true) (tC : PySem.W.typeIn X.K (.ref C) = some (.type "type")) (hg : Gl X x) (hdb : (x == ("__debug__" : Str)) = false := by decide) (hM : X.mg = mg := by rfl) :
    SD K mg X E (.Raise (some (.Call (.Name x p) [.Constant (.str m) j p2] [] pos2)) none pos) (fun _ σ H => E (.ref C) none H) (sRaise x) :=
  ⟨ps_raise hc tk (pmk_own PySem.F.excBase_ValueError q gC kC (raises_own bC tC) hg hdb), fun S0 H0 S H σ ρ N r h => h (.ref C) H (hM ▸ gC) r.x.h⟩
end
end PD
namespace PD
open PySem L2
/-! ### new things for slots -/
def SlotNew (K : PySem.W.Frag) (H S' H' : Hp) (v : V) (s : Slot) : Prop := match s with
  | .d x => DV K S' v x
  | .un => False
  | .raw _ => False
  | s => ∃ p, v = .ref p ∧ S' p = none ∧ H p = none ∧ OwnOk K S' H' p s
def OwnIn (p : Addr) : List V → List Slot → Prop
  | v :: vs, s :: ss => (v = .ref p ∧ isOwn s = true) ∨ OwnIn p vs ss
  | _, _ => False
def SlotsNew (K : PySem.W.Frag) (H S' H' : Hp) : List V → List Slot → Prop
  | [], [] => True
  | v :: vs, s :: ss => SlotNew K H S' H' v s ∧ SlotsNew K H S' H' vs ss ∧ ∀ p, v = .ref p → isOwn s = true → ¬ OwnIn p vs ss
  | _, _ => False
def PostS (K : PySem.W.Frag) (mg : Str → Option Value) (E : XK) (S H : Hp) (r : Res (List Slot)) (Q : List V → Hp → Prop) : Prop := match r with
  | .ok ss => ∀ vs S' H', Ext S H S' H' → SlotsNew K H S' H' vs ss → Q vs H'
  | .err c => ∀ u H', mg c = some u → Same H H' → E u none H'
  | .bad => False
structure ZD (K : PySem.W.Frag) (mg : Str → Option Value) (X : Cx) (E : XK) (es : List Expr) (t : TA) (f : DEnv → Res (List Slot)) : Prop where
  pe : PA X es t
  sd : ∀ (S H : Hp) (σ : L2.St) (ρ : DEnv) (Q : List V → Hp → Prop), RelE K S H σ ρ → PostS K mg E S H (f ρ) Q → t σ H Q
def zNil : DEnv → Res (List Slot) := fun _ => .ok []
def zD (f : DEnv → Res D) (g : DEnv → Res (List Slot)) : DEnv → Res (List Slot) := fun ρ => (f ρ).bind fun x => (g ρ).bind fun xs => .ok (.d x :: xs)
def zL (f : DEnv → Res (List D)) (g : DEnv → Res (List Slot)) : DEnv → Res (List Slot) := fun ρ => (f ρ).bind fun ds => if lenOk ds.length = true then (g ρ).bind fun xs => .ok (.own ds :: xs) else .bad
theorem refs_lt {K : PySem.W.Frag} {H S' H' : Hp} : ∀ {vs : List V} {ss : List Slot} {p : Addr}, SlotsNew K H S' H' vs ss → OwnIn p vs ss → H p = none
  | v :: vs, s :: ss, p, h, hp => by
    obtain ⟨h1, h2, h3⟩ := h
    rcases hp with ⟨rfl, ho⟩ | hp
    · cases s with
      | own xs => obtain ⟨q, e, _, g, _⟩ := h1; cases e; exact g
      | ownK xs => obtain ⟨q, e, _, g, _⟩ := h1; cases e; exact g
      | ownT xs => obtain ⟨q, e, _, g, _⟩ := h1; cases e; exact g
      | _ => cases ho
    · exact refs_lt h2 hp
  | [], [], _, _, hp => hp.elim
  | [], _ :: _, _, h, _ => h.elim
  | _ :: _, [], _, h, _ => h.elim
theorem SlotsNew.weak {K : PySem.W.Frag} {H H1 S' H' : Hp} (e : Same H H1) : ∀ {vs : List V} {ss : List Slot}, SlotsNew K H1 S' H' vs ss → SlotsNew K H S' H' vs ss
  | [], [], _ => trivial
  | v :: vs, s :: ss, h => by
    obtain ⟨h1, h2, h3⟩ := h
    refine ⟨?_, SlotsNew.weak e h2, h3⟩
    cases s with
    | d x => exact h1
    | un => exact h1
    | raw _ => exact h1
    | own xs => obtain ⟨q, e1, e2, g, e3⟩ := h1; exact ⟨q, e1, e2, e.free g, e3⟩
    | ownK xs => obtain ⟨q, e1, e2, g, e3⟩ := h1; exact ⟨q, e1, e2, e.free g, e3⟩
    | ownT xs => obtain ⟨q, e1, e2, g, e3⟩ := h1; exact ⟨q, e1, e2, e.free g, e3⟩
  | [], _ :: _, h => h.elim
  | _ :: _, [], h => h.elim
section
variable {K : PySem.W.Frag} {mg : Str → Option Value} {X : Cx} {E : XK} {e : Expr} {es : List Expr} {te : TE} {t tr : TA} {f : DEnv → Res D} {fa : DEnv → Res (List D)} {g : DEnv → Res (List Slot)} {pos : Pos}
theorem zd_nil : ZD K mg X E [] tNil zNil := ⟨pa_nil, fun S H σ ρ Q rl h => h [] S H (Ext.refl rl.sh) trivial⟩
theorem zd_d (ha : PD K mg X E e te f) (hr : ZD K mg X E es tr g) (hs : starEach (e :: es) X.env = (false, eval e X.env) :: starEach es X.env := by rfl) : ZD K mg X E (e :: es) (tCons te tr) (zD f g) := ⟨pa_cons ha.pe hr.pe hs, fun S H σ ρ Q rl h => by
  refine ha.sd S H σ ρ _ rl ?_
  unfold zD at h
  cases e1 : f ρ with
  | ok x =>
    rw [e1] at h
    intro v S1 H1 x1 d1
    refine hr.sd S1 H1 σ ρ _ (rl.mono x1) ?_
    cases e2 : g ρ with
    | ok ss =>
      rw [e2] at h
      exact fun vs S2 H2 x2 d2 => h (v :: vs) S2 H2 (x1.trans x2) ⟨d1.mono x2.s, d2.weak x1.h, fun p _ z => by cases z⟩
    | err c =>
      rw [e2] at h
      exact fun u H' e sm => h u H' e (x1.h.trans sm)
    | bad => rw [e2] at h; exact h
  | err c => rw [e1] at h; exact h
  | bad => rw [e1] at h; exact h⟩
theorem zd_lst {ls : List Expr} (ha : AD K mg X E ls t fa) (hr : ZD K mg X E es tr g) (hs : starEach (.List ls pos :: es) X.env = (false, eval (.List ls pos) X.env) :: starEach es X.env := by rfl) : ZD K mg X E (.List ls pos :: es) (tCons (tLst t) tr) (zL fa g) := ⟨pa_cons (pe_lst ha.pe) hr.pe hs, fun S H σ ρ Q rl h => by
  refine ha.sd S H σ ρ _ rl ?_
  unfold zL at h
  cases e1 : fa ρ with
  | ok ds =>
    rw [e1, bind_ok] at h
    intro xs S1 H1 x1 d1
    split at h
    · rename_i hz
      refine ⟨by rw [d1.length]; exact lenOk.le hz, fun p hp => ?_⟩
      have sm : Same H1 (upd H1 p (.lst xs)) := same_upd hp
      have rl1 : RelE K S1 (upd H1 p (.lst xs)) σ ρ := ⟨x1.sh.trans sm, rl.len, (rl.mono x1).dt, rl.rw⟩
      refine hr.sd S1 _ σ ρ _ rl1 ?_
      cases e2 : g ρ with
      | ok ss =>
        rw [e2] at h
        refine fun vs S2 H2 x2 d2 => h (.ref p :: vs) S2 H2 ⟨x1.s.trans x2.s, (x1.h.trans sm).trans x2.h, x2.sh, fun a ha => ?_⟩ ⟨⟨p, rfl, ?_, x1.h.free hp, xs, x2.h _ _ upd_same, d1.mono x2.s⟩, d2.weak (x1.h.trans sm), fun q e _ hq => ?_⟩
        · refine (x2.old a ?_).trans (x1.old a ha)
          cases e : H a with
          | none => exact absurd e ha
          | some o => rw [sm _ _ (x1.h a o e)]; exact (fun z => nomatch z)
        · rw [x2.old p (by rw [upd_same]; exact (fun z => nomatch z))]
          exact x1.sh.free hp
        · cases e
          have := refs_lt d2 hq
          rw [upd_same] at this
          cases this
      | err c =>
        rw [e2] at h
        exact fun u H' e sm' => h u H' e ((x1.h.trans sm).trans sm')
      | bad => rw [e2] at h; exact h
    · exact h.elim
  | err c => rw [e1] at h; exact h
  | bad => rw [e1] at h; exact h⟩
end
def setS (ρ : DEnv) : List Nat → List Slot → DEnv
  | i :: is, s :: ss => setS (ρ.set i s) is ss
  | _, _ => ρ
theorem Rel.setSlots {K : PySem.W.Frag} {S0 H0 Hb S H : Hp} (hb : Same H0 Hb) : ∀ (is : List Nat) (vs : List V) (ss : List Slot) {σ : L2.St} {ρ : DEnv}, Rel K S0 H0 S H σ ρ → SlotsNew K Hb S H vs ss →
    (∀ p, OwnIn p vs ss → ∀ (j : Nat) (s' : Slot), ρ[j]? = some s' → isOwn s' = true → σ[j]? ≠ some (some (.ref p))) → Rel K S0 H0 S H (PD.setAll σ is vs) (setS ρ is ss)
  | [], vs, ss, _, _, r, _, _ => by cases vs <;> cases ss <;> exact r
  | _ :: _, [], [], _, _, r, _, _ => r
  | i :: is, v :: vs, s :: ss, σ, ρ, r, h, hd => by
    obtain ⟨h1, h2, h3⟩ := h
    show Rel K S0 H0 S H (PD.setAll (σ.set i (some v)) is vs) (setS (ρ.set i s) is ss)
    have own : ∀ p, v = .ref p → isOwn s = true → S p = none → Hb p = none → OwnOk K S H p s → Rel K S0 H0 S H (PD.setAll (σ.set i (some v)) is vs) (setS (ρ.set i s) is ss) := fun p e ho g1 g2 g3 => by
      subst e
      refine Rel.setSlots hb is vs ss (r.setOwn ho g1 (hb.free g2) g3 (hd p (.inl ⟨rfl, ho⟩))) h2 fun q hq j s' e1 e2 e3 => ?_
      rcases set_at e1 with ⟨rfl, hi, _⟩ | ⟨hj, e1⟩
      · rw [List.getElem?_set_self (by rw [r.len]; exact hi)] at e3
        cases e3
        exact h3 _ rfl ho hq
      · rw [List.getElem?_set_ne hj] at e3
        exact hd q (.inr hq) j s' e1 e2 e3
    cases s with
    | d x =>
      refine Rel.setSlots hb is vs ss (r.setV h1) h2 fun q hq j s' e1 e2 e3 => ?_
      rcases set_at e1 with ⟨rfl, hi, e1⟩ | ⟨hj, e1⟩
      · subst e1
        cases e2
      · rw [List.getElem?_set_ne hj] at e3
        exact hd q (.inr hq) j s' e1 e2 e3
    | un => exact h1.elim
    | raw _ => exact h1.elim
    | own xs => obtain ⟨p, e1, e2, g, e3⟩ := h1; exact own p e1 rfl e2 g e3
    | ownK xs => obtain ⟨p, e1, e2, g, e3⟩ := h1; exact own p e1 rfl e2 g e3
    | ownT xs => obtain ⟨p, e1, e2, g, e3⟩ := h1; exact own p e1 rfl e2 g e3
  | _ :: _, [], _ :: _, _, _, _, h, _ => h.elim
  | _ :: _, _ :: _, [], _, _, _, h, _ => h.elim
theorem Rel.slots {K : PySem.W.Frag} {S0 H0 S H S' H' : Hp} {σ : L2.St} {ρ : DEnv} {vs : List V} {ss : List Slot} (r : Rel K S0 H0 S H σ ρ) (x : Ext S H S' H') (h : SlotsNew K H S' H' vs ss) (is : List Nat) : Rel K S0 H0 S' H' (PD.setAll σ is vs) (setS ρ is ss) := by
  refine Rel.setSlots r.x.h is vs ss (r.ext x) h fun p hp j s' e1 e2 e3 => ?_
  obtain ⟨q, g1, _, _, g4⟩ := r.own j s' e1 e2
  obtain ⟨u, hu⟩ := g4.some
  rw [e3] at g1
  cases g1
  have := refs_lt h hp
  rw [hu] at this
  cases this
section
variable {K : PySem.W.Frag} {mg : Str → Option Value} {X : Cx} {E : XK} {e : Expr} {te : TE} {t : TA} {f : DEnv → Res D} {fa : DEnv → Res (List D)} {g : DEnv → Res (List Slot)} {pos : Pos}
def sPar (g : DEnv → Res (List Slot)) (is : List Nat) : DEnv → SR := fun ρ => ofRes (g ρ) fun ss => if ss.length = is.length then .next (setS ρ is ss) else .bad
theorem SlotsNew.length {K : PySem.W.Frag} {H S' H' : Hp} : ∀ {vs : List V} {ss : List Slot}, SlotsNew K H S' H' vs ss → vs.length = ss.length
  | [], [], _ => rfl
  | _ :: vs, _ :: ss, h => congrArg (· + 1) (SlotsNew.length (vs := vs) (ss := ss) h.2.1)
  | [], _ :: _, h => h.elim
  | _ :: _, [], h => h.elim
theorem posts_of {mg : Str → Option Value} {K : PySem.W.Frag} {S0 H0 S H T : Hp} {σ : L2.St} {ρ : DEnv} {N : Ends} {r : Res (List Slot)} {k : List Slot → SR} {Q : List V → Hp → Prop} (rl : Rel K S0 H0 S H σ ρ) (h : SPost K mg E S0 H0 S (ofRes r k) N)
    (hk : ∀ ss vs S' H', Ext T H S' H' → SlotsNew K H S' H' vs ss → SPost K mg E S0 H0 S (k ss) N → Q vs H') : PostS K mg E T H r Q := by
  cases r with
  | ok a => exact fun vs S' H' x q => hk a vs S' H' x q h
  | err c => exact fun u H' e sm => h u H' e (rl.x.h.trans sm)
  | bad => exact h
/-- x, y = a, b -/
theorem sd_par {i j : Nat} {x y : Str} {a b : Expr} {px py pt : Pos} {kt k2 pt2} (hz : ZD K mg X E [a, b] t g)
    (hp : PS X (.Assign [.Tuple [.Name x px, .Name y py] kt pt] (.Tuple [a, b] k2 pt2) pos) (tPar i j t)) : SD K mg X E (.Assign [.Tuple [.Name x px, .Name y py] kt pt] (.Tuple [a, b] k2 pt2) pos) (tPar i j t) (sPar g [i, j]) := ⟨hp, fun S0 H0 S H σ ρ N r h => by
  refine hz.sd S H σ ρ _ r.relE (posts_of r h fun ss vs S' H' x' q h => ?_)
  split at h
  · rename_i hl
    have lv := q.length
    match vs, lv with
    | [v, w], _ => exact ⟨v, w, rfl, h S' H' _ x'.s (r.slots x' q [i, j])⟩
    | [], lv => rw [hl] at lv; cases lv
    | [_], lv => rw [hl] at lv; cases lv
    | _ :: _ :: _ :: _, lv => rw [hl] at lv; cases lv
  · exact h.elim⟩
theorem sd_par3 {i j l : Nat} {x y z : Str} {a b c : Expr} {px py pz pt : Pos} {kt k2 pt2} (hz : ZD K mg X E [a, b, c] t g)
    (hp : PS X (.Assign [.Tuple [.Name x px, .Name y py, .Name z pz] kt pt] (.Tuple [a, b, c] k2 pt2) pos) (tPar3 i j l t)) : SD K mg X E (.Assign [.Tuple [.Name x px, .Name y py, .Name z pz] kt pt] (.Tuple [a, b, c] k2 pt2) pos) (tPar3 i j l t) (sPar g [i, j, l]) := ⟨hp, fun S0 H0 S H σ ρ N r h => by
  refine hz.sd S H σ ρ _ r.relE (posts_of r h fun ss vs S' H' x' q h => ?_)
  split at h
  · rename_i hl
    have lv := q.length
    match vs, lv with
    | [v, w, u], _ => exact ⟨v, w, u, rfl, h S' H' _ x'.s (r.slots x' q [i, j, l])⟩
    | [], lv => rw [hl] at lv; cases lv
    | [_], lv => rw [hl] at lv; cases lv
    | [_, _], lv => rw [hl] at lv; cases lv
    | _ :: _ :: _ :: _ :: _, lv => rw [hl] at lv; cases lv
  · exact h.elim⟩
/-- x = [a, ..], owned -/
def sOwnL (fa : DEnv → Res (List D)) (i : Nat) : DEnv → SR := fun ρ => ofRes (fa ρ) fun ds => if lenOk ds.length = true then .next (ρ.set i (.own ds)) else .bad
theorem sd_ownL {i : Nat} {x : Str} {pos' pos2 : Pos} {ls : List Expr} (ha : AD K mg X E ls t fa) (hN : X.N.Nodup) (hi : X.N[i]? = some x) (hx : Loc X.env.scope x := by first | exact Or.inl rfl | exact Or.inr rfl) (hs : swapsWith (.List ls pos2) (some (.Name x pos')) pos.line X.env = pure false := by rfl) (hf : X.fn x = true ∨ X.env.scope.names.lookup x = some .local := by first | exact .inl rfl | exact .inr rfl | assumption) :
    SD K mg X E (.Assign [.Name x pos'] (.List ls pos2) pos) (tAsg (tLst t) (gName i)) (sOwnL fa i) := ⟨ps_set hN hi hx (pe_lst ha.pe) hs hf, fun S0 H0 S H σ ρ N r h => by
  refine ha.sd S H σ ρ _ r.relE (post_of r h fun ds vs S1 H1 _ x1 d1 h => ?_)
  split at h
  · rename_i hz
    refine ⟨by rw [d1.length]; exact lenOk.le hz, fun p hp => ?_⟩
    have sm : Same H1 (upd H1 p (.lst vs)) := same_upd hp
    refine h S1 _ _ x1.s (((r.ext x1).grow sm).setOwn rfl (x1.sh.free hp) ((r.x.h.trans x1.h).free hp) ⟨vs, upd_same, d1⟩ fun k s' e1 e2 e3 => ?_)
    obtain ⟨q, g1, _, _, g4⟩ := (r.ext x1).own k s' e1 e2
    obtain ⟨u, hu⟩ := g4.some
    rw [e3] at g1
    cases g1
    rw [hp] at hu
    cases hu
  · exact h.elim⟩
/-- the value of an expression, read where all is shared for the while: what comes out is flat -/
def flatD : D → Bool
  | .none => true
  | .bool _ => true
  | .int _ => true
  | .str _ => true
  | _ => false
theorem DV.flat {K : PySem.W.Frag} {S T : Hp} {v : V} {d : D} (h : DV K S v d) (hf : flatD d = true) : DV K T v d := by
  cases d with
  | none => exact h
  | bool b => exact h
  | int b => exact h
  | str b => exact h
  | _ => cases hf
def fBor (f : DEnv → Res D) : DEnv → Res D := fun ρ => (f (viewAll ρ)).bind fun d => if flatD d = true then .ok d else .bad
/-- x.append(e) -/
def sApp (f : DEnv → Res D) (i : Nat) : DEnv → SR := fun ρ => match ρ[i]? with
  | some (.own xs) => ofRes (f ρ) fun d => if lenOk (xs.length + 1) = true then .next (ρ.set i (.own (xs ++ [d]))) else .bad
  | _ => .bad
def Use (K : PySem.W.Frag) (mg : Str → Option Value) (E : XK) (te : TE) (f : DEnv → Res D) : Prop := ∀ (S0 H0 S H : Hp) (σ : L2.St) (ρ : DEnv) (N : Ends) (k : D → SR) (Q : VK), Rel K S0 H0 S H σ ρ → SPost K mg E S0 H0 S (ofRes (f ρ) k) N →
  (∀ a w S' H', Rel K S0 H0 S' H' σ ρ → Same S S' → Same H H' → DV K S' w a → SPost K mg E S0 H0 S (k a) N → Q w H') → te σ H Q
theorem own_at {ρ : DEnv} {i : Nat} {k : List D → SR} {K : PySem.W.Frag} {mg : Str → Option Value} {S0 H0 S : Hp} {N : Ends} (h : SPost K mg E S0 H0 S (match ρ[i]? with | some (.own xs) => k xs | _ => .bad) N) : ∃ xs, ρ[i]? = some (Slot.own xs) ∧ SPost K mg E S0 H0 S (k xs) N := by
  cases e2 : ρ[i]? with
  | none => rw [e2] at h; exact h.elim
  | some s =>
    rw [e2] at h
    cases s with
    | own xs => exact ⟨xs, rfl, h⟩
    | _ => exact h.elim
theorem app_sd {i : Nat} (he : Use K mg E te f) (S0 H0 S H : Hp) (σ : L2.St) (ρ : DEnv) (N : Ends) (r : Rel K S0 H0 S H σ ρ) (h : SPost K mg E S0 H0 S (sApp f i ρ) N) : tDrop (tBM K "list" rAppend (tVar i) (tCons te tNil)) N σ H := by
  obtain ⟨xs, ex, h⟩ := own_at h
  obtain ⟨p, g1, g2, g3, vs, g4, g5⟩ := r.own i _ ex rfl
  refine ⟨.ref p, g1, .inl ⟨rfl, vs, SqL.of g4⟩, ?_⟩
  refine he S0 H0 S H σ ρ N _ _ r h fun a w S' H' r' e1 e2 d1 h => ?_
  split at h
  · rename_i hz
    refine ⟨p, vs, w, rfl, rfl, e2 _ _ g4, ?_, ?_⟩
    · rw [g5.length]
      exact Nat.lt_of_lt_of_le (Nat.lt_succ_self _) (lenOk.le hz)
    · exact h S' _ σ e1 (r'.mut ex rfl rfl g1 ⟨vs ++ [w], upd_same, (g5.mono e1).append ⟨d1, trivial⟩⟩)
  · exact h.elim
/-- x.extend(e) -/
def sExt (f : DEnv → Res D) (i : Nat) : DEnv → SR := fun ρ => match ρ[i]? with
  | some (.own xs) => ofRes (f ρ) fun d => match d with
    | .list ys => if lenOk (xs.length + ys.length) = true then .next (ρ.set i (.own (xs ++ ys))) else .bad
    | _ => .bad
  | _ => .bad
def rExtR (K : PySem.W.Frag) : V → List V → Hp → VK → Prop := fun x vs H Q => ∃ l b xs zs, x = .ref l ∧ vs = [.ref b] ∧ H l = some (.lst xs) ∧ LsAt K H b zs ∧ xs.length + zs.length ≤ sizeLine ∧ Q .non (upd H l (.lst (xs ++ zs)))
theorem mt_extR (hK : X.K = K := by rfl) : MtM X "list.extend" (rExtR K) := by
  subst hK
  intro pins s σ H x vs v us Q I rx rv h
  obtain ⟨l, b, xs, zs, rfl, rfl, hH, hB, hz, q⟩ := h
  cases rx
  obtain ⟨u, rfl, ru⟩ := rv.one
  cases ru
  obtain ⟨z, its, n, r, hl, e⟩ := I.lstM hH
  obtain ⟨its2, n2, r2, hl2, e2⟩ := rd_lst I hB
  have hsz : its.toArray.size + its2.toArray.size ≤ sizeLine := by rw [List.size_toArray, List.size_toArray]; omega
  have hlong : ¬ (!its.toArray.isEmpty && Builtin.List.listTooLong (its.toArray.size + its2.toArray.size)) = true := by
    rw [notLongL hsz, Bool.and_false]
    exact Bool.false_ne_true
  refine call_meets F.slot_list_extend ⟨_, e, rfl⟩ F.entry_list_extend (F.args_list_extend_2 _ _)
    (AutoSeq1.list_extend_list_list_0 l its.toArray n b its2.toArray n2 hlong (by rw [List.size_toArray]; omega) (by omega)) ⟨e, e2, ?_⟩
  refine ⟨.non, _, I.lset (its' := its ++ its2) hH e (by simp) (r.append r2) ?_, rfl, q⟩
  rw [List.length_append]
  omega
theorem ext_sd {i : Nat} (he : Use K mg E te f) (S0 H0 S H : Hp) (σ : L2.St) (ρ : DEnv) (N : Ends) (r : Rel K S0 H0 S H σ ρ) (h : SPost K mg E S0 H0 S (sExt f i ρ) N) : tDrop (tBM K "list" (rExtR K) (tVar i) (tCons te tNil)) N σ H := by
  obtain ⟨xs, ex, h⟩ := own_at h
  obtain ⟨p, g1, g2, g3, vs, g4, g5⟩ := r.own i _ ex rfl
  refine ⟨.ref p, g1, .inl ⟨rfl, vs, SqL.of g4⟩, ?_⟩
  refine he S0 H0 S H σ ρ N _ _ r h fun a w S' H' r' e1 e2 d1 h => ?_
  cases a with
  | list ys =>
    dsimp only at h
    split at h
    · rename_i hz
      rw [DV] at d1
      obtain ⟨b, us, rfl, h1, h2⟩ := d1
      refine ⟨p, b, vs, us, rfl, rfl, e2 _ _ g4, ls_mono r'.x.sh h1, ?_, ?_⟩
      · rw [g5.length, h2.length]
        exact lenOk.le hz
      · exact h S' _ σ e1 (r'.mut ex rfl rfl g1 ⟨vs ++ us, upd_same, (g5.mono e1).append h2⟩)
    · exact h.elim
  | _ => exact h.elim
theorem use_plain (he : PD K mg X E e te f) : Use K mg E te f := fun S0 H0 S H σ ρ N k Q r h hk =>
  he.sd S H σ ρ _ r.relE (post_of r h fun a w S' H' _ x q h => hk a w S' H' (r.ext x) x.s x.h q h)
theorem use_bor (he : PD K mg X E e te f) : Use K mg E te (fBor f) := fun S0 H0 S H σ ρ N k Q r h hk => by
  refine he.sd H H σ (viewAll ρ) _ r.relV ?_
  unfold fBor at h
  cases e1 : f (viewAll ρ) with
  | ok d =>
    rw [e1, bind_ok] at h
    intro w S' H' x q
    split at h
    · rename_i hf
      exact hk d w S H' (r.grow x.h) (Same.refl _) x.h (q.flat hf) h
    · exact h.elim
  | err c =>
    rw [e1] at h
    exact fun u H' e sm => h u H' e (r.x.h.trans sm)
  | bad => rw [e1] at h; exact h
/-- x = e, the value read with all shared, flat -/
theorem sd_setU {i : Nat} {x : Str} {pos' : Pos} (pe : PE X e te) (he : Use K mg E te f) (hN : X.N.Nodup) (hi : X.N[i]? = some x) (hx : Loc X.env.scope x := by first | exact Or.inl rfl | exact Or.inr rfl) (hs : swapsWith e (some (.Name x pos')) pos.line X.env = pure false := by rfl) (hf : X.fn x = true ∨ X.env.scope.names.lookup x = some .local := by first | exact .inl rfl | exact .inr rfl | assumption) :
    SD K mg X E (.Assign [.Name x pos'] e pos) (tAsg te (gName i)) (sAsg f [i] hOne) := ⟨ps_set hN hi hx pe hs hf, fun S0 H0 S H σ ρ N r h =>
  he S0 H0 S H σ ρ N _ _ r h fun a w S' H' r' e1 e2 d1 h => h S' H' _ e1 (r'.setAll [i] [w] [a] ⟨d1, trivial⟩)⟩
theorem sd_retU (pe : PE X e te) (he : Use K mg E te f) : SD K mg X E (.Return (some e) pos) (tRet te) (sRet f) := ⟨ps_ret pe, fun S0 H0 S H σ ρ N r h =>
  he S0 H0 S H σ ρ N _ _ r h fun a w S' H' r' e1 e2 d1 h => h w S' H' r'.x d1⟩
/-! ### a def -/
def toRes (r : SR) : Res D := match r with
  | .next _ => .ok .none
  | .ret d => .ok d
  | .err c => .err c
  | .brk _ => .bad
  | .cont _ => .bad
  | .bad => .bad
def startD (n : Nat) (ds : List D) : DEnv := ds.map Slot.d ++ List.replicate (n - ds.length) Slot.un
def fnF (n : Nat) (B : DEnv → SR) (ds : List D) : Res D := toRes (B (startD n ds))
theorem start_rel {K : PySem.W.Frag} {S H : Hp} {N : List Str} {vs : List V} {ds : List D} (sh : Same S H) (h : DVs K S vs ds) : Rel K S H S H (start N vs) (startD N.length ds) := by
  have hn : ∀ (i : Nat) (s : Slot), (startD N.length ds)[i]? = some s → (∃ d, ds[i]? = some d ∧ s = .d d) ∨ s = .un := fun i s e => by
    unfold startD at e
    by_cases hi : i < ds.length
    · rw [List.getElem?_append_left (by rw [List.length_map]; exact hi), List.getElem?_map] at e
      cases e2 : ds[i]? with
      | none => rw [e2] at e; cases e
      | some d => rw [e2] at e; cases e; exact .inl ⟨d, rfl, rfl⟩
    · rw [List.getElem?_append_right (by rw [List.length_map]; omega)] at e
      have := List.mem_of_getElem? e
      exact .inr (List.eq_of_mem_replicate this)
  refine ⟨Ext.refl sh, ?_, fun i y e => ?_, fun i v e => ?_, fun i s e hs => ?_, fun i j s s' p e _ hs => ?_⟩
  · unfold L2.start startD
    rw [List.length_append, List.length_append, List.length_map, List.length_map, List.length_replicate, List.length_replicate, h.length]
  · rcases hn i _ e with ⟨d, e1, e2⟩ | e2
    · cases e2
      obtain ⟨v, g1, g2⟩ := h.get e1
      refine ⟨v, ?_, g2⟩
      unfold L2.start
      have hi := (List.getElem?_eq_some_iff.mp g1).1
      rw [List.getElem?_append_left (by rw [List.length_map]; exact hi), List.getElem?_map, g1]
      rfl
    · cases e2
  · rcases hn i _ e with ⟨d, e1, e2⟩ | e2 <;> cases e2
  · rcases hn i _ e with ⟨d, e1, e2⟩ | e2 <;> (subst e2; cases hs)
  · rcases hn i _ e with ⟨d, e1, e2⟩ | e2 <;> (subst e2; cases hs)
end
/-- THE RULE for a def that is a function of data -/
theorem fnD {P : Program} {w : World} {K : PySem.W.Frag} {mg : Str → Option Value} {base : Heap} {x qual : Str} {st : Stmt} {f : Addr} {fd : FuncData} {N ps : List Str} {k n : Nat} {B : DEnv → SR} (F : Fun K x qual st f fd) (S : FnScope N ps (defScope st)) (hn : ps.length = n)
    (hbody : ∀ (cdv : Value) (A : Around) (outer : List Env) (s : Shared) (H : Hp) (E : XK), Room k (A.deeper (PyProof.Rows.envOfC qual (defScope st) s.heap.objs.size f cdv)) →
      ∃ t, SDs K mg (cxOf (L2.CX P w) P w K mg base N qual (defScope st) f cdv A outer s H E) E (defBody st) t B) : FnOk P w K mg base (L2.CX P w) (k + 1) f fd ps (spD K mg n (fnF N.length B)) := by
  refine F.okX S (fun vs H Q E h => ?_) (fun cdv A outer s H vs Q E hr h => ?_)
  · obtain ⟨_, _, _, _, hl, _⟩ := h
    rw [hl, hn]
  · obtain ⟨S1, ds, sh, dv, hl, hp⟩ := h
    obtain ⟨t, hb⟩ := hbody cdv A outer s H E hr
    refine ⟨t, hb.ps, hb.sd S1 H S1 H (start N vs) (startD N.length ds) _ (start_rel sh dv) ?_⟩
    unfold fnF at hp
    cases e : B (startD N.length ds) with
    | next ρ => rw [e] at hp; exact fun S' H' σ' _ r => hp .non S' H' r.x rfl
    | ret d => rw [e] at hp; exact fun v S' H' x dv => hp v S' H' x dv
    | err c => rw [e] at hp; exact hp
    | brk ρ => rw [e] at hp; exact hp.elim
    | cont ρ => rw [e] at hp; exact hp.elim
    | bad => rw [e] at hp; exact hp.elim
end PD
namespace PD
open PySem L2
section
variable {K : PySem.W.Frag} {mg : Str → Option Value} {X : Cx} {E : XK} {e : Expr} {es : List Expr} {te : TE} {t : TA} {f : DEnv → Res D} {fa : DEnv → Res (List D)} {pos p : Pos}
/-! ### len -/
def rLenA (K : PySem.W.Frag) : List V → Hp → VK → Prop := fun xs H Q => ∃ x n, xs = [x] ∧ LenV K x H n ∧ Q (.int n) H
def rTupOf (K : PySem.W.Frag) : List V → Hp → VK → Prop := fun xs H Q => ∃ p ys, xs = [.ref p] ∧ ((SqL K H p ys ∧ ∀ l, H l = none → Q (.ref l) (upd H l (.tup ys))) ∨ (SqT K H p ys ∧ Q (.ref p) H))
def rListOf (K : PySem.W.Frag) : List V → Hp → VK → Prop := fun xs H Q => ∃ p ys, xs = [.ref p] ∧ (SqL K H p ys ∨ SqT K H p ys) ∧ ∀ l, H l = none → Q (.ref l) (upd H l (.lst ys))
theorem c_len (hK : X.K = K := by rfl) : CallR X (.builtin "len") (rLenA K) := by subst hK; exact call_len
theorem c_tup (hK : X.K = K := by rfl) : CallR X (.type "tuple") (rTupOf K) := by subst hK; exact call_tuple_of
theorem c_list (hK : X.K = K := by rfl) : CallR X (.type "list") (rListOf K) := by subst hK; exact call_list_of
theorem c_all (hc : X.calm = true) (hK : X.K = K := by rfl) : CallR X (.builtin "all") (rAll K) := by subst hK; exact cr_all hc
theorem c_any (hc : X.calm = true) (hK : X.K = K := by rfl) : CallR X (.builtin "any") (rAny K) := by subst hK; exact cr_any hc
theorem c_sum (hc : X.calm = true) (hK : X.K = K := by rfl) : CallR X (.builtin "sum") (rSum K) := by subst hK; exact cr_sum hc
theorem c_max (hc : X.calm = true) (hK : X.K = K := by rfl) : CallR X (.builtin "max") (rMax K) := by subst hK; exact cr_max hc
theorem c_min (hc : X.calm = true) (hK : X.K = K := by rfl) : CallR X (.builtin "min") (rMin K) := by subst hK; exact cr_min hc
def gLen : List D → Res D
  | [.list xs] => .ok (.int xs.length)
  | [.tuple xs] => .ok (.int xs.length)
  | [.str s] => if lenOk s.length = true then .ok (.int s.length) else .bad
  | _ => .bad
theorem cs_len : CaS K mg E (rLenA K) gLen := fun S H xs ds Q sh dv h => by
  unfold gLen at h
  split at h
  · obtain ⟨v, rfl, hv⟩ := dvs1 dv
    rw [DV] at hv
    obtain ⟨a, us, rfl, h1, h2⟩ := hv
    refine ⟨_, us.length, rfl, .inl ⟨us, ls_sq (ls_mono sh h1), rfl⟩, ?_⟩
    rw [h2.length]
    exact h.ok0 sh rfl
  · obtain ⟨v, rfl, hv⟩ := dvs1 dv
    rw [DV] at hv
    obtain ⟨a, us, rfl, h1, h2⟩ := hv
    refine ⟨_, us.length, rfl, .inr ⟨us, same_t sh h1.1, rfl⟩, ?_⟩
    rw [h2.length]
    exact h.ok0 sh rfl
  · split at h
    · rename_i hz
      obtain ⟨v, rfl, hv⟩ := dvs1 dv
      rw [DV] at hv
      subst hv
      exact ⟨_, _, rfl, ⟨lenOk.le hz, rfl⟩, h.ok0 sh rfl⟩
    · exact h.elim
  · exact h.elim
/-! ### abs, max, min of two -/
def gAbs : List D → Res D
  | [.int i] => .ok (.int (if i < 0 then -i else i))
  | _ => .bad
theorem cs_abs : CaS K mg E (fun xs H Q => ∃ i, xs = [.int i] ∧ Q (.int (if i < 0 then -i else i)) H) gAbs := fun S H xs ds Q sh dv h => by
  unfold gAbs at h
  split at h
  · obtain ⟨v, rfl, hv⟩ := dvs1 dv
    cases hv
    exact ⟨_, rfl, h.ok0 sh rfl⟩
  · exact h.elim
def gMax2 : List D → Res D
  | [.int i, .int j] => .ok (.int (if j > i then j else i))
  | _ => .bad
def gMin2 : List D → Res D
  | [.int i, .int j] => .ok (.int (if j < i then j else i))
  | _ => .bad
theorem cs_max2 : CaS K mg E (fun xs H Q => ∃ i j, xs = [.int i, .int j] ∧ Q (.int (if j > i then j else i)) H) gMax2 := fun S H xs ds Q sh dv h => by
  unfold gMax2 at h
  split at h
  · obtain ⟨v, w, rfl, hv, hw⟩ := dvs2 dv
    cases hv
    cases hw
    exact ⟨_, _, rfl, h.ok0 sh rfl⟩
  · exact h.elim
theorem cs_min2 : CaS K mg E (fun xs H Q => ∃ i j, xs = [.int i, .int j] ∧ Q (.int (if j < i then j else i)) H) gMin2 := fun S H xs ds Q sh dv h => by
  unfold gMin2 at h
  split at h
  · obtain ⟨v, w, rfl, hv, hw⟩ := dvs2 dv
    cases hv
    cases hw
    exact ⟨_, _, rfl, h.ok0 sh rfl⟩
  · exact h.elim
/-! ### lists of bools, of ints -/
def asBs : List D → Option (List Bool)
  | [] => some []
  | .bool b :: r => (asBs r).map (b :: ·)
  | _ :: _ => none
def asIs : List D → Option (List Int)
  | [] => some []
  | .int b :: r => (asIs r).map (b :: ·)
  | _ :: _ => none
theorem asBs_dv {K : PySem.W.Frag} {S : Hp} : ∀ {vs : List V} {ds : List D} {bs : List Bool}, asBs ds = some bs → DVs K S vs ds → vs = bs.map V.bl
  | [], [], bs, h, _ => by cases h; rfl
  | v :: vs, d :: ds, bs, h, hd => by
    cases d with
    | bool b =>
      unfold asBs at h
      cases e : asBs ds with
      | none => rw [e] at h; cases h
      | some r =>
        rw [e] at h
        cases h
        have h1 : v = .bl b := hd.1
        rw [h1, asBs_dv e hd.2]
        rfl
    | _ => cases h
  | [], _ :: _, _, _, h => h.elim
  | _ :: _, [], _, _, h => h.elim
theorem asIs_dv {K : PySem.W.Frag} {S : Hp} : ∀ {vs : List V} {ds : List D} {bs : List Int}, asIs ds = some bs → DVs K S vs ds → vs = bs.map V.int
  | [], [], bs, h, _ => by cases h; rfl
  | v :: vs, d :: ds, bs, h, hd => by
    cases d with
    | int b =>
      unfold asIs at h
      cases e : asIs ds with
      | none => rw [e] at h; cases h
      | some r =>
        rw [e] at h
        cases h
        have h1 : v = .int b := hd.1
        rw [h1, asIs_dv e hd.2]
        rfl
    | _ => cases h
  | [], _ :: _, _, _, h => h.elim
  | _ :: _, [], _, _, h => h.elim
theorem asIs_map : ∀ ns : List Int, asIs (ns.map PyData.int) = some ns
  | [] => rfl
  | n :: ns => by show (asIs (ns.map PyData.int)).map (n :: ·) = _; rw [asIs_map ns]; rfl
theorem asBs_map : ∀ ns : List Bool, asBs (ns.map PyData.bool) = some ns
  | [] => rfl
  | n :: ns => by show (asBs (ns.map PyData.bool)).map (n :: ·) = _; rw [asBs_map ns]; rfl
def gBs (k : List Bool → D) : List D → Res D
  | [.list xs] => match asBs xs with
    | some bs => .ok (k bs)
    | none => .bad
  | _ => .bad
def gAll : List D → Res D := gBs fun bs => .bool (bs.all id)
def gAny : List D → Res D := gBs fun bs => .bool (bs.any id)
theorem bs_of {k : List Bool → D} {S H : Hp} {xs : List V} {ds : List D} {Q : VK} (dv : DVs K S xs ds) (h : PostG mg E S H (DV K) (gBs k ds) Q) : ∃ a bs, xs = [.ref a] ∧ LsAt K S a (bs.map V.bl) ∧ PostG mg E S H (DV K) (.ok (k bs)) Q := by
  unfold gBs at h
  split at h
  · split at h
    · rename_i bs e
      obtain ⟨v, rfl, hv⟩ := dvs1 dv
      rw [DV] at hv
      obtain ⟨a, us, rfl, h1, h2⟩ := hv
      rw [asBs_dv e h2] at h1
      exact ⟨a, bs, rfl, h1, h⟩
    · exact h.elim
  · exact h.elim
theorem cs_all : CaS K mg E (rAll K) gAll := fun S H xs ds Q sh dv h => by
  obtain ⟨a, bs, rfl, h1, h⟩ := bs_of dv h
  exact ⟨a, bs, rfl, ls_sq (ls_mono sh h1), h.ok0 sh rfl⟩
theorem cs_any : CaS K mg E (rAny K) gAny := fun S H xs ds Q sh dv h => by
  obtain ⟨a, bs, rfl, h1, h⟩ := bs_of dv h
  exact ⟨a, bs, rfl, ls_sq (ls_mono sh h1), h.ok0 sh rfl⟩
def gIsL (ne : Bool) (k : List Int → D) : List D → Res D
  | [.list xs] => match asIs xs with
    | some ns => if (ne && ns.isEmpty) = true then .bad else .ok (k ns)
    | none => .bad
  | _ => .bad
theorem is_of {ne : Bool} {k : List Int → D} {S H : Hp} {xs : List V} {ds : List D} {Q : VK} (dv : DVs K S xs ds) (h : PostG mg E S H (DV K) (gIsL ne k ds) Q) : ∃ a ns, xs = [.ref a] ∧ LsAt K S a (ns.map V.int) ∧ (ne && ns.isEmpty) = false ∧ PostG mg E S H (DV K) (.ok (k ns)) Q := by
  unfold gIsL at h
  split at h
  · split at h
    · rename_i bs e
      split at h
      · exact h.elim
      · rename_i hne
        obtain ⟨v, rfl, hv⟩ := dvs1 dv
        rw [DV] at hv
        obtain ⟨a, us, rfl, h1, h2⟩ := hv
        rw [asIs_dv e h2] at h1
        exact ⟨a, bs, rfl, h1, by cases hx : (ne && bs.isEmpty) with | true => exact absurd hx hne | false => rfl, h⟩
    · exact h.elim
  · exact h.elim
def gSum : List D → Res D := gIsL false fun ns => .int ns.sum
theorem cs_sum : CaS K mg E (rSum K) gSum := fun S H xs ds Q sh dv h => by
  obtain ⟨a, ns, rfl, h1, _, h⟩ := is_of dv h
  exact ⟨a, ns, rfl, ls_sq (ls_mono sh h1), h.ok0 sh rfl⟩
def maxI : List Int → Int
  | [] => 0
  | [x] => x
  | x :: y :: r => if maxI (y :: r) > x then maxI (y :: r) else x
def minI : List Int → Int
  | [] => 0
  | [x] => x
  | x :: y :: r => if minI (y :: r) < x then minI (y :: r) else x
theorem maxI_spec : ∀ (ns : List Int), ns ≠ [] → maxI ns ∈ ns ∧ ∀ y ∈ ns, y ≤ maxI ns
  | [], h => absurd rfl h
  | [x], _ => ⟨List.mem_singleton.mpr rfl, fun y hy => by rw [List.mem_singleton.mp hy]; exact Int.le_refl _⟩
  | x :: y :: r, _ => by
    obtain ⟨h1, h2⟩ := maxI_spec (y :: r) (by simp)
    show (if maxI (y :: r) > x then maxI (y :: r) else x) ∈ x :: y :: r ∧ ∀ z ∈ x :: y :: r, z ≤ (if maxI (y :: r) > x then maxI (y :: r) else x)
    split
    · rename_i hg
      refine ⟨List.mem_cons_of_mem _ h1, fun z hz => ?_⟩
      rcases List.mem_cons.mp hz with q | q
      · omega
      · exact h2 z q
    · rename_i hg
      refine ⟨List.mem_cons_self, fun z hz => ?_⟩
      rcases List.mem_cons.mp hz with q | q
      · omega
      · have := h2 z q
        omega
theorem minI_spec : ∀ (ns : List Int), ns ≠ [] → minI ns ∈ ns ∧ ∀ y ∈ ns, minI ns ≤ y
  | [], h => absurd rfl h
  | [x], _ => ⟨List.mem_singleton.mpr rfl, fun y hy => by rw [List.mem_singleton.mp hy]; exact Int.le_refl _⟩
  | x :: y :: r, _ => by
    obtain ⟨h1, h2⟩ := minI_spec (y :: r) (by simp)
    show (if minI (y :: r) < x then minI (y :: r) else x) ∈ x :: y :: r ∧ ∀ z ∈ x :: y :: r, (if minI (y :: r) < x then minI (y :: r) else x) ≤ z
    split
    · rename_i hg
      refine ⟨List.mem_cons_of_mem _ h1, fun z hz => ?_⟩
      rcases List.mem_cons.mp hz with q | q
      · omega
      · exact h2 z q
    · rename_i hg
      refine ⟨List.mem_cons_self, fun z hz => ?_⟩
      rcases List.mem_cons.mp hz with q | q
      · omega
      · have := h2 z q
        omega
def gMaxL : List D → Res D := gIsL true fun ns => .int (maxI ns)
def gMinL : List D → Res D := gIsL true fun ns => .int (minI ns)
theorem ne_of_flag {ns : List Int} (h : (true && ns.isEmpty) = false) : ns ≠ [] := by
  intro z
  subst z
  cases h
theorem cs_maxL : CaS K mg E (rMax K) gMaxL := fun S H xs ds Q sh dv h => by
  obtain ⟨a, ns, rfl, h1, hn, h⟩ := is_of dv h
  have hn := ne_of_flag hn
  refine ⟨a, ns, rfl, ls_sq (ls_mono sh h1), List.length_pos_iff.mpr hn, fun m hm hle => ?_⟩
  obtain ⟨g1, g2⟩ := maxI_spec ns hn
  have e : m = maxI ns := Int.le_antisymm (g2 m hm) (hle _ g1)
  rw [e]
  exact h.ok0 sh rfl
theorem cs_minL : CaS K mg E (rMin K) gMinL := fun S H xs ds Q sh dv h => by
  obtain ⟨a, ns, rfl, h1, hn, h⟩ := is_of dv h
  have hn := ne_of_flag hn
  refine ⟨a, ns, rfl, ls_sq (ls_mono sh h1), List.length_pos_iff.mpr hn, fun m hm hle => ?_⟩
  obtain ⟨g1, g2⟩ := minI_spec ns hn
  have e : m = minI ns := Int.le_antisymm (hle _ g1) (g2 m hm)
  rw [e]
  exact h.ok0 sh rfl
/-! ### tuple(x), list(x) -/
def gTupOf : List D → Res D
  | [.list xs] => .ok (.tuple xs)
  | [.tuple xs] => .ok (.tuple xs)
  | _ => .bad
def gListOf : List D → Res D
  | [.list xs] => .ok (.list xs)
  | [.tuple xs] => .ok (.list xs)
  | _ => .bad
theorem cs_tupOf : CaS K mg E (rTupOf K) gTupOf := fun S H xs ds Q sh dv h => by
  unfold gTupOf at h
  split at h
  · obtain ⟨v, rfl, hv⟩ := dvs1 dv
    rw [DV] at hv
    obtain ⟨a, us, rfl, h1, h2⟩ := hv
    exact ⟨a, us, rfl, .inl ⟨ls_sq (ls_mono sh h1), fun l hl => new_tup sh h2 h hl⟩⟩
  · obtain ⟨v, rfl, hv⟩ := dvs1 dv
    rw [DV] at hv
    obtain ⟨a, us, rfl, h1, h2⟩ := hv
    exact ⟨a, us, rfl, .inr ⟨same_t sh h1.1, h.ok0 sh ⟨a, us, rfl, h1, h2⟩⟩⟩
  · exact h.elim
theorem cs_listOf : CaS K mg E (rListOf K) gListOf := fun S H xs ds Q sh dv h => by
  unfold gListOf at h
  split at h
  · obtain ⟨v, rfl, hv⟩ := dvs1 dv
    rw [DV] at hv
    obtain ⟨a, us, rfl, h1, h2⟩ := hv
    exact ⟨a, us, rfl, .inl (ls_sq (ls_mono sh h1)), fun l hl => new_lst sh h2 h hl⟩
  · obtain ⟨v, rfl, hv⟩ := dvs1 dv
    rw [DV] at hv
    obtain ⟨a, us, rfl, h1, h2⟩ := hv
    exact ⟨a, us, rfl, .inr (same_t sh h1.1), fun l hl => new_lst sh h2 h hl⟩
  · exact h.elim
/-! ### isinstance(x, T), T built-in -/
def tyName : D → String
  | .none => "NoneType"
  | .bool _ => "bool"
  | .int _ => "int"
  | .str _ => "str"
  | .list _ => "list"
  | .tuple _ => "tuple"
  | .dict _ => "dict"
def isiN (n T : String) : Bool := decide (n = T) || (decide (T = "int") && decide (n = "bool"))
def isiD (T : String) (d : D) : Bool := isiN (tyName d) T
theorem kit_N : ∀ n ∈ ["NoneType", "bool", "int", "str", "list", "tuple", "dict"], ∀ T ∈ ["int", "bool", "tuple", "list", "str"], kitB n T = some (isiN n T) := by decide +kernel
theorem tyName_mem (d : D) : tyName d ∈ ["NoneType", "bool", "int", "str", "list", "tuple", "dict"] := by
  cases d <;> simp [tyName]
theorem kit_D (T : String) (hT : T ∈ ["int", "bool", "tuple", "list", "str"]) (d : D) : kitB (tyName d) T = some (isiD T d) := kit_N _ (tyName_mem d) T hT
/-- .. a dict that is being walked too -/
def TyY (K : PySem.W.Frag) (H : Hp) (x : V) (t : Value) : Prop := TyX K H x t ∨ ∃ (a : Addr) (ob : Obj) (kvs : List (List Key × V)), x = .ref a ∧ H a = some (.frz ob (.dT kvs)) ∧ t = .type "dict"
theorem kit_ofY {X : Cx} {pins : List (Addr × Obj)} {σ : L2.St} {H : Hp} {s : Shared} {x : V} {u t : Value} (I : Inv X pins σ H s) (rx : RelV x u) (ty : TyY X.K H x t) : ∃ P : Heap → Prop, PySem.W.KitX X.K u t P ∧ P s.heap ∧ u ≠ .builtin "__main__.__loader__#opaque" := by
  rcases ty with ty | ⟨a, ob, kvs, rfl, ea, rfl⟩
  · exact kit_of I rx ty
  · cases (show u = Value.ref a from rx)
    obtain ⟨_, _, _, xs, _, o, es, ep, h1, h2, _⟩ := (show ObjOk X.prog X.w H s.heap a (.frz ob (.dT kvs)) from I.hok a _ ea)
    exact ⟨_, PySem.W.kitx_dict, ⟨o, h1, h2.1⟩, fun z => nomatch z⟩
def rIsiY (K : PySem.W.Frag) : List V → Hp → VK → Prop := fun xs H Q => ∃ (x c : V) (t u : Value) (b : Bool), xs = [x, c] ∧ ClsV c u ∧ TyY K H x t ∧ PySem.W.kitOne K t u = some b ∧ Q (.bl b) H
theorem call_isiY {X : Cx} : CallR X (.builtin "isinstance") (rIsiY X.K) := by
  intro pins s σ H xs us Q I r h
  obtain ⟨x, c, t, u, b, rfl, k, ty, e, q⟩ := h
  obtain ⟨u1, u2, rfl, r1, r2⟩ := vals2 r
  have e2 := k.eq r2
  subst e2
  obtain ⟨P, Z, p, hx⟩ := kit_ofY I r1 ty
  exact PySem.W.kia_one Z I.kIn p e hx fun tk => ⟨.bl b, H, I.tok tk, rfl, q⟩
theorem tyX_of {K : PySem.W.Frag} {S H : Hp} {v : V} {d : D} (sh : Same S H) (h : DV K S v d) : TyY K H v (.type (tyName d)) := by
  cases d with
  | none => rw [DV] at h; subst h; exact .inl (.base .non)
  | bool b => rw [DV] at h; subst h; exact .inl (.base (.bl b))
  | int b => rw [DV] at h; subst h; exact .inl (.base (.int b))
  | str b => rw [DV] at h; subst h; exact .inl (.base (.str b))
  | list b =>
    rw [DV] at h
    obtain ⟨a, us, rfl, (h1 | ⟨o, h1⟩) | ⟨its, n, h1, _⟩, _⟩ := h
    · exact .inl (.base (.lst (sh _ _ h1)))
    · exact .inl (.base (.frz (sh _ _ h1)))
    · exact .inl (.kList h1 rfl)
  | tuple b =>
    rw [DV] at h
    obtain ⟨a, us, rfl, ⟨(h1 | ⟨o, h1⟩) | ⟨o, its, n, h1, h2, _⟩, _⟩, _⟩ := h
    · exact .inl (.base (.tup (sh _ _ h1)))
    · exact .inl (.fTuple (sh _ _ h1))
    · exact .inl (.kTuple h1 h2)
  | dict b =>
    rw [DV] at h
    obtain ⟨a, rfl, ⟨es, h1 | ⟨o, h1⟩, _⟩ | ⟨es, h1 | ⟨o, h1⟩, _⟩⟩ := h
    · exact .inl (.base (.dK (sh _ _ h1)))
    · exact .inl (.fDict (sh _ _ h1))
    · exact .inl (.base (.dT (sh _ _ h1)))
    · exact .inr ⟨a, o, es, rfl, sh _ _ h1, rfl⟩
def fIsi (T : String) (f : DEnv → Res D) : DEnv → Res D := fun ρ => (f ρ).bind fun d => .ok (.bool (isiD T d))
theorem pd_isi {T : String} {x : Str} {p1 p2 : Pos} (hT : T ∈ ["int", "bool", "tuple", "list", "str"]) (he : PD K mg X E e te f) (hg : Gl X "isinstance") (hm : X.mg "isinstance" = none) (hv : bootBuiltins "isinstance" = some (.builtin "isinstance")) (hgT : Gl X x) (hmT : X.mg x = none) (hvT : bootBuiltins x = some (.type T))
    (hn : x ≠ "__name__" := by decide) (hd : (x == ("__debug__" : Str)) = false := by decide)
    (h1 : starEach [e, .Name x p1] X.env = (false, eval e X.env) :: starEach [.Name x p1] X.env := by rfl) (h2 : starEach [.Name x p1] X.env = (false, eval (.Name x p1) X.env) :: starEach [] X.env := by rfl) (hpl : (backTo pos (starEach [.Name x p1] X.env)).any (·.1) = false := by rfl) (hK : X.K = K := by rfl) :
    PD K mg X E (.Call (.Name "isinstance" p2) [e, .Name x p1] [] pos) (tCB (rIsiY K) (tCons te (tCons (tC (.ty T)) tNil))) (fIsi T f) :=
  ⟨hK ▸ pe_callB call_isiY hg hm hv (pa_cons he.pe (pa_cons (pe_bltn (v := .ty T) hgT hmT hvT rfl hn hd) pa_nil h2) h1) (by decide) (by decide) h1 hpl, fun S H σ ρ Q rl h =>
    he.sd S H σ ρ _ rl (h.bind fun d v S1 H1 x1 d1 h1 => ⟨v, .ty T, _, _, isiD T d, rfl, .ty T, tyX_of x1.sh d1, kit_ty (kit_D T hT d), h1.ok0 x1.sh rfl⟩)⟩
/-! ### NAMES.index(x), a tuple of texts of the written part -/
def gNamesIx (ys : List Str) : D → Res D
  | .str z => match ys.idxOf? z with
    | some j => .ok (.int (j : Nat))
    | none => .bad
  | _ => .bad
def rNamesIx (K : PySem.W.Frag) : V → List V → Hp → VK → Prop := fun x xs H Q => ∃ p, ∃ ys : List Str, ∃ z j, x = .ref p ∧ xs = [.str z] ∧ SqT K H p (ys.map V.str) ∧ ys[j]? = some z ∧ (∀ m, m < j → ys[m]? ≠ some z) ∧ Q (.int (j : Nat)) H
theorem mt_nix (hK : X.K = K := by rfl) : MtR X "tuple.index" (rNamesIx K) := by subst hK; exact mt_tup_index
def fNix (ys : List Str) (f : DEnv → Res D) : DEnv → Res D := fun ρ => (f ρ).bind (gNamesIx ys)
theorem pd_namesIx {a : Addr} {ys : List Str} {o : Expr} {apos : Pos} (hk : ∃ ob, K.lookup a = some ob ∧ ob.cls = .type "tuple" ∧ ob.dict = none) (hs : ∀ H, SqT K H a (ys.map V.str)) (he : PD K mg X E e te f)
    (hp : PE X (.Call (.Attribute o "index" apos) [e] [] pos) (tBM K "tuple" (rNamesIx K) (tC (.ref a)) (tCons te tNil))) :
    PD K mg X E (.Call (.Attribute o "index" apos) [e] [] pos) (tBM K "tuple" (rNamesIx K) (tC (.ref a)) (tCons te tNil)) (fNix ys f) :=
  ⟨hp, fun S H σ ρ Q rl h => ⟨.inr (.inl ⟨rfl, hk⟩), he.sd S H σ ρ _ rl (h.bind fun d v S1 H1 x1 d1 h1 => by
    cases d with
    | str z =>
      unfold gNamesIx at h1
      dsimp only at h1
      split at h1
      · rename_i j ej
        rw [DV] at d1
        subst d1
        have q := List.findIdx?_eq_some_iff_getElem.mp ej
        obtain ⟨hj, e1, e2⟩ := q
        refine ⟨a, ys, z, j, rfl, rfl, hs H1, ?_, fun m hm em => ?_, h1.ok0 x1.sh rfl⟩
        · rw [List.getElem?_eq_getElem hj]
          exact congrArg some (by simpa using e1)
        · have hml : m < ys.length := by omega
          rw [List.getElem?_eq_getElem hml] at em
          have := e2 m hm
          have em := Option.some.inj em
          rw [em] at this
          simp at this
      · exact h1.elim
    | _ => exact h1.elim)⟩⟩
end
end PD
namespace PD
open PySem L2
def zipD : List D → List D → List D
  | x :: xs, y :: ys => .tuple [x, y] :: zipD xs ys
  | _, _ => []
theorem zipD_get : ∀ {xs ys : List D} {i : Nat} {d : D}, (zipD xs ys)[i]? = some d → ∃ x y, xs[i]? = some x ∧ ys[i]? = some y ∧ d = .tuple [x, y]
  | x :: xs, y :: ys, 0, d, h => ⟨x, y, rfl, rfl, (Option.some.inj h).symm⟩
  | x :: xs, y :: ys, i + 1, d, h => zipD_get (xs := xs) (ys := ys) (i := i) h
  | [], _, _, _, h => by simp [zipD] at h
  | _ :: _, [], _, _, h => by simp [zipD] at h
theorem zipD_len : ∀ (xs ys : List D), (zipD xs ys).length = min xs.length ys.length
  | x :: xs, y :: ys => by show (zipD xs ys).length + 1 = min (xs.length + 1) (ys.length + 1); rw [zipD_len xs ys]; omega
  | [], ys => by simp [zipD]
  | _ :: _, [] => by simp [zipD]
theorem walks_zip {K : PySem.W.Frag} {S : Hp} {a b : Addr} {us ws : List V} {ds es : List D} (h1 : LsAt K S a us) (h2 : DVs K S us ds) (h3 : LsAt K S b ws) (h4 : DVs K S ws es) : Walks K S (Itz K a b) (zipD ds es) := fun S' H' e1 e2 => by
  have q1 : SqL K H' a us := ls_sq (ls_mono (e1.trans e2) h1)
  have q2 : SqL K H' b ws := ls_sq (ls_mono (e1.trans e2) h3)
  refine ⟨fun i d hi => ?_, us, ws, q1, q2, ?_⟩
  · obtain ⟨x, y, g1, g2, rfl⟩ := zipD_get hi
    obtain ⟨v, k1, k2⟩ := h2.get g1
    obtain ⟨w, k3, k4⟩ := h4.get g2
    refine ⟨⟨us, ws, v, w, q1, q2, k1, k3⟩, fun z H'' hy => ?_⟩
    obtain ⟨T, x1, x2, rfl, nT, rfl, f1, f2⟩ := hy
    have ex : x1 = v := Option.some.inj ((f1 _ q1).symm.trans k1)
    have ey : x2 = w := Option.some.inj ((f2 _ q2).symm.trans k3)
    subst ex ey
    have sm : Same S (upd S' T (.tup [x1, x2])) := e1.trans (same_upd (e2.free nT))
    exact ⟨_, Ext.new e2 nT, T, [x1, x2], rfl, tp_of upd_same, k2.mono sm, k4.mono sm, trivial⟩
  · rw [zipD_len, h2.length, h4.length]
    omega
theorem walks_zipT {K : PySem.W.Frag} {S : Hp} {a b : Addr} {us ws : List V} {ds es : List D} (h1 : SqT K S a us) (h2 : DVs K S us ds) (h3 : SqT K S b ws) (h4 : DVs K S ws es) : Walks K S (RZ.ItzT K a b) (zipD ds es) := fun S' H' e1 e2 => by
  have q1 : SqT K H' a us := same_t (e1.trans e2) h1
  have q2 : SqT K H' b ws := same_t (e1.trans e2) h3
  refine ⟨fun i d hi => ?_, us, ws, q1, q2, ?_⟩
  · obtain ⟨x, y, g1, g2, rfl⟩ := zipD_get hi
    obtain ⟨v, k1, k2⟩ := h2.get g1
    obtain ⟨w, k3, k4⟩ := h4.get g2
    refine ⟨⟨us, ws, v, w, q1, q2, k1, k3⟩, fun z H'' hy => ?_⟩
    obtain ⟨T, x1, x2, rfl, nT, rfl, f1, f2⟩ := hy
    have ex : x1 = v := Option.some.inj ((f1 _ q1).symm.trans k1)
    have ey : x2 = w := Option.some.inj ((f2 _ q2).symm.trans k3)
    subst ex ey
    have sm : Same S (upd S' T (.tup [x1, x2])) := e1.trans (same_upd (e2.free nT))
    exact ⟨_, Ext.new e2 nT, T, [x1, x2], rfl, tp_of upd_same, k2.mono sm, k4.mono sm, trivial⟩
  · rw [zipD_len, h2.length, h4.length]
    omega
def gZip : List D → Res (List D)
  | [.list xs, .list ys] => .ok (zipD xs ys)
  | [.tuple xs, .tuple ys] => .ok (zipD xs ys)
  | _ => .bad
section
variable {K : PySem.W.Frag} {mg : Str → Option Value} {X : Cx} {E : XK} {e e2 : Expr} {ta : TA} {ga : DEnv → Res (List D)} {p pos tpos : Pos} {elts : List Expr} {kk : Nat}
theorem id_zip (hg : Gl X "zip") (hm : X.mg "zip" = none) (ha : AD K mg X E [e, e2] ta ga) (hs : starEach [e, e2] X.env = (false, eval e X.env) :: starEach [e2] X.env := by rfl) (hpl : (backTo pos (starEach [e2] X.env)).any (·.1) = false := by rfl) (hK : X.K = K := by rfl) :
    ID K mg X E (.Tuple elts kk tpos) (.Call (.Name "zip" p) [e, e2] [] pos) (RZ.iZipA K ta) (fRng gZip ga) := ⟨hK ▸ RZ.pi_zipA hg hm ha.pe hs hpl, fun S H σ ρ R rl h => by
  refine ha.sd S H σ ρ _ rl (h.bind fun ds vs S1 H1 x1 d1 h1 => ?_)
  unfold gZip at h1
  split at h1
  · obtain ⟨v, w, rfl, hv, hw⟩ := dvs2 d1
    rw [DV] at hv hw
    obtain ⟨a, us, rfl, k1, k2⟩ := hv
    obtain ⟨b, ws, rfl, k3, k4⟩ := hw
    exact ⟨a, b, us, ws, rfl, .inl ⟨ls_sq (ls_mono x1.sh k1), ls_sq (ls_mono x1.sh k3), h1.ok0 x1.sh (walks_zip k1 k2 k3 k4)⟩⟩
  · obtain ⟨v, w, rfl, hv, hw⟩ := dvs2 d1
    rw [DV] at hv hw
    obtain ⟨a, us, rfl, k1, k2⟩ := hv
    obtain ⟨b, ws, rfl, k3, k4⟩ := hw
    exact ⟨a, b, us, ws, rfl, .inr ⟨same_t x1.sh k1.1, same_t x1.sh k3.1, h1.ok0 x1.sh (walks_zipT k1.1 k2 k3.1 k4)⟩⟩
  · exact h1.elim⟩
/-! ### ranges with a step; list(range(..)) -/
def rngS (lo c : Int) (n : Nat) : List D := (List.range n).map fun (i : Nat) => PyData.int (lo + (i : Int) * c)
/-- how many: a, a + c, .. below b -/
def rngN (a b c : Int) : Nat := if a < b then ((b - a - 1) / c + 1).toNat else 0
def rng3Ok (a b c : Int) : Bool := decide (-1000000 ≤ a) && decide (a ≤ 1000000) && decide (-1000000 ≤ b) && decide (b ≤ 1000000) && decide (0 < c) && decide (c ≤ 1000000)
theorem rng3Ok.bd {a b c : Int} (h : rng3Ok a b c = true) : -1000000 ≤ a ∧ a ≤ 1000000 ∧ -1000000 ≤ b ∧ b ≤ 1000000 ∧ 0 < c ∧ c ≤ 1000000 := by
  unfold rng3Ok at h
  simp only [Bool.and_eq_true, decide_eq_true_eq] at h
  omega
theorem rng_size {a b c : Int} (h : 0 < c) : Builtin.Range.rangeSize a b c = (rngN a b c : Nat) := by
  unfold Builtin.Range.rangeSize rngN
  rw [if_pos h]
  split
  · have : 0 ≤ (b - a - 1) / c := Int.ediv_nonneg (by omega) (by omega)
    omega
  · rfl
theorem rngN_le {a b c : Int} (h : rng3Ok a b c = true) : rngN a b c ≤ 2000001 := by
  obtain ⟨h1, h2, h3, h4, h5, h6⟩ := rng3Ok.bd h
  unfold rngN
  split
  · have : (b - a - 1) / c ≤ b - a - 1 := Int.ediv_le_self _ (by omega)
    omega
  · omega
theorem rng_small {a b c : Int} (h : rng3Ok a b c = true) : Builtin.Range.small a b c = true := by
  have hn := rngN_le h
  obtain ⟨h1, h2, h3, h4, h5, h6⟩ := rng3Ok.bd h
  unfold Builtin.Range.small
  rw [rng_size h5]
  simp only [Builtin.Range.rangeFitsLong, Bool.and_eq_true, Bool.or_eq_true, decide_eq_true_eq, beq_iff_eq, h5, gt_iff_lt, if_true]
  have e : (2 : Int) ^ 63 = 9223372036854775808 := by decide
  omega
theorem rgC_of {a b c : Int} (h : rng3Ok a b c = true) : RgC a b c (rngN a b c) := by
  obtain ⟨h1, h2, h3, h4, h5, h6⟩ := rng3Ok.bd h
  exact ⟨by omega, by omega, rng_small h, rng_size h5⟩
theorem walks_rngC {K : PySem.W.Frag} {S : Hp} (lo c : Int) (n : Nat) : Walks K S (Itc lo c n) (rngS lo c n) := fun S' H' e1 e2 => by
  have hl : (rngS lo c n).length = n := by unfold rngS; rw [List.length_map, List.length_range]
  refine ⟨fun i d hi => ?_, by rw [hl]; exact Nat.le_refl n⟩
  have hin : i < n := by
    have := (List.getElem?_eq_some_iff.mp hi).1
    omega
  refine ⟨hin, fun x H'' hy => ?_⟩
  obtain ⟨rfl, rfl⟩ := hy
  refine ⟨S', Ext.refl e2, ?_⟩
  unfold rngS at hi
  rw [List.getElem?_map, List.getElem?_range hin] at hi
  have hi := Option.some.inj hi
  rw [← hi]
  rfl
def gRng3 : List D → Res (List D)
  | [.int i, .int j, .int c] => if rng3Ok i j c = true then .ok (rngS i c (rngN i j c)) else .bad
  | _ => .bad
variable {a b c tg : Expr}
theorem id_range3 (hg : Gl X "range") (hm : X.mg "range" = none) (ha : AD K mg X E [a, b, c] ta ga) (hs : starEach [a, b, c] X.env = (false, eval a X.env) :: starEach [b, c] X.env := by rfl) (hpl : (backTo pos (starEach [b, c] X.env)).any (·.1) = false := by rfl) :
    ID K mg X E tg (.Call (.Name "range" p) [a, b, c] [] pos) (iRng3 ta) (fRng gRng3 ga) := ⟨pi_range3 hg hm ha.pe hs hpl, fun S H σ ρ R rl h => ha.sd S H σ ρ _ rl (h.bind fun ds vs S1 H1 x1 d1 h1 => by
    unfold gRng3 at h1
    split at h1
    · rename_i i j k
      split at h1
      · rename_i hz
        obtain ⟨v, w, u, rfl, hv, hw, hu⟩ := dvs3 d1
        cases hv
        cases hw
        cases hu
        exact ⟨i, j, k, _, rfl, rgC_of hz, h1.ok0 x1.sh (walks_rngC _ _ _)⟩
      · exact h1.elim
    · exact h1.elim)⟩
/-- list(range(a, b, c)) -/
def rgS (lo c : Int) (n : Nat) : List V := (List.range n).map fun (i : Nat) => V.int (lo + (i : Int) * c)
theorem vals_rgS {lo c : Int} {n : Nat} {acc : Array Value} (h : PySem.ItemsOf (fun i v => ∃ t, v = .int (lo + i * c) t) acc n) : Vals (rgS lo c n) acc.toList := by
  have e : acc.toList.length = n := by rw [Array.length_toList]; exact h.1
  unfold rgS
  rw [← e]
  refine vals_of_get acc.toList _ fun j u hj => ?_
  obtain ⟨t, rfl⟩ := h.2 j u (by rw [← hj, Array.getElem?_toList])
  exact ⟨t, rfl⟩
theorem dvs_rgS {K : PySem.W.Frag} {S : Hp} (lo c : Int) : ∀ l : List Nat, DVs K S (l.map fun (i : Nat) => V.int (lo + (i : Int) * c)) (l.map fun (i : Nat) => PyData.int (lo + (i : Int) * c))
  | [] => trivial
  | _ :: l => ⟨rfl, dvs_rgS lo c l⟩
def tLR3 (ta : TA) : TE := fun σ H Q => ta σ H fun vs H1 => ∃ (i j c : Int), vs = [.int i, .int j, .int c] ∧ rng3Ok i j c = true ∧ ∀ q, H1 q = none → Q (.ref q) (upd H1 q (.lst (rgS i c (rngN i j c))))
theorem pe_listR3 {p1 p2 pos2 : Pos} (hc : X.calm = true) (hgL : Gl X "list") (hmL : X.mg "list" = none) (hg : Gl X "range") (hm : X.mg "range" = none) (ha : PA X [a, b, c] ta)
    (hs : starEach [a, b, c] X.env = (false, eval a X.env) :: starEach [b, c] X.env := by rfl) (hpl : (backTo pos2 (starEach [b, c] X.env)).any (·.1) = false := by rfl)
    (na : starEach [.Call (.Name "range" p2) [a, b, c] [] pos2] X.env = (false, eval (.Call (.Name "range" p2) [a, b, c] [] pos2) X.env) :: starEach [] X.env := by rfl) :
    PE X (.Call (.Name "list" p1) [.Call (.Name "range" p2) [a, b, c] [] pos2] [] pos) (tLR3 ta) := by
  refine ⟨fun pins s σ H Q I h => ?_⟩
  refine PyProof.Rows.Call_ (ld_blt I hgL hmL PyProof.Rows.boot_list (PyProof.Rows.callWith_type1 (PyProof.Rows.args_cons ?_ na) na))
  refine PyProof.Rows.Call_ (ld_blt I hg hm PyProof.Rows.boot_range (PyProof.Rows.callWith_type1 (thn (ha.run pos2 pins s σ H _ I h) fun us s1 ⟨vs, H1, I1, r1, q1⟩ => ?_) hs hpl))
  obtain ⟨i, j, k, ev, ok, q⟩ := q1
  subst ev
  have rc := rgC_of ok
  obtain ⟨c0, c1, c2, c3⟩ := rc
  cases r1 with
  | cons r rr =>
    cases rr with
    | cons r' rr =>
      cases rr with
      | cons r'' rr =>
        cases rr
        obtain ⟨t, rfl⟩ := r
        obtain ⟨t', rfl⟩ := r'
        obtain ⟨t'', rfl⟩ := r''
        refine PySem.call_range_3 c0 ?_ (.inl (PyProof.noPylong_small c1))
        refine PyProof.Rows.args_nil ?_
        have I2 : Inv X pins σ H1 { s1 with heap := s1.heap.push { cls := .type "range", data := .fields #[.int i t, .int j t', .int k t''] } } := I1.kept (t' := s1.toks) fun b o e => Heap.get?_push_of_some _ e
        have hn := rngN_le ok
        refine PySem.call_list_range (n := rngN i j k) (I2.ok.hd hc) (IsRange.new ..) c2 c3 (Nat.le_trans hn (by decide)) fun h' tk acc c' hk e' hi => ?_
        refine ⟨.ref _, upd H1 _ (.lst (rgS i k (rngN i j k))), I2.laid hk (Nat.le_refl _) (show ObjOk X.prog X.w _ _ _ (.lst (rgS i k (rngN i j k))) from ⟨?_, acc.toList, c', vals_rgS hi, ?_⟩), rfl, q _ (I2.hok.fresh (Nat.le_refl _))⟩
        · unfold rgS
          rw [List.length_map, List.length_range, sizeLine_eq]
          omega
        · rw [Array.toArray_toList]
          exact e'
def gLR3 : List D → Res D
  | [.int i, .int j, .int c] => if rng3Ok i j c = true then .ok (.list (rngS i c (rngN i j c))) else .bad
  | _ => .bad
theorem pd_listR3 {p1 p2 pos2 : Pos} (hc : X.calm = true) (hgL : Gl X "list") (hmL : X.mg "list" = none) (hg : Gl X "range") (hm : X.mg "range" = none) (ha : AD K mg X E [a, b, c] ta ga)
    (hs : starEach [a, b, c] X.env = (false, eval a X.env) :: starEach [b, c] X.env := by rfl) (hpl : (backTo pos2 (starEach [b, c] X.env)).any (·.1) = false := by rfl)
    (na : starEach [.Call (.Name "range" p2) [a, b, c] [] pos2] X.env = (false, eval (.Call (.Name "range" p2) [a, b, c] [] pos2) X.env) :: starEach [] X.env := by rfl) :
    PD K mg X E (.Call (.Name "list" p1) [.Call (.Name "range" p2) [a, b, c] [] pos2] [] pos) (tLR3 ta) (fB gLR3 ga) := ⟨pe_listR3 hc hgL hmL hg hm ha.pe hs hpl na, fun S H σ ρ Q rl h => ha.sd S H σ ρ _ rl (h.bind fun ds vs S1 H1 x1 d1 h1 => by
    unfold gLR3 at h1
    split at h1
    · rename_i i j k
      split at h1
      · rename_i hz
        obtain ⟨v, w, u, rfl, hv, hw, hu⟩ := dvs3 d1
        cases hv
        cases hw
        cases hu
        exact ⟨i, j, k, rfl, hz, fun q hq => new_lst x1.sh (dvs_rgS i k _) h1 hq⟩
      · exact h1.elim
    · exact h1.elim)⟩
/-- list(range(a)), list(range(a, b)) -/
theorem dvs_rg {K : PySem.W.Frag} {S : Hp} (lo : Int) : ∀ l : List Nat, DVs K S (l.map fun (i : Nat) => V.int (lo + (i : Nat))) (l.map fun (i : Nat) => PyData.int (lo + (i : Int)))
  | [] => trivial
  | _ :: l => ⟨rfl, dvs_rg lo l⟩
def rng2Ok (a b : Int) : Bool := decide (-1000000 ≤ a) && decide (a ≤ 1000000) && decide (-1000000 ≤ b) && decide (b ≤ 1000000)
theorem rng2Ok.bd {a b : Int} (h : rng2Ok a b = true) : RgOk a b := by
  unfold rng2Ok at h
  simp only [Bool.and_eq_true, decide_eq_true_eq] at h
  have e : (2 : Int) ^ 62 = 4611686018427387904 := by decide
  exact ⟨by omega, by omega, by omega, by omega, by omega⟩
def gLR (a b : D) : Res D := match a, b with
  | .int i, .int j => if rng2Ok i j = true then .ok (.list (rngD i (j - i).toNat)) else .bad
  | _, _ => .bad
def fLR1 (f : DEnv → Res D) : DEnv → Res D := fun ρ => (f ρ).bind fun x => gLR (.int 0) x
variable {t1 t2 : TE} {f1 f2 : DEnv → Res D}
theorem pd_listR1 {p1 p2 pos2 : Pos} (hc : X.calm = true) (hgL : Gl X "list") (hmL : X.mg "list" = none) (hg : Gl X "range") (hm : X.mg "range" = none) (ha : PD K mg X E a t1 f1) (na : starEach [a] X.env = (false, eval a X.env) :: starEach [] X.env := by rfl)
    (nb : starEach [.Call (.Name "range" p2) [a] [] pos2] X.env = (false, eval (.Call (.Name "range" p2) [a] [] pos2) X.env) :: starEach [] X.env := by rfl) :
    PD K mg X E (.Call (.Name "list" p1) [.Call (.Name "range" p2) [a] [] pos2] [] pos) (tLstRg (tRg1 t1)) (fLR1 f1) := ⟨pe_listRg hc hgL hmL (prg_1 hg hm ha.pe na) nb, fun S H σ ρ Q rl h => ha.sd S H σ ρ _ rl (h.bind fun d v S1 H1 x1 d1 h1 => by
    unfold gLR at h1
    split at h1
    · rename_i i j e
      cases e
      split at h1
      · rename_i hz
        cases d1
        exact ⟨j, rfl, rng2Ok.bd hz, fun q hq => new_lst x1.sh (dvs_rg 0 _) h1 hq⟩
      · exact h1.elim
    · exact h1.elim)⟩
theorem pd_listR2 {p1 p2 pos2 : Pos} (hc : X.calm = true) (hgL : Gl X "list") (hmL : X.mg "list" = none) (hg : Gl X "range") (hm : X.mg "range" = none) (ha : PD K mg X E a t1 f1) (hb : PD K mg X E b t2 f2) (na : starEach [a, b] X.env = (false, eval a X.env) :: starEach [b] X.env := by rfl)
    (nb : starEach [b] X.env = (false, eval b X.env) :: starEach [] X.env := by rfl) (hp : (backTo pos2 (starEach [b] X.env)).any (·.1) = false := by rfl)
    (nc : starEach [.Call (.Name "range" p2) [a, b] [] pos2] X.env = (false, eval (.Call (.Name "range" p2) [a, b] [] pos2) X.env) :: starEach [] X.env := by rfl) :
    PD K mg X E (.Call (.Name "list" p1) [.Call (.Name "range" p2) [a, b] [] pos2] [] pos) (tLstRg (tRg2 t1 t2)) (fBin gLR f1 f2) := ⟨pe_listRg hc hgL hmL (prg_2 hg hm ha.pe hb.pe na nb hp) nc, fun S H σ ρ Q rl h => ha.sd S H σ ρ _ rl (h.bind fun d v S1 H1 x1 d1 h1 =>
    hb.sd S1 H1 σ ρ _ (rl.mono x1) (h1.bind fun d' v' S2 H2 x2 d2 h2 => by
    unfold gLR at h2
    split at h2
    · rename_i i j
      split at h2
      · rename_i hz
        cases d1
        cases d2
        exact ⟨i, j, rfl, rfl, rng2Ok.bd hz, fun q hq => new_lst x2.sh (dvs_rg i _) h2 hq⟩
      · exact h2.elim
    · exact h2.elim))⟩
end
end PD
namespace PD
open PySem L2
section
variable {K : PySem.W.Frag} {mg : Str → Option Value} {X : Cx} {E : XK} {a b c e : Expr} {ta tb tc : TE} {fa fb fc : DEnv → Res D} {pos : Pos}
theorem pd_chain {op op' : CmpOp} {r r' : R2} {g g' : D → D → Res D} (ho : OpR X (compareOp op) r) (ho' : OpR X (compareOp op') r') (hs : OpS K mg E r g) (hs' : OpS K mg E r' g') (ha : PD K mg X E a ta fa) (hb : PD K mg X E b tb fb) (hc : PD K mg X E c tc fc) (hm : lastMarks [op, op'] [b, c] = false := by with_unfolding_all rfl) :
    PD K mg X E (.Compare a [op, op'] [b, c] pos) (tChain r r' ta tb tc) (fChain g g' fa fb fc) := ⟨pe_chain ho ho' ha.pe hb.pe hc.pe hm, chain_sd hs hs' ha hb hc⟩
theorem td_chain {op op' : CmpOp} {r r' : R2} {g g' : D → D → Res D} (ho : OpR X (compareOp op) r) (ho' : OpR X (compareOp op') r') (hs : OpS K mg E r g) (hs' : OpS K mg E r' g') (ha : PD K mg X E a ta fa) (hb : PD K mg X E b tb fb) (hc : PD K mg X E c tc fc) (hm : lastMarks [op, op'] [b, c] = false := by with_unfolding_all rfl) :
    TD K mg X E (.Compare a [op, op'] [b, c] pos) (tTest (tChain r r' ta tb tc)) (fTest (fChain g g' fa fb fc)) := ⟨pt_chain ho ho' ha.pe hb.pe hc.pe hm, fun S H σ ρ Q rl h => by
  refine chain_sd hs hs' ha hb hc S H σ ρ _ rl (h.bind fun x v S1 H1 x1 d1 h1 => ?_)
  cases x with
  | bool k => exact ⟨k, d1, h1.ok0 x1.sh rfl⟩
  | _ => exact h1.elim⟩
/-- -e -/
def gNeg : D → Res D
  | .int i => .ok (.int (-i))
  | _ => .bad
def fUn (g : D → Res D) (f : DEnv → Res D) : DEnv → Res D := fun ρ => (f ρ).bind g
theorem pd_neg (ha : PD K mg X E a ta fa) : PD K mg X E (.UnaryOp .USub a pos) (tUn (rU fun i => .int (-i)) ta) (fUn gNeg fa) := ⟨pe_un un_neg ha.pe, fun S H σ ρ Q rl h => ha.sd S H σ ρ _ rl (h.bind fun d v S1 H1 x1 d1 h1 => by
  cases d with
  | int i => exact ⟨i, d1, h1.ok0 x1.sh rfl⟩
  | _ => exact h1.elim)⟩
/-- the module's constants -/
theorem pd_gint {x : Str} {i : Int} (h : ∃ t, X.mg x = some (.int i t)) (hg : Gl X x := by rfl) (hd : (x == ("__debug__" : Str)) = false := by decide) : PD K mg X E (.Name x pos) (tC (.int i)) (fC (.int i)) :=
  pd_c (by obtain ⟨t, h⟩ := h; exact pe_glob hg h ⟨t, rfl⟩ hd) fun _ => rfl
theorem pd_gstr {x : Str} {i : Str} (h : ∃ t, X.mg x = some (.str i t)) (hg : Gl X x := by rfl) (hd : (x == ("__debug__" : Str)) = false := by decide) : PD K mg X E (.Name x pos) (tC (.str i)) (fC (.str i)) :=
  pd_c (by obtain ⟨t, h⟩ := h; exact pe_glob hg h ⟨t, rfl⟩ hd) fun _ => rfl
theorem pd_gref {x : Str} {r : Addr} {d : D} (h : X.mg x = some (.ref r)) (hd' : ∀ S, DV K S (.ref r) d) (hg : Gl X x := by rfl) (hd : (x == ("__debug__" : Str)) = false := by decide) : PD K mg X E (.Name x pos) (tC (.ref r)) (fC d) :=
  pd_c (pe_glob hg h rfl hd) hd'
/-- a[::-1] -/
def gRev : D → Res D
  | .list xs => .ok (.list xs.reverse)
  | _ => .bad
theorem DVs.reverse {K : PySem.W.Frag} {S : Hp} : ∀ {vs : List V} {ds : List D}, DVs K S vs ds → DVs K S vs.reverse ds.reverse
  | [], [], _ => trivial
  | v :: vs, d :: ds, h => by
    rw [List.reverse_cons, List.reverse_cons]
    exact (DVs.reverse (vs := vs) (ds := ds) h.2).append ⟨h.1, trivial⟩
  | [], _ :: _, h => h.elim
  | _ :: _, [], h => h.elim
theorem pd_rev {k : Nat} {p1 p2 p3 : Pos} (ha : PD K mg X E a ta fa) (hK : X.K = K := by rfl) : PD K mg X E (.Subscript a (.Slice none none (some (.UnaryOp .USub (.Constant (.int 1) k p1) p2)) p3) pos) (tRevL K ta) (fUn gRev fa) := ⟨hK ▸ pe_revL ha.pe, fun S H σ ρ Q rl h => ha.sd S H σ ρ _ rl (h.bind fun d v S1 H1 x1 d1 h1 => by
  cases d with
  | list xs =>
    rw [DV] at d1
    obtain ⟨p, us, rfl, g1, g2⟩ := d1
    exact ⟨p, us, rfl, ls_sq (ls_mono x1.sh g1), fun q hq => new_lst x1.sh g2.reverse h1 hq⟩
  | _ => exact h1.elim)⟩
theorem sd_forI {tg iter : Expr} {body : List Stmt} {wi : TI} {g : TG} {tb : TS} {src : DEnv → Res (List D)} {is : List Nat} {hh : D → Option (List D)} {B : DEnv → SR} (hp : PassesOwn (model X.prog X.w) X.A X.env X.xe) (hc : X.calm = true) (hi : ID K mg X E tg iter wi src) (hg : GD K X tg g is hh) (hb : SDs K mg X E body tb B)
    (hs : ∀ x, foldedSetIterable iter X.env x = pure x := by intro _; rfl) : SD K mg X E (.For tg iter body [] pos) (tFor wi g tb) (sFor src is hh B) := sd_for hp hc hi hg hb (ps_for hp hc hi.pi hg.pg hb.ps hs)
/-- names as targets -/
theorem gn (i : Nat) {x : Str} (hN : X.N.Nodup) (hi : X.N[i]? = some x := by rfl) (hx : Loc X.env.scope x := by first | exact Or.inl rfl | exact Or.inr rfl) (hf : X.fn x = true ∨ X.env.scope.names.lookup x = some .local := by first | exact .inl rfl | exact .inr rfl) : PG X (.Name x pos) (gName i) := pg_name hN hi hx hf
end
section
variable {P : Program} {w : World} {K : PySem.W.Frag} {mg : Str → Option Value} {base : Heap} {N : List Str} {qual : Str} {scope : Scope} {f : Addr} {cdv : Value} {A : Around} {outer : List Env} {s : Shared} {H : Hp} {E : XK}
theorem tkX : Takes (cxOf (L2.CX P w) P w K mg base N qual scope f cdv A outer s H E) (fun cls d _ H => E cls d H) := takes_of rfl rfl rfl rfl
theorem pX : Passes (L2.CX P w) (cxOf (L2.CX P w) P w K mg base N qual scope f cdv A outer s H E) E := passes_call tkX (fun _ _ _ _ h => h)
theorem poX : PassesOwn (model P w) (cxOf (L2.CX P w) P w K mg base N qual scope f cdv A outer s H E).A (cxOf (L2.CX P w) P w K mg base N qual scope f cdv A outer s H E).env (cxOf (L2.CX P w) P w K mg base N qual scope f cdv A outer s H E).xe := passes_of (X := cxOf (L2.CX P w) P w K mg base N qual scope f cdv A outer s H E) rfl
end
end PD
namespace PD
open PySem L2
section
variable {K : PySem.W.Frag} {mg : Str → Option Value} {X : Cx} {E : XK} {e : Expr} {te : TE} {t : TA} {f : DEnv → Res D} {g : DEnv → Res (List Slot)} {pos : Pos}
/-! ### a list or a tuple, walked -/
def asSeq : D → Res (List D)
  | .list ds => .ok ds
  | .tuple ds => .ok ds
  | _ => .bad
def fSeq (f : DEnv → Res D) : DEnv → Res (List D) := fun ρ => (f ρ).bind asSeq
def iSeq (K : PySem.W.Frag) (tl : TE) : TI := fun σ H R => iList K tl σ H R ∨ iTup K tl σ H R
theorem id_seq {tg : Expr} (hl : PD K mg X E e te f) (hK : X.K = K := by rfl) : ID K mg X E tg e (iSeq K te) (fSeq f) := ⟨⟨hK ▸ fun pins s σ H R I h => h.elim (fun h => (pi_list hl.pe).run pins s σ H R I h) fun h => (pi_tup hl.pe).run pins s σ H R I h⟩, fun S H σ ρ R rl h => by
  unfold fSeq at h
  cases e1 : f ρ with
  | ok d =>
    cases d with
    | tuple ds =>
      refine .inr (hl.sd S H σ ρ _ rl ?_)
      rw [e1] at h ⊢
      intro v S1 H1 x1 d1
      rw [DV] at d1
      obtain ⟨a, us, rfl, g1, g2⟩ := d1
      exact ⟨a, rfl, ⟨us, same_t x1.sh g1.1⟩, PostG.ok h x1 (walks_tup g1.1 g2)⟩
    | list ds =>
      refine .inl (hl.sd S H σ ρ _ rl ?_)
      rw [e1] at h ⊢
      intro v S1 H1 x1 d1
      rw [DV] at d1
      obtain ⟨a, us, rfl, g1, g2⟩ := d1
      exact ⟨a, rfl, ⟨us, ls_sq (ls_mono x1.sh g1)⟩, PostG.ok h x1 (walks_list g1 g2)⟩
    | _ => rw [e1] at h; exact h.elim
  | err c =>
    refine .inl (hl.sd S H σ ρ _ rl ?_)
    rw [e1] at h ⊢
    exact h
  | bad => rw [e1] at h; exact h.elim⟩
/-! ### append, extend -/
section
variable {i : Nat} {x : Str} {p1 p2 p3 : Pos}
theorem sd_app' (m : Bool) (hv : PE X (.Name x p1) (tVar i)) (he : PD K mg X E e te f)
    (hbase : attributeBase (.Name x p1) "append" X.env (eval (.Name x p1) X.env) = eval (.Name x p1) X.env := by rfl)
    (hfew : ((backTo p3 (starEach [e] X.env)).all (fun x => !x.1) && (backToKw p3 (keywordEach [] X.env)).all (fun x => x.1.isSome) && decide ([e].length + ([] : List Keyword).length + (if ([] : List Keyword).isEmpty then 0 else 1) < 30)) = true := by rfl)
    (hline : (p2.endLine == p3.line) = true := by rfl) (hs : starEach [e] X.env = (false, eval e X.env) :: starEach [] X.env := by rfl) (hplain : (backTo p3 (starEach [] X.env)).any (·.1) = false := by rfl)
    (hw : swapsWith (.Call (.Attribute (.Name x p1) "append" p2) [e] [] p3) none pos.line X.env = pure false := by rfl) (hK : X.K = K := by rfl) : SD K mg X E (.Expr (.Call (.Attribute (.Name x p1) "append" p2) [e] [] p3) pos) (tDrop (tBM K "list" rAppend (tVar i) (tCons te tNil))) (sApp (if m = true then fBor f else f) i) :=
  ⟨hK ▸ ps_expr (pe_bm PySem.F.plainAttrs_list PySem.F.slot_list_append PySem.F.type_list_append mt_append hv (pa_cons he.pe pa_nil hs) hbase hfew hline hs hplain) hw, by
    cases m with
    | true => exact app_sd (use_bor he)
    | false => exact app_sd (use_plain he)⟩
theorem sd_ext' (m : Bool) (hv : PE X (.Name x p1) (tVar i)) (he : PD K mg X E e te f)
    (hbase : attributeBase (.Name x p1) "extend" X.env (eval (.Name x p1) X.env) = eval (.Name x p1) X.env := by rfl)
    (hfew : ((backTo p3 (starEach [e] X.env)).all (fun x => !x.1) && (backToKw p3 (keywordEach [] X.env)).all (fun x => x.1.isSome) && decide ([e].length + ([] : List Keyword).length + (if ([] : List Keyword).isEmpty then 0 else 1) < 30)) = true := by rfl)
    (hline : (p2.endLine == p3.line) = true := by rfl) (hs : starEach [e] X.env = (false, eval e X.env) :: starEach [] X.env := by rfl) (hplain : (backTo p3 (starEach [] X.env)).any (·.1) = false := by rfl)
    (hw : swapsWith (.Call (.Attribute (.Name x p1) "extend" p2) [e] [] p3) none pos.line X.env = pure false := by rfl) (hK : X.K = K := by rfl) : SD K mg X E (.Expr (.Call (.Attribute (.Name x p1) "extend" p2) [e] [] p3) pos) (tDrop (tBM K "list" (rExtR K) (tVar i) (tCons te tNil))) (sExt (if m = true then fBor f else f) i) :=
  ⟨hK ▸ ps_expr (pe_bm PySem.F.plainAttrs_list PySem.F.slot_list_extend PySem.F.type_list_extend (mt_extR rfl) hv (pa_cons he.pe pa_nil hs) hbase hfew hline hs hplain) hw, by
    cases m with
    | true => exact ext_sd (use_bor he)
    | false => exact ext_sd (use_plain he)⟩
end
/-! ### x, y = a, b -/
theorem sd_p2 {i j : Nat} {x y : Str} {a b : Expr} {px py pt : Pos} {kt k2 pt2} (hN : X.N.Nodup) (hz : ZD K mg X E [a, b] t g) (hc : X.calm = true := by rfl) (hi : X.N[i]? = some x := by rfl) (hj : X.N[j]? = some y := by rfl) (hij : i ≠ j := by decide)
    (hx : X.env.scope.names.lookup x = some .local := by rfl) (hy : X.env.scope.names.lookup y = some .local := by rfl) (hw : swappedStores [.Tuple [.Name x px, .Name y py] kt pt] (.Tuple [a, b] k2 pt2) X.env = pure (some [x, y]) := by rfl)
    (hs : swapsWithSole [.Tuple [.Name x px, .Name y py] kt pt] (.Tuple [a, b] k2 pt2) pos.line X.env = pure false := by rfl) : SD K mg X E (.Assign [.Tuple [.Name x px, .Name y py] kt pt] (.Tuple [a, b] k2 pt2) pos) (tPar i j t) (sPar g [i, j]) :=
  sd_par hz (ps_par hc hN hi hj hij hx hy hz.pe hw hs)
theorem sd_p3 {i j l : Nat} {x y z : Str} {a b c : Expr} {px py pz pt : Pos} {kt k2 pt2} (hN : X.N.Nodup) (hz : ZD K mg X E [a, b, c] t g) (hc : X.calm = true := by rfl) (hi : X.N[i]? = some x := by rfl) (hj : X.N[j]? = some y := by rfl) (hl : X.N[l]? = some z := by rfl) (hij : i ≠ j := by decide) (hil : i ≠ l := by decide) (hjl : j ≠ l := by decide)
    (hx : X.env.scope.names.lookup x = some .local := by rfl) (hy : X.env.scope.names.lookup y = some .local := by rfl) (hz' : X.env.scope.names.lookup z = some .local := by rfl) (hw : swappedStores [.Tuple [.Name x px, .Name y py, .Name z pz] kt pt] (.Tuple [a, b, c] k2 pt2) X.env = pure (some [x, y, z]) := by rfl)
    (hs : swapsWithSole [.Tuple [.Name x px, .Name y py, .Name z pz] kt pt] (.Tuple [a, b, c] k2 pt2) pos.line X.env = pure false := by rfl) : SD K mg X E (.Assign [.Tuple [.Name x px, .Name y py, .Name z pz] kt pt] (.Tuple [a, b, c] k2 pt2) pos) (tPar3 i j l t) (sPar g [i, j, l]) :=
  sd_par3 hz (ps_par3 hc hN hi hj hl hij hil hjl hx hy hz' hz.pe hw hs)
/-! ### names of the builtins -/
theorem bt_len : bootBuiltins "len" = some (.builtin "len") := by decide +kernel
theorem bt_abs : bootBuiltins "abs" = some (.builtin "abs") := by decide +kernel
theorem bt_max : bootBuiltins "max" = some (.builtin "max") := by decide +kernel
theorem bt_min : bootBuiltins "min" = some (.builtin "min") := by decide +kernel
theorem bt_all : bootBuiltins "all" = some (.builtin "all") := by decide +kernel
theorem bt_any : bootBuiltins "any" = some (.builtin "any") := by decide +kernel
theorem bt_sum : bootBuiltins "sum" = some (.builtin "sum") := by decide +kernel
theorem bt_isinstance : bootBuiltins "isinstance" = some (.builtin "isinstance") := by decide +kernel
theorem bt_sorted : bootBuiltins "sorted" = some (.builtin "sorted") := by decide +kernel
theorem bt_list : bootBuiltins "list" = some (.type "list") := by decide +kernel
theorem bt_tuple : bootBuiltins "tuple" = some (.type "tuple") := by decide +kernel
theorem bt_int : bootBuiltins "int" = some (.type "int") := by decide +kernel
theorem bt_bool : bootBuiltins "bool" = some (.type "bool") := by decide +kernel
theorem bt_str : bootBuiltins "str" = some (.type "str") := by decide +kernel
theorem bt_range : bootBuiltins "range" = some (.type "range") := by decide +kernel
theorem bt_zip : bootBuiltins "zip" = some (.type "zip") := by decide +kernel
theorem bt_enumerate : bootBuiltins "enumerate" = some (.type "enumerate") := by decide +kernel
theorem bt_set : bootBuiltins "set" = some (.type "set") := by decide +kernel
theorem bt_dict : bootBuiltins "dict" = some (.type "dict") := by decide +kernel
/-! ### the law's own end -/
def spLaw (K : PySem.W.Frag) (mg : Str → Option Value) (F : List D → Res D) : Sp := spD K mg 1 F
end
end PD
namespace PD
open PySem L2
theorem dvs_ints {K : PySem.W.Frag} {S : Hp} : ∀ ns : List Int, DVs K S (ns.map V.int) (ns.map PyData.int)
  | [] => trivial
  | _ :: ns => ⟨rfl, dvs_ints ns⟩
theorem script_at {K : PySem.W.Frag} {H : Hp} {h : Heap} {a : Addr} {xs : List V} {vs : List Value} (KX : K.In h) (ho : h.get? a = some { cls := .type "list", data := .seq vs.toArray }) (hS : SqL K H a xs) : LsAt K H a xs := by
  rcases hS with h1 | ⟨o, its, n, hk, _, _, hd, hz, r⟩
  · exact .inl h1
  · have e := KX a o hk
    rw [ho] at e
    have e := Option.some.inj e
    subst e
    injection hd with e1 _
    subst e1
    exact .inr ⟨vs, 0, hk, by simpa using hz, by simpa using r⟩
/-- a law whose def computes F: True at every script -/
theorem walkD {l : PySem.W.OpenLaw} {k : Nat} {q : Program} {loose : List Str} {XP : (Str → Option Value) → Heap → Prop} {YP : World → Heap → Prop} {d : DefRec} {K : Params → PySem.W.Frag} {F : List D → Res D} (hn : l.most = some 63) (hdf : d.params.defaults = []) (hr : Room k callerA)
    (hY : ∀ (w : World) (h : Heap), YP w h → (K w.params).In h)
    (hF : ∀ (w : World) (mg : Str → Option Value) (fa : Addr) (h : Heap), (K w.params).In h → h.Ns mainGlobals mg → mg d.name = some (.ref fa) → ∃ fd : FuncData, (∀ (s : Shared) (u : Value), BindsTo s fd ⟨[u], []⟩ [("script", u)]) ∧
      ∀ base : Heap, (K w.params).In base → base.Ns mainGlobals mg → FnOk l.prog w (K w.params) mg base (L2.CX l.prog w) k fa fd ["script"] (spD (K w.params) mg 1 F))
    (ht : ∀ ns : List Int, ns.length ≤ 63 → F [.list (ns.map PyData.int)] = .ok (.bool true)) : PySem.W.WalkO q loose XP YP l.row.toRowW d [] (fun f vs => PySem.call f vs) := by
  refine Att.attach_call hn hdf fun w s0 s1 mg mb fa o pm cd doc a vs ns G Y ho hd hcd hmg hobj hints hlen hg => ?_
  have KX := hY w _ Y
  obtain ⟨fd, hb, hG⟩ := hF w mg fa _ KX G.T.g hmg
  refine law_call KX G.T.g G.T.b G.T.builtins G.T.nolimit hg hobj hints (Nat.le_trans hlen (by decide)) hr hG hb (fun H hO hS => ?_) (fun H e s' c => ?_)
  · refine ⟨H, [.list (ns.map PyData.int)], Same.refl _, ⟨⟨a, ns.map V.int, rfl, script_at KX hobj hS, dvs_ints ns⟩, trivial⟩, rfl, ?_⟩
    rw [ht ns hlen]
    exact fun v S' H' _ dv => dv
  · obtain ⟨_, _, _, _, _, _, _, _, _, _, _, _, z⟩ := c
    exact z.elim
/-- a constant tuple of the written part -/
theorem dv_written {K : PySem.W.Frag} {S : Hp} {a : Addr} {o : Obj} {its : Array Value} {n : Nat} {vs : List V} {ds : List D} (hk : K.lookup a = some o) (hc : o.cls = .type "tuple") (hd : o.data = .seq its n) (hz : its.size ≤ sizeLine) (hv : Vals vs its.toList) (dv : DVs K S vs ds) (hkt : keyT ds = false := by rfl) : DV K S (.ref a) (.tuple ds) := ⟨a, vs, rfl, ⟨.inr ⟨o, its, n, hk, hc, hd, hz, hv⟩, fun z => by rw [hkt] at z; cases z⟩, dv⟩
end PD
namespace PD
open PySem L2
theorem hV {k : Nat} {A : Around} (r : Room k A) : A.units + 70 < cLine := by have := r.un; omega
/-! ### data in order: x < y, min, sorted -/
def allAl (ds : List D) : Bool := ds.all fun x => ds.all fun y => PySem.W.alike x y
def noNone (ds : List D) : Bool := ds.all fun x => !isNone x
def ordOk (ds : List D) : Bool := allAl ds && noNone ds && SeqAt.shaped (.list ds)
theorem allAl_iff {ds : List D} : allAl ds = true ↔ ∀ x ∈ ds, ∀ y ∈ ds, PySem.W.alike x y = true := by
  unfold allAl
  simp only [List.all_eq_true]
theorem noNone_ne {ds : List D} (h : noNone ds = true) : ∀ x ∈ ds, x ≠ PyData.none := fun x hx e => by
  unfold noNone at h
  have := List.all_eq_true.mp h x hx
  subst e
  cases this
def rMinD (K : PySem.W.Frag) : List V → Hp → VK → Prop := fun vs H Q => ∃ (a : Addr) (xs : List V) (d : D) (ds : List D), vs = [.ref a] ∧ SqL K H a xs ∧ DpAll K H xs (d :: ds) ∧ PySem.W.AlikeAll (d :: ds) ∧ PyData.depthAll (d :: ds) ≤ 63 ∧
  ∀ (i : Nat) (x : V), xs[i]? = some x → (d :: ds)[i]? = some (PySem.W.minD d ds) → Q x H
theorem minD_mem (d : D) : ∀ ds : List D, PySem.W.minD d ds ∈ d :: ds := by
  intro ds
  unfold PySem.W.minD
  induction ds generalizing d with
  | nil => exact List.mem_cons_self
  | cons e ds ih =>
    rw [List.foldl_cons]
    split
    · exact List.mem_cons_of_mem _ (ih e)
    · rcases List.mem_cons.mp (ih d) with q | q
      · rw [q]; exact List.mem_cons_self
      · exact List.mem_cons_of_mem _ (List.mem_cons_of_mem _ q)
theorem vals_back' : ∀ {xs : List V} {us : List Value} {i : Nat} {u : Value}, Vals xs us → us[i]? = some u → ∃ x, xs[i]? = some x ∧ RelV x u := fun {xs us i u} r e => by
  have hl := r.length
  have hi : i < us.length := by
    rcases Nat.lt_or_ge i us.length with h | h
    · exact h
    · rw [List.getElem?_eq_none h] at e; cases e
  have hx : xs[i]? = some xs[i] := List.getElem?_eq_getElem (by omega)
  obtain ⟨u', e', rv⟩ := r.get hx
  rw [e] at e'
  cases e'
  exact ⟨_, hx, rv⟩
section
variable {K : PySem.W.Frag} {mg : Str → Option Value} {X : Cx} {E : XK}
theorem c_minD (hc : X.calm = true) (hu : X.A.units + 70 < cLine) (hK : X.K = K := by rfl) : CallR X (.builtin "min") (rMinD K) := by
  subst hK
  intro pins s σ H vs us Q I r h
  obtain ⟨a, xs, d, ds, rfl, hs, hd, ha, hz, q⟩ := h
  obtain ⟨its, rv, hl, _⟩ := I.list hs
  rw [Vals.ref1 r]
  obtain ⟨as, hr⟩ := Dp.readsAll I (d :: ds) xs its hd rv
  have hr' : PySem.ReadsAll s.heap its.toArray.toList (d :: ds) as := by simpa using hr
  refine PySem.W.min_list_data (I.ok.hd hc) hl.isList hr' ha (by omega) fun i v h' tk bs hv hrd hk => ?_
  have hv' : its[i]? = some v := by simpa using hv
  obtain ⟨x, hx, rvx⟩ := vals_back' rv hv'
  obtain ⟨cs, hrd2, hi, hm, _⟩ := PySem.W.readsAll_atA hr' i v hv
  have e : (d :: ds).getD i .none = PySem.W.minD d ds := PySem.W.alike_unique _ _ v _ _ (ha.1 _ hm _ (minD_mem d ds)) (PySem.W.reads_keeps hk hrd2) hrd
  refine ⟨x, H, I.kept hk, rvx, q i x hx ?_⟩
  rw [← e, List.getD_eq_getElem?_getD, List.getElem?_eq_getElem hi]
  rfl
def gMinD : List D → Res D
  | [.list (d :: ds)] => if ordOk (d :: ds) = true then .ok (PySem.W.minD d ds) else .bad
  | _ => .bad
theorem ord_parts {ds : List D} (h : ordOk ds = true) : PySem.W.AlikeAll ds ∧ PyData.canLayAll0 ds = true ∧ PyData.depthAll ds ≤ 63 := by
  unfold ordOk at h
  obtain ⟨h, h3⟩ := and_split h
  obtain ⟨h1, h2⟩ := and_split h
  refine ⟨⟨allAl_iff.mp h1, noNone_ne h2⟩, ?_⟩
  have h4 : (PyData.canLayAll0 ds && decide (PyData.depthAll ds + 1 ≤ 64)) = true := h3
  obtain ⟨h5, h6⟩ := and_split h4
  exact ⟨h5, by have := of_decide_eq_true h6; omega⟩
theorem cs_minD : CaS K mg E (rMinD K) gMinD := fun S H xs ds Q sh dv h => by
  unfold gMinD at h
  split at h
  · rename_i d es
    obtain ⟨v, rfl, hv⟩ := dvs1 dv
    rw [DV] at hv
    obtain ⟨a, us, rfl, h1, h2⟩ := hv
    split at h
    · rename_i ho
      obtain ⟨o1, o2, o3⟩ := ord_parts ho
      refine ⟨a, us, d, es, rfl, ls_sq (ls_mono sh h1), DVs.dp sh _ _ o2 h2, o1, o3, fun i x hx hd => ?_⟩
      obtain ⟨w, hw, dw⟩ := h2.get hd
      rw [hx] at hw
      cases hw
      exact h.ok0 sh dw
    · exact h.elim
  · exact h.elim
/-! sorted -/
def sortOk (ds : List D) : Bool := ordOk ds && ((ds.all fun d => match d with | .tuple (_ :: _) => true | _ => false) || (ds.all fun d => match d with | .tuple _ => false | _ => true)) && lenOk ds.length
def rSortD (K : PySem.W.Frag) : List V → Hp → VK → Prop := fun vs H Q => ∃ (a : Addr) (xs : List V) (ds : List D), vs = [.ref a] ∧ SqL K H a xs ∧ DpAll K H xs ds ∧ sortOk ds = true ∧
  ∀ p, H p = none → Q (.ref p) (upd H p (.lst (((xs.zip ds).mergeSort (PySem.W.dataLe false Prod.snd)).map Prod.fst)))
theorem sort_parts {ds : List D} (h : sortOk ds = true) : ordOk ds = true ∧ PySem.W.Sortable ds ∧ ds.length ≤ 1000000 := by
  unfold sortOk at h
  obtain ⟨h, h3⟩ := and_split h
  obtain ⟨h1, h2⟩ := and_split h
  refine ⟨h1, ?_, of_decide_eq_true h3⟩
  obtain ⟨o, _⟩ := ord_parts h1
  rw [Bool.or_eq_true] at h2
  rcases h2 with h2 | h2
  · refine .inl fun d hd => ?_
    have := List.all_eq_true.mp h2 d hd
    match d, this with
    | .tuple (x :: r), _ => exact ⟨x, r, rfl⟩
  · refine .inr fun d hd => ⟨o.2 d hd, fun xs e => ?_⟩
    have := List.all_eq_true.mp h2 d hd
    subst e
    cases this
theorem zip_snd : ∀ {α β : Type} {xs : List α} {ys : List β}, xs.length = ys.length → (xs.zip ys).map Prod.snd = ys
  | _, _, [], [], _ => rfl
  | _, _, x :: xs, y :: ys, h => by
    show y :: (xs.zip ys).map Prod.snd = _
    rw [zip_snd (by simpa using h)]
theorem dpAll_len {H : Hp} : ∀ {xs : List V} {ds : List D}, DpAll K H xs ds → xs.length = ds.length
  | _, _, .nil => rfl
  | _, _, .cons _ h => congrArg (· + 1) (dpAll_len h)
theorem each_zip {R : Value → V × D → Prop} : ∀ {xs : List V} {us : List Value} {ds : List D}, Vals xs us → xs.length = ds.length → (∀ u x d, RelV x u → (x, d) ∈ xs.zip ds → R u (x, d)) → PySem.W.EachIs R us (xs.zip ds)
  | [], us, ds, r, hl, _ => by
    rw [Vals.zero r]
    cases ds with
    | nil => exact .nil
    | cons _ _ => cases hl
  | x :: xs, us, ds, r, hl, h => by
    cases us with
    | nil => exact absurd r.length (by simp)
    | cons u us =>
      cases ds with
      | nil => cases hl
      | cons d ds =>
        obtain ⟨r1, r2⟩ : RelV x u ∧ Vals xs us := by cases r with | cons a b => exact ⟨a, b⟩
        exact .cons (h u x d r1 List.mem_cons_self) (each_zip (ds := ds) r2 (by simpa using hl) fun u' x' d' rv hm => h u' x' d' rv (List.mem_cons_of_mem _ hm))
theorem dp_zip {H : Hp} : ∀ {xs : List V} {ds : List D}, DpAll K H xs ds → ∀ {x : V} {d : D}, (x, d) ∈ xs.zip ds → Dp K H x d
  | _, _, .nil, _, _, h => absurd h List.not_mem_nil
  | _, _, .cons h1 h2, x, d, h => by
    rcases List.mem_cons.mp h with e | e
    · cases e; exact h1
    · exact dp_zip h2 e
theorem vals_each : ∀ {bs : List (V × D)} {out : List Value}, PySem.W.EachIs (fun u (b : V × D) => RelV b.1 u) out bs → Vals (bs.map Prod.fst) out
  | _, _, .nil => .nil
  | _, _, .cons h1 h2 => .cons h1 (vals_each h2)
theorem depth_mem : ∀ {ds : List D} {d : D}, d ∈ ds → d.depth ≤ PyData.depthAll ds
  | [], _, h => absurd h List.not_mem_nil
  | e :: ds, d, h => by
    show d.depth ≤ max e.depth (PyData.depthAll ds)
    rcases List.mem_cons.mp h with q | q
    · rw [q]; omega
    · have := depth_mem q; omega
theorem c_sortD (hu : X.A.units + 70 < cLine) (hK : X.K = K := by rfl) : CallR X (.builtin "sorted") (rSortD K) := by
  subst hK
  intro pins s σ H vs us Q I r h
  obtain ⟨a, xs, ds, rfl, hs, hd, ho, q⟩ := h
  obtain ⟨its, rv, hl, hzl⟩ := I.list hs
  rw [Vals.ref1 r]
  have hlen := dpAll_len hd
  obtain ⟨o1, o2, o3⟩ := sort_parts ho
  obtain ⟨p1, p2, p3⟩ := ord_parts o1
  have hz := zip_snd hlen
  have hzn : (xs.zip ds).length = xs.length := by rw [List.length_zip]; omega
  have e : PySem.W.EachIs (fun u (b : V × D) => RelV b.1 u) its (xs.zip ds) := each_zip rv hlen fun u x d h _ => h
  have er : PySem.W.EachIs (fun u (b : V × D) => ∃ as, Reads s.heap u (Prod.snd b) as) its (xs.zip ds) := each_zip rv hlen fun u x d h hm => Dp.reads I d x u (dp_zip hd hm) h
  refine PySem.W.sorted_data (enc := Prod.snd) (R := fun u (b : V × D) => RelV b.1 u) hl.isList e er (by rw [hz]; exact p1.1) (by rw [hz]; exact o2) (by rw [hzn]; exact hzl) (fun b hb => ?_) fun out hol eo => ?_
  · have hb2 : b.2 ∈ ds := by rw [← hz]; exact List.mem_map_of_mem hb
    have := depth_mem hb2
    omega
  · obtain ⟨ep, he'⟩ := PyProof.Rows.sortedAll_at s.heap its out.toArray
    have hv := vals_each eo
    have hle : (((xs.zip ds).mergeSort (PySem.W.dataLe false Prod.snd)).map Prod.fst).length ≤ sizeLine := by rw [List.length_map, List.length_mergeSort, hzn]; exact hzl
    exact ⟨.ref _, upd H (s.heap.objs.size + 1) (.lst _), I.laid (t' := s.toks) (fun _ _ => PyProof.Rows.sortedAll_old) (Nat.le_succ _) ⟨hle, out, ep, hv, by simpa using he'⟩, rfl, q _ (I.hok.fresh (Nat.le_succ _))⟩
def gSortD : List D → Res D
  | [.list ds] => if sortOk ds = true then .ok (.list (ds.mergeSort (PySem.W.dataLe false id))) else .bad
  | _ => .bad
theorem dvs_len {S : Hp} : ∀ {vs : List V} {ds : List D}, DVs K S vs ds → vs.length = ds.length
  | [], [], _ => rfl
  | _ :: vs, _ :: ds, h => congrArg (· + 1) (dvs_len (vs := vs) (ds := ds) h.2)
  | [], _ :: _, h => h.elim
  | _ :: _, [], h => h.elim
theorem dvs_zip {S : Hp} : ∀ {vs : List V} {ds : List D}, DVs K S vs ds → ∀ b ∈ vs.zip ds, DV K S b.1 b.2
  | [], [], _, _, h => absurd h List.not_mem_nil
  | v :: vs, d :: ds, h, b, hb => by
    rcases List.mem_cons.mp hb with e | e
    · rw [e]; exact h.1
    · exact dvs_zip (vs := vs) (ds := ds) h.2 b e
  | [], _ :: _, h, _, _ => h.elim
  | _ :: _, [], h, _, _ => h.elim
theorem dvs_unzip {S : Hp} : ∀ {bs : List (V × D)}, (∀ b ∈ bs, DV K S b.1 b.2) → DVs K S (bs.map Prod.fst) (bs.map Prod.snd)
  | [], _ => trivial
  | b :: bs, h => ⟨h b List.mem_cons_self, dvs_unzip fun c hc => h c (List.mem_cons_of_mem _ hc)⟩
theorem cs_sortD : CaS K mg E (rSortD K) gSortD := fun S H xs ds Q sh dv h => by
  unfold gSortD at h
  split at h
  · rename_i es
    obtain ⟨v, rfl, hv⟩ := dvs1 dv
    rw [DV] at hv
    obtain ⟨a, us, rfl, h1, h2⟩ := hv
    split at h
    · rename_i ho
      obtain ⟨o1, _, _⟩ := sort_parts ho
      obtain ⟨_, p2, _⟩ := ord_parts o1
      have hl := dvs_len h2
      have em : ((us.zip es).mergeSort (PySem.W.dataLe false Prod.snd)).map Prod.snd = es.mergeSort (PySem.W.dataLe false id) := by
        rw [List.map_mergeSort (r := PySem.W.dataLe false Prod.snd) (s := PySem.W.dataLe false id) (f := Prod.snd) (fun a _ b _ => rfl), zip_snd hl]
      refine ⟨a, us, es, rfl, ls_sq (ls_mono sh h1), DVs.dp sh _ _ p2 h2, ho, fun p hp => ?_⟩
      rw [← em] at h
      exact new_lst sh (dvs_unzip fun b hb => dvs_zip h2 b (List.mem_mergeSort.mp hb)) h hp
    · exact h.elim
  · exact h.elim
/-! x < y -/
def rLtD (K : PySem.W.Frag) : R2 := fun x y H Q => ∃ d e, Dp K H x d ∧ Dp K H y e ∧ SeqAt.shaped d = true ∧ SeqAt.shaped e = true ∧ PySem.W.alike d e = true ∧ d ≠ .none ∧ Q (.bl (PySem.W.dataLt d e)) H
theorem op_ltD (hu : X.A.units + 70 < cLine) (hK : X.K = K := by rfl) : OpR X (compareOp .Lt) (rLtD K) := by
  subst hK
  intro pins s σ H x y v u Q I rx ry h
  obtain ⟨d, e, hd, he, sd, se, al, hn, q⟩ := h
  obtain ⟨as, r1⟩ := Dp.reads I d x v hd rx
  obtain ⟨bs, r2⟩ := Dp.reads I e y u he ry
  have hdp : d.depth ≤ 64 := by
    unfold SeqAt.shaped at sd
    exact of_decide_eq_true (and_split sd).2
  have := Nat.min_le_left d.depth e.depth
  exact PySem.W.rcLt_alike d e X.A s v u as bs r1 r2 al hn (by omega) _ _ _ _ ⟨.bl _, H, I, rfl, q⟩
def gLtD (a b : D) : Res D := if (SeqAt.shaped a && SeqAt.shaped b && PySem.W.alike a b && !isNone a) = true then .ok (.bool (PySem.W.dataLt a b)) else .bad
theorem os_ltD : OpS K mg E (rLtD K) gLtD := fun S H x y a b Q sh dx dy h => by
  unfold gLtD at h
  split at h
  · rename_i c
    obtain ⟨c, c4⟩ := and_split c
    obtain ⟨c, c3⟩ := and_split c
    obtain ⟨c1, c2⟩ := and_split c
    exact ⟨a, b, dp_of sh c1 dx, dp_of sh c2 dy, c1, c2, c3, (fun e => by subst e; cases c4), h.ok0 sh rfl⟩
  · exact h.elim
end
end PD
namespace PD
open PySem L2
theorem foldl_repA (its : List Value) : ∀ (m : Nat) (acc : List Value), List.foldl (fun (x1 x2 : Array Value) => x1 ++ x2) acc.toArray (List.replicate m its.toArray) = (acc ++ (List.replicate m its).flatten).toArray
  | 0, acc => by simp
  | m + 1, acc => by
    rw [List.replicate_succ, List.foldl_cons, List.replicate_succ, List.flatten_cons]
    have e : acc.toArray ++ its.toArray = (acc ++ its).toArray := by simp
    rw [e, foldl_repA its m, List.append_assoc]
section
variable {K : PySem.W.Frag} {mg : Str → Option Value} {X : Cx} {E : XK} {e o : Expr} {te to : TE} {f fo : DEnv → Res D} {pos : Pos}
/-! ### xs * n, of lists and tuples -/
def rRepL (K : PySem.W.Frag) : R2 := fun x y H Q => ∃ l k xs, x = .ref l ∧ y = .int k ∧ LsAt K H l xs ∧ 0 ≤ k ∧ k ≤ 1000 ∧ xs.length ≤ 1000 ∧ ∀ p, H p = none → Q (.ref p) (upd H p (.lst (List.replicate k.toNat xs).flatten))
theorem op_repL : OpR X (binaryOp .Mult) (rRepL X.K) := by
  intro pins s σ H x y v u Q I rx ry h
  obtain ⟨l, k, xs, rfl, rfl, hH, h1, h2, hz, q⟩ := h
  cases rx
  obtain ⟨t, rfl⟩ := ry
  obtain ⟨its, n, r, hl, e⟩ := rd_lst I hH
  have hb : xs.length * k.toNat ≤ 1000000 := by
    have : xs.length * k.toNat ≤ 1000 * 1000 := Nat.mul_le_mul hz (by omega)
    omega
  have hlen : its.toArray.size * k.toNat ≤ sizeLine := by rw [List.size_toArray, ← hl, sizeLine_eq]; omega
  have hcap : ¬ its.toArray.size * k.toNat > (2 ^ 63 - 1) / 8 := by
    have : (sizeLine : Nat) ≤ (2 ^ 63 - 1) / 8 := by decide
    omega
  have hfit : ¬ (!Builtin.List.listFitsIndex k) = true := by
    rw [fitsIndex_both (by omega) (by omega)]
    exact Bool.false_ne_true
  have hlong : ¬ Builtin.List.listTooLong (its.toArray.size * k.toNat) = true := by
    rw [notLongL hlen]
    exact Bool.false_ne_true
  have hnew : List.foldl (fun x1 x2 => x1 ++ x2) #[] (List.replicate (if its.toArray.isEmpty = true then 0 else k.toNat) its.toArray) = (List.replicate k.toNat its).flatten.toArray := by
    have f0 : ∀ m : Nat, List.foldl (fun x1 x2 => x1 ++ x2) #[] (List.replicate m its.toArray) = (List.replicate m its).flatten.toArray := fun m => by
      have := foldl_repA its m []
      rw [List.nil_append] at this
      exact this
    rw [f0]
    cases its with
    | nil => simp
    | cons a r' => rw [if_neg (by simp)]
  refine wpAny_binaryOp_repeat_ref (T := "list") (U := "int") (by decide) ⟨_, e, rfl⟩ (fun s' => typeIs_int s' k t) noFill_list_mul F.fills_int_mul F.slot_int_rmul repeat_list F.slot_int_index.lookup
    (call_meets F.slot_int_rmul (typeIs_int s k t) F.entry_int_rmul (F.args_int_rmul_2 _ _) (int___rmul___int_list k t l its.toArray n)
      ⟨e, rfl, ⟨_, e, rfl⟩, call_meets F.slot_list_mul ⟨_, e, rfl⟩ F.entry_list_mul (F.args_list_mul_2 _ _) (AutoListH.list___mul___list_int_3 l its.toArray n k t hfit hcap hlong) ⟨e, ?_⟩⟩)
  rw [hnew]
  exact ⟨.ref _, _, I.lnew (t' := s.toks) (r.rep k.toNat) (by rw [PyProof.Rows.lm_len_rep_flat, Nat.mul_comm, sizeLine_eq]; omega), rfl, q _ I.fresh⟩
theorem DVs.rep {K : PySem.W.Frag} {S : Hp} {vs : List V} {ds : List D} (h : DVs K S vs ds) : ∀ n : Nat, DVs K S (List.replicate n vs).flatten (List.replicate n ds).flatten
  | 0 => trivial
  | n + 1 => by
    rw [List.replicate_succ, List.replicate_succ, List.flatten_cons, List.flatten_cons]
    exact h.append (DVs.rep h n)
def rRepA (K : PySem.W.Frag) : R2 := fun x y H Q => rRepL K x y H Q ∨ rRepT K x y H Q
theorem op_repA (hK : X.K = K := by rfl) : OpR X (binaryOp .Mult) (rRepA K) := by subst hK; exact op_repL.or op_repT
def gRep : D → D → Res D
  | .list xs, .int k => if (decide (0 ≤ k) && decide (k ≤ 1000) && decide (xs.length ≤ 1000)) = true then .ok (.list (List.replicate k.toNat xs).flatten) else .bad
  | .tuple xs, .int k => if (decide (2 ≤ k) && decide (k ≤ 1000) && decide (xs.length ≤ 1000) && decide (xs.length ≠ 0)) = true then .ok (.tuple (List.replicate k.toNat xs).flatten) else .bad
  | _, _ => .bad
theorem os_rep : OpS K mg E (rRepA K) gRep := fun S H x y a b Q sh dx dy h => by
  unfold gRep at h
  split at h
  · rename_i xs k
    split at h
    · rename_i c
      simp only [Bool.and_eq_true, decide_eq_true_eq] at c
      rw [DV] at dx
      obtain ⟨p, us, rfl, h1, h2⟩ := dx
      exact .inl ⟨p, k, us, rfl, dy, ls_mono sh h1, c.1.1, c.1.2, by rw [h2.length]; exact c.2, fun n hn => new_lst sh (h2.rep _) h hn⟩
    · exact h.elim
  · rename_i xs k
    split at h
    · rename_i c
      simp only [Bool.and_eq_true, decide_eq_true_eq] at c
      rw [DV] at dx
      obtain ⟨p, us, rfl, h1, h2⟩ := dx
      refine .inr ⟨p, k, us, rfl, dy, same_t sh h1.1, fun e => ?_, c.1.1.1, c.1.1.2, by rw [h2.length]; exact c.1.2, fun n hn => new_tup sh (h2.rep _) h hn⟩
      have := h2.length
      rw [e] at this
      exact c.2 this.symm
    · exact h.elim
  · exact h.elim
/-! ### str(int) -/
def strOk (i : Int) : Bool := decide (-1000000000000 ≤ i) && decide (i ≤ 1000000000000)
def gStr : List D → Res D
  | [.int i] => if strOk i = true then .ok (.str (toString i)) else .bad
  | _ => .bad
theorem cs_str : CaS K mg E (fun xs H Q => ∃ i, xs = [.int i] ∧ i.natAbs.log2 < 1920 ∧ Q (.str (toString i)) H) gStr := fun S H xs ds Q sh dv h => by
  unfold gStr at h
  split at h
  · rename_i i
    split at h
    · rename_i hz
      obtain ⟨v, rfl, hv⟩ := dvs1 dv
      cases hv
      refine ⟨_, rfl, ?_, h.ok0 sh rfl⟩
      simp only [strOk, Bool.and_eq_true, decide_eq_true_eq] at hz
      have hb : i.natAbs < 2 ^ 64 := by omega
      by_cases h0 : i.natAbs = 0
      · rw [h0]; decide
      · exact Nat.lt_trans ((Nat.log2_lt h0).mpr hb) (by decide)
    · exact h.elim
  · exact h.elim
/-! ### xs.index(y), xs a list -/
def idxD (ds : List D) (d : D) : Option Nat := ds.findIdx? fun z => PyData.eqv z d
def gIndex (ds : List D) (b : D) : Res D := if (SeqAt.shaped (.list ds) && SeqAt.shaped b) = true then (match idxD ds b with
    | some j => .ok (.int (j : Nat))
    | none => .bad) else .bad
/-- a method of a list with one argument -/
def fLM (g : List D → D → Res D) (fo f : DEnv → Res D) : DEnv → Res D := fun ρ => ((fo ρ).bind asList).bind fun ds => (f ρ).bind fun b => g ds b
theorem pd_index {apos : Pos} (hu : X.A.units + 65 < cLine) (ho : PD K mg X E o to fo) (he : PD K mg X E e te f)
    (hbase : attributeBase o "index" X.env (eval o X.env) = eval o X.env := by rfl)
    (hfew : ((backTo pos (starEach [e] X.env)).all (fun x => !x.1) && (backToKw pos (keywordEach [] X.env)).all (fun x => x.1.isSome) && decide ([e].length + ([] : List Keyword).length + (if ([] : List Keyword).isEmpty then 0 else 1) < 30)) = true := by rfl)
    (hline : (apos.endLine == pos.line) = true := by rfl) (hs : starEach [e] X.env = (false, eval e X.env) :: starEach [] X.env := by rfl) (hplain : (backTo pos (starEach [] X.env)).any (·.1) = false := by rfl) (hK : X.K = K := by rfl) :
    PD K mg X E (.Call (.Attribute o "index" apos) [e] [] pos) (tBM K "list" (rIndexD K) to (tCons te tNil)) (fLM gIndex fo f) :=
  ⟨hK ▸ pe_bm PySem.F.plainAttrs_list PySem.F.slot_list_index PySem.F.type_list_index (mt_indexD hu) ho.pe (pa_cons he.pe pa_nil hs) hbase hfew hline hs hplain, fun S H σ ρ Q rl h => by
    have h : PostG mg E S H (DV K) ((fo ρ).bind fun d => (asList d).bind fun ds => (f ρ).bind fun b => gIndex ds b) Q := by
      unfold fLM at h
      cases eo : fo ρ <;> (rw [eo] at h; exact h)
    refine ho.sd S H σ ρ _ rl (h.bind fun d v S1 H1 x1 d1 h1 => ?_)
    cases d with
    | list ds =>
      have d1' := d1
      rw [DV] at d1
      obtain ⟨a, us, rfl, g1, g2⟩ := d1
      refine ⟨.inl ⟨rfl, us, ls_sq (ls_mono x1.sh g1)⟩, ?_⟩
      have h1 : PostG mg E S1 H1 (DV K) ((f ρ).bind fun b => gIndex ds b) Q := h1
      refine he.sd S1 H1 σ ρ _ (rl.mono x1) (h1.bind fun b w S2 H2 x2 d2 h2 => ?_)
      unfold gIndex at h2
      split at h2
      · rename_i c
        obtain ⟨c1, c2⟩ := and_split c
        cases ej : idxD ds b with
        | none => rw [ej] at h2; exact h2.elim
        | some j =>
          rw [ej] at h2
          obtain ⟨hj, e1, e2⟩ := List.findIdx?_eq_some_iff_getElem.mp ej
          refine ⟨a, w, b, ds, j, ds[j], rfl, rfl, dp_of x2.sh c1 (d1'.mono x2.s), dp_of x2.sh c2 d2, c1, c2, List.getElem?_eq_getElem hj, e1, fun m z' hm em => ?_, h2.ok0 x2.sh rfl⟩
          have hml : m < ds.length := by omega
          rw [List.getElem?_eq_getElem hml] at em
          have em := Option.some.inj em
          rw [← em]
          have := e2 m hm
          simpa using this
      · exact h2.elim
    | _ => exact h1.elim⟩
end
end PD
namespace PD
open PySem L2
theorem PostG.unstrict {α W : Type} {mg : Str → Option Value} {E E' : XK} {S H : Hp} {R : Hp → W → α → Prop} {r : Res α} {Q : W → Hp → Prop} (h : PostG mg E S H R r.strict Q) : PostG mg E' S H R r Q := by
  cases r with
  | ok a => exact h
  | err c => exact h.elim
  | bad => exact h
def fSt {α : Type} (f : DEnv → Res α) : DEnv → Res α := fun ρ => (f ρ).strict
theorem hUs {k : Nat} {A : Around} {v : Option Value} (r : Room k A) : (A.mark v).units + 65 < cLine := by have h := hU r; exact h
/-! ### expressions in the body of a try: what a call raises goes to W -/
structure PDS (K : PySem.W.Frag) (mg : Str → Option Value) (X : Cx) (W : WX) (e : Expr) (t : TE) (f : DEnv → Res D) : Prop where
  pe : PE X e t
  sd : ∀ (S H : Hp) (σ : L2.St) (ρ : DEnv) (Q : VK), RelE K S H σ ρ → PostG mg (WE W σ) S H (DV K) (f ρ) Q → t σ H Q
structure ADS (K : PySem.W.Frag) (mg : Str → Option Value) (X : Cx) (W : WX) (es : List Expr) (t : TA) (f : DEnv → Res (List D)) : Prop where
  pe : PA X es t
  sd : ∀ (S H : Hp) (σ : L2.St) (ρ : DEnv) (Q : List V → Hp → Prop), RelE K S H σ ρ → PostG mg (WE W σ) S H (DVs K) (f ρ) Q → t σ H Q
section
variable {K : PySem.W.Frag} {mg : Str → Option Value} {X : Cx} {W : WX} {e : Expr} {es : List Expr} {te : TE} {t : TA} {f : DEnv → Res D} {g : DEnv → Res (List D)} {pos : Pos}
theorem pds_of (h : PD K mg X E0 e te f) : PDS K mg X W e te (fSt f) := ⟨h.pe, fun S H σ ρ Q rl q => h.sd S H σ ρ Q rl (PostG.unstrict q)⟩
theorem ads_of (h : AD K mg X E0 es t g) : ADS K mg X W es t (fSt g) := ⟨h.pe, fun S H σ ρ Q rl q => h.sd S H σ ρ Q rl (PostG.unstrict q)⟩
theorem ads_one (ha : PDS K mg X W e te f) (hs : starEach [e] X.env = (false, eval e X.env) :: starEach [] X.env := by rfl) : ADS K mg X W [e] (tCons te tNil) (fCons f fNil) := ⟨pa_cons ha.pe pa_nil hs, fun S H σ ρ Q rl h => by
  refine ha.sd S H σ ρ _ rl (h.bind fun x v S1 H1 x1 d1 h1 => ?_)
  exact h1.ok0 x1.sh ⟨d1, trivial⟩⟩
theorem pds_call {n k : Nat} {fa : Addr} {fd : FuncData} {ps : List Str} {F : List D → Res D} {x : Str} {p : Pos} (G : FnOk X.prog X.w X.K X.mg X.base (L2.CX X.prog X.w) k fa fd ps (spD K mg n F)) (hr : Room k X.A) (hg : Gl X x) (hm : X.mg x = some (.ref fa)) (hk : PySem.W.keepIn X.K (.ref fa) = true)
    (hb : Binds X.K fd ps []) (tk : Takes X W) (ha : ADS K mg X W (e :: es) t g) (hdb : (x == ("__debug__" : Str)) = false := by decide) (he : starEach (e :: es) X.env = (false, eval e X.env) :: starEach es X.env := by rfl)
    (hpl : (backTo pos (starEach es X.env)).any (·.1) = false := by rfl) : PDS K mg X W (.Call (.Name x p) (e :: es) [] pos) (tCallS (spD K mg n F) (WE W) t) (fCall n F g) :=
  ⟨pe_callS G hr hg hm hk hb (fun σ => passAt tk σ) ha.pe hdb he hpl, fun S H σ ρ Q rl h => by
    refine ha.sd S H σ ρ _ rl (h.bind fun ds vs S1 H1 x1 d1 h1 => ?_)
    split at h1
    · rename_i hn
      exact ⟨S1, ds, x1.sh, d1, by rw [d1.length]; exact hn, h1⟩
    · exact h1.elim⟩
/-- [f, g, ..][i](..) -/
structure FnIs (K : PySem.W.Frag) (mg : Str → Option Value) (X : Cx) (n : Nat) (fa : Addr) (F : List D → Res D) : Prop where
  ex : ∃ k fd ps, FnOk X.prog X.w X.K X.mg X.base (L2.CX X.prog X.w) k fa fd ps (spD K mg n F) ∧ Room k X.A ∧ PySem.W.keepIn X.K (.ref fa) = true ∧ Binds X.K fd ps []
theorem fn_is {n k : Nat} {fa : Addr} {F : List D → Res D} {fd : FuncData} {ps : List Str} (G : FnOk X.prog X.w X.K X.mg X.base (L2.CX X.prog X.w) k fa fd ps (spD K mg n F)) (hr : Room k X.A) (hk : PySem.W.keepIn X.K (.ref fa) = true) (hb : Binds X.K fd ps []) : FnIs K mg X n fa F := ⟨k, fd, ps, G, hr, hk, hb⟩
theorem nm_of {x : Str} {c : Value} (hg : Gl X x) (hm : X.mg x = some c) (hd : (x == ("__debug__" : Str)) = false := by decide) : Names X x c := ⟨hg, hd, .inl hm⟩
inductive FnsAre (K : PySem.W.Frag) (mg : Str → Option Value) (X : Cx) (n : Nat) : List Addr → List (List D → Res D) → Prop
  | nil : FnsAre K mg X n [] []
  | cons {fa : Addr} {F : List D → Res D} {as : List Addr} {Fs : List (List D → Res D)} : FnIs K mg X n fa F → FnsAre K mg X n as Fs → FnsAre K mg X n (fa :: as) (F :: Fs)
theorem FnsAre.get {n : Nat} {as : List Addr} {Fs : List (List D → Res D)} (h : FnsAre K mg X n as Fs) : ∀ {i : Nat} {F : List D → Res D}, Fs[i]? = some F → ∃ fa, as[i]? = some fa ∧ FnIs K mg X n fa F := by
  induction h with
  | nil => intro i F e; simp at e
  | cons hf _ ih =>
    intro i F e
    cases i with
    | zero =>
      cases e
      exact ⟨_, rfl, hf⟩
    | succ i => exact ih e
def tVia (tf : TE) (S : Addr → Sp → Prop) (E : L2.St → XK) (t : TA) : TE := fun σ H Q => tf σ H fun v H1 => ∃ fa sp, v = .ref fa ∧ S fa sp ∧ t σ H1 fun vs H2 => sp vs H2 Q (E σ)
theorem pe_via {func : Expr} {tf : TE} {S : Addr → Sp → Prop} (hf : PE X func tf) (hS : ∀ fa sp, S fa sp → ∃ k fd ps, FnOk X.prog X.w X.K X.mg X.base (L2.CX X.prog X.w) k fa fd ps sp ∧ Room k X.A ∧ PySem.W.keepIn X.K (.ref fa) = true ∧ Binds X.K fd ps [])
    (tk : Takes X W) (ha : PA X (e :: es) t) (he : starEach (e :: es) X.env = (false, eval e X.env) :: starEach es X.env := by rfl) (hpl : (backTo pos (starEach es X.env)).any (·.1) = false := by rfl)
    (hev : eval (.Call func (e :: es) [] pos) X.env = (do callWith pos (← eval func X.env) [] (backTo pos (starEach (e :: es) X.env)) (backToKw pos (keywordEach [] X.env))) := by rfl) :
    PE X (.Call func (e :: es) [] pos) (tVia tf S (WE W) t) := by
  refine ⟨fun pins s σ H Q I h => ?_⟩
  refine PyProof.Rows.Call_ (thn (hf.run pins s σ H _ I h) fun v s1 ⟨x, H1, I1, r1, q1⟩ => ?_) hev
  obtain ⟨fa, sp, rfl, hs, q⟩ := q1
  cases r1
  obtain ⟨k, fd, ps, G, hr, hk, hb⟩ := hS fa sp hs
  refine PySem.W.callWith_K (h₀ := X.base) I.ok.mod.kin hk (thn (ha.run pos pins s1 σ H1 _ I1 q) fun us s2 ⟨vs, H2, I2, r, q2⟩ => ⟨I2.kIn, ?_⟩) he hpl
  exact run_fnS G hr hb (passAt tk σ) I2 r q2
def ixF (Fs : List (List D → Res D)) : D → Res (List D → Res D)
  | .int i => if 0 ≤ i then (match Fs[i.toNat]? with
    | some F => .ok F
    | none => .bad) else .bad
  | _ => .bad
def fVia (n : Nat) (Fs : List (List D → Res D)) (fi : DEnv → Res D) (g : DEnv → Res (List D)) : DEnv → Res D := fun ρ => (fi ρ).strict.bind fun i => (ixF Fs i).bind fun F => (g ρ).bind fun ds => if ds.length = n then F ds else .bad
/-- the names of defs, as a list's items -/
structure FA (X : Cx) (es : List Expr) (t : TA) (as : List Addr) : Prop where
  pa : PA X es t
  sd : ∀ (σ : L2.St) (H : Hp) (Q : List V → Hp → Prop), Q (as.map V.ref) H → t σ H Q
theorem fa_nil : FA X [] tNil [] := ⟨pa_nil, fun σ H Q h => h⟩
theorem fa_cons {x : Str} {fa : Addr} {as : List Addr} {p : Pos} (hm : X.mg x = some (.ref fa)) (h : FA X es t as) (hg : Gl X x := by rfl) (hd : (x == ("__debug__" : Str)) = false := by decide) (hs : starEach (.Name x p :: es) X.env = (false, eval (.Name x p) X.env) :: starEach es X.env := by rfl) :
    FA X (.Name x p :: es) (tCons (tC (.ref fa)) t) (fa :: as) := ⟨pa_cons (pe_glob hg hm rfl hd) h.pa hs, fun σ H Q q => h.sd σ H _ q⟩
theorem pds_via {n : Nat} {as : List Addr} {Fs : List (List D → Res D)} {ls : List Expr} {tl : TA} {b : Expr} {tb : TE} {fb : DEnv → Res D} {p1 p2 : Pos} (hl : FA X ls tl as) (hF : FnsAre K mg X n as Fs) (hb : PD K mg X E0 b tb fb) (tk : Takes X W) (ha : ADS K mg X W (e :: es) t g)
    (hz : as.length ≤ 100 := by simp) (hp : PlainIx b := by exact fun _ _ => rfl)
    (he : starEach (e :: es) X.env = (false, eval e X.env) :: starEach es X.env := by rfl) (hpl : (backTo pos (starEach es X.env)).any (·.1) = false := by rfl)
    (hev : eval (.Call (.Subscript (.List ls p1) b p2) (e :: es) [] pos) X.env = (do callWith pos (← eval (.Subscript (.List ls p1) b p2) X.env) [] (backTo pos (starEach (e :: es) X.env)) (backToKw pos (keywordEach [] X.env))) := by rfl) (hK : X.K = K := by rfl) :
    PDS K mg X W (.Call (.Subscript (.List ls p1) b p2) (e :: es) [] pos) (tVia (tOp (rIxL K) (tLst tl) tb) (fun fa sp => ∃ F, ∃ i : Nat, as[i]? = some fa ∧ Fs[i]? = some F ∧ sp = spD K mg n F) (WE W) t) (fVia n Fs fb g) := by
  subst hK
  refine ⟨pe_via (pe_ix ix_list (pe_lst hl.pa) hb.pe hp) (fun fa sp ⟨F, i, h1, h2, e⟩ => by
    subst e
    obtain ⟨fa', h3, h4⟩ := hF.get h2
    rw [h1] at h3
    cases h3
    exact h4.ex) tk ha.pe he hpl hev, fun S H σ ρ Q rl h => ?_⟩
  refine hl.sd σ H _ ⟨by rw [List.length_map, sizeLine_eq]; omega, fun p hn => ?_⟩
  have x0 : Ext S H S (upd H p (.lst (as.map V.ref))) := ⟨Same.refl _, same_upd hn, rl.sh.trans (same_upd hn), fun _ _ => rfl⟩
  refine hb.sd S _ σ ρ _ (rl.mono x0) (PostG.unstrict (PostG.bind (PostG.mono x0 h) fun d v S1 H1 x1 d1 h1 => ?_))
  unfold ixF at h1
  cases d with
  | int i =>
    dsimp only at h1
    split at h1
    · rename_i h0
      cases eF : Fs[i.toNat]? with
      | none => rw [eF] at h1; exact h1.elim
      | some F =>
        rw [eF] at h1
        have h1 : PostG mg (WE W σ) S1 H1 (DV X.K) ((g ρ).bind fun ds => if ds.length = n then F ds else .bad) Q := h1
        obtain ⟨fa, e1, e2⟩ := hF.get eF
        have hl2 : i.toNat < as.length := (List.getElem?_eq_some_iff.mp e1).1
        refine ⟨p, as.map V.ref, i, .ref fa, rfl, d1, SqL.of (x1.h _ _ upd_same), ?_, fa, spD X.K mg n F, rfl, ⟨F, i.toNat, e1, eF, rfl⟩, ?_⟩
        · unfold atI ixN
          rw [if_pos h0, if_pos (by rw [List.length_map]; omega)]
          show (as.map V.ref)[i.toNat]? = some (.ref fa)
          rw [List.getElem?_map, e1]
          rfl
        · refine ha.sd S1 H1 σ ρ _ ((rl.mono x0).mono x1) (h1.bind fun ds vs S2 H2 x2 d2 h2 => ?_)
          split at h2
          · rename_i hn2
            exact ⟨S2, ds, x2.sh, d2, by rw [d2.length]; exact hn2, h2⟩
          · exact h2.elim
    · exact h1.elim
  | _ => exact h1.elim
theorem pds_if {c a b : Expr} {tA : TT} {ta tb : TE} {gA : DEnv → Res Bool} {fa fb : DEnv → Res D} (hc : TD K mg X E0 c tA gA) (ha : PDS K mg X W a ta fa) (hb : PDS K mg X W b tb fb) : PDS K mg X W (.IfExp c a b pos) (tIf tA ta tb) (fIf (fSt gA) fa fb) :=
  ⟨pe_ifExp hc.pe ha.pe hb.pe, fun S H σ ρ Q rl h => hc.sd S H σ ρ _ rl (PostG.unstrict (PostG.bind h fun k w S1 H1 x1 e h1 => by
    cases e
    cases k with
    | true => exact ha.sd S1 H1 σ ρ Q (rl.mono x1) h1
    | false => exact hb.sd S1 H1 σ ρ Q (rl.mono x1) h1))⟩
/-! ### the body of a try: nothing is stored -/
def BPost (K : PySem.W.Frag) (mg : Str → Option Value) (W : WX) (σ : L2.St) (H : Hp) (r : Res (Option D)) (N : Ends) : Prop := match r with
  | .ok none => ∀ H', Same H H' → N.nx σ H'
  | .ok (some d) => ∀ v H', Same H H' → (∀ T, DV K T v d) → N.rt v H'
  | .err c => ∀ u H', mg c = some u → Same H H' → W u none σ H'
  | .bad => False
theorem BPost.mono {σ : L2.St} {H H1 : Hp} {r : Res (Option D)} {N : Ends} (h : BPost K mg W σ H r N) (x : Same H H1) : BPost K mg W σ H1 r N := by
  cases r with
  | ok o =>
    cases o with
    | none => exact fun H' e => h H' (x.trans e)
    | some d => exact fun v H' e q => h v H' (x.trans e) q
  | err c => exact fun u H' e q => h u H' e (x.trans q)
  | bad => exact h
structure BD (K : PySem.W.Frag) (mg : Str → Option Value) (X : Cx) (W : WX) (st : Stmt) (t : TS) (F : DEnv → Res (Option D)) : Prop where
  ps : PS X st t
  sd : ∀ (H : Hp) (σ : L2.St) (ρ : DEnv) (N : Ends), RelE K H H σ ρ → BPost K mg W σ H (F ρ) N → t N σ H
structure BDs (K : PySem.W.Frag) (mg : Str → Option Value) (X : Cx) (W : WX) (st : List Stmt) (t : TS) (F : DEnv → Res (Option D)) : Prop where
  ps : PSs X st t
  sd : ∀ (H : Hp) (σ : L2.St) (ρ : DEnv) (N : Ends), RelE K H H σ ρ → BPost K mg W σ H (F ρ) N → t N σ H
theorem RelE.up {H H1 : Hp} {σ : L2.St} {ρ : DEnv} (r : RelE K H H σ ρ) (x : Same H H1) : RelE K H1 H1 σ ρ := ⟨Same.refl _, r.len, fun i y e => let ⟨v, h1, h2⟩ := r.dt i y e; ⟨v, h1, h2.mono x⟩, r.rw⟩
theorem bds_one {st : Stmt} {ts : TS} {F : DEnv → Res (Option D)} (h : BD K mg X W st ts F) : BDs K mg X W [st] ts F := ⟨pss_one h.ps, h.sd⟩
theorem bds_nil : BDs K mg X W [] tNext (fun _ => .ok none) := ⟨pss_nil, fun H σ ρ N r h => h H (Same.refl _)⟩
def bSeq (F G : DEnv → Res (Option D)) : DEnv → Res (Option D) := fun ρ => (F ρ).bind fun o => match o with
  | none => G ρ
  | some d => .ok (some d)
theorem bds_cons {st : Stmt} {rest : List Stmt} {ts us : TS} {F G : DEnv → Res (Option D)} (h : BD K mg X W st ts F) (h2 : BDs K mg X W rest us G) : BDs K mg X W (st :: rest) (tSeq ts us) (bSeq F G) := ⟨pss_cons h.ps h2.ps, fun H σ ρ N r q => by
  refine h.sd H σ ρ _ r ?_
  unfold bSeq at q
  cases e1 : F ρ with
  | ok o =>
    rw [e1] at q
    cases o with
    | none => exact fun H' e => h2.sd H' σ ρ N (r.up e) (BPost.mono q e)
    | some d => exact q
  | err c => rw [e1] at q; exact q
  | bad => rw [e1] at q; exact q⟩
def bExpr (f : DEnv → Res D) : DEnv → Res (Option D) := fun ρ => (f ρ).bind fun _ => .ok none
def bRet (f : DEnv → Res D) : DEnv → Res (Option D) := fun ρ => (f ρ).bind fun d => if flatD d = true then .ok (some d) else .bad
def bIf (g : DEnv → Res Bool) (F G : DEnv → Res (Option D)) : DEnv → Res (Option D) := fun ρ => (g ρ).strict.bind fun b => if b = true then F ρ else G ρ
theorem bd_expr (he : PDS K mg X W e te f) (hs : swapsWith e none pos.line X.env = pure false := by rfl) : BD K mg X W (.Expr e pos) (tDrop te) (bExpr f) := ⟨ps_expr he.pe hs, fun H σ ρ N r q => by
  refine he.sd H H σ ρ _ r ?_
  unfold bExpr at q
  cases e1 : f ρ with
  | ok d => rw [e1] at q; exact fun w S' H' x dv => q H' x.h
  | err c => rw [e1] at q; exact q
  | bad => rw [e1] at q; exact q⟩
theorem bd_ret (he : PDS K mg X W e te f) : BD K mg X W (.Return (some e) pos) (tRet te) (bRet f) := ⟨ps_ret he.pe, fun H σ ρ N r q => by
  refine he.sd H H σ ρ _ r ?_
  unfold bRet at q
  cases e1 : f ρ with
  | ok d =>
    rw [e1, bind_ok] at q
    intro w S' H' x dv
    split at q
    · rename_i hf
      exact q w H' x.h fun T => dv.flat hf
    · exact q.elim
  | err c => rw [e1] at q; exact q
  | bad => rw [e1] at q; exact q⟩
theorem bd_if {c : Expr} {a b : List Stmt} {tc : TT} {ta tb : TS} {gc : DEnv → Res Bool} {F G : DEnv → Res (Option D)} (hc : TD K mg X E0 c tc gc) (ha : BDs K mg X W a ta F) (hb : BDs K mg X W b tb G) : BD K mg X W (.If c a b pos) (tIfS tc ta tb) (bIf gc F G) :=
  ⟨ps_if hc.pe ha.ps hb.ps, fun H σ ρ N r q => by
    refine hc.sd H H σ ρ _ r ?_
    unfold bIf at q
    cases e1 : gc ρ with
    | ok k =>
      rw [e1] at q
      intro w S' H' x ek
      cases ek
      cases k with
      | true => exact ha.sd H' σ ρ N (r.up x.h) (BPost.mono q x.h)
      | false => exact hb.sd H' σ ρ N (r.up x.h) (BPost.mono q x.h)
    | err c => rw [e1] at q; exact q.elim
    | bad => rw [e1] at q; exact q⟩
end
/-! ### try -/
theorem Rel.setRaw {K : PySem.W.Frag} {S0 H0 S H : Hp} {σ : L2.St} {ρ : DEnv} (r : Rel K S0 H0 S H σ ρ) {i : Nat} {v : V} : Rel K S0 H0 S H (σ.set i (some v)) (ρ.set i (.raw v)) := by
  have hl := r.len
  refine ⟨r.x, by rw [List.length_set, List.length_set]; exact hl, fun j z e => ?_, fun j z e => ?_, fun j s e hs => ?_, fun j k s s' p e1 e2 h1 h2 g1 g2 => ?_⟩
  · rcases set_at e with ⟨rfl, hi, e⟩ | ⟨hj, e⟩
    · cases e
    · rw [List.getElem?_set_ne hj]
      exact r.dt j z e
  · rcases set_at e with ⟨rfl, hi, e⟩ | ⟨hj, e⟩
    · cases e
      exact List.getElem?_set_self (by omega)
    · rw [List.getElem?_set_ne hj]
      exact r.rw j z e
  · rcases set_at e with ⟨rfl, hi, e⟩ | ⟨hj, e⟩
    · subst e
      cases hs
    · rw [List.getElem?_set_ne hj]
      exact r.own j s e hs
  · rcases set_at e1 with ⟨rfl, hi, e1⟩ | ⟨hj, e1⟩
    · subst e1
      cases h1
    · rcases set_at e2 with ⟨rfl, hi, e2⟩ | ⟨hk, e2⟩
      · subst e2
        cases h2
      · rw [List.getElem?_set_ne hj] at g1
        rw [List.getElem?_set_ne hk] at g2
        exact r.dis j k s s' p e1 e2 h1 h2 g1 g2
theorem kit_sub {K : PySem.W.Frag} {C D : Addr} {b : Bool} (hd : PySem.W.hasDictIn K D = true) (ht : PySem.W.typeIn K (.ref D) = some (.type "type")) (hs : PySem.W.subIn K (.ref C) (.ref D) = some b) (h0 : PySem.W.subIn K (.ref D) (.ref D) = some true) : PySem.W.kitOne K (.ref C) (.ref D) = some b := by
  obtain ⟨cd, hc, _⟩ := PySem.W.any_some hd
  unfold PySem.W.kitOne
  split
  · rename_i e
    have e : C = D := Value.ref.inj (beq_iff_eq.mp e)
    subst e
    rw [hs] at h0
    exact h0.symm
  · show (if ((PySem.W.clsIn K D).isSome && PySem.W.typeIn K (.ref D) == some (.type "type")) = true then PySem.W.subIn K (.ref C) (.ref D) else none) = some b
    have e2 : ((PySem.W.clsIn K D).isSome && PySem.W.typeIn K (.ref D) == some (.type "type")) = true := by rw [hc, ht] <;> rfl
    rw [if_pos e2]
    exact hs
def sTry (B : DEnv → Res (Option D)) (Lx : List Str) (FS : Str → DEnv → Res D) : DEnv → SR := fun ρ => match B (viewAll ρ) with
  | .ok none => .next ρ
  | .ok (some d) => .ret d
  | .err c => if Lx.contains c = true then (match FS c ρ with
    | .ok d => .ret d
    | _ => .bad) else .bad
  | .bad => .bad
/-- what is known of the classes that may be caught -/
structure Caught (K : PySem.W.Frag) (mg : Str → Option Value) (Lx : List Str) (cL : Value) : Prop where
  ex : ∀ c u, Lx.contains c = true → mg c = some u → ∃ C, u = .ref C ∧ ExcC K C ∧ PySem.W.exmOne K (.ref C) cL = some true
section
variable {K : PySem.W.Frag} {mg : Str → Option Value} {X : Cx} {E : XK} {x n : Str} {c : Value} {i : Nat} {body suite : List Stmt} {b₀ : Stmt} {np pos pos' : Pos} {tb : WX → TS} {tsu : Addr → Addr → Str → TS} {Lx : List Str} {B : DEnv → Res (Option D)} {FSa : Addr → Str → DEnv → SR}
theorem sd_try {FS : Str → DEnv → Res D} (hN : X.N.Nodup) (hi : X.N[i]? = some n) (hc : Names X x c) (tk : Takes X (fun cls d _ H => E cls d H)) (hk : Caught K mg Lx c)
    (hFS : ∀ a c ρ d, FS c ρ = .ok d → FSa a c (ρ.set i (.raw (.ref a))) = .ret d)
    (hb : ∀ (W : WX) (pn : List (Addr × Obj)) (xe : Value → Shared → Prop), Takes (X.tr pn xe) W → BDs K mg (X.tr pn xe) W body (tb W) B)
    (hsu : ∀ (a : Addr) (oe : Obj) (C : Addr) (pn : List (Addr × Obj)) (c : Str), Zc (.ref C) none oe → (∃ vs, oe.data = .fields vs) → ExcC K C → mg c = some (.ref C) → Lx.contains c = true → SDs K mg (X.suite a ((a, oe) :: pn)) E0 (b₀ :: suite) (tsu a C c) (FSa a c))
    (hs : X.stack = X.env :: X.outer := by rfl) (hf : X.env.frame = some X.env.locals := by rfl) (hln : X.env.kindOf n = some .local := by rfl) (hK : X.K = K := by rfl) :
    SD K mg X E (.Try body [.ExceptHandler (some (.Name x np)) (some n) (b₀ :: suite) pos'] [] [] pos)
      (fun D σ H => tb (wAs K c i (fun a cls d N σ H => ∃ C k, cls = .ref C ∧ d = none ∧ ExcC K C ∧ mg k = some (.ref C) ∧ Lx.contains k = true ∧ tsu a C k N σ H) (fun cls d _ H => E cls d H) D) D σ H) (sTry B Lx FS) := by
  subst hK
  refine ⟨ps_try_as hs hf hN hi hln hc tk (fun W pn xe tkb _ => (hb W pn xe tkb).ps) (fun a oe cls d pn hz hfd => ⟨fun pins s σ H D I h => ?_⟩), fun S0 H0 S H σ ρ N r h => ?_⟩
  · obtain ⟨C, k, rfl, rfl, he, hm, hL, h⟩ := h
    exact (hsu a oe C pn k hz hfd he hm hL).ps.run pins s σ H D I h
  · refine (hb _ X.pn (fun u s' => False ∨ XE X (fun cls d _ H => E cls d H) u s' ∨ True) (fun _ _ _ => .inr (.inr trivial))).sd H σ (viewAll ρ) N r.relV ?_
    unfold sTry at h
    cases e1 : B (viewAll ρ) with
    | ok o =>
      rw [e1] at h
      cases o with
      | none => exact fun H' e => h S H' σ (Same.refl _) (r.grow e)
      | some d => exact fun v H' e dv => h v S H' ((r.grow e).x) (dv S)
    | bad => rw [e1] at h; exact h
    | err k =>
      rw [e1] at h
      dsimp only at h
      split at h
      · rename_i hL
        cases eF : FS k ρ with
        | ok d =>
          rw [eF] at h
          intro u H' hm e
          obtain ⟨C, rfl, he, hx⟩ := hk.ex k u hL hm
          refine ⟨true, hx, fun _ a ha => ⟨C, k, rfl, rfl, he, hm, hL, ?_⟩, fun z => nomatch z⟩
          have r2 : Rel X.K S0 H0 S H' (σ.set i (some (.ref a))) (ρ.set i (.raw (.ref a))) := (r.grow e).setRaw
          refine (hsu a { cls := .ref C, data := .fields #[] } C [] k ⟨rfl, rfl⟩ ⟨_, rfl⟩ he hm hL).sd S0 H0 S H' _ _ _ r2 ?_
          rw [hFS a k ρ d eF]
          exact h
        | err c => rw [eF] at h; exact h.elim
        | bad => rw [eF] at h; exact h.elim
      · exact h.elim
/-- isinstance(e, D), e the exception that the suite holds -/
def fIsE (i : Nat) (a : Addr) (b : Bool) : DEnv → Res D := fun ρ => match ρ[i]? with
  | some (.raw (.ref a')) => if a' = a then .ok (.bool b) else .bad
  | _ => .bad
theorem pd_isE {a C CD : Addr} {oe : Obj} {pn : List (Addr × Obj)} {xe xD : Str} {p1 p2 p3 : Pos} {b : Bool} (hC : ExcC X.K C) (hz : Zc (.ref C) none oe) (hf : ∃ vs, oe.data = .fields vs) (hkit : PySem.W.kitOne K (.ref C) (.ref CD) = some b) (hv : PE (X.suite a ((a, oe) :: pn)) (.Name xe p1) (tVar i))
    (hg : Gl X "isinstance") (hm : X.mg "isinstance" = none) (hgD : Gl X xD) (hmD : X.mg xD = some (.ref CD)) (hd : (xD == ("__debug__" : Str)) = false := by decide)
    (h1 : starEach [.Name xe p1, .Name xD p2] X.env = (false, eval (.Name xe p1) X.env) :: starEach [.Name xD p2] X.env := by rfl) (h2 : starEach [.Name xD p2] X.env = (false, eval (.Name xD p2) X.env) :: starEach [] X.env := by rfl) (hpl : (backTo pos (starEach [.Name xD p2] X.env)).any (·.1) = false := by rfl) (hK : X.K = K := by rfl) :
    PD K mg (X.suite a ((a, oe) :: pn)) E0 (.Call (.Name "isinstance" p3) [.Name xe p1, .Name xD p2] [] pos) (tCB (rIsE K C a) (tCons (tVar i) (tCons (tC (.ref CD)) tNil))) (fIsE i a b) := by
  subst hK
  refine ⟨pe_callB (X := X.suite a ((a, oe) :: pn)) (call_isE hC hz hf) hg hm bt_isinstance (pa_cons hv (pa_cons (pe_glob (v := .ref CD) hgD hmD rfl hd) pa_nil h2) h1) (by decide) (by decide) h1 hpl, fun S H σ ρ Q rl h => ?_⟩
  unfold fIsE at h
  split at h
  · rename_i a' e
    split at h
    · rename_i ea
      subst ea
      exact ⟨_, rl.rw _ _ e, _, _, b, rfl, fun u hu => hu, hkit, h.ok0 rl.sh rfl⟩
    · exact h.elim
  · exact h.elim
end
end PD
namespace PD
open PySem L2
/-! ### zip of three tuples -/
def Itz3 (K : PySem.W.Frag) (a b c : Addr) : It :=
  ⟨fun i H => ∃ (xs ys zs : List V) (x y z : V), SqT K H a xs ∧ SqT K H b ys ∧ SqT K H c zs ∧ xs[i]? = some x ∧ ys[i]? = some y ∧ zs[i]? = some z,
    fun i H v H' => ∃ T x y z, v = .ref T ∧ H T = none ∧ H' = upd H T (.tup [x, y, z]) ∧ (∀ xs, SqT K H a xs → xs[i]? = some x) ∧ (∀ ys, SqT K H b ys → ys[i]? = some y) ∧ ∀ zs, SqT K H c zs → zs[i]? = some z,
    fun i H => ∃ xs ys zs : List V, SqT K H a xs ∧ SqT K H b ys ∧ SqT K H c zs ∧ i = min (min xs.length ys.length) zs.length⟩
theorem lt_of_get {α : Type} {xs : List α} {i : Nat} {x : α} (h : xs[i]? = some x) : i < xs.length := (List.getElem?_eq_some_iff.mp h).1
theorem turn_zip3 {P : Program} {w : World} {K : PySem.W.Frag} {elts : List Expr} {kk : Nat} {tpos : Pos} {a b c z TI TO i1 i2 i3 : Addr} (D : ZipSep3 z TI TO i1 i2 i3 [i1, a] [i2, b] [i3, c]) (na : a ≠ i1) (nb : b ≠ i2) (nc : c ≠ i3) :
    Turn P w K (.Tuple elts kk tpos) (Itz3 K a b c) [z, TI, TO, i1, i2, i3] z (fun i h => IsZip h z TI TO .none ∧ IsTupOf3 h TI (.ref i1) (.ref i2) (.ref i3) ∧ (∃ x y u, IsTupOf3 h TO x y u) ∧ h.IsTupleIter i1 a i ∧ h.IsTupleIter i2 b i ∧ h.IsTupleIter i3 c i) where
  mem := by simp
  obj := fun i h st c' hc => by
    obtain ⟨hz, hTI, ⟨x, y, u, hTO⟩, ⟨o1, e1, _, d1⟩, ⟨o2, e2, _, d2⟩, ⟨o3, e3, _, d3⟩⟩ := st
    have e' : c' = z ∨ c' = TI ∨ c' = TO ∨ c' = i1 ∨ c' = i2 ∨ c' = i3 := by simpa using hc
    rcases e' with q | q | q | q | q | q
    · rw [q]; exact ⟨_, hz, fun v q => nomatch q⟩
    · rw [q]; exact ⟨_, hTI, fun v q => nomatch q⟩
    · rw [q]; exact ⟨_, hTO, fun v q => nomatch q⟩
    · rw [q]; exact ⟨o1, e1, fun v q => by rw [d1] at q; cases q⟩
    · rw [q]; exact ⟨o2, e2, fun v q => by rw [d2] at q; cases q⟩
    · rw [q]; exact ⟨o3, e3, fun v q => by rw [d3] at q; cases q⟩
  keep := fun i h h' st k => by
    obtain ⟨hz, hTI, ⟨x, y, u, hTO⟩, h1, h2, h3⟩ := st
    exact ⟨k z (by simp) _ hz, k TI (by simp) _ hTI, ⟨x, y, u, k TO (by simp) _ hTO⟩, h1.at fun o q => k i1 (by simp) o q, h2.at fun o q => k i2 (by simp) o q, h3.at fun o q => k i3 (by simp) o q⟩
  item := by
    intro X hP hw hK hc i pins s σ H E I hf st hg
    subst hP hw hK
    obtain ⟨hz, hTI, hTO, h1, h2, h3⟩ := st
    obtain ⟨xs, ys, zs, x, y, u, hqx, hqy, hqz, hx, hy, hu⟩ := hg
    obtain ⟨its, rv, p, _⟩ := I.tuple hqx
    obtain ⟨its2, rv2, p2, _⟩ := I.tuple hqy
    obtain ⟨its3, rv3, p3, _⟩ := I.tuple hqz
    obtain ⟨u1, hu1, ru1⟩ := rv.get hx
    obtain ⟨u2, hu2, ru2⟩ := rv2.get hy
    obtain ⟨u3, hu3, ru3⟩ := rv3.get hu
    have hh : X.A.in1.handled = none := I.ok.hd hc
    have W := WalksT.zipD3 (prog := X.prog) (w := X.w) (A := X.A) D (Draws.tuple hh i1 a na its.toArray) (Draws.tuple hh i2 b nb its2.toArray) (Draws.tuple hh i3 c nc its3.toArray)
    have hlt : i < min (min its.toArray.size its2.toArray.size) its3.toArray.size := by
      have a1 := lt_of_get hu1
      have a2 := lt_of_get hu2
      have a3 := lt_of_get hu3
      simp only [List.size_toArray]
      omega
    refine W.item i s _ _ hlt ⟨hz, hTI, hTO, ⟨h1, p⟩, ⟨h2, p2⟩, h3, p3⟩ fun T vals h' tk hP hT hTu hM hk => ?_
    obtain ⟨v1, v2, v3, e1, e2, e3, rfl⟩ := hP
    have q1 : u1 = v1 := Option.some.inj (hu1.symm.trans (by simpa using e1))
    have q2 : u2 = v2 := Option.some.inj (hu2.symm.trans (by simpa using e2))
    have q3 : u3 = v3 := Option.some.inj (hu3.symm.trans (by simpa using e3))
    subst q1 q2 q3
    refine ⟨_, rfl, W.go elts kk tpos i T { s with heap := h', toks := tk } _ _ hM fun h'' st'' hk2 => ?_⟩
    have nT : T ∉ [z, TO, i1, i2, i3] := W.apart i T h' hM
    have hT2 : h''.IsTuple T #[u1, u2, u3] := hTu.at fun o e => hk2 T o nT e
    have new : ObjOk X.prog X.w (upd H T (.tup [x, y, u])) h'' T (.tup [x, y, u]) :=
      ⟨by show 3 ≤ sizeLine; decide, [u1, u2, u3], .cons ru1 (.cons ru2 (.cons ru3 .nil)), hT2⟩
    have sub : ∀ b', b' ∉ [z, TI, TO, i1, i2, i3] → b' ∉ [z, TO, i1, i2, i3] := fun b' hb hm => hb (by
      have e' : b' = z ∨ b' = TO ∨ b' = i1 ∨ b' = i2 ∨ b' = i3 := by simpa using hm
      rcases e' with q | q | q | q | q <;> simp [q])
    have I1 : Inv X pins σ (upd H T (.tup [x, y, u])) { s with heap := h'', toks := tk } :=
      I.turnedNew (t' := tk) (ch := [z, TI, TO, i1, i2, i3]) (fun b' o hb q => hk2 b' o (sub b' hb) (hk b' o (sub b' hb) q)) hf hT new
    obtain ⟨hz', hTI', hTO', ⟨h1', _⟩, ⟨h2', _⟩, h3', _⟩ := st''
    refine ⟨.ref T, _, I1, rfl, ⟨T, x, y, u, rfl, I.hok.fresh hT, rfl, fun l hl => by rw [I.tuple_inj hl hqx]; exact hx, fun l hl => by rw [I.tuple_inj hl hqy]; exact hy, fun l hl => by rw [I.tuple_inj hl hqz]; exact hu⟩, ⟨hz', hTI', hTO', h1', h2', h3'⟩, fun c' hcm => ?_⟩
    have hlt : c' < s.heap.objs.size := by
      obtain ⟨x0, y0, u0, hTO⟩ := hTO
      have e' : c' = z ∨ c' = TI ∨ c' = TO ∨ c' = i1 ∨ c' = i2 ∨ c' = i3 := by simpa using hcm
      rcases e' with q | q | q | q | q | q
      · rw [q]; exact Heap.lt_size hz
      · rw [q]; exact Heap.lt_size hTI
      · rw [q]; exact Heap.lt_size hTO
      · rw [q]; obtain ⟨_, e1, _⟩ := h1; exact Heap.lt_size e1
      · rw [q]; obtain ⟨_, e2, _⟩ := h2; exact Heap.lt_size e2
      · rw [q]; obtain ⟨_, e3, _⟩ := h3; exact Heap.lt_size e3
    rw [upd_ne (Nat.ne_of_lt (Nat.lt_of_lt_of_le hlt hT))]
    exact (hf c' hcm).1
  done := by
    intro X hP hw hK hc i pins s σ H E I hf st hg
    subst hP hw hK
    obtain ⟨hz, hTI, hTO, h1, h2, h3⟩ := st
    obtain ⟨xs, ys, zs, hqx, hqy, hqz, hend⟩ := hg
    obtain ⟨its, rv, p, _⟩ := I.tuple hqx
    obtain ⟨its2, rv2, p2, _⟩ := I.tuple hqy
    obtain ⟨its3, rv3, p3, _⟩ := I.tuple hqz
    have hh : X.A.in1.handled = none := I.ok.hd hc
    have W := WalksT.zipD3 (prog := X.prog) (w := X.w) (A := X.A) D (Draws.tuple hh i1 a na its.toArray) (Draws.tuple hh i2 b nb its2.toArray) (Draws.tuple hh i3 c nc its3.toArray)
    have hi : i = min (min its.toArray.size its2.toArray.size) its3.toArray.size := by
      rw [hend, rv.length, rv2.length, rv3.length]
      simp only [List.size_toArray]
    subst hi
    refine W.done s _ _ ⟨hz, hTI, hTO, ⟨h1, p⟩, ⟨h2, p2⟩, h3, p3⟩ fun h' tk hk => ⟨rfl, I.turnedL (t' := tk) (ch := [z, TI, TO, i1, i2, i3]) (fun b' o hb q => hk b' o (fun hm => hb ?_) q) hf⟩
    have e' : b' = z ∨ b' = TO ∨ b' = i1 ∨ b' = i2 ∨ b' = i3 := by simpa using hm
    rcases e' with q | q | q | q | q <;> simp [q]
  self := fun A i s Q E st h => wpAny_pyIter_zip st.1 h
def iZip3 (K : PySem.W.Frag) (ta : TA) : TI := fun σ H R => ta σ H fun vs H1 => ∃ a b c xs ys zs, vs = [.ref a, .ref b, .ref c] ∧ SqT K H1 a xs ∧ SqT K H1 b ys ∧ SqT K H1 c zs ∧ R (Itz3 K a b c) H1
theorem pi_zip3 {X : Cx} {e e2 e3 : Expr} {ta : TA} {p pos tpos : Pos} {elts : List Expr} {kk : Nat} (hg : Gl X "zip") (hm : X.mg "zip" = none) (ha : PA X [e, e2, e3] ta)
    (hs : starEach [e, e2, e3] X.env = (false, eval e X.env) :: starEach [e2, e3] X.env := by rfl) (hpl : (backTo pos (starEach [e2, e3] X.env)).any (·.1) = false := by rfl) :
    PI X (.Tuple elts kk tpos) (.Call (.Name "zip" p) [e, e2, e3] [] pos) (iZip3 X.K ta) := by
  refine ⟨fun pins s σ H R I h => ?_⟩
  refine PyProof.Rows.Call_ (ld_blt I hg hm PyProof.Rows.boot_zip (PyProof.Rows.callWith_type1 (thn (ha.run pos pins s σ H _ I h) fun us s1 ⟨vs, H1, I1, r1, q1⟩ => ?_) hs hpl))
  obtain ⟨a, b, c, xs, ys, zs, ex, hqx, hqy, hqz, q⟩ := q1
  subst ex
  cases r1 with
  | cons r rr =>
    cases rr with
    | cons r' rr =>
      cases rr with
      | cons r'' rr =>
        cases rr
        cases r
        cases r'
        cases r''
        obtain ⟨its, rv, p1, _⟩ := I1.tuple hqx
        obtain ⟨its2, rv2, p2, _⟩ := I1.tuple hqy
        obtain ⟨its3, rv3, p3, _⟩ := I1.tuple hqz
        obtain ⟨o1, ho1, _⟩ := id p1
        obtain ⟨o2, ho2, _⟩ := id p2
        obtain ⟨o3, ho3, _⟩ := id p3
        have la : a < s1.heap.objs.size := Heap.lt_size ho1
        have lb : b < s1.heap.objs.size := Heap.lt_size ho2
        have lc : c < s1.heap.objs.size := Heap.lt_size ho3
        refine zip_begins3 (begins_tuple a its.toArray) (begins_tuple b its2.toArray) (begins_tuple c its3.toArray) p1 p2 p3 fun h' hz hTI hTO g1 g2 g3 hsz hk => wpAny_pyIter_zip hz ?_
        have I2 : Inv X pins σ H1 { s1 with heap := h' } := I1.kept (t' := s1.toks) hk
        have D : ZipSep3 (s1.heap.objs.size + 5) (s1.heap.objs.size + 3) (s1.heap.objs.size + 4) s1.heap.objs.size (s1.heap.objs.size + 1) (s1.heap.objs.size + 2) [s1.heap.objs.size, a] [s1.heap.objs.size + 1, b] [s1.heap.objs.size + 2, c] :=
          zip_sep3 (fun x hx => by rw [List.mem_singleton.mp hx]; exact la) (fun x hx => by rw [List.mem_singleton.mp hx]; exact lb) (fun x hx => by rw [List.mem_singleton.mp hx]; exact lc)
        refine ⟨s1.heap.objs.size + 5, [s1.heap.objs.size + 5, s1.heap.objs.size + 3, s1.heap.objs.size + 4, s1.heap.objs.size, s1.heap.objs.size + 1, s1.heap.objs.size + 2], _, _, H1, rfl, I2,
          turn_zip3 D (Nat.ne_of_lt la) (Nat.ne_of_lt (Nat.lt_succ_of_lt lb)) (Nat.ne_of_lt (Nat.lt_succ_of_lt (Nat.lt_succ_of_lt lc))), ⟨hz, hTI, ⟨_, _, _, hTO⟩, ⟨_, g1, rfl, rfl⟩, ⟨_, g2, rfl, rfl⟩, ⟨_, g3, rfl, rfl⟩⟩, fun x hx => ?_, q⟩
        have e' : x = s1.heap.objs.size + 5 ∨ x = s1.heap.objs.size + 3 ∨ x = s1.heap.objs.size + 4 ∨ x = s1.heap.objs.size ∨ x = s1.heap.objs.size + 1 ∨ x = s1.heap.objs.size + 2 := by simpa using hx
        have hle : s1.heap.objs.size ≤ x := by
          rcases e' with z | z | z | z | z | z
          · rw [z]; exact Nat.le_add_right _ _
          · rw [z]; exact Nat.le_add_right _ _
          · rw [z]; exact Nat.le_add_right _ _
          · rw [z]; exact Nat.le_refl _
          · rw [z]; exact Nat.le_add_right _ _
          · rw [z]; exact Nat.le_add_right _ _
        exact I1.fpOk hle (I1.hok.fresh hle)
def zip3D : List D → List D → List D → List D
  | x :: xs, y :: ys, z :: zs => .tuple [x, y, z] :: zip3D xs ys zs
  | _, _, _ => []
theorem zip3D_get : ∀ {xs ys zs : List D} {i : Nat} {d : D}, (zip3D xs ys zs)[i]? = some d → ∃ x y z, xs[i]? = some x ∧ ys[i]? = some y ∧ zs[i]? = some z ∧ d = .tuple [x, y, z]
  | x :: xs, y :: ys, z :: zs, 0, d, h => ⟨x, y, z, rfl, rfl, rfl, (Option.some.inj h).symm⟩
  | x :: xs, y :: ys, z :: zs, i + 1, d, h => zip3D_get (xs := xs) (ys := ys) (zs := zs) (i := i) h
  | [], _, _, _, _, h => by simp [zip3D] at h
  | _ :: _, [], _, _, _, h => by simp [zip3D] at h
  | _ :: _, _ :: _, [], _, _, h => by simp [zip3D] at h
theorem zip3D_len : ∀ (xs ys zs : List D), (zip3D xs ys zs).length = min (min xs.length ys.length) zs.length
  | x :: xs, y :: ys, z :: zs => by show (zip3D xs ys zs).length + 1 = min (min (xs.length + 1) (ys.length + 1)) (zs.length + 1); rw [zip3D_len xs ys zs]; omega
  | [], ys, zs => by simp [zip3D]
  | _ :: _, [], _ => by simp [zip3D]
  | _ :: _, _ :: _, [] => by simp [zip3D]
theorem walks_zip3 {K : PySem.W.Frag} {S : Hp} {a b c : Addr} {us ws ts : List V} {ds es fs : List D} (h1 : SqT K S a us) (h2 : DVs K S us ds) (h3 : SqT K S b ws) (h4 : DVs K S ws es) (h5 : SqT K S c ts) (h6 : DVs K S ts fs) : Walks K S (Itz3 K a b c) (zip3D ds es fs) := fun S' H' e1 e2 => by
  have q1 : SqT K H' a us := same_t (e1.trans e2) h1
  have q2 : SqT K H' b ws := same_t (e1.trans e2) h3
  have q3 : SqT K H' c ts := same_t (e1.trans e2) h5
  refine ⟨fun i d hi => ?_, us, ws, ts, q1, q2, q3, ?_⟩
  · obtain ⟨x, y, z, g1, g2, g3, rfl⟩ := zip3D_get hi
    obtain ⟨v, k1, k2⟩ := h2.get g1
    obtain ⟨w, k3, k4⟩ := h4.get g2
    obtain ⟨t, k5, k6⟩ := h6.get g3
    refine ⟨⟨us, ws, ts, v, w, t, q1, q2, q3, k1, k3, k5⟩, fun x' H'' hy => ?_⟩
    obtain ⟨T, x1, x2, x3, rfl, nT, rfl, f1, f2, f3⟩ := hy
    have ex : x1 = v := Option.some.inj ((f1 _ q1).symm.trans k1)
    have ey : x2 = w := Option.some.inj ((f2 _ q2).symm.trans k3)
    have ez : x3 = t := Option.some.inj ((f3 _ q3).symm.trans k5)
    subst ex ey ez
    have sm : Same S (upd S' T (.tup [x1, x2, x3])) := e1.trans (same_upd (e2.free nT))
    exact ⟨_, Ext.new e2 nT, T, [x1, x2, x3], rfl, tp_of upd_same, k2.mono sm, k4.mono sm, k6.mono sm, trivial⟩
  · rw [zip3D_len, h2.length, h4.length, h6.length]
def gZip3 : List D → Res (List D)
  | [.tuple xs, .tuple ys, .tuple zs] => .ok (zip3D xs ys zs)
  | _ => .bad
section
variable {K : PySem.W.Frag} {mg : Str → Option Value} {X : Cx} {E : XK} {e e2 e3 : Expr} {ta : TA} {ga : DEnv → Res (List D)} {p pos tpos : Pos} {elts : List Expr} {kk : Nat}
theorem id_zip3 (hg : Gl X "zip") (hm : X.mg "zip" = none) (ha : AD K mg X E [e, e2, e3] ta ga) (hs : starEach [e, e2, e3] X.env = (false, eval e X.env) :: starEach [e2, e3] X.env := by rfl) (hpl : (backTo pos (starEach [e2, e3] X.env)).any (·.1) = false := by rfl) (hK : X.K = K := by rfl) :
    ID K mg X E (.Tuple elts kk tpos) (.Call (.Name "zip" p) [e, e2, e3] [] pos) (iZip3 K ta) (fRng gZip3 ga) := ⟨hK ▸ pi_zip3 hg hm ha.pe hs hpl, fun S H σ ρ R rl h => by
  refine ha.sd S H σ ρ _ rl (h.bind fun ds vs S1 H1 x1 d1 h1 => ?_)
  unfold gZip3 at h1
  split at h1
  · obtain ⟨v, w, u, rfl, hv, hw, hu⟩ := dvs3 d1
    rw [DV] at hv hw hu
    obtain ⟨a, us, rfl, k1, k2⟩ := hv
    obtain ⟨b, ws, rfl, k3, k4⟩ := hw
    obtain ⟨c, ts, rfl, k5, k6⟩ := hu
    exact ⟨a, b, c, us, ws, ts, rfl, same_t x1.sh k1.1, same_t x1.sh k3.1, same_t x1.sh k5.1, h1.ok0 x1.sh (walks_zip3 k1.1 k2 k3.1 k4 k5.1 k6)⟩
  · exact h1.elim⟩
end
/-! ### enumerate of a list -/
def enumD (n : Nat) : List D → List D
  | [] => []
  | x :: xs => .tuple [.int (n : Int), x] :: enumD (n + 1) xs
theorem enumD_get : ∀ {xs : List D} {n i : Nat} {d : D}, (enumD n xs)[i]? = some d → ∃ x, xs[i]? = some x ∧ d = .tuple [.int ((n + i : Nat) : Int), x]
  | x :: xs, n, 0, d, h => ⟨x, rfl, (Option.some.inj h).symm⟩
  | x :: xs, n, i + 1, d, h => by
    obtain ⟨y, h1, h2⟩ := enumD_get (xs := xs) (n := n + 1) (i := i) h
    refine ⟨y, h1, ?_⟩
    rw [h2, show n + 1 + i = n + (i + 1) from by omega]
  | [], _, _, _, h => by simp [enumD] at h
theorem enumD_len : ∀ (xs : List D) (n : Nat), (enumD n xs).length = xs.length
  | [], _ => rfl
  | x :: xs, n => by show (enumD (n + 1) xs).length + 1 = _; rw [enumD_len xs]; rfl
theorem walks_enum {K : PySem.W.Frag} {S : Hp} {a : Addr} {us : List V} {ds : List D} (h1 : LsAt K S a us) (h2 : DVs K S us ds) : Walks K S (Ite K a) (enumD 0 ds) := fun S' H' e1 e2 => by
  have q1 : SqL K H' a us := ls_sq (ls_mono (e1.trans e2) h1)
  refine ⟨fun i d hi => ?_, us, q1, by rw [enumD_len, h2.length]; exact Nat.le_refl _⟩
  obtain ⟨x, g1, rfl⟩ := enumD_get hi
  obtain ⟨v, k1, k2⟩ := h2.get g1
  refine ⟨⟨us, v, q1, k1⟩, fun x' H'' hy => ?_⟩
  obtain ⟨T, x1, rfl, nT, rfl, f1⟩ := hy
  have ex : x1 = v := Option.some.inj ((f1 _ q1).symm.trans k1)
  subst ex
  have sm : Same S (upd S' T (.tup [.int (i : Nat), x1])) := e1.trans (same_upd (e2.free nT))
  exact ⟨_, Ext.new e2 nT, T, [.int (i : Nat), x1], rfl, tp_of upd_same, by show V.int (i : Nat) = V.int ((0 + i : Nat) : Int); rw [Nat.zero_add], k2.mono sm, trivial⟩
def gEnum : List D → Res (List D)
  | [.list xs] => .ok (enumD 0 xs)
  | _ => .bad
section
variable {K : PySem.W.Frag} {mg : Str → Option Value} {X : Cx} {E : XK} {e : Expr} {ta : TA} {ga : DEnv → Res (List D)} {p pos tpos : Pos} {elts : List Expr} {kk : Nat}
theorem id_enum (hg : Gl X "enumerate") (hm : X.mg "enumerate" = none) (ha : AD K mg X E [e] ta ga) (hs : starEach [e] X.env = [(false, eval e X.env)] := by rfl) (hK : X.K = K := by rfl) :
    ID K mg X E (.Tuple elts kk tpos) (.Call (.Name "enumerate" p) [e] [] pos) (iEnum K ta) (fRng gEnum ga) := ⟨hK ▸ pi_enum hg hm ha.pe hs, fun S H σ ρ R rl h => by
  refine ha.sd S H σ ρ _ rl (h.bind fun ds vs S1 H1 x1 d1 h1 => ?_)
  unfold gEnum at h1
  split at h1
  · obtain ⟨v, rfl, hv⟩ := dvs1 d1
    rw [DV] at hv
    obtain ⟨a, us, rfl, k1, k2⟩ := hv
    exact ⟨a, us, rfl, ls_sq (ls_mono x1.sh k1), h1.ok0 x1.sh (walks_enum k1 k2)⟩
  · exact h1.elim⟩
end
/-! ### x, y, z = a, [], [], where a target is captured: by a tuple -/
section
variable {K : PySem.W.Frag} {mg : Str → Option Value} {X : Cx} {E : XK} {ts es : List Expr} {t : TA} {gg : TGs} {is : List Nat} {g : DEnv → Res (List Slot)} {pos pt pt2 : Pos} {kt k2 : Nat} {n : Nat}
theorem sd_asgZ (hc : X.calm = true) (hz : ZD K mg X E es t g) (hg : GDs X ts gg is) (hn : (assignEach ts X.env).length = n := by rfl) (hst : (assignEach ts X.env).findIdx? (·.1) = none := by rfl) (hl : is.length = n := by rfl) (hz2 : is.length ≤ 100 := by decide) (hK : X.K = K := by rfl)
    (hs : swapsWithSole [.Tuple ts kt pt] (.Tuple es k2 pt2) pos.line X.env = pure false := by rfl) (hw : swappedStores [.Tuple ts kt pt] (.Tuple es k2 pt2) X.env = pure none := by rfl) (h1 : (assignEach [.Tuple ts kt pt] X.env).map (·.2) = [assign (.Tuple ts kt pt) X.env] := by rfl) :
    SD K mg X E (.Assign [.Tuple ts kt pt] (.Tuple es k2 pt2) pos) (tAsg (tTup t) (gTup K n gg)) (sPar g is) := ⟨ps_asg (pe_tup hz.pe) (hK ▸ pg_tup hc hg.pg hn hst) hs hw h1, fun S0 H0 S H σ ρ N r h => by
  refine hz.sd S H σ ρ _ r.relE (posts_of r h fun ss vs S' H' x' q h => ?_)
  split at h
  · rename_i hsl
    have lv : vs.length = is.length := q.length.trans hsl
    refine ⟨by rw [lv, sizeLine_eq]; omega, fun p hp => ?_⟩
    have sm : Same H' (upd H' p (.tup vs)) := same_upd hp
    refine ⟨p, vs, rfl, SqT.of upd_same, by rw [lv, hl], hg.sd _ vs σ _ lv ?_⟩
    exact h S' _ _ x'.s ((r.slots x' q is).grow sm)
  · exact h.elim⟩
end
end PD
namespace PD
open PySem L2
/-! ### dicts whose keys are ints or texts -/
def toKey : D → Option Key
  | .int i => some (.inl i)
  | .str x => some (.inr x)
  | _ => none
theorem toKey_kD (k : Key) : toKey (kD k) = some k := by cases k <;> rfl
theorem toKey_dv {K : PySem.W.Frag} {S : Hp} {v : V} {d : D} {k : Key} (h : DV K S v d) (e : toKey d = some k) : v = kV k := by
  cases d with
  | int i => cases e; exact h
  | str x => cases e; exact h
  | _ => cases e
/-- what stands at a key -/
def dAt : List (D × D) → Key → Option D
  | [], _ => none
  | (a, d) :: r, k => if toKey a = some k then some d else dAt r k
theorem dAt_val {K : PySem.W.Frag} {S : Hp} (k : Key) : ∀ {kvs : List (D × D)} {es : List (Key × V)}, kvs.map (·.1) = es.map (fun e => kD e.1) → DVp K S (es.map (·.2)) kvs → (dAt kvs k = none ∧ valV es k = none) ∨ ∃ d v, dAt kvs k = some d ∧ valV es k = some v ∧ DV K S v d
  | [], [], _, _ => .inl ⟨rfl, rfl⟩
  | (a, d) :: r, (e, v) :: es, hk, hd => by
    have h1 : a = kD e := (List.cons.inj hk).1
    have h2 : r.map (·.1) = es.map (fun e => kD e.1) := (List.cons.inj hk).2
    rw [List.map_cons, DVp] at hd
    by_cases he : e = k
    · refine .inr ⟨d, v, ?_, valV_pos he, hd.1⟩
      unfold dAt
      rw [h1, toKey_kD, he, if_pos rfl]
    · have e1 : dAt ((a, d) :: r) k = dAt r k := by
        conv => lhs; unfold dAt
        rw [h1, toKey_kD, if_neg (fun z => he (Option.some.inj z))]
      have e2 : valV ((e, v) :: es) k = valV es k := by
        unfold valV
        rw [List.find?_cons]
        have : decide ((e, v).1 = k) = false := decide_eq_false he
        rw [this]
      rw [e1, e2]
      exact dAt_val k h2 hd.2
  | [], _ :: _, hk, _ => by cases hk
  | _ :: _, [], hk, _ => by cases hk
theorem dv_dict {K : PySem.W.Frag} {S : Hp} {v : V} {kvs : List (D × D)} (h : DV K S v (.dict kvs)) : ∃ a, v = .ref a ∧ ((∃ es : List (Key × V), Rd S a (.dK es) ∧ kvs.map (·.1) = es.map (fun e => kD e.1) ∧ DVp K S (es.map (·.2)) kvs) ∨
      (∃ es : List (List Key × V), Rd S a (.dT es) ∧ kvs.map (·.1) = es.map (fun e => PyData.tuple (e.1.map kD)) ∧ DVp K S (es.map (·.2)) kvs)) := by
  rw [DV] at h
  exact h
/-- a dict with keys that are ints or texts -/
def plainK : List (D × D) → Bool
  | [] => true
  | (a, _) :: r => (toKey a).isSome && plainK r
theorem plain_of {K : PySem.W.Frag} {S : Hp} {a : Addr} {kvs : List (D × D)} (hp : plainK kvs = true) (hn : kvs ≠ []) (h : (∃ es : List (Key × V), Rd S a (.dK es) ∧ kvs.map (·.1) = es.map (fun e => kD e.1) ∧ DVp K S (es.map (·.2)) kvs) ∨
      (∃ es : List (List Key × V), Rd S a (.dT es) ∧ kvs.map (·.1) = es.map (fun e => PyData.tuple (e.1.map kD)) ∧ DVp K S (es.map (·.2)) kvs)) : ∃ es : List (Key × V), Rd S a (.dK es) ∧ kvs.map (·.1) = es.map (fun e => kD e.1) ∧ DVp K S (es.map (·.2)) kvs := by
  rcases h with h | ⟨es, h1, h2, h3⟩
  · exact h
  · cases kvs with
    | nil => exact absurd rfl hn
    | cons kv r =>
      obtain ⟨x, d⟩ := kv
      cases es with
      | nil => cases h2
      | cons e es =>
        have h4 : x = PyData.tuple (e.1.map kD) := (List.cons.inj h2).1
        subst h4
        unfold plainK at hp
        cases hp
theorem same_rd {S H : Hp} {a : Addr} {u : HO} (e : Same S H) (h : Rd S a u) : Rd H a u := rd_same e h
section
variable {K : PySem.W.Frag} {mg : Str → Option Value} {X : Cx} {E : XK} {o i e f : Expr} {td ty tx te : TE} {fd fk fx ff : DEnv → Res D} {pos : Pos}
/-! d[k] -/
def gDix : D → D → Res D
  | .dict kvs, kd => if (plainK kvs && !kvs.isEmpty) = true then (match toKey kd with
    | some k => (match dAt kvs k with
      | some d => .ok d
      | none => .bad)
    | none => .bad) else .bad
  | _, _ => .bad
theorem hu1 {A : Around} (h : A.units + 65 < cLine) : A.units + 1 < cLine := by omega
theorem ne_emp {kvs : List (D × D)} (h : (!kvs.isEmpty) = true) : kvs ≠ [] := fun z => by subst z; cases h
theorem pd_dget (hu : X.A.units + 65 < cLine) (hd : PD K mg X E o td fd) (hk : PD K mg X E i ty fk) (hs : NoSl i := by exact fun _ _ => rfl) : PD K mg X E (.Subscript o i pos) (tDGet td ty) (fBin gDix fd fk) := ⟨pe_dget (hu1 hu) hd.pe hk.pe hs, fun S H σ ρ Q rl h => by
  refine hd.sd S H σ ρ _ rl (h.bind fun d v S1 H1 x1 d1 h1 => ?_)
  refine hk.sd S1 H1 σ ρ _ (rl.mono x1) (h1.bind fun kd y S2 H2 x2 d2 h2 => ?_)
  unfold gDix at h2
  split at h2
  · rename_i kvs
    split at h2
    · rename_i c
      obtain ⟨c1, c2⟩ := and_split c
      cases ek : toKey kd with
      | none => rw [ek] at h2; exact h2.elim
      | some k =>
        rw [ek] at h2
        dsimp only at h2
        cases ed : dAt kvs k with
        | none => rw [ed] at h2; exact h2.elim
        | some dd =>
          rw [ed] at h2
          obtain ⟨a, rfl, q⟩ := dv_dict (d1.mono x2.s)
          obtain ⟨es, g1, g2, g3⟩ := plain_of c1 (ne_emp c2) q
          rcases dAt_val k g2 g3 with ⟨z, _⟩ | ⟨d', v', z1, z2, z3⟩
          · rw [z] at ed; cases ed
          · rw [z1] at ed
            cases ed
            exact ⟨a, v', rfl, .inl ⟨es, k, same_rd x2.sh g1, toKey_dv d2 ek, z2.symm⟩, h2.ok0 x2.sh z3⟩
    · exact h2.elim
  · exact h2.elim⟩
/-! k in d, k not in d -/
def gDin (neg : Bool) (kd d : D) : Res D := match d with
  | .dict kvs => if (plainK kvs && !kvs.isEmpty) = true then (match toKey kd with
    | some k => .ok (.bool (if neg then !(dAt kvs k).isSome else (dAt kvs k).isSome))
    | none => .bad) else .bad
  | _ => .bad
theorem din_sd (neg : Bool) (hk : PD K mg X E i ty fk) (hd : PD K mg X E o td fd) (S H : Hp) (σ : L2.St) (ρ : DEnv) (Q : VK) (rl : RelE K S H σ ρ) (h : PostG mg E S H (DV K) (fBin (gDin neg) fk fd ρ) Q) :
    ty σ H fun y H1 => td σ H1 fun x H2 => ∃ a o, x = .ref a ∧ DGet H2 a y o ∧ Q (.bl (if neg then !o.isSome else o.isSome)) H2 := by
  refine hk.sd S H σ ρ _ rl (h.bind fun kd y S1 H1 x1 d1 h1 => ?_)
  refine hd.sd S1 H1 σ ρ _ (rl.mono x1) (h1.bind fun d v S2 H2 x2 d2 h2 => ?_)
  unfold gDin at h2
  split at h2
  · rename_i kvs
    split at h2
    · rename_i c
      obtain ⟨c1, c2⟩ := and_split c
      cases ek : toKey kd with
      | none => rw [ek] at h2; exact h2.elim
      | some k =>
        rw [ek] at h2
        dsimp only at h2
        obtain ⟨a, rfl, q⟩ := dv_dict d2
        obtain ⟨es, g1, g2, g3⟩ := plain_of c1 (ne_emp c2) q
        refine ⟨a, valV es k, rfl, .inl ⟨es, k, same_rd x2.sh g1, toKey_dv (d1.mono x2.s) ek, rfl⟩, ?_⟩
        have e : (valV es k).isSome = (dAt kvs k).isSome := by
          rcases dAt_val k g2 g3 with ⟨z1, z2⟩ | ⟨d', v', z1, z2, z3⟩
          · rw [z1, z2]; rfl
          · rw [z1, z2]; rfl
        rw [e]
        exact h2.ok0 x2.sh rfl
    · exact h2.elim
  · exact h2.elim
theorem pd_din (hu : X.A.units + 65 < cLine) (hk : PD K mg X E i ty fk) (hd : PD K mg X E o td fd) (hm : behindInMarks .In o = false := by rfl) : PD K mg X E (.Compare i [.In] [o] pos) (tDIn ty td) (fBin (gDin false) fk fd) := ⟨pe_cmp (pc_din (hu1 hu) hk.pe hd.pe) hm, din_sd false hk hd⟩
theorem pd_dnotin (hu : X.A.units + 65 < cLine) (hk : PD K mg X E i ty fk) (hd : PD K mg X E o td fd) (hm : behindInMarks .NotIn o = false := by rfl) : PD K mg X E (.Compare i [.NotIn] [o] pos) (tDNotIn ty td) (fBin (gDin true) fk fd) := ⟨pe_cmp (pc_dnotin (hu1 hu) hk.pe hd.pe) hm, din_sd true hk hd⟩
theorem td_din (hu : X.A.units + 65 < cLine) (hk : PD K mg X E i ty fk) (hd : PD K mg X E o td fd) (hm : behindInMarks .In o = false := by rfl) : TD K mg X E (.Compare i [.In] [o] pos) (tTest (tDIn ty td)) (fTest (fBin (gDin false) fk fd)) := ⟨pt_cmp (pc_din (hu1 hu) hk.pe hd.pe) hm, fun S H σ ρ Q rl h => test_sd (pd_din (pos := pos) hu hk hd hm) S H σ ρ Q rl h⟩
theorem td_dnotin (hu : X.A.units + 65 < cLine) (hk : PD K mg X E i ty fk) (hd : PD K mg X E o td fd) (hm : behindInMarks .NotIn o = false := by rfl) : TD K mg X E (.Compare i [.NotIn] [o] pos) (tTest (tDNotIn ty td)) (fTest (fBin (gDin true) fk fd)) := ⟨pt_cmp (pc_dnotin (hu1 hu) hk.pe hd.pe) hm, fun S H σ ρ Q rl h => test_sd (pd_dnotin (pos := pos) hu hk hd hm) S H σ ρ Q rl h⟩
/-! d.get(k, x) -/
def asDict : D → Res (List (D × D))
  | .dict kvs => if plainK kvs = true then .ok kvs else .bad
  | _ => .bad
def gGet2 (kvs : List (D × D)) (kd x : D) : Res D := match toKey kd with
  | some k => .ok ((dAt kvs k).getD x)
  | none => .bad
def fGet2 (fd fk fx : DEnv → Res D) : DEnv → Res D := fun ρ => (fd ρ).bind fun d => (asDict d).bind fun kvs => (fk ρ).bind fun kd => (fx ρ).bind fun x => gGet2 kvs kd x
theorem dk_of_plain {S : Hp} {a : Addr} {kvs : List (D × D)} (hp : plainK kvs = true) (h : (∃ es : List (Key × V), Rd S a (.dK es) ∧ kvs.map (·.1) = es.map (fun e => kD e.1) ∧ DVp K S (es.map (·.2)) kvs) ∨
      (∃ es : List (List Key × V), Rd S a (.dT es) ∧ kvs.map (·.1) = es.map (fun e => PyData.tuple (e.1.map kD)) ∧ DVp K S (es.map (·.2)) kvs)) : (∃ es : List (Key × V), Rd S a (.dK es) ∧ kvs.map (·.1) = es.map (fun e => kD e.1) ∧ DVp K S (es.map (·.2)) kvs) ∨ (kvs = [] ∧ Rd S a (.dT [])) := by
  by_cases hn : kvs = []
  · subst hn
    rcases h with h | ⟨es, h1, h2, h3⟩
    · exact .inl h
    · cases es with
      | nil => exact .inr ⟨rfl, h1⟩
      | cons _ _ => cases h2
  · exact .inl (plain_of hp hn h)
end
end PD
namespace PD
open PySem L2
/-! ### expressions and tests that may read what a slot owns -/
structure PDO (K : PySem.W.Frag) (mg : Str → Option Value) (X : Cx) (E : XK) (e : Expr) (t : TE) (f : DEnv → Res D) : Prop where
  pe : PE X e t
  sd : ∀ (S0 H0 S H : Hp) (σ : L2.St) (ρ : DEnv) (Q : VK), Rel K S0 H0 S H σ ρ → PostG mg E S H (DV K) (f ρ) Q → t σ H Q
structure TDO (K : PySem.W.Frag) (mg : Str → Option Value) (X : Cx) (E : XK) (e : Expr) (t : TT) (f : DEnv → Res Bool) : Prop where
  pe : PT X e t
  sd : ∀ (S0 H0 S H : Hp) (σ : L2.St) (ρ : DEnv) (Q : Bool → Hp → Prop), Rel K S0 H0 S H σ ρ → PostG mg E S H EqB (f ρ) Q → t σ H Q
def kAt {κ : Type} [DecidableEq κ] : List (κ × D) → κ → Option D
  | [], _ => none
  | (a, d) :: r, k => if a = k then some d else kAt r k
theorem kAt_val {K : PySem.W.Frag} {S : Hp} {κ : Type} [DecidableEq κ] (k : κ) : ∀ {kvs : List (κ × D)} {es : List (κ × V)}, es.map (·.1) = kvs.map (·.1) → DVs K S (es.map (·.2)) (kvs.map (·.2)) → (kAt kvs k = none ∧ valV es k = none) ∨ ∃ d v, kAt kvs k = some d ∧ valV es k = some v ∧ DV K S v d
  | [], [], _, _ => .inl ⟨rfl, rfl⟩
  | (a, d) :: r, (e, v) :: es, hk, hd => by
    have h1 : e = a := (List.cons.inj hk).1
    have h2 : es.map (·.1) = r.map (·.1) := (List.cons.inj hk).2
    subst h1
    by_cases he : e = k
    · refine .inr ⟨d, v, ?_, valV_pos he, hd.1⟩
      unfold kAt
      rw [if_pos he]
    · have e1 : kAt ((e, d) :: r) k = kAt r k := by
        conv => lhs; unfold kAt
        rw [if_neg he]
      have e2 : valV ((e, v) :: es) k = valV es k := by
        unfold valV
        rw [List.find?_cons]
        have : decide ((e, v).1 = k) = false := decide_eq_false he
        rw [this]
      rw [e1, e2]
      exact kAt_val k h2 hd.2
  | [], _ :: _, hk, _ => by cases hk
  | _ :: _, [], hk, _ => by cases hk
/-- stored: in its place, or at the end -/
def kPut {κ : Type} [DecidableEq κ] (kvs : List (κ × D)) (k : κ) (d : D) : List (κ × D) := if (kvs.any fun kv => decide (kv.1 = k)) = true then kvs.map (fun kv => if kv.1 = k then (kv.1, d) else kv) else kvs ++ [(k, d)]
theorem keys_any {α β κ : Type} [DecidableEq κ] {es : List (κ × α)} {kvs : List (κ × β)} (k : κ) (h : es.map (·.1) = kvs.map (·.1)) : (es.any fun kv => decide (kv.1 = k)) = kvs.any fun kv => decide (kv.1 = k) := by
  have e1 : (es.any fun kv => decide (kv.1 = k)) = (es.map (·.1)).any fun a => decide (a = k) := by rw [List.any_map]; rfl
  have e2 : (kvs.any fun kv => decide (kv.1 = k)) = (kvs.map (·.1)).any fun a => decide (a = k) := by rw [List.any_map]; rfl
  rw [e1, e2, h]
theorem put_in {K : PySem.W.Frag} {S : Hp} {κ : Type} [DecidableEq κ] (k : κ) {v : V} {d : D} (hv : DV K S v d) : ∀ {es : List (κ × V)} {kvs : List (κ × D)}, es.map (·.1) = kvs.map (·.1) → DVs K S (es.map (·.2)) (kvs.map (·.2)) →
    (es.map (fun kv => if kv.1 = k then (kv.1, v) else kv)).map (·.1) = (kvs.map (fun kv => if kv.1 = k then (kv.1, d) else kv)).map (·.1) ∧ DVs K S ((es.map (fun kv => if kv.1 = k then (kv.1, v) else kv)).map (·.2)) ((kvs.map (fun kv => if kv.1 = k then (kv.1, d) else kv)).map (·.2))
  | [], [], _, _ => ⟨rfl, trivial⟩
  | (e, u) :: es, (a, b) :: kvs, hk, hd => by
    have h1 : e = a := (List.cons.inj hk).1
    subst h1
    obtain ⟨i1, i2⟩ := put_in k hv (es := es) (kvs := kvs) (List.cons.inj hk).2 hd.2
    simp only [List.map_cons]
    by_cases he : e = k
    · simp only [he, if_true]
      exact ⟨by rw [i1], hv, i2⟩
    · simp only [he, if_false]
      exact ⟨by rw [i1], hd.1, i2⟩
  | [], _ :: _, hk, _ => by cases hk
  | _ :: _, [], hk, _ => by cases hk
theorem kPut_ok {K : PySem.W.Frag} {S : Hp} {κ : Type} [DecidableEq κ] (k : κ) {v : V} {d : D} (hv : DV K S v d) {es : List (κ × V)} {kvs : List (κ × D)} (h1 : es.map (·.1) = kvs.map (·.1)) (h2 : DVs K S (es.map (·.2)) (kvs.map (·.2))) :
    (putK es k v).map (·.1) = (kPut kvs k d).map (·.1) ∧ DVs K S ((putK es k v).map (·.2)) ((kPut kvs k d).map (·.2)) := by
  unfold putK kPut
  rw [keys_any k h1]
  split
  · exact put_in k hv h1 h2
  · rw [List.map_append, List.map_append, List.map_append, List.map_append, h1]
    exact ⟨rfl, h2.append ⟨hv, trivial⟩⟩
/-- keys that are tuples of ints -/
def kOf : D → Key
  | .int i => Sum.inl i
  | _ => Sum.inl 0
def toKeyT : D → Option (List Key)
  | .tuple ds => if keyT ds = true then some (ds.map kOf) else none
  | _ => none
theorem dvs_keys {K : PySem.W.Frag} {S : Hp} : ∀ {vs : List V} {ds : List D}, allInt ds = true → DVs K S vs ds → vs = (ds.map kOf).map kV
  | [], [], _, _ => rfl
  | v :: vs, d :: ds, ha, h => by
    unfold allInt at ha
    rw [List.all_cons, Bool.and_eq_true] at ha
    rw [List.map_cons, List.map_cons, dvs_keys (vs := vs) (ds := ds) ha.2 h.2]
    cases d with
    | int i =>
      have : v = V.int i := h.1
      rw [this]
      rfl
    | _ => cases ha.1
  | [], _ :: _, _, h => h.elim
  | _ :: _, [], _, h => h.elim
theorem toKeyT_dv {K : PySem.W.Frag} {S : Hp} {v : V} {d : D} {k : List Key} (h : DV K S v d) (e : toKeyT d = some k) : ∃ b, v = .ref b ∧ S b = some (.tup (k.map kV)) := by
  cases d with
  | tuple ds =>
    unfold toKeyT at e
    dsimp only at e
    split at e
    · rename_i hk
      cases e
      rw [DV] at h
      obtain ⟨a, us, rfl, h1, h2⟩ := h
      have ha : allInt ds = true := (and_split hk).1
      refine ⟨a, rfl, ?_⟩
      rw [← dvs_keys ha h2]
      exact h1.2 hk
    · cases e
  | _ => cases e
/-- a slot's dict, read at a key: by the kind of the keys -/
def ownAt (s : Slot) (kd : D) : Option (Option D) := match s with
  | .ownK kvs => (toKey kd).map fun k => kAt kvs k
  | .ownT kvs => (toKeyT kd).map fun k => kAt kvs k
  | _ => none
theorem ownAt_get {K : PySem.W.Frag} {S H : Hp} {p : Addr} {s : Slot} {kd : D} {y : V} {o : Option D} (sh : Same S H) (hs : OwnOk K S H p s) (hy : DV K S y kd) (e : ownAt s kd = some o) : ∃ ov : Option V, DGet H p y ov ∧ ((o = none ∧ ov = none) ∨ ∃ d v, o = some d ∧ ov = some v ∧ DV K S v d) := by
  cases s with
  | ownK kvs =>
    obtain ⟨es, h1, h2, h3⟩ := hs
    unfold ownAt at e
    dsimp only at e
    cases ek : toKey kd with
    | none => rw [ek] at e; cases e
    | some k =>
      rw [ek] at e
      cases e
      refine ⟨valV es k, .inl ⟨es, k, .inl h1, toKey_dv hy ek, rfl⟩, kAt_val k h2 h3⟩
  | ownT kvs =>
    obtain ⟨es, h1, h2, h3⟩ := hs
    unfold ownAt at e
    dsimp only at e
    cases ek : toKeyT kd with
    | none => rw [ek] at e; cases e
    | some k =>
      rw [ek] at e
      cases e
      obtain ⟨b, rfl, hb⟩ := toKeyT_dv hy ek
      refine ⟨valV es k, .inr ⟨es, k, b, .inl h1, rfl, sh _ _ hb, rfl⟩, kAt_val k h2 h3⟩
  | _ => cases e
theorem ownOk_isD {K : PySem.W.Frag} {S H : Hp} {p : Addr} {s : Slot} {kd : D} {o : Option D} (hs : OwnOk K S H p s) (e : ownAt s kd = some o) : IsD H p := by
  cases s with
  | ownK kvs => obtain ⟨es, h1, _⟩ := hs; exact .inl ⟨es, .inl h1⟩
  | ownT kvs => obtain ⟨es, h1, _⟩ := hs; exact .inr ⟨es, .inl h1⟩
  | _ => cases e
theorem own_of {s : Slot} {kd : D} {o : Option D} (e : ownAt s kd = some o) : isOwn s = true := by
  cases s with
  | ownK kvs => rfl
  | ownT kvs => rfl
  | _ => cases e
section
variable {K : PySem.W.Frag} {mg : Str → Option Value} {X : Cx} {E : XK} {a b e o : Expr} {ta tb te ty tx : TE} {fa fb f fk fx : DEnv → Res D} {pos : Pos}
theorem pdo_of (h : PD K mg X E e te f) : PDO K mg X E e te f := ⟨h.pe, fun S0 H0 S H σ ρ Q r q => h.sd S H σ ρ Q r.relE q⟩
theorem pdo_op {op : Operator} {r : R2} {g : D → D → Res D} (ho : OpR X (binaryOp op) r) (hs : OpS K mg E r g) (ha : PDO K mg X E a ta fa) (hb : PDO K mg X E b tb fb) : PDO K mg X E (.BinOp a op b pos) (tOp r ta tb) (fBin g fa fb) :=
  ⟨pe_op ho ha.pe hb.pe, fun S0 H0 S H σ ρ Q rl h => by
    refine ha.sd S0 H0 S H σ ρ _ rl (h.bind fun x v S1 H1 x1 d1 h1 => ?_)
    refine hb.sd S0 H0 S1 H1 σ ρ _ (rl.ext x1) (h1.bind fun y u S2 H2 x2 d2 h2 => ?_)
    exact hs S2 H2 v u x y Q x2.sh (d1.mono x2.s) d2 h2⟩
theorem use_pdo (he : PDO K mg X E e te f) : Use K mg E te f := fun S0 H0 S H σ ρ N k Q r h hk =>
  he.sd S0 H0 S H σ ρ _ r (post_of r h fun a w S' H' _ x q h => hk a w S' H' (r.ext x) x.s x.h q h)
/-- a slot that owns a dict -/
def isDk : Slot → Bool
  | .ownK _ => true
  | .ownT _ => true
  | _ => false
theorem isDk_own {s : Slot} (h : isDk s = true) : isOwn s = true := by cases s <;> first | rfl | cases h
theorem isDk_isD {S H : Hp} {p : Addr} {s : Slot} (h : isDk s = true) (hs : OwnOk K S H p s) : IsD H p := by
  cases s with
  | ownK kvs => obtain ⟨es, h1, _⟩ := hs; exact .inl ⟨es, .inl h1⟩
  | ownT kvs => obtain ⟨es, h1, _⟩ := hs; exact .inr ⟨es, .inl h1⟩
  | _ => cases h
def onDk {α : Type} (i : Nat) (k : Slot → DEnv → Res α) : DEnv → Res α := fun ρ => match ρ[i]? with
  | some s => if isDk s = true then k s ρ else .bad
  | none => .bad
theorem onDk_of {α W : Type} {i : Nat} {k : Slot → DEnv → Res α} {S0 H0 S H : Hp} {σ : L2.St} {ρ : DEnv} {R : Hp → W → α → Prop} {Q : W → Hp → Prop} (rl : Rel K S0 H0 S H σ ρ) (h : PostG mg E S H R (onDk i k ρ) Q) : ∃ s q, ρ[i]? = some s ∧ isDk s = true ∧ σ[i]? = some (some (.ref q)) ∧ S q = none ∧ H0 q = none ∧ OwnOk K S H q s ∧ PostG mg E S H R (k s ρ) Q := by
  unfold onDk at h
  cases es : ρ[i]? with
  | none => rw [es] at h; exact h.elim
  | some s =>
    rw [es] at h
    dsimp only at h
    split at h
    · rename_i hd
      obtain ⟨q, g1, g2, g3, g4⟩ := rl.own i s es (isDk_own hd)
      exact ⟨s, q, rfl, hd, g1, g2, g3, g4, h⟩
    · exact h.elim
/-- x[k], x owned -/
def fOget (i : Nat) (fk : DEnv → Res D) : DEnv → Res D := onDk i fun s ρ => (fk ρ).bind fun kd => match ownAt s kd with
    | some (some d) => .ok d
    | _ => .bad
theorem pdo_get {i : Nat} {x : Str} {p : Pos} (hu : X.A.units + 65 < cLine) (hv : PE X (.Name x p) (tVar i)) (hk : PD K mg X E e ty fk) (hs : NoSl e := by exact fun _ _ => rfl) : PDO K mg X E (.Subscript (.Name x p) e pos) (tDGet (tVar i) ty) (fOget i fk) :=
  ⟨pe_dget (hu1 hu) hv hk.pe hs, fun S0 H0 S H σ ρ Q rl h => by
    obtain ⟨s, q, es, hd, g1, g2, g3, g4, h⟩ := onDk_of rl h
    refine ⟨_, g1, hk.sd S H σ ρ _ rl.relE (h.bind fun kd y S1 H1 x1 d1 h1 => ?_)⟩
    cases ea : ownAt s kd with
    | none => rw [ea] at h1; exact h1.elim
    | some od =>
      rw [ea] at h1
      cases od with
      | none => exact h1.elim
      | some d =>
        obtain ⟨ov, k1, k2⟩ := ownAt_get x1.sh (g4.mono x1.s fun _ z => x1.h _ _ z) d1 ea
        rcases k2 with ⟨z, _⟩ | ⟨d', v, z1, z2, z3⟩
        · cases z
        · cases z1
          subst z2
          exact ⟨q, v, rfl, k1, h1.ok0 x1.sh z3⟩⟩
/-- x.get(k, d), x owned -/
def fOget2 (i : Nat) (fk fx : DEnv → Res D) : DEnv → Res D := onDk i fun s ρ => (fk ρ).bind fun kd => (fx ρ).bind fun x => match ownAt s kd with
    | some o => .ok (o.getD x)
    | _ => .bad
theorem pdo_get2 {i : Nat} {x : Str} {p apos : Pos} (hu : X.A.units + 65 < cLine) (hv : PE X (.Name x p) (tVar i)) (hk : PD K mg X E a ty fk) (hx : PD K mg X E b tx fx)
    (h1 : attributeBase (.Name x p) "get" X.env (eval (.Name x p) X.env) = eval (.Name x p) X.env := by rfl)
    (h2 : ((backTo pos (starEach [a, b] X.env)).all (fun x => !x.1) && (backToKw pos (keywordEach [] X.env)).all (fun x => x.1.isSome) && decide (([a, b] : List Expr).length + ([] : List Keyword).length + (if ([] : List Keyword).isEmpty then 0 else 1) < 30)) = true := by rfl)
    (h3 : (apos.endLine == pos.line) = true := by rfl) (h4 : backTo pos (starEach [a, b] X.env) = [(false, eval a X.env), (false, eval b X.env)] := by rfl) :
    PDO K mg X E (.Call (.Attribute (.Name x p) "get" apos) [a, b] [] pos) (tDGet2 (tVar i) ty tx) (fOget2 i fk fx) :=
  ⟨pe_dget2 (hu1 hu) hv hk.pe hx.pe ⟨h1, h2, h3, h4⟩, fun S0 H0 S H σ ρ Q rl h => by
    obtain ⟨s, q, es, hd, g1, g2, g3, g4, h⟩ := onDk_of rl h
    refine ⟨_, g1, q, rfl, isDk_isD hd g4, hk.sd S H σ ρ _ rl.relE (h.bind fun kd y S1 H1 x1 d1 h1 => ?_)⟩
    refine hx.sd S1 H1 σ ρ _ (rl.relE.mono x1) (h1.bind fun dx z S2 H2 x2 d2 h2 => ?_)
    cases ea : ownAt s kd with
    | none => rw [ea] at h2; exact h2.elim
    | some o =>
      rw [ea] at h2
      obtain ⟨ov, k1, k2⟩ := ownAt_get x2.sh (g4.mono (x1.s.trans x2.s) fun _ z => x2.h _ _ (x1.h _ _ z)) (d1.mono x2.s) ea
      rcases k2 with ⟨z1, z2⟩ | ⟨d', v, z1, z2, z3⟩
      · subst z1 z2
        exact ⟨none, k1, h2.ok0 x2.sh d2⟩
      · subst z1 z2
        exact ⟨some v, k1, h2.ok0 x2.sh z3⟩⟩
/-- k in x, k not in x, x owned -/
def gOin (neg : Bool) (i : Nat) (fk : DEnv → Res D) : DEnv → Res Bool := fun ρ => (fk ρ).bind fun kd => onDk i (fun s _ => match ownAt s kd with
    | some o => .ok (if neg then !o.isSome else o.isSome)
    | _ => .bad) ρ
theorem oin_sd (neg : Bool) {i : Nat} (hk : PD K mg X E e ty fk) (S0 H0 S H : Hp) (σ : L2.St) (ρ : DEnv) (Q : Bool → Hp → Prop) (rl : Rel K S0 H0 S H σ ρ) (h : PostG mg E S H EqB (gOin neg i fk ρ) Q) :
    ty σ H fun y H1 => tVar i σ H1 fun x H2 => ∃ a o, x = .ref a ∧ DGet H2 a y o ∧ ∃ c, V.bl (if neg then !o.isSome else o.isSome) = .bl c ∧ Q c H2 := by
  refine hk.sd S H σ ρ _ rl.relE (h.bind fun kd y S1 H1 x1 d1 h1 => ?_)
  obtain ⟨s, q, es, hd, g1, g2, g3, g4, h1⟩ := onDk_of (rl.ext x1) h1
  cases ea : ownAt s kd with
  | none => rw [ea] at h1; exact h1.elim
  | some o =>
    rw [ea] at h1
    obtain ⟨ov, k1, k2⟩ := ownAt_get x1.sh g4 d1 ea
    refine ⟨_, g1, q, ov, rfl, k1, ?_⟩
    have e : ov.isSome = o.isSome := by
      rcases k2 with ⟨z1, z2⟩ | ⟨d', v, z1, z2, z3⟩
      · rw [z1, z2]; rfl
      · rw [z1, z2]; rfl
    rw [e]
    exact ⟨_, rfl, h1.ok0 x1.sh rfl⟩
theorem tdo_in {i : Nat} {x : Str} {p : Pos} (hu : X.A.units + 65 < cLine) (hv : PE X (.Name x p) (tVar i)) (hk : PD K mg X E e ty fk) (hm : behindInMarks .In (.Name x p) = false := by rfl) : TDO K mg X E (.Compare e [.In] [.Name x p] pos) (tB (tDIn ty (tVar i))) (gOin false i fk) :=
  ⟨pt_cmp (pc_din (hu1 hu) hk.pe hv) hm, fun S0 H0 S H σ ρ Q rl h => oin_sd false hk S0 H0 S H σ ρ Q rl h⟩
theorem tdo_notin {i : Nat} {x : Str} {p : Pos} (hu : X.A.units + 65 < cLine) (hv : PE X (.Name x p) (tVar i)) (hk : PD K mg X E e ty fk) (hm : behindInMarks .NotIn (.Name x p) = false := by rfl) : TDO K mg X E (.Compare e [.NotIn] [.Name x p] pos) (tB (tDNotIn ty (tVar i))) (gOin true i fk) :=
  ⟨pt_cmp (pc_dnotin (hu1 hu) hk.pe hv) hm, fun S0 H0 S H σ ρ Q rl h => oin_sd true hk S0 H0 S H σ ρ Q rl h⟩
theorem tdo_of {t : TT} {g : DEnv → Res Bool} (h : TD K mg X E e t g) : TDO K mg X E e t g := ⟨h.pe, fun S0 H0 S H σ ρ Q rl q => h.sd S H σ ρ Q rl.relE q⟩
/-- a and b, of two -/
theorem tdo_and {tA tB' : TT} {gA gB : DEnv → Res Bool} (ha : TDO K mg X E a tA gA) (hb : TDO K mg X E b tB' gB) : TDO K mg X E (.BoolOp .And [a, b] pos) (tAnd tA tB') (fAnd gA gB) :=
  ⟨(pw_and ha.pe (pw_and1 hb.pe)).pt, fun S0 H0 S H σ ρ Q rl h => ha.sd S0 H0 S H σ ρ _ rl (h.bind fun k w S1 H1 x1 e h1 => by
    cases e
    cases k with
    | true => exact hb.sd S0 H0 S1 H1 σ ρ Q (rl.ext x1) h1
    | false => exact h1.ok0 x1.sh rfl)⟩
def sIfO (g : DEnv → Res Bool) (F G : DEnv → SR) : DEnv → SR := fun ρ => ofRes (g ρ) fun b => if b = true then F ρ else G ρ
theorem sd_ifO {c : Expr} {as bs : List Stmt} {tc : TT} {t u : TS} {F G : DEnv → SR} {g : DEnv → Res Bool} (hc : TDO K mg X E c tc g) (ha : SDs K mg X E as t F) (hb : SDs K mg X E bs u G) : SD K mg X E (.If c as bs pos) (tIfS tc t u) (sIfO g F G) := ⟨ps_if hc.pe ha.ps hb.ps, fun S0 H0 S H σ ρ N r h =>
  hc.sd S0 H0 S H σ ρ _ r (post_of r h fun k w S' H' _ x q h => by
    cases q
    have r' := r.ext x
    cases k with
    | true => exact ha.sd S0 H0 S' H' σ ρ N r' (SPost.mono h x.s)
    | false => exact hb.sd S0 H0 S' H' σ ρ N r' (SPost.mono h x.s))⟩
/-- x = {} -/
def sOwnD (tk : Bool) (i : Nat) : DEnv → SR := fun ρ => .next (ρ.set i (if tk = true then .ownT [] else .ownK []))
theorem sd_ownK {i : Nat} {x : Str} {pos' p2 : Pos} (hN : X.N.Nodup) (hi : X.N[i]? = some x) (hx : Loc X.env.scope x := by first | exact Or.inl rfl | exact Or.inr rfl) (hs : swapsWith (.Dict [] [] p2) (some (.Name x pos')) pos.line X.env = pure false := by rfl) (hf : X.fn x = true ∨ X.env.scope.names.lookup x = some .local := by first | exact .inl rfl | exact .inr rfl | assumption) :
    SD K mg X E (.Assign [.Name x pos'] (.Dict [] [] p2) pos) (tAsg tDNewK (gName i)) (sOwnD false i) := ⟨ps_set hN hi hx pe_dnewK hs hf, fun S0 H0 S H σ ρ N r h p hp => by
  have sm : Same H (upd H p (.dK [])) := same_upd hp
  refine h S _ _ (Same.refl _) ((r.grow sm).setOwn (s := .ownK []) rfl (r.x.sh.free hp) (r.x.h.free hp) ⟨[], upd_same, rfl, trivial⟩ fun k s' e1 e2 e3 => ?_)
  obtain ⟨q, g1, _, _, g4⟩ := r.own k s' e1 e2
  obtain ⟨u, hu⟩ := g4.some
  rw [e3] at g1
  cases g1
  rw [hp] at hu
  cases hu⟩
theorem sd_ownT {i : Nat} {x : Str} {pos' p2 : Pos} (hN : X.N.Nodup) (hi : X.N[i]? = some x) (hx : Loc X.env.scope x := by first | exact Or.inl rfl | exact Or.inr rfl) (hs : swapsWith (.Dict [] [] p2) (some (.Name x pos')) pos.line X.env = pure false := by rfl) (hf : X.fn x = true ∨ X.env.scope.names.lookup x = some .local := by first | exact .inl rfl | exact .inr rfl | assumption) :
    SD K mg X E (.Assign [.Name x pos'] (.Dict [] [] p2) pos) (tAsg tDNewT (gName i)) (sOwnD true i) := ⟨ps_set hN hi hx pe_dnewT hs hf, fun S0 H0 S H σ ρ N r h p hp => by
  have sm : Same H (upd H p (.dT [])) := same_upd hp
  refine h S _ _ (Same.refl _) ((r.grow sm).setOwn (s := .ownT []) rfl (r.x.sh.free hp) (r.x.h.free hp) ⟨[], upd_same, rfl, trivial⟩ fun k s' e1 e2 e3 => ?_)
  obtain ⟨q, g1, _, _, g4⟩ := r.own k s' e1 e2
  obtain ⟨u, hu⟩ := g4.some
  rw [e3] at g1
  cases g1
  rw [hp] at hu
  cases hu⟩
/-- x[k] = e, x owned -/
def slotPut (s : Slot) (kd d : D) : Option Slot := match s with
  | .ownK kvs => if lenOk (kvs.length + 1) = true then (toKey kd).map fun k => .ownK (kPut kvs k d) else none
  | .ownT kvs => if lenOk (kvs.length + 1) = true then (toKeyT kd).map fun k => .ownT (kPut kvs k d) else none
  | _ => none
theorem slotPut_ok {S H : Hp} {p : Addr} {s s' : Slot} {kd d : D} {y v : V} (sh : Same S H) (hs : OwnOk K S H p s) (hy : DV K S y kd) (hv : DV K S v d) (e : slotPut s kd d = some s') : ∃ o, DPut H p y v (upd H p o) ∧ OwnOk K S (upd H p o) p s' ∧ isOwn s' = true := by
  cases s with
  | ownK kvs =>
    obtain ⟨es, h1, h2, h3⟩ := hs
    unfold slotPut at e
    dsimp only at e
    split at e
    · rename_i hz
      cases ek : toKey kd with
      | none => rw [ek] at e; cases e
      | some k =>
        rw [ek] at e
        cases e
        obtain ⟨q1, q2⟩ := kPut_ok k hv h2 h3
        refine ⟨.dK (putK es k v), .inl ⟨es, k, h1, toKey_dv hy ek, ?_, rfl⟩, ⟨_, upd_same, q1, q2⟩, rfl⟩
        have : es.length = kvs.length := by
          have := congrArg List.length h2
          rw [List.length_map, List.length_map] at this
          exact this
        rw [this]
        exact Nat.lt_of_lt_of_le (Nat.lt_succ_self _) (lenOk.le hz)
    · cases e
  | ownT kvs =>
    obtain ⟨es, h1, h2, h3⟩ := hs
    unfold slotPut at e
    dsimp only at e
    split at e
    · rename_i hz
      cases ek : toKeyT kd with
      | none => rw [ek] at e; cases e
      | some k =>
        rw [ek] at e
        cases e
        obtain ⟨q1, q2⟩ := kPut_ok k hv h2 h3
        obtain ⟨b, rfl, hb⟩ := toKeyT_dv hy ek
        refine ⟨.dT (putK es k v), .inr ⟨es, k, b, h1, rfl, sh _ _ hb, ?_, rfl⟩, ⟨_, upd_same, q1, q2⟩, rfl⟩
        have : es.length = kvs.length := by
          have := congrArg List.length h2
          rw [List.length_map, List.length_map] at this
          exact this
        rw [this]
        exact Nat.lt_of_lt_of_le (Nat.lt_succ_self _) (lenOk.le hz)
    · cases e
  | _ => cases e
def sDput (i : Nat) (fv fk : DEnv → Res D) : DEnv → SR := fun ρ => match ρ[i]? with
  | some s => if isDk s = true then ofRes (fv ρ) fun d => ofRes (fk ρ) fun kd => (match slotPut s kd d with
    | some s' => .next (ρ.set i s')
    | none => .bad) else .bad
  | none => .bad
theorem sd_dput {i : Nat} {x : Str} {p pos' : Pos} {k value : Expr} {tv : TE} {fv : DEnv → Res D} (hu : X.A.units + 65 < cLine) (hv : PE X (.Name x p) (tVar i)) (hk : PD K mg X E k ty fk) (he : PDO K mg X E value tv fv)
    (hs : swapsWith value (some (.Subscript (.Name x p) k pos')) pos.line X.env = pure false := by rfl) : SD K mg X E (.Assign [.Subscript (.Name x p) k pos'] value pos) (sDPut (tVar i) ty tv) (sDput i fv fk) := ⟨ps_dput (hu1 hu) hv hk.pe he.pe hs, fun S0 H0 S H σ ρ N r h => by
  unfold sDput at h
  cases es : ρ[i]? with
  | none => rw [es] at h; exact h.elim
  | some s =>
    rw [es] at h
    dsimp only at h
    split at h
    · rename_i hd
      obtain ⟨q, g1, g2, g3, g4⟩ := r.own i s es (isDk_own hd)
      refine use_pdo he S0 H0 S H σ ρ N _ _ r h fun d v S1 H1 r1 e1 e2 d1 h1 => ?_
      refine ⟨_, g1, hk.sd S1 H1 σ ρ _ r1.relE ?_⟩
      refine post_of r1 (SPost.mono h1 e1) fun kd y S2 H2 _ x2 d2 h2 => ?_
      cases ep : slotPut s kd d with
      | none => rw [ep] at h2; exact h2.elim
      | some s' =>
        rw [ep] at h2
        have r2 := r1.ext x2
        obtain ⟨q', k1, k2, k3, k4⟩ := r2.own i s es (isDk_own hd)
        rw [g1] at k1
        cases k1
        obtain ⟨o, w1, w2, w3⟩ := slotPut_ok x2.sh k4 d2 (d1.mono x2.s) ep
        exact ⟨q, _, rfl, w1, h2 S2 _ σ x2.s (r2.mut es (isDk_own hd) w3 g1 w2)⟩
    · exact h.elim⟩
end
end PD
namespace PD
open PySem L2
/-! ### shared dicts, of either kind of keys -/
def tupK : List (D × D) → Bool
  | [] => true
  | (a, _) :: r => (toKeyT a).isSome && tupK r
def dAtT : List (D × D) → List Key → Option D
  | [], _ => none
  | (a, d) :: r, k => if toKeyT a = some k then some d else dAtT r k
def dLook (kvs : List (D × D)) (kd : D) : Option (Option D) := if kvs.isEmpty = true then none else if plainK kvs = true then (toKey kd).map (dAt kvs) else if tupK kvs = true then (toKeyT kd).map (dAtT kvs) else none
theorem kOf_kD : ∀ {k : List Key}, allInt (k.map kD) = true → (k.map kD).map kOf = k
  | [], _ => rfl
  | x :: k, h => by
    unfold allInt at h
    rw [List.map_cons, List.all_cons, Bool.and_eq_true] at h
    rw [List.map_cons, List.map_cons, kOf_kD (k := k) h.2]
    cases x with
    | inl i => rfl
    | inr z => cases h.1
theorem toKeyT_tup {k : List Key} {k' : List Key} (h : toKeyT (.tuple (k.map kD)) = some k') : k = k' := by
  unfold toKeyT at h
  dsimp only at h
  split at h
  · rename_i hk
    cases h
    exact (kOf_kD (and_split hk).1).symm
  · cases h
theorem dAtT_val {K : PySem.W.Frag} {S : Hp} (k : List Key) : ∀ {kvs : List (D × D)} {es : List (List Key × V)}, tupK kvs = true → kvs.map (·.1) = es.map (fun e => PyData.tuple (e.1.map kD)) → DVp K S (es.map (·.2)) kvs → (dAtT kvs k = none ∧ valV es k = none) ∨ ∃ d v, dAtT kvs k = some d ∧ valV es k = some v ∧ DV K S v d
  | [], [], _, _, _ => .inl ⟨rfl, rfl⟩
  | (a, d) :: r, (e, v) :: es, ht, hk, hd => by
    have h1 : a = PyData.tuple (e.map kD) := (List.cons.inj hk).1
    have h2 : r.map (·.1) = es.map (fun e => PyData.tuple (e.1.map kD)) := (List.cons.inj hk).2
    rw [List.map_cons, DVp] at hd
    unfold tupK at ht
    rw [Bool.and_eq_true] at ht
    obtain ⟨k0, ek0⟩ := Option.isSome_iff_exists.mp ht.1
    have e0 : e = k0 := toKeyT_tup (by rw [← h1]; exact ek0)
    subst e0
    by_cases he : e = k
    · refine .inr ⟨d, v, ?_, valV_pos he, hd.1⟩
      unfold dAtT
      rw [ek0, he, if_pos rfl]
    · have e1 : dAtT ((a, d) :: r) k = dAtT r k := by
        conv => lhs; unfold dAtT
        rw [ek0, if_neg (fun z => he (Option.some.inj z))]
      have e2 : valV ((e, v) :: es) k = valV es k := by
        unfold valV
        rw [List.find?_cons]
        have : decide ((e, v).1 = k) = false := decide_eq_false he
        rw [this]
      rw [e1, e2]
      exact dAtT_val k ht.2 h2 hd.2
  | [], _ :: _, _, hk, _ => by cases hk
  | _ :: _, [], _, hk, _ => by cases hk
theorem tup_of {K : PySem.W.Frag} {S : Hp} {a : Addr} {kvs : List (D × D)} (hp : tupK kvs = true) (hn : kvs ≠ []) (h : (∃ es : List (Key × V), Rd S a (.dK es) ∧ kvs.map (·.1) = es.map (fun e => kD e.1) ∧ DVp K S (es.map (·.2)) kvs) ∨
      (∃ es : List (List Key × V), Rd S a (.dT es) ∧ kvs.map (·.1) = es.map (fun e => PyData.tuple (e.1.map kD)) ∧ DVp K S (es.map (·.2)) kvs)) : ∃ es : List (List Key × V), Rd S a (.dT es) ∧ kvs.map (·.1) = es.map (fun e => PyData.tuple (e.1.map kD)) ∧ DVp K S (es.map (·.2)) kvs := by
  rcases h with ⟨es, h1, h2, h3⟩ | h
  · cases kvs with
    | nil => exact absurd rfl hn
    | cons kv r =>
      obtain ⟨x, d⟩ := kv
      cases es with
      | nil => cases h2
      | cons e es =>
        obtain ⟨k, w⟩ := e
        have h4 : x = kD k := (List.cons.inj h2).1
        subst h4
        unfold tupK at hp
        cases k <;> cases hp
  · exact h
theorem look_get {K : PySem.W.Frag} {S H : Hp} {v y : V} {kvs : List (D × D)} {kd : D} {o : Option D} (sh : Same S H) (hd : DV K S v (.dict kvs)) (hy : DV K S y kd) (e : dLook kvs kd = some o) : ∃ a ov, v = .ref a ∧ IsD H a ∧ DGet H a y ov ∧ ((o = none ∧ ov = none) ∨ ∃ d w, o = some d ∧ ov = some w ∧ DV K S w d) := by
  unfold dLook at e
  split at e
  · cases e
  · rename_i hn
    have hn : kvs ≠ [] := fun z => hn (by rw [z]; rfl)
    obtain ⟨a, rfl, q⟩ := dv_dict hd
    split at e
    · rename_i hp
      obtain ⟨es, g1, g2, g3⟩ := plain_of hp hn q
      cases ek : toKey kd with
      | none => rw [ek] at e; cases e
      | some k =>
        rw [ek] at e
        cases e
        exact ⟨a, valV es k, rfl, .inl ⟨es, rd_same sh g1⟩, .inl ⟨es, k, rd_same sh g1, toKey_dv hy ek, rfl⟩, dAt_val k g2 g3⟩
    · split at e
      · rename_i hp
        obtain ⟨es, g1, g2, g3⟩ := tup_of hp hn q
        cases ek : toKeyT kd with
        | none => rw [ek] at e; cases e
        | some k =>
          rw [ek] at e
          cases e
          obtain ⟨b, rfl, hb⟩ := toKeyT_dv hy ek
          exact ⟨a, valV es k, rfl, .inr ⟨es, rd_same sh g1⟩, .inr ⟨es, k, b, rd_same sh g1, rfl, sh _ _ hb, rfl⟩, dAtT_val k hp g2 g3⟩
      · cases e
theorem look_isD {K : PySem.W.Frag} {S H : Hp} {v : V} {kvs : List (D × D)} (sh : Same S H) (hd : DV K S v (.dict kvs)) : ∃ a, v = .ref a ∧ IsD H a := by
  obtain ⟨a, rfl, q⟩ := dv_dict hd
  rcases q with ⟨es, g1, _⟩ | ⟨es, g1, _⟩
  · exact ⟨a, rfl, .inl ⟨es, rd_same sh g1⟩⟩
  · exact ⟨a, rfl, .inr ⟨es, rd_same sh g1⟩⟩
section
variable {K : PySem.W.Frag} {mg : Str → Option Value} {X : Cx} {E : XK} {o i a b : Expr} {td ty tx : TE} {fd fk fx : DEnv → Res D} {pos apos : Pos}
def asD : D → Res (List (D × D))
  | .dict kvs => .ok kvs
  | _ => .bad
/-! d[k] -/
def gSix (d kd : D) : Res D := (asD d).bind fun kvs => match dLook kvs kd with
  | some (some x) => .ok x
  | _ => .bad
theorem pd_sget (hu : X.A.units + 65 < cLine) (hd : PD K mg X E o td fd) (hk : PD K mg X E i ty fk) (hs : NoSl i := by exact fun _ _ => rfl) : PD K mg X E (.Subscript o i pos) (tDGet td ty) (fBin gSix fd fk) := ⟨pe_dget (hu1 hu) hd.pe hk.pe hs, fun S H σ ρ Q rl h => by
  refine hd.sd S H σ ρ _ rl (h.bind fun d v S1 H1 x1 d1 h1 => ?_)
  refine hk.sd S1 H1 σ ρ _ (rl.mono x1) (h1.bind fun kd y S2 H2 x2 d2 h2 => ?_)
  unfold gSix at h2
  cases d with
  | dict kvs =>
    have h2 : PostG mg E S2 H2 (DV K) (match dLook kvs kd with
      | some (some x) => .ok x
      | _ => .bad) Q := h2
    cases el : dLook kvs kd with
    | none => rw [el] at h2; exact h2.elim
    | some od =>
      rw [el] at h2
      cases od with
      | none => exact h2.elim
      | some dd =>
        obtain ⟨a, ov, rfl, _, k1, k2⟩ := look_get x2.sh (d1.mono x2.s) d2 el
        rcases k2 with ⟨z, _⟩ | ⟨d', w, z1, z2, z3⟩
        · cases z
        · cases z1
          subst z2
          exact ⟨a, w, rfl, k1, h2.ok0 x2.sh z3⟩
  | _ => exact h2.elim⟩
/-! k in d, k not in d -/
def gSin (neg : Bool) (kd d : D) : Res D := (asD d).bind fun kvs => match dLook kvs kd with
  | some o => .ok (.bool (if neg then !o.isSome else o.isSome))
  | _ => .bad
theorem sin_sd (neg : Bool) (hk : PD K mg X E i ty fk) (hd : PD K mg X E o td fd) (S H : Hp) (σ : L2.St) (ρ : DEnv) (Q : VK) (rl : RelE K S H σ ρ) (h : PostG mg E S H (DV K) (fBin (gSin neg) fk fd ρ) Q) :
    ty σ H fun y H1 => td σ H1 fun x H2 => ∃ a o, x = .ref a ∧ DGet H2 a y o ∧ Q (.bl (if neg then !o.isSome else o.isSome)) H2 := by
  refine hk.sd S H σ ρ _ rl (h.bind fun kd y S1 H1 x1 d1 h1 => ?_)
  refine hd.sd S1 H1 σ ρ _ (rl.mono x1) (h1.bind fun d v S2 H2 x2 d2 h2 => ?_)
  unfold gSin at h2
  cases d with
  | dict kvs =>
    have h2 : PostG mg E S2 H2 (DV K) (match dLook kvs kd with
      | some o => .ok (.bool (if neg then !o.isSome else o.isSome))
      | _ => .bad) Q := h2
    cases el : dLook kvs kd with
    | none => rw [el] at h2; exact h2.elim
    | some od =>
      rw [el] at h2
      obtain ⟨a, ov, rfl, _, k1, k2⟩ := look_get x2.sh d2 (d1.mono x2.s) el
      refine ⟨a, ov, rfl, k1, ?_⟩
      have e : ov.isSome = od.isSome := by
        rcases k2 with ⟨z1, z2⟩ | ⟨d', w, z1, z2, z3⟩
        · rw [z1, z2]; rfl
        · rw [z1, z2]; rfl
      rw [e]
      exact h2.ok0 x2.sh rfl
  | _ => exact h2.elim
theorem pd_sin (hu : X.A.units + 65 < cLine) (hk : PD K mg X E i ty fk) (hd : PD K mg X E o td fd) (hm : behindInMarks .In o = false := by rfl) : PD K mg X E (.Compare i [.In] [o] pos) (tDIn ty td) (fBin (gSin false) fk fd) := ⟨pe_cmp (pc_din (hu1 hu) hk.pe hd.pe) hm, sin_sd false hk hd⟩
theorem pd_snotin (hu : X.A.units + 65 < cLine) (hk : PD K mg X E i ty fk) (hd : PD K mg X E o td fd) (hm : behindInMarks .NotIn o = false := by rfl) : PD K mg X E (.Compare i [.NotIn] [o] pos) (tDNotIn ty td) (fBin (gSin true) fk fd) := ⟨pe_cmp (pc_dnotin (hu1 hu) hk.pe hd.pe) hm, sin_sd true hk hd⟩
theorem td_sin (hu : X.A.units + 65 < cLine) (hk : PD K mg X E i ty fk) (hd : PD K mg X E o td fd) (hm : behindInMarks .In o = false := by rfl) : TD K mg X E (.Compare i [.In] [o] pos) (tB (tDIn ty td)) (fTest (fBin (gSin false) fk fd)) := ⟨pt_cmp (pc_din (hu1 hu) hk.pe hd.pe) hm, fun S H σ ρ Q rl h => test_sd (pd_sin (pos := pos) hu hk hd hm) S H σ ρ Q rl h⟩
theorem td_snotin (hu : X.A.units + 65 < cLine) (hk : PD K mg X E i ty fk) (hd : PD K mg X E o td fd) (hm : behindInMarks .NotIn o = false := by rfl) : TD K mg X E (.Compare i [.NotIn] [o] pos) (tB (tDNotIn ty td)) (fTest (fBin (gSin true) fk fd)) := ⟨pt_cmp (pc_dnotin (hu1 hu) hk.pe hd.pe) hm, fun S H σ ρ Q rl h => test_sd (pd_snotin (pos := pos) hu hk hd hm) S H σ ρ Q rl h⟩
/-! d.get(k), d.get(k, x) -/
def fSget2 (fd fk fx : DEnv → Res D) : DEnv → Res D := fun ρ => (fd ρ).bind fun d => (asD d).bind fun kvs => (fk ρ).bind fun kd => (fx ρ).bind fun x => match dLook kvs kd with
  | some o => .ok (o.getD x)
  | _ => .bad
def fSget1 (fd fk : DEnv → Res D) : DEnv → Res D := fun ρ => (fd ρ).bind fun d => (asD d).bind fun kvs => (fk ρ).bind fun kd => match dLook kvs kd with
  | some o => .ok (o.getD .none)
  | _ => .bad
theorem pd_sget2 (hu : X.A.units + 65 < cLine) (hd : PD K mg X E o td fd) (hk : PD K mg X E a ty fk) (hx : PD K mg X E b tx fx)
    (h1 : attributeBase o "get" X.env (eval o X.env) = eval o X.env := by rfl)
    (h2 : ((backTo pos (starEach [a, b] X.env)).all (fun x => !x.1) && (backToKw pos (keywordEach [] X.env)).all (fun x => x.1.isSome) && decide (([a, b] : List Expr).length + ([] : List Keyword).length + (if ([] : List Keyword).isEmpty then 0 else 1) < 30)) = true := by rfl)
    (h3 : (apos.endLine == pos.line) = true := by rfl) (h4 : backTo pos (starEach [a, b] X.env) = [(false, eval a X.env), (false, eval b X.env)] := by rfl) :
    PD K mg X E (.Call (.Attribute o "get" apos) [a, b] [] pos) (tDGet2 td ty tx) (fSget2 fd fk fx) :=
  ⟨pe_dget2 (hu1 hu) hd.pe hk.pe hx.pe ⟨h1, h2, h3, h4⟩, fun S H σ ρ Q rl h => by
    refine hd.sd S H σ ρ _ rl (h.bind fun d v S1 H1 x1 d1 h1 => ?_)
    cases d with
    | dict kvs =>
      obtain ⟨q, rfl, g⟩ := look_isD x1.sh d1
      have h1 : PostG mg E S1 H1 (DV K) ((fk ρ).bind fun kd => (fx ρ).bind fun x => match dLook kvs kd with
        | some o => .ok (o.getD x)
        | _ => .bad) Q := h1
      refine ⟨q, rfl, g, hk.sd S1 H1 σ ρ _ (rl.mono x1) (h1.bind fun kd y S2 H2 x2 d2 h2 => ?_)⟩
      refine hx.sd S2 H2 σ ρ _ ((rl.mono x1).mono x2) (h2.bind fun dx z S3 H3 x3 d3 h3 => ?_)
      cases el : dLook kvs kd with
      | none => rw [el] at h3; exact h3.elim
      | some od =>
        rw [el] at h3
        obtain ⟨a', ov, e', _, k1, k2⟩ := look_get x3.sh ((d1.mono x2.s).mono x3.s) (d2.mono x3.s) el
        cases e'
        rcases k2 with ⟨z1, z2⟩ | ⟨d', w, z1, z2, z3⟩
        · subst z1 z2
          exact ⟨none, k1, h3.ok0 x3.sh d3⟩
        · subst z1 z2
          exact ⟨some w, k1, h3.ok0 x3.sh z3⟩
    | _ => exact h1.elim⟩
theorem pd_sget1 (hu : X.A.units + 65 < cLine) (hd : PD K mg X E o td fd) (hk : PD K mg X E a ty fk)
    (h1 : attributeBase o "get" X.env (eval o X.env) = eval o X.env := by rfl)
    (h2 : ((backTo pos (starEach [a] X.env)).all (fun x => !x.1) && (backToKw pos (keywordEach [] X.env)).all (fun x => x.1.isSome) && decide (([a] : List Expr).length + ([] : List Keyword).length + (if ([] : List Keyword).isEmpty then 0 else 1) < 30)) = true := by rfl)
    (h3 : (apos.endLine == pos.line) = true := by rfl) (h4 : backTo pos (starEach [a] X.env) = [(false, eval a X.env)] := by rfl) :
    PD K mg X E (.Call (.Attribute o "get" apos) [a] [] pos) (tDGet1 td ty) (fSget1 fd fk) :=
  ⟨pe_dget1 (hu1 hu) hd.pe hk.pe ⟨h1, h2, h3, h4⟩, fun S H σ ρ Q rl h => by
    refine hd.sd S H σ ρ _ rl (h.bind fun d v S1 H1 x1 d1 h1 => ?_)
    cases d with
    | dict kvs =>
      obtain ⟨q, rfl, g⟩ := look_isD x1.sh d1
      have h1 : PostG mg E S1 H1 (DV K) ((fk ρ).bind fun kd => match dLook kvs kd with
        | some o => .ok (o.getD .none)
        | _ => .bad) Q := h1
      refine ⟨q, rfl, g, hk.sd S1 H1 σ ρ _ (rl.mono x1) (h1.bind fun kd y S2 H2 x2 d2 h2 => ?_)⟩
      cases el : dLook kvs kd with
      | none => rw [el] at h2; exact h2.elim
      | some od =>
        rw [el] at h2
        obtain ⟨a', ov, e', _, k1, k2⟩ := look_get x2.sh (d1.mono x2.s) d2 el
        cases e'
        rcases k2 with ⟨z1, z2⟩ | ⟨d', w, z1, z2, z3⟩
        · subst z1 z2
          exact ⟨none, k1, h2.ok0 x2.sh rfl⟩
        · subst z1 z2
          exact ⟨some w, k1, h2.ok0 x2.sh z3⟩
    | _ => exact h1.elim⟩
/-! min(d), max(d), sorted(d), the keys ints -/
def keysI : List (D × D) → Option (List Int)
  | [] => some []
  | (.int i, _) :: r => (keysI r).map (i :: ·)
  | _ :: _ => none
theorem keysI_map : ∀ {kvs : List (D × D)} {is : List Int}, keysI kvs = some is → kvs.map (·.1) = is.map PyData.int
  | [], is, h => by cases h; rfl
  | (a, d) :: r, is, h => by
    cases a with
    | int i =>
      unfold keysI at h
      cases e : keysI r with
      | none => rw [e] at h; cases h
      | some js =>
        rw [e] at h
        cases h
        rw [List.map_cons, keysI_map e]
        rfl
    | _ => cases h
theorem kD_inl : ∀ {ks : List Key} {is : List Int}, is.map PyData.int = ks.map kD → ks = is.map Sum.inl
  | [], [], _ => rfl
  | k :: ks, i :: is, h => by
    have h1 : PyData.int i = kD k := (List.cons.inj h).1
    rw [List.map_cons, kD_inl (List.cons.inj h).2]
    cases k with
    | inl j => cases h1; rfl
    | inr z => cases h1
  | [], _ :: _, h => by cases h
  | _ :: _, [], h => by cases h
theorem keysI_of {S : Hp} {v : V} {kvs : List (D × D)} {is : List Int} (hk : keysI kvs = some is) (hn : is ≠ []) (h : DV K S v (.dict kvs)) : ∃ a es, v = .ref a ∧ Rd S a (.dK es) ∧ es.map (·.1) = is.map Sum.inl := by
  obtain ⟨a, rfl, q⟩ := dv_dict h
  have hm := keysI_map hk
  rcases q with ⟨es, g1, g2, _⟩ | ⟨es, g1, g2, _⟩
  · refine ⟨a, es, rfl, g1, kD_inl ?_⟩
    rw [← hm, g2, List.map_map]
    rfl
  · exfalso
    rw [hm] at g2
    cases is with
    | nil => exact hn rfl
    | cons i is =>
      cases es with
      | nil => cases g2
      | cons e es =>
        have := (List.cons.inj g2).1
        cases this
def rMinR : List V → Hp → VK → Prop := fun vs H Q => ∃ (a : Addr) (kvs : List (Key × V)) (is : List Int), vs = [V.ref a] ∧ Rd H a (.dK kvs) ∧ kvs.map (·.1) = is.map Sum.inl ∧ is ≠ [] ∧ ∀ m, m ∈ is → (∀ j ∈ is, m ≤ j) → Q (.int m) H
def rMaxR : List V → Hp → VK → Prop := fun vs H Q => ∃ (a : Addr) (kvs : List (Key × V)) (is : List Int), vs = [V.ref a] ∧ Rd H a (.dK kvs) ∧ kvs.map (·.1) = is.map Sum.inl ∧ is ≠ [] ∧ ∀ m, m ∈ is → (∀ j ∈ is, j ≤ m) → Q (.int m) H
theorem hval_of {vs : List (Key × Value)} {is : List Int} (hkeys : vs.map (·.1) = is.map Sum.inl) : ∀ (i : Nat) (v : Value), (∃ k x, vs[i]? = some (k, x) ∧ (mixKind X.prog X.w).is k v = true) → ∃ t, v = Value.int (is.getD i 0) t := fun i v ⟨k, x, hk, hkey⟩ => by
  have e1 : (vs.map (·.1))[i]? = some k := by rw [List.getElem?_map, hk] <;> rfl
  rw [hkeys, List.getElem?_map] at e1
  obtain ⟨j, hj, e2⟩ := Option.map_eq_some_iff.mp e1
  subst e2
  have hi : Value.isInt j v = true := hkey
  obtain ⟨t, e3⟩ := Value.isInt_shape (k := j) (v := v) hi
  refine ⟨t, ?_⟩
  rw [e3, List.getD_eq_getElem?_getD, hj] <;> rfl
theorem c_minR (hc : X.calm = true) : CallR X (.builtin "min") rMinR := by
  intro pins s σ H vs us Q I r h
  obtain ⟨a, kvs, is, rfl, ha, hv, hne, q⟩ := h
  rw [Vals.ref1 r]
  obtain ⟨_, hsys, vs, rel, dof⟩ := dk_rd I.hok ha
  obtain ⟨ep, dat⟩ := dof.dictAt
  obtain ⟨ob, es, ho, hex, hdat, hko, hpr, hnd⟩ := id dat
  have hlt : a < s.heap.objs.size := Heap.lt_size ho
  have hkeys : vs.map (·.1) = is.map Sum.inl := (KV.keys rel).symm.trans hv
  have hlv : vs.length = is.length := by
    have e1 := congrArg List.length hkeys
    rw [List.length_map, List.length_map] at e1
    exact e1
  have hlen : 0 < vs.length := by
    rw [hlv]
    exact List.length_pos_iff.mpr hne
  refine call_min_walk (wpAny_pyIter_dict (knd := mixKind X.prog X.w) hsys dat ?_)
  refine ⟨_, _, _, _, _, _, _, rfl, PySem.Walks.dictKeys (knd := mixKind X.prog X.w) (A := X.A.in1) (I.ok.hd hc) s.heap.objs.size a (Nat.ne_of_lt hlt) vs ep,
    ⟨⟨_, Heap.get?_push_size _ rfl, rfl, rfl⟩, dat.keep fun b u e => Heap.get?_push_of_some _ e⟩, fun b hb => ?_, hlen, CmpOf.ints_lt (fun i => is.getD i 0) (hval_of hkeys), fun v h' tk hP hk => ?_⟩
  · show b < (s.heap.push _).objs.size
    rw [Heap.size_push]
    rcases List.mem_cons.mp hb with e | hb
    · rw [e]
      exact Nat.lt_succ_self _
    · rw [List.mem_singleton.mp hb]
      exact Nat.lt_succ_of_lt hlt
  · obtain ⟨t, rfl⟩ := hval_of hkeys _ v hP
    obtain ⟨b1, b2⟩ := argBest_lt (fun i => is.getD i 0) (vs.length - 1)
    refine ⟨.int _, H, I.kept (t' := tk) fun b u e => hk b u (fun hmem => ?_) (Heap.get?_push_of_some _ e), ⟨t, rfl⟩, q _ ?_ fun j hj => ?_⟩
    · have e1 : b = s.heap.objs.size := List.mem_singleton.mp hmem
      have e2 := Heap.lt_size e
      rw [e1] at e2
      exact absurd e2 (Nat.lt_irrefl _)
    · have hb : argBest (fun i j => decide (is.getD i 0 < is.getD j 0)) (vs.length - 1) < is.length := by omega
      rw [List.getD_eq_getElem?_getD, List.getElem?_eq_getElem hb]
      exact List.getElem_mem hb
    · obtain ⟨i, hi, e⟩ := List.mem_iff_getElem.mp hj
      have e2 : is.getD i 0 = j := by rw [List.getD_eq_getElem?_getD, List.getElem?_eq_getElem hi, ← e] <;> rfl
      rw [← e2]
      exact b2 i (by omega)
theorem c_maxR (hc : X.calm = true) : CallR X (.builtin "max") rMaxR := by
  intro pins s σ H vs us Q I r h
  obtain ⟨a, kvs, is, rfl, ha, hv, hne, q⟩ := h
  rw [Vals.ref1 r]
  obtain ⟨_, hsys, vs, rel, dof⟩ := dk_rd I.hok ha
  obtain ⟨ep, dat⟩ := dof.dictAt
  obtain ⟨ob, es, ho, hex, hdat, hko, hpr, hnd⟩ := id dat
  have hlt : a < s.heap.objs.size := Heap.lt_size ho
  have hkeys : vs.map (·.1) = is.map Sum.inl := (KV.keys rel).symm.trans hv
  have hlv : vs.length = is.length := by
    have e1 := congrArg List.length hkeys
    rw [List.length_map, List.length_map] at e1
    exact e1
  have hlen : 0 < vs.length := by
    rw [hlv]
    exact List.length_pos_iff.mpr hne
  refine call_max_walk (wpAny_pyIter_dict (knd := mixKind X.prog X.w) hsys dat ?_)
  refine ⟨_, _, _, _, _, _, _, rfl, PySem.Walks.dictKeys (knd := mixKind X.prog X.w) (A := X.A.in1) (I.ok.hd hc) s.heap.objs.size a (Nat.ne_of_lt hlt) vs ep,
    ⟨⟨_, Heap.get?_push_size _ rfl, rfl, rfl⟩, dat.keep fun b u e => Heap.get?_push_of_some _ e⟩, fun b hb => ?_, hlen, CmpOf.ints_gt (fun i => is.getD i 0) (hval_of hkeys), fun v h' tk hP hk => ?_⟩
  · show b < (s.heap.push _).objs.size
    rw [Heap.size_push]
    rcases List.mem_cons.mp hb with e | hb
    · rw [e]
      exact Nat.lt_succ_self _
    · rw [List.mem_singleton.mp hb]
      exact Nat.lt_succ_of_lt hlt
  · obtain ⟨t, rfl⟩ := hval_of hkeys _ v hP
    obtain ⟨b1, b2⟩ := argBest_gt (fun i => is.getD i 0) (vs.length - 1)
    refine ⟨.int _, H, I.kept (t' := tk) fun b u e => hk b u (fun hmem => ?_) (Heap.get?_push_of_some _ e), ⟨t, rfl⟩, q _ ?_ fun j hj => ?_⟩
    · have e1 : b = s.heap.objs.size := List.mem_singleton.mp hmem
      have e2 := Heap.lt_size e
      rw [e1] at e2
      exact absurd e2 (Nat.lt_irrefl _)
    · have hb : argBest (fun i j => decide (is.getD i 0 > is.getD j 0)) (vs.length - 1) < is.length := by omega
      rw [List.getD_eq_getElem?_getD, List.getElem?_eq_getElem hb]
      exact List.getElem_mem hb
    · obtain ⟨i, hi, e⟩ := List.mem_iff_getElem.mp hj
      have e2 : is.getD i 0 = j := by rw [List.getD_eq_getElem?_getD, List.getElem?_eq_getElem hi, ← e] <;> rfl
      rw [← e2]
      exact b2 i (by omega)
def gMinK : List D → Res D
  | [.dict kvs] => match keysI kvs with
    | some (i :: is) => .ok (.int (minI (i :: is)))
    | _ => .bad
  | _ => .bad
def gMaxK : List D → Res D
  | [.dict kvs] => match keysI kvs with
    | some (i :: is) => .ok (.int (maxI (i :: is)))
    | _ => .bad
  | _ => .bad
theorem cs_minK : CaS K mg E rMinR gMinK := fun S H xs ds Q sh dv h => by
  unfold gMinK at h
  split at h
  · split at h
    · rename_i i is e
      obtain ⟨v, rfl, hv⟩ := dvs1 dv
      obtain ⟨a, es, rfl, g1, g2⟩ := keysI_of e (by simp) hv
      refine ⟨a, es, i :: is, rfl, rd_same sh g1, g2, by simp, fun m hm hle => ?_⟩
      obtain ⟨k1, k2⟩ := minI_spec (i :: is) (by simp)
      have e : m = minI (i :: is) := Int.le_antisymm (hle _ k1) (k2 m hm)
      rw [e]
      exact h.ok0 sh rfl
    · exact h.elim
  · exact h.elim
theorem cs_maxK : CaS K mg E rMaxR gMaxK := fun S H xs ds Q sh dv h => by
  unfold gMaxK at h
  split at h
  · split at h
    · rename_i i is e
      obtain ⟨v, rfl, hv⟩ := dvs1 dv
      obtain ⟨a, es, rfl, g1, g2⟩ := keysI_of e (by simp) hv
      refine ⟨a, es, i :: is, rfl, rd_same sh g1, g2, by simp, fun m hm hle => ?_⟩
      obtain ⟨k1, k2⟩ := maxI_spec (i :: is) (by simp)
      have e : m = maxI (i :: is) := Int.le_antisymm (k2 m hm) (hle _ k1)
      rw [e]
      exact h.ok0 sh rfl
    · exact h.elim
  · exact h.elim
def rSortR : List V → Hp → VK → Prop := fun xs H Q => ∃ (a : Addr) (kvs : List (Key × V)) (ks : List Int), xs = [.ref a] ∧ Rd H a (.dK kvs) ∧ kvs.map (·.1) = ks.map Sum.inl ∧ ks.length < 64 ∧
    ∀ (ys : List Int) (p : Addr), ys.Perm ks → ys.Pairwise (· ≤ ·) → H p = none → Q (.ref p) (upd H p (.lst (ys.map V.int)))
theorem c_sortR (hc : X.calm = true) : CallR X (.builtin "sorted") rSortR := call_sortedDI hc
def sortI (ns : List Int) : List Int := ns.mergeSort (fun a b => decide (a ≤ b))
theorem sortI_perm (ns : List Int) : (sortI ns).Perm ns := List.mergeSort_perm ns _
theorem sortI_sorted (ns : List Int) : (sortI ns).Pairwise (· ≤ ·) := by
  have := List.pairwise_mergeSort (le := fun a b : Int => decide (a ≤ b)) (fun a b c h1 h2 => by simp only [decide_eq_true_eq] at *; omega) (fun a b => by simp only [Bool.or_eq_true, decide_eq_true_eq]; omega) ns
  exact this.imp fun h => of_decide_eq_true h
theorem sort_unique {xs ys : List Int} (h1 : xs.Perm ys) (hx : xs.Pairwise (· ≤ ·)) (hy : ys.Pairwise (· ≤ ·)) : xs = ys := List.Perm.eq_of_pairwise (fun a b _ _ h1 h2 => Int.le_antisymm h1 h2) hx hy h1
def gSortK : List D → Res D
  | [.dict kvs] => match keysI kvs with
    | some (i :: is) => if (i :: is).length < 64 then .ok (.list ((sortI (i :: is)).map PyData.int)) else .bad
    | _ => .bad
  | _ => .bad
theorem cs_sortK : CaS K mg E rSortR gSortK := fun S H xs ds Q sh dv h => by
  unfold gSortK at h
  split at h
  · split at h
    · rename_i i is e
      split at h
      · rename_i hz
        obtain ⟨v, rfl, hv⟩ := dvs1 dv
        obtain ⟨a, es, rfl, g1, g2⟩ := keysI_of e (by simp) hv
        refine ⟨a, es, i :: is, rfl, rd_same sh g1, g2, hz, fun ys p hp hs hn => ?_⟩
        have e : ys = sortI (i :: is) := sort_unique (hp.trans (sortI_perm _).symm) hs (sortI_sorted _)
        subst e
        exact new_lst sh (dvs_ints _) h hn
      · exact h.elim
    · exact h.elim
  · exact h.elim
end
end PD
namespace PD
open PySem L2
/-! ### a dict that is walked is locked for the while -/
def noFz : HO → Bool
  | .frz _ _ => false
  | _ => true
structure RdMap (S T : Hp) : Prop where
  rd : ∀ (b : Addr) (u : HO), noFz u = true → Rd S b u → Rd T b u
  tp : ∀ (b : Addr) (xs : List V), S b = some (.tup xs) → T b = some (.tup xs)
mutual
theorem DV.rdm {K : PySem.W.Frag} {S T : Hp} (e : RdMap S T) : ∀ (d : D) (v : V), DV K S v d → DV K T v d
  | .none, v, h => by rw [DV] at h ⊢; exact h
  | .bool b, v, h => by rw [DV] at h ⊢; exact h
  | .int b, v, h => by rw [DV] at h ⊢; exact h
  | .str b, v, h => by rw [DV] at h ⊢; exact h
  | .list ds, v, h => by
    rw [DV] at h ⊢
    obtain ⟨a, xs, h1, h2, h3⟩ := h
    refine ⟨a, xs, h1, ?_, DVs.rdm e ds xs h3⟩
    rcases h2 with h | h
    · exact .inl (e.rd _ _ rfl h)
    · exact .inr h
  | .tuple ds, v, h => by
    rw [DV] at h ⊢
    obtain ⟨a, xs, h1, h2, h3⟩ := h
    refine ⟨a, xs, h1, ⟨?_, fun z => e.tp _ _ (h2.2 z)⟩, DVs.rdm e ds xs h3⟩
    rcases h2.1 with h | h
    · exact .inl (e.rd _ _ rfl h)
    · exact .inr h
  | .dict kvs, v, h => by
    rw [DV] at h ⊢
    obtain ⟨a, h1, h2⟩ := h
    refine ⟨a, h1, ?_⟩
    rcases h2 with ⟨es, h2, h3, h4⟩ | ⟨es, h2, h3, h4⟩
    · exact .inl ⟨es, e.rd _ _ rfl h2, h3, DVp.rdm e kvs _ h4⟩
    · exact .inr ⟨es, e.rd _ _ rfl h2, h3, DVp.rdm e kvs _ h4⟩
theorem DVs.rdm {K : PySem.W.Frag} {S T : Hp} (e : RdMap S T) : ∀ (ds : List D) (vs : List V), DVs K S vs ds → DVs K T vs ds
  | [], [], _ => by rw [DVs]; trivial
  | d :: ds, v :: vs, h => by
    rw [DVs] at h ⊢
    exact ⟨DV.rdm e d v h.1, DVs.rdm e ds vs h.2⟩
  | [], _ :: _, h => by rw [DVs] at h; exact h.elim
  | _ :: _, [], h => by rw [DVs] at h; exact h.elim
theorem DVp.rdm {K : PySem.W.Frag} {S T : Hp} (e : RdMap S T) : ∀ (ds : List (D × D)) (vs : List V), DVp K S vs ds → DVp K T vs ds
  | [], [], _ => by rw [DVp]; trivial
  | (_, d) :: ds, v :: vs, h => by
    rw [DVp] at h ⊢
    exact ⟨DV.rdm e d v h.1, DVp.rdm e ds vs h.2⟩
  | [], _ :: _, h => by rw [DVp] at h; exact h.elim
  | _ :: _, [], h => by rw [DVp] at h; exact h.elim
end
theorem rdm_lock {S : Hp} {a : Addr} {o : Obj} {es : List (Key × V)} (h : S a = some (.dK es)) : RdMap S (upd S a (.frz o (.dK es))) := by
  refine ⟨fun b u hz r => ?_, fun b xs e => ?_⟩
  · by_cases hb : b = a
    · subst hb
      rcases r with r | ⟨o', r⟩
      · rw [h] at r; cases r; exact .inr ⟨o, upd_same⟩
      · rw [h] at r; cases r
    · rcases r with r | ⟨o', r⟩
      · exact .inl (by rw [upd_ne hb]; exact r)
      · exact .inr ⟨o', by rw [upd_ne hb]; exact r⟩
  · have hb : b ≠ a := fun z => by subst z; rw [h] at e; cases e
    rw [upd_ne hb]
    exact e
theorem rdm_unlock {S : Hp} {a : Addr} {o : Obj} {es : List (Key × V)} (h : S a = some (.frz o (.dK es))) : RdMap S (upd S a (.dK es)) := by
  refine ⟨fun b u hz r => ?_, fun b xs e => ?_⟩
  · by_cases hb : b = a
    · subst hb
      rcases r with r | ⟨o', r⟩
      · rw [h] at r
        cases r
        cases hz
      · rw [h] at r; cases r; exact .inl upd_same
    · rcases r with r | ⟨o', r⟩
      · exact .inl (by rw [upd_ne hb]; exact r)
      · exact .inr ⟨o', by rw [upd_ne hb]; exact r⟩
  · have hb : b ≠ a := fun z => by subst z; rw [h] at e; cases e
    rw [upd_ne hb]
    exact e
/-- the keys, walked: the dict is locked -/
theorem walks_keys {K : PySem.W.Frag} {S : Hp} {a : Addr} {o : Obj} {es : List (Key × V)} {kvs : List (D × D)} (h1 : S a = some (.frz o (.dK es))) (h2 : kvs.map (·.1) = es.map (fun e => kD e.1)) : Walks K S (Itk a o es) (kvs.map (·.1)) := fun S' H' e1 e2 => by
  have q : H' a = some (.frz o (.dK es)) := e2 _ _ (e1 _ _ h1)
  have hl : (kvs.map (·.1)).length = es.length := by rw [h2, List.length_map]
  refine ⟨fun i d hi => ?_, q, by rw [hl]; exact Nat.le_refl _⟩
  have hin : i < es.length := by
    have := (List.getElem?_eq_some_iff.mp hi).1
    omega
  refine ⟨⟨q, hin⟩, fun x H'' hy => ?_⟩
  obtain ⟨rfl, k, v, hk, rfl⟩ := hy
  refine ⟨S', Ext.refl e2, ?_⟩
  rw [h2, List.getElem?_map, hk] at hi
  have hi : kD k = d := Option.some.inj hi
  rw [← hi]
  cases k with
  | inl j => exact rfl
  | inr z => exact rfl
def asKeys : D → Res (List D)
  | .dict kvs => if (plainK kvs && !kvs.isEmpty) = true then .ok (kvs.map (·.1)) else .bad
  | _ => .bad
def fKeys (i : Nat) : DEnv → Res (List D) := fun ρ => (fVar i ρ).bind asKeys
section
variable {K : PySem.W.Frag} {mg : Str → Option Value} {X : Cx} {E : XK} {tg : Expr} {p : Pos} {x : Str} {i : Nat}
/-- in an environment where the dict of slot i is locked -/
structure IDK (K : PySem.W.Frag) (mg : Str → Option Value) (X : Cx) (E : XK) (tg iter : Expr) (wi : TI) (f : DEnv → Res (List D)) (i : Nat) : Prop where
  pi : PI X tg iter wi
  sd : ∀ (S H : Hp) (σ : L2.St) (ρ : DEnv) (R : It → Hp → Prop), RelE K S H σ ρ → (∃ a o es, σ[i]? = some (some (.ref a)) ∧ S a = some (.frz o (.dK es))) → PostG mg E S H (fun S J ds => Walks K S J ds) (f ρ) R → wi σ H R
theorem idk_keys (hv : PE X (.Name x p) (tVar i)) : IDK K mg X E tg (.Name x p) (iKeys (tVar i)) (fKeys i) i := ⟨pi_keys hv, fun S H σ ρ R rl hz h => by
  obtain ⟨a, o, es, e1, e2⟩ := hz
  unfold fKeys fVar at h
  split at h
  · rename_i d ed
    obtain ⟨v, k1, k2⟩ := rl.dt i d ed
    rw [e1] at k1
    cases k1
    rw [bind_ok] at h
    unfold asKeys at h
    split at h
    · rename_i kvs
      split at h
      · rename_i c
        obtain ⟨c1, c2⟩ := and_split c
        obtain ⟨a', ea, q⟩ := dv_dict k2
        cases ea
        obtain ⟨es', g1, g2, g3⟩ := plain_of c1 (ne_emp c2) q
        have : es' = es := by
          rcases g1 with g | ⟨o', g⟩
          · rw [e2] at g; cases g
          · rw [e2] at g; cases g; rfl
        subst this
        exact ⟨.ref a, e1, a, o, rfl, .inl ⟨es', rl.sh _ _ e2, h.ok0 rl.sh (walks_keys e2 g2)⟩⟩
      · exact h.elim
    · exact h.elim
  · exact h.elim⟩
theorem relE_lock {S H : Hp} {σ : L2.St} {ρ : DEnv} {a : Addr} {o : Obj} {es : List (Key × V)} (rl : RelE K S H σ ρ) (h : S a = some (.dK es)) : RelE K (upd S a (.frz o (.dK es))) (upd H a (.frz o (.dK es))) σ ρ :=
  ⟨same_upd2 rl.sh, rl.len, fun i y e => let ⟨v, h1, h2⟩ := rl.dt i y e; ⟨v, h1, DV.rdm (rdm_lock h) _ _ h2⟩, rl.rw⟩
theorem ext_unlock {S H S2 H2 : Hp} {a : Addr} {o : Obj} {u : HO} (sh : Same S H) (h : S a = some u) (x : Ext (upd S a (.frz o u)) (upd H a (.frz o u)) S2 H2) : Ext S H (upd S2 a u) (upd H2 a u) := by
  refine ⟨fun b w e => ?_, fun b w e => ?_, same_upd2 x.sh, fun b hb => ?_⟩
  · by_cases q : b = a
    · subst q; rw [h] at e; cases e; exact upd_same
    · rw [upd_ne q]; exact x.s b w (by rw [upd_ne q]; exact e)
  · by_cases q : b = a
    · subst q; rw [sh _ _ h] at e; cases e; exact upd_same
    · rw [upd_ne q]; exact x.h b w (by rw [upd_ne q]; exact e)
  · by_cases q : b = a
    · subst q; rw [upd_same, h]
    · rw [upd_ne q, x.old b (by rw [upd_ne q]; exact hb), upd_ne q]
end
/-- the comprehension over a dict in slot i: locked for the while, or locked already -/
def tLcK (T : TE) : TE := fun σ H Q => tLockE T σ H Q ∨ T σ H Q
section
variable {K : PySem.W.Frag} {mg : Str → Option Value} {X : Cx} {E : XK} {elt tg iter : Expr} {ifs : List Expr} {scope : Scope} {own : List (Str × Nat)} {pos : Pos} {wi : TI} {g : TG} {tt : TT} {te : TE} {is : List Nat} {h : D → Option (List D)} {ft : DEnv → Res Bool} {fe : DEnv → Res D} {i : Nat} {src : DEnv → Res (List D)}
theorem pd_lcK {vs : List Nat} (hc : X.calm = true) (hN : X.N.Nodup) (hi : IDK K mg X E tg iter wi (fKeys i) i) (ok : BlkOk X.N X.env.scope scope own)
    (hg : ∀ (s : Shared) (H : Hp) (C : Addr) (cl : List (Str × Addr)) (fp : List Addr), GD K (Blk X scope s H C cl fp) tg g is h) (ht : ∀ (s : Shared) (H : Hp) (C : Addr) (cl : List (Str × Addr)) (fp : List Addr), TDs K mg (Blk X scope s H C cl fp) E0 ifs tt ft)
    (he : ∀ (s : Shared) (H : Hp) (C : Addr) (cl : List (Str × Addr)) (fp : List Addr), PD K mg (Blk X scope s H C cl fp) E0 elt te fe) (hvs : own.map (·.2) = vs := by rfl) (his : ∀ i ∈ is, i ∈ vs := by decide) (hs : ∀ x, foldedSetIterable iter X.env x = pure x := by intro _; rfl) :
    PD K mg X E (.ListComp elt [⟨tg, iter, ifs, 0⟩] scope pos) (tLcK (tLc wi g tt te vs)) (fLc (fKeys i) vs is h ft fe) := by
  have pe : PE X (.ListComp elt [⟨tg, iter, ifs, 0⟩] scope pos) (tLc wi g tt te vs) := hvs ▸ pe_lc hc hN hi.pi ok (fun s H C cl fp => (hg s H C cl fp).pg) (fun s H C cl fp => (ht s H C cl fp).pe) (fun s H C cl fp => (he s H C cl fp).pe) hs
  refine ⟨⟨fun pins s σ H Q I q => q.elim (fun q => (pe_lock pe).run pins s σ H Q I q) fun q => pe.run pins s σ H Q I q⟩, fun S H σ ρ Q rl hp => ?_⟩
  have key : ∀ (S H : Hp) (Q : VK), RelE K S H σ ρ → (∃ a o es, σ[i]? = some (some (.ref a)) ∧ S a = some (.frz o (.dK es))) → PostG mg E S H (DV K) (fLc (fKeys i) vs is h ft fe ρ) Q → tLc wi g tt te vs σ H Q := fun S H Q rl hz hp =>
    lc_sd' (X' := Blk X scope X.s_0 X.H_0 0 [] []) (fun R q => hi.sd S H σ ρ R rl hz q) (hg _ _ _ _ _) (ht _ _ _ _ _) (he _ _ _ _ _) his Q rl hp
  cases ev : ρ[i]? with
  | none =>
    unfold fLc fKeys fVar at hp
    rw [ev] at hp
    exact hp.elim
  | some sl =>
    cases sl with
    | d y =>
      obtain ⟨v, k1, k2⟩ := rl.dt i y ev
      cases y with
      | dict kvs =>
        by_cases c : (plainK kvs && !kvs.isEmpty) = true
        · obtain ⟨c1, c2⟩ := and_split c
          obtain ⟨a, rfl, q⟩ := dv_dict k2
          obtain ⟨es, g1, g2, g3⟩ := plain_of c1 (ne_emp c2) q
          rcases g1 with g1 | ⟨o, g1⟩
          · refine .inl ⟨a, .dK es, rl.sh _ _ g1, trivial, fun od => ?_⟩
            refine key _ _ _ (relE_lock rl g1) ⟨a, od, es, k1, upd_same⟩ ?_
            cases er : fLc (fKeys i) vs is h ft fe ρ with
            | ok dd =>
              rw [er] at hp
              intro w S2 H2 x2 dw
              have f2 : S2 a = some (.frz od (.dK es)) := x2.s _ _ upd_same
              exact ⟨x2.h _ _ upd_same, hp w _ _ (ext_unlock rl.sh g1 x2) (DV.rdm (rdm_unlock f2) _ _ dw)⟩
            | err cc =>
              exfalso
              unfold fLc fKeys fVar at er
              rw [ev, bind_ok] at er
              unfold asKeys at er
              dsimp only at er
              rw [if_pos c, bind_ok] at er
              unfold lcEnd at er
              cases eg : lcGo (lcStep ρ vs is h ft fe) (kvs.map (·.1)) with
              | ok ys => rw [eg, bind_ok] at er; split at er <;> cases er
              | err c2 => exact lcGo_noerr _ _ _ eg
              | bad => rw [eg] at er; cases er
            | bad => rw [er] at hp; exact hp.elim
          · exact .inr (key S H Q rl ⟨a, o, es, k1, g1⟩ hp)
        · exfalso
          unfold fLc fKeys fVar at hp
          rw [ev, bind_ok] at hp
          unfold asKeys at hp
          dsimp only at hp
          rw [if_neg c] at hp
          exact hp
      | _ =>
        exfalso
        unfold fLc fKeys fVar at hp
        rw [ev] at hp
        exact hp
    | _ =>
      exfalso
      unfold fLc fKeys fVar at hp
      rw [ev] at hp
      exact hp
end
end PD
namespace PD
open PySem L2
/-! ### evaluation -/
theorem v_nil : viewAll [] = [] := rfl
theorem v_cons (s : Slot) (ρ : DEnv) : viewAll (s :: ρ) = view s :: viewAll ρ := rfl
theorem w_d (x : D) : view (.d x) = .d x := rfl
theorem w_un : view .un = .un := rfl
theorem w_own (x : List D) : view (.own x) = .d (.list x) := rfl
theorem x_var0 (x : D) (ρ : DEnv) : fVar 0 (.d x :: ρ) = .ok x := rfl
theorem x_varS (i : Nat) (s : Slot) (ρ : DEnv) : fVar (i + 1) (s :: ρ) = fVar i ρ := rfl
theorem x_c (d : D) (ρ : DEnv) : fC d ρ = .ok d := rfl
theorem x_bin (g : D → D → Res D) (f1 f2 : DEnv → Res D) (ρ : DEnv) : fBin g f1 f2 ρ = (f1 ρ).bind fun a => (f2 ρ).bind fun b => g a b := rfl
theorem x_un (g : D → Res D) (f : DEnv → Res D) (ρ : DEnv) : fUn g f ρ = (f ρ).bind g := rfl
theorem x_b (g : List D → Res D) (f : DEnv → Res (List D)) (ρ : DEnv) : fB g f ρ = (f ρ).bind g := rfl
theorem x_nil (ρ : DEnv) : fNil ρ = .ok [] := rfl
theorem x_cons (f : DEnv → Res D) (g : DEnv → Res (List D)) (ρ : DEnv) : fCons f g ρ = (f ρ).bind fun x => (g ρ).bind fun xs => .ok (x :: xs) := rfl
theorem x_call1 (F : List D → Res D) (f : DEnv → Res D) (ρ : DEnv) : fCall 1 F (fCons f fNil) ρ = (f ρ).bind fun a => F [a] := by
  unfold fCall fCons fNil
  cases f ρ <;> rfl
theorem x_call2 (F : List D → Res D) (f g : DEnv → Res D) (ρ : DEnv) : fCall 2 F (fCons f (fCons g fNil)) ρ = (f ρ).bind fun a => (g ρ).bind fun b => F [a, b] := by
  unfold fCall fCons fNil
  cases f ρ <;> first | rfl | (cases g ρ <;> rfl)
theorem x_call3 (F : List D → Res D) (f g h : DEnv → Res D) (ρ : DEnv) : fCall 3 F (fCons f (fCons g (fCons h fNil))) ρ = (f ρ).bind fun a => (g ρ).bind fun b => (h ρ).bind fun c => F [a, b, c] := by
  unfold fCall fCons fNil
  cases f ρ <;> first | rfl | (cases g ρ <;> first | rfl | (cases h ρ <;> rfl))
theorem x_call0 (F : List D → Res D) (ρ : DEnv) : fCall 0 F fNil ρ = F [] := rfl
theorem x_test (f : DEnv → Res D) (ρ : DEnv) : fTest f ρ = (f ρ).bind asB := rfl
theorem x_asB (b : Bool) : asB (.bool b) = .ok b := rfl
theorem x_not (f : DEnv → Res Bool) (ρ : DEnv) : fNot f ρ = (f ρ).bind fun b => .ok (!b) := rfl
theorem x_and (f g : DEnv → Res Bool) (ρ : DEnv) : fAnd f g ρ = (f ρ).bind fun b => if b = true then g ρ else .ok false := rfl
theorem x_or (f g : DEnv → Res Bool) (ρ : DEnv) : fOr f g ρ = (f ρ).bind fun b => if b = true then .ok true else g ρ := rfl
theorem x_andV (f g : DEnv → Res D) (ρ : DEnv) : fAndV f g ρ = (fTest f ρ).bind fun b => if b = true then g ρ else .ok (.bool false) := rfl
theorem x_orV (f g : DEnv → Res D) (ρ : DEnv) : fOrV f g ρ = (fTest f ρ).bind fun b => if b = true then .ok (.bool true) else g ρ := rfl
theorem x_notV (f : DEnv → Res D) (ρ : DEnv) : fNotV f ρ = (fTest f ρ).bind fun b => .ok (.bool !b) := rfl
theorem x_if (g : DEnv → Res Bool) (f1 f2 : DEnv → Res D) (ρ : DEnv) : fIf g f1 f2 ρ = (g ρ).bind fun b => if b = true then f1 ρ else f2 ρ := rfl
theorem x_isi (T : String) (f : DEnv → Res D) (ρ : DEnv) : fIsi T f ρ = (f ρ).bind fun d => .ok (.bool (isiD T d)) := rfl
theorem x_chain (g g' : D → D → Res D) (f1 f2 f3 : DEnv → Res D) (ρ : DEnv) : fChain g g' f1 f2 f3 ρ = (f1 ρ).bind fun x => (f2 ρ).bind fun y => (g x y).bind fun z => (asB z).bind fun k => if k = true then (f3 ρ).bind fun w => g' y w else .ok (.bool false) := rfl
theorem x_tup (g : DEnv → Res (List D)) (ρ : DEnv) : fTup g ρ = (g ρ).bind mkT := rfl
theorem x_lst (g : DEnv → Res (List D)) (ρ : DEnv) : fLst g ρ = (g ρ).bind mkL := rfl
theorem x_mkT0 : mkT [] = .ok (.tuple []) := rfl
theorem x_mkT1 (a : D) : mkT [a] = .ok (.tuple [a]) := rfl
theorem x_mkT2 (a b : D) : mkT [a, b] = .ok (.tuple [a, b]) := rfl
theorem x_mkT3 (a b c : D) : mkT [a, b, c] = .ok (.tuple [a, b, c]) := rfl
theorem x_mkL0 : mkL [] = .ok (.list []) := rfl
theorem x_mkL1 (a : D) : mkL [a] = .ok (.list [a]) := rfl
theorem x_mkL2 (a b : D) : mkL [a, b] = .ok (.list [a, b]) := rfl
theorem x_mkL3 (a b c : D) : mkL [a, b, c] = .ok (.list [a, b, c]) := rfl
theorem x_mkL4 (a b c d : D) : mkL [a, b, c, d] = .ok (.list [a, b, c, d]) := rfl
/-! statements -/
theorem y_next (ρ : DEnv) (k : DEnv → SR) : (SR.next ρ).seq k = k ρ := rfl
theorem y_ret (d : D) (k : DEnv → SR) : (SR.ret d).seq k = .ret d := rfl
theorem y_err (d : Str) (k : DEnv → SR) : (SR.err d).seq k = .err d := rfl
theorem y_ok {α : Type} (a : α) (k : α → SR) : ofRes (Res.ok a) k = k a := rfl
theorem y_er {α : Type} (c : Str) (k : α → SR) : ofRes (Res.err c : Res α) k = .err c := rfl
theorem y_seq (F G : DEnv → SR) (ρ : DEnv) : sSeq F G ρ = (F ρ).seq G := rfl
theorem y_if (g : DEnv → Res Bool) (F G : DEnv → SR) (ρ : DEnv) : sIf g F G ρ = ofRes (g (viewAll ρ)) fun b => if b = true then F ρ else G ρ := rfl
theorem y_nx (ρ : DEnv) : sNext ρ = .next ρ := rfl
theorem y_rt (f : DEnv → Res D) (ρ : DEnv) : sRet f ρ = ofRes (f ρ) fun d => .ret d := rfl
theorem y_ex (f : DEnv → Res D) (ρ : DEnv) : sExpr f ρ = ofRes (f ρ) fun _ => .next ρ := rfl
theorem y_rs (c : Str) (ρ : DEnv) : sRaise c ρ = .err c := rfl
theorem y_as1 (f : DEnv → Res D) (i : Nat) (ρ : DEnv) : sAsg f [i] hOne ρ = ofRes (f ρ) fun d => .next (ρ.set i (.d d)) := rfl
theorem y_asT3 (f : DEnv → Res D) (i j k : Nat) (ρ : DEnv) : sAsg f [i, j, k] (hTup 3) ρ = ofRes (f ρ) fun d => match d with
  | .tuple [x, y, z] => .next (((ρ.set i (.d x)).set j (.d y)).set k (.d z))
  | _ => .bad := by
  unfold sAsg
  cases f ρ with
  | ok d =>
    rw [y_ok, y_ok]
    cases d with
    | tuple ds =>
      match ds with
      | [x, y, z] => rfl
      | [] => rfl
      | [_] => rfl
      | [_, _] => rfl
      | _ :: _ :: _ :: _ :: _ => rfl
    | _ => rfl
  | err c => rfl
  | bad => rfl
theorem y_fn (n : Nat) (B : DEnv → SR) (ds : List D) : fnF n B ds = toRes (B (startD n ds)) := rfl
theorem y_t1 (d : D) : toRes (.ret d) = .ok d := rfl
theorem y_t2 (ρ : DEnv) : toRes (.next ρ) = .ok .none := rfl
theorem y_t3 (c : Str) : toRes (.err c) = .err c := rfl
theorem set0 (s t : Slot) (ρ : DEnv) : (s :: ρ).set 0 t = t :: ρ := rfl
theorem setS' (i : Nat) (s t : Slot) (ρ : DEnv) : (s :: ρ).set (i + 1) t = s :: ρ.set i t := rfl
theorem b_or (g : DEnv → Res Bool) : g = g := rfl
/-! values -/
theorem sh_int (i : Int) : SeqAt.shaped (.int i) = true := rfl
theorem sh_bool (i : Bool) : SeqAt.shaped (.bool i) = true := rfl
theorem sh_none : SeqAt.shaped .none = true := rfl
theorem eq_int (i j : Int) : gEq (.int i) (.int j) = .ok (.bool (i == j)) := rfl
theorem ne_int (i j : Int) : gNe (.int i) (.int j) = .ok (.bool (!(i == j))) := rfl
theorem g_lt (i j : Int) : gLt (.int i) (.int j) = .ok (.bool (decide (i < j))) := rfl
theorem g_le (i j : Int) : gLe (.int i) (.int j) = .ok (.bool (decide (i ≤ j))) := rfl
theorem g_gt (i j : Int) : gGt (.int i) (.int j) = .ok (.bool (decide (j < i))) := rfl
theorem g_ge (i j : Int) : gGe (.int i) (.int j) = .ok (.bool (decide (j ≤ i))) := rfl
theorem g_sub (i j : Int) : gSub (.int i) (.int j) = .ok (.int (i - j)) := rfl
theorem g_add (i j : Int) : gAdd (.int i) (.int j) = .ok (.int (i + j)) := rfl
theorem g_div {i j : Int} (h : divOk i j = true) : gDiv (.int i) (.int j) = .ok (.int (i / j)) := by unfold gDiv gI; dsimp only; rw [if_pos h]
theorem g_mod {i j : Int} (h : 0 < j) : gMod (.int i) (.int j) = .ok (.int (i % j)) := by unfold gMod gI; dsimp only; rw [if_pos (decide_eq_true h)]
theorem g_mul {i j : Int} (h : mulOk i j = true) : gMulI (.int i) (.int j) = .ok (.int (i * j)) := by unfold gMulI gI; dsimp only; rw [if_pos h]
theorem g_lenL (xs : List D) : gLen [.list xs] = .ok (.int xs.length) := rfl
theorem g_lenT (xs : List D) : gLen [.tuple xs] = .ok (.int xs.length) := rfl
theorem g_ixT {xs : List D} {i : Int} {d : D} (h : ixD xs i = some d) : gIx (.tuple xs) (.int i) = .ok d := by unfold gIx; dsimp only; rw [h]
theorem g_ixL {xs : List D} {i : Int} {d : D} (h : ixD xs i = some d) : gIx (.list xs) (.int i) = .ok d := by unfold gIx; dsimp only; rw [h]
theorem g_ix30 (a b c : D) : gIx (.tuple [a, b, c]) (.int 0) = .ok a := rfl
theorem g_ix31 (a b c : D) : gIx (.tuple [a, b, c]) (.int 1) = .ok b := rfl
theorem g_ix32 (a b c : D) : gIx (.tuple [a, b, c]) (.int 2) = .ok c := rfl
theorem is_TT : gIs true (.bool true) (.bool true) = .ok (.bool false) := rfl
theorem is_TF (b c : Bool) : gIs true (.bool b) (.bool c) = .ok (.bool (!decide (b = c))) := rfl
theorem is_FF (b c : Bool) : gIs false (.bool b) (.bool c) = .ok (.bool (decide (b = c))) := rfl
theorem isi_TT (xs : List D) : isiD "tuple" (.tuple xs) = true := by simp [isiD, isiN, tyName]
theorem isi_TL (xs : List D) : isiD "tuple" (.list xs) = false := by simp [isiD, isiN, tyName]
theorem isi_LL (xs : List D) : isiD "list" (.list xs) = true := by simp [isiD, isiN, tyName]
theorem isi_SS (x : Str) : isiD "str" (.str x) = true := by simp [isiD, isiN, tyName]
/-! ### loops of comprehensions -/
theorem lcGo_ok {step : D → Res (List D)} {h : D → List D} : ∀ {xs : List D}, (∀ d ∈ xs, step d = .ok (h d)) → lcGo step xs = .ok (xs.flatMap h)
  | [], _ => rfl
  | x :: xs, hx => by
    show ((step x).strict.bind fun o => (lcGo step xs).bind fun r => .ok (o ++ r)) = _
    rw [hx x List.mem_cons_self, lcGo_ok fun d hd => hx d (List.mem_cons_of_mem _ hd)]
    rfl
theorem lcEnd_mk {ys : List D} (h : ys.length < 1000000) : lcEnd (.ok ys) = .ok (.list ys) := by
  unfold lcEnd
  rw [bind_ok, if_pos (show lenOk (ys.length + 1) = true from decide_eq_true (by omega))]
theorem x_lc {src : DEnv → Res (List D)} {own is : List Nat} {h : D → Option (List D)} {ft : DEnv → Res Bool} {fe : DEnv → Res D} {ρ : DEnv} {ds ys : List D} (h1 : src ρ = .ok ds) (h2 : lcGo (lcStep ρ own is h ft fe) ds = .ok ys) (h3 : ys.length < 1000000) : fLc src own is h ft fe ρ = .ok (.list ys) := by
  unfold fLc
  rw [h1, bind_ok, h2, lcEnd_mk h3]
theorem x_lc2 {src : DEnv → Res (List D)} {own is : List Nat} {h : D → Option (List D)} {ft : DEnv → Res Bool} {src1 : DEnv → Res (List D)} {own1 is1 : List Nat} {h1 : D → Option (List D)} {ft1 : DEnv → Res Bool} {fe : DEnv → Res D} {ρ : DEnv} {ds ys : List D} (e1 : src ρ = .ok ds) (e2 : lcGo (lc2Step ρ own is h ft src1 own1 is1 h1 ft1 fe) ds = .ok ys) (e3 : ys.length < 1000000) : fLc2 src own is h ft src1 own1 is1 h1 ft1 fe ρ = .ok (.list ys) := by
  unfold fLc2
  rw [e1, bind_ok, e2, lcEnd_mk e3]
theorem wp_nil (ρ : DEnv) : wipeD ρ [] = ρ := rfl
theorem wp_cons (ρ : DEnv) (v : Nat) (vs : List Nat) : wipeD ρ (v :: vs) = (wipeD ρ vs).set v .un := rfl
theorem l_1 (ρ : DEnv) (own : List Nat) (i : Nat) (fe : DEnv → Res D) (d : D) : lcStep ρ own [i] hOne fYes fe d = (fe ((wipeD ρ own).set i (.d d))).bind fun y => .ok [y] := rfl
theorem l_1t (ρ : DEnv) (own : List Nat) (i : Nat) (tt : DEnv → Res Bool) (fe : DEnv → Res D) (d : D) : lcStep ρ own [i] hOne tt fe d = (tt ((wipeD ρ own).set i (.d d))).bind fun b => if b = true then (fe ((wipeD ρ own).set i (.d d))).bind fun y => .ok [y] else .ok [] := rfl
theorem l_2 (ρ : DEnv) (own : List Nat) (i j : Nat) (fe : DEnv → Res D) (x y : D) : lcStep ρ own [i, j] (hTup 2) fYes fe (.tuple [x, y]) = (fe (((wipeD ρ own).set i (.d x)).set j (.d y))).bind fun y => .ok [y] := rfl
theorem l_2t (ρ : DEnv) (own : List Nat) (i j : Nat) (tt : DEnv → Res Bool) (fe : DEnv → Res D) (x y : D) : lcStep ρ own [i, j] (hTup 2) tt fe (.tuple [x, y]) = (tt (((wipeD ρ own).set i (.d x)).set j (.d y))).bind fun b => if b = true then (fe (((wipeD ρ own).set i (.d x)).set j (.d y))).bind fun y => .ok [y] else .ok [] := rfl
theorem l_3 (ρ : DEnv) (own : List Nat) (i j k : Nat) (fe : DEnv → Res D) (x y z : D) : lcStep ρ own [i, j, k] (hTup 3) fYes fe (.tuple [x, y, z]) = (fe ((((wipeD ρ own).set i (.d x)).set j (.d y)).set k (.d z))).bind fun y => .ok [y] := rfl
theorem l2_11 (ρ : DEnv) (own own1 : List Nat) (i j : Nat) (src1 : DEnv → Res (List D)) (fe : DEnv → Res D) (d : D) : lc2Step ρ own [i] hOne fYes src1 own1 [j] hOne fYes fe d = (src1 ((wipeD ρ own).set i (.d d))).bind fun es => lcGo (lcStep ((wipeD ρ own).set i (.d d)) own1 [j] hOne fYes fe) es := rfl
theorem x_seq (f : DEnv → Res D) (ρ : DEnv) : fSeq f ρ = (f ρ).bind asSeq := rfl
theorem x_asL (ds : List D) : asSeq (.list ds) = .ok ds := rfl
theorem x_asT (ds : List D) : asSeq (.tuple ds) = .ok ds := rfl
theorem x_rng (g : List D → Res (List D)) (f : DEnv → Res (List D)) (ρ : DEnv) : fRng g f ρ = (f ρ).bind g := rfl
theorem x_zipL (xs ys : List D) : gZip [.list xs, .list ys] = .ok (zipD xs ys) := rfl
theorem x_zipT (xs ys : List D) : gZip [.tuple xs, .tuple ys] = .ok (zipD xs ys) := rfl
theorem g_tupL (xs : List D) : gTupOf [.list xs] = .ok (.tuple xs) := rfl
theorem g_tupT (xs : List D) : gTupOf [.tuple xs] = .ok (.tuple xs) := rfl
theorem g_listL (xs : List D) : gListOf [.list xs] = .ok (.list xs) := rfl
theorem g_listT (xs : List D) : gListOf [.tuple xs] = .ok (.list xs) := rfl
/-! ### loops -/
theorem forGo_inv {asg : D → DEnv → Option DEnv} {body : DEnv → SR} (P : DEnv → Prop) : ∀ {ds : List D} {ρ : DEnv}, P ρ → (∀ d ∈ ds, ∀ ρ, P ρ → ∃ ρ1 ρ', asg d ρ = some ρ1 ∧ body ρ1 = .next ρ' ∧ P ρ') → ∃ ρ', forGo asg body ds ρ = .next ρ' ∧ P ρ'
  | [], ρ, h, _ => ⟨ρ, rfl, h⟩
  | d :: ds, ρ, h, hs => by
    obtain ⟨ρ1, ρ', e1, e2, h'⟩ := hs d List.mem_cons_self ρ h
    obtain ⟨ρ2, e3, h2⟩ := forGo_inv P (ds := ds) h' fun d hd => hs d (List.mem_cons_of_mem _ hd)
    refine ⟨ρ2, ?_, h2⟩
    unfold forGo
    rw [e1]
    dsimp only
    rw [e2]
    exact e3
/-- a loop with a state that is told by the items gone -/
theorem forGo_fold {asg : D → DEnv → Option DEnv} {body : DEnv → SR} {α : Type} (st : α → DEnv) (step : α → D → α) : ∀ {ds : List D} {a : α}, (∀ d ∈ ds, ∀ a, ∃ ρ1, asg d (st a) = some ρ1 ∧ body ρ1 = .next (st (step a d))) → forGo asg body ds (st a) = .next (st (ds.foldl step a))
  | [], _, _ => rfl
  | d :: ds, a, hs => by
    obtain ⟨ρ1, e1, e2⟩ := hs d List.mem_cons_self a
    unfold forGo
    rw [e1]
    dsimp only
    rw [e2]
    exact forGo_fold st step fun d hd => hs d (List.mem_cons_of_mem _ hd)
theorem y_for {src : DEnv → Res (List D)} {is : List Nat} {hh : D → Option (List D)} {body : DEnv → SR} {ρ : DEnv} {ds : List D} (h : src ρ = .ok ds) : sFor src is hh body ρ = forGo (asgOf is hh) body ds ρ := by
  unfold sFor
  rw [h]
  rfl
theorem f_cons {asg : D → DEnv → Option DEnv} {body : DEnv → SR} {d : D} {ds : List D} {ρ ρ1 ρ' : DEnv} (h1 : asg d ρ = some ρ1) (h2 : body ρ1 = .next ρ') : forGo asg body (d :: ds) ρ = forGo asg body ds ρ' := by
  conv => lhs; unfold forGo
  rw [h1]
  dsimp only
  rw [h2]
theorem f_nil {asg : D → DEnv → Option DEnv} {body : DEnv → SR} {ρ : DEnv} : forGo asg body [] ρ = .next ρ := rfl
end PD
namespace PD
open PySem L2
def retOf : SR → Res D
  | .ret d => .ok d
  | _ => .bad
theorem retOf_ret' {r : SR} {d : D} (h : retOf r = .ok d) : r = .ret d := by
  cases r with
  | ret x => cases h; rfl
  | _ => cases h
theorem retOf_ret {r : SR} {d : D} (h : retOf r = .ok d) : r = .ret d := retOf_ret' h
theorem w_raw (v : V) : view (.raw v) = .raw v := rfl
theorem x_isE0 (a : Addr) (b : Bool) (ρ : DEnv) : fIsE 0 a b (.raw (.ref a) :: ρ) = .ok (.bool b) := by unfold fIsE; simp
theorem x_isES (i : Nat) (a : Addr) (b : Bool) (s : Slot) (ρ : DEnv) : fIsE (i + 1) a b (s :: ρ) = fIsE i a b ρ := rfl
theorem x_st {α : Type} (f : DEnv → Res α) (ρ : DEnv) : fSt f ρ = (f ρ).strict := rfl
theorem s_ok {α : Type} (a : α) : (Res.ok a).strict = .ok a := rfl
theorem x_lm (g : List D → D → Res D) (fo f : DEnv → Res D) (ρ : DEnv) : fLM g fo f ρ = ((fo ρ).bind asList).bind fun ds => (f ρ).bind fun b => g ds b := rfl
theorem x_asList (ds : List D) : asList (.list ds) = .ok ds := rfl
theorem y_bex (f : DEnv → Res D) (ρ : DEnv) : bExpr f ρ = (f ρ).bind fun _ => .ok none := rfl
theorem y_bret (f : DEnv → Res D) (ρ : DEnv) : bRet f ρ = (f ρ).bind fun d => if flatD d = true then .ok (some d) else .bad := rfl
theorem y_bif (g : DEnv → Res Bool) (F G : DEnv → Res (Option D)) (ρ : DEnv) : bIf g F G ρ = (g ρ).strict.bind fun b => if b = true then F ρ else G ρ := rfl
theorem x_via (n : Nat) (Fs : List (List D → Res D)) (fi : DEnv → Res D) (g : DEnv → Res (List D)) (ρ : DEnv) : fVia n Fs fi g ρ = (fi ρ).strict.bind fun i => (ixF Fs i).bind fun F => (g ρ).bind fun ds => if ds.length = n then F ds else .bad := rfl
theorem y_try {B : DEnv → Res (Option D)} {Lx : List Str} {FS : Str → DEnv → Res D} {ρ : DEnv} {c : Str} {d : D} (h : B (viewAll ρ) = .err c) (hL : Lx.contains c = true) (hF : FS c ρ = .ok d) : sTry B Lx FS ρ = .ret d := by
  unfold sTry
  rw [h]
  dsimp only
  rw [if_pos hL, hF]
theorem y_try_ok {B : DEnv → Res (Option D)} {Lx : List Str} {FS : Str → DEnv → Res D} {ρ : DEnv} (h : B (viewAll ρ) = .ok none) : sTry B Lx FS ρ = .next ρ := by
  unfold sTry
  rw [h]
theorem y_try_ret {B : DEnv → Res (Option D)} {Lx : List Str} {FS : Str → DEnv → Res D} {ρ : DEnv} {d : D} (h : B (viewAll ρ) = .ok (some d)) : sTry B Lx FS ρ = .ret d := by
  unfold sTry
  rw [h]
theorem lx1 {c a1 : Str} (h : List.contains [a1] c = true) : c = a1 := by simpa using h
theorem lx2 {c a1 a2 : Str} (h : List.contains [a1, a2] c = true) : c = a1 ∨ c = a2 := by simpa using h
theorem lx3 {c a1 a2 a3 : Str} (h : List.contains [a1, a2, a3] c = true) : c = a1 ∨ c = a2 ∨ c = a3 := by simpa using h
theorem lx4 {c a1 a2 a3 a4 : Str} (h : List.contains [a1, a2, a3, a4] c = true) : c = a1 ∨ c = a2 ∨ c = a3 ∨ c = a4 := by simpa using h
theorem lx5 {c a1 a2 a3 a4 a5 : Str} (h : List.contains [a1, a2, a3, a4, a5] c = true) : c = a1 ∨ c = a2 ∨ c = a3 ∨ c = a4 ∨ c = a5 := by simpa using h
theorem lx6 {c a1 a2 a3 a4 a5 a6 : Str} (h : List.contains [a1, a2, a3, a4, a5, a6] c = true) : c = a1 ∨ c = a2 ∨ c = a3 ∨ c = a4 ∨ c = a5 ∨ c = a6 := by simpa using h
theorem lx7 {c a1 a2 a3 a4 a5 a6 a7 : Str} (h : List.contains [a1, a2, a3, a4, a5, a6, a7] c = true) : c = a1 ∨ c = a2 ∨ c = a3 ∨ c = a4 ∨ c = a5 ∨ c = a6 ∨ c = a7 := by simpa using h
theorem g_addL11 (a0 b0 : D) : gAdd (.list [a0]) (.list [b0]) = .ok (.list [a0, b0]) := rfl
theorem g_addL21 (a0 a1 b0 : D) : gAdd (.list [a0, a1]) (.list [b0]) = .ok (.list [a0, a1, b0]) := rfl
theorem g_addL31 (a0 a1 a2 b0 : D) : gAdd (.list [a0, a1, a2]) (.list [b0]) = .ok (.list [a0, a1, a2, b0]) := rfl
theorem g_addL32 (a0 a1 a2 b0 b1 : D) : gAdd (.list [a0, a1, a2]) (.list [b0, b1]) = .ok (.list [a0, a1, a2, b0, b1]) := rfl
theorem g_addL51 (a0 a1 a2 a3 a4 b0 : D) : gAdd (.list [a0, a1, a2, a3, a4]) (.list [b0]) = .ok (.list [a0, a1, a2, a3, a4, b0]) := rfl
theorem g_addL41 (a0 a1 a2 a3 b0 : D) : gAdd (.list [a0, a1, a2, a3]) (.list [b0]) = .ok (.list [a0, a1, a2, a3, b0]) := rfl
theorem g_addL22 (a0 a1 b0 b1 : D) : gAdd (.list [a0, a1]) (.list [b0, b1]) = .ok (.list [a0, a1, b0, b1]) := rfl
theorem x_sl (g : D → Option Int → Option Int → Res D) (f : DEnv → Res D) (fl fh : DEnv → Res (Option Int)) (ρ : DEnv) : fSl g f fl fh ρ = (f ρ).bind fun x => (fl ρ).bind fun lo => (fh ρ).bind fun hi => g x lo hi := rfl
theorem x_np (ρ : DEnv) : fNoPart ρ = .ok none := rfl
theorem x_pt (f : DEnv → Res D) (ρ : DEnv) : fPart f ρ = (f ρ).bind asI := rfl
theorem x_asI (i : Int) : asI (.int i) = .ok (some i) := rfl
theorem g_slTa (a b c : D) : gSl (.tuple [a, b, c]) none (some 2) = .ok (.tuple [a, b]) := rfl
theorem g_slTb (a b c : D) : gSl (.tuple [a, b, c]) (some 1) none = .ok (.tuple [b, c]) := rfl
theorem g_addT12 (a b c : D) : gAdd (.tuple [a]) (.tuple [b, c]) = .ok (.tuple [a, b, c]) := rfl
theorem g_addT21 (a b c : D) : gAdd (.tuple [a, b]) (.tuple [c]) = .ok (.tuple [a, b, c]) := rfl
theorem g_addT31 (a b c d : D) : gAdd (.tuple [a, b, c]) (.tuple [d]) = .ok (.tuple [a, b, c, d]) := rfl
theorem x_mkL5 (a b c d e : D) : mkL [a, b, c, d, e] = .ok (.list [a, b, c, d, e]) := rfl
theorem x_mkL6 (a b c d e f : D) : mkL [a, b, c, d, e, f] = .ok (.list [a, b, c, d, e, f]) := rfl
theorem g_addL52 (a b c d e f g : D) : gAdd (.list [a, b, c, d, e]) (.list [f, g]) = .ok (.list [a, b, c, d, e, f, g]) := rfl
theorem g_addL72 (a b c d e f g h i : D) : gAdd (.list [a, b, c, d, e, f, g]) (.list [h, i]) = .ok (.list [a, b, c, d, e, f, g, h, i]) := rfl
theorem x_neg (i : Int) : gNeg (.int i) = .ok (.int (-i)) := rfl
end PD
/-! ### objects that are tracked for a while as they stand (a closure's cells) -/
namespace PL
open PySem PySem.Spec PyProof.Rows L2 LamX NdefX PD
abbrev Objs := List (Addr × Obj)
/-- the object at c is o -/
def CelO (c : Addr) (o : Obj) : HO := .ext fun h => h.get? c = some o
def trk (H : Hp) (cs : Objs) : Hp := fun b => match cs.lookup b with
  | some o => some (CelO b o)
  | none => H b
def unt (H : Hp) (cs : Objs) : Hp := fun b => match cs.lookup b with
  | some _ => none
  | none => H b
theorem trk_in {H : Hp} {cs : Objs} {b : Addr} {o : Obj} (h : cs.lookup b = some o) : trk H cs b = some (CelO b o) := by
  unfold trk; rw [h]
theorem trk_out {H : Hp} {cs : Objs} {b : Addr} (h : cs.lookup b = none) : trk H cs b = H b := by
  unfold trk; rw [h]
theorem unt_in {H : Hp} {cs : Objs} {b : Addr} {o : Obj} (h : cs.lookup b = some o) : unt H cs b = none := by
  unfold unt; rw [h]
theorem unt_out {H : Hp} {cs : Objs} {b : Addr} (h : cs.lookup b = none) : unt H cs b = H b := by
  unfold unt; rw [h]
theorem out_of {H : Hp} {cs : Objs} (hn : ∀ b o, cs.lookup b = some o → H b = none) {b : Addr} {u : HO} (e : H b = some u) : cs.lookup b = none := by
  cases q : cs.lookup b with
  | none => rfl
  | some o => rw [hn b o q] at e; cases e
theorem out_ne {H : Hp} {cs : Objs} (hn : ∀ b o, cs.lookup b = some o → H b = some (CelO b o)) {b : Addr} {u : HO} (e : H b = some u) (hu : ∀ o, u ≠ CelO b o) : cs.lookup b = none := by
  cases q : cs.lookup b with
  | none => rfl
  | some o =>
    rw [hn b o q] at e
    exact absurd (Option.some.inj e).symm (hu o)
theorem out_nn {H : Hp} {cs : Objs} (hn : ∀ b o, cs.lookup b = some o → H b = some (CelO b o)) {b : Addr} (e : H b = none) : cs.lookup b = none := by
  cases q : cs.lookup b with
  | none => rfl
  | some o => rw [hn b o q] at e; cases e
theorem cel_tup {c : Addr} {o : Obj} (xs : List V) : HO.tup xs ≠ CelO c o := fun z => by unfold CelO at z; cases z
theorem cel_own {c x : Addr} {o : Obj} : HO.own x ≠ CelO c o := fun z => by unfold CelO at z; cases z
theorem cel_frz {c : Addr} {o p : Obj} {u : HO} : HO.frz p u ≠ CelO c o := fun z => by unfold CelO at z; cases z
theorem cel_tbl {c : Addr} {o : Obj} {ps : Array Value} : HO.tbl ps ≠ CelO c o := fun z => by unfold CelO at z; cases z
theorem unt_trk {H : Hp} {cs : Objs} (hn : ∀ b o, cs.lookup b = some o → H b = none) : unt (trk H cs) cs = H := by
  funext b
  cases q : cs.lookup b with
  | none => rw [unt_out q, trk_out q]
  | some o => rw [unt_in q, hn b o q]
theorem same_trk {H : Hp} {cs : Objs} (hn : ∀ b o, cs.lookup b = some o → H b = none) : Same H (trk H cs) := fun b u e => by
  rw [trk_out (out_of hn e)]; exact e
theorem same_unt {H : Hp} {cs : Objs} : Same (unt H cs) H := fun b u e => by
  cases q : cs.lookup b with
  | none => rw [unt_out q] at e; exact e
  | some o => rw [unt_in q] at e; cases e
section
variable {P : Program} {w : World} {K : PySem.W.Frag} {mg : Str → Option Value} {base : Heap} {A : Around} {outer : List Env} {s s' : Shared} {H H' : Hp} {h h' : Heap} {cs : Objs}
theorem hok_trk (ok : HOk P w H h) (hn : ∀ b o, cs.lookup b = some o → H b = none) (hg : ∀ b o, cs.lookup b = some o → h.get? b = some o) : HOk P w (trk H cs) h := fun b u e => by
  cases q : cs.lookup b with
  | some o =>
    rw [trk_in q] at e
    cases e
    exact ⟨hg b o q, ⟨o, hg b o q⟩, fun h1 h2 z k => k o z⟩
  | none =>
    rw [trk_out q] at e
    refine (ok b u e).stay (fun d v _ z => z) (fun d z => ?_) fun d xs z => ?_
    · rw [trk_out (out_of hn z)]; exact z
    · rw [trk_out (out_of hn z)]; exact z
theorem hok_unt (ok : HOk P w H h) (hn : ∀ b o, cs.lookup b = some o → H b = some (CelO b o)) : HOk P w (unt H cs) h := fun b u e => by
  cases q : cs.lookup b with
  | some o => rw [unt_in q] at e; cases e
  | none =>
    rw [unt_out q] at e
    refine (ok b u e).stay (fun d v _ z => z) (fun d z => ?_) fun d xs z => ?_
    · rw [unt_out (out_ne hn z fun o => cel_own)]; exact z
    · rw [unt_out (out_ne hn z fun o => cel_tup xs)]; exact z
theorem cel_at (ok : HOk P w H h) {c : Addr} {o : Obj} (e : H c = some (CelO c o)) : h.get? c = some o := (ok c _ e).1
/-- T1: tracked at a call's entry -/
structure CsOk (base : Heap) (outer : List Env) (s : Shared) (H : Hp) (cs : Objs) : Prop where
  get : ∀ b o, cs.lookup b = some o → s.heap.get? b = some o
  free : ∀ b o, cs.lookup b = some o → H b = none
  nb : ∀ b o, cs.lookup b = some o → base.get? b = none
  nf : ∀ b o, cs.lookup b = some o → b ∉ frs outer
theorem env_trk (e0 : Env0 P w K mg base A outer s H) (c : CsOk base outer s H cs) : Env0 P w K mg base A outer s (trk H cs) := by
  refine ⟨e0.frames, e0.mod, fun b o e => ?_, e0.bsz, e0.funs, fun b hb => ?_, hok_trk e0.hok c.free c.get, e0.bare⟩
  · obtain ⟨h1, h2⟩ := e0.bs b o e
    refine ⟨h1, ?_⟩
    cases q : cs.lookup b with
    | none => rw [trk_out q]; exact h2
    | some u => rw [c.nb b u q] at e; cases e
  · cases q : cs.lookup b with
    | none => rw [trk_out q]; exact e0.frf b hb
    | some u => exact absurd hb (c.nf b u q)
/-- T2: untracked behind it -/
theorem ce_unt {Q Q' : VK} {u : Value} (c : CsOk base outer s H cs) (hQ : ∀ v H', Q v H' → (∀ b o, cs.lookup b = some o → H' b = some (CelO b o)) ∧ Q' v (unt H' cs)) (r : CE outer P w (trk H cs) s Q u s') : CE outer P w H s Q' u s' := by
  obtain ⟨v, H', os, ba, un, ok, rv, q⟩ := r
  obtain ⟨hc, q⟩ := hQ v H' q
  have pass : ∀ {b : Addr} {x : HO}, H b = some x → trk H cs b = some x ∧ cs.lookup b = none := fun {b x} e => by
    have z := out_of c.free e
    exact ⟨by rw [trk_out z]; exact e, z⟩
  refine ⟨v, unt H' cs, os, ba, ⟨fun b o e n hb hx => ?_, fun b o e n hb hx => ?_, fun b o e n hx => ?_, fun b o e hx => un.there b o e hx, fun b xs e => ?_, fun b o x e => ?_, fun b ps e => ?_⟩, hok_unt ok hc, rv, q⟩
  · cases z : cs.lookup b with
    | some ob =>
      have e1 := c.get b ob z
      rw [e] at e1
      cases e1
      exact cel_at ok (hc b o z)
    | none => exact un.keep b o e (by rw [trk_out z]; exact n) hb hx
  · cases z : cs.lookup b with
    | some ob => exact absurd hb (c.nf b ob z)
    | none => exact un.slot b o e (by rw [trk_out z]; exact n) hb hx
  · cases z : cs.lookup b with
    | some ob => exact unt_in z
    | none => rw [unt_out z]; exact un.free b o e (by rw [trk_out z]; exact n) hx
  · obtain ⟨e1, e2⟩ := pass e
    rw [unt_out e2]; exact un.tups b xs e1
  · obtain ⟨e1, e2⟩ := pass e
    rw [unt_out e2]; exact un.frzs b o x e1
  · obtain ⟨e1, e2⟩ := pass e
    rw [unt_out e2]; exact un.tbls b ps e1
/-- T3: untracked at a call's entry -/
theorem env_unt (e0 : Env0 P w K mg base A outer s H) (hn : ∀ b o, cs.lookup b = some o → H b = some (CelO b o)) : Env0 P w K mg base A outer s (unt H cs) := by
  have low : ∀ b, H b = none → unt H cs b = none := fun b e => by rw [unt_out (out_nn hn e)]; exact e
  exact ⟨e0.frames, e0.mod, fun b o e => ⟨(e0.bs b o e).1, low b (e0.bs b o e).2⟩, e0.bsz, e0.funs, fun b hb => low b (e0.frf b hb), hok_unt e0.hok hn, e0.bare⟩
/-- T4: tracked again behind it, where an exception came out -/
theorem cx_trk {E E' : XK} {u : Value} (ok : HOk P w H s.heap) (hn : ∀ b o, cs.lookup b = some o → H b = some (CelO b o)) (nf : ∀ b o, cs.lookup b = some o → b ∉ frs outer) (hE : ∀ cls d H', Same (unt H cs) H' → (∀ b o, cs.lookup b = some o → H' b = none) → E cls d H' → E' cls d (trk H' cs))
    (sm : ∀ cls d H', E cls d H' → Same (unt H cs) H') (r : L2.CX P w outer (unt H cs) s E u s') : L2.CX P w outer H s E' u s' := by
  obtain ⟨a, B, H', cls, d, e, fl, okB, ub, na, os, ba, q⟩ := r
  have hs : ∀ b o, cs.lookup b = some o → s.heap.get? b = some o := fun b o z => cel_at ok (hn b o z)
  have hB : ∀ b o, cs.lookup b = some o → B.get? b = some o := fun b o z => ub.keep b o (hs b o z) (unt_in z) (nf b o z)
  have hf : ∀ b o, cs.lookup b = some o → H' b = none := fun b o z => ub.free b o (hs b o z) (unt_in z)
  have low : ∀ {b : Addr}, H b = none → cs.lookup b = none ∧ unt H cs b = none := fun {b} e => by
    have z := out_nn hn e
    exact ⟨z, by rw [unt_out z]; exact e⟩
  refine ⟨a, B, trk H' cs, cls, d, e, fl, hok_trk okB hf hB, ⟨fun b o e n hb => ub.keep b o e (low n).2 hb, fun b o e hb => ub.slot b o e hb, fun b o e n => ?_, fun b o e hb => ub.there b o e hb, fun b xs e => ?_, fun b o x e => ?_, fun b ps e => ?_⟩, ?_, os, ba, hE cls d H' (sm cls d H' q) hf q⟩
  · rw [trk_out (low n).1]; exact ub.free b o e (low n).2
  · have z := out_ne hn e fun o => cel_tup xs
    rw [trk_out z]; exact ub.tups b xs (by rw [unt_out z]; exact e)
  · have z := out_ne hn e fun o => cel_frz
    rw [trk_out z]; exact ub.frzs b o x (by rw [unt_out z]; exact e)
  · have z := out_ne hn e fun o => cel_tbl
    rw [trk_out z]; exact ub.tbls b ps (by rw [unt_out z]; exact e)
  · cases z : cs.lookup a with
    | none => rw [trk_out z]; exact na
    | some o =>
      have := fl.2.1
      rw [hB a o z] at this
      cases this
end
end PL
/-! ### lambdas: made, tracked, called -/
namespace PL
open PySem PySem.Spec PyProof.Rows L2 LamX NdefX PD
/-- a lambda's words -/
structure LS where
  qual : Str
  params : Arguments
  body : Expr
  scope : Scope
def LamO (f : Addr) (L : LS) (cl : List (Str × Addr)) (c : Addr) : HO := .ext fun h => ∃ pm ctv : Value, h.get? f = some (PySem.W.kla_obj "<lambda>" L.qual L.params L.body L.scope cl pm c ctv)
theorem lamO_tbl {f c : Addr} {L : LS} {cl : List (Str × Addr)} (ps : Array Value) : LamO f L cl c ≠ .tbl ps := fun z => by unfold LamO at z; cases z
theorem celO_tbl {c : Addr} {o : Obj} (ps : Array Value) : CelO c o ≠ .tbl ps := fun z => by unfold CelO at z; cases z
theorem lamO_get {P : Program} {w : World} {H : Hp} {h : Heap} {f c : Addr} {L : LS} {cl : List (Str × Addr)} (ok : HOk P w H h) (e : H f = some (LamO f L cl c)) : ∃ pm ctv : Value, h.get? f = some (PySem.W.kla_obj "<lambda>" L.qual L.params L.body L.scope cl pm c ctv) := (ok f _ e).1
/-- all but the tables of T stays -/
def ExtT (T : List (Addr × Str)) (H H' : Hp) : Prop := ∀ b o, H b = some o → (∀ p ∈ T, p.1 ≠ b) → H' b = some o
theorem extN_of {T : List (Addr × Str)} {H H' : Hp} (t : Tabs T H) (x : ExtT T H H') : ExtN H H' := fun b o e n => x b o e fun p hp z => by
  obtain ⟨ps, h, _⟩ := t p hp
  rw [z, e] at h
  exact n ps (Option.some.inj h)
theorem ExtT.refl (T : List (Addr × Str)) (H : Hp) : ExtT T H H := fun _ _ e _ => e
theorem ExtT.trans {T : List (Addr × Str)} {H H1 H2 : Hp} (a : ExtT T H H1) (b : ExtT T H1 H2) : ExtT T H H2 := fun c o e n => b c o (a c o e n) n
theorem ExtT.of {T : List (Addr × Str)} {H H' : Hp} (x : Same H H') : ExtT T H H' := fun b o e _ => x b o e
section
variable {X : Cx} {pins : List (Addr × Obj)} {σ : L2.St} {H : Hp} {s : Shared}
theorem inv_lam {L : LS} {cl : List (Str × Addr)} {c : Addr} {pm ctv : Value} {t' : Nat} (I : Inv X pins σ H s) :
    Inv X pins σ (upd H s.heap.objs.size (LamO s.heap.objs.size L cl c)) { s with heap := s.heap.push (PySem.W.kla_obj "<lambda>" L.qual L.params L.body L.scope cl pm c ctv), toks := t' } := by
  have e : (s.heap.push (PySem.W.kla_obj "<lambda>" L.qual L.params L.body L.scope cl pm c ctv)).get? s.heap.objs.size = some (PySem.W.kla_obj "<lambda>" L.qual L.params L.body L.scope cl pm c ctv) := Heap.get?_push_size _ rfl
  exact I.laid (fun b u q => Heap.get?_push_of_some _ q) (Nat.le_refl _) ⟨⟨pm, ctv, e⟩, ⟨_, e⟩, fun h1 h2 ⟨x, y, z⟩ st => ⟨x, y, st _ z⟩⟩
/-- the lambda is made and tracked -/
theorem lam_made {T : List (Addr × Str)} {cc PT : Addr} {L : LS} {pos : Pos} {E : Value → Shared → Prop} {Q : Value → Shared → Prop} (I : Inv X pins σ H s) (TB : TabB X.base X.mg cc PT) (hcode : X.env.code = .ref cc)
    (hm : (PT, L.qual) ∈ T) (hq : L.qual = X.env.qual ++ "<lambda>") (hu : ∀ p ∈ T, p.1 = PT → p.2 = L.qual) (hT : Tabs T H) (hdef : defaultsOf L.params X.env = ([], [])) (hfree : ∀ y ∈ L.scope.names, y.2 = .free → ∃ c, X.env.cells.lookup y.1 = some c)
    (h : ∀ (f c' : Addr) (H1 : Hp) (s' : Shared), Inv X pins σ H1 s' → ExtT T H H1 → (∀ b, H1 b = none → H b = none) → Tabs T H1 → H f = none → H1 f = some (LamO f L (cloFrom X.env.cells L.scope.names []) c') → H1 c' = some (CodeO c' L.qual) → Q (.ref f) s') :
    wpAny (model X.prog X.w) X.A (eval (.Lambda L.params L.body L.scope pos) X.env) Q E s := by
  obtain ⟨tb, hP, t3, among⟩ := hT _ hm
  refine PySem.W.kla_eval hdef ?_
  rw [← hq]
  have bP : s.heap.BuiltinsAt X.mg PT := TB.bm.keeps I.bk
  have getP : s.heap.get? PT = some { cls := .none, data := .fields tb } := I.hok PT _ hP
  cases hc : codeAmong pos tb.toList with
  | some cv =>
    obtain ⟨c', rfl, hco⟩ := among pos cv hc
    refine PySem.W.kla_makeFunctionHit (mg := X.mg) (c := cc) (P := PT) (ps := tb) (closure_ok hfree) I.ok.glob (I.mod.glob.keeps I.bk) hcode (TB.code.keeps I.bk) getP t3 hc bP fun ctv h' tk kx hsz => ?_
    have I1 : Inv X pins σ H { s with heap := h', toks := tk } := I.kept kx
    have nF : H h'.objs.size = none := I1.hok.fresh (Nat.le_refl _)
    have grow : ∀ {b : Addr} {u : HO}, H b = some u → upd H h'.objs.size (LamO h'.objs.size L (cloFrom X.env.cells L.scope.names []) c') b = some u := fun {b u} q => (upd_ne (ne_of_none q nF)).trans q
    exact h _ c' _ _ (inv_lam (t' := tk) I1) (fun b u q _ => grow q) (fun b q => upd_none q) (hT.ext fun b u q => grow q) nF upd_same (grow hco)
  | none =>
    refine PySem.W.kla_makeFunction (mg := X.mg) (c := cc) (P := PT) (ps := tb) (closure_ok hfree) I.ok.glob (I.mod.glob.keeps I.bk) hcode (TB.code.keeps I.bk) getP t3 hc TB.gP bP fun c' ctv h' tk kx hge hlt hrec htb => ?_
    obtain ⟨c0, ob, fv, tt, ec, g1, g2, g3⟩ := hrec
    cases ec
    have nC : H c' = none := I.hok.fresh hge
    have I1 := inv_table (t' := tk) (q := L.qual) (more := #[rawInt pos.line, rawInt pos.col, .ref c']) (h' := h') I hP (fun b u hb q => kx b u hb q) htb hge ⟨ob, fv, tt, g1, g2, g3⟩
    have e1 : ExtT T H (upd (upd H PT (.tbl (tb ++ #[rawInt pos.line, rawInt pos.col, .ref c']))) c' (CodeO c' L.qual)) := fun b u q nt => by
      have d1 : b ≠ c' := ne_of_none q nC
      have d2 : b ≠ PT := fun z => nt _ hm z.symm
      rw [upd_ne d1, upd_ne d2]
      exact q
    have lst : (tb ++ #[rawInt pos.line, rawInt pos.col, Value.ref c']).toList = tb.toList ++ [rawInt pos.line, rawInt pos.col, .ref c'] := by simp
    have T1 : Tabs T (upd (upd H PT (.tbl (tb ++ #[rawInt pos.line, rawInt pos.col, .ref c']))) c' (CodeO c' L.qual)) := fun p hp => by
      by_cases hb : p.1 = PT
      · rw [hu p hp hb, hb]
        refine ⟨_, by rw [upd_ne (ne_of_none hP nC), upd_same], by rw [lst]; exact PySem.TriplesOk_snoc _ _ _ _ t3, fun p' cv q => ?_⟩
        rw [lst] at q
        rcases among_app _ t3 q with z | z
        · obtain ⟨c1, z1, z2⟩ := among p' cv z
          exact ⟨c1, z1, extN_of hT e1 _ _ z2 codeO_ne⟩
        · exact ⟨c', z, upd_same⟩
      · obtain ⟨tb', a1, a2, a3⟩ := hT p hp
        refine ⟨tb', by rw [upd_ne (ne_of_none a1 nC), upd_ne hb]; exact a1, a2, fun p' cv q => ?_⟩
        obtain ⟨c1, z1, z2⟩ := a3 p' cv q
        exact ⟨c1, z1, extN_of hT e1 _ _ z2 codeO_ne⟩
    have lost : ∀ b, upd (upd H PT (.tbl (tb ++ #[rawInt pos.line, rawInt pos.col, .ref c']))) c' (CodeO c' L.qual) b = none → H b = none := fun b q => upd_none (upd_none q)
    have at1 : upd (upd H PT (.tbl (tb ++ #[rawInt pos.line, rawInt pos.col, .ref c']))) c' (CodeO c' L.qual) c' = some (CodeO c' L.qual) := upd_same
    generalize upd (upd H PT (.tbl (tb ++ #[rawInt pos.line, rawInt pos.col, .ref c']))) c' (CodeO c' L.qual) = H1 at *
    have nF : H1 h'.objs.size = none := I1.hok.fresh (Nat.le_refl _)
    have grow : ∀ {b : Addr} {u : HO}, H1 b = some u → upd H1 h'.objs.size (LamO h'.objs.size L (cloFrom X.env.cells L.scope.names []) c') b = some u := fun {b u} q => (upd_ne (ne_of_none q nF)).trans q
    exact h _ c' _ _ (inv_lam (t' := tk) I1) (fun b u q nt => grow (e1 b u q nt)) (fun b q => lost b (upd_none q)) (T1.ext fun b u q => grow q) (I.hok.fresh (Nat.le_trans hge (Nat.le_of_lt hlt))) upd_same (grow at1)
/-- lambda: .. as an expression -/
def tLm (T : List (Addr × Str)) (L : LS) (cl : List (Str × Addr)) : TE := fun σ H Q => Tabs T H ∧ ∀ (f c' : Addr) (H1 : Hp), ExtT T H H1 → (∀ b, H1 b = none → H b = none) → Tabs T H1 → H f = none → H1 f = some (LamO f L cl c') → H1 c' = some (CodeO c' L.qual) → Q (.ref f) H1
theorem pe_lm {T : List (Addr × Str)} {cc PT : Addr} {L : LS} {pos : Pos} (TB : TabB X.base X.mg cc PT) (hcode : X.env.code = .ref cc) (hm : (PT, L.qual) ∈ T) (hq : L.qual = X.env.qual ++ "<lambda>") (hu : ∀ p ∈ T, p.1 = PT → p.2 = L.qual) (hdef : defaultsOf L.params X.env = ([], []))
    (hfree : ∀ y ∈ L.scope.names, y.2 = .free → X.env.scope.names.lookup y.1 = some .cell ∨ X.env.scope.names.lookup y.1 = some .free) :
    PE X (.Lambda L.params L.body L.scope pos) (tLm T L (cloFrom X.env.cells L.scope.names [])) := by
  refine ⟨fun pins s σ H Q I h => ?_⟩
  obtain ⟨hT, h⟩ := h
  refine lam_made I TB hcode hm hq hu hT hdef (fun y hy e => (hfree y hy e).elim (fun z => I.ok.has _ (.inl z)) fun z => I.ok.has _ (.inr z)) fun f c' H1 s' I1 e1 lo T1 nf hf hc => ?_
  exact ⟨.ref f, H1, I1, rfl, h f c' H1 e1 lo T1 nf hf hc⟩
end
/-! ### its call -/
def LS.nf (L : LS) (cl : List (Str × Addr)) (c : Addr) : NF := ⟨"<lambda>", L.qual, L.params, [], L.scope, cl, c⟩
theorem startF_of {N : List Str} {vs : List V} : startF N [] (vs.map some) = L2.start N vs := by
  unfold startF L2.start
  rw [List.map_nil, List.nil_append, List.length_map, List.length_nil, Nat.sub_zero]
/-- what is known of a lambda's words: its names, its body -/
structure LamOk (P : Program) (w : World) (K : PySem.W.Frag) (mg : Str → Option Value) (base : Heap) (k : Nat) (L : LS) (N : List Str) (fe : DEnv → Res D) : Prop where
  sc : NScope N [] N L.scope
  hb : ∀ (cl : List (Str × Addr)) (c : Addr) (pm ctv : Value), bindArgs (PySem.W.kla_fn "<lambda>" L.qual L.params L.body L.scope cl pm (.ref c) ctv) ⟨[], []⟩ = pure []
  bd : ∀ (cl : List (Str × Addr)) (c f : Addr) (A : Around) (outer : List Env) (s : Shared) (H : Hp) (E : XK), Room k (A.deeper (envF (L.nf cl c) f s.heap.objs.size)) → ∃ t, PD K mg (ncx (L2.CX P w) P w K mg base N (L.nf cl c) f A outer s H E) E L.body t fe
section
variable {P : Program} {w : World} {K : PySem.W.Frag} {mg : Str → Option Value} {base : Heap} {k : Nat} {L : LS} {N : List Str} {fe : DEnv → Res D} {cl : List (Str × Addr)} {c f : Addr} {A : Around} {outer : List Env} {s : Shared} {H : Hp} {E : XK} {Q : VK} {vs : List V}
theorem lam_run (O : LamOk P w K mg base k L N fe) (hr : Room (k + 1) A) (e0 : Env0 P w K mg base A outer s H) (hf : H f = some (LamO f L cl c)) (hc : H c = some (CodeO c L.qual)) (C : CellsAt cl N (vs.map some) s.heap H) (S : Hp) (ds : List D) (sh : Same S H) (dv : DVs K S vs ds) (hl : vs.length = N.length)
    (hq : PostG mg E S H (DV K) (fe (startD N.length ds)) Q) : codeAny (model P w) A (.call (.ref f) ⟨[], []⟩) (CR (L2.CX P w) outer P w H s Q E) s := by
  have lim : s.heap.NoLimit := e0.mod.nolimit.keeps fun b o e => (e0.bs b o e).1
  obtain ⟨pm, ctv, ho⟩ := lamO_get e0.hok hf
  refine PySem.W.kla_callFunE hr.depth ho rfl O.sc.co O.sc.gen rfl (codeO_at e0.hok hc) ?_
  rw [O.hb cl c pm ctv]
  refine wpAny_pure (wpAny_newFunctionEnv O.sc.nocell (fun y hy => absurd hy (by simp)) (fun h₁ hns hsb => ⟨lim.fresh _ hsb, ?_⟩) O.sc.kind)
  show codeAny _ _ (.expr L.body (envF (L.nf cl c) f s.heap.objs.size)) _ _
  have kp : ∀ b o, s.heap.get? b = some o → h₁.get? b = some o := fun b o q => hsb.extBut b o (Nat.ne_of_lt (Heap.lt_size q)) (Heap.get?_push_of_some _ q)
  obtain ⟨t, ht⟩ := O.bd cl c f A outer s H E (hr.deeper _)
  have I : Inv (ncx (L2.CX P w) P w K mg base N (L.nf cl c) f A outer s H E) [] (startF N [] (vs.map some)) H { s with heap := h₁, toks := s.toks + ([] : List (Str × Value)).length } := inv_startN (us := []) (vs := []) (F := L.nf cl c) O.sc hr.hd e0 rfl .nil C hns kp
  rw [startF_of] at I
  have rl := (start_rel (N := N) sh dv).relE
  refine PySem.W.kla_codeExpr (wpAny_mono (ht.pe.run [] _ _ H Q I (ht.sd S H _ _ Q rl hq)) (fun v s' q => ?_) fun e s' q => q)
  obtain ⟨x, H', J, rv, q⟩ := q
  exact ⟨x, H', J.os, J.bare, J.base, J.hok, rv, q⟩
end
end PL
/-! ### closures whose call raises -/
namespace PL
open PySem PySem.Spec PyProof.Rows L2 LamX NdefX PD
/-- what the captured cells hold, by the objects cs -/
structure CelH (cl : List (Str × Addr)) (N : List Str) (vs : List V) (cs : Objs) : Prop where
  len : vs.length = N.length
  all : ∀ y a, cl.lookup y = some a → ∃ o v, cs.lookup a = some o ∧ o.data = .cell v
  inj : ∀ x y a, cl.lookup x = some a → cl.lookup y = some a → x = y
  has : ∀ (i : Nat) (y : Str), N[i]? = some y → ∃ a, cl.lookup y = some a ∧ ∀ v, vs[i]? = some v → ∃ o u, cs.lookup a = some o ∧ RelV v u ∧ o.data = .cell (some u)
theorem CelH.at {P : Program} {w : World} {cl : List (Str × Addr)} {N : List Str} {vs : List V} {cs : Objs} {H : Hp} {h : Heap} (C : CelH cl N vs cs) (ok : HOk P w H h) (hn : ∀ b o, cs.lookup b = some o → H b = some (CelO b o)) : CellsAt cl N (vs.map some) h (unt H cs) := by
  refine ⟨by rw [List.length_map]; exact C.len, fun y a e => ?_, C.inj, fun i y e => ?_⟩
  · obtain ⟨o, v, h1, h2⟩ := C.all y a e
    exact ⟨unt_in h1, v, o, cel_at ok (hn a o h1), h2⟩
  · obtain ⟨a, h1, h2⟩ := C.has i y e
    refine ⟨a, h1, fun v ev => ?_⟩
    have ev' : vs[i]? = some v := by
      rw [List.getElem?_map] at ev
      cases q : vs[i]? with
      | none => rw [q] at ev; cases ev
      | some x => rw [q] at ev; cases ev; rfl
    obtain ⟨o, u, g1, g2, g3⟩ := h2 v ev'
    exact ⟨u, g2, o, cel_at ok (hn a o g1), g3⟩
structure Clo1 (P : Program) (w : World) (K : PySem.W.Frag) (mg : Str → Option Value) (base : Heap) (k : Nat) (c : Str) (H : Hp) (f : Addr) (L : LS) (N : List Str) (fe : DEnv → Res D) (cl : List (Str × Addr)) (cc : Addr) (vs : List V) (ds : List D) (S : Hp) (cs : Objs) : Prop where
  ok : LamOk P w K mg base k L N fe
  lam : H f = some (LamO f L cl cc)
  cod : H cc = some (CodeO cc L.qual)
  cel : CelH cl N vs cs
  trk : ∀ b o, cs.lookup b = some o → H b = some (CelO b o)
  nof : cs.lookup f = none
  noc : cs.lookup cc = none
  sh : Same S H
  nos : ∀ b o, cs.lookup b = some o → S b = none
  dv : DVs K S vs ds
  res : fe (startD N.length ds) = .err c
/-- the function at f, called without arguments, raises c -/
def Clo (P : Program) (w : World) (K : PySem.W.Frag) (mg : Str → Option Value) (base : Heap) (k : Nat) (c : Str) (H : Hp) (f : Addr) : Prop :=
  ∃ L N fe cl cc vs ds S cs, Clo1 P w K mg base k c H f L N fe cl cc vs ds S cs
section
variable {P : Program} {w : World} {K : PySem.W.Frag} {mg : Str → Option Value} {base : Heap} {k : Nat} {c : Str} {H H1 : Hp} {f : Addr}
theorem Clo.mono (h : Clo P w K mg base k c H f) (x : Same H H1) : Clo P w K mg base k c H1 f := by
  obtain ⟨L, N, fe, cl, cc, vs, ds, S, cs, z⟩ := h
  exact ⟨L, N, fe, cl, cc, vs, ds, S, cs, z.ok, x _ _ z.lam, x _ _ z.cod, z.cel, fun b o e => x _ _ (z.trk b o e), z.nof, z.noc, z.sh.trans x, z.nos, z.dv, z.res⟩
theorem Clo.fnAt {h : Heap} (z : Clo P w K mg base k c H f) (ok : HOk P w H h) : PySem.W.FnAt f h := by
  obtain ⟨L, N, fe, cl, cc, vs, ds, S, cs, z⟩ := z
  obtain ⟨pm, ctv, e⟩ := lamO_get ok z.lam
  exact ⟨_, _, _, _, e⟩
theorem clo_run {A : Around} {outer : List Env} {s : Shared} {E : XK} {Q : VK} (z : Clo P w K mg base k c H f) (hr : Room (k + 1) A) (e0 : Env0 P w K mg base A outer s H) (hE : ∀ u H', mg c = some u → Same H H' → E u none H') :
    codeAny (model P w) A (.call (.ref f) ⟨[], []⟩) (CR (L2.CX P w) outer P w H s Q E) s := by
  obtain ⟨L, N, fe, cl, cc, vs, ds, S, cs, z⟩ := z
  have nf : ∀ b o, cs.lookup b = some o → b ∉ frs outer := fun b o q m => by
    have := e0.frf b m
    rw [z.trk b o q] at this
    cases this
  have sS : Same S (unt H cs) := fun b u q => by
    cases e : cs.lookup b with
    | none => rw [unt_out e]; exact z.sh b u q
    | some o => rw [z.nos b o e] at q; cases q
  have run := lam_run (E := fun cls d H' => d = none ∧ mg c = some cls ∧ Same (unt H cs) H') (Q := fun _ _ => False) z.ok hr (env_unt e0 z.trk) (by rw [unt_out z.nof]; exact z.lam) (by rw [unt_out z.noc]; exact z.cod) (z.cel.at e0.hok z.trk) S ds sS z.dv z.cel.len
    (by rw [z.res]; exact fun u H' e x => ⟨rfl, e, x⟩)
  refine codeAny_mono run fun r s' q => ?_
  cases r with
  | error e =>
    refine cx_trk e0.hok z.trk nf (fun cls d H' x hf ⟨h1, h2, h3⟩ => ?_) (fun cls d H' h => h.2.2) q
    subst h1
    refine hE cls _ h2 fun b u e => ?_
    cases q : cs.lookup b with
    | some o =>
      rw [trk_in q, ← z.trk b o q]
      exact e
    | none =>
      rw [trk_out q]
      exact h3 b u (by rw [unt_out q]; exact e)
  | ok fl =>
    cases fl with
    | ret u =>
      obtain ⟨v, H', _, _, _, _, _, q⟩ := q
      exact q.elim
    | next => exact q
    | brk => exact q
    | cont => exact q
end
def tClo (P : Program) (w : World) (K : PySem.W.Frag) (mg : Str → Option Value) (base : Heap) (k i : Nat) (W : WX) : TE := fun σ H _ => ∃ f c, σ[i]? = some (some (.ref f)) ∧ Clo P w K mg base k c H f ∧ ∀ u H', mg c = some u → Same H H' → W u none σ H'
/-- a(), a the name of a closure that raises -/
theorem pe_clo {X : Cx} {W : WX} {k i : Nat} {a : Str} {p1 p2 : Pos} (hr : Room (k + 1) X.A) (tk : Takes X W) (hN : X.N[i]? = some a) (hv : Vis X.env.scope a) (hd : (a == ("__debug__" : Str)) = false := by decide) (hcd : (a == ("__classdict__" : Str)) = false := by decide) :
    PE X (.Call (.Name a p1) [] [] p2) (tClo X.prog X.w X.K X.mg X.base k i W) := by
  refine ⟨fun pins s σ H Q I h => ?_⟩
  obtain ⟨f, c, hs, hc, hW⟩ := h
  refine wpAny_Call_Name_kw (thn ((pe_var (pos := p1) (i := i) hN hv hd hcd).run pins s σ H (fun v H1 => v = .ref f ∧ H1 = H) I ⟨.ref f, hs, rfl, rfl⟩) fun u s1 ⟨v, H1, I1, r1, ev, eH⟩ => ?_)
  subst ev
  rw [eH] at I1
  obtain rfl : u = Value.ref f := r1
  refine PySem.W.callWith_F0 (first := []) (hc.fnAt I1.hok) ?_
  show wpAny _ _ (call (.ref f) []) _ _ _
  refine wpAny_call (codeAny_mono (clo_run (E := WE W σ) (Q := Q) hc hr I1.env0 hW) fun r s' q => ?_)
  cases r with
  | error e => exact passAt tk σ pins H s1 e s' I1 q
  | ok fl =>
    cases fl with
    | ret u => exact I1.after q
    | next => exact q.elim
    | brk => exact q.elim
    | cont => exact q.elim
/-! ### a def called in an except suite, with the exception -/
/-- isinstance(e, c), e pinned -/
theorem call_isP {X : Cx} {a C : Addr} {oe : Obj} (hp : (a, oe) ∈ X.pn) (eC : ExcC X.K C) (hz : Zc (.ref C) none oe) (hf : ∃ vs, oe.data = .fields vs) : CallR X (.builtin "isinstance") (rIsE X.K C a) := by
  intro pins s σ H xs us Q I r h
  obtain ⟨cv, u, b, rfl, hu, hk, q⟩ := h
  cases r with
  | cons r1 r2 =>
    cases r2 with
    | cons r3 r4 =>
      cases r4
      cases r1
      have e1 := hu _ r3
      subst e1
      have hg := (I.pin (a, oe) (List.mem_append_left _ hp)).1
      have J : PySem.W.InstAt s.heap a oe C none := by
        obtain ⟨fv, d1⟩ := hf
        obtain ⟨x1, x2, x3, x4⟩ := oe
        obtain ⟨c1, c2⟩ := hz
        dsimp only at c1 c2 d1
        subst c1 c2 d1
        exact ⟨hg, rfl, rfl, trivial⟩
      exact PySem.W.kia_one (PySem.W.handS_kitx_exc eC.hg eC.hk eC.hs eC.hd eC.ha eC.hn eC.ht eC.hm) I.kIn J hk (fun z => nomatch z) fun tk => ⟨.bl b, H, I.kept (t' := tk) fun _ _ z => z, rfl, q⟩
section
variable {K : PySem.W.Frag} {mg : Str → Option Value} {X : Cx} {E : XK} {i : Nat}
theorem pd_isP {a C CD : Addr} {oe : Obj} {xe xD : Str} {p1 p2 p3 pos : Pos} {b : Bool} (hp : (a, oe) ∈ X.pn) (eC : ExcC X.K C) (hz : Zc (.ref C) none oe) (hf : ∃ vs, oe.data = .fields vs) (hkit : PySem.W.kitOne K (.ref C) (.ref CD) = some b) (hv : PE X (.Name xe p1) (tVar i))
    (hg : Gl X "isinstance") (hm : X.mg "isinstance" = none) (hgD : Gl X xD) (hmD : X.mg xD = some (.ref CD)) (hd : (xD == ("__debug__" : Str)) = false := by decide)
    (h1 : starEach [.Name xe p1, .Name xD p2] X.env = (false, eval (.Name xe p1) X.env) :: starEach [.Name xD p2] X.env := by rfl) (h2 : starEach [.Name xD p2] X.env = (false, eval (.Name xD p2) X.env) :: starEach [] X.env := by rfl) (hpl : (backTo pos (starEach [.Name xD p2] X.env)).any (·.1) = false := by rfl) (hK : X.K = K := by rfl) :
    PD K mg X E (.Call (.Name "isinstance" p3) [.Name xe p1, .Name xD p2] [] pos) (tCB (rIsE K C a) (tCons (tVar i) (tCons (tC (.ref CD)) tNil))) (fIsE i a b) := by
  subst hK
  refine ⟨pe_callB (call_isP hp eC hz hf) hg hm bt_isinstance (pa_cons hv (pa_cons (pe_glob (v := .ref CD) hgD hmD rfl hd) pa_nil h2) h1) (by decide) (by decide) h1 hpl, fun S H σ ρ Q rl h => ?_⟩
  unfold fIsE at h
  split at h
  · rename_i a' e
    split at h
    · rename_i ea
      subst ea
      exact ⟨_, rl.rw _ _ e, _, _, b, rfl, fun u hu => hu, hkit, h.ok0 rl.sh rfl⟩
    · exact h.elim
  · exact h.elim
/-- isinstance(e, T), T a built-in class -/
theorem pd_isT {a C : Addr} {oe : Obj} {T : String} {xe xD : Str} {p1 p2 p3 pos : Pos} {b : Bool} (hp : (a, oe) ∈ X.pn) (eC : ExcC X.K C) (hz : Zc (.ref C) none oe) (hf : ∃ vs, oe.data = .fields vs) (hkit : PySem.W.kitOne K (.ref C) (.type T) = some b) (hv : PE X (.Name xe p1) (tVar i))
    (hg : Gl X "isinstance") (hm : X.mg "isinstance" = none) (hgD : Gl X xD) (hmD : X.mg xD = none) (hbD : bootBuiltins xD = some (.type T)) (hnD : xD ≠ "__name__" := by decide) (hd : (xD == ("__debug__" : Str)) = false := by decide)
    (h1 : starEach [.Name xe p1, .Name xD p2] X.env = (false, eval (.Name xe p1) X.env) :: starEach [.Name xD p2] X.env := by rfl) (h2 : starEach [.Name xD p2] X.env = (false, eval (.Name xD p2) X.env) :: starEach [] X.env := by rfl) (hpl : (backTo pos (starEach [.Name xD p2] X.env)).any (·.1) = false := by rfl) (hK : X.K = K := by rfl) :
    PD K mg X E (.Call (.Name "isinstance" p3) [.Name xe p1, .Name xD p2] [] pos) (tCB (rIsE K C a) (tCons (tVar i) (tCons (tC (.ty T)) tNil))) (fIsE i a b) := by
  subst hK
  refine ⟨pe_callB (call_isP hp eC hz hf) hg hm bt_isinstance (pa_cons hv (pa_cons (pe_bltn (v := .ty T) hgD hmD hbD rfl hnD hd) pa_nil h2) h1) (by decide) (by decide) h1 hpl, fun S H σ ρ Q rl h => ?_⟩
  unfold fIsE at h
  split at h
  · rename_i a' e
    split at h
    · rename_i ea
      subst ea
      exact ⟨_, rl.rw _ _ e, _, _, b, rfl, fun u hu => hu, hkit, h.ok0 rl.sh rfl⟩
    · exact h.elim
  · exact h.elim
end
open L2H (RoomH PinOk cxH inv_startH) in
/-- the def at f, called with the exception p in its suite -/
theorem run_hot {CX : CXT} {P : Program} {w : World} {K : PySem.W.Frag} {mg : Str → Option Value} {base : Heap} {k : Nat} {f : Addr} {name qual : Str} {params : Arguments} {body : List Stmt} {scope : Scope} {dV kV doc pm cdv ct oc : Value} {an od : Option Addr} {osl : Array (Option Value)} {N ps : List Str} {A : Around} {outer : List Env} {s : Shared} {H : Hp} {args : Args} {us : List Value} {vs : List V} {Q : VK} {E : XK} {p : Addr × Obj}
    (lk : K.lookup f = some ⟨oc, od, .func (PySem.W.fnOf name qual params body scope dV kV doc pm an cdv ct), osl⟩) (hcd : PySem.W.codeIn K cdv qual = true) (Sc : FnScope N ps scope) (hr : RoomH (k + 1) A) (e0 : Env0 P w K mg base A outer s H) (hpin : PinOk outer H s p) (hb : BindsTo s (PySem.W.fnOf name qual params body scope dV kV doc pm an cdv ct) args (ps.zip us))
    (r : Vals vs us) (hl : vs.length = ps.length) (hbody : RoomH k (A.deeper (envOfC qual scope s.heap.objs.size f cdv)) → ∃ t, PSs (cxH CX P w K mg base N qual scope f cdv A outer s H E p) body t ∧ t { nx := fun _ H' => Q .non H', rt := Q } (L2.start N vs) H) :
    codeAny (model P w) A (.call (.ref f) args) (CR CX outer P w H s Q E) s := by
  have inK : K.In s.heap := e0.mod.kin.keeps fun b o q => (e0.bs b o q).1
  have noL : s.heap.NoLimit := e0.mod.nolimit.keeps fun b o q => (e0.bs b o q).1
  have par : ∀ y ∈ ps.zip us, scope.names.lookup y.1 = some .local ∨ (scope.names.lookup y.1 = some .cell ∧ ((cellsFrom (s.heap.objs.size + 1) scope.names []).lookup y.1).isSome = true) := fun ⟨x, v⟩ m => by
    rcases Sc.par x (List.of_mem_zip m).1 with z | z
    · exact .inl z
    · exact .inr ⟨z, PySem.W.cellsFrom_some _ _ _ (.inl z)⟩
  refine codeAny_call_function hr.depth (inK _ _ lk) rfl Sc.co Sc.gen rfl (PySem.W.codeRec_of inK hcd) (hb _ _ _ _ ?_)
  refine wpAny_newFunctionEnv_cells Sc.kind par fun env ee s1 x => ?_
  subst ee
  refine ⟨noL.keeps x.toInCall.keep, codeAny_func ?_⟩
  obtain ⟨t, h1, h2⟩ := hbody (hr.deeper _)
  have I : Inv (cxH CX P w K mg base N qual scope f cdv A outer s H E p) [] (L2.start N vs) H s1 := inv_startH Sc hpin e0 hl r x
  refine wpAny_mono (h1.run [] s1 (L2.start N vs) H _ I h2) (fun fl s' z => ?_) fun e s' z => z
  cases fl with
  | ret u =>
    obtain ⟨v, σ', H', J, rv, q⟩ := z
    exact ⟨v, H', J.os, J.bare, J.base, J.hok, rv, q⟩
  | next =>
    obtain ⟨σ', H', J, q⟩ := z
    exact ⟨V.non, H', J.os, J.bare, J.base, J.hok, rfl, q⟩
  | brk =>
    obtain ⟨_, _, _, q⟩ := z
    exact q.elim
  | cont =>
    obtain ⟨_, _, _, q⟩ := z
    exact q.elim
end PL
/-! ### closures of a running frame, lists of closures -/
namespace PL
open PySem PySem.Spec PyProof.Rows L2 LamX NdefX PD
/-! #### the frame's cells -/
theorem lk_self (b : Addr) (u : Obj) (cs : Objs) : List.lookup b ((b, u) :: cs) = some u := by
  rw [List.lookup_cons, beq_self_eq_true]
theorem lk_ne {a b : Addr} (u : Obj) (cs : Objs) (h : a ≠ b) : List.lookup a ((b, u) :: cs) = cs.lookup a := by
  rw [List.lookup_cons, beq_eq_false_iff_ne.mpr h]
theorem lk_mem : ∀ (cs : Objs) (a : Addr) (o : Obj), cs.lookup a = some o → (a, o) ∈ cs
  | [], a, o, e => absurd e (by simp)
  | (b, u) :: cs, a, o, e => by
    by_cases hb : a = b
    · rw [hb, lk_self] at e
      rw [hb, Option.some.inj e]
      exact List.mem_cons_self
    · rw [lk_ne u cs hb] at e
      exact List.mem_cons_of_mem _ (lk_mem cs a o e)
theorem mem_lk : ∀ (cs : Objs) (a : Addr) (o : Obj), (a, o) ∈ cs → ∃ u, cs.lookup a = some u
  | [], a, o, e => absurd e List.not_mem_nil
  | (b, u) :: cs, a, o, e => by
    by_cases hb : a = b
    · rw [hb, lk_self]
      exact ⟨u, rfl⟩
    · rw [lk_ne u cs hb]
      rcases List.mem_cons.mp e with z | z
      · exact absurd (congrArg Prod.fst z) hb
      · exact mem_lk cs a o z
def csOf (h : Heap) (cells : List (Str × Addr)) : Objs := cells.filterMap fun p => if cells.lookup p.1 = some p.2 then (h.get? p.2).map fun o => (p.2, o) else none
theorem cs_get {h : Heap} {cells : List (Str × Addr)} {a : Addr} {o : Obj} (e : (csOf h cells).lookup a = some o) : h.get? a = some o ∧ ∃ y, cells.lookup y = some a := by
  obtain ⟨p, _, q⟩ := List.mem_filterMap.mp (lk_mem _ _ _ e)
  by_cases z : cells.lookup p.1 = some p.2
  · rw [if_pos z] at q
    obtain ⟨u, g, q⟩ := Option.map_eq_some_iff.mp q
    have e1 : p.2 = a := congrArg Prod.fst q
    have e2 : u = o := congrArg Prod.snd q
    rw [e1] at g z
    rw [e2] at g
    exact ⟨g, p.1, z⟩
  · rw [if_neg z] at q
    exact absurd q (by simp)
theorem cs_has {h : Heap} {cells : List (Str × Addr)} {y : Str} {a : Addr} {o : Obj} (e : cells.lookup y = some a) (g : h.get? a = some o) : (csOf h cells).lookup a = some o := by
  have m : (a, o) ∈ csOf h cells := List.mem_filterMap.mpr ⟨(y, a), PySem.mem_of_lookup e, by rw [if_pos e, g]; rfl⟩
  obtain ⟨u, hu⟩ := mem_lk _ _ _ m
  have e2 := (cs_get hu).1
  rw [g] at e2
  rw [hu, Option.some.inj e2]
section
variable {X : Cx} {pins : List (Addr × Obj)} {σ : L2.St} {H : Hp} {s : Shared}
theorem cs_above (I : Inv X pins σ H s) (hfn : ∀ y, X.fn y = true) {a : Addr} {o : Obj} (e : (csOf s.heap X.env.cells).lookup a = some o) : X.s_0.heap.objs.size ≤ a := by
  obtain ⟨_, y, q⟩ := cs_get e
  exact I.ok.cab y a (hfn y) q
theorem cs_free (I : Inv X pins σ H s) {a : Addr} {o : Obj} (e : (csOf s.heap X.env.cells).lookup a = some o) : H a = none := by
  obtain ⟨_, y, q⟩ := cs_get e
  exact I.freeC y a q
theorem cs_ok (I : Inv X pins σ H s) (hfn : ∀ y, X.fn y = true) : CsOk X.base X.stack s H (csOf s.heap X.env.cells) := by
  refine ⟨fun b o e => (cs_get e).1, fun b o e => cs_free I e, fun b o e => ?_, fun b o e m => ?_⟩
  · have up := cs_above I hfn e
    cases q : X.base.get? b with
    | none => rfl
    | some u => exact absurd (Heap.lt_size q) (Nat.not_lt.mpr (Nat.le_trans I.ok.bsz up))
  · have up := cs_above I hfn e
    rcases List.mem_cons.mp (I.stkSub b m) with z | z
    · obtain ⟨_, y, q⟩ := cs_get e
      exact I.cne y b q z
    · obtain ⟨_, u, hu, _⟩ := I.ok.funs.mem z
      exact absurd (Heap.lt_size hu) (Nat.not_lt.mpr up)
/-- the cells that a lambda of this frame has captured -/
theorem cel_of {L : LS} {N : List Str} {js : List Nat} {vs : List V} (I : Inv X pins σ H s) (Sc : NScope N [] N L.scope) (hfree : ∀ y ∈ L.scope.names, y.2 = .free → X.env.scope.names.lookup y.1 = some .cell ∨ X.env.scope.names.lookup y.1 = some .free) (hjs : js.map (fun j => X.N[j]?) = N.map some) (hv : js.map (slotAt σ) = vs.map some) :
    CelH (cloFrom X.env.cells L.scope.names []) N vs (csOf s.heap X.env.cells) := by
  have hf : ∀ y ∈ L.scope.names, y.2 = .free → ∃ c, X.env.cells.lookup y.1 = some c := fun y hy e => (hfree y hy e).elim (fun z => I.ok.has _ (.inl z)) fun z => I.ok.has _ (.inr z)
  have C := cells_of I (Caps.made (fr := N) I.ok hfree (fun y hy => PySem.mem_of_lookup (Sc.frk y hy)) hjs)
  rw [hv] at C
  refine ⟨by have := C.len; rwa [List.length_map] at this, fun y a e => ?_, C.inj, fun i y e => ?_⟩
  · obtain ⟨_, v, o, ho, hd⟩ := C.all y a e
    exact ⟨o, v, cs_has (clo_cm hf e) ho, hd⟩
  · obtain ⟨a, ha, q⟩ := C.has i y e
    refine ⟨a, ha, fun v ev => ?_⟩
    obtain ⟨u, r, o, ho, hd⟩ := q v (by rw [List.getElem?_map, ev]; rfl)
    exact ⟨o, u, cs_has (clo_cm hf ha) ho, r, hd⟩
end
/-- a lambda of the running frame that raises c when it is called -/
structure CloL1 (X : Cx) (k : Nat) (c : Str) (σ : L2.St) (H : Hp) (f : Addr) (L : LS) (N : List Str) (fe : DEnv → Res D) (cc : Addr) (js : List Nat) (vs : List V) (ds : List D) (S : Hp) : Prop where
  ok : LamOk X.prog X.w X.K X.mg X.base k L N fe
  lam : H f = some (LamO f L (cloFrom X.env.cells L.scope.names []) cc)
  cod : H cc = some (CodeO cc L.qual)
  free : ∀ y ∈ L.scope.names, y.2 = .free → X.env.scope.names.lookup y.1 = some .cell ∨ X.env.scope.names.lookup y.1 = some .free
  at_ : js.map (fun j => X.N[j]?) = N.map some
  val : js.map (slotAt σ) = vs.map some
  sh : Same S H
  dv : DVs X.K S vs ds
  res : fe (startD N.length ds) = .err c
def CloL (X : Cx) (k : Nat) (c : Str) (σ : L2.St) (H : Hp) (f : Addr) : Prop := ∃ L N fe cc js vs ds S, CloL1 X k c σ H f L N fe cc js vs ds S
theorem CloL.clo {X : Cx} {k : Nat} {c : Str} {σ : L2.St} {H : Hp} {f : Addr} {pins : List (Addr × Obj)} {s : Shared} (z : CloL X k c σ H f) (I : Inv X pins σ H s) : Clo X.prog X.w X.K X.mg X.base k c (trk H (csOf s.heap X.env.cells)) f := by
  obtain ⟨L, N, fe, cc, js, vs, ds, S, z⟩ := z
  have hn : ∀ b o, (csOf s.heap X.env.cells).lookup b = some o → H b = none := fun b o e => cs_free I e
  refine ⟨L, N, fe, _, cc, vs, ds, S, csOf s.heap X.env.cells, z.ok, ?_, ?_, cel_of I z.ok.sc z.free z.at_ z.val, fun b o e => trk_in e, out_of hn z.lam, out_of hn z.cod, z.sh.trans (same_trk hn), fun b o e => ?_, z.dv, z.res⟩
  · rw [trk_out (out_of hn z.lam)]; exact z.lam
  · rw [trk_out (out_of hn z.cod)]; exact z.cod
  · cases q : S b with
    | none => rfl
    | some u => exact absurd (z.sh b u q) (by rw [hn b o e]; exact fun z => nomatch z)
/-! #### _law_all(calls, name) -/
abbrev LX : List Str := ["InvalidCamera", "InvalidSetting", "InvalidWheel", "InvalidBrightness", "InvalidNumber"]
def spAll (P : Program) (w : World) (K : PySem.W.Frag) (mg : Str → Option Value) (base : Heap) (k : Nat) : Sp := fun vs H Q _ => ∃ (l : Addr) (fs : List Addr) (c : Str), vs = [.ref l, .str c] ∧ LX.contains c = true ∧ H l = some (.lst (fs.map V.ref)) ∧ fs.length ≤ 100 ∧ (∀ f ∈ fs, Clo P w K mg base k c H f) ∧ ∀ H', Same H H' → Q (.bl true) H'
/-- of closures that the running frame has made -/
def tAllL (X : Cx) (k i : Nat) (c : Str) : TE := fun σ H Q => ∃ (l : Addr) (fs : List Addr), σ[i]? = some (some (.ref l)) ∧ H l = some (.lst (fs.map V.ref)) ∧ fs.length ≤ 100 ∧ (∀ f ∈ fs, CloL X k c σ H f) ∧ ∀ H', Same H H' → Q (.bl true) H'
theorem pe_allL {X : Cx} {k kk i j : Nat} {x y c : Str} {g : Addr} {fd : FuncData} {p p1 p2 pos : Pos} (G : FnOk X.prog X.w X.K X.mg X.base (L2.CX X.prog X.w) kk g fd ["calls", "name"] (spAll X.prog X.w X.K X.mg X.base k)) (hr : Room kk X.A) (hfn : ∀ y, X.fn y = true) (hg : Gl X x) (hm : X.mg x = some (.ref g)) (hk : PySem.W.keepIn X.K (.ref g) = true) (hb : Binds X.K fd ["calls", "name"] [])
    (hv : PE X (.Name y p1) (tVar i)) (hL : LX.contains c = true) (hdb : (x == ("__debug__" : Str)) = false := by decide) (h1 : starEach [.Name y p1, .Constant (.str c) j p2] X.env = (false, eval (.Name y p1) X.env) :: starEach [.Constant (.str c) j p2] X.env := by rfl) (h2 : starEach [.Constant (.str c) j p2] X.env = (false, eval (.Constant (.str c) j p2) X.env) :: starEach [] X.env := by rfl)
    (hpl : (backTo pos (starEach [.Constant (.str c) j p2] X.env)).any (·.1) = false := by rfl) : PE X (.Call (.Name x p) [.Name y p1, .Constant (.str c) j p2] [] pos) (tAllL X k i c) := by
  refine ⟨fun pins s σ H Q I h => ?_⟩
  obtain ⟨l, fs, hs, hl, hn, hc, q⟩ := h
  refine wpAny_Call_Name_kw (ld_glob I hg hm ?_ hdb)
  have ha : PA X [.Name y p1, .Constant (.str c) j p2] (tCons (tVar i) (tCons (tC (.str c)) tNil)) := pa_cons hv (pa_cons pe_str pa_nil h2) h1
  refine PySem.W.callWith_K (h₀ := X.base) I.ok.mod.kin hk (thn (ha.run pos pins s σ H (fun vs H' => vs = [.ref l, .str c] ∧ H' = H) I ⟨.ref l, hs, rfl, rfl⟩) fun us s1 ⟨vs, H1, I1, r, ev, eH⟩ => ⟨I1.kIn, ?_⟩) h1 hpl
  subst ev
  rw [eH] at I1
  show wpAny _ _ (call (.ref g) us) _ _ _
  have C := cs_ok I1 hfn
  have bt := hb s1 us I1.kIn (by rw [List.append_nil, ← r.length]; rfl)
  rw [List.append_nil] at bt
  have sp : spAll X.prog X.w X.K X.mg X.base k [.ref l, .str c] (trk H (csOf s1.heap X.env.cells)) (fun v H' => v = .bl true ∧ Same (trk H (csOf s1.heap X.env.cells)) H') (fun _ _ _ => False) :=
    ⟨l, fs, c, rfl, hL, by rw [trk_out (out_of C.free hl)]; exact hl, hn, fun f hf => (hc f hf).clo I1, fun H' x => ⟨rfl, x⟩⟩
  refine wpAny_call (codeAny_mono (G.run X.A X.stack s1 _ ⟨us, []⟩ us _ _ _ hr (env_trk I1.env0 C) bt r sp) fun r s' z => ?_)
  cases r with
  | error e =>
    obtain ⟨_, _, _, _, _, _, _, _, _, _, _, _, z⟩ := z
    exact z.elim
  | ok fl =>
    cases fl with
    | ret u =>
      refine I1.after (ce_unt C (fun v H' ⟨e, x⟩ => ⟨fun b o z => x _ _ (trk_in z), ?_⟩) z)
      rw [e]
      refine q _ fun b u z => ?_
      have o := out_of C.free z
      rw [unt_out o]
      exact x b u (by rw [trk_out o]; exact z)
    | next => exact z.elim
    | brk => exact z.elim
    | cont => exact z.elim
/-! #### a def that returns closures -/
structure PZ (X : Cx) (sts : List Stmt) (t : (V → L2.St → Hp → Prop) → L2.St → Hp → Prop) : Prop where
  run : ∀ (pins : List (Addr × Obj)) (s : Shared) (σ : L2.St) (H : Hp) (Z : V → L2.St → Hp → Prop), Inv X pins σ H s → t Z σ H → wpAny (model X.prog X.w) X.A (execs sts X.env) (fun fl s' => ∃ u, fl = .ret u ∧ ∃ v σ' H', Inv X pins σ' H' s' ∧ RelV v u ∧ Z v σ' H') X.xe s
theorem pz_cons {X : Cx} {st : Stmt} {rest : List Stmt} {t : TS} {u : (V → L2.St → Hp → Prop) → L2.St → Hp → Prop} (h1 : PS X st t) (h2 : PZ X rest u) : PZ X (st :: rest) (fun Z σ H => t { nx := u Z, rt := fun _ _ => False } σ H) := by
  refine ⟨fun pins s σ H Z I h => wpAny_execs_cons (thn (h1.run pins s σ H _ I h) fun f s1 q => ?_)⟩
  cases f with
  | next =>
    obtain ⟨σ', H', I', q⟩ := q
    exact h2.run pins s1 σ' H' Z I' q
  | ret v =>
    obtain ⟨_, _, _, _, _, q⟩ := q
    exact q.elim
  | brk =>
    obtain ⟨_, _, _, q⟩ := q
    exact q.elim
  | cont =>
    obtain ⟨_, _, _, q⟩ := q
    exact q.elim
theorem pz_ret {X : Cx} {e : Expr} {te : TE} {pos : Pos} (he : PE X e te) : PZ X [.Return (some e) pos] (fun Z σ H => te σ H fun v H' => Z v σ H') := by
  refine ⟨fun pins s σ H Z I h => wpAny_execs_cons (wpAny_Return_some (thn (he.run pins s σ H _ I h) fun v s1 ⟨x, H1, I1, r1, q1⟩ => ?_))⟩
  exact ⟨v, rfl, x, σ, H1, I1, r1, q1⟩
structure FunC (K : PySem.W.Frag) (x qual : Str) (st : Stmt) (f : Addr) (fd : FuncData) (cc : Addr) : Prop where
  ex : ∃ (oc : Value) (od : Option Addr) (kV doc pm : Value) (an : Option Addr) (ct : Value) (osl : Array (Option Value)),
    fd = PySem.W.fnOf x qual (defArgs st) (defBody st) (defScope st) .none kV doc pm an (.ref cc) ct ∧ K.lookup f = some ⟨oc, od, .func fd, osl⟩ ∧ PySem.W.codeIn K (.ref cc) qual = true
  kp : PySem.W.keepIn K (.ref f) = true
theorem fn_mk {P : Program} {w : World} {K : PySem.W.Frag} {mg : Str → Option Value} {base : Heap} {x qual : Str} {st : Stmt} {f cc : Addr} {fd : FuncData} {N ps : List Str} {k : Nat} {sp : Sp} (F : FunC K x qual st f fd cc) (Sc : FnScope N ps (defScope st)) (len : ∀ vs H Q E, sp vs H Q E → vs.length = ps.length)
    (hbody : ∀ (A : Around) (outer : List Env) (s : Shared) (H : Hp) (vs : List V) (Q : VK) (E : XK), Room k (A.deeper (envOfC qual (defScope st) s.heap.objs.size f (.ref cc))) → sp vs H Q E → ∃ t, PZ (cxOf (L2.CX P w) P w K mg base N qual (defScope st) f (.ref cc) A outer s H E) (defBody st) t ∧
      t (fun v σ' H' => ∀ s', Inv (cxOf (L2.CX P w) P w K mg base N qual (defScope st) f (.ref cc) A outer s H E) [] σ' H' s' → Q v (trk H' (csOf s'.heap (cxOf (L2.CX P w) P w K mg base N qual (defScope st) f (.ref cc) A outer s H E).env.cells))) (L2.start N vs) H) : FnOk P w K mg base (L2.CX P w) (k + 1) f fd ps sp := by
  obtain ⟨oc, od, kV, doc, pm, an, ct, osl, rfl, lk, hcd⟩ := F.ex
  refine ⟨len, fun A outer s H args us vs Q E hr e0 hb r hsp => ?_⟩
  have hl := len _ _ _ _ hsp
  have inK : K.In s.heap := e0.mod.kin.keeps fun b o q => (e0.bs b o q).1
  have noL : s.heap.NoLimit := e0.mod.nolimit.keeps fun b o q => (e0.bs b o q).1
  have par : ∀ y ∈ ps.zip us, (defScope st).names.lookup y.1 = some .local ∨ ((defScope st).names.lookup y.1 = some .cell ∧ ((cellsFrom (s.heap.objs.size + 1) (defScope st).names []).lookup y.1).isSome = true) := fun ⟨x, v⟩ m => by
    rcases Sc.par x (List.of_mem_zip m).1 with z | z
    · exact .inl z
    · exact .inr ⟨z, PySem.W.cellsFrom_some _ _ _ (.inl z)⟩
  refine codeAny_call_function hr.depth (inK _ _ lk) rfl Sc.co Sc.gen rfl (PySem.W.codeRec_of inK hcd) (hb _ _ _ _ ?_)
  refine wpAny_newFunctionEnv_cells Sc.kind par fun env ee s1 x => ?_
  subst ee
  refine ⟨noL.keeps x.toInCall.keep, codeAny_func ?_⟩
  obtain ⟨t, h1, h2⟩ := hbody A outer s H vs Q E (hr.deeper _) hsp
  have I : Inv (cxOf (L2.CX P w) P w K mg base N qual (defScope st) f (.ref cc) A outer s H E) [] (L2.start N vs) H s1 := inv_start Sc hr.hd e0 hl r x
  refine wpAny_mono (h1.run [] s1 (L2.start N vs) H _ I h2) (fun fl s' z => ?_) fun e s' z => z
  obtain ⟨u, rfl, v, σ', H', J, rv, q⟩ := z
  have C := cs_ok J (fun _ => rfl)
  have hn := C.free
  have up : ∀ b o, (csOf s'.heap (cxOf (L2.CX P w) P w K mg base N qual (defScope st) f (.ref cc) A outer s H E).env.cells).lookup b = some o → s.heap.objs.size ≤ b := fun b o e => cs_above J (fun _ => rfl) e
  have un : Un (frs outer) [] H H' s.heap s'.heap := J.base
  refine ⟨v, _, J.os, J.bare, ⟨un.keep, un.slot, fun b o e n hx => ?_, un.there, fun b xs e => ?_, fun b o y e => ?_, fun b tb e => ?_⟩, hok_trk J.hok hn C.get, rv, q s' J⟩
  · have z := un.free b o e n hx
    cases g : (csOf s'.heap (cxOf (L2.CX P w) P w K mg base N qual (defScope st) f (.ref cc) A outer s H E).env.cells).lookup b with
    | none => rw [trk_out g]; exact z
    | some ob => exact absurd (Heap.lt_size e) (Nat.not_lt.mpr (up b ob g))
  · have z := un.tups b xs e
    rw [trk_out (out_of hn z)]; exact z
  · have z := un.frzs b o y e
    rw [trk_out (out_of hn z)]; exact z
  · obtain ⟨more, z⟩ := un.tbls b tb e
    exact ⟨more, by rw [trk_out (out_of hn z)]; exact z⟩
end PL
/-! ### lists of lambdas; the defs that call them -/
namespace PL
open PySem PySem.Spec PyProof.Rows L2 LamX NdefX PD
/-- l, a list of lambdas that was built since H0 -/
structure Bld (T : List (Addr × Str)) (cl : LS → List (Str × Addr)) (H0 H : Hp) (l : Addr) (fs : List (Addr × LS × Addr)) : Prop where
  lst : H l = some (.lst (fs.map fun x => V.ref x.1))
  new : H0 l = none
  lam : ∀ x ∈ fs, H x.1 = some (LamO x.1 x.2.1 (cl x.2.1) x.2.2) ∧ H x.2.2 = some (CodeO x.2.2 x.2.1.qual)
  ext : ExtT T H0 H
  tab : Tabs T H
theorem lst_tbl {xs : List V} (ps : Array Value) : HO.lst xs ≠ .tbl ps := fun z => nomatch z
theorem lst_lam {xs : List V} {f c : Addr} {L : LS} {cl : List (Str × Addr)} : HO.lst xs ≠ LamO f L cl c := fun z => by unfold LamO at z; cases z
theorem lst_cod {xs : List V} {c : Addr} {q : Str} : HO.lst xs ≠ CodeO c q := fun z => by unfold CodeO at z; cases z
section
variable {T : List (Addr × Str)} {L : LS} {cl : LS → List (Str × Addr)} {H0 H : Hp} {l : Addr} {fs : List (Addr × LS × Addr)} {σ : L2.St} {D : Ends} {i : Nat} {K : PySem.W.Frag}
theorem tabs_lst {H1 : Hp} {p : Addr} {xs : List V} (t : Tabs T H1) (h : H1 p = none ∨ ∃ ys, H1 p = some (.lst ys)) : Tabs T (upd H1 p (.lst xs)) := fun q hq => by
  obtain ⟨ps, a1, a2, a3⟩ := t q hq
  have ne : ∀ {b : Addr} {u : HO}, H1 b = some u → (∀ ys, u ≠ .lst ys) → upd H1 p (.lst xs) b = some u := fun {b u} e n => by
    have d : b ≠ p := fun z => by
      rw [z] at e
      rcases h with h | ⟨ys, h⟩
      · rw [h] at e; cases e
      · rw [h] at e; exact n ys (Option.some.inj e).symm
    rw [upd_ne d]; exact e
  refine ⟨ps, ne a1 (fun ys z => nomatch z), a2, fun pos cv e => ?_⟩
  obtain ⟨c, z1, z2⟩ := a3 pos cv e
  exact ⟨c, z1, ne z2 fun ys z => lst_cod z.symm⟩
theorem bld_new (hT : Tabs T H) (h : ∀ l f cc H', Bld T cl H H' l [(f, L, cc)] → D.nx (σ.set i (some (.ref l))) H') : tAsg (tLst (tCons (tLm T L (cl L)) tNil)) (gName i) D σ H := by
  refine ⟨hT, fun f c' H1 ex lo t1 nf hf hc => ⟨by show 1 ≤ sizeLine; decide, fun p hp => h p f c' _ ⟨upd_same, lo p hp, fun x hx => ?_, fun b u e nt => ?_, tabs_lst t1 (.inl hp)⟩⟩⟩
  · rw [List.mem_singleton.mp hx]
    exact ⟨(upd_ne (ne_of_none hf hp)).trans hf, (upd_ne (ne_of_none hc hp)).trans hc⟩
  · have e1 := ex b u e nt
    exact (upd_ne (ne_of_none e1 hp)).trans e1
theorem app_read (hb : Bld T cl H0 H l fs) (hs : σ[i]? = some (some (.ref l))) (hn : fs.length < 1000) (h : ∀ f cc H', Bld T cl H0 H' l (fs ++ [(f, L, cc)]) → D.nx σ H') : tDrop (tBM K "list" rAppend (tVar i) (tCons (tLm T L (cl L)) tNil)) D σ H := by
  refine ⟨.ref l, hs, .inl ⟨rfl, _, SqL.of hb.lst⟩, hb.tab, fun f c' H1 ex lo t1 nf hf hc => ?_⟩
  have exN := extN_of hb.tab ex
  have hl : H1 l = some (.lst (fs.map fun x => V.ref x.1)) := exN _ _ hb.lst lst_tbl
  refine ⟨l, _, .ref f, rfl, rfl, hl, by rw [List.length_map, sizeLine_eq]; omega, h f c' _ ?_⟩
  have other : ∀ {b : Addr} {u : HO} {xs : List V}, H1 b = some u → (∀ ys, u ≠ .lst ys) → upd H1 l (.lst xs) b = some u := fun {b u xs} e n => by
    rw [upd_ne (fun z => by rw [z, hl] at e; exact n _ (Option.some.inj e).symm)]; exact e
  refine ⟨by rw [List.map_append]; exact upd_same, hb.new, fun x hx => ?_, fun b u e nt => ?_, tabs_lst t1 (.inr ⟨_, hl⟩)⟩
  · rcases List.mem_append.mp hx with z | z
    · obtain ⟨z1, z2⟩ := hb.lam x z
      exact ⟨other (exN _ _ z1 lamO_tbl) fun ys z => lst_lam z.symm, other (exN _ _ z2 codeO_ne) fun ys z => lst_cod z.symm⟩
    · rw [List.mem_singleton.mp z]
      exact ⟨other hf fun ys z => lst_lam z.symm, other hc fun ys z => lst_cod z.symm⟩
  · have e1 := ex b u (hb.ext b u e nt) nt
    rw [upd_ne (ne_of_none e hb.new)]; exact e1
end
/-! #### code that is never reached -/
def sBad : DEnv → SR := fun _ => .bad
theorem sds_bad {K : PySem.W.Frag} {mg : Str → Option Value} {X : Cx} {E : XK} {sts : List Stmt} : SDs K mg X E sts (fun _ _ _ => False) sBad := ⟨⟨fun _ _ _ _ _ _ h => h.elim⟩, fun _ _ _ _ _ _ _ _ h => h⟩
/-! #### _law_class, _law_result, _law_all -/
open L2H (RoomH PinOk cxH) in
/-- the promise of _law_class, called in a suite -/
def ClsOk (P : Program) (w : World) (K : PySem.W.Frag) (mg : Str → Option Value) (base : Heap) (k : Nat) (f : Addr) (fd : FuncData) : Prop :=
  ∀ (A : Around) (outer : List Env) (s : Shared) (H : Hp) (us : List Value) (Q : VK) (E : XK) (a C : Addr) (oe : Obj) (c : Str), RoomH k A → PinOk outer H s (a, oe) → Env0 P w K mg base A outer s H → BindsTo s fd ⟨us, []⟩ ((["fault"] : List Str).zip us) → Vals [.ref a] us → Zc (.ref C) none oe → (∃ vs, oe.data = .fields vs) → ExcC K C → mg c = some (.ref C) → LX.contains c = true →
    (∀ H', Same H H' → Q (.str c) H') → codeAny (model P w) A (.call (.ref f) ⟨us, []⟩) (CR (L2.CX P w) outer P w H s Q E) s
def tCls (K : PySem.W.Frag) (mg : Str → Option Value) (i : Nat) (a : Addr) (cls : Value) (d : Option Addr) : TE := fun σ H Q => σ[i]? = some (some (.ref a)) ∧ ∃ c C, cls = .ref C ∧ d = none ∧ ExcC K C ∧ mg c = some (.ref C) ∧ LX.contains c = true ∧ ∀ H', Same H H' → Q (.str c) H'
open L2H (RoomH PinOk cxH) in
theorem pe_cls {X : Cx} {k i : Nat} {g a : Addr} {oe : Obj} {cls : Value} {d : Option Addr} {pn : List (Addr × Obj)} {fd : FuncData} {x y : Str} {p p1 pos : Pos} (G : ClsOk X.prog X.w X.K X.mg X.base k g fd) (hr : Room k X.A) (hz : Zc cls d oe) (hf : ∃ vs, oe.data = .fields vs) (hg : Gl X x) (hm : X.mg x = some (.ref g)) (hk : PySem.W.keepIn X.K (.ref g) = true) (hb : Binds X.K fd ["fault"] [])
    (hv : PE (X.suite a ((a, oe) :: pn)) (.Name y p1) (tVar i)) (hdb : (x == ("__debug__" : Str)) = false := by decide) (h1 : starEach [.Name y p1] X.env = (false, eval (.Name y p1) X.env) :: starEach [] X.env := by rfl) (hpl : (backTo pos (starEach [] X.env)).any (·.1) = false := by rfl) :
    PE (X.suite a ((a, oe) :: pn)) (.Call (.Name x p) [.Name y p1] [] pos) (tCls X.K X.mg i a cls d) := by
  refine ⟨fun pins s σ H Q I h => ?_⟩
  obtain ⟨hs, c, C, rfl, rfl, eC, hc, hL, q⟩ := h
  refine wpAny_Call_Name_kw (ld_glob (X := X.suite a ((a, oe) :: pn)) I hg hm ?_ hdb)
  have ha : PA (X.suite a ((a, oe) :: pn)) [.Name y p1] (tCons (tVar i) tNil) := pa_cons hv pa_nil h1
  refine PySem.W.callWith_K (h₀ := X.base) I.ok.mod.kin hk (thn (ha.run pos pins s σ H (fun vs H' => vs = [.ref a] ∧ H' = H) I ⟨.ref a, hs, rfl, rfl⟩) fun us s1 ⟨vs, H1, I1, r, ev, eH⟩ => ⟨I1.kIn, ?_⟩) h1 hpl
  subst ev
  rw [eH] at I1
  show wpAny _ _ (call (.ref g) us) _ _ _
  have bt := hb s1 us I1.kIn (by rw [List.append_nil, ← r.length]; rfl)
  rw [List.append_nil] at bt
  have P1 := I1.pin (a, oe) (List.mem_append_left _ List.mem_cons_self)
  have pin : PinOk (X.suite a ((a, oe) :: pn)).stack H s1 (a, oe) := ⟨P1.1, P1.2.1, fun m => (List.mem_cons.mp (I1.stkSub a m)).elim P1.2.2.1 P1.2.2.2.1, P1.2.2.2.2⟩
  refine wpAny_call (codeAny_mono (G _ _ s1 H us Q (fun _ _ _ => False) a C oe c ⟨hr.dp, hr.un⟩ pin I1.env0 bt r hz hf eC hc hL q) fun r s' z => ?_)
  cases r with
  | error e =>
    obtain ⟨_, _, _, _, _, _, _, _, _, _, _, _, z⟩ := z
    exact z.elim
  | ok fl =>
    cases fl with
    | ret u => exact I1.after z
    | next => exact z.elim
    | brk => exact z.elim
    | cont => exact z.elim
def spRes (P : Program) (w : World) (K : PySem.W.Frag) (mg : Str → Option Value) (base : Heap) (k : Nat) : Sp := fun vs H Q _ => ∃ (f : Addr) (c : Str), vs = [.ref f] ∧ LX.contains c = true ∧ Clo P w K mg base k c H f ∧ ∀ H' p, Same H H' → H' p = none → Q (.ref p) (upd H' p (.tup [.str "error", .str c]))
end PL
namespace PL
open PySem PySem.Spec PyProof.Rows L2 LamX NdefX PD
/-! ### the promises of _law_result and _law_all -/
theorem lx_shaped {c : Str} (h : LX.contains c = true) : SeqAt.shaped (.tuple [.str "error", .str c]) = true := by
  have : c = "InvalidCamera" ∨ c = "InvalidSetting" ∨ c = "InvalidWheel" ∨ c = "InvalidBrightness" ∨ c = "InvalidNumber" := by simpa using h
  rcases this with rfl | rfl | rfl | rfl | rfl <;> decide +kernel
theorem lx_eqv {c : Str} (h : LX.contains c = true) : PyData.eqv (.tuple [.str "error", .str c]) (.tuple [.str "error", .str c]) = true := SeqAt.eqv_refl _ (SeqAt.canLay_of_shaped (lx_shaped h))
section
variable {P : Program} {w : World} {K : PySem.W.Frag} {mg : Str → Option Value} {base : Heap} {st : Stmt} {f : Addr} {fd : FuncData}
theorem fn_res {p1 p2 p3 p4 p5 p6 p7 p8 p9 p10 p11 p12 : Pos} {j : Nat} {kt} {g : Addr} {fdc : FuncData} {cL : Addr} {k kc kk : Nat} (F : Fun K "_law_result" "_law_result" st f fd) (Sc : FnScope ["call", "fault"] ["call"] (defScope st))
    (hB : defBody st = [.Try [.Return (some (.Call (.Name "call" p1) [] [] p2)) p3] [.ExceptHandler (some (.Name "LightError" p4)) (some "fault") [.Return (some (.Tuple [.Constant (.str "error") j p5, .Call (.Name "_law_class" p6) [.Name "fault" p7] [] p8] kt p9)) p10] p11] [] [] p12])
    (vc : (defScope st).names.lookup ("call" : Str) = some .local) (vf : (defScope st).names.lookup ("fault" : Str) = some .local) (gL : (defScope st).names.lookup ("LightError" : Str) = some .globalImplicit) (gC : (defScope st).names.lookup ("_law_class" : Str) = some .globalImplicit)
    (mL : mg "LightError" = some (.ref cL)) (hk : Caught K mg LX (.ref cL)) (mC : mg "_law_class" = some (.ref g)) (G : ClsOk P w K mg base kc g fdc) (kC : PySem.W.keepIn K (.ref g) = true) (bC : Binds K fdc ["fault"] []) (h1 : k + 1 ≤ kk) (h2 : kc ≤ kk) :
    FnOk P w K mg base (L2.CX P w) (kk + 1) f fd ["call"] (spRes P w K mg base k) := by
  refine F.okX Sc (fun vs H Q E h => ?_) (fun cdv A outer s H vs Q E hr h => ?_)
  · obtain ⟨f, c, rfl, _⟩ := h
    rfl
  · obtain ⟨fa, c, rfl, hL, hc, q⟩ := h
    rw [hB]
    refine ⟨_, pss_one (ps_try_as (X := cxOf (L2.CX P w) P w K mg base ["call", "fault"] "_law_result" (defScope st) f cdv A outer s H E) (i := 1) (c := .ref cL) (Wout := fun cls d _ H => E cls d H) rfl rfl Sc.nd rfl vf ⟨gL, by decide, .inl mL⟩ tkX
      (fun W pn xe tk _ => pss_one (ps_ret (show PE _ _ (tClo P w K mg base k 0 W) from pe_clo (k := k) (i := 0) (hr.mono h1) tk rfl (.inl vc))))
      (fun a oe cls d pn hz hf => pss_one (ps_ret (pe_tup (pa_cons pe_str (pa_cons (pe_cls (X := cxOf (L2.CX P w) P w K mg base ["call", "fault"] "_law_result" (defScope st) f cdv A outer s H E) (i := 1) G (hr.mono h2) hz hf gC mC kC bC (pe_var rfl (.inl vf))) pa_nil)))))), ?_⟩
    refine ⟨fa, c, rfl, hc, fun u H' hm x => ?_⟩
    obtain ⟨C, rfl, eC, em⟩ := hk.ex c u hL hm
    refine ⟨true, em, fun _ a ha => ?_, fun z => nomatch z⟩
    refine ⟨rfl, c, C, rfl, rfl, eC, hm, hL, fun H2 x2 => ⟨by show 2 ≤ sizeLine; decide, fun p hp => q H2 p (x.trans x2) hp⟩⟩
theorem dv_err {H : Hp} {p : Addr} {c : Str} (h : H p = some (.tup [.str "error", .str c])) : DV K H (.ref p) (.tuple [.str "error", .str c]) := by
  rw [DV]
  exact ⟨p, _, rfl, tp_of h, rfl, rfl, trivial⟩
theorem fn_all {p1 p2 p3 p4 p5 p6 p7 p8 p9 p10 p11 p12 p13 : Pos} {j : Nat} {kt} {scope : Scope} {own : List (Str × Nat)} {g : Addr} {fdr : FuncData} {k kr kk : Nat} (F : Fun K "_law_all" "_law_all" st f fd) (Sc : FnScope ["calls", "name", "call"] ["calls", "name"] (defScope st))
    (hB : defBody st = [.Return (some (.Call (.Name "all" p1) [.ListComp (.Compare (.Call (.Name "_law_result" p2) [.Name "call" p3] [] p4) [.Eq] [.Tuple [.Constant (.str "error") j p5, .Name "name" p6] kt p7] p8) [⟨.Name "call" p9, .Name "calls" p10, [], 0⟩] scope p11] [] p12)) p13])
    (vc : Vis (defScope st) "calls") (gA : (defScope st).names.lookup ("all" : Str) = some .globalImplicit) (mA : mg "all" = none) (ok : BlkOk ["calls", "name", "call"] (defScope st) scope own) (ho : own.map (·.2) = [2])
    (bc : ∀ s H C cl fp cdv A outer s' H' E, PG (Blk (cxOf (L2.CX P w) P w K mg base ["calls", "name", "call"] "_law_all" (defScope st) f cdv A outer s' H' E) scope s H C cl fp) (.Name "call" p9) (gName 2))
    (v1 : Vis (relS scope (defScope st)) "call") (v2 : Vis (relS scope (defScope st)) "name") (gR : (relS scope (defScope st)).names.lookup ("_law_result" : Str) = some .globalImplicit)
    (mR : mg "_law_result" = some (.ref g)) (G : FnOk P w K mg base (L2.CX P w) kr g fdr ["call"] (spRes P w K mg base k)) (kR : PySem.W.keepIn K (.ref g) = true) (bR : Binds K fdr ["call"] []) (h1 : kr ≤ kk) :
    FnOk P w K mg base (L2.CX P w) (kk + 1) f fd ["calls", "name"] (spAll P w K mg base k) := by
  refine F.okX Sc (fun vs H Q E h => ?_) (fun cdv A outer s H vs Q E hr h => ?_)
  · obtain ⟨l, fs, c, rfl, _⟩ := h
    rfl
  · obtain ⟨l, fs, c, rfl, hL, hl, hn, hc, q⟩ := h
    rw [hB]
    have elt : ∀ (s2 : Shared) (H2 : Hp) (C : Addr) (cl : List (Str × Addr)) (fp : List Addr), PE (Blk (cxOf (L2.CX P w) P w K mg base ["calls", "name", "call"] "_law_all" (defScope st) f cdv A outer s H E) scope s2 H2 C cl fp)
        (.Compare (.Call (.Name "_law_result" p2) [.Name "call" p3] [] p4) [.Eq] [.Tuple [.Constant (.str "error") j p5, .Name "name" p6] kt p7] p8) (tOp (rEqD K) (tCall (spRes P w K mg base k) [] E0 (tCons (tVar 2) tNil)) (tTup (tCons (tC (.str "error")) (tCons (tVar 1) tNil)))) := fun s2 H2 C cl fp =>
      pe_cmpR (op_eqK (hU hr)) (pe_call (X := Blk (cxOf (L2.CX P w) P w K mg base ["calls", "name", "call"] "_law_all" (defScope st) f cdv A outer s H E) scope s2 H2 C cl fp) G (hr.mono h1) gR mR kR bR .nil passL (pa_cons (pe_var rfl v1) pa_nil)) (pe_tup (pa_cons pe_str (pa_cons (pe_var rfl v2) pa_nil))) (nomark _)
    refine ⟨_, pss_one (ps_ret (pe_callB (c_all rfl) gA mA bt_all (pa_cons (pe_lc (X := cxOf (L2.CX P w) P w K mg base ["calls", "name", "call"] "_law_all" (defScope st) f cdv A outer s H E) rfl Sc.nd (pi_list (pe_var (i := 0) rfl vc)) ok (fun s2 H2 C cl fp => bc s2 H2 C cl fp cdv A outer s H E) (fun _ _ _ _ _ => pts_nil) elt) pa_nil))), ?_⟩
    rw [ho]
    refine ⟨.ref l, rfl, l, rfl, ⟨_, SqL.of hl⟩, fun D hD => ?_⟩
    refine ⟨fun i m H2 => i + m = fs.length ∧ Same H H2 ∧ H2 D = some (.lst ((List.replicate i true).map V.bl)), ⟨fs.length, Nat.zero_add _, same_upd hD, upd_same⟩, ?_⟩
    rintro i m H2 ⟨him, x2, d2⟩
    have hl2 : H2 l = some (.lst (fs.map V.ref)) := x2 _ _ hl
    by_cases hi : i < fs.length
    · refine .inr ⟨⟨_, .ref fs[i], SqL.of hl2, by rw [List.getElem?_map, List.getElem?_eq_getElem hi]; rfl⟩, fun H3 => (i + 1) + (m - 1) = fs.length ∧ Same H H3 ∧ H3 D = some (.lst ((List.replicate (i + 1) true).map V.bl)), fun H3 z => ⟨m - 1, by omega, z⟩, ?_⟩
      rintro x H3 ⟨rfl, hx⟩
      have ex : x = .ref fs[i] := by
        have := hx _ (SqL.of hl2)
        rw [List.getElem?_map, List.getElem?_eq_getElem hi] at this
        exact (Option.some.inj this).symm
      subst ex
      refine ⟨rfl, ?_⟩
      unfold tYes
      dsimp only
      rw [if_pos rfl]
      refine ⟨.ref fs[i], rfl, ?_⟩
      refine ⟨fs[i], c, rfl, hL, (hc _ (List.getElem_mem hi)).mono x2, fun H4 p x4 hp => ?_⟩
      refine ⟨.str c, rfl, by show 2 ≤ sizeLine; decide, fun p' hp' => ?_⟩
      have g1 : upd (upd H4 p (.tup [.str "error", .str c])) p' (.tup [.str "error", .str c]) p = some (.tup [.str "error", .str c]) := (upd_ne (ne_of_none upd_same hp')).trans upd_same
      refine ⟨.tuple [.str "error", .str c], .tuple [.str "error", .str c], dp_of (Same.refl _) (lx_shaped hL) (dv_err g1), dp_of (Same.refl _) (lx_shaped hL) (dv_err upd_same), lx_shaped hL, lx_shaped hL, ?_⟩
      rw [lx_eqv hL]
      have d4 : H4 D = some (.lst ((List.replicate i true).map V.bl)) := x4 _ _ d2
      have up : ∀ {b : Addr} {u : HO}, H4 b = some u → upd (upd H4 p (.tup [.str "error", .str c])) p' (.tup [.str "error", .str c]) b = some u := fun {b u} e => by
        have e1 : upd H4 p (.tup [.str "error", .str c]) b = some u := (upd_ne (ne_of_none e hp)).trans e
        exact (upd_ne (ne_of_none e1 hp')).trans e1
      refine ⟨_, up d4, by rw [List.length_map, List.length_replicate, sizeLine_eq]; omega, by omega, fun b u e => ?_, ?_⟩
      · rw [upd_ne (ne_of_none e hD)]
        exact up (x4 _ _ (x2 _ _ e))
      · rw [upd_same, List.replicate_succ', List.map_append]
        rfl
    · refine .inl ⟨⟨_, SqL.of hl2, by rw [List.length_map]; omega⟩, ?_⟩
      refine ⟨D, List.replicate i true, rfl, SqL.of d2, ?_⟩
      rw [show (List.replicate i true).all id = true from List.all_eq_true.mpr fun b hb => by rw [List.eq_of_mem_replicate hb]; rfl]
      exact q H2 x2
end
end PL
namespace PL
open PySem PySem.Spec PyProof.Rows L2 LamX NdefX PD
/-! ### xs.count(y) -/
section
variable {K : PySem.W.Frag} {mg : Str → Option Value} {X : Cx} {E : XK} {pos : Pos} {o e : Expr} {to te : TE} {fo f : DEnv → Res D}
def rCountD (K : PySem.W.Frag) : V → List V → Hp → VK → Prop := fun x xs H Q => ∃ (a : Addr) (y : V) (d : PyData) (ds : List PyData), x = V.ref a ∧ xs = [y] ∧ Dp K H (V.ref a) (.list ds) ∧ Dp K H y d ∧ PyData.plainAll ds = true ∧ d.plain = true ∧ d.depth ≤ 8 ∧
  Q (.int ((ds.countP fun z => PyData.eqv z d : Nat) : Int)) H
theorem mt_countD (hu : X.A.units + 65 < cLine) : MtR X "list.count" (rCountD X.K) := by
  intro pins s σ H x xs v us Q I rx rxs h
  obtain ⟨a, y, d, ds, rfl, rfl, hl, hy, sl, sd, dp, q⟩ := h
  cases rx
  cases rxs with
  | cons ry rt =>
    rename_i uy ut
    cases rt
    obtain ⟨bs, r1⟩ := Dp.reads I d y uy hy ry
    cases hl with
    | lst hs ha =>
      obtain ⟨its, rv, pl, hlen⟩ := I.list hs
      obtain ⟨as, h4⟩ := Dp.readsAll I ds _ its ha rv
      have h4' : ReadsAll s.heap its.toArray.toList ds as := by simpa using h4
      have := Nat.min_le_right (PyData.depthAll ds) d.depth
      exact SeqAt.count_list_data (prog := X.prog) pl.isList h4' r1 sl sd (by omega) ⟨.int ((ds.countP fun z => PyData.eqv z d : Nat) : Int), H, I.tok _, ⟨_, rfl⟩, q⟩
def gCount (ds : List D) (b : D) : Res D := if (SeqAt.shaped (.list ds) && SeqAt.shaped b && PyData.plainAll ds && b.plain && decide (b.depth ≤ 8)) = true then .ok (.int ((ds.countP fun z => PyData.eqv z b : Nat) : Int)) else .bad
theorem pd_count {apos : Pos} (hu : X.A.units + 65 < cLine) (ho : PD K mg X E o to fo) (he : PD K mg X E e te f)
    (hbase : attributeBase o "count" X.env (eval o X.env) = eval o X.env := by rfl)
    (hfew : ((backTo pos (starEach [e] X.env)).all (fun x => !x.1) && (backToKw pos (keywordEach [] X.env)).all (fun x => x.1.isSome) && decide ([e].length + ([] : List Keyword).length + (if ([] : List Keyword).isEmpty then 0 else 1) < 30)) = true := by rfl)
    (hline : (apos.endLine == pos.line) = true := by rfl) (hs : starEach [e] X.env = (false, eval e X.env) :: starEach [] X.env := by rfl) (hplain : (backTo pos (starEach [] X.env)).any (·.1) = false := by rfl) (hK : X.K = K := by rfl) :
    PD K mg X E (.Call (.Attribute o "count" apos) [e] [] pos) (tBM K "list" (rCountD K) to (tCons te tNil)) (fLM gCount fo f) :=
  ⟨hK ▸ pe_bm PySem.F.plainAttrs_list PySem.F.slot_list_count PySem.F.type_list_count (mt_countD hu) ho.pe (pa_cons he.pe pa_nil hs) hbase hfew hline hs hplain, fun S H σ ρ Q rl h => by
    have h : PostG mg E S H (DV K) ((fo ρ).bind fun d => (asList d).bind fun ds => (f ρ).bind fun b => gCount ds b) Q := by
      unfold fLM at h
      cases eo : fo ρ <;> (rw [eo] at h; exact h)
    refine ho.sd S H σ ρ _ rl (h.bind fun d v S1 H1 x1 d1 h1 => ?_)
    cases d with
    | list ds =>
      have d1' := d1
      rw [DV] at d1
      obtain ⟨a, us, rfl, g1, g2⟩ := d1
      refine ⟨.inl ⟨rfl, us, ls_sq (ls_mono x1.sh g1)⟩, ?_⟩
      have h1 : PostG mg E S1 H1 (DV K) ((f ρ).bind fun b => gCount ds b) Q := h1
      refine he.sd S1 H1 σ ρ _ (rl.mono x1) (h1.bind fun b w S2 H2 x2 d2 h2 => ?_)
      unfold gCount at h2
      split at h2
      · rename_i c
        obtain ⟨c, c5⟩ := and_split c
        obtain ⟨c, c4⟩ := and_split c
        obtain ⟨c, c3⟩ := and_split c
        obtain ⟨c1, c2⟩ := and_split c
        exact ⟨a, w, b, ds, rfl, rfl, dp_of x2.sh c1 (d1'.mono x2.s), dp_of x2.sh c2 d2, c3, c4, of_decide_eq_true c5, h2.ok0 x2.sh rfl⟩
      · exact h2.elim
    | _ => exact h1.elim⟩
end
/-! ### _law_class -/
theorem hUH {k : Nat} {A : Around} (r : L2H.RoomH k A) : A.units + 65 < cLine := by have := r.un; omega
theorem bt_ValueError : bootBuiltins "ValueError" = some (.type "ValueError") := by decide +kernel
theorem kit_ty {K : PySem.W.Frag} {C : Addr} {b : Bool} (h : PySem.W.subIn K (.ref C) (.type "ValueError") = some b) : PySem.W.kitOne K (.ref C) (.type "ValueError") = some b := by
  unfold PySem.W.kitOne
  have ne : ¬ (Value.ref C == Value.type "ValueError") = true := fun z => by
    have e := beq_iff_eq.mp z
    cases e
  rw [if_neg ne]
  show (if PySem.W.kitMeta "ValueError" = true then PySem.W.subIn K (.ref C) (.type "ValueError") else none) = some b
  rw [if_pos (by decide +kernel)]
  exact h
theorem cls_start {K : PySem.W.Frag} {H : Hp} {a : Addr} {N : List Str} (hN : 0 < N.length) : Rel K H H H H ((L2.start N []).set 0 (some (V.ref a))) ((startD N.length []).set 0 (.raw (.ref a))) := (start_rel (vs := []) (ds := []) (Same.refl H) trivial).setRaw
open L2H (RoomH PinOk cxH) in
theorem cls_ok {P : Program} {w : World} {K : PySem.W.Frag} {mg : Str → Option Value} {base : Heap} {st : Stmt} {f : Addr} {fd : FuncData} {N : List Str} {k : Nat} {B : Addr → Str → DEnv → SR} (F : Fun K "_law_class" "_law_class" st f fd) (Sc : FnScope N ["fault"] (defScope st))
    (hbody : ∀ (cdv : Value) (A : Around) (outer : List Env) (s : Shared) (H : Hp) (E : XK) (a C : Addr) (oe : Obj) (c : Str), RoomH k (A.deeper (envOfC "_law_class" (defScope st) s.heap.objs.size f cdv)) → Zc (.ref C) none oe → (∃ vs, oe.data = .fields vs) → ExcC K C → mg c = some (.ref C) → LX.contains c = true →
      ∃ t, SDs K mg (cxH (L2.CX P w) P w K mg base N "_law_class" (defScope st) f cdv A outer s H E (a, oe)) E0 (defBody st) t (B a c))
    (hst : ∀ a : Addr, (L2.start N []).set 0 (some (V.ref a)) = L2.start N [.ref a]) (h0 : 0 < N.length) (hB : ∀ a c, LX.contains c = true → B a c ((startD N.length []).set 0 (.raw (.ref a))) = .ret (.str c)) : ClsOk P w K mg base (k + 1) f fd := by
  obtain ⟨oc, od, kV, doc, pm, an, cdv, ct, osl, rfl, lk, hcd⟩ := F.ex
  intro A outer s H us Q E a C oe c hr pin e0 hb r hz hf eC hm hL q
  refine run_hot lk hcd Sc hr e0 pin hb r rfl fun hr' => ?_
  obtain ⟨t, ht⟩ := hbody cdv A outer s H E a C oe c hr' hz hf eC hm hL
  refine ⟨t, ht.ps, ?_⟩
  rw [← hst]
  refine ht.sd H H H H _ _ _ (cls_start h0) ?_
  rw [hB a c hL]
  exact fun v S' H' x dv => by
    rw [DV] at dv
    rw [dv]
    exact q H' x.h
/-! ### a lambda's body; a def that returns closures -/
theorem pN {P : Program} {w : World} {K : PySem.W.Frag} {mg : Str → Option Value} {base : Heap} {N : List Str} {F : NF} {f : Addr} {A : Around} {outer : List Env} {s : Shared} {H : Hp} {E : XK} : Passes (L2.CX P w) (ncx (L2.CX P w) P w K mg base N F f A outer s H E) E := passes_call (takes_of rfl rfl rfl rfl) (fun _ _ _ _ h => h)
def lamE : Stmt → Expr
  | .Assign _ (.List (e :: _) _) _ => e
  | .Expr (.Call _ (e :: _) _ _) _ => e
  | .Return _ p => .Constant .none 0 p
  | _ => .Constant .none 0 ⟨0, 0, 0, 0⟩
def lamL (qual : Str) (sc : Scope) (pa : Arguments) : Expr → LS
  | .Lambda ps b s _ => ⟨qual, ps, b, s⟩
  | e => ⟨qual, pa, e, sc⟩
def stAt (sts : List Stmt) (i : Nat) : Stmt := sts.getD i (.Pass ⟨0, 0, 0, 0⟩)
def forBody : Stmt → List Stmt
  | .For _ _ b _ _ => b
  | _ => []
/-- which of the data -/
def pickD {α : Type} (x : α) (xs : List α) (js : List Nat) : List α := js.map fun j => xs.getD j x
def spMk (P : Program) (w : World) (K : PySem.W.Frag) (mg : Str → Option Value) (base : Heap) (k n : Nat) (T : List (Addr × Str)) (c : Str) (fes : List ((DEnv → Res D) × List Nat)) : Sp := fun vs H Q _ => ∃ S ds, Same S H ∧ DVs K S vs ds ∧ vs.length = n ∧ LX.contains c = true ∧ Tabs T H ∧ (∀ p ∈ T, S p.1 = none) ∧
  (∀ x ∈ fes, x.1 (startD x.2.length (pickD .none ds x.2)) = .err c) ∧ ∀ (l : Addr) (fs : List Addr) (H' : Hp), ExtT T H H' → Tabs T H' → H' l = some (.lst (fs.map V.ref)) → fs.length ≤ 100 → (∀ f ∈ fs, Clo P w K mg base k c H' f) → Q (.ref l) H'
theorem DVs.pick {K : PySem.W.Frag} {S : Hp} {vs : List V} {ds : List D} (h : DVs K S vs ds) : ∀ (js : List Nat), (∀ j ∈ js, j < ds.length) → DVs K S (pickD .non vs js) (pickD .none ds js)
  | [], _ => trivial
  | j :: js, hj => by
    refine ⟨?_, DVs.pick h js fun i hi => hj i (List.mem_cons_of_mem _ hi)⟩
    have hl := hj j List.mem_cons_self
    obtain ⟨v, g1, g2⟩ := h.get (List.getElem?_eq_getElem hl)
    show DV K S (vs.getD j .non) (ds.getD j .none)
    rw [List.getD_eq_getElem?_getD, List.getD_eq_getElem?_getD, g1, List.getElem?_eq_getElem hl]
    exact g2
/-- S stays where no table is in it -/
theorem same_extT {T : List (Addr × Str)} {S H H' : Hp} (sh : Same S H) (nt : ∀ p ∈ T, S p.1 = none) (x : ExtT T H H') : Same S H' := fun b o e => x b o (sh b o e) fun p hp z => by
  have := nt p hp
  rw [z, e] at this
  cases this
theorem mk_clo {X : Cx} {k : Nat} {c : Str} {σ : L2.St} {H0 H : Hp} {l f cc : Addr} {fs : List (Addr × LS × Addr)} {T : List (Addr × Str)} {L : LS} {N : List Str} {fe : DEnv → Res D} {js : List Nat} {vs : List V} {ds : List D} {S : Hp} (ok : LamOk X.prog X.w X.K X.mg X.base k L N fe) (hb : Bld T (fun L => cloFrom X.env.cells L.scope.names []) H0 H l fs) (hx : (f, L, cc) ∈ fs)
    (free : ∀ y ∈ L.scope.names, y.2 = .free → X.env.scope.names.lookup y.1 = some .cell ∨ X.env.scope.names.lookup y.1 = some .free) (at_ : js.map (fun j => X.N[j]?) = N.map some) (val : js.map (slotAt σ) = vs.map some) (sh : Same S H) (dv : DVs X.K S vs ds) (res : fe (startD N.length ds) = .err c) : CloL X k c σ H f :=
  ⟨L, N, fe, cc, js, vs, ds, S, ok, (hb.lam _ hx).1, (hb.lam _ hx).2, free, at_, val, sh, dv, res⟩
theorem fOne {α : Type} {P : α → Prop} {y : α} (h : P y) : ∀ x ∈ [y], P x := fun x hx => by rw [List.mem_singleton.mp hx]; exact h
theorem fApp {α : Type} {P : α → Prop} {xs : List α} {y : α} (h : ∀ x ∈ xs, P x) (hy : P y) : ∀ x ∈ xs ++ [y], P x := fun x hx => (List.mem_append.mp hx).elim (h x) (fOne hy x)
theorem extT_trk {T : List (Addr × Str)} {H H' : Hp} {cs : Objs} (x : ExtT T H H') (hn : ∀ b o, cs.lookup b = some o → H' b = none) : ExtT T H (trk H' cs) := x.trans (ExtT.of (same_trk hn))
theorem tabs_trk {T : List (Addr × Str)} {H' : Hp} {cs : Objs} (x : Tabs T H') (hn : ∀ b o, cs.lookup b = some o → H' b = none) : Tabs T (trk H' cs) := x.ext (same_trk hn)
theorem lst_trk {H' : Hp} {cs : Objs} {l : Addr} {fs : List (Addr × LS × Addr)} (h : H' l = some (.lst (fs.map fun x => V.ref x.1))) (hn : ∀ b o, cs.lookup b = some o → H' b = none) : trk H' cs l = some (.lst ((fs.map (·.1)).map V.ref)) := by
  rw [trk_out (out_of hn h), h, List.map_map]
  rfl
theorem all_fst {P : Addr → Prop} {fs : List (Addr × LS × Addr)} (h : ∀ x ∈ fs, P x.1) : ∀ f ∈ fs.map (·.1), P f := fun f hf => by
  obtain ⟨x, hx, rfl⟩ := List.mem_map.mp hf
  exact h x hx
end PL
namespace PL
open PySem PySem.Spec PyProof.Rows L2 LamX NdefX PD
/-! ### the law that holds the closures -/
/-- the first statements of l by their functions, b the rest -/
structure SDK (K : PySem.W.Frag) (mg : Str → Option Value) (X : Cx) (E : XK) (l b : List Stmt) (t : TS → TS) (F : DEnv → SR) : Prop where
  ps : ∀ u, PSs X b u → PSs X l (t u)
  sd : ∀ (u : TS) (S0 H0 S H : Hp) (σ : L2.St) (ρ : DEnv) (N : Ends), Rel K S0 H0 S H σ ρ → SPost K mg E S0 H0 S (F ρ) { N with nx := u N } → t u N σ H
theorem sdk_nil {K : PySem.W.Frag} {mg : Str → Option Value} {X : Cx} {E : XK} {b : List Stmt} : SDK K mg X E b b (fun u => u) sNext := ⟨fun u h => h, fun u S0 H0 S H σ ρ N r h => h S H σ (Same.refl _) r⟩
theorem sdk_cons {K : PySem.W.Frag} {mg : Str → Option Value} {X : Cx} {E : XK} {st : Stmt} {l b : List Stmt} {t1 : TS} {t2 : TS → TS} {F1 F2 : DEnv → SR} (h1 : SD K mg X E st t1 F1) (h2 : SDK K mg X E l b t2 F2) : SDK K mg X E (st :: l) b (fun u => tSeq t1 (t2 u)) (sSeq F1 F2) := by
  refine ⟨fun u h => pss_cons h1.ps (h2.ps u h), fun u S0 H0 S H σ ρ N r h => h1.sd S0 H0 S H σ ρ _ r ?_⟩
  unfold sSeq at h
  cases e : F1 ρ with
  | next ρ' =>
    rw [e] at h
    exact fun S' H' σ' e' r' => h2.sd u S0 H0 S' H' σ' ρ' N r' (SPost.mono h e')
  | ret d => rw [e] at h; exact h
  | err c => rw [e] at h; exact h
  | brk ρ' => rw [e] at h; exact h
  | cont ρ' => rw [e] at h; exact h
  | bad => rw [e] at h; exact h
theorem fn_ofC {P : Program} {w : World} {K : PySem.W.Frag} {mg : Str → Option Value} {base : Heap} {x qual : Str} {st : Stmt} {f cc : Addr} {fd : FuncData} {N ps : List Str} {k : Nat} {sp : Sp} (F : FunC K x qual st f fd cc) (Sc : FnScope N ps (defScope st)) (len : ∀ vs H Q E, sp vs H Q E → vs.length = ps.length)
    (hbody : ∀ (A : Around) (outer : List Env) (s : Shared) (H : Hp) (vs : List V) (Q : VK) (E : XK), Room k (A.deeper (envOfC qual (defScope st) s.heap.objs.size f (.ref cc))) → sp vs H Q E → ∃ t, PSs (cxOf (L2.CX P w) P w K mg base N qual (defScope st) f (.ref cc) A outer s H E) (defBody st) t ∧ t { nx := fun _ H' => Q .non H', rt := Q } (L2.start N vs) H) :
    FnOk P w K mg base (L2.CX P w) (k + 1) f fd ps sp := by
  obtain ⟨oc, od, kV, doc, pm, an, ct, osl, rfl, lk, hcd⟩ := F.ex
  exact fn_of lk hcd Sc len fun A outer s H vs Q E hr hsp => hbody A outer s H vs Q E hr hsp
def forTg : Stmt → Expr
  | .For e _ _ _ _ => e
  | _ => .Constant .none 0 ⟨0, 0, 0, 0⟩
def forIter : Stmt → Expr
  | .For _ e _ _ _ => e
  | _ => .Constant .none 0 ⟨0, 0, 0, 0⟩
def lastE : Stmt → Expr
  | .Return (some (.BoolOp _ (_ :: e :: _) _)) _ => e
  | _ => .Constant .none 0 ⟨0, 0, 0, 0⟩
def spLaw (K : PySem.W.Frag) (T : List (Addr × Str)) : Sp := fun vs H Q _ => ∃ (S : Hp) (ns : List Int), Same S H ∧ DVs K S vs [.list (ns.map PyData.int)] ∧ ns.length ≤ 63 ∧ vs.length = 1 ∧ Tabs T H ∧ (∀ p ∈ T, S p.1 = none) ∧ ∀ H', Q (.bl true) H'
theorem mk_all {P : Program} {w : World} {K : PySem.W.Frag} {mg : Str → Option Value} {base : Heap} {k n : Nat} {T : List (Addr × Str)} {c : Str} {fes : List ((DEnv → Res D) × List Nat)} {vs : List V} {ds : List D} {S H : Hp} {Q : VK} (sh : Same S H) (dv : DVs K S vs ds) (hl : vs.length = n) (hL : LX.contains c = true) (hT : Tabs T H) (nt : ∀ p ∈ T, S p.1 = none)
    (hres : ∀ x ∈ fes, x.1 (startD x.2.length (pickD .none ds x.2)) = .err c) (q : ∀ H', ExtT T H H' → Tabs T H' → Q (.bl true) H') : spMk P w K mg base k n T c fes vs H (fun v H1 => spAll P w K mg base k [v, .str c] H1 Q E0) E0 :=
  ⟨S, ds, sh, dv, hl, hL, hT, nt, hres, fun l fs H' x t h1 h2 h3 => ⟨l, fs, c, rfl, hL, h1, h2, h3, fun H2 x2 => q H2 (x.trans (ExtT.of x2)) (t.ext x2)⟩⟩
theorem nt_ext {T : List (Addr × Str)} {S H S1 H1 : Hp} (hT : Tabs T H) (nt : ∀ p ∈ T, S p.1 = none) (x : Ext S H S1 H1) : ∀ p ∈ T, S1 p.1 = none := fun p hp => by
  obtain ⟨ps, h, _⟩ := hT p hp
  exact (x.old p.1 (by rw [h]; exact fun z => nomatch z)).trans (nt p hp)
theorem relE_tail {K : PySem.W.Frag} {S H S' H' : Hp} {σ1 σ2 σ3 : L2.St} {ρ1 : DEnv} {m : Nat} (r : RelE K S H (σ1 ++ σ2) (ρ1 ++ List.replicate m .un)) (hl : σ1.length = ρ1.length) (h3 : σ3.length = σ2.length) (s : Same S S') (sh : Same S' H') : RelE K S' H' (σ1 ++ σ3) (ρ1 ++ List.replicate m .un) := by
  have hlen := r.len
  have un : ∀ {i : Nat} {x : Slot}, (ρ1 ++ List.replicate m Slot.un)[i]? = some x → ¬ i < ρ1.length → x = .un := fun {i x} e n => by
    rw [List.getElem?_append_right (by omega), List.getElem?_replicate] at e
    split at e
    · exact (Option.some.inj e).symm
    · cases e
  refine ⟨sh, by rw [List.length_append] at hlen ⊢; rw [h3]; exact hlen, fun i x e => ?_, fun i v e => ?_⟩
  · by_cases hi : i < ρ1.length
    · obtain ⟨v, h1, h2⟩ := r.dt i x e
      rw [List.getElem?_append_left (by omega)] at h1
      exact ⟨v, by rw [List.getElem?_append_left (by omega)]; exact h1, h2.mono s⟩
    · exact nomatch un e hi
  · by_cases hi : i < ρ1.length
    · have h1 := r.rw i v e
      rw [List.getElem?_append_left (by omega)] at h1
      rw [List.getElem?_append_left (by omega)]; exact h1
    · exact nomatch un e hi
theorem lst_fst {H : Hp} {l : Addr} {fs : List (Addr × LS × Addr)} (h : H l = some (.lst (fs.map fun x => V.ref x.1))) : H l = some (.lst ((fs.map (·.1)).map V.ref)) := by
  rw [h, List.map_map]
  rfl
end PL
namespace PL
open PySem PySem.Spec PyProof.Rows L2 LamX NdefX PD
/-! ### the end: a law that makes lambdas -/
/-- the tables of these defs are empty -/
def TabOf (K : PySem.W.Frag) (mg : Str → Option Value) (h : Heap) (ds : List Str) : Prop := ∀ n ∈ ds, ∀ (f c PT : Addr) (o : Obj) (fd : FuncData) (e : Value) (dd : Option Addr) (vs : Array Value) (sl : Array (Option Value)), mg n = some (.ref f) → K.lookup f = some o → o.data = .func fd → fd.code = .ref c → K.lookup c = some ⟨e, dd, .fields vs, sl⟩ → vs[11]? = some (.ref PT) →
  h.get? PT = some { cls := .none, data := .fields #[] }
structure LawAt (l : PySem.W.OpenLaw) (w : World) (K : PySem.W.Frag) (k : Nat) (mg : Str → Option Value) (fa : Addr) (h : Heap) (fd : FuncData) (cs : List (Addr × Addr)) (T : List (Addr × Str)) : Prop where
  tab : ∀ p ∈ cs, h.get? p.2 = some { cls := .none, data := .fields #[] }
  nok : ∀ p ∈ cs, K.lookup p.2 = none
  cod : ∀ p ∈ cs, PySem.W.CodeHd h p.1 p.2
  bnd : ∀ (s : Shared) (u : Value), BindsTo s fd ⟨[u], []⟩ [("script", u)]
  tcs : ∀ p ∈ T, ∃ x ∈ cs, x.2 = p.1
  fn : ∀ base : Heap, K.In base → base.Ns mainGlobals mg → (∀ p ∈ cs, TabB base mg p.1 p.2) → FnOk l.prog w K mg base (L2.CX l.prog w) k fa fd ["script"] (spLaw K T)
theorem walk26 {l : PySem.W.OpenLaw} {k : Nat} {q : Program} {loose : List Str} {XP : (Str → Option Value) → Heap → Prop} {YP : World → Heap → Prop} {d : DefRec} {K : Params → PySem.W.Frag} {ds : List Str} (hn : l.most = some 63) (hdf : d.params.defaults = []) (hr : Room k callerA) (hrec : ∀ n ∈ ds, ((recsOf q).any fun e => e.name == n) = true)
    (hY : ∀ (w : World) (h : Heap), YP w h → (K w.params).In h)
    (hF : ∀ (w : World) (mg : Str → Option Value) (fa : Addr) (h : Heap), (K w.params).In h → h.Ns mainGlobals mg → mg d.name = some (.ref fa) → TabOf (K w.params) mg h ds → ∃ fd cs T, LawAt l w (K w.params) k mg fa h fd cs T) :
    PySem.W.WalkO q loose XP YP l.row.toRowW d [] (fun f vs => PySem.call f vs) := by
  refine Att.attach_call hn hdf fun w s0 s1 mg mb fa o pm cd doc a vs ns G Y ho hd hcd hmg hobj hints hlen hg => ?_
  have KX := hY w _ Y
  have tabs : TabOf (K w.params) mg s1.heap ds := fun n hnm f c PT ob fd e dd vc sl k0 k1 k2 k3 k4 k5 => by
    obtain ⟨dL, m, en⟩ := List.any_eq_true.mp (hrec n hnm)
    have en : dL.name = n := beq_iff_eq.mp en
    obtain ⟨a1, o1, fd1, c1, P1, z1, z2, z3, z4, z5, z6⟩ := G.T.tab dL m
    rw [en, k0] at z1
    cases z1
    have y1 := KX _ _ k1
    rw [y1] at z2
    cases z2
    rw [k2] at z3
    cases z3
    rw [k3] at z4
    cases z4
    obtain ⟨⟨oc, fv, e1, _, e3, e4⟩, hP⟩ := z6
    have y2 := KX _ _ k4
    rw [y2] at e1
    cases e1
    cases e3
    rw [k5] at e4
    cases e4
    exact hP
  obtain ⟨fd, cs, T, A⟩ := hF w mg fa _ KX G.T.g hmg tabs
  have aT : a ∉ cs.map (·.2) := fun z => by
    obtain ⟨p, hp, e⟩ := List.mem_map.mp z
    have e1 := A.tab p hp
    rw [e, hobj] at e1
    have e2 : Data.seq vs.toArray _ = Data.fields #[] := congrArg Obj.data (Option.some.inj e1)
    cases e2
  refine law_callTs KX G.T.g G.T.b G.T.builtins G.T.nolimit hg A.tab A.nok A.cod G.T.bmain hobj hints (Nat.le_trans hlen (by decide)) hr A.fn A.bnd (fun H hH hS => ?_) (fun H e s' c => ?_)
  · have hs : ∀ b, b ∉ cs.map (·.2) → (fun b => if b ∈ cs.map (·.2) then none else H b) b = H b := fun b hb => if_neg hb
    have sS : Same (fun b => if b ∈ cs.map (·.2) then none else H b) H := fun b u e => by
      by_cases hb : b ∈ cs.map (·.2)
      · rw [show (fun b => if b ∈ cs.map (·.2) then none else H b) b = none from if_pos hb] at e
        cases e
      · rw [hs b hb] at e
        exact e
    have tc : ∀ p ∈ T, p.1 ∈ cs.map (·.2) := fun p hp => by
      obtain ⟨x, hx, e⟩ := A.tcs p hp
      exact List.mem_map.mpr ⟨x, hx, e⟩
    have ls : LsAt (K w.params) (fun b => if b ∈ cs.map (·.2) then none else H b) a (ns.map V.int) := by
      rcases script_at KX hobj hS with z | z
      · refine .inl ?_
        rcases z with z | ⟨ob, z⟩
        · exact .inl ((hs a aT).trans z)
        · exact .inr ⟨ob, (hs a aT).trans z⟩
      · exact .inr z
    refine ⟨fun b => if b ∈ cs.map (·.2) then none else H b, ns, sS, ⟨⟨a, ns.map V.int, rfl, ls, dvs_ints ns⟩, trivial⟩, hlen, rfl, fun p hp => ?_, fun p hp => if_pos (tc p hp), fun H' => rfl⟩
    obtain ⟨x, hx, e⟩ := A.tcs p hp
    refine TabS.nil ?_
    rw [← e]
    exact hH x hx
  · obtain ⟨_, _, _, _, _, _, _, _, _, _, _, _, z⟩ := c
    exact z.elim
end PL
namespace Lw
open PySem L2 PD PL
-- is_int: 0 value, 1 least, 2 most
def B_is_int : DEnv → SR := sRet (fAndV (fIsi "int" (fVar 0)) (fAndV (fNotV (fIsi "bool" (fVar 0))) (fChain gLe gLe (fVar 1) (fVar 0) (fVar 2))))
def F_is_int : List D → Res D := fnF 3 B_is_int
-- is_wheel: 0 value, 1 least, 2 most, 3 step
def B_is_wheel : DEnv → SR := sSeq (sIf (fOr (fNot (fTest (fIsi "tuple" (fVar 0)))) (fOr (fTest (fBin gNe (fB gLen (fCons (fVar 0) fNil)) (fC (.int 3)))) (fNot (fTest (fCall 3 F_is_int (fCons (fBin gIx (fVar 0) (fC (.int 0))) (fCons (fC (.int 0)) (fCons (fC (.int 40)) fNil)))))))) (sRet (fC (.bool false))) sNext) (sSeq (sAsg (fVar 0) [1, 2, 3] (hTup 3)) (sSeq (sIf (fOr (fNot (fTest (fCall 3 F_is_int (fCons (fVar 2) (fCons (fVar 1) (fCons (fC (.int 60)) fNil)))))) (fNot (fTest (fCall 3 F_is_int (fCons (fVar 3) (fCons (fC (.int 1)) (fCons (fC (.int 3)) fNil))))))) (sRet (fC (.bool false))) sNext) (sRet (fBin gLe (fBin gAdd (fBin gDiv (fBin gSub (fVar 2) (fVar 1)) (fVar 3)) (fC (.int 1))) (fC (.int 13))))))
def F_is_wheel : List D → Res D := fnF 4 B_is_wheel
-- is_camera: 0 candidate, 1 wheel
def B_is_camera : DEnv → SR := sSeq (sIf (fOr (fNot (fTest (fIsi "tuple" (fVar 0)))) (fTest (fBin gNe (fB gLen (fCons (fVar 0) fNil)) (fB gLen (fCons (fC (.tuple [(.str "aperture"), (.str "time"), (.str "sensitivity")])) fNil))))) (sRet (fC (.bool false))) sNext) (sRet (fB gAll (fCons (fLc (fSeq (fVar 0)) [1] [1] hOne fYes (fCall 1 F_is_wheel (fCons (fVar 1) fNil))) fNil)))
def F_is_camera : List D → Res D := fnF 2 B_is_camera
-- wheel_values: 0 wheel, 1 least, 2 most, 3 step
def B_wheel_values : DEnv → SR := sSeq (sAsg (fVar 0) [1, 2, 3] (hTup 3)) (sRet (fB gLR3 (fCons (fVar 1) (fCons (fBin gAdd (fVar 2) (fC (.int 1))) (fCons (fVar 3) fNil)))))
def F_wheel_values : List D → Res D := fnF 4 B_wheel_values
-- has_setting: 0 camera, 1 candidate, 2 known, 3 value, 4 wheel
def B_has_setting : DEnv → SR := sSeq (sIf (fOr (fNot (fTest (fIsi "tuple" (fVar 1)))) (fTest (fBin gNe (fB gLen (fCons (fVar 1) fNil)) (fB gLen (fCons (fC (.tuple [(.str "aperture"), (.str "time"), (.str "sensitivity")])) fNil))))) (sRet (fC (.bool false))) sNext) (sSeq (sAsg (fLc (fRng gZip (fCons (fVar 1) (fCons (fVar 0) fNil))) [3, 4] [3, 4] (hTup 2) fYes (fAndV (fCall 3 F_is_int (fCons (fVar 3) (fCons (fC (.int 0)) (fCons (fC (.int 60)) fNil)))) (fBin (gIn false) (fVar 3) (fCall 1 F_wheel_values (fCons (fVar 4) fNil))))) [2] hOne) (sRet (fB gAll (fCons (fVar 2) fNil))))
def F_has_setting : List D → Res D := fnF 5 B_has_setting
-- check_camera: 0 value
def B_check_camera : DEnv → SR := sIf (fNot (fTest (fCall 1 F_is_camera (fCons (fVar 0) fNil)))) (sRaise "InvalidCamera") sNext
def F_check_camera : List D → Res D := fnF 1 B_check_camera
-- check_setting: 0 camera, 1 value
def B_check_setting : DEnv → SR := sIf (fNot (fTest (fCall 2 F_has_setting (fCons (fVar 0) (fCons (fVar 1) fNil))))) (sRaise "InvalidSetting") sNext
def F_check_setting : List D → Res D := fnF 2 B_check_setting
-- check_light: 0 value
def B_check_light : DEnv → SR := sIf (fNot (fTest (fCall 3 F_is_int (fCons (fVar 0) (fCons (fC (.int (-60))) (fCons (fC (.int 120)) fNil)))))) (sRaise "InvalidBrightness") sNext
def F_check_light : List D → Res D := fnF 1 B_check_light
-- find_wheel: 0 value
def B_find_wheel : DEnv → SR := sSeq (sIf (fOr (fNot (fTest (fIsi "str" (fVar 0)))) (fTest (fBin (gIn true) (fVar 0) (fC (.tuple [(.str "aperture"), (.str "time"), (.str "sensitivity")]))))) (sRaise "InvalidWheel") sNext) (sRet (fNix ["aperture", "time", "sensitivity"] (fVar 0)))
def F_find_wheel : List D → Res D := fnF 1 B_find_wheel
-- is_setting: 0 camera, 1 candidate
def B_is_setting : DEnv → SR := sSeq (sExpr (fCall 1 F_check_camera (fCons (fVar 0) fNil))) sBad
def F_is_setting : List D → Res D := fnF 2 B_is_setting
-- values: 0 camera, 1 wheel
def B_values : DEnv → SR := sSeq (sExpr (fCall 1 F_check_camera (fCons (fVar 0) fNil))) (sRet (fCall 1 F_wheel_values (fCons (fBin gIx (fVar 0) (fCall 1 F_find_wheel (fCons (fVar 1) fNil))) fNil)))
def F_values : List D → Res D := fnF 2 B_values
-- count_settings: 0 camera
def B_count_settings : DEnv → SR := sSeq (sExpr (fCall 1 F_check_camera (fCons (fVar 0) fNil))) sBad
def F_count_settings : List D → Res D := fnF 1 B_count_settings
-- exposure: 0 camera, 1 setting
def B_exposure : DEnv → SR := sSeq (sExpr (fCall 1 F_check_camera (fCons (fVar 0) fNil))) (sSeq (sExpr (fCall 2 F_check_setting (fCons (fVar 0) (fCons (fVar 1) fNil)))) sBad)
def F_exposure : List D → Res D := fnF 2 B_exposure
-- error: 0 camera, 1 setting, 2 brightness
def B_error : DEnv → SR := sSeq (sExpr (fCall 1 F_check_camera (fCons (fVar 0) fNil))) (sSeq (sExpr (fCall 2 F_check_setting (fCons (fVar 0) (fCons (fVar 1) fNil)))) (sSeq (sExpr (fCall 1 F_check_light (fCons (fVar 2) fNil))) sBad))
def F_error : List D → Res D := fnF 3 B_error
-- check_both: 0 camera, 1 brightness
def B_check_both : DEnv → SR := sSeq (sExpr (fCall 1 F_check_camera (fCons (fVar 0) fNil))) (sExpr (fCall 1 F_check_light (fCons (fVar 1) fNil)))
def F_check_both : List D → Res D := fnF 2 B_check_both
-- right_settings: 0 camera, 1 brightness
def B_right_settings : DEnv → SR := sSeq (sExpr (fCall 2 F_check_both (fCons (fVar 0) (fCons (fVar 1) fNil)))) sBad
def F_right_settings : List D → Res D := fnF 2 B_right_settings
-- count_right: 0 camera, 1 brightness
def B_count_right : DEnv → SR := sSeq (sExpr (fCall 2 F_check_both (fCons (fVar 0) (fCons (fVar 1) fNil)))) sBad
def F_count_right : List D → Res D := fnF 2 B_count_right
-- reach: 0 camera
def B_reach : DEnv → SR := sSeq (sExpr (fCall 1 F_check_camera (fCons (fVar 0) fNil))) sBad
def F_reach : List D → Res D := fnF 1 B_reach
-- reachable: 0 camera
def B_reachable : DEnv → SR := sSeq (sExpr (fCall 1 F_check_camera (fCons (fVar 0) fNil))) sBad
def F_reachable : List D → Res D := fnF 1 B_reachable
-- commonest: 0 camera, 1 known, 2 number
def B_commonest : DEnv → SR := sSeq (sExpr (fCall 1 F_check_camera (fCons (fVar 0) fNil))) sBad
def F_commonest : List D → Res D := fnF 3 B_commonest
-- gaps: 0 camera, 1 known, 2 number
def B_gaps : DEnv → SR := sSeq (sExpr (fCall 1 F_check_camera (fCons (fVar 0) fNil))) sBad
def F_gaps : List D → Res D := fnF 3 B_gaps
-- least_error: 0 camera, 1 brightness
def B_least_error : DEnv → SR := sSeq (sExpr (fCall 2 F_check_both (fCons (fVar 0) (fCons (fVar 1) fNil)))) sBad
def F_least_error : List D → Res D := fnF 2 B_least_error
-- nearest_settings: 0 camera, 1 brightness, 2 least, 3 setting
def B_nearest_settings : DEnv → SR := sSeq (sExpr (fCall 2 F_check_both (fCons (fVar 0) (fCons (fVar 1) fNil)))) sBad
def F_nearest_settings : List D → Res D := fnF 4 B_nearest_settings
-- worst_brightness: 0 camera, 1 known, 2 least, 3 most, 4 number
def B_worst_brightness : DEnv → SR := sSeq (sExpr (fCall 1 F_check_camera (fCons (fVar 0) fNil))) sBad
def F_worst_brightness : List D → Res D := fnF 5 B_worst_brightness
-- check_number: 0 value, 1 most
def B_check_number : DEnv → SR := sIf (fNot (fTest (fCall 3 F_is_int (fCons (fVar 0) (fCons (fC (.int 1)) (fCons (fVar 1) fNil)))))) (sRaise "InvalidNumber") sNext
def F_check_number : List D → Res D := fnF 2 B_check_number
-- with_error: 0 setting, 1 place, 2 number, 3 changed
def B_with_error : DEnv → SR := sSeq (sAsg (fBin gAdd (fBin gIx (fVar 0) (fVar 1)) (fBin gMulI (fBin gIx (fC (.tuple [(.int 1), (.int 1), (.int (-1))])) (fVar 1)) (fVar 2))) [3] hOne) (sRet (fBin gAdd (fBin gAdd (fSl gSl (fVar 0) fNoPart (fPart (fVar 1))) (fTup (fCons (fVar 3) fNil))) (fSl gSl (fVar 0) (fPart (fBin gAdd (fVar 1) (fC (.int 1)))) fNoPart)))
def F_with_error : List D → Res D := fnF 4 B_with_error
-- find_bracket: 0 camera, 1 setting, 2 place, 3 many, 4 width, 5 found, 6 known, 7 number, 8 other
def B_find_bracket : DEnv → SR := sSeq (sAsg (fLc (fRng gRng2 (fCons (fBin gSub (fC (.int 0)) (fVar 3)) (fCons (fBin gAdd (fVar 3) (fC (.int 1))) fNil))) [7] [7] hOne fYes (fCall 3 F_with_error (fCons (fVar 1) (fCons (fVar 2) (fCons (fBin gMulI (fVar 4) (fVar 7)) fNil))))) [5] hOne) (sSeq (sAsg (fCall 1 F_wheel_values (fCons (fBin gIx (fVar 0) (fVar 2)) fNil)) [6] hOne) (sRet (fIf (fTest (fB gAll (fCons (fLc (fSeq (fVar 5)) [8] [8] hOne fYes (fBin (gIn false) (fBin gIx (fVar 8) (fVar 2)) (fVar 6))) fNil))) (fVar 5) (fC .none))))
def F_find_bracket : List D → Res D := fnF 9 B_find_bracket
-- check_three: 0 camera, 1 setting, 2 many
def B_check_three : DEnv → SR := sSeq (sExpr (fCall 1 F_check_camera (fCons (fVar 0) fNil))) (sSeq (sExpr (fCall 2 F_check_setting (fCons (fVar 0) (fCons (fVar 1) fNil)))) (sExpr (fCall 2 F_check_number (fCons (fVar 2) (fCons (fC (.int 4)) fNil)))))
def F_check_three : List D → Res D := fnF 3 B_check_three
-- bracket: 0 camera, 1 setting, 2 wheel, 3 many, 4 width, 5 place
def B_bracket : DEnv → SR := sSeq (sExpr (fCall 1 F_check_camera (fCons (fVar 0) fNil))) (sSeq (sExpr (fCall 2 F_check_setting (fCons (fVar 0) (fCons (fVar 1) fNil)))) (sSeq (sAsg (fCall 1 F_find_wheel (fCons (fVar 2) fNil)) [5] hOne) (sSeq (sExpr (fCall 2 F_check_number (fCons (fVar 3) (fCons (fC (.int 4)) fNil)))) (sSeq (sExpr (fCall 2 F_check_number (fCons (fVar 4) (fCons (fC (.int 12)) fNil)))) (sRet (fCall 5 F_find_bracket (fCons (fVar 0) (fCons (fVar 1) (fCons (fVar 5) (fCons (fVar 3) (fCons (fVar 4) fNil)))))))))))
def F_bracket : List D → Res D := fnF 6 B_bracket
-- wheels_for: 0 camera, 1 setting, 2 many, 3 width, 4 places, 5 place
def B_wheels_for : DEnv → SR := sSeq (sExpr (fCall 3 F_check_three (fCons (fVar 0) (fCons (fVar 1) (fCons (fVar 2) fNil))))) (sSeq (sExpr (fCall 2 F_check_number (fCons (fVar 3) (fCons (fC (.int 12)) fNil)))) sBad)
def F_wheels_for : List D → Res D := fnF 6 B_wheels_for
-- widest: 0 camera, 1 setting, 2 wheel, 3 many, 4 place, 5 widths, 6 width
def B_widest : DEnv → SR := sSeq (sExpr (fCall 1 F_check_camera (fCons (fVar 0) fNil))) (sSeq (sExpr (fCall 2 F_check_setting (fCons (fVar 0) (fCons (fVar 1) fNil)))) (sSeq (sAsg (fCall 1 F_find_wheel (fCons (fVar 2) fNil)) [4] hOne) (sSeq (sExpr (fCall 2 F_check_number (fCons (fVar 3) (fCons (fC (.int 4)) fNil)))) sBad)))
def F_widest : List D → Res D := fnF 7 B_widest
-- clicks: 0 camera, 1 one, 2 other
def B_clicks : DEnv → SR := sSeq (sExpr (fCall 1 F_check_camera (fCons (fVar 0) fNil))) (sSeq (sExpr (fCall 2 F_check_setting (fCons (fVar 0) (fCons (fVar 1) fNil)))) (sSeq (sExpr (fCall 2 F_check_setting (fCons (fVar 0) (fCons (fVar 2) fNil)))) sBad))
def F_clicks : List D → Res D := fnF 3 B_clicks
-- find_nearest: 0 camera, 1 setting, 2 brightness, 3 found, 4 other
def B_find_nearest : DEnv → SR := sSeq (sExpr (fCall 1 F_check_camera (fCons (fVar 0) fNil))) (sSeq (sExpr (fCall 2 F_check_setting (fCons (fVar 0) (fCons (fVar 1) fNil)))) (sSeq (sExpr (fCall 1 F_check_light (fCons (fVar 2) fNil))) sBad))
def F_find_nearest : List D → Res D := fnF 5 B_find_nearest
-- fewest_clicks: 0 camera, 1 setting, 2 brightness, 3 found
def B_fewest_clicks : DEnv → SR := sSeq (sAsg (fCall 3 F_find_nearest (fCons (fVar 0) (fCons (fVar 1) (fCons (fVar 2) fNil)))) [3] hOne) sBad
def F_fewest_clicks : List D → Res D := fnF 4 B_fewest_clicks
-- nearest_right: 0 camera, 1 setting, 2 brightness, 3 found
def B_nearest_right : DEnv → SR := sSeq (sAsg (fCall 3 F_find_nearest (fCons (fVar 0) (fCons (fVar 1) (fCons (fVar 2) fNil)))) [3] hOne) sBad
def F_nearest_right : List D → Res D := fnF 4 B_nearest_right
-- farthest: 0 camera, 1 brightness, 2 known, 3 best, 4 found, 5 one, 6 other, 7 many
def B_farthest : DEnv → SR := sSeq (sExpr (fCall 2 F_check_both (fCons (fVar 0) (fCons (fVar 1) fNil)))) sBad
def F_farthest : List D → Res D := fnF 8 B_farthest
-- shifts: 0 camera, 1 setting
def B_shifts : DEnv → SR := sSeq (sExpr (fCall 1 F_check_camera (fCons (fVar 0) fNil))) (sSeq (sExpr (fCall 2 F_check_setting (fCons (fVar 0) (fCons (fVar 1) fNil)))) sBad)
def F_shifts : List D → Res D := fnF 2 B_shifts
-- fewest_shifts: 0 camera, 1 one, 2 other
def B_fewest_shifts : DEnv → SR := sSeq (sExpr (fCall 1 F_check_camera (fCons (fVar 0) fNil))) (sSeq (sExpr (fCall 2 F_check_setting (fCons (fVar 0) (fCons (fVar 1) fNil)))) (sSeq (sExpr (fCall 2 F_check_setting (fCons (fVar 0) (fCons (fVar 2) fNil)))) sBad))
def F_fewest_shifts : List D → Res D := fnF 3 B_fewest_shifts
-- shift_groups: 0 camera, 1 brightness, 2 known, 3 found, 4 seen, 5 setting, 6 group, 7 other
def B_shift_groups : DEnv → SR := sSeq (sExpr (fCall 2 F_check_both (fCons (fVar 0) (fCons (fVar 1) fNil)))) sBad
def F_shift_groups : List D → Res D := fnF 8 B_shift_groups
-- _law_pick: 0 script, 1 k, 2 many, 3 cell, 4 rest, 5 again, 6 drawn
abbrev L_law_pick_0 : DEnv → SR := sPar (zD (fBin gDiv (fVar 4) (fC (.int 840))) (zD (fBin gSub (fVar 5) (fC (.int 1))) zNil)) [4, 5]
def B_law_pick : DEnv → SR := sSeq (sAsg (fIf (fTest (fBin gNe (fVar 0) (fLst fNil))) (fBin gIx (fVar 0) (fBin gMod (fVar 1) (fB gLen (fCons (fVar 0) fNil)))) (fC (.int 0))) [3] hOne) (sSeq (sPar (zD (fBin gDiv (fVar 3) (fBin gPow (fC (.int 10)) (fC (.int 18)))) (zD (fBin gDiv (fVar 1) (fB gMax2 (fCons (fB gLen (fCons (fVar 0) fNil)) (fCons (fC (.int 1)) fNil)))) zNil)) [4, 5]) (sSeq (whileGo (fAnd (fTest (fBin gGt (fVar 4) (fC (.int 0)))) (fTest (fBin gGt (fVar 5) (fC (.int 0))))) L_law_pick_0 100000) (sSeq (sIf (fTest (fBin gGt (fVar 4) (fC (.int 0)))) (sRet (fBin gMod (fBin gMod (fVar 4) (fC (.int 840))) (fVar 2))) sNext) (sSeq (sAsg (fBin gMod (fBin gMulI (fBin gAdd (fBin gMulI (fVar 3) (fC (.int 31))) (fBin gMulI (fC (.int 6151)) (fBin gAdd (fVar 1) (fC (.int 1))))) (fC (.int 40692))) (fC (.int 2147483399))) [6] hOne) (sRet (fBin gMod (fBin gMod (fBin gAdd (fBin gMulI (fVar 6) (fVar 6)) (fBin gDiv (fVar 6) (fC (.int 31)))) (fC (.int 2147483629))) (fVar 2)))))))
def F_law_pick : List D → Res D := fnF 7 B_law_pick
-- _law_box: 0 script, 1 at, 2 most, 3 found, 4 k, 5 least, 6 step, 7 many, 8 rest
abbrev L_law_box_0 : DEnv → SR := sSeq (sPar (zD (fCall 3 F_law_pick (fCons (fVar 0) (fCons (fBin gAdd (fVar 1) (fBin gMulI (fC (.int 4)) (fVar 4))) (fCons (fC (.int 23)) fNil)))) (zD (fBin gAdd (fC (.int 1)) (fCall 3 F_law_pick (fCons (fVar 0) (fCons (fBin gAdd (fBin gAdd (fVar 1) (fBin gMulI (fC (.int 4)) (fVar 4))) (fC (.int 1))) (fCons (fC (.int 3)) fNil))))) zNil)) [5, 6]) (sSeq (sAsg (fCall 3 F_law_pick (fCons (fVar 0) (fCons (fBin gAdd (fBin gAdd (fVar 1) (fBin gMulI (fC (.int 4)) (fVar 4))) (fC (.int 2))) (fCons (fVar 2) fNil)))) [7] hOne) (sSeq (sAsg (fCall 3 F_law_pick (fCons (fVar 0) (fCons (fBin gAdd (fBin gAdd (fVar 1) (fBin gMulI (fC (.int 4)) (fVar 4))) (fC (.int 3))) (fCons (fVar 6) fNil)))) [8] hOne) (sApp (fTup (fCons (fVar 5) (fCons (fBin gAdd (fBin gAdd (fVar 5) (fBin gMulI (fVar 6) (fVar 7))) (fVar 8)) (fCons (fVar 6) fNil)))) 3)))
def B_law_box : DEnv → SR := sSeq (sOwnL fNil 3) (sSeq (sFor (fRng gRng1 (fCons (fC (.int 3)) fNil)) [4] hOne L_law_box_0) (sFrz [3] (sRet (fB gTupOf (fCons (fVar 3) fNil)))))
def F_law_box : List D → Res D := fnF 9 B_law_box
-- _law_every: 0 box, 1 found, 2 least, 3 most, 4 step, 5 longer, 6 begun, 7 k
abbrev L_law_every_0 : DEnv → SR := sExt (fLc (fRng gRng1 (fCons (fBin gAdd (fBin gSub (fVar 3) (fVar 2)) (fC (.int 1))) fNil)) [7] [7] hOne (fTest (fBin gEq (fBin gMod (fVar 7) (fVar 4)) (fC (.int 0)))) (fBin gAdd (fVar 6) (fTup (fCons (fBin gAdd (fVar 2) (fVar 7)) fNil)))) 5
abbrev L_law_every_1 : DEnv → SR := sSeq (sOwnL fNil 5) (sSeq (sFor (fSeq (fVar 1)) [6] hOne L_law_every_0) (sFrz [5] (sAsg (fVar 5) [1] hOne)))
def B_law_every : DEnv → SR := sSeq (sAsg (fLst (fCons (fTup fNil) fNil)) [1] hOne) (sSeq (sFor (fSeq (fVar 0)) [2, 3, 4] (hTup 3) L_law_every_1) (sRet (fVar 1)))
def F_law_every : List D → Res D := fnF 8 B_law_every
-- _law_class: 0 fault, 1 kinds, 2 names
def B_law_class (a : Addr) (c : Str) : DEnv → SR := sSeq (sOwnL (fCons (fIsE 0 a (c == "InvalidCamera")) (fCons (fIsE 0 a (c == "InvalidSetting")) fNil)) 1) (sSeq (sExt (fLst (fCons (fIsE 0 a (c == "InvalidWheel")) (fCons (fIsE 0 a (c == "InvalidBrightness")) fNil))) 1) (sSeq (sExt (fLst (fCons (fIsE 0 a (c == "InvalidNumber")) fNil)) 1) (sSeq (sIf (fOr (fTest (fBin gNe (fLM gCount (fVar 1) (fC (.bool true))) (fC (.int 1)))) (fNot (fTest (fIsE 0 a true)))) (sRet (fC (.str "wrong"))) sNext) (sSeq (sAsg (fLst (fCons (fC (.str "InvalidCamera")) (fCons (fC (.str "InvalidSetting")) (fCons (fC (.str "InvalidWheel")) (fCons (fC (.str "InvalidBrightness")) (fCons (fC (.str "InvalidNumber")) fNil)))))) [2] hOne) (sFrz [1] (sRet (fBin gIx (fVar 2) (fLM gIndex (fVar 1) (fC (.bool true))))))))))
abbrev FE_law_cameras_0 : DEnv → Res D := fCall 2 F_is_setting (fCons (fVar 0) (fCons (fC .none) fNil))
abbrev FE_law_cameras_1 : DEnv → Res D := fCall 2 F_values (fCons (fVar 0) (fCons (fC .none) fNil))
abbrev FE_law_cameras_2 : DEnv → Res D := fCall 1 F_count_settings (fCons (fVar 0) fNil)
abbrev FE_law_cameras_3 : DEnv → Res D := fCall 2 F_exposure (fCons (fVar 0) (fCons (fC .none) fNil))
abbrev FE_law_cameras_4 : DEnv → Res D := fCall 3 F_error (fCons (fVar 0) (fCons (fC .none) (fCons (fC .none) fNil)))
abbrev FE_law_cameras_5 : DEnv → Res D := fCall 2 F_right_settings (fCons (fVar 0) (fCons (fC .none) fNil))
abbrev FE_law_cameras_6 : DEnv → Res D := fCall 2 F_count_right (fCons (fVar 0) (fCons (fC .none) fNil))
abbrev FE_law_cameras_7 : DEnv → Res D := fCall 1 F_reach (fCons (fVar 0) fNil)
abbrev FE_law_cameras_8 : DEnv → Res D := fCall 1 F_reachable (fCons (fVar 0) fNil)
abbrev FE_law_cameras_9 : DEnv → Res D := fCall 1 F_commonest (fCons (fVar 0) fNil)
abbrev FE_law_cameras_10 : DEnv → Res D := fCall 1 F_gaps (fCons (fVar 0) fNil)
abbrev FE_law_cameras_11 : DEnv → Res D := fCall 2 F_least_error (fCons (fVar 0) (fCons (fC .none) fNil))
abbrev FE_law_cameras_12 : DEnv → Res D := fCall 2 F_nearest_settings (fCons (fVar 0) (fCons (fC .none) fNil))
abbrev FE_law_cameras_13 : DEnv → Res D := fCall 1 F_worst_brightness (fCons (fVar 0) fNil)
abbrev FE_law_cameras_14 : DEnv → Res D := fCall 3 F_clicks (fCons (fVar 0) (fCons (fC .none) (fCons (fC .none) fNil)))
abbrev FE_law_cameras_15 : DEnv → Res D := fCall 3 F_fewest_clicks (fCons (fVar 0) (fCons (fC .none) (fCons (fC .none) fNil)))
abbrev FE_law_cameras_16 : DEnv → Res D := fCall 3 F_nearest_right (fCons (fVar 0) (fCons (fC .none) (fCons (fC .none) fNil)))
abbrev FE_law_cameras_17 : DEnv → Res D := fCall 2 F_farthest (fCons (fVar 0) (fCons (fC .none) fNil))
abbrev FE_law_cameras_18 : DEnv → Res D := fCall 2 F_shifts (fCons (fVar 0) (fCons (fC .none) fNil))
abbrev FE_law_cameras_19 : DEnv → Res D := fCall 3 F_fewest_shifts (fCons (fVar 0) (fCons (fC .none) (fCons (fC .none) fNil)))
abbrev FE_law_cameras_20 : DEnv → Res D := fCall 2 F_shift_groups (fCons (fVar 0) (fCons (fC .none) fNil))
abbrev FE_law_cameras_21 : DEnv → Res D := fCall 5 F_bracket (fCons (fVar 0) (fCons (fC .none) (fCons (fC .none) (fCons (fC (.int 0)) (fCons (fC (.int 0)) fNil)))))
abbrev FE_law_cameras_22 : DEnv → Res D := fCall 4 F_wheels_for (fCons (fVar 0) (fCons (fC .none) (fCons (fC (.int 0)) (fCons (fC (.int 0)) fNil))))
abbrev FE_law_cameras_23 : DEnv → Res D := fCall 4 F_widest (fCons (fVar 0) (fCons (fC .none) (fCons (fC .none) (fCons (fC (.int 0)) fNil))))
abbrev FE_law_set_0 : DEnv → Res D := fCall 2 F_exposure (fCons (fVar 0) (fCons (fVar 1) fNil))
abbrev FE_law_set_1 : DEnv → Res D := fCall 3 F_error (fCons (fVar 0) (fCons (fVar 1) (fCons (fC .none) fNil)))
abbrev FE_law_set_2 : DEnv → Res D := fCall 3 F_clicks (fCons (fVar 0) (fCons (fVar 1) (fCons (fC .none) fNil)))
abbrev FE_law_set_3 : DEnv → Res D := fCall 3 F_clicks (fCons (fVar 0) (fCons (fVar 1) (fCons (fVar 2) fNil)))
abbrev FE_law_set_4 : DEnv → Res D := fCall 3 F_fewest_clicks (fCons (fVar 0) (fCons (fVar 1) (fCons (fC .none) fNil)))
abbrev FE_law_set_5 : DEnv → Res D := fCall 3 F_nearest_right (fCons (fVar 0) (fCons (fVar 1) (fCons (fC .none) fNil)))
abbrev FE_law_set_6 : DEnv → Res D := fCall 2 F_shifts (fCons (fVar 0) (fCons (fVar 1) fNil))
abbrev FE_law_set_7 : DEnv → Res D := fCall 3 F_fewest_shifts (fCons (fVar 0) (fCons (fVar 1) (fCons (fC .none) fNil)))
abbrev FE_law_set_8 : DEnv → Res D := fCall 3 F_fewest_shifts (fCons (fVar 0) (fCons (fVar 1) (fCons (fVar 2) fNil)))
abbrev FE_law_set_9 : DEnv → Res D := fCall 5 F_bracket (fCons (fVar 0) (fCons (fVar 1) (fCons (fC .none) (fCons (fC (.int 0)) (fCons (fC (.int 0)) fNil)))))
abbrev FE_law_set_10 : DEnv → Res D := fCall 4 F_wheels_for (fCons (fVar 0) (fCons (fVar 1) (fCons (fC (.int 0)) (fCons (fC (.int 0)) fNil))))
abbrev FE_law_set_11 : DEnv → Res D := fCall 4 F_widest (fCons (fVar 0) (fCons (fVar 1) (fCons (fC .none) (fCons (fC (.int 0)) fNil))))
abbrev FE_law_lit_0 : DEnv → Res D := fCall 3 F_error (fCons (fVar 0) (fCons (fVar 1) (fCons (fVar 2) fNil)))
abbrev FE_law_lit_1 : DEnv → Res D := fCall 2 F_right_settings (fCons (fVar 0) (fCons (fVar 1) fNil))
abbrev FE_law_lit_2 : DEnv → Res D := fCall 2 F_count_right (fCons (fVar 0) (fCons (fVar 1) fNil))
abbrev FE_law_lit_3 : DEnv → Res D := fCall 2 F_least_error (fCons (fVar 0) (fCons (fVar 1) fNil))
abbrev FE_law_lit_4 : DEnv → Res D := fCall 2 F_nearest_settings (fCons (fVar 0) (fCons (fVar 1) fNil))
abbrev FE_law_lit_5 : DEnv → Res D := fCall 3 F_fewest_clicks (fCons (fVar 0) (fCons (fVar 1) (fCons (fVar 2) fNil)))
abbrev FE_law_lit_6 : DEnv → Res D := fCall 3 F_nearest_right (fCons (fVar 0) (fCons (fVar 1) (fCons (fVar 2) fNil)))
abbrev FE_law_lit_7 : DEnv → Res D := fCall 2 F_farthest (fCons (fVar 0) (fCons (fVar 1) fNil))
abbrev FE_law_lit_8 : DEnv → Res D := fCall 2 F_shift_groups (fCons (fVar 0) (fCons (fVar 1) fNil))
abbrev FE_law_0 : DEnv → Res D := fCall 2 F_values (fCons (fVar 0) (fCons (fVar 1) fNil))
abbrev FE_law_1 : DEnv → Res D := fCall 5 F_bracket (fCons (fVar 0) (fCons (fVar 1) (fCons (fVar 2) (fCons (fC (.int 0)) (fCons (fC (.int 0)) fNil)))))
abbrev FE_law_2 : DEnv → Res D := fCall 4 F_widest (fCons (fVar 0) (fCons (fVar 1) (fCons (fVar 2) (fCons (fC (.int 0)) fNil))))
abbrev FE_law_3 : DEnv → Res D := fCall 5 F_bracket (fCons (fVar 0) (fCons (fVar 1) (fCons (fC (.str "time")) (fCons (fC (.int 0)) (fCons (fC (.int 0)) fNil)))))
abbrev FE_law_4 : DEnv → Res D := fCall 5 F_bracket (fCons (fVar 0) (fCons (fVar 1) (fCons (fC (.str "time")) (fCons (fC (.int 5)) (fCons (fC (.int 1)) fNil)))))
abbrev FE_law_5 : DEnv → Res D := fCall 5 F_bracket (fCons (fVar 0) (fCons (fVar 1) (fCons (fC (.str "time")) (fCons (fC (.int 1)) (fCons (fC (.int 13)) fNil)))))
abbrev FE_law_6 : DEnv → Res D := fCall 5 F_bracket (fCons (fVar 0) (fCons (fVar 1) (fCons (fC (.str "time")) (fCons (fC (.int 1)) (fCons (fC (.bool true)) fNil)))))
abbrev FE_law_7 : DEnv → Res D := fCall 4 F_wheels_for (fCons (fVar 0) (fCons (fVar 1) (fCons (fC (.int 1)) (fCons (fC (.int 0)) fNil))))
abbrev FE_law_8 : DEnv → Res D := fCall 4 F_wheels_for (fCons (fVar 0) (fCons (fVar 1) (fCons (fC (.int 5)) (fCons (fC (.int 1)) fNil))))
abbrev FE_law_9 : DEnv → Res D := fCall 4 F_widest (fCons (fVar 0) (fCons (fVar 1) (fCons (fC (.str "aperture")) (fCons (fC (.int 0)) fNil))))
abbrev FE_law_10 : DEnv → Res D := fCall 4 F_widest (fCons (fVar 0) (fCons (fVar 1) (fCons (fC (.str "aperture")) (fCons (fC .none) fNil))))
def FES_law_cameras : List ((DEnv → Res D) × List Nat) := [(FE_law_cameras_0, [0]), (FE_law_cameras_1, [0]), (FE_law_cameras_2, [0]), (FE_law_cameras_3, [0]), (FE_law_cameras_4, [0]), (FE_law_cameras_5, [0]), (FE_law_cameras_6, [0]), (FE_law_cameras_7, [0]), (FE_law_cameras_8, [0]), (FE_law_cameras_9, [0]), (FE_law_cameras_10, [0]), (FE_law_cameras_11, [0]), (FE_law_cameras_12, [0]), (FE_law_cameras_13, [0]), (FE_law_cameras_14, [0]), (FE_law_cameras_15, [0]), (FE_law_cameras_16, [0]), (FE_law_cameras_17, [0]), (FE_law_cameras_18, [0]), (FE_law_cameras_19, [0]), (FE_law_cameras_20, [0]), (FE_law_cameras_21, [0]), (FE_law_cameras_22, [0]), (FE_law_cameras_23, [0])]
def FES_law_set : List ((DEnv → Res D) × List Nat) := [(FE_law_set_0, [0, 2]), (FE_law_set_1, [0, 2]), (FE_law_set_2, [0, 2]), (FE_law_set_3, [0, 1, 2]), (FE_law_set_4, [0, 2]), (FE_law_set_5, [0, 2]), (FE_law_set_6, [0, 2]), (FE_law_set_7, [0, 2]), (FE_law_set_8, [0, 1, 2]), (FE_law_set_9, [0, 2]), (FE_law_set_10, [0, 2]), (FE_law_set_11, [0, 2])]
def FES_law_lit : List ((DEnv → Res D) × List Nat) := [(FE_law_lit_0, [0, 1, 2]), (FE_law_lit_1, [0, 2]), (FE_law_lit_2, [0, 2]), (FE_law_lit_3, [0, 2]), (FE_law_lit_4, [0, 2]), (FE_law_lit_5, [0, 1, 2]), (FE_law_lit_6, [0, 1, 2]), (FE_law_lit_7, [0, 2]), (FE_law_lit_8, [0, 2])]
-- law: 0 script, 1 box, 2 at, 3 one, 4 flat, 5 late, 6 no, 7 low, 8 bad, 9 light, 10 name, 11 calls, 12 numbers
def B_head : DEnv → SR := sSeq (sAsg (fTup (fCons (fCall 3 F_law_box (fCons (fVar 0) (fCons (fC (.int 0)) (fCons (fC (.int 4)) fNil)))) (fCons (fCall 3 F_law_pick (fCons (fVar 0) (fCons (fC (.int 20)) (fCons (fC (.int 8)) fNil)))) fNil))) [1, 2] (hTup 2)) (sSeq (sAsg (fTup (fCons (fBin gIx (fCall 1 F_law_every (fCons (fVar 1) fNil)) (fC (.int 0))) (fCons (fTup (fCons (fC (.int 0)) (fCons (fC (.int 0)) (fCons (fC (.int 1)) fNil)))) fNil))) [3, 4] (hTup 2)) (sSeq (sAsg (fTup (fCons (fTup (fCons (fC (.int 41)) (fCons (fC (.int 41)) (fCons (fC (.int 1)) fNil)))) (fCons (fVar 4) (fCons (fVar 4) fNil)))) [5] hOne) (sSeq (sAsg (fBin gIx (fTup (fCons (fC .none) (fCons (fC (.int 5)) (fCons (fTup (fCons (fVar 4) (fCons (fVar 4) fNil))) (fCons (fTup (fCons (fTup (fCons (fC (.int 0)) (fCons (fC (.int 13)) (fCons (fC (.int 1)) fNil)))) (fCons (fVar 4) (fCons (fVar 4) fNil)))) (fCons (fVar 5) (fCons (fBin gRep (fLst (fCons (fVar 4) fNil)) (fC (.int 3))) (fCons (fTup (fCons (fTup (fCons (fC (.int 0)) (fCons (fC (.int 0)) (fCons (fC (.int 4)) fNil)))) (fCons (fVar 4) (fCons (fVar 4) fNil)))) (fCons (fTup fNil) fNil))))))))) (fVar 2)) [6] hOne) (sSeq (sAsg (fTup (fCons (fUn gNeg (fC (.int 1))) (fCons (fBin gIx (fVar 3) (fC (.int 1))) (fCons (fBin gIx (fVar 3) (fC (.int 2))) fNil)))) [7] hOne) (sSeq (sAsg (fBin gIx (fTup (fCons (fC .none) (fCons (fC (.int 5)) (fCons (fSl gSl (fVar 3) fNoPart (fPart (fC (.int 2)))) (fCons (fB gListOf (fCons (fVar 3) fNil)) (fCons (fTup (fCons (fC (.int 99)) (fCons (fBin gIx (fVar 3) (fC (.int 1))) (fCons (fBin gIx (fVar 3) (fC (.int 2))) fNil)))) (fCons (fTup (fCons (fBin gIx (fVar 3) (fC (.int 0))) (fCons (fC .none) (fCons (fBin gIx (fVar 3) (fC (.int 2))) fNil)))) (fCons (fBin gAdd (fVar 3) (fTup (fCons (fC (.int 0)) fNil))) (fCons (fVar 7) fNil))))))))) (fVar 2)) [8] hOne) (sSeq (sAsg (fBin gIx (fTup (fCons (fC .none) (fCons (fUn gNeg (fC (.int 61))) (fCons (fC (.int 121)) (fCons (fC (.bool true)) (fCons (fC (.str "5")) (fCons (fTup (fCons (fC (.int 5)) fNil)) (fCons (fLst (fCons (fC (.int 5)) fNil)) (fCons (fUn gNeg (fC (.int 99))) fNil))))))))) (fVar 2)) [9] hOne) sNext))))))
def F_walk : DEnv → Res (List D) := fSeq (fTup (fCons (fC .none) (fCons (fC (.str "")) (fCons (fC (.str "Time")) (fCons (fC (.str "speed")) (fCons (fLst (fCons (fC (.str "time")) fNil)) (fCons (fC (.int 1)) fNil)))))))
def F_last : DEnv → Res D := fBin (gIs false) (fCall 5 F_bracket (fCons (fVar 1) (fCons (fVar 3) (fCons (fC (.str "time")) (fCons (fC (.int 4)) (fCons (fC (.int 12)) fNil)))))) (fC .none)
def NMS : List D := [.none, .str "", .str "Time", .str "speed", .list [.str "time"], .int 1]
def LawMath : Prop := ∀ ns : List Int, ns.length ≤ 63 → ∃ box at_ one flat late no low bad light : D, B_head (startD 13 [.list (ns.map PyData.int)]) = .next [.d (.list (ns.map PyData.int)), .d box, .d at_, .d one, .d flat, .d late, .d no, .d low, .d bad, .d light, .un, .un, .un] ∧
  (∀ x ∈ FES_law_cameras, x.1 (startD x.2.length (pickD .none [no] x.2)) = .err "InvalidCamera") ∧
  (∀ x ∈ FES_law_set, x.1 (startD x.2.length (pickD .none [box, one, bad] x.2)) = .err "InvalidSetting") ∧
  (∀ x ∈ FES_law_lit, x.1 (startD x.2.length (pickD .none [box, one, light] x.2)) = .err "InvalidBrightness") ∧
  (∀ d ∈ NMS, FE_law_0 (startD 2 [box, d]) = .err "InvalidWheel" ∧ FE_law_1 (startD 3 [box, one, d]) = .err "InvalidWheel" ∧ FE_law_2 (startD 3 [box, one, d]) = .err "InvalidWheel") ∧
  (FE_law_3 (startD 2 [box, one]) = .err "InvalidNumber" ∧ FE_law_4 (startD 2 [box, one]) = .err "InvalidNumber" ∧ FE_law_5 (startD 2 [box, one]) = .err "InvalidNumber" ∧ FE_law_6 (startD 2 [box, one]) = .err "InvalidNumber" ∧ FE_law_7 (startD 2 [box, one]) = .err "InvalidNumber" ∧ FE_law_8 (startD 2 [box, one]) = .err "InvalidNumber" ∧ FE_law_9 (startD 2 [box, one]) = .err "InvalidNumber" ∧ FE_law_10 (startD 2 [box, one]) = .err "InvalidNumber") ∧ F_last [.d (.list (ns.map PyData.int)), .d box, .d at_, .d one, .d flat, .d late, .d no, .d low, .d bad, .d light, .un, .un, .un] = .ok (.bool true)
end Lw
local macro_rules | `(tactic| walk_at "ev") => `(tactic| try simp -implicitDefEqProofs only [PD.startD, List.map_cons, List.map_nil, List.length_cons, List.length_nil, List.cons_append, List.nil_append, Nat.reduceAdd, Nat.reduceSub, List.replicate_succ, List.replicate_zero, PD.v_nil, PD.v_cons, PD.w_d, PD.w_un, PD.w_own, PD.w_raw, PD.x_isE0, PD.x_isES, PD.x_st, PD.s_ok, PD.x_lm, PD.x_asList, PD.y_bex, PD.y_bret, PD.y_bif, PD.x_via, PD.x_var0, PD.x_varS, PD.x_c, PD.x_bin, PD.x_un, PD.x_call1, PD.x_call2, PD.x_call3, PD.x_call0, PD.x_b, PD.x_nil, PD.x_cons, PD.x_test, PD.x_asB, PD.x_not, PD.x_and, PD.x_or, PD.x_andV, PD.x_orV, PD.x_notV, PD.x_if, PD.x_isi, PD.x_chain, PD.x_tup, PD.x_lst, PD.x_mkT0, PD.x_mkT1, PD.x_mkT2, PD.x_mkT3, PD.x_mkL0, PD.x_mkL1, PD.x_mkL2, PD.x_mkL3, PD.x_mkL4, PD.x_mkL5, PD.x_mkL6, PD.x_sl, PD.x_np, PD.x_pt, PD.x_asI, PD.g_slTa, PD.g_slTb, PD.g_addT12, PD.g_addT21, PD.g_addT31, PD.g_addL52, PD.g_addL72, PD.x_neg, PD.g_addL11, PD.g_addL21, PD.g_addL31, PD.g_addL32, PD.g_addL51, PD.g_addL41, PD.g_addL22, PD.bind_ok, PD.bind_err, PD.bind_bad, PD.y_next, PD.y_ret, PD.y_err, PD.y_ok, PD.y_er, PD.y_seq, PD.y_if, PD.y_nx, PD.y_rt, PD.y_ex, PD.y_rs, PD.y_as1, PD.y_asT3, PD.wp_nil, PD.wp_cons, PD.l_1, PD.l_2, PD.l_3, PD.l2_11, PD.x_seq, PD.x_asL, PD.x_asT, PD.x_rng, PD.x_zipL, PD.x_zipT, PD.g_tupL, PD.g_tupT, PD.g_listL, PD.g_listT, PD.y_fn, PD.y_t1, PD.y_t2, PD.y_t3, PD.set0, PD.setS', PD.eq_int, PD.ne_int, PD.g_lt, PD.g_le, PD.g_gt, PD.g_ge, PD.g_sub, PD.g_add, PD.g_lenL, PD.g_lenT, PD.g_ix30, PD.g_ix31, PD.g_ix32, PD.isi_TT, PD.isi_TL, PD.isi_LL, PD.isi_SS, PD.is_TF, PD.is_FF, reduceIte, Bool.false_eq_true, Bool.not_true, Bool.not_false, Int.cast_ofNat_Int, beq_self_eq_true, Int.reduceBEq, decide_true, decide_false])
local macro_rules | `(tactic| simp_arith [$xs,*]) => `(tactic| simp -implicitDefEqProofs only [$xs,*, PD.startD, List.map_cons, List.map_nil, List.length_cons, List.length_nil, List.cons_append, List.nil_append, Nat.reduceAdd, Nat.reduceSub, List.replicate_succ, List.replicate_zero, PD.v_nil, PD.v_cons, PD.w_d, PD.w_un, PD.w_own, PD.w_raw, PD.x_isE0, PD.x_isES, PD.x_st, PD.s_ok, PD.x_lm, PD.x_asList, PD.y_bex, PD.y_bret, PD.y_bif, PD.x_via, PD.x_var0, PD.x_varS, PD.x_c, PD.x_bin, PD.x_un, PD.x_call1, PD.x_call2, PD.x_call3, PD.x_call0, PD.x_b, PD.x_nil, PD.x_cons, PD.x_test, PD.x_asB, PD.x_not, PD.x_and, PD.x_or, PD.x_andV, PD.x_orV, PD.x_notV, PD.x_if, PD.x_isi, PD.x_chain, PD.x_tup, PD.x_lst, PD.x_mkT0, PD.x_mkT1, PD.x_mkT2, PD.x_mkT3, PD.x_mkL0, PD.x_mkL1, PD.x_mkL2, PD.x_mkL3, PD.x_mkL4, PD.x_mkL5, PD.x_mkL6, PD.x_sl, PD.x_np, PD.x_pt, PD.x_asI, PD.g_slTa, PD.g_slTb, PD.g_addT12, PD.g_addT21, PD.g_addT31, PD.g_addL52, PD.g_addL72, PD.x_neg, PD.g_addL11, PD.g_addL21, PD.g_addL31, PD.g_addL32, PD.g_addL51, PD.g_addL41, PD.g_addL22, PD.bind_ok, PD.bind_err, PD.bind_bad, PD.y_next, PD.y_ret, PD.y_err, PD.y_ok, PD.y_er, PD.y_seq, PD.y_if, PD.y_nx, PD.y_rt, PD.y_ex, PD.y_rs, PD.y_as1, PD.y_asT3, PD.wp_nil, PD.wp_cons, PD.l_1, PD.l_2, PD.l_3, PD.l2_11, PD.x_seq, PD.x_asL, PD.x_asT, PD.x_rng, PD.x_zipL, PD.x_zipT, PD.g_tupL, PD.g_tupT, PD.g_listL, PD.g_listT, PD.y_fn, PD.y_t1, PD.y_t2, PD.y_t3, PD.set0, PD.setS', PD.eq_int, PD.ne_int, PD.g_lt, PD.g_le, PD.g_gt, PD.g_ge, PD.g_sub, PD.g_add, PD.g_lenL, PD.g_lenT, PD.g_ix30, PD.g_ix31, PD.g_ix32, PD.isi_TT, PD.isi_TL, PD.isi_LL, PD.isi_SS, PD.is_TF, PD.is_FF, reduceIte, Bool.false_eq_true, Bool.not_true, Bool.not_false, Int.cast_ofNat_Int, beq_self_eq_true, Int.reduceBEq, decide_true, decide_false])
namespace Lw
open PySem L2 PD PL
def isIntD (d : D) (lo hi : Int) : Bool := match d with
  | .int i => decide (lo ≤ i) && decide (i ≤ hi)
  | _ => false
theorem is_int_eq (d : D) (lo hi : Int) : F_is_int [d, .int lo, .int hi] = .ok (.bool (isIntD d lo hi)) := by
  cases d with
  | int i =>
    show toRes (ofRes ((Res.ok (decide (lo ≤ i))).bind fun k => if k = true then (Res.ok (.bool (decide (i ≤ hi)))) else .ok (.bool false)) fun d => .ret d) = .ok (.bool (decide (lo ≤ i) && decide (i ≤ hi)))
    cases decide (lo ≤ i) <;> rfl
  | _ => rfl
theorem isIntD_int (i lo hi : Int) : isIntD (.int i) lo hi = (decide (lo ≤ i) && decide (i ≤ hi)) := rfl
structure GoodW (l m s : Int) : Prop where
  l0 : 0 ≤ l
  l1 : l ≤ 40
  m0 : l ≤ m
  m1 : m ≤ 60
  s0 : 1 ≤ s
  s1 : s ≤ 3
  n : (m - l) / s + 1 ≤ 13
abbrev wD (l m s : Int) : D := .tuple [.int l, .int m, .int s]
theorem is_wheel_good {l m s : Int} (g : GoodW l m s) : F_is_wheel [wD l m s] = .ok (.bool true) := by
  unfold F_is_wheel B_is_wheel
  have h1 : isIntD (.int l) 0 40 = true := by rw [isIntD_int]; simp [g.l0, g.l1]
  have h2 : isIntD (.int m) l 60 = true := by rw [isIntD_int]; simp [g.m0, g.m1]
  have h3 : isIntD (.int s) 1 3 = true := by rw [isIntD_int]; simp [g.s0, g.s1]
  have h4 : divOk (m - l) s = true := by
    have := g.s0
    have := g.s1
    unfold divOk
    simp only [Bool.and_eq_true, decide_eq_true_eq]
    omega
  walk_at "ev"
  simp only [is_int_eq, h1]
  walk_at "ev"
  simp only [is_int_eq, h2, h3]
  walk_at "ev"
  simp only [g_div h4]
  walk_at "ev"
  simp only [decide_eq_true g.n]

abbrev camD (w1 w2 w3 : D) : D := .tuple [w1, w2, w3]
theorem is_camera_of {w1 w2 w3 : D} {b1 b2 b3 : Bool} (h1 : F_is_wheel [w1] = .ok (.bool b1)) (h2 : F_is_wheel [w2] = .ok (.bool b2)) (h3 : F_is_wheel [w3] = .ok (.bool b3)) : F_is_camera [camD w1 w2 w3] = .ok (.bool (b1 && (b2 && b3))) := by
  unfold F_is_camera B_is_camera
  have e : fLc (fSeq (fVar 0)) [1] [1] hOne fYes (fCall 1 F_is_wheel (fCons (fVar 1) fNil)) [.d (camD w1 w2 w3), .un] = .ok (.list [.bool b1, .bool b2, .bool b3]) := by
    refine x_lc (ds := [w1, w2, w3]) rfl ?_ (by show 3 < 1000000; decide)
    unfold lcGo lcGo lcGo lcGo
    walk_at "ev"
    simp only [h1, h2, h3]
    rfl
  walk_at "ev"
  rw [e]
  walk_at "ev"
  show toRes (ofRes (Res.ok (PyData.bool ([b1, b2, b3].all id))) _) = _
  cases b1 <;> cases b2 <;> cases b3 <;> rfl
structure Cam where
  l1 : Int
  m1 : Int
  s1 : Int
  l2 : Int
  m2 : Int
  s2 : Int
  l3 : Int
  m3 : Int
  s3 : Int
structure GoodC (c : Cam) : Prop where
  w1 : GoodW c.l1 c.m1 c.s1
  w2 : GoodW c.l2 c.m2 c.s2
  w3 : GoodW c.l3 c.m3 c.s3
abbrev cD (c : Cam) : D := .tuple [wD c.l1 c.m1 c.s1, wD c.l2 c.m2 c.s2, wD c.l3 c.m3 c.s3]
theorem is_camera_good {c : Cam} (g : GoodC c) : F_is_camera [cD c] = .ok (.bool true) := is_camera_of (is_wheel_good g.w1) (is_wheel_good g.w2) (is_wheel_good g.w3)
theorem check_camera_good {c : Cam} (g : GoodC c) : F_check_camera [cD c] = .ok .none := by
  unfold F_check_camera B_check_camera
  walk_at "ev"
  simp only [is_camera_good g]
  walk_at "ev"
/-- the values of a wheel -/
def wv (l m s : Int) : List Int := (List.range (rngN l (m + 1) s)).map fun (i : Nat) => l + (i : Int) * s
abbrev iL (ns : List Int) : List D := ns.map PyData.int
theorem wv_D (l m s : Int) : rngS l s (rngN l (m + 1) s) = iL (wv l m s) := by
  unfold rngS iL wv
  rw [List.map_map]
  rfl
theorem wheel_values_good {l m s : Int} (g : GoodW l m s) : F_wheel_values [wD l m s] = .ok (.list (iL (wv l m s))) := by
  have h : rng3Ok l (m + 1) s = true := by
    unfold rng3Ok
    have := g.l0
    have := g.l1
    have := g.m0
    have := g.m1
    have := g.s0
    have := g.s1
    simp only [Bool.and_eq_true, decide_eq_true_eq]
    omega
  unfold F_wheel_values B_wheel_values
  walk_at "ev"
  unfold gLR3
  dsimp only
  rw [if_pos h, wv_D]
  rfl
theorem wv_len {l m s : Int} (g : GoodW l m s) : (wv l m s).length ≤ 13 := by
  unfold wv
  rw [List.length_map, List.length_range]
  unfold rngN
  have := g.m0
  have := g.n
  have := g.s0
  rw [if_pos (by omega), show m + 1 - l - 1 = m - l by omega]
  omega
/-- a value: from least to most, in steps -/
theorem mem_wv {l m s x : Int} (h : l ≤ m) (hs : 0 < s) : x ∈ wv l m s ↔ l ≤ x ∧ x ≤ m ∧ (x - l) % s = 0 := by
  unfold wv rngN
  rw [if_pos (by omega), show m + 1 - l - 1 = m - l by omega]
  have hd : 0 ≤ (m - l) / s := Int.ediv_nonneg (by omega) (by omega)
  have e1 := Int.mul_ediv_add_emod (m - l) s
  have e2 := Int.emod_nonneg (m - l) (show s ≠ 0 by omega)
  have e3 := Int.emod_lt_of_pos (m - l) hs
  simp only [List.mem_map, List.mem_range]
  constructor
  · rintro ⟨i, hi, rfl⟩
    have hi' : (i : Int) ≤ (m - l) / s := by omega
    have h1 : (i : Int) * s ≤ (m - l) / s * s := Int.mul_le_mul_of_nonneg_right hi' (by omega)
    have h2 : 0 ≤ (i : Int) * s := Int.mul_nonneg (by omega) (by omega)
    have h3 : (m - l) / s * s = s * ((m - l) / s) := Int.mul_comm _ _
    refine ⟨by omega, by omega, ?_⟩
    rw [show l + (i : Int) * s - l = (i : Int) * s by omega, Int.mul_emod_left]
  · rintro ⟨h1, h2, h3⟩
    have e4 := Int.mul_ediv_add_emod (x - l) s
    have hq : 0 ≤ (x - l) / s := Int.ediv_nonneg (by omega) (by omega)
    have hle : (x - l) / s ≤ (m - l) / s := Int.ediv_le_ediv hs (by omega)
    refine ⟨((x - l) / s).toNat, by omega, ?_⟩
    rw [Int.toNat_of_nonneg hq, Int.mul_comm]
    omega

theorem canLay_ints : ∀ ns : List Int, PyData.canLayAll0 (iL ns) = true
  | [] => rfl
  | _ :: ns => by show (PyData.canLay0 (.int _) && PyData.canLayAll0 (iL ns)) = true; rw [canLay_ints ns]; rfl
theorem depth_ints : ∀ ns : List Int, PyData.depthAll (iL ns) = 0
  | [] => rfl
  | _ :: ns => by show max 0 (PyData.depthAll (iL ns)) = 0; rw [depth_ints ns]; rfl
theorem sh_ints (ns : List Int) : SeqAt.shaped (.list (iL ns)) = true := by
  show (PyData.canLayAll0 (iL ns) && decide (PyData.depthAll (iL ns) + 1 ≤ 64)) = true
  rw [canLay_ints, depth_ints]
  rfl
theorem inD_int (v : Int) : ∀ ns : List Int, inD (.int v) (iL ns) = decide (v ∈ ns)
  | [] => rfl
  | n :: ns => by
    have ih := inD_int v ns
    unfold inD at ih ⊢
    show (PyData.eqv (.int n) (.int v) || (iL ns).any fun z => PyData.eqv z (.int v)) = _
    rw [ih]
    show ((n == v) || decide (v ∈ ns)) = _
    by_cases h : n = v
    · subst h
      simp
    · have : (n == v) = false := by simpa using h
      rw [this, Bool.false_or]
      by_cases h2 : v ∈ ns
      · simp [h2]
      · simp [h2, Ne.symm h]
def valB (ns : List Int) (x : D) : Bool := match x with
  | .int v => decide (v ∈ ns)
  | _ => false
theorem val_step {l m s : Int} (g : GoodW l m s) (x : D) (ρ : DEnv) (i j : Nat) (h1 : fVar i ρ = .ok x) (h2 : fVar j ρ = .ok (wD l m s)) :
    fAndV (fCall 3 F_is_int (fCons (fVar i) (fCons (fC (.int 0)) (fCons (fC (.int 60)) fNil)))) (fBin (gIn false) (fVar i) (fCall 1 F_wheel_values (fCons (fVar j) fNil))) ρ = .ok (.bool (valB (wv l m s) x)) := by
  walk_at "ev"
  simp only [h1, h2]
  walk_at "ev"
  simp only [is_int_eq, wheel_values_good g]
  walk_at "ev"
  cases x with
  | int v =>
    rw [isIntD_int]
    have hs : 0 < s := by have := g.s0; omega
    by_cases hv : v ∈ wv l m s
    · obtain ⟨a1, a2, _⟩ := (mem_wv g.m0 hs).mp hv
      have := g.l0
      have := g.m1
      rw [decide_eq_true (show 0 ≤ v by omega), decide_eq_true (show v ≤ 60 by omega)]
      show gIn false (.int v) (.list (iL (wv l m s))) = _
      unfold gIn
      dsimp only
      rw [sh_ints, sh_int]
      show Res.ok (PyData.bool (inD (.int v) (iL (wv l m s)))) = _
      rw [inD_int]
      rfl
    · have hb : valB (wv l m s) (.int v) = false := decide_eq_false hv
      rw [hb]
      have e : gIn false (.int v) (.list (iL (wv l m s))) = .ok (.bool false) := by
        unfold gIn
        dsimp only
        rw [sh_ints, sh_int]
        show Res.ok (PyData.bool (inD (.int v) (iL (wv l m s)))) = _
        rw [inD_int, decide_eq_false hv]
      cases (decide (0 ≤ v) && decide (v ≤ 60)) with
      | true => exact e
      | false => rfl
  | _ => rfl
theorem sorted_ext : ∀ {xs ys : List Int}, xs.Pairwise (· < ·) → ys.Pairwise (· < ·) → (∀ x, x ∈ xs ↔ x ∈ ys) → xs = ys
  | [], [], _, _, _ => rfl
  | [], y :: ys, _, _, h => by simpa using (h y).mpr List.mem_cons_self
  | x :: xs, [], _, _, h => by simpa using (h x).mp List.mem_cons_self
  | x :: xs, y :: ys, h1, h2, h => by
    obtain ⟨a1, a2⟩ := List.pairwise_cons.mp h1
    obtain ⟨b1, b2⟩ := List.pairwise_cons.mp h2
    have e : x = y := by
      rcases List.mem_cons.mp ((h x).mp List.mem_cons_self) with q | q
      · exact q
      · rcases List.mem_cons.mp ((h y).mpr List.mem_cons_self) with q' | q'
        · exact q'.symm
        · have := a1 y q'
          have := b1 x q
          omega
    subst e
    rw [sorted_ext a2 b2 fun z => ?_]
    constructor
    · intro hz
      rcases List.mem_cons.mp ((h z).mp (List.mem_cons_of_mem _ hz)) with q | q
      · have := a1 z hz
        omega
      · exact q
    · intro hz
      rcases List.mem_cons.mp ((h z).mpr (List.mem_cons_of_mem _ hz)) with q | q
      · have := b1 z hz
        omega
      · exact q
theorem wv_sorted (l m : Int) {s : Int} (hs : 0 < s) : (wv l m s).Pairwise (· < ·) := by
  unfold wv
  refine List.Pairwise.map _ (fun a b hab => ?_) List.pairwise_lt_range
  have : (a : Int) * s < (b : Int) * s := Int.mul_lt_mul_of_pos_right (by omega) hs
  omega
/-- the ints from lo, n of them -/
def up (lo : Int) (n : Nat) : List Int := (List.range n).map fun (i : Nat) => lo + (i : Int)
theorem up_D (lo : Int) (n : Nat) : rngD lo n = iL (up lo n) := by
  unfold rngD iL up
  rw [List.map_map]
  rfl
theorem up_sorted (lo : Int) (n : Nat) : (up lo n).Pairwise (· < ·) := by
  unfold up
  exact List.Pairwise.map _ (fun a b hab => by omega) List.pairwise_lt_range
theorem mem_up {lo x : Int} {n : Nat} : x ∈ up lo n ↔ lo ≤ x ∧ x < lo + n := by
  unfold up
  simp only [List.mem_map, List.mem_range]
  constructor
  · rintro ⟨i, hi, rfl⟩
    omega
  · intro h
    exact ⟨(x - lo).toNat, by omega, by omega⟩
/-- value by value -/
theorem due_eq {l m s : Int} (h : l ≤ m) (hs : 0 < s) : (up l (m + 1 - l).toNat).filter (fun x => (x - l) % s == 0) = wv l m s := by
  refine sorted_ext (List.Pairwise.filter _ (up_sorted _ _)) (wv_sorted l m hs) fun x => ?_
  rw [List.mem_filter, mem_up, mem_wv h hs]
  simp only [beq_iff_eq]
  omega
theorem ev_eq {l m s : Int} (h : l ≤ m) (hs : 0 < s) : ((up 0 (m - l + 1).toNat).filter (fun k => k % s == 0)).map (fun k => l + k) = wv l m s := by
  refine sorted_ext (List.Pairwise.map _ (fun a b hab => by omega) (List.Pairwise.filter _ (up_sorted _ _))) (wv_sorted l m hs) fun x => ?_
  rw [List.mem_map, mem_wv h hs]
  constructor
  · rintro ⟨k, hk, rfl⟩
    rw [List.mem_filter, mem_up] at hk
    simp only [beq_iff_eq] at hk
    refine ⟨by omega, by omega, ?_⟩
    rw [show l + k - l = k by omega]
    exact hk.2
  · rintro ⟨h1, h2, h3⟩
    refine ⟨x - l, ?_, by omega⟩
    rw [List.mem_filter, mem_up]
    simp only [beq_iff_eq]
    omega
theorem lcGo_enc {α : Type} {step : D → Res (List D)} (enc : α → D) (h : α → List D) : ∀ {xs : List α}, (∀ a ∈ xs, step (enc a) = .ok (h a)) → lcGo step (xs.map enc) = .ok (xs.flatMap h)
  | [], _ => rfl
  | x :: xs, hx => by
    show ((step (enc x)).strict.bind fun o => (lcGo step (xs.map enc)).bind fun r => .ok (o ++ r)) = _
    rw [hx x List.mem_cons_self, lcGo_enc enc h fun d hd => hx d (List.mem_cons_of_mem _ hd)]
    rfl
theorem flatMap_one {α β : Type} (f : α → β) : ∀ xs : List α, (xs.flatMap fun x => [f x]) = xs.map f
  | [] => rfl
  | x :: xs => by rw [List.flatMap_cons, flatMap_one f xs]; rfl
theorem flatMap_if {α β : Type} (p : α → Bool) (f : α → β) : ∀ xs : List α, (xs.flatMap fun x => if p x = true then [f x] else []) = (xs.filter p).map f
  | [] => rfl
  | x :: xs => by
    rw [List.flatMap_cons, flatMap_if p f xs]
    cases h : p x with
    | true => rw [List.filter_cons_of_pos h]; rfl
    | false => rw [List.filter_cons_of_neg (by rw [h]; exact Bool.false_ne_true)]; rfl
def ext (fs : List (List D)) (vs : List Int) : List (List D) := fs.flatMap fun xs => vs.map fun v => xs ++ [PyData.int v]
abbrev tL (fs : List (List D)) : List D := fs.map PyData.tuple
theorem ext_cons (f : List D) (fs : List (List D)) (vs : List Int) : ext (f :: fs) vs = (vs.map fun v => f ++ [PyData.int v]) ++ ext fs vs := by
  unfold ext
  rw [List.flatMap_cons]
theorem tL_ext (fs : List (List D)) (vs : List Int) : (fs.flatMap fun xs => vs.map fun v => PyData.tuple (xs ++ [PyData.int v])) = tL (ext fs vs) := by
  unfold tL ext
  rw [List.map_flatMap]
  congr 1
  funext xs
  rw [List.map_map]
  rfl
theorem ext_len (vs : List Int) : ∀ fs : List (List D), (ext fs vs).length = fs.length * vs.length
  | [] => by simp [ext]
  | f :: fs => by
    rw [ext_cons, List.length_append, List.length_map, ext_len vs fs, List.length_cons, Nat.succ_mul]
    omega
theorem mem_ext {fs : List (List D)} {vs : List Int} {x : List D} : x ∈ ext fs vs ↔ ∃ f ∈ fs, ∃ v ∈ vs, x = f ++ [PyData.int v] := by
  unfold ext
  simp only [List.mem_flatMap, List.mem_map]
  constructor
  · rintro ⟨f, hf, v, hv, rfl⟩
    exact ⟨f, hf, v, hv, rfl⟩
  · rintro ⟨f, hf, v, hv, rfl⟩
    exact ⟨f, hf, v, hv, rfl⟩
theorem g_addT {xs ys : List D} (h : xs.length + ys.length ≤ 1000) : gAdd (.tuple xs) (.tuple ys) = .ok (.tuple (xs ++ ys)) := by
  unfold gAdd
  dsimp only
  rw [if_pos (show lenOk (xs.length + ys.length) = true from decide_eq_true (by omega))]
def sets (c : Cam) : List (List D) := ext (ext (ext [[]] (wv c.l1 c.m1 c.s1)) (wv c.l2 c.m2 c.s2)) (wv c.l3 c.m3 c.s3)
theorem ext1_len (vs : List Int) : (ext [[]] vs).length = vs.length := by rw [ext_len]; simp
theorem len_ext {fs : List (List D)} {vs : List Int} {k : Nat} (h : ∀ f ∈ fs, f.length ≤ k) : ∀ f ∈ ext fs vs, f.length ≤ k + 1 := fun f hf => by
  obtain ⟨f', h1, v, _, rfl⟩ := mem_ext.mp hf
  have := h f' h1
  rw [List.length_append]
  simp only [List.length_cons, List.length_nil]
  omega
theorem y_par2 (f g : DEnv → Res D) (i j : Nat) (ρ : DEnv) : sPar (zD f (zD g zNil)) [i, j] ρ = ofRes (f ρ) fun a => ofRes (g ρ) fun b => .next ((ρ.set i (.d a)).set j (.d b)) := by
  unfold sPar zD zNil
  cases f ρ <;> first | rfl | (cases g ρ <;> rfl)
theorem y_own0 (i : Nat) (ρ : DEnv) : sOwnL fNil i ρ = .next (ρ.set i (.own [])) := rfl
theorem y_frz (is : List Nat) (F : DEnv → SR) (ρ : DEnv) : sFrz is F ρ = F (frz ρ is) := rfl
theorem y_app {f : DEnv → Res D} {i : Nat} {ρ : DEnv} {xs : List D} {d : D} (h1 : ρ[i]? = some (.own xs)) (h2 : f ρ = .ok d) (h3 : xs.length < 1000000) : sApp f i ρ = .next (ρ.set i (.own (xs ++ [d]))) := by
  unfold sApp
  rw [h1]
  dsimp only
  rw [h2, y_ok, if_pos (show lenOk (xs.length + 1) = true from decide_eq_true (by omega))]
theorem y_extL {f : DEnv → Res D} {i : Nat} {ρ : DEnv} {xs ys : List D} (h1 : ρ[i]? = some (.own xs)) (h2 : f ρ = .ok (.list ys)) (h3 : xs.length + ys.length ≤ 1000000) : sExt f i ρ = .next (ρ.set i (.own (xs ++ ys))) := by
  unfold sExt
  rw [h1]
  dsimp only
  rw [h2, y_ok]
  dsimp only
  rw [if_pos (show lenOk (xs.length + ys.length) = true from decide_eq_true h3)]
theorem mul_l {i j : Int} (h1 : -1000000000000000000 ≤ i) (h2 : i ≤ 1000000000000000000) : mulOk i j = true := by
  unfold mulOk
  rw [decide_eq_true h1, decide_eq_true h2]
  rfl
theorem mul_r {i j : Int} (h1 : -1000000000000000000 ≤ j) (h2 : j ≤ 1000000000000000000) : mulOk i j = true := by
  unfold mulOk
  rw [decide_eq_true h1, decide_eq_true h2, Bool.or_eq_true]
  exact .inr rfl
theorem div_ok {i j : Int} (h1 : 0 < j) (h2 : j ≤ 1000000000000000000) : divOk i j = true := by
  unfold divOk
  rw [decide_eq_true h1, decide_eq_true h2]
  rfl
theorem g_mulc {i j : Int} (h1 : -1000000 ≤ i) (h2 : i ≤ 1000000) : gMulI (.int i) (.int j) = .ok (.int (i * j)) := g_mul (mul_l (by omega) (by omega))
structure InS (c : Cam) (x y z : Int) : Prop where
  a : x ∈ wv c.l1 c.m1 c.s1
  b : y ∈ wv c.l2 c.m2 c.s2
  d : z ∈ wv c.l3 c.m3 c.s3
abbrev i3 (x y z : Int) : D := .tuple [.int x, .int y, .int z]
theorem mem_sets {c : Cam} {ds : List D} : ds ∈ sets c ↔ ∃ x y z, ds = [.int x, .int y, .int z] ∧ InS c x y z := by
  unfold sets
  rw [mem_ext]
  constructor
  · rintro ⟨f, hf, z, hz, rfl⟩
    obtain ⟨f2, hf2, y, hy, rfl⟩ := mem_ext.mp hf
    obtain ⟨f3, hf3, x, hx, rfl⟩ := mem_ext.mp hf2
    rw [List.mem_singleton] at hf3
    subst hf3
    exact ⟨x, y, z, rfl, hx, hy, hz⟩
  · rintro ⟨x, y, z, rfl, hx, hy, hz⟩
    exact ⟨[.int x, .int y], mem_ext.mpr ⟨[.int x], mem_ext.mpr ⟨[], List.mem_singleton.mpr rfl, x, hx, rfl⟩, y, hy, rfl⟩, z, hz, rfl⟩
theorem inS_val {c : Cam} {x y z : Int} (h : InS c x y z) : (valB (wv c.l1 c.m1 c.s1) (.int x) && (valB (wv c.l2 c.m2 c.s2) (.int y) && valB (wv c.l3 c.m3 c.s3) (.int z))) = true := by
  unfold valB
  dsimp only
  rw [decide_eq_true h.a, decide_eq_true h.b, decide_eq_true h.d]
  rfl
theorem ne_self {d : D} (h : SeqAt.shaped d = true) (h2 : PyData.eqv d d = true) : gNe d d = .ok (.bool false) := by
  unfold gNe
  rw [h, h2]
  rfl
theorem eqv_ints : ∀ ns : List Int, PyData.eqvAll (iL ns) (iL ns) = true
  | [] => by rw [show iL [] = [] from rfl, PyData.eqvAll]
  | n :: ns => by
    show PyData.eqvAll (.int n :: iL ns) (.int n :: iL ns) = true
    rw [PyData.eqvAll, eqv_ints ns, PyData.eqv]
    simp
theorem eqv_i3 (a b c x y z : Int) : PyData.eqv (i3 a b c) (i3 x y z) = (decide (a = x) && (decide (b = y) && decide (c = z))) := by
  simp only [PyData.eqv, PyData.eqvAll]
  simp only [Bool.and_true]
  rfl
theorem ne_bool (a b : Bool) : gNe (.bool a) (.bool b) = .ok (.bool (!(a == b))) := by
  cases a <;> cases b <;> rfl
theorem sh_i3s : ∀ {ds : List D}, (∀ d ∈ ds, ∃ x y z, d = i3 x y z) → PyData.canLayAll0 ds = true ∧ PyData.depthAll ds ≤ 1
  | [], _ => ⟨rfl, by decide⟩
  | d :: ds, h => by
    obtain ⟨x, y, z, rfl⟩ := h d List.mem_cons_self
    obtain ⟨h1, h2⟩ := sh_i3s fun d' hd => h d' (List.mem_cons_of_mem _ hd)
    refine ⟨?_, ?_⟩
    · show (PyData.canLay0 (i3 x y z) && PyData.canLayAll0 ds) = true
      rw [h1]
      rfl
    · show max (PyData.depth (i3 x y z)) (PyData.depthAll ds) ≤ 1
      have : PyData.depth (i3 x y z) = 1 := rfl
      omega
theorem sets_i3 {c : Cam} : ∀ d ∈ tL (sets c), ∃ x y z, d = i3 x y z ∧ InS c x y z := fun d hd => by
  obtain ⟨ds, h1, rfl⟩ := List.mem_map.mp hd
  obtain ⟨x, y, z, rfl, h⟩ := mem_sets.mp h1
  exact ⟨x, y, z, rfl, h⟩
theorem sh_sets (c : Cam) : SeqAt.shaped (.list (tL (sets c))) = true := by
  obtain ⟨h1, h2⟩ := sh_i3s (ds := tL (sets c)) fun d hd => by obtain ⟨x, y, z, e, _⟩ := sets_i3 d hd; exact ⟨x, y, z, e⟩
  show (PyData.canLayAll0 (tL (sets c)) && decide (PyData.depthAll (tL (sets c)) + 1 ≤ 64)) = true
  rw [h1, decide_eq_true (by omega)]
  rfl
theorem in_sets (c : Cam) (x y z : Int) : gIn false (i3 x y z) (.list (tL (sets c))) = .ok (.bool (valB (wv c.l1 c.m1 c.s1) (.int x) && (valB (wv c.l2 c.m2 c.s2) (.int y) && valB (wv c.l3 c.m3 c.s3) (.int z)))) := by
  unfold gIn
  dsimp only
  rw [sh_sets, if_pos (show (SeqAt.shaped (i3 x y z) && true) = true from rfl)]
  have e : inD (i3 x y z) (tL (sets c)) = (valB (wv c.l1 c.m1 c.s1) (.int x) && (valB (wv c.l2 c.m2 c.s2) (.int y) && valB (wv c.l3 c.m3 c.s3) (.int z))) := by
    rw [Bool.eq_iff_iff]
    unfold inD
    rw [List.any_eq_true]
    constructor
    · rintro ⟨d, hd, he⟩
      obtain ⟨a, b, e, rfl, hi⟩ := sets_i3 d hd
      rw [eqv_i3] at he
      simp only [Bool.and_eq_true, decide_eq_true_eq] at he
      obtain ⟨rfl, rfl, rfl⟩ := he
      exact inS_val hi
    · intro h
      unfold valB at h
      simp only [Bool.and_eq_true, decide_eq_true_eq] at h
      refine ⟨i3 x y z, List.mem_map.mpr ⟨[.int x, .int y, .int z], mem_sets.mpr ⟨x, y, z, rfl, h.1, h.2.1, h.2.2⟩, rfl⟩, ?_⟩
      rw [eqv_i3]
      simp
  rw [e]
  rfl
theorem sets_len (c : Cam) : (sets c).length = (wv c.l1 c.m1 c.s1).length * (wv c.l2 c.m2 c.s2).length * (wv c.l3 c.m3 c.s3).length := by
  unfold sets
  rw [ext_len, ext_len, ext1_len]
theorem wv_pos {l m s : Int} (g : GoodW l m s) : 0 < (wv l m s).length := by
  refine List.length_pos_of_mem (a := l) ((mem_wv g.m0 (by have := g.s0; omega)).mpr ⟨by omega, g.m0, ?_⟩)
  rw [Int.sub_self, Int.zero_emod]
theorem sets_pos {c : Cam} (g : GoodC c) : 0 < (sets c).length := by
  rw [sets_len]
  exact Nat.mul_pos (Nat.mul_pos (wv_pos g.w1) (wv_pos g.w2)) (wv_pos g.w3)
theorem ix_sets {c : Cam} {p : Int} (h0 : 0 ≤ p) (h1 : p < ((tL (sets c)).length : Nat)) : ∃ x y z, gIx (.list (tL (sets c))) (.int p) = .ok (i3 x y z) ∧ InS c x y z := by
  have h3 : p.toNat < (tL (sets c)).length := by omega
  obtain ⟨x, y, z, e, h⟩ := sets_i3 ((tL (sets c))[p.toNat]) (List.getElem_mem h3)
  refine ⟨x, y, z, ?_, h⟩
  refine g_ixL ?_
  unfold ixD
  rw [if_pos h0, List.getElem?_eq_getElem h3, e]
end Lw
namespace Lw
open PySem L2 PD PL
theorem has_setting_3 {c : Cam} (g : GoodC c) (x y z : D) : F_has_setting [cD c, .tuple [x, y, z]] = .ok (.bool (valB (wv c.l1 c.m1 c.s1) x && (valB (wv c.l2 c.m2 c.s2) y && valB (wv c.l3 c.m3 c.s3) z))) := by
  unfold F_has_setting B_has_setting
  have e : fLc (fRng gZip (fCons (fVar 1) (fCons (fVar 0) fNil))) [3, 4] [3, 4] (hTup 2) fYes (fAndV (fCall 3 F_is_int (fCons (fVar 3) (fCons (fC (.int 0)) (fCons (fC (.int 60)) fNil)))) (fBin (gIn false) (fVar 3) (fCall 1 F_wheel_values (fCons (fVar 4) fNil)))) [.d (cD c), .d (.tuple [x, y, z]), .un, .un, .un] =
      .ok (.list [.bool (valB (wv c.l1 c.m1 c.s1) x), .bool (valB (wv c.l2 c.m2 c.s2) y), .bool (valB (wv c.l3 c.m3 c.s3) z)]) := by
    refine x_lc (ds := [.tuple [x, wD c.l1 c.m1 c.s1], .tuple [y, wD c.l2 c.m2 c.s2], .tuple [z, wD c.l3 c.m3 c.s3]]) rfl ?_ (by show 3 < 1000000; decide)
    unfold lcGo lcGo lcGo lcGo
    simp only [l_2, wp_nil, wp_cons, set0, setS']
    rw [val_step g.w1 x _ 3 4 rfl rfl, val_step g.w2 y _ 3 4 rfl rfl, val_step g.w3 z _ 3 4 rfl rfl]
    rfl
  walk_at "ev"
  rw [e]
  walk_at "ev"
  show toRes (ofRes (Res.ok (PyData.bool ([valB (wv c.l1 c.m1 c.s1) x, valB (wv c.l2 c.m2 c.s2) y, valB (wv c.l3 c.m3 c.s3) z].all id))) _) = _
  cases valB (wv c.l1 c.m1 c.s1) x <;> cases valB (wv c.l2 c.m2 c.s2) y <;> cases valB (wv c.l3 c.m3 c.s3) z <;> rfl
theorem has_setting_no {c : Cam} {d : D} (h : isiD "tuple" d = false) : F_has_setting [cD c, d] = .ok (.bool false) := by
  unfold F_has_setting B_has_setting
  walk_at "ev"
  simp only [h]
  walk_at "ev"
theorem has_setting_len {c : Cam} {ds : List D} (h : ds.length ≠ 3) : F_has_setting [cD c, .tuple ds] = .ok (.bool false) := by
  unfold F_has_setting B_has_setting
  have h' : (((ds.length : Nat) : Int) == 3) = false := by simpa using (show ¬ ((ds.length : Nat) : Int) = 3 by omega)
  walk_at "ev"
  simp only [h']
  walk_at "ev"
theorem check_setting_3 {c : Cam} (g : GoodC c) {x y z : D} (h : (valB (wv c.l1 c.m1 c.s1) x && (valB (wv c.l2 c.m2 c.s2) y && valB (wv c.l3 c.m3 c.s3) z)) = true) : F_check_setting [cD c, .tuple [x, y, z]] = .ok .none := by
  unfold F_check_setting B_check_setting
  walk_at "ev"
  simp only [has_setting_3 g, h]
  walk_at "ev"

end Lw
namespace Lw
open PySem L2 PD PL
/-! ### more of the shared: calls of four and five, tests over bools, filters -/
theorem x_call4 (F : List D → Res D) (f g h i : DEnv → Res D) (ρ : DEnv) : fCall 4 F (fCons f (fCons g (fCons h (fCons i fNil)))) ρ = (f ρ).bind fun a => (g ρ).bind fun b => (h ρ).bind fun c => (i ρ).bind fun d => F [a, b, c, d] := by
  unfold fCall fCons fNil
  cases f ρ <;> first | rfl | (cases g ρ <;> first | rfl | (cases h ρ <;> first | rfl | (cases i ρ <;> rfl)))
theorem x_call5 (F : List D → Res D) (f g h i j : DEnv → Res D) (ρ : DEnv) : fCall 5 F (fCons f (fCons g (fCons h (fCons i (fCons j fNil))))) ρ = (f ρ).bind fun a => (g ρ).bind fun b => (h ρ).bind fun c => (i ρ).bind fun d => (j ρ).bind fun e => F [a, b, c, d, e] := by
  unfold fCall fCons fNil
  cases f ρ <;> first | rfl | (cases g ρ <;> first | rfl | (cases h ρ <;> first | rfl | (cases i ρ <;> first | rfl | (cases j ρ <;> rfl))))
theorem all_bools (bs : List Bool) : gAll [.list (bs.map PyData.bool)] = .ok (.bool (bs.all id)) := by
  unfold gAll gBs
  dsimp only
  rw [asBs_map]
theorem any_bools (bs : List Bool) : gAny [.list (bs.map PyData.bool)] = .ok (.bool (bs.any id)) := by
  unfold gAny gBs
  dsimp only
  rw [asBs_map]
theorem in_ints (v : Int) (ns : List Int) : gIn false (.int v) (.list (iL ns)) = .ok (.bool (decide (v ∈ ns))) := by
  unfold gIn
  dsimp only
  rw [sh_ints, sh_int]
  show Res.ok (PyData.bool (inD (.int v) (iL ns))) = _
  rw [inD_int]
theorem g_addL {xs ys : List D} (h : xs.length + ys.length ≤ 1000) : gAdd (.list xs) (.list ys) = .ok (.list (xs ++ ys)) := by
  unfold gAdd
  dsimp only
  rw [if_pos (show lenOk (xs.length + ys.length) = true from decide_eq_true (by omega))]
theorem filt_none {α : Type} {P : α → Bool} {a : α} : ∀ {xs : List α}, (∀ d ∈ xs, P d = true ↔ d = a) → a ∉ xs → xs.filter P = []
  | [], _, _ => rfl
  | x :: xs, h, hn => by
    rw [List.filter_cons_of_neg fun hp => hn (by rw [← (h x List.mem_cons_self).mp hp]; exact List.mem_cons_self)]
    exact filt_none (fun d hd => h d (List.mem_cons_of_mem _ hd)) fun hm => hn (List.mem_cons_of_mem _ hm)
theorem filt_one {α : Type} {P : α → Bool} {a : α} : ∀ {xs : List α}, xs.Nodup → (∀ d ∈ xs, P d = true ↔ d = a) → a ∈ xs → xs.filter P = [a]
  | [], _, _, hm => absurd hm List.not_mem_nil
  | x :: xs, hd, h, hm => by
    obtain ⟨h1, h2⟩ := List.nodup_cons.mp hd
    by_cases e : x = a
    · subst e
      rw [List.filter_cons_of_pos ((h x List.mem_cons_self).mpr rfl), filt_none (fun d hd => h d (List.mem_cons_of_mem _ hd)) h1]
    · rw [List.filter_cons_of_neg fun hp => e ((h x List.mem_cons_self).mp hp)]
      refine filt_one h2 (fun d hd => h d (List.mem_cons_of_mem _ hd)) ?_
      rcases List.mem_cons.mp hm with q | q
      · exact absurd q.symm e
      · exact q
theorem ext_nodup {fs : List (List D)} {vs : List Int} (h1 : fs.Nodup) (h2 : vs.Nodup) : (ext fs vs).Nodup := by
  unfold ext List.Nodup
  rw [List.pairwise_flatMap]
  refine ⟨fun f _ => ?_, ?_⟩
  · refine List.Pairwise.map _ (fun a b hab e => hab ?_) h2
    have := List.append_cancel_left e
    cases this
    rfl
  · refine List.Pairwise.imp (fun {a b} hab x hx y hy e => hab ?_) h1
    obtain ⟨v, _, rfl⟩ := List.mem_map.mp hx
    obtain ⟨w, _, rfl⟩ := List.mem_map.mp hy
    exact (List.append_inj' e rfl).1
theorem lt_nodup {vs : List Int} (h : vs.Pairwise (· < ·)) : vs.Nodup := List.Pairwise.imp (fun {a b} (hab : a < b) (e : a = b) => by omega) h
theorem sets_nodup {c : Cam} (g : GoodC c) : (tL (sets c)).Nodup := by
  have p1 : 0 < c.s1 := by have := g.w1.s0; omega
  have p2 : 0 < c.s2 := by have := g.w2.s0; omega
  have p3 : 0 < c.s3 := by have := g.w3.s0; omega
  have h : (sets c).Nodup := ext_nodup (ext_nodup (ext_nodup (List.nodup_cons.mpr ⟨List.not_mem_nil, List.nodup_nil⟩) (lt_nodup (wv_sorted c.l1 c.m1 p1))) (lt_nodup (wv_sorted c.l2 c.m2 p2))) (lt_nodup (wv_sorted c.l3 c.m3 p3))
  exact List.Pairwise.map _ (fun a b hab e => hab (by cases e; rfl)) h
theorem is_noneT (d : D) : gIs true d .none = .ok (.bool (!isNone d)) := rfl
theorem g_addL' {xs ys : List D} (h : xs.length + ys.length ≤ 1000000) : gAdd (.list xs) (.list ys) = .ok (.list (xs ++ ys)) := by
  unfold gAdd
  dsimp only
  rw [if_pos (show lenOk (xs.length + ys.length) = true from decide_eq_true (by omega))]
end Lw
namespace Lw
open PySem L2 PD PL

end Lw
namespace Lw
open PySem L2 PD PL

end Lw
namespace Lw
open PySem L2 PD PL
/-- one wheel of all_settings -/
theorem all_step {l m s : Int} (g : GoodW l m s) {fs : List (List D)} (hf : ∀ f ∈ fs, f.length ≤ 10) (hn : fs.length ≤ 200) (cam : D) (s3 s4 : Slot) :
    sAsg (fLc2 (fSeq (fVar 1)) [3, 4] [3] hOne fYes (fSeq (fCall 1 F_wheel_values (fCons (fVar 2) fNil))) [4] [4] hOne fYes (fBin gAdd (fVar 3) (fTup (fCons (fVar 4) fNil)))) [1] hOne [.d cam, .d (.list (tL fs)), .d (wD l m s), s3, s4] =
      .next [.d cam, .d (.list (tL (ext fs (wv l m s)))), .d (wD l m s), s3, s4] := by
  have hw := wv_len g
  have e : fLc2 (fSeq (fVar 1)) [3, 4] [3] hOne fYes (fSeq (fCall 1 F_wheel_values (fCons (fVar 2) fNil))) [4] [4] hOne fYes (fBin gAdd (fVar 3) (fTup (fCons (fVar 4) fNil))) [.d cam, .d (.list (tL fs)), .d (wD l m s), s3, s4] = .ok (.list (tL (ext fs (wv l m s)))) := by
    refine x_lc2 (ds := tL fs) rfl ?_ ?_
    · rw [← tL_ext]
      refine lcGo_enc PyData.tuple (fun xs => (wv l m s).map fun v => PyData.tuple (xs ++ [PyData.int v])) fun f hff => ?_
      walk_at "ev"
      simp only [wheel_values_good g]
      walk_at "ev"
      rw [← flatMap_one]
      refine lcGo_enc PyData.int (fun v => [PyData.tuple (f ++ [PyData.int v])]) fun v hv => ?_
      walk_at "ev"
      rw [g_addT (by have := hf f hff; simp only [List.length_cons, List.length_nil]; omega)]
      rfl
    · rw [List.length_map, ext_len]
      have : fs.length * (wv l m s).length ≤ 200 * 13 := Nat.mul_le_mul hn hw
      omega
  rw [y_as1, e]
  rfl
end Lw
namespace Lw
open PySem L2 PD PL
theorem ne_nil (n : Int) (ns : List Int) : gNe (.list (iL (n :: ns))) (.list []) = .ok (.bool true) := by
  unfold gNe
  rw [sh_ints]
  rfl
theorem pick_cell (ns : List Int) (hl : ns.length ≤ 63) (k : Int) (hk : 0 ≤ k) (ρ : DEnv) : ∃ cell : Int, fIf (fTest (fBin gNe (fVar 0) (fLst fNil))) (fBin gIx (fVar 0) (fBin gMod (fVar 1) (fB gLen (fCons (fVar 0) fNil)))) (fC (.int 0)) (.d (.list (iL ns)) :: .d (.int k) :: ρ) = .ok (.int cell) := by
  cases ns with
  | nil => exact ⟨0, rfl⟩
  | cons n ns =>
    have hp : (0 : Int) < ((iL (n :: ns)).length : Nat) := by rw [List.length_map, List.length_cons]; omega
    have h1 := Int.emod_nonneg k (show (((iL (n :: ns)).length : Nat) : Int) ≠ 0 by omega)
    have h2 := Int.emod_lt_of_pos k hp
    have e1 : iL (n :: ns) = .int n :: iL ns := rfl
    have hi : ∃ c : Int, ixD (iL (n :: ns)) (k % ((iL (n :: ns)).length : Nat)) = some (.int c) := by
      unfold ixD
      rw [if_pos h1]
      have h3 : (k % ((iL (n :: ns)).length : Nat)).toNat < (iL (n :: ns)).length := by omega
      rw [List.getElem?_eq_getElem h3]
      exact ⟨(n :: ns)[(k % ((iL (n :: ns)).length : Nat)).toNat]'(by rw [List.length_map] at h3; rw [List.length_map]; exact h3), by rw [List.getElem_map]⟩
    obtain ⟨c, hc⟩ := hi
    refine ⟨c, ?_⟩
    simp only [x_if, x_test, x_bin, x_var0, x_varS, x_lst, x_nil, x_mkL0, bind_ok, ne_nil, x_asB, x_b, x_cons, x_nil, g_lenL, if_true]
    rw [g_mod hp, bind_ok, g_ixL hc]
theorem pick_while (scr kk mm cc s6 : Slot) (N : Nat) : ∀ (n : Nat) (rest again : Int), 0 ≤ again → again.toNat < n → ∃ r a : Int, whileGo (fAnd (fTest (fBin gGt (fVar 4) (fC (.int 0)))) (fTest (fBin gGt (fVar 5) (fC (.int 0))))) (sPar (zD (fBin gDiv (fVar 4) (fC (.int 840))) (zD (fBin gSub (fVar 5) (fC (.int 1))) zNil)) [4, 5]) n [scr, kk, mm, cc, .d (.int rest), .d (.int again), s6] = .next [scr, kk, mm, cc, .d (.int r), .d (.int a), s6]
  | 0, _, _, _, h => absurd h (Nat.not_lt_zero _)
  | n + 1, rest, again, h0, h => by
    unfold whileGo
    simp only [v_cons, v_nil, w_d, x_and, x_test, x_bin, x_var0, x_varS, x_c, bind_ok, g_gt, x_asB]
    by_cases h1 : 0 < rest
    · by_cases h2 : 0 < again
      · simp only [decide_eq_true h1, decide_eq_true h2, if_true]
        simp only [y_par2, x_bin, x_varS, x_var0, x_c, bind_ok, g_sub, g_div (div_ok (i := rest) (show (0 : Int) < 840 by decide) (by decide)), y_ok, set0, setS']
        exact pick_while scr kk mm cc s6 N n (rest / 840) (again - 1) (by omega) (by omega)
      · simp only [decide_eq_true h1, decide_eq_false h2, if_true]
        exact ⟨rest, again, rfl⟩
    · simp only [decide_eq_false h1]
      exact ⟨rest, again, rfl⟩
theorem pick_ok (ns : List Int) (hl : ns.length ≤ 63) (k many : Int) (hk : 0 ≤ k) (hk2 : k ≤ 90000) (hm : 0 < many) : ∃ p : Int, F_law_pick [.list (iL ns), .int k, .int many] = .ok (.int p) ∧ 0 ≤ p ∧ p < many := by
  unfold F_law_pick B_law_pick
  obtain ⟨cell, hc⟩ := pick_cell ns hl k hk [.d (.int many), .un, .un, .un, .un]
  have st : startD 7 [PyData.list (iL ns), PyData.int k, PyData.int many] = [Slot.d (PyData.list (iL ns)), Slot.d (PyData.int k), Slot.d (PyData.int many), Slot.un, Slot.un, Slot.un, Slot.un] := rfl
  simp only [y_fn, y_seq, y_as1, st, hc, y_ok, y_next, y_par2]
  have hp : gPow (PyData.int 10) (PyData.int 18) = .ok (.int 1000000000000000000) := rfl
  walk_at "ev"
  simp only [hp, bind_ok, g_div (div_ok (i := cell) (show (0 : Int) < 1000000000000000000 by decide) (by decide)), y_ok]
  have hmx : ∃ w : Int, gMax2 [PyData.int ((iL ns).length : Nat), PyData.int 1] = .ok (.int w) ∧ 0 < w ∧ w ≤ 100 := by
    refine ⟨_, rfl, ?_, ?_⟩
    · split <;> omega
    · rw [List.length_map]; split <;> omega
  obtain ⟨w, hw, w1, w2⟩ := hmx
  simp only [hw, bind_ok, g_div (div_ok (i := k) w1 (by omega)), y_ok, y_next, y_seq]
  have ha : 0 ≤ k / w := Int.ediv_nonneg hk (by omega)
  have ha2 : k / w ≤ k := Int.ediv_le_self _ hk
  obtain ⟨r, a, hwl⟩ := pick_while (.d (.list (iL ns))) (.d (.int k)) (.d (.int many)) (.d (.int cell)) .un 0 100000 (cell / 1000000000000000000) (k / w) ha (by omega)
  rw [hwl]
  walk_at "ev"
  by_cases hr : 0 < r
  · simp only [decide_eq_true hr, if_true, g_mod (show (0 : Int) < 840 by decide), bind_ok, g_mod hm, y_ok]
    exact ⟨_, rfl, Int.emod_nonneg _ (by omega), Int.emod_lt_of_pos _ hm⟩
  · simp only [decide_eq_false hr]
    walk_at "ev"
    simp only [g_mul (mul_r (i := cell) (show (-1000000000000000000 : Int) ≤ 31 by decide) (by decide)), bind_ok, g_mul (mul_l (j := k + 1) (show (-1000000000000000000 : Int) ≤ 6151 by decide) (by decide))]
    walk_at "ev"
    simp only [g_mul (mul_r (i := cell * 31 + 6151 * (k + 1)) (show (-1000000000000000000 : Int) ≤ 40692 by decide) (by decide)), bind_ok, g_mod (show (0 : Int) < 2147483399 by decide)]
    walk_at "ev"
    have b1 := Int.emod_nonneg ((cell * 31 + 6151 * (k + 1)) * 40692) (show (2147483399 : Int) ≠ 0 by decide)
    have b2 := Int.emod_lt_of_pos ((cell * 31 + 6151 * (k + 1)) * 40692) (show (0 : Int) < 2147483399 by decide)
    generalize (cell * 31 + 6151 * (k + 1)) * 40692 % 2147483399 = z at b1 b2 ⊢
    simp only [g_mul (mul_r (i := z) (show (-1000000000000000000 : Int) ≤ z by omega) (by omega)), bind_ok, g_div (div_ok (i := z) (show (0 : Int) < 31 by decide) (by decide)), g_add, g_mod (show (0 : Int) < 2147483629 by decide), g_mod hm]
    walk_at "ev"
    exact ⟨_, rfl, Int.emod_nonneg _ (by omega), Int.emod_lt_of_pos _ hm⟩

theorem good_of {l s n r mx : Int} (l0 : 0 ≤ l) (l1 : l < 23) (s0 : 0 ≤ s) (s1 : s < 3) (n0 : 0 ≤ n) (n1 : n < mx) (hx : mx ≤ 13) (r0 : 0 ≤ r) (r1 : r < 1 + s) : GoodW l (l + (1 + s) * n + r) (1 + s) := by
  have e : s = 0 ∨ s = 1 ∨ s = 2 := by omega
  refine ⟨l0, by omega, ?_, ?_, by omega, by omega, ?_⟩
  · rcases e with rfl | rfl | rfl <;> omega
  · rcases e with rfl | rfl | rfl <;> omega
  · rcases e with rfl | rfl | rfl <;> omega
theorem box_step (ns : List Int) (hl : ns.length ≤ 63) (at_ most k : Int) (h0 : 0 ≤ at_) (h1 : at_ ≤ 80000) (hm : 0 < most) (hm2 : most ≤ 13) (k0 : 0 ≤ k) (k1 : k ≤ 2) (found : List D) (hf : found.length ≤ 100) (s5 s6 s7 s8 : Slot) :
    ∃ l m s t5 t6 t7 t8, GoodW l m s ∧ L_law_box_0 [.d (.list (iL ns)), .d (.int at_), .d (.int most), .own found, .d (.int k), s5, s6, s7, s8] = .next [.d (.list (iL ns)), .d (.int at_), .d (.int most), .own (found ++ [wD l m s]), .d (.int k), t5, t6, t7, t8] := by
  obtain ⟨l, e1, a1, b1⟩ := pick_ok ns hl (at_ + 4 * k) 23 (by omega) (by omega) (by omega)
  obtain ⟨s, e2, a2, b2⟩ := pick_ok ns hl (at_ + 4 * k + 1) 3 (by omega) (by omega) (by omega)
  obtain ⟨n, e3, a3, b3⟩ := pick_ok ns hl (at_ + 4 * k + 2) most (by omega) (by omega) hm
  obtain ⟨r, e4, a4, b4⟩ := pick_ok ns hl (at_ + 4 * k + 3) (1 + s) (by omega) (by omega) (by omega)
  refine ⟨l, l + (1 + s) * n + r, 1 + s, .d (.int l), .d (.int (1 + s)), .d (.int n), .d (.int r), good_of a1 b1 a2 b2 a3 b3 hm2 a4 b4, ?_⟩
  · unfold L_law_box_0
    simp only [y_seq, y_par2]
    walk_at "ev"
    simp only [g_mulc (i := 4) (j := k) (by decide) (by decide), bind_ok, g_add, e1, e2, y_ok, y_next, y_seq, y_as1, set0, setS', x_call3, x_varS, x_var0, x_bin, x_c]
    simp only [e3, y_ok, y_next, y_seq, y_as1, set0, setS', x_call3, x_varS, x_var0, x_bin, x_c, g_mulc (i := 4) (j := k) (by decide) (by decide), bind_ok, g_add, e4]
    refine y_app rfl ?_ (by omega)
    walk_at "ev"
    rw [g_mulc (i := 1 + s) (by omega) (by omega)]
    rfl
theorem box_ok (ns : List Int) (hl : ns.length ≤ 63) (at_ most : Int) (h0 : 0 ≤ at_) (h1 : at_ ≤ 80000) (hm : 0 < most) (hm2 : most ≤ 13) : ∃ c, GoodC c ∧ F_law_box [.list (iL ns), .int at_, .int most] = .ok (cD c) := by
  obtain ⟨l1, m1, s1, t5, t6, t7, t8, g1, e1⟩ := box_step ns hl at_ most 0 h0 h1 hm hm2 (by decide) (by decide) [] (by decide) .un .un .un .un
  obtain ⟨l2, m2, s2, u5, u6, u7, u8, g2, e2⟩ := box_step ns hl at_ most 1 h0 h1 hm hm2 (by decide) (by decide) ([] ++ [wD l1 m1 s1]) (by show 1 ≤ 100; decide) t5 t6 t7 t8
  obtain ⟨l3, m3, s3, v5, v6, v7, v8, g3, e3⟩ := box_step ns hl at_ most 2 h0 h1 hm hm2 (by decide) (by decide) ([] ++ [wD l1 m1 s1] ++ [wD l2 m2 s2]) (by show 2 ≤ 100; decide) u5 u6 u7 u8
  refine ⟨⟨l1, m1, s1, l2, m2, s2, l3, m3, s3⟩, ⟨g1, g2, g3⟩, ?_⟩
  unfold F_law_box B_law_box
  have st : startD 9 [PyData.list (iL ns), PyData.int at_, PyData.int most] = [Slot.d (PyData.list (iL ns)), Slot.d (PyData.int at_), Slot.d (PyData.int most), Slot.un, Slot.un, Slot.un, Slot.un, Slot.un, Slot.un] := rfl
  simp only [y_fn, y_seq, st, y_own0, y_next, set0, setS']
  rw [y_for (ds := [.int 0, .int 1, .int 2]) rfl]
  rw [f_cons rfl e1, f_cons rfl e2, f_cons rfl e3, f_nil]
  rfl
end Lw
namespace Lw
open PySem L2 PD PL
theorem every_in {l m s : Int} (g : GoodW l m s) (cam fnd : D) (s7 : Slot) : ∀ (fs : List (List D)) (acc : List D) (s6 : Slot), (∀ f ∈ fs, f.length ≤ 10) → acc.length + fs.length * 13 ≤ 100000 →
    ∃ t6, forGo (asgOf [6] hOne) L_law_every_0 (tL fs) [.d cam, .d fnd, .d (.int l), .d (.int m), .d (.int s), .own acc, s6, s7] = .next [.d cam, .d fnd, .d (.int l), .d (.int m), .d (.int s), .own (acc ++ tL (ext fs (wv l m s))), t6, s7]
  | [], acc, s6, _, _ => ⟨s6, by rw [show tL (ext [] (wv l m s)) = [] from rfl, List.append_nil]; rfl⟩
  | f :: fs, acc, s6, hf, hn => by
    have hw := wv_len g
    have hs : 0 < s := by have := g.s0; omega
    rw [List.length_cons] at hn
    have one : L_law_every_0 [.d cam, .d fnd, .d (.int l), .d (.int m), .d (.int s), .own acc, .d (.tuple f), s7] = .next [.d cam, .d fnd, .d (.int l), .d (.int m), .d (.int s), .own (acc ++ (wv l m s).map fun v => PyData.tuple (f ++ [PyData.int v])), .d (.tuple f), s7] := by
      refine y_extL rfl ?_ (by rw [List.length_map]; omega)
      have hr : rngOk (m - l + 1) = true := by
        have := g.m0
        have := g.m1
        have := g.l0
        unfold rngOk
        simp only [Bool.and_eq_true, decide_eq_true_eq]
        omega
      refine x_lc (ds := iL (up 0 (m - l + 1).toNat)) ?_ ?_ (by rw [List.length_map]; omega)
      · walk_at "ev"
        unfold gRng1
        dsimp only
        rw [if_pos hr, up_D]
      · rw [← ev_eq g.m0 hs, List.map_map, ← flatMap_if (fun k => k % s == 0)]
        refine lcGo_enc PyData.int (fun k => if (k % s == 0) = true then [PyData.tuple (f ++ [PyData.int (l + k)])] else []) fun k _ => ?_
        rw [l_1t]
        walk_at "ev"
        simp only [g_mod hs, bind_ok, eq_int, x_asB]
        rw [g_addT (by have := hf f List.mem_cons_self; simp only [List.length_cons, List.length_nil]; omega)]
        cases (k % s == 0) <;> rfl
    obtain ⟨t6, e⟩ := every_in g cam fnd s7 fs (acc ++ (wv l m s).map fun v => PyData.tuple (f ++ [PyData.int v])) (.d (.tuple f)) (fun f' h => hf f' (List.mem_cons_of_mem _ h)) (by rw [List.length_append, List.length_map]; omega)
    refine ⟨t6, ?_⟩
    show forGo _ _ (PyData.tuple f :: tL fs) _ = _
    rw [f_cons rfl one, e, ext_cons]
    unfold tL
    rw [List.map_append, List.map_map, List.append_assoc]
    rfl
theorem every_step {l m s : Int} (g : GoodW l m s) (cam : D) (fs : List (List D)) (hf : ∀ f ∈ fs, f.length ≤ 10) (hn : fs.length ≤ 200) (s5 s6 s7 : Slot) :
    ∃ t5 t6, L_law_every_1 [.d cam, .d (.list (tL fs)), .d (.int l), .d (.int m), .d (.int s), s5, s6, s7] = .next [.d cam, .d (.list (tL (ext fs (wv l m s)))), .d (.int l), .d (.int m), .d (.int s), t5, t6, s7] := by
  obtain ⟨t6, e⟩ := every_in g cam (.list (tL fs)) s7 fs [] s6 hf (by rw [List.length_nil]; omega)
  refine ⟨.d (.list (tL (ext fs (wv l m s)))), t6, ?_⟩
  unfold L_law_every_1
  simp only [y_seq, y_own0, y_next, set0, setS']
  rw [y_for (ds := tL fs) rfl, e]
  rfl
theorem every_good {c : Cam} (g : GoodC c) : F_law_every [cD c] = .ok (.list (tL (sets c))) := by
  have n1 := wv_len g.w1
  have n2 := wv_len g.w2
  have a0 : ∀ f ∈ ([[]] : List (List D)), f.length ≤ 0 := fun f hf => by rw [List.mem_singleton.mp hf]; exact Nat.le_refl _
  have a1 := len_ext (vs := wv c.l1 c.m1 c.s1) a0
  have a2 := len_ext (vs := wv c.l2 c.m2 c.s2) a1
  have c1 : (ext [[]] (wv c.l1 c.m1 c.s1)).length ≤ 200 := by rw [ext1_len]; omega
  have c2 : (ext (ext [[]] (wv c.l1 c.m1 c.s1)) (wv c.l2 c.m2 c.s2)).length ≤ 200 := by
    rw [ext_len, ext1_len]
    have : (wv c.l1 c.m1 c.s1).length * (wv c.l2 c.m2 c.s2).length ≤ 13 * 13 := Nat.mul_le_mul n1 n2
    omega
  obtain ⟨t5, t6, e1⟩ := every_step g.w1 (cD c) [[]] (fun f hf => by have := a0 f hf; omega) (by show 1 ≤ 200; decide) .un .un .un
  obtain ⟨u5, u6, e2⟩ := every_step g.w2 (cD c) _ (fun f hf => by have := a1 f hf; omega) c1 t5 t6 .un
  obtain ⟨v5, v6, e3⟩ := every_step g.w3 (cD c) _ (fun f hf => by have := a2 f hf; omega) c2 u5 u6 .un
  unfold F_law_every B_law_every
  walk_at "ev"
  rw [y_for (ds := [wD c.l1 c.m1 c.s1, wD c.l2 c.m2 c.s2, wD c.l3 c.m3 c.s3]) rfl]
  rw [f_cons rfl e1, f_cons rfl e2, f_cons rfl e3, f_nil]
  rfl
end Lw
namespace Lw
open PySem L2 PD PL
/-! ### drawn cameras, with what is known of their wheels -/
def BW (l m s mx : Int) : Prop := ∃ n r : Int, l < 23 ∧ 0 ≤ n ∧ n < mx ∧ 0 ≤ r ∧ r < s ∧ m = l + s * n + r
structure BoxB (c : Cam) (mx : Int) : Prop where
  w1 : BW c.l1 c.m1 c.s1 mx
  w2 : BW c.l2 c.m2 c.s2 mx
  w3 : BW c.l3 c.m3 c.s3 mx
theorem box_step2 (ns : List Int) (hl : ns.length ≤ 63) (at_ most k : Int) (h0 : 0 ≤ at_) (h1 : at_ ≤ 80000) (hm : 0 < most) (hm2 : most ≤ 13) (k0 : 0 ≤ k) (k1 : k ≤ 2) (found : List D) (hf : found.length ≤ 100) (s5 s6 s7 s8 : Slot) :
    ∃ l m s t5 t6 t7 t8, GoodW l m s ∧ BW l m s most ∧ L_law_box_0 [.d (.list (iL ns)), .d (.int at_), .d (.int most), .own found, .d (.int k), s5, s6, s7, s8] = .next [.d (.list (iL ns)), .d (.int at_), .d (.int most), .own (found ++ [wD l m s]), .d (.int k), t5, t6, t7, t8] := by
  obtain ⟨l, e1, a1, b1⟩ := pick_ok ns hl (at_ + 4 * k) 23 (by omega) (by omega) (by omega)
  obtain ⟨s, e2, a2, b2⟩ := pick_ok ns hl (at_ + 4 * k + 1) 3 (by omega) (by omega) (by omega)
  obtain ⟨n, e3, a3, b3⟩ := pick_ok ns hl (at_ + 4 * k + 2) most (by omega) (by omega) hm
  obtain ⟨r, e4, a4, b4⟩ := pick_ok ns hl (at_ + 4 * k + 3) (1 + s) (by omega) (by omega) (by omega)
  refine ⟨l, l + (1 + s) * n + r, 1 + s, .d (.int l), .d (.int (1 + s)), .d (.int n), .d (.int r), good_of a1 b1 a2 b2 a3 b3 hm2 a4 b4, ⟨n, r, b1, a3, b3, a4, b4, rfl⟩, ?_⟩
  · unfold L_law_box_0
    simp only [y_seq, y_par2]
    walk_at "ev"
    simp only [g_mulc (i := 4) (j := k) (by decide) (by decide), bind_ok, g_add, e1, e2, y_ok, y_next, y_seq, y_as1, set0, setS', x_call3, x_varS, x_var0, x_bin, x_c]
    simp only [e3, y_ok, y_next, y_seq, y_as1, set0, setS', x_call3, x_varS, x_var0, x_bin, x_c, g_mulc (i := 4) (j := k) (by decide) (by decide), bind_ok, g_add, e4]
    refine y_app rfl ?_ (by omega)
    walk_at "ev"
    rw [g_mulc (i := 1 + s) (by omega) (by omega)]
    rfl
theorem box_ok2 (ns : List Int) (hl : ns.length ≤ 63) (at_ most : Int) (h0 : 0 ≤ at_) (h1 : at_ ≤ 80000) (hm : 0 < most) (hm2 : most ≤ 13) : ∃ c, GoodC c ∧ BoxB c most ∧ F_law_box [.list (iL ns), .int at_, .int most] = .ok (cD c) := by
  obtain ⟨l1, m1, s1, t5, t6, t7, t8, g1, w1, e1⟩ := box_step2 ns hl at_ most 0 h0 h1 hm hm2 (by decide) (by decide) [] (by decide) .un .un .un .un
  obtain ⟨l2, m2, s2, u5, u6, u7, u8, g2, w2, e2⟩ := box_step2 ns hl at_ most 1 h0 h1 hm hm2 (by decide) (by decide) ([] ++ [wD l1 m1 s1]) (by show 1 ≤ 100; decide) t5 t6 t7 t8
  obtain ⟨l3, m3, s3, v5, v6, v7, v8, g3, w3, e3⟩ := box_step2 ns hl at_ most 2 h0 h1 hm hm2 (by decide) (by decide) ([] ++ [wD l1 m1 s1] ++ [wD l2 m2 s2]) (by show 2 ≤ 100; decide) u5 u6 u7 u8
  refine ⟨⟨l1, m1, s1, l2, m2, s2, l3, m3, s3⟩, ⟨g1, g2, g3⟩, ⟨w1, w2, w3⟩, ?_⟩
  unfold F_law_box B_law_box
  have st : startD 9 [PyData.list (iL ns), PyData.int at_, PyData.int most] = [Slot.d (PyData.list (iL ns)), Slot.d (PyData.int at_), Slot.d (PyData.int most), Slot.un, Slot.un, Slot.un, Slot.un, Slot.un, Slot.un] := rfl
  simp only [y_fn, y_seq, st, y_own0, y_next, set0, setS']
  rw [y_for (ds := [.int 0, .int 1, .int 2]) rfl]
  rw [f_cons rfl e1, f_cons rfl e2, f_cons rfl e3, f_nil]
  rfl
end Lw
namespace Lw
open PySem L2 PD PL
/-! ### settings as triples of ints -/
abbrev T3 := Int × Int × Int
def e3 (t : T3) : D := i3 t.1 t.2.1 t.2.2
def tri (c : Cam) : List T3 := (wv c.l1 c.m1 c.s1).flatMap fun x => (wv c.l2 c.m2 c.s2).flatMap fun y => (wv c.l3 c.m3 c.s3).map fun z => (x, y, z)
theorem flatMap_map' {α β γ : Type} (f : α → β) (g : β → List γ) (xs : List α) : (xs.map f).flatMap g = xs.flatMap fun x => g (f x) := by
  rw [List.flatMap_map]
theorem tri_eq (c : Cam) : tL (sets c) = (tri c).map e3 := by
  unfold tL sets ext tri
  simp only [List.flatMap_cons, List.flatMap_nil, List.append_nil, List.nil_append, List.map_flatMap, List.flatMap_map, List.flatMap_assoc, List.map_map, List.cons_append]
  rfl
def In3 (c : Cam) (t : T3) : Prop := InS c t.1 t.2.1 t.2.2
theorem mem_tri {c : Cam} {t : T3} : t ∈ tri c ↔ In3 c t := by
  obtain ⟨x, y, z⟩ := t
  unfold tri In3
  simp only [List.mem_flatMap, List.mem_map, Prod.mk.injEq]
  constructor
  · rintro ⟨x', hx, y', hy, z', hz, rfl, rfl, rfl⟩
    exact ⟨hx, hy, hz⟩
  · intro h
    exact ⟨x, h.a, y, h.b, z, h.d, rfl, rfl, rfl⟩
def lt3 (t u : T3) : Bool := decide (t.1 < u.1 ∨ t.1 = u.1 ∧ (t.2.1 < u.2.1 ∨ t.2.1 = u.2.1 ∧ t.2.2 < u.2.2))
theorem tri_sorted {c : Cam} (g : GoodC c) : (tri c).Pairwise fun t u => lt3 t u = true := by
  have p1 : 0 < c.s1 := by have := g.w1.s0; omega
  have p2 : 0 < c.s2 := by have := g.w2.s0; omega
  have p3 : 0 < c.s3 := by have := g.w3.s0; omega
  unfold tri
  rw [List.pairwise_flatMap]
  refine ⟨fun x _ => ?_, ?_⟩
  · rw [List.pairwise_flatMap]
    refine ⟨fun y _ => ?_, ?_⟩
    · refine List.Pairwise.map _ (fun a b hab => ?_) (wv_sorted c.l3 c.m3 p3)
      exact decide_eq_true (.inr ⟨rfl, .inr ⟨rfl, hab⟩⟩)
    · refine List.Pairwise.imp (fun {a b} hab t ht u hu => ?_) (wv_sorted c.l2 c.m2 p2)
      obtain ⟨z, _, rfl⟩ := List.mem_map.mp ht
      obtain ⟨z', _, rfl⟩ := List.mem_map.mp hu
      exact decide_eq_true (.inr ⟨rfl, .inl hab⟩)
  · refine List.Pairwise.imp (fun {a b} hab t ht u hu => ?_) (wv_sorted c.l1 c.m1 p1)
    obtain ⟨y, _, ht⟩ := List.mem_flatMap.mp ht
    obtain ⟨z, _, rfl⟩ := List.mem_map.mp ht
    obtain ⟨y', _, hu⟩ := List.mem_flatMap.mp hu
    obtain ⟨z', _, rfl⟩ := List.mem_map.mp hu
    exact decide_eq_true (.inl hab)
def num (t : T3) : Int := t.1 + t.2.1 - t.2.2
theorem tri_len {c : Cam} : (tri c).length = (sets c).length := by
  have := congrArg List.length (tri_eq c)
  rw [List.length_map, List.length_map] at this
  omega
theorem tri_pos {c : Cam} (g : GoodC c) : 0 < (tri c).length := by rw [tri_len]; exact sets_pos g
theorem tri_le {c : Cam} (g : GoodC c) : (tri c).length ≤ 2197 := by
  rw [tri_len, sets_len]
  exact Nat.mul_le_mul (Nat.mul_le_mul (wv_len g.w1) (wv_len g.w2)) (wv_len g.w3)
theorem in3_b {c : Cam} (g : GoodC c) {t : T3} (h : In3 c t) : 0 ≤ t.1 ∧ t.1 ≤ 60 ∧ 0 ≤ t.2.1 ∧ t.2.1 ≤ 60 ∧ 0 ≤ t.2.2 ∧ t.2.2 ≤ 60 := by
  have aux : ∀ {l m s x : Int}, GoodW l m s → x ∈ wv l m s → 0 ≤ x ∧ x ≤ 60 := fun {l m s x} gw h => by
    obtain ⟨h1, h2, _⟩ := (mem_wv gw.m0 (by have := gw.s0; omega)).mp h
    have := gw.l0
    have := gw.m1
    omega
  have a1 := aux g.w1 h.a
  have a2 := aux g.w2 h.b
  have a3 := aux g.w3 h.d
  exact ⟨a1.1, a1.2, a2.1, a2.2, a3.1, a3.2⟩
theorem sh_e3s {α : Type} (f : α → T3) (ts : List α) : SeqAt.shaped (.list (ts.map fun a => e3 (f a))) = true := by
  obtain ⟨h1, h2⟩ := sh_i3s (ds := ts.map fun a => e3 (f a)) fun d hd => by
    obtain ⟨t, _, rfl⟩ := List.mem_map.mp hd
    exact ⟨_, _, _, rfl⟩
  show (PyData.canLayAll0 (ts.map fun a => e3 (f a)) && decide (PyData.depthAll (ts.map fun a => e3 (f a)) + 1 ≤ 64)) = true
  rw [h1, decide_eq_true (by omega)]
  rfl
theorem sh_t3 (ts : List T3) : SeqAt.shaped (.list (ts.map e3)) = true := sh_e3s id ts
theorem ne_same {d : D} (h : SeqAt.shaped d = true) : gNe d d = .ok (.bool false) := ne_self h (SeqAt.eqv_refl d (by
  unfold SeqAt.shaped at h
  rw [Bool.and_eq_true] at h
  exact h.1))
theorem eq_same {d : D} (h : SeqAt.shaped d = true) : gEq d d = .ok (.bool true) := by
  unfold gEq
  rw [h, SeqAt.eqv_refl d (by
    unfold SeqAt.shaped at h
    rw [Bool.and_eq_true] at h
    exact h.1)]
  rfl
theorem eqv_nil (ts : List D) : PyData.eqv (.list ts) (.list []) = ts.isEmpty := by
  cases ts <;> rfl
theorem ne_nilD {ts : List D} (h : SeqAt.shaped (.list ts) = true) : gNe (.list ts) (.list []) = .ok (.bool (!ts.isEmpty)) := by
  unfold gNe
  rw [h, eqv_nil]
  rfl
theorem eq_nilD {ts : List D} (h : SeqAt.shaped (.list ts) = true) : gEq (.list ts) (.list []) = .ok (.bool ts.isEmpty) := by
  unfold gEq
  rw [h, eqv_nil]
  rfl
theorem ix_tri {c : Cam} {p : Int} (h0 : 0 ≤ p) (h1 : p < ((tri c).length : Nat)) : ∃ t, gIx (.list ((tri c).map e3)) (.int p) = .ok (e3 t) ∧ In3 c t := by
  have h3 : p.toNat < (tri c).length := by omega
  refine ⟨(tri c)[p.toNat], ?_, mem_tri.mp (List.getElem_mem h3)⟩
  refine g_ixL ?_
  unfold ixD
  rw [if_pos h0, List.getElem?_eq_getElem (by rw [List.length_map]; exact h3), List.getElem_map]
end Lw
namespace Lw
open PySem L2 PD PL
/-! ### _law_class -/
theorem own2 (a : Addr) (b1 b2 : Bool) : sOwnL (fCons (fIsE 0 a b1) (fCons (fIsE 0 a b2) fNil)) 1 [.raw (.ref a), .un, .un] = .next [.raw (.ref a), .own [.bool b1, .bool b2], .un] := by
  unfold sOwnL fCons
  rw [x_isE0, bind_ok, x_isE0]
  rfl
theorem ext2 (a : Addr) (b1 b2 b3 b4 : Bool) : sExt (fLst (fCons (fIsE 0 a b3) (fCons (fIsE 0 a b4) fNil))) 1 [.raw (.ref a), .own [.bool b1, .bool b2], .un] = .next [.raw (.ref a), .own [.bool b1, .bool b2, .bool b3, .bool b4], .un] := by
  refine y_extL (xs := [.bool b1, .bool b2]) (ys := [.bool b3, .bool b4]) rfl ?_ (by show 4 ≤ 1000000; decide)
  walk_at "ev"
theorem ext1 (a : Addr) (b1 b2 b3 b4 b5 : Bool) : sExt (fLst (fCons (fIsE 0 a b5) fNil)) 1 [.raw (.ref a), .own [.bool b1, .bool b2, .bool b3, .bool b4], .un] = .next [.raw (.ref a), .own [.bool b1, .bool b2, .bool b3, .bool b4, .bool b5], .un] := by
  refine y_extL (xs := [.bool b1, .bool b2, .bool b3, .bool b4]) (ys := [.bool b5]) rfl ?_ (by show 5 ≤ 1000000; decide)
  walk_at "ev"
theorem cls_at {a : Addr} {c : Str} {b1 b2 b3 b4 b5 : Bool} {k : Nat} (h1 : (c == "InvalidCamera") = b1) (h2 : (c == "InvalidSetting") = b2) (h3 : (c == "InvalidWheel") = b3) (h4 : (c == "InvalidBrightness") = b4) (h5 : (c == "InvalidNumber") = b5)
    (hc : gCount [.bool b1, .bool b2, .bool b3, .bool b4, .bool b5] (.bool true) = .ok (.int 1)) (hi : gIndex [.bool b1, .bool b2, .bool b3, .bool b4, .bool b5] (.bool true) = .ok (.int (k : Nat))) (hx : gIx (.list [.str "InvalidCamera", .str "InvalidSetting", .str "InvalidWheel", .str "InvalidBrightness", .str "InvalidNumber"]) (.int (k : Nat)) = .ok (.str c)) : B_law_class a c [.raw (.ref a), .un, .un] = .ret (.str c) := by
  unfold B_law_class
  rw [h1, h2, h3, h4, h5, y_seq, own2, y_next, y_seq, ext2, y_next, y_seq, ext1, y_next]
  simp_arith [hc, y_frz]
  show ofRes ((gIndex [.bool b1, .bool b2, .bool b3, .bool b4, .bool b5] (.bool true)).bind fun b => gIx (.list [.str "InvalidCamera", .str "InvalidSetting", .str "InvalidWheel", .str "InvalidBrightness", .str "InvalidNumber"]) b) (fun d => SR.ret d) = _
  rw [hi, bind_ok, hx]
  rfl
theorem cls_val (a : Addr) (c : Str) (hL : LX.contains c = true) : B_law_class a c ((startD 3 []).set 0 (.raw (.ref a))) = .ret (.str c) := by
  show B_law_class a c [.raw (.ref a), .un, .un] = _
  rcases lx5 hL with rfl | rfl | rfl | rfl | rfl
  · exact cls_at (k := 0) (b1 := true) (b2 := false) (b3 := false) (b4 := false) (b5 := false) (by decide +kernel) (by decide +kernel) (by decide +kernel) (by decide +kernel) (by decide +kernel) (by unfold gCount; rw [if_pos (by decide +kernel)]; rfl) (by unfold gIndex; rw [if_pos (by decide +kernel)]; rfl) rfl
  · exact cls_at (k := 1) (b1 := false) (b2 := true) (b3 := false) (b4 := false) (b5 := false) (by decide +kernel) (by decide +kernel) (by decide +kernel) (by decide +kernel) (by decide +kernel) (by unfold gCount; rw [if_pos (by decide +kernel)]; rfl) (by unfold gIndex; rw [if_pos (by decide +kernel)]; rfl) rfl
  · exact cls_at (k := 2) (b1 := false) (b2 := false) (b3 := true) (b4 := false) (b5 := false) (by decide +kernel) (by decide +kernel) (by decide +kernel) (by decide +kernel) (by decide +kernel) (by unfold gCount; rw [if_pos (by decide +kernel)]; rfl) (by unfold gIndex; rw [if_pos (by decide +kernel)]; rfl) rfl
  · exact cls_at (k := 3) (b1 := false) (b2 := false) (b3 := false) (b4 := true) (b5 := false) (by decide +kernel) (by decide +kernel) (by decide +kernel) (by decide +kernel) (by decide +kernel) (by unfold gCount; rw [if_pos (by decide +kernel)]; rfl) (by unfold gIndex; rw [if_pos (by decide +kernel)]; rfl) rfl
  · exact cls_at (k := 4) (b1 := false) (b2 := false) (b3 := false) (b4 := false) (b5 := true) (by decide +kernel) (by decide +kernel) (by decide +kernel) (by decide +kernel) (by decide +kernel) (by unfold gCount; rw [if_pos (by decide +kernel)]; rfl) (by unfold gIndex; rw [if_pos (by decide +kernel)]; rfl) rfl
end Lw
namespace Lw
open PySem L2 PD PL
abbrev nmD : List D := [.str "aperture", .str "time", .str "sensitivity"]
theorem find_of {x : Str} {j : Nat} (h1 : (SeqAt.shaped (.str x) && SeqAt.shaped (.tuple nmD)) = true) (h2 : inD (.str x) nmD = true) (h3 : (["aperture", "time", "sensitivity"] : List Str).idxOf? x = some j) : F_find_wheel [.str x] = .ok (.int j) := by
  have e1 : gIn true (.str x) (.tuple nmD) = .ok (.bool false) := by
    unfold gIn
    dsimp only
    rw [if_pos h1, h2]
    rfl
  have e2 : gNamesIx ["aperture", "time", "sensitivity"] (.str x) = .ok (.int j) := by
    unfold gNamesIx
    dsimp only
    rw [h3]
  unfold F_find_wheel B_find_wheel
  walk_at "ev"
  rw [e1]
  walk_at "ev"
  unfold fNix
  walk_at "ev"
  rw [e2]
  rfl
theorem find_0 : F_find_wheel [.str "aperture"] = .ok (.int 0) := find_of (j := 0) (by decide +kernel) (by decide +kernel) (by decide +kernel)
theorem find_1 : F_find_wheel [.str "time"] = .ok (.int 1) := find_of (j := 1) (by decide +kernel) (by decide +kernel) (by decide +kernel)
theorem find_2 : F_find_wheel [.str "sensitivity"] = .ok (.int 2) := find_of (j := 2) (by decide +kernel) (by decide +kernel) (by decide +kernel)
end Lw
namespace Lw
open PySem L2 PD PL
/-! ### places -/
def co (k : Nat) (x y z : Int) : Int := match k with
  | 0 => x
  | 1 => y
  | _ => z
def pu (k : Nat) (x y z v : Int) : D := match k with
  | 0 => i3 v y z
  | 1 => i3 x v z
  | _ => i3 x y v
def sgn (k : Nat) : Int := match k with
  | 0 => 1
  | 1 => 1
  | _ => -1
def wk (c : Cam) (k : Nat) : List Int := match k with
  | 0 => wv c.l1 c.m1 c.s1
  | 1 => wv c.l2 c.m2 c.s2
  | _ => wv c.l3 c.m3 c.s3
def wkD (c : Cam) (k : Nat) : D := match k with
  | 0 => wD c.l1 c.m1 c.s1
  | 1 => wD c.l2 c.m2 c.s2
  | _ => wD c.l3 c.m3 c.s3
def stp (c : Cam) (k : Nat) : Int := match k with
  | 0 => c.s1
  | 1 => c.s2
  | _ => c.s3
def nmS (k : Nat) : Str := match k with
  | 0 => "aperture"
  | 1 => "time"
  | _ => "sensitivity"
theorem with_error_eq {k : Nat} (hk : k < 3) (x y z n : Int) : F_with_error [i3 x y z, .int k, .int n] = .ok (pu k x y z (co k x y z + sgn k * n)) := by
  have e : k = 0 ∨ k = 1 ∨ k = 2 := by omega
  unfold F_with_error B_with_error
  rcases e with rfl | rfl | rfl <;> rfl
theorem ix_pu {k : Nat} (hk : k < 3) (x y z v : Int) : gIx (pu k x y z v) (.int k) = .ok (.int v) := by
  have e : k = 0 ∨ k = 1 ∨ k = 2 := by omega
  rcases e with rfl | rfl | rfl <;> rfl
theorem ix_cam {c : Cam} {k : Nat} (hk : k < 3) : gIx (cD c) (.int k) = .ok (wkD c k) := by
  have e : k = 0 ∨ k = 1 ∨ k = 2 := by omega
  rcases e with rfl | rfl | rfl <;> rfl
theorem wheel_values_k {c : Cam} (g : GoodC c) {k : Nat} (hk : k < 3) : F_wheel_values [wkD c k] = .ok (.list (iL (wk c k))) := by
  have e : k = 0 ∨ k = 1 ∨ k = 2 := by omega
  rcases e with rfl | rfl | rfl
  · exact wheel_values_good g.w1
  · exact wheel_values_good g.w2
  · exact wheel_values_good g.w3
theorem mem_wk {c : Cam} (g : GoodC c) {k : Nat} (hk : k < 3) {a b : Int} (h1 : a ∈ wk c k) (h2 : b ∈ wk c k) : (a - b) % stp c k = 0 := by
  have e : k = 0 ∨ k = 1 ∨ k = 2 := by omega
  have aux : ∀ {l m s : Int}, GoodW l m s → a ∈ wv l m s → b ∈ wv l m s → (a - b) % s = 0 := fun {l m s} gw q1 q2 => by
    have hs : 0 < s := by have := gw.s0; omega
    obtain ⟨_, _, e1⟩ := (mem_wv gw.m0 hs).mp q1
    obtain ⟨_, _, e2⟩ := (mem_wv gw.m0 hs).mp q2
    rw [show a - b = (a - l) - (b - l) by omega, Int.sub_emod, e1, e2]
    simp
  rcases e with rfl | rfl | rfl
  · exact aux g.w1 h1 h2
  · exact aux g.w2 h1 h2
  · exact aux g.w3 h1 h2
theorem co_mem {c : Cam} {k : Nat} (hk : k < 3) {x y z : Int} (h : InS c x y z) : co k x y z ∈ wk c k := by
  have e : k = 0 ∨ k = 1 ∨ k = 2 := by omega
  rcases e with rfl | rfl | rfl
  · exact h.a
  · exact h.b
  · exact h.d
/-- the numbers of a bracket -/
def nums (many : Int) : List Int := up (0 - many) (many + 1 - (0 - many)).toNat
def shot (k : Nat) (x y z width n : Int) : Int := co k x y z + sgn k * (width * n)
def okB (c : Cam) (x y z : Int) (k : Nat) (many width : Int) : Bool := (nums many).all fun n => decide (shot k x y z width n ∈ wk c k)
def brL (x y z : Int) (k : Nat) (many width : Int) : List D := (nums many).map fun n => pu k x y z (shot k x y z width n)
def brD (c : Cam) (x y z : Int) (k : Nat) (many width : Int) : D := if okB c x y z k many width = true then .list (brL x y z k many width) else .none
theorem find_bracket_eq {c : Cam} (g : GoodC c) (x y z : Int) {k : Nat} (hk : k < 3) {many width : Int} (m0 : 1 ≤ many) (m1 : many ≤ 4) (w0 : 1 ≤ width) (w1 : width ≤ 12) : F_find_bracket [cD c, i3 x y z, .int k, .int many, .int width] = .ok (brD c x y z k many width) := by
  have hr : (rngOk (0 - many) && rngOk (many + 1)) = true := by
    unfold rngOk
    simp only [Bool.and_eq_true, decide_eq_true_eq]
    omega
  have hn : (nums many).length < 1000 := by
    unfold nums up
    rw [List.length_map, List.length_range]
    omega
  have e1 : fLc (fRng gRng2 (fCons (fBin gSub (fC (.int 0)) (fVar 3)) (fCons (fBin gAdd (fVar 3) (fC (.int 1))) fNil))) [7] [7] hOne fYes (fCall 3 F_with_error (fCons (fVar 1) (fCons (fVar 2) (fCons (fBin gMulI (fVar 4) (fVar 7)) fNil)))) [.d (cD c), .d (i3 x y z), .d (.int k), .d (.int many), .d (.int width), .un, .un, .un, .un] = .ok (.list (brL x y z k many width)) := by
    refine x_lc (ds := iL (nums many)) ?_ ?_ (by unfold brL; rw [List.length_map]; omega)
    · walk_at "ev"
      unfold gRng2
      dsimp only
      rw [if_pos hr, up_D]
      rfl
    · unfold brL
      rw [← flatMap_one]
      refine lcGo_enc PyData.int (fun n => [pu k x y z (shot k x y z width n)]) fun n _ => ?_
      walk_at "ev"
      rw [g_mulc (i := width) (j := n) (by omega) (by omega)]
      walk_at "ev"
      rw [with_error_eq hk]
      rfl
  have e2 : ∀ s6 : Slot, s6 = .d (.list (iL (wk c k))) → fLc (fSeq (fVar 5)) [8] [8] hOne fYes (fBin (gIn false) (fBin gIx (fVar 8) (fVar 2)) (fVar 6)) [.d (cD c), .d (i3 x y z), .d (.int k), .d (.int many), .d (.int width), .d (.list (brL x y z k many width)), s6, .un, .un] = .ok (.list (((nums many).map fun n => decide (shot k x y z width n ∈ wk c k)).map PyData.bool)) := by
    rintro _ rfl
    refine x_lc (ds := brL x y z k many width) ?_ ?_ (by rw [List.length_map, List.length_map]; omega)
    · walk_at "ev"
    · rw [List.map_map, ← flatMap_one]
      unfold brL
      refine lcGo_enc (fun n => pu k x y z (shot k x y z width n)) (fun n => [(PyData.bool ∘ fun n => decide (shot k x y z width n ∈ wk c k)) n]) fun n _ => ?_
      walk_at "ev"
      rw [ix_pu hk]
      walk_at "ev"
      rw [in_ints]
      rfl
  have st : startD 9 [cD c, i3 x y z, PyData.int k, PyData.int many, PyData.int width] = [.d (cD c), .d (i3 x y z), .d (.int k), .d (.int many), .d (.int width), .un, .un, .un, .un] := rfl
  unfold F_find_bracket B_find_bracket
  simp only [y_fn, y_seq, st, y_as1, e1, y_ok, y_next, set0, setS']
  walk_at "ev"
  simp only [ix_cam hk, bind_ok, wheel_values_k g hk]
  walk_at "ev"
  rw [e2 _ rfl]
  walk_at "ev"
  rw [all_bools]
  walk_at "ev"
  have e3 : ((nums many).map fun n => decide (shot k x y z width n ∈ wk c k)).all id = okB c x y z k many width := by
    unfold okB
    rw [List.all_map]
    rfl
  rw [e3]
  unfold brD
  cases okB c x y z k many width <;> rfl
theorem check_number_ok {v most : Int} (h1 : 1 ≤ v) (h2 : v ≤ most) : F_check_number [.int v, .int most] = .ok .none := by
  unfold F_check_number B_check_number
  walk_at "ev"
  simp only [is_int_eq, isIntD_int, decide_eq_true h1, decide_eq_true h2]
  rfl
theorem find_k {k : Nat} (hk : k < 3) : F_find_wheel [.str (nmS k)] = .ok (.int k) := by
  have e : k = 0 ∨ k = 1 ∨ k = 2 := by omega
  rcases e with rfl | rfl | rfl
  · exact find_0
  · exact find_1
  · exact find_2
theorem bracket_eq {c : Cam} (g : GoodC c) {x y z : Int} (hi : InS c x y z) {k : Nat} (hk : k < 3) {many width : Int} (m0 : 1 ≤ many) (m1 : many ≤ 4) (w0 : 1 ≤ width) (w1 : width ≤ 12) : F_bracket [cD c, i3 x y z, .str (nmS k), .int many, .int width] = .ok (brD c x y z k many width) := by
  unfold F_bracket B_bracket
  walk_at "ev"
  simp only [check_camera_good g]
  walk_at "ev"
  simp only [check_setting_3 g (inS_val hi)]
  walk_at "ev"
  simp only [find_k hk]
  walk_at "ev"
  simp only [check_number_ok m0 m1]
  walk_at "ev"
  simp only [check_number_ok w0 w1]
  walk_at "ev"
  simp only [x_call5]
  walk_at "ev"
  rw [find_bracket_eq g x y z hk m0 m1 w0 w1]
  rfl
end Lw
namespace Lw
open PySem L2 PD PL
/-! ### values that are none -/
theorem check_camera_bad {d : D} (h : F_is_camera [d] = .ok (.bool false)) : F_check_camera [d] = .err "InvalidCamera" := by
  unfold F_check_camera B_check_camera
  walk_at "ev"
  rw [h]
  rfl
theorem check_setting_bad {c d : D} (h : F_has_setting [c, d] = .ok (.bool false)) : F_check_setting [c, d] = .err "InvalidSetting" := by
  unfold F_check_setting B_check_setting
  walk_at "ev"
  rw [h]
  rfl
theorem wv_first {l m s : Int} (g : GoodW l m s) : l ∈ wv l m s := (mem_wv g.m0 (by have := g.s0; omega)).mpr ⟨Int.le_refl _, g.m0, by rw [Int.sub_self]; exact Int.zero_emod _⟩
theorem valB_int {ns : List Int} {v : Int} (h : v ∉ ns) : valB ns (.int v) = false := by
  unfold valB
  dsimp only
  simp [h]
end Lw
namespace Lw
open PySem L2 PD PL
theorem check_light_bad {d : D} (h : isIntD d (-60) 120 = false) : F_check_light [d] = .err "InvalidBrightness" := by
  unfold F_check_light B_check_light
  walk_at "ev"
  rw [is_int_eq, h]
  rfl
end Lw
namespace Lw
open PySem L2 PD PL
/-! ### what the calls raise -/
theorem check_both_bad {d x : D} (h : F_check_camera [d] = .err "InvalidCamera") : F_check_both [d, x] = .err "InvalidCamera" := by
  unfold F_check_both B_check_both
  simp_arith [h]
theorem check_both_lit {d x : D} (h : F_check_camera [d] = .ok .none) (h2 : F_check_light [x] = .err "InvalidBrightness") : F_check_both [d, x] = .err "InvalidBrightness" := by
  unfold F_check_both B_check_both
  simp_arith [h, h2]
theorem check_number_bad {d : D} {most : Int} (h : isIntD d 1 most = false) : F_check_number [d, .int most] = .err "InvalidNumber" := by
  unfold F_check_number B_check_number
  simp_arith [is_int_eq, h]
theorem check_three_bad {d x y : D} (h : F_check_camera [d] = .err "InvalidCamera") : F_check_three [d, x, y] = .err "InvalidCamera" := by
  unfold F_check_three B_check_three
  simp_arith [h]
theorem check_three_set {d x y : D} (h : F_check_camera [d] = .ok .none) (h2 : F_check_setting [d, x] = .err "InvalidSetting") : F_check_three [d, x, y] = .err "InvalidSetting" := by
  unfold F_check_three B_check_three
  simp_arith [h, h2]
theorem check_three_num {d x y : D} (h : F_check_camera [d] = .ok .none) (h2 : F_check_setting [d, x] = .ok .none) (h3 : F_check_number [y, .int 4] = .err "InvalidNumber") : F_check_three [d, x, y] = .err "InvalidNumber" := by
  unfold F_check_three B_check_three
  simp_arith [h, h2, h3]
theorem check_three_good {d x y : D} (h : F_check_camera [d] = .ok .none) (h2 : F_check_setting [d, x] = .ok .none) (h3 : F_check_number [y, .int 4] = .ok .none) : F_check_three [d, x, y] = .ok .none := by
  unfold F_check_three B_check_three
  simp_arith [h, h2, h3]
theorem near_cam {d x y : D} (h : F_check_camera [d] = .err "InvalidCamera") : F_find_nearest [d, x, y] = .err "InvalidCamera" := by
  unfold F_find_nearest B_find_nearest
  simp_arith [h]
theorem near_set {d x y : D} (h : F_check_camera [d] = .ok .none) (h2 : F_check_setting [d, x] = .err "InvalidSetting") : F_find_nearest [d, x, y] = .err "InvalidSetting" := by
  unfold F_find_nearest B_find_nearest
  simp_arith [h, h2]
theorem near_lit {d x y : D} (h : F_check_camera [d] = .ok .none) (h2 : F_check_setting [d, x] = .ok .none) (h3 : F_check_light [y] = .err "InvalidBrightness") : F_find_nearest [d, x, y] = .err "InvalidBrightness" := by
  unfold F_find_nearest B_find_nearest
  simp_arith [h, h2, h3]
theorem bad_cams {no : D} (h : F_check_camera [no] = .err "InvalidCamera") : ∀ x ∈ FES_law_cameras, x.1 (startD x.2.length (pickD .none [no] x.2)) = .err "InvalidCamera" := by
  unfold FES_law_cameras
  refine List.forall_mem_cons.mpr ⟨?_, ?_⟩
  · show F_is_setting [no, .none] = _
    unfold F_is_setting B_is_setting
    simp_arith [h, check_both_bad h, check_three_bad h, near_cam h, x_call4, x_call5]
  refine List.forall_mem_cons.mpr ⟨?_, ?_⟩
  · show F_values [no, .none] = _
    unfold F_values B_values
    simp_arith [h, check_both_bad h, check_three_bad h, near_cam h, x_call4, x_call5]
  refine List.forall_mem_cons.mpr ⟨?_, ?_⟩
  · show F_count_settings [no] = _
    unfold F_count_settings B_count_settings
    simp_arith [h, check_both_bad h, check_three_bad h, near_cam h, x_call4, x_call5]
  refine List.forall_mem_cons.mpr ⟨?_, ?_⟩
  · show F_exposure [no, .none] = _
    unfold F_exposure B_exposure
    simp_arith [h, check_both_bad h, check_three_bad h, near_cam h, x_call4, x_call5]
  refine List.forall_mem_cons.mpr ⟨?_, ?_⟩
  · show F_error [no, .none, .none] = _
    unfold F_error B_error
    simp_arith [h, check_both_bad h, check_three_bad h, near_cam h, x_call4, x_call5]
  refine List.forall_mem_cons.mpr ⟨?_, ?_⟩
  · show F_right_settings [no, .none] = _
    unfold F_right_settings B_right_settings
    simp_arith [h, check_both_bad h, check_three_bad h, near_cam h, x_call4, x_call5]
  refine List.forall_mem_cons.mpr ⟨?_, ?_⟩
  · show F_count_right [no, .none] = _
    unfold F_count_right B_count_right
    simp_arith [h, check_both_bad h, check_three_bad h, near_cam h, x_call4, x_call5]
  refine List.forall_mem_cons.mpr ⟨?_, ?_⟩
  · show F_reach [no] = _
    unfold F_reach B_reach
    simp_arith [h, check_both_bad h, check_three_bad h, near_cam h, x_call4, x_call5]
  refine List.forall_mem_cons.mpr ⟨?_, ?_⟩
  · show F_reachable [no] = _
    unfold F_reachable B_reachable
    simp_arith [h, check_both_bad h, check_three_bad h, near_cam h, x_call4, x_call5]
  refine List.forall_mem_cons.mpr ⟨?_, ?_⟩
  · show F_commonest [no] = _
    unfold F_commonest B_commonest
    simp_arith [h, check_both_bad h, check_three_bad h, near_cam h, x_call4, x_call5]
  refine List.forall_mem_cons.mpr ⟨?_, ?_⟩
  · show F_gaps [no] = _
    unfold F_gaps B_gaps
    simp_arith [h, check_both_bad h, check_three_bad h, near_cam h, x_call4, x_call5]
  refine List.forall_mem_cons.mpr ⟨?_, ?_⟩
  · show F_least_error [no, .none] = _
    unfold F_least_error B_least_error
    simp_arith [h, check_both_bad h, check_three_bad h, near_cam h, x_call4, x_call5]
  refine List.forall_mem_cons.mpr ⟨?_, ?_⟩
  · show F_nearest_settings [no, .none] = _
    unfold F_nearest_settings B_nearest_settings
    simp_arith [h, check_both_bad h, check_three_bad h, near_cam h, x_call4, x_call5]
  refine List.forall_mem_cons.mpr ⟨?_, ?_⟩
  · show F_worst_brightness [no] = _
    unfold F_worst_brightness B_worst_brightness
    simp_arith [h, check_both_bad h, check_three_bad h, near_cam h, x_call4, x_call5]
  refine List.forall_mem_cons.mpr ⟨?_, ?_⟩
  · show F_clicks [no, .none, .none] = _
    unfold F_clicks B_clicks
    simp_arith [h, check_both_bad h, check_three_bad h, near_cam h, x_call4, x_call5]
  refine List.forall_mem_cons.mpr ⟨?_, ?_⟩
  · show F_fewest_clicks [no, .none, .none] = _
    unfold F_fewest_clicks B_fewest_clicks
    simp_arith [h, check_both_bad h, check_three_bad h, near_cam h, x_call4, x_call5]
  refine List.forall_mem_cons.mpr ⟨?_, ?_⟩
  · show F_nearest_right [no, .none, .none] = _
    unfold F_nearest_right B_nearest_right
    simp_arith [h, check_both_bad h, check_three_bad h, near_cam h, x_call4, x_call5]
  refine List.forall_mem_cons.mpr ⟨?_, ?_⟩
  · show F_farthest [no, .none] = _
    unfold F_farthest B_farthest
    simp_arith [h, check_both_bad h, check_three_bad h, near_cam h, x_call4, x_call5]
  refine List.forall_mem_cons.mpr ⟨?_, ?_⟩
  · show F_shifts [no, .none] = _
    unfold F_shifts B_shifts
    simp_arith [h, check_both_bad h, check_three_bad h, near_cam h, x_call4, x_call5]
  refine List.forall_mem_cons.mpr ⟨?_, ?_⟩
  · show F_fewest_shifts [no, .none, .none] = _
    unfold F_fewest_shifts B_fewest_shifts
    simp_arith [h, check_both_bad h, check_three_bad h, near_cam h, x_call4, x_call5]
  refine List.forall_mem_cons.mpr ⟨?_, ?_⟩
  · show F_shift_groups [no, .none] = _
    unfold F_shift_groups B_shift_groups
    simp_arith [h, check_both_bad h, check_three_bad h, near_cam h, x_call4, x_call5]
  refine List.forall_mem_cons.mpr ⟨?_, ?_⟩
  · show F_bracket [no, .none, .none, (.int 0), (.int 0)] = _
    unfold F_bracket B_bracket
    simp_arith [h, check_both_bad h, check_three_bad h, near_cam h, x_call4, x_call5]
  refine List.forall_mem_cons.mpr ⟨?_, ?_⟩
  · show F_wheels_for [no, .none, (.int 0), (.int 0)] = _
    unfold F_wheels_for B_wheels_for
    simp_arith [h, check_both_bad h, check_three_bad h, near_cam h, x_call4, x_call5]
  refine List.forall_mem_cons.mpr ⟨?_, ?_⟩
  · show F_widest [no, .none, .none, (.int 0)] = _
    unfold F_widest B_widest
    simp_arith [h, check_both_bad h, check_three_bad h, near_cam h, x_call4, x_call5]
  exact fun x hx => absurd hx List.not_mem_nil
theorem bad_sets {box one no : D} (h : F_check_camera [box] = .ok .none) (h1 : F_check_setting [box, one] = .ok .none) (h2 : F_check_setting [box, no] = .err "InvalidSetting") : ∀ x ∈ FES_law_set, x.1 (startD x.2.length (pickD .none [box, one, no] x.2)) = .err "InvalidSetting" := by
  unfold FES_law_set
  refine List.forall_mem_cons.mpr ⟨?_, ?_⟩
  · show F_exposure [box, no] = _
    unfold F_exposure B_exposure
    simp_arith [h, h1, h2, check_three_set h h2, near_set h h2, x_call4, x_call5]
  refine List.forall_mem_cons.mpr ⟨?_, ?_⟩
  · show F_error [box, no, .none] = _
    unfold F_error B_error
    simp_arith [h, h1, h2, check_three_set h h2, near_set h h2, x_call4, x_call5]
  refine List.forall_mem_cons.mpr ⟨?_, ?_⟩
  · show F_clicks [box, no, .none] = _
    unfold F_clicks B_clicks
    simp_arith [h, h1, h2, check_three_set h h2, near_set h h2, x_call4, x_call5]
  refine List.forall_mem_cons.mpr ⟨?_, ?_⟩
  · show F_clicks [box, one, no] = _
    unfold F_clicks B_clicks
    simp_arith [h, h1, h2, check_three_set h h2, near_set h h2, x_call4, x_call5]
  refine List.forall_mem_cons.mpr ⟨?_, ?_⟩
  · show F_fewest_clicks [box, no, .none] = _
    unfold F_fewest_clicks B_fewest_clicks
    simp_arith [h, h1, h2, check_three_set h h2, near_set h h2, x_call4, x_call5]
  refine List.forall_mem_cons.mpr ⟨?_, ?_⟩
  · show F_nearest_right [box, no, .none] = _
    unfold F_nearest_right B_nearest_right
    simp_arith [h, h1, h2, check_three_set h h2, near_set h h2, x_call4, x_call5]
  refine List.forall_mem_cons.mpr ⟨?_, ?_⟩
  · show F_shifts [box, no] = _
    unfold F_shifts B_shifts
    simp_arith [h, h1, h2, check_three_set h h2, near_set h h2, x_call4, x_call5]
  refine List.forall_mem_cons.mpr ⟨?_, ?_⟩
  · show F_fewest_shifts [box, no, .none] = _
    unfold F_fewest_shifts B_fewest_shifts
    simp_arith [h, h1, h2, check_three_set h h2, near_set h h2, x_call4, x_call5]
  refine List.forall_mem_cons.mpr ⟨?_, ?_⟩
  · show F_fewest_shifts [box, one, no] = _
    unfold F_fewest_shifts B_fewest_shifts
    simp_arith [h, h1, h2, check_three_set h h2, near_set h h2, x_call4, x_call5]
  refine List.forall_mem_cons.mpr ⟨?_, ?_⟩
  · show F_bracket [box, no, .none, (.int 0), (.int 0)] = _
    unfold F_bracket B_bracket
    simp_arith [h, h1, h2, check_three_set h h2, near_set h h2, x_call4, x_call5]
  refine List.forall_mem_cons.mpr ⟨?_, ?_⟩
  · show F_wheels_for [box, no, (.int 0), (.int 0)] = _
    unfold F_wheels_for B_wheels_for
    simp_arith [h, h1, h2, check_three_set h h2, near_set h h2, x_call4, x_call5]
  refine List.forall_mem_cons.mpr ⟨?_, ?_⟩
  · show F_widest [box, no, .none, (.int 0)] = _
    unfold F_widest B_widest
    simp_arith [h, h1, h2, check_three_set h h2, near_set h h2, x_call4, x_call5]
  exact fun x hx => absurd hx List.not_mem_nil
theorem bad_lits {box one no : D} (h : F_check_camera [box] = .ok .none) (h1 : F_check_setting [box, one] = .ok .none) (h2 : F_check_light [no] = .err "InvalidBrightness") : ∀ x ∈ FES_law_lit, x.1 (startD x.2.length (pickD .none [box, one, no] x.2)) = .err "InvalidBrightness" := by
  unfold FES_law_lit
  refine List.forall_mem_cons.mpr ⟨?_, ?_⟩
  · show F_error [box, one, no] = _
    unfold F_error B_error
    simp_arith [h, h1, h2, check_both_lit h h2, near_lit h h1 h2, x_call4, x_call5]
  refine List.forall_mem_cons.mpr ⟨?_, ?_⟩
  · show F_right_settings [box, no] = _
    unfold F_right_settings B_right_settings
    simp_arith [h, h1, h2, check_both_lit h h2, near_lit h h1 h2, x_call4, x_call5]
  refine List.forall_mem_cons.mpr ⟨?_, ?_⟩
  · show F_count_right [box, no] = _
    unfold F_count_right B_count_right
    simp_arith [h, h1, h2, check_both_lit h h2, near_lit h h1 h2, x_call4, x_call5]
  refine List.forall_mem_cons.mpr ⟨?_, ?_⟩
  · show F_least_error [box, no] = _
    unfold F_least_error B_least_error
    simp_arith [h, h1, h2, check_both_lit h h2, near_lit h h1 h2, x_call4, x_call5]
  refine List.forall_mem_cons.mpr ⟨?_, ?_⟩
  · show F_nearest_settings [box, no] = _
    unfold F_nearest_settings B_nearest_settings
    simp_arith [h, h1, h2, check_both_lit h h2, near_lit h h1 h2, x_call4, x_call5]
  refine List.forall_mem_cons.mpr ⟨?_, ?_⟩
  · show F_fewest_clicks [box, one, no] = _
    unfold F_fewest_clicks B_fewest_clicks
    simp_arith [h, h1, h2, check_both_lit h h2, near_lit h h1 h2, x_call4, x_call5]
  refine List.forall_mem_cons.mpr ⟨?_, ?_⟩
  · show F_nearest_right [box, one, no] = _
    unfold F_nearest_right B_nearest_right
    simp_arith [h, h1, h2, check_both_lit h h2, near_lit h h1 h2, x_call4, x_call5]
  refine List.forall_mem_cons.mpr ⟨?_, ?_⟩
  · show F_farthest [box, no] = _
    unfold F_farthest B_farthest
    simp_arith [h, h1, h2, check_both_lit h h2, near_lit h h1 h2, x_call4, x_call5]
  refine List.forall_mem_cons.mpr ⟨?_, ?_⟩
  · show F_shift_groups [box, no] = _
    unfold F_shift_groups B_shift_groups
    simp_arith [h, h1, h2, check_both_lit h h2, near_lit h h1 h2, x_call4, x_call5]
  exact fun x hx => absurd hx List.not_mem_nil
theorem wheel_0 {box one d : D} (h : F_check_camera [box] = .ok .none) (h1 : F_check_setting [box, one] = .ok .none) (h2 : F_find_wheel [d] = .err "InvalidWheel") : FE_law_0 (startD 2 [box, d]) = .err "InvalidWheel" := by
  show F_values [box, d] = _
  unfold F_values B_values
  simp_arith [h, h1, h2, x_call4, x_call5]
theorem wheel_1 {box one d : D} (h : F_check_camera [box] = .ok .none) (h1 : F_check_setting [box, one] = .ok .none) (h2 : F_find_wheel [d] = .err "InvalidWheel") : FE_law_1 (startD 3 [box, one, d]) = .err "InvalidWheel" := by
  show F_bracket [box, one, d, (.int 0), (.int 0)] = _
  unfold F_bracket B_bracket
  simp_arith [h, h1, h2, x_call4, x_call5]
theorem wheel_2 {box one d : D} (h : F_check_camera [box] = .ok .none) (h1 : F_check_setting [box, one] = .ok .none) (h2 : F_find_wheel [d] = .err "InvalidWheel") : FE_law_2 (startD 3 [box, one, d]) = .err "InvalidWheel" := by
  show F_widest [box, one, d, (.int 0)] = _
  unfold F_widest B_widest
  simp_arith [h, h1, h2, x_call4, x_call5]
theorem n04 : F_check_number [.int 0, .int 4] = .err "InvalidNumber" := check_number_bad rfl
theorem n54 : F_check_number [.int 5, .int 4] = .err "InvalidNumber" := check_number_bad rfl
theorem n0_12 : F_check_number [.int 0, .int 12] = .err "InvalidNumber" := check_number_bad rfl
theorem n13 : F_check_number [.int 13, .int 12] = .err "InvalidNumber" := check_number_bad rfl
theorem nT : F_check_number [.bool true, .int 12] = .err "InvalidNumber" := check_number_bad rfl
theorem nN : F_check_number [.none, .int 4] = .err "InvalidNumber" := check_number_bad rfl
theorem n14 : F_check_number [.int 1, .int 4] = .ok .none := check_number_ok (by decide) (by decide)
theorem n112 : F_check_number [.int 1, .int 12] = .ok .none := check_number_ok (by decide) (by decide)
theorem number_3 {box one : D} (h : F_check_camera [box] = .ok .none) (h1 : F_check_setting [box, one] = .ok .none) : FE_law_3 (startD 2 [box, one]) = .err "InvalidNumber" := by
  show F_bracket [box, one, (.str "time"), (.int 0), (.int 0)] = _
  unfold F_bracket B_bracket
  simp_arith [h, h1, find_0, find_1, n04, n54, n112, n0_12, n13, nT, nN, n14, check_three_num h h1 n54, check_three_good h h1 n14, x_call4, x_call5]
theorem number_4 {box one : D} (h : F_check_camera [box] = .ok .none) (h1 : F_check_setting [box, one] = .ok .none) : FE_law_4 (startD 2 [box, one]) = .err "InvalidNumber" := by
  show F_bracket [box, one, (.str "time"), (.int 5), (.int 1)] = _
  unfold F_bracket B_bracket
  simp_arith [h, h1, find_0, find_1, n04, n54, n112, n0_12, n13, nT, nN, n14, check_three_num h h1 n54, check_three_good h h1 n14, x_call4, x_call5]
theorem number_5 {box one : D} (h : F_check_camera [box] = .ok .none) (h1 : F_check_setting [box, one] = .ok .none) : FE_law_5 (startD 2 [box, one]) = .err "InvalidNumber" := by
  show F_bracket [box, one, (.str "time"), (.int 1), (.int 13)] = _
  unfold F_bracket B_bracket
  simp_arith [h, h1, find_0, find_1, n04, n54, n112, n0_12, n13, nT, nN, n14, check_three_num h h1 n54, check_three_good h h1 n14, x_call4, x_call5]
theorem number_6 {box one : D} (h : F_check_camera [box] = .ok .none) (h1 : F_check_setting [box, one] = .ok .none) : FE_law_6 (startD 2 [box, one]) = .err "InvalidNumber" := by
  show F_bracket [box, one, (.str "time"), (.int 1), (.bool true)] = _
  unfold F_bracket B_bracket
  simp_arith [h, h1, find_0, find_1, n04, n54, n112, n0_12, n13, nT, nN, n14, check_three_num h h1 n54, check_three_good h h1 n14, x_call4, x_call5]
theorem number_7 {box one : D} (h : F_check_camera [box] = .ok .none) (h1 : F_check_setting [box, one] = .ok .none) : FE_law_7 (startD 2 [box, one]) = .err "InvalidNumber" := by
  show F_wheels_for [box, one, (.int 1), (.int 0)] = _
  unfold F_wheels_for B_wheels_for
  simp_arith [h, h1, find_0, find_1, n04, n54, n112, n0_12, n13, nT, nN, n14, check_three_num h h1 n54, check_three_good h h1 n14, x_call4, x_call5]
theorem number_8 {box one : D} (h : F_check_camera [box] = .ok .none) (h1 : F_check_setting [box, one] = .ok .none) : FE_law_8 (startD 2 [box, one]) = .err "InvalidNumber" := by
  show F_wheels_for [box, one, (.int 5), (.int 1)] = _
  unfold F_wheels_for B_wheels_for
  simp_arith [h, h1, find_0, find_1, n04, n54, n112, n0_12, n13, nT, nN, n14, check_three_num h h1 n54, check_three_good h h1 n14, x_call4, x_call5]
theorem number_9 {box one : D} (h : F_check_camera [box] = .ok .none) (h1 : F_check_setting [box, one] = .ok .none) : FE_law_9 (startD 2 [box, one]) = .err "InvalidNumber" := by
  show F_widest [box, one, (.str "aperture"), (.int 0)] = _
  unfold F_widest B_widest
  simp_arith [h, h1, find_0, find_1, n04, n54, n112, n0_12, n13, nT, nN, n14, check_three_num h h1 n54, check_three_good h h1 n14, x_call4, x_call5]
theorem number_10 {box one : D} (h : F_check_camera [box] = .ok .none) (h1 : F_check_setting [box, one] = .ok .none) : FE_law_10 (startD 2 [box, one]) = .err "InvalidNumber" := by
  show F_widest [box, one, (.str "aperture"), .none] = _
  unfold F_widest B_widest
  simp_arith [h, h1, find_0, find_1, n04, n54, n112, n0_12, n13, nT, nN, n14, check_three_num h h1 n54, check_three_good h h1 n14, x_call4, x_call5]
end Lw
namespace Lw
open PySem L2 PD PL
/-! ### the law's data -/
theorem y_asT2' {f : DEnv → Res D} {i j : Nat} {ρ : DEnv} {x y : D} (h : f ρ = .ok (.tuple [x, y])) : sAsg f [i, j] (hTup 2) ρ = .next ((ρ.set i (.d x)).set j (.d y)) := by
  unfold sAsg
  rw [h]
  rfl
theorem x_mkT8 (a b c d e f g h : D) : mkT [a, b, c, d, e, f, g, h] = .ok (.tuple [a, b, c, d, e, f, g, h]) := rfl
abbrev flt : D := .tuple [.int 0, .int 0, .int 1]
abbrev lat : D := .tuple [.tuple [.int 41, .int 41, .int 1], flt, flt]
abbrev nos : List D := [.none, .int 5, .tuple [flt, flt], .tuple [.tuple [.int 0, .int 13, .int 1], flt, flt], lat, .list [flt, flt, flt], .tuple [.tuple [.int 0, .int 0, .int 4], flt, flt], .tuple []]
abbrev bads (x y z : Int) : List D := [.none, .int 5, .tuple [.int x, .int y], .list [.int x, .int y, .int z], .tuple [.int 99, .int y, .int z], .tuple [.int x, .none, .int z], .tuple [.int x, .int y, .int z, .int 0], .tuple [.int (-1), .int y, .int z]]
abbrev lgts : List D := [.none, .int (-61), .int 121, .bool true, .str "5", .tuple [.int 5], .list [.int 5], .int (-99)]
theorem head_eq (ns : List Int) {c : Cam} (g : GoodC c) {p x y z : Int} (ec : F_law_box [.list (ns.map PyData.int), .int 0, .int 4] = .ok (cD c)) (ep : F_law_pick [.list (ns.map PyData.int), .int 20, .int 8] = .ok (.int p)) (et : gIx (.list ((tri c).map e3)) (.int 0) = .ok (i3 x y z)) {no bad light : D}
    (h1 : gIx (.tuple nos) (.int p) = .ok no) (h2 : gIx (.tuple (bads x y z)) (.int p) = .ok bad) (h3 : gIx (.tuple lgts) (.int p) = .ok light) :
    B_head (startD 13 [.list (ns.map PyData.int)]) = .next [.d (.list (ns.map PyData.int)), .d (cD c), .d (.int p), .d (i3 x y z), .d flt, .d lat, .d no, .d (.tuple [.int (-1), .int y, .int z]), .d bad, .d light, .un, .un, .un] := by
  unfold B_head
  rw [show startD 13 [PyData.list (ns.map PyData.int)] = [.d (.list (ns.map PyData.int)), .un, .un, .un, .un, .un, .un, .un, .un, .un, .un, .un, .un] from rfl]
  generalize ns.map PyData.int = sc at *
  rw [y_seq, y_asT2' (x := cD c) (y := .int p) (by simp_arith [ec, ep]), y_next, y_seq]
  simp only [set0, setS']
  rw [y_asT2' (x := i3 x y z) (y := flt) (by simp_arith [every_good g, tri_eq, et]), y_next]
  simp only [set0, setS']
  have r3 : gRep (.list [flt]) (.int 3) = .ok (.list [flt, flt, flt]) := rfl
  have h1' : gIx (.tuple [.none, .int 5, .tuple [flt, flt], .tuple [.tuple [.int 0, .int 13, .int 1], flt, flt], .tuple [.tuple [.int 41, .int 41, .int 1], flt, flt], .list [flt, flt, flt], .tuple [.tuple [.int 0, .int 0, .int 4], flt, flt], .tuple []]) (.int p) = .ok no := h1
  have h2' : gIx (.tuple [.none, .int 5, .tuple [.int x, .int y], .list [.int x, .int y, .int z], .tuple [.int 99, .int y, .int z], .tuple [.int x, .none, .int z], .tuple [.int x, .int y, .int z, .int 0], .tuple [.int (-1), .int y, .int z]]) (.int p) = .ok bad := h2
  have h3' : gIx (.tuple [.none, .int (-61), .int 121, .bool true, .str "5", .tuple [.int 5], .list [.int 5], .int (-99)]) (.int p) = .ok light := h3
  simp_arith [x_mkT8, r3, h1', h2', h3']
theorem last_none {c : Cam} (g : GoodC c) {x y z : Int} (hi : InS c x y z) : brD c x y z 1 4 12 = .none := by
  unfold brD
  rw [if_neg]
  intro h
  unfold okB at h
  rw [List.all_eq_true] at h
  have a := of_decide_eq_true (h 4 (mem_up.mpr (by decide)))
  have b := of_decide_eq_true (h (-4) (mem_up.mpr (by decide)))
  have rng : ∀ v, v ∈ wk c 1 → 0 ≤ v ∧ v ≤ 60 := fun v hv => by
    have := g.w2.s0
    have := g.w2.l0
    have := g.w2.m1
    obtain ⟨h1, h2, _⟩ := (mem_wv g.w2.m0 (by omega)).mp hv
    omega
  have a := rng _ a
  have b := rng _ b
  have e1 : shot 1 x y z 12 4 = y + 1 * (12 * 4) := rfl
  have e2 : shot 1 x y z 12 (-4) = y + 1 * (12 * (-4)) := rfl
  rw [e1] at a
  rw [e2] at b
  omega
theorem find_no {x : Str} (h1 : (SeqAt.shaped (.str x) && SeqAt.shaped (.tuple nmD)) = true) (h2 : inD (.str x) nmD = false) : F_find_wheel [.str x] = .err "InvalidWheel" := by
  have h : gIn true (.str x) (.tuple nmD) = .ok (.bool true) := by
    unfold gIn
    dsimp only
    rw [if_pos h1, h2]
    rfl
  unfold F_find_wheel B_find_wheel
  simp_arith [h]
theorem wheel_no : ∀ d ∈ NMS, F_find_wheel [d] = .err "InvalidWheel" := by
  unfold NMS
  exact List.forall_mem_cons.mpr ⟨rfl, List.forall_mem_cons.mpr ⟨find_no (by decide +kernel) (by decide +kernel), List.forall_mem_cons.mpr ⟨find_no (by decide +kernel) (by decide +kernel), List.forall_mem_cons.mpr ⟨find_no (by decide +kernel) (by decide +kernel), List.forall_mem_cons.mpr ⟨rfl, List.forall_mem_cons.mpr ⟨rfl, fun x hx => absurd hx List.not_mem_nil⟩⟩⟩⟩⟩⟩
theorem valB_non (ns : List Int) : valB ns .none = false := rfl
theorem valB_far {l m s v : Int} (g : GoodW l m s) (h : v < 0 ∨ 60 < v) : valB (wv l m s) (.int v) = false := valB_int fun z => by
  have := g.s0
  have := g.l0
  have := g.m1
  obtain ⟨h1, h2, _⟩ := (mem_wv g.m0 (by omega)).mp z
  omega
theorem bad_no {c : Cam} (g : GoodC c) (x y z : Int) : ∀ d ∈ bads x y z, F_has_setting [cD c, d] = .ok (.bool false) := by
  refine List.forall_mem_cons.mpr ⟨has_setting_no rfl, List.forall_mem_cons.mpr ⟨has_setting_no rfl, List.forall_mem_cons.mpr ⟨has_setting_len (by show 2 ≠ 3; decide), List.forall_mem_cons.mpr ⟨has_setting_no rfl, List.forall_mem_cons.mpr ⟨?_, List.forall_mem_cons.mpr ⟨?_, List.forall_mem_cons.mpr ⟨has_setting_len (by show 4 ≠ 3; decide), List.forall_mem_cons.mpr ⟨?_, fun x hx => absurd hx List.not_mem_nil⟩⟩⟩⟩⟩⟩⟩⟩
  · rw [has_setting_3 g, valB_far g.w1 (by decide)]
    rfl
  · rw [has_setting_3 g, valB_non, Bool.false_and, Bool.and_false]
  · rw [has_setting_3 g, valB_far g.w1 (by decide)]
    rfl
theorem no_no : ∀ d ∈ nos, F_is_camera [d] = .ok (.bool false) :=
  List.forall_mem_cons.mpr ⟨rfl, List.forall_mem_cons.mpr ⟨rfl, List.forall_mem_cons.mpr ⟨rfl, List.forall_mem_cons.mpr ⟨rfl, List.forall_mem_cons.mpr ⟨rfl, List.forall_mem_cons.mpr ⟨rfl, List.forall_mem_cons.mpr ⟨rfl, List.forall_mem_cons.mpr ⟨rfl, fun x hx => absurd hx List.not_mem_nil⟩⟩⟩⟩⟩⟩⟩⟩
theorem lgt_no : ∀ d ∈ lgts, isIntD d (-60) 120 = false :=
  List.forall_mem_cons.mpr ⟨rfl, List.forall_mem_cons.mpr ⟨rfl, List.forall_mem_cons.mpr ⟨rfl, List.forall_mem_cons.mpr ⟨rfl, List.forall_mem_cons.mpr ⟨rfl, List.forall_mem_cons.mpr ⟨rfl, List.forall_mem_cons.mpr ⟨rfl, List.forall_mem_cons.mpr ⟨rfl, fun x hx => absurd hx List.not_mem_nil⟩⟩⟩⟩⟩⟩⟩⟩
theorem ix8 (ds : List D) (hl : ds.length = 8) {p : Int} (h0 : 0 ≤ p) (h1 : p < 8) : ∃ d ∈ ds, gIx (.tuple ds) (.int p) = .ok d := by
  match ds, hl with
  | [a, b, c, d, e, f, g, h], _ =>
  have hp : p = 0 ∨ p = 1 ∨ p = 2 ∨ p = 3 ∨ p = 4 ∨ p = 5 ∨ p = 6 ∨ p = 7 := by omega
  rcases hp with rfl | rfl | rfl | rfl | rfl | rfl | rfl | rfl
  · exact ⟨a, by simp, rfl⟩
  · exact ⟨b, by simp, rfl⟩
  · exact ⟨c, by simp, rfl⟩
  · exact ⟨d, by simp, rfl⟩
  · exact ⟨e, by simp, rfl⟩
  · exact ⟨f, by simp, rfl⟩
  · exact ⟨g, by simp, rfl⟩
  · exact ⟨h, by simp, rfl⟩
theorem law_math : LawMath := fun ns hl => by
  obtain ⟨c, g, hb, ec⟩ := box_ok2 ns hl 0 4 (by decide) (by decide) (by decide) (by decide)
  obtain ⟨p, ep, p0, p1⟩ := pick_ok ns hl 20 8 (by decide) (by decide) (by decide)
  have hp := tri_pos g
  obtain ⟨⟨x, y, z⟩, et, hi⟩ := ix_tri (c := c) (p := 0) (by decide) (by omega)
  have hi : InS c x y z := hi
  obtain ⟨no, n1, n2⟩ := ix8 nos rfl p0 p1
  obtain ⟨bad, b1, b2⟩ := ix8 (bads x y z) rfl p0 p1
  obtain ⟨light, l1, l2⟩ := ix8 lgts rfl p0 p1
  have hC := check_camera_good g
  have hO : F_check_setting [cD c, i3 x y z] = .ok .none := check_setting_3 g (inS_val hi)
  refine ⟨cD c, .int p, i3 x y z, flt, lat, no, .tuple [.int (-1), .int y, .int z], bad, light, head_eq ns g ec ep et n2 b2 l2, bad_cams (check_camera_bad (no_no no n1)), bad_sets hC hO (check_setting_bad (bad_no g x y z bad b1)), bad_lits hC hO (check_light_bad (lgt_no light l1)), fun d hd => ⟨wheel_0 hC hO (wheel_no d hd), wheel_1 hC hO (wheel_no d hd), wheel_2 hC hO (wheel_no d hd)⟩, ⟨number_3 hC hO, number_4 hC hO, number_5 hC hO, number_6 hC hO, number_7 hC hO, number_8 hC hO, number_9 hC hO, number_10 hC hO⟩, ?_⟩
  unfold F_last
  have eb : F_bracket [cD c, i3 x y z, .str "time", .int 4, .int 12] = .ok .none := by
    have := bracket_eq g hi (k := 1) (by decide) (many := 4) (width := 12) (by decide) (by decide) (by decide) (by decide)
    rw [last_none g hi] at this
    exact this
  simp_arith [x_call5, eb]
  rfl
end Lw
namespace Lw
open PySem L2 PD PL LamX NdefX
def topS (i : Nat) : Stmt := PySem.Challenge.pw_lightsteps_k26_errors.main.body.getD i (.Pass ⟨0, 0, 0, 0⟩)
abbrev s_is_int : Stmt := topS 16
abbrev N_is_int : List Str := ["value", "least", "most"]
theorem sc_is_int : FnScope N_is_int ["value", "least", "most"] (defScope s_is_int) := ⟨rfl, rfl, rfl, by decide +kernel, rfl, by decide +kernel, by decide +kernel⟩
abbrev s_is_wheel : Stmt := topS 17
abbrev N_is_wheel : List Str := ["value", "least", "most", "step"]
theorem sc_is_wheel : FnScope N_is_wheel ["value"] (defScope s_is_wheel) := ⟨rfl, rfl, rfl, by decide +kernel, rfl, by decide +kernel, by decide +kernel⟩
abbrev s_is_camera : Stmt := topS 18
abbrev N_is_camera : List Str := ["candidate", "wheel"]
theorem sc_is_camera : FnScope N_is_camera ["candidate"] (defScope s_is_camera) := ⟨rfl, rfl, rfl, by decide +kernel, rfl, by decide +kernel, by decide +kernel⟩
abbrev s_wheel_values : Stmt := topS 19
abbrev N_wheel_values : List Str := ["wheel", "least", "most", "step"]
theorem sc_wheel_values : FnScope N_wheel_values ["wheel"] (defScope s_wheel_values) := ⟨rfl, rfl, rfl, by decide +kernel, rfl, by decide +kernel, by decide +kernel⟩
abbrev s_has_setting : Stmt := topS 20
abbrev N_has_setting : List Str := ["camera", "candidate", "known", "value", "wheel"]
theorem sc_has_setting : FnScope N_has_setting ["camera", "candidate"] (defScope s_has_setting) := ⟨rfl, rfl, rfl, by decide +kernel, rfl, by decide +kernel, by decide +kernel⟩
abbrev s_check_camera : Stmt := topS 21
abbrev N_check_camera : List Str := ["value"]
theorem sc_check_camera : FnScope N_check_camera ["value"] (defScope s_check_camera) := ⟨rfl, rfl, rfl, by decide +kernel, rfl, by decide +kernel, by decide +kernel⟩
abbrev s_check_setting : Stmt := topS 22
abbrev N_check_setting : List Str := ["camera", "value"]
theorem sc_check_setting : FnScope N_check_setting ["camera", "value"] (defScope s_check_setting) := ⟨rfl, rfl, rfl, by decide +kernel, rfl, by decide +kernel, by decide +kernel⟩
abbrev s_check_light : Stmt := topS 23
abbrev N_check_light : List Str := ["value"]
theorem sc_check_light : FnScope N_check_light ["value"] (defScope s_check_light) := ⟨rfl, rfl, rfl, by decide +kernel, rfl, by decide +kernel, by decide +kernel⟩
abbrev s_find_wheel : Stmt := topS 24
abbrev N_find_wheel : List Str := ["value"]
theorem sc_find_wheel : FnScope N_find_wheel ["value"] (defScope s_find_wheel) := ⟨rfl, rfl, rfl, by decide +kernel, rfl, by decide +kernel, by decide +kernel⟩
abbrev s_is_setting : Stmt := topS 25
abbrev N_is_setting : List Str := ["camera", "candidate"]
theorem sc_is_setting : FnScope N_is_setting ["camera", "candidate"] (defScope s_is_setting) := ⟨rfl, rfl, rfl, by decide +kernel, rfl, by decide +kernel, by decide +kernel⟩
abbrev s_values : Stmt := topS 26
abbrev N_values : List Str := ["camera", "wheel"]
theorem sc_values : FnScope N_values ["camera", "wheel"] (defScope s_values) := ⟨rfl, rfl, rfl, by decide +kernel, rfl, by decide +kernel, by decide +kernel⟩
abbrev s_count_settings : Stmt := topS 28
abbrev N_count_settings : List Str := ["camera"]
theorem sc_count_settings : FnScope N_count_settings ["camera"] (defScope s_count_settings) := ⟨rfl, rfl, rfl, by decide +kernel, rfl, by decide +kernel, by decide +kernel⟩
abbrev s_exposure : Stmt := topS 30
abbrev N_exposure : List Str := ["camera", "setting"]
theorem sc_exposure : FnScope N_exposure ["camera", "setting"] (defScope s_exposure) := ⟨rfl, rfl, rfl, by decide +kernel, rfl, by decide +kernel, by decide +kernel⟩
abbrev s_error : Stmt := topS 31
abbrev N_error : List Str := ["camera", "setting", "brightness"]
theorem sc_error : FnScope N_error ["camera", "setting", "brightness"] (defScope s_error) := ⟨rfl, rfl, rfl, by decide +kernel, rfl, by decide +kernel, by decide +kernel⟩
abbrev s_check_both : Stmt := topS 34
abbrev N_check_both : List Str := ["camera", "brightness"]
theorem sc_check_both : FnScope N_check_both ["camera", "brightness"] (defScope s_check_both) := ⟨rfl, rfl, rfl, by decide +kernel, rfl, by decide +kernel, by decide +kernel⟩
abbrev s_right_settings : Stmt := topS 35
abbrev N_right_settings : List Str := ["camera", "brightness"]
theorem sc_right_settings : FnScope N_right_settings ["camera", "brightness"] (defScope s_right_settings) := ⟨rfl, rfl, rfl, by decide +kernel, rfl, by decide +kernel, by decide +kernel⟩
abbrev s_count_right : Stmt := topS 36
abbrev N_count_right : List Str := ["camera", "brightness"]
theorem sc_count_right : FnScope N_count_right ["camera", "brightness"] (defScope s_count_right) := ⟨rfl, rfl, rfl, by decide +kernel, rfl, by decide +kernel, by decide +kernel⟩
abbrev s_reach : Stmt := topS 39
abbrev N_reach : List Str := ["camera"]
theorem sc_reach : FnScope N_reach ["camera"] (defScope s_reach) := ⟨rfl, rfl, rfl, by decide +kernel, rfl, by decide +kernel, by decide +kernel⟩
abbrev s_reachable : Stmt := topS 40
abbrev N_reachable : List Str := ["camera"]
theorem sc_reachable : FnScope N_reachable ["camera"] (defScope s_reachable) := ⟨rfl, rfl, rfl, by decide +kernel, rfl, by decide +kernel, by decide +kernel⟩
abbrev s_commonest : Stmt := topS 41
abbrev N_commonest : List Str := ["camera", "known", "number"]
theorem sc_commonest : FnScope N_commonest ["camera"] (defScope s_commonest) := ⟨rfl, rfl, rfl, by decide +kernel, rfl, by decide +kernel, by decide +kernel⟩
abbrev s_gaps : Stmt := topS 43
abbrev N_gaps : List Str := ["camera", "known", "number"]
theorem sc_gaps : FnScope N_gaps ["camera"] (defScope s_gaps) := ⟨rfl, rfl, rfl, by decide +kernel, rfl, by decide +kernel, by decide +kernel⟩
abbrev s_least_error : Stmt := topS 45
abbrev N_least_error : List Str := ["camera", "brightness"]
theorem sc_least_error : FnScope N_least_error ["camera", "brightness"] (defScope s_least_error) := ⟨rfl, rfl, rfl, by decide +kernel, rfl, by decide +kernel, by decide +kernel⟩
abbrev s_nearest_settings : Stmt := topS 46
abbrev N_nearest_settings : List Str := ["camera", "brightness", "least", "setting"]
theorem sc_nearest_settings : FnScope N_nearest_settings ["camera", "brightness"] (defScope s_nearest_settings) := ⟨rfl, rfl, rfl, by decide +kernel, rfl, by decide +kernel, by decide +kernel⟩
abbrev s_worst_brightness : Stmt := topS 47
abbrev N_worst_brightness : List Str := ["camera", "known", "least", "most", "number"]
theorem sc_worst_brightness : FnScope N_worst_brightness ["camera"] (defScope s_worst_brightness) := ⟨rfl, rfl, rfl, by decide +kernel, rfl, by decide +kernel, by decide +kernel⟩
abbrev s_check_number : Stmt := topS 51
abbrev N_check_number : List Str := ["value", "most"]
theorem sc_check_number : FnScope N_check_number ["value", "most"] (defScope s_check_number) := ⟨rfl, rfl, rfl, by decide +kernel, rfl, by decide +kernel, by decide +kernel⟩
abbrev s_with_error : Stmt := topS 52
abbrev N_with_error : List Str := ["setting", "place", "number", "changed"]
theorem sc_with_error : FnScope N_with_error ["setting", "place", "number"] (defScope s_with_error) := ⟨rfl, rfl, rfl, by decide +kernel, rfl, by decide +kernel, by decide +kernel⟩
abbrev s_find_bracket : Stmt := topS 53
abbrev N_find_bracket : List Str := ["camera", "setting", "place", "many", "width", "found", "known", "number", "other"]
theorem sc_find_bracket : FnScope N_find_bracket ["camera", "setting", "place", "many", "width"] (defScope s_find_bracket) := ⟨rfl, rfl, rfl, by decide +kernel, rfl, by decide +kernel, by decide +kernel⟩
abbrev s_check_three : Stmt := topS 54
abbrev N_check_three : List Str := ["camera", "setting", "many"]
theorem sc_check_three : FnScope N_check_three ["camera", "setting", "many"] (defScope s_check_three) := ⟨rfl, rfl, rfl, by decide +kernel, rfl, by decide +kernel, by decide +kernel⟩
abbrev s_bracket : Stmt := topS 55
abbrev N_bracket : List Str := ["camera", "setting", "wheel", "many", "width", "place"]
theorem sc_bracket : FnScope N_bracket ["camera", "setting", "wheel", "many", "width"] (defScope s_bracket) := ⟨rfl, rfl, rfl, by decide +kernel, rfl, by decide +kernel, by decide +kernel⟩
abbrev s_wheels_for : Stmt := topS 56
abbrev N_wheels_for : List Str := ["camera", "setting", "many", "width", "places", "place"]
theorem sc_wheels_for : FnScope N_wheels_for ["camera", "setting", "many", "width"] (defScope s_wheels_for) := ⟨rfl, rfl, rfl, by decide +kernel, rfl, by decide +kernel, by decide +kernel⟩
abbrev s_widest : Stmt := topS 57
abbrev N_widest : List Str := ["camera", "setting", "wheel", "many", "place", "widths", "width"]
theorem sc_widest : FnScope N_widest ["camera", "setting", "wheel", "many"] (defScope s_widest) := ⟨rfl, rfl, rfl, by decide +kernel, rfl, by decide +kernel, by decide +kernel⟩
abbrev s_clicks : Stmt := topS 60
abbrev N_clicks : List Str := ["camera", "one", "other"]
theorem sc_clicks : FnScope N_clicks ["camera", "one", "other"] (defScope s_clicks) := ⟨rfl, rfl, rfl, by decide +kernel, rfl, by decide +kernel, by decide +kernel⟩
abbrev s_find_nearest : Stmt := topS 61
abbrev N_find_nearest : List Str := ["camera", "setting", "brightness", "found", "other"]
theorem sc_find_nearest : FnScope N_find_nearest ["camera", "setting", "brightness"] (defScope s_find_nearest) := ⟨rfl, rfl, rfl, by decide +kernel, rfl, by decide +kernel, by decide +kernel⟩
abbrev s_fewest_clicks : Stmt := topS 62
abbrev N_fewest_clicks : List Str := ["camera", "setting", "brightness", "found"]
theorem sc_fewest_clicks : FnScope N_fewest_clicks ["camera", "setting", "brightness"] (defScope s_fewest_clicks) := ⟨rfl, rfl, rfl, by decide +kernel, rfl, by decide +kernel, by decide +kernel⟩
abbrev s_nearest_right : Stmt := topS 63
abbrev N_nearest_right : List Str := ["camera", "setting", "brightness", "found"]
theorem sc_nearest_right : FnScope N_nearest_right ["camera", "setting", "brightness"] (defScope s_nearest_right) := ⟨rfl, rfl, rfl, by decide +kernel, rfl, by decide +kernel, by decide +kernel⟩
abbrev s_farthest : Stmt := topS 64
abbrev N_farthest : List Str := ["camera", "brightness", "known", "best", "found", "one", "other", "many"]
theorem sc_farthest : FnScope N_farthest ["camera", "brightness"] (defScope s_farthest) := ⟨rfl, rfl, rfl, by decide +kernel, rfl, by decide +kernel, by decide +kernel⟩
abbrev s_shifts : Stmt := topS 68
abbrev N_shifts : List Str := ["camera", "setting"]
theorem sc_shifts : FnScope N_shifts ["camera", "setting"] (defScope s_shifts) := ⟨rfl, rfl, rfl, by decide +kernel, rfl, by decide +kernel, by decide +kernel⟩
abbrev s_fewest_shifts : Stmt := topS 70
abbrev N_fewest_shifts : List Str := ["camera", "one", "other"]
theorem sc_fewest_shifts : FnScope N_fewest_shifts ["camera", "one", "other"] (defScope s_fewest_shifts) := ⟨rfl, rfl, rfl, by decide +kernel, rfl, by decide +kernel, by decide +kernel⟩
abbrev s_shift_groups : Stmt := topS 71
abbrev N_shift_groups : List Str := ["camera", "brightness", "known", "found", "seen", "setting", "group", "other"]
theorem sc_shift_groups : FnScope N_shift_groups ["camera", "brightness"] (defScope s_shift_groups) := ⟨rfl, rfl, rfl, by decide +kernel, rfl, by decide +kernel, by decide +kernel⟩
abbrev s_law_pick : Stmt := topS 73
abbrev N_law_pick : List Str := ["script", "k", "many", "cell", "rest", "again", "drawn"]
theorem sc_law_pick : FnScope N_law_pick ["script", "k", "many"] (defScope s_law_pick) := ⟨rfl, rfl, rfl, by decide +kernel, rfl, by decide +kernel, by decide +kernel⟩
abbrev s_law_box : Stmt := topS 74
abbrev N_law_box : List Str := ["script", "at", "most", "found", "k", "least", "step", "many", "rest"]
theorem sc_law_box : FnScope N_law_box ["script", "at", "most"] (defScope s_law_box) := ⟨rfl, rfl, rfl, by decide +kernel, rfl, by decide +kernel, by decide +kernel⟩
abbrev s_law_every : Stmt := topS 75
abbrev N_law_every : List Str := ["box", "found", "least", "most", "step", "longer", "begun", "k"]
theorem sc_law_every : FnScope N_law_every ["box"] (defScope s_law_every) := ⟨rfl, rfl, rfl, by decide +kernel, rfl, by decide +kernel, by decide +kernel⟩
abbrev s_law_class : Stmt := topS 76
abbrev N_law_class : List Str := ["fault", "kinds", "names"]
theorem sc_law_class : FnScope N_law_class ["fault"] (defScope s_law_class) := ⟨rfl, rfl, rfl, by decide +kernel, rfl, by decide +kernel, by decide +kernel⟩
abbrev s_law_result : Stmt := topS 77
abbrev N_law_result : List Str := ["call", "fault"]
theorem sc_law_result : FnScope N_law_result ["call"] (defScope s_law_result) := ⟨rfl, rfl, rfl, by decide +kernel, rfl, by decide +kernel, by decide +kernel⟩
abbrev s_law_all : Stmt := topS 78
abbrev N_law_all : List Str := ["calls", "name", "call"]
theorem sc_law_all : FnScope N_law_all ["calls", "name"] (defScope s_law_all) := ⟨rfl, rfl, rfl, by decide +kernel, rfl, by decide +kernel, by decide +kernel⟩
abbrev s_law_cameras : Stmt := topS 79
abbrev N_law_cameras : List Str := ["no", "calls"]
theorem sc_law_cameras : FnScope N_law_cameras ["no"] (defScope s_law_cameras) := ⟨rfl, rfl, rfl, by decide +kernel, rfl, by decide +kernel, by decide +kernel⟩
abbrev s_law_set : Stmt := topS 80
abbrev N_law_set : List Str := ["box", "one", "no", "calls"]
theorem sc_law_set : FnScope N_law_set ["box", "one", "no"] (defScope s_law_set) := ⟨rfl, rfl, rfl, by decide +kernel, rfl, by decide +kernel, by decide +kernel⟩
abbrev s_law_lit : Stmt := topS 81
abbrev N_law_lit : List Str := ["box", "one", "no", "calls"]
theorem sc_law_lit : FnScope N_law_lit ["box", "one", "no"] (defScope s_law_lit) := ⟨rfl, rfl, rfl, by decide +kernel, rfl, by decide +kernel, by decide +kernel⟩
abbrev s_law : Stmt := topS 82
abbrev N_law : List Str := ["script", "box", "at", "one", "flat", "late", "no", "low", "bad", "light", "name", "calls", "numbers"]
theorem sc_law : FnScope N_law ["script"] (defScope s_law) := ⟨rfl, rfl, rfl, by decide +kernel, rfl, by decide +kernel, by decide +kernel⟩
structure Ad where
  f_law_class : Addr
  fd_law_class : FuncData
  f_law_result : Addr
  fd_law_result : FuncData
  f_law_all : Addr
  fd_law_all : FuncData
  f_law_cameras : Addr
  fd_law_cameras : FuncData
  cc_law_cameras : Addr
  pt_law_cameras : Addr
  f_law_set : Addr
  fd_law_set : FuncData
  cc_law_set : Addr
  pt_law_set : Addr
  f_law_lit : Addr
  fd_law_lit : FuncData
  cc_law_lit : Addr
  pt_law_lit : Addr
  f_law : Addr
  fd_law : FuncData
  cc_law : Addr
  pt_law : Addr
  f_is_int : Addr
  fd_is_int : FuncData
  f_is_wheel : Addr
  fd_is_wheel : FuncData
  f_is_camera : Addr
  fd_is_camera : FuncData
  f_wheel_values : Addr
  fd_wheel_values : FuncData
  f_has_setting : Addr
  fd_has_setting : FuncData
  f_check_camera : Addr
  fd_check_camera : FuncData
  f_check_setting : Addr
  fd_check_setting : FuncData
  f_check_light : Addr
  fd_check_light : FuncData
  f_find_wheel : Addr
  fd_find_wheel : FuncData
  f_is_setting : Addr
  fd_is_setting : FuncData
  f_values : Addr
  fd_values : FuncData
  f_count_settings : Addr
  fd_count_settings : FuncData
  f_exposure : Addr
  fd_exposure : FuncData
  f_error : Addr
  fd_error : FuncData
  f_check_both : Addr
  fd_check_both : FuncData
  f_right_settings : Addr
  fd_right_settings : FuncData
  f_count_right : Addr
  fd_count_right : FuncData
  f_reach : Addr
  fd_reach : FuncData
  f_reachable : Addr
  fd_reachable : FuncData
  f_commonest : Addr
  fd_commonest : FuncData
  f_gaps : Addr
  fd_gaps : FuncData
  f_least_error : Addr
  fd_least_error : FuncData
  f_nearest_settings : Addr
  fd_nearest_settings : FuncData
  f_worst_brightness : Addr
  fd_worst_brightness : FuncData
  f_check_number : Addr
  fd_check_number : FuncData
  f_with_error : Addr
  fd_with_error : FuncData
  f_find_bracket : Addr
  fd_find_bracket : FuncData
  f_check_three : Addr
  fd_check_three : FuncData
  f_bracket : Addr
  fd_bracket : FuncData
  f_wheels_for : Addr
  fd_wheels_for : FuncData
  f_widest : Addr
  fd_widest : FuncData
  f_clicks : Addr
  fd_clicks : FuncData
  f_find_nearest : Addr
  fd_find_nearest : FuncData
  f_fewest_clicks : Addr
  fd_fewest_clicks : FuncData
  f_nearest_right : Addr
  fd_nearest_right : FuncData
  f_farthest : Addr
  fd_farthest : FuncData
  f_shifts : Addr
  fd_shifts : FuncData
  f_fewest_shifts : Addr
  fd_fewest_shifts : FuncData
  f_shift_groups : Addr
  fd_shift_groups : FuncData
  f_law_pick : Addr
  fd_law_pick : FuncData
  f_law_box : Addr
  fd_law_box : FuncData
  f_law_every : Addr
  fd_law_every : FuncData
  C_InvalidBrightness : Addr
  C_InvalidCamera : Addr
  C_InvalidNumber : Addr
  C_InvalidSetting : Addr
  C_InvalidWheel : Addr
  C_LightError : Addr
  a_NAMES : Addr
  a_SIGNS : Addr
structure Txt (K : PySem.W.Frag) (mg : Str → Option Value) (a : Ad) : Prop where
  F_law_class : Fun K "_law_class" "_law_class" s_law_class a.f_law_class a.fd_law_class
  b_law_class : Binds K a.fd_law_class ["fault"] []
  g_law_class : mg "_law_class" = some (.ref a.f_law_class)
  F_law_result : Fun K "_law_result" "_law_result" s_law_result a.f_law_result a.fd_law_result
  b_law_result : Binds K a.fd_law_result ["call"] []
  g_law_result : mg "_law_result" = some (.ref a.f_law_result)
  F_law_all : Fun K "_law_all" "_law_all" s_law_all a.f_law_all a.fd_law_all
  b_law_all : Binds K a.fd_law_all ["calls", "name"] []
  g_law_all : mg "_law_all" = some (.ref a.f_law_all)
  F_law_cameras : FunC K "_law_cameras" "_law_cameras" s_law_cameras a.f_law_cameras a.fd_law_cameras a.cc_law_cameras
  b_law_cameras : Binds K a.fd_law_cameras ["no"] []
  g_law_cameras : mg "_law_cameras" = some (.ref a.f_law_cameras)
  F_law_set : FunC K "_law_set" "_law_set" s_law_set a.f_law_set a.fd_law_set a.cc_law_set
  b_law_set : Binds K a.fd_law_set ["box", "one", "no"] []
  g_law_set : mg "_law_set" = some (.ref a.f_law_set)
  F_law_lit : FunC K "_law_lit" "_law_lit" s_law_lit a.f_law_lit a.fd_law_lit a.cc_law_lit
  b_law_lit : Binds K a.fd_law_lit ["box", "one", "no"] []
  g_law_lit : mg "_law_lit" = some (.ref a.f_law_lit)
  F_law : FunC K "law" "law" s_law a.f_law a.fd_law a.cc_law
  b_law : Binds K a.fd_law ["script"] []
  g_law : mg "law" = some (.ref a.f_law)
  ne_law_cameras_law_set : a.pt_law_cameras ≠ a.pt_law_set
  ne_law_cameras_law_lit : a.pt_law_cameras ≠ a.pt_law_lit
  ne_law_cameras_law : a.pt_law_cameras ≠ a.pt_law
  ne_law_set_law_lit : a.pt_law_set ≠ a.pt_law_lit
  ne_law_set_law : a.pt_law_set ≠ a.pt_law
  ne_law_lit_law : a.pt_law_lit ≠ a.pt_law
  kv_InvalidCamera : PySem.W.kitOne K (.ref a.C_InvalidCamera) (.type "ValueError") = some true
  kv_InvalidSetting : PySem.W.kitOne K (.ref a.C_InvalidSetting) (.type "ValueError") = some true
  kv_InvalidWheel : PySem.W.kitOne K (.ref a.C_InvalidWheel) (.type "ValueError") = some true
  kv_InvalidBrightness : PySem.W.kitOne K (.ref a.C_InvalidBrightness) (.type "ValueError") = some true
  kv_InvalidNumber : PySem.W.kitOne K (.ref a.C_InvalidNumber) (.type "ValueError") = some true
  F_is_int : Fun K "is_int" "is_int" s_is_int a.f_is_int a.fd_is_int
  b_is_int : Binds K a.fd_is_int ["value", "least", "most"] []
  g_is_int : mg "is_int" = some (.ref a.f_is_int)
  F_is_wheel : Fun K "is_wheel" "is_wheel" s_is_wheel a.f_is_wheel a.fd_is_wheel
  b_is_wheel : Binds K a.fd_is_wheel ["value"] []
  g_is_wheel : mg "is_wheel" = some (.ref a.f_is_wheel)
  F_is_camera : Fun K "is_camera" "is_camera" s_is_camera a.f_is_camera a.fd_is_camera
  b_is_camera : Binds K a.fd_is_camera ["candidate"] []
  g_is_camera : mg "is_camera" = some (.ref a.f_is_camera)
  F_wheel_values : Fun K "wheel_values" "wheel_values" s_wheel_values a.f_wheel_values a.fd_wheel_values
  b_wheel_values : Binds K a.fd_wheel_values ["wheel"] []
  g_wheel_values : mg "wheel_values" = some (.ref a.f_wheel_values)
  F_has_setting : Fun K "has_setting" "has_setting" s_has_setting a.f_has_setting a.fd_has_setting
  b_has_setting : Binds K a.fd_has_setting ["camera", "candidate"] []
  g_has_setting : mg "has_setting" = some (.ref a.f_has_setting)
  F_check_camera : Fun K "check_camera" "check_camera" s_check_camera a.f_check_camera a.fd_check_camera
  b_check_camera : Binds K a.fd_check_camera ["value"] []
  g_check_camera : mg "check_camera" = some (.ref a.f_check_camera)
  F_check_setting : Fun K "check_setting" "check_setting" s_check_setting a.f_check_setting a.fd_check_setting
  b_check_setting : Binds K a.fd_check_setting ["camera", "value"] []
  g_check_setting : mg "check_setting" = some (.ref a.f_check_setting)
  F_check_light : Fun K "check_light" "check_light" s_check_light a.f_check_light a.fd_check_light
  b_check_light : Binds K a.fd_check_light ["value"] []
  g_check_light : mg "check_light" = some (.ref a.f_check_light)
  F_find_wheel : Fun K "find_wheel" "find_wheel" s_find_wheel a.f_find_wheel a.fd_find_wheel
  b_find_wheel : Binds K a.fd_find_wheel ["value"] []
  g_find_wheel : mg "find_wheel" = some (.ref a.f_find_wheel)
  F_is_setting : Fun K "is_setting" "is_setting" s_is_setting a.f_is_setting a.fd_is_setting
  b_is_setting : Binds K a.fd_is_setting ["camera", "candidate"] []
  g_is_setting : mg "is_setting" = some (.ref a.f_is_setting)
  F_values : Fun K "values" "values" s_values a.f_values a.fd_values
  b_values : Binds K a.fd_values ["camera", "wheel"] []
  g_values : mg "values" = some (.ref a.f_values)
  F_count_settings : Fun K "count_settings" "count_settings" s_count_settings a.f_count_settings a.fd_count_settings
  b_count_settings : Binds K a.fd_count_settings ["camera"] []
  g_count_settings : mg "count_settings" = some (.ref a.f_count_settings)
  F_exposure : Fun K "exposure" "exposure" s_exposure a.f_exposure a.fd_exposure
  b_exposure : Binds K a.fd_exposure ["camera", "setting"] []
  g_exposure : mg "exposure" = some (.ref a.f_exposure)
  F_error : Fun K "error" "error" s_error a.f_error a.fd_error
  b_error : Binds K a.fd_error ["camera", "setting", "brightness"] []
  g_error : mg "error" = some (.ref a.f_error)
  F_check_both : Fun K "check_both" "check_both" s_check_both a.f_check_both a.fd_check_both
  b_check_both : Binds K a.fd_check_both ["camera", "brightness"] []
  g_check_both : mg "check_both" = some (.ref a.f_check_both)
  F_right_settings : Fun K "right_settings" "right_settings" s_right_settings a.f_right_settings a.fd_right_settings
  b_right_settings : Binds K a.fd_right_settings ["camera", "brightness"] []
  g_right_settings : mg "right_settings" = some (.ref a.f_right_settings)
  F_count_right : Fun K "count_right" "count_right" s_count_right a.f_count_right a.fd_count_right
  b_count_right : Binds K a.fd_count_right ["camera", "brightness"] []
  g_count_right : mg "count_right" = some (.ref a.f_count_right)
  F_reach : Fun K "reach" "reach" s_reach a.f_reach a.fd_reach
  b_reach : Binds K a.fd_reach ["camera"] []
  g_reach : mg "reach" = some (.ref a.f_reach)
  F_reachable : Fun K "reachable" "reachable" s_reachable a.f_reachable a.fd_reachable
  b_reachable : Binds K a.fd_reachable ["camera"] []
  g_reachable : mg "reachable" = some (.ref a.f_reachable)
  F_commonest : Fun K "commonest" "commonest" s_commonest a.f_commonest a.fd_commonest
  b_commonest : Binds K a.fd_commonest ["camera"] []
  g_commonest : mg "commonest" = some (.ref a.f_commonest)
  F_gaps : Fun K "gaps" "gaps" s_gaps a.f_gaps a.fd_gaps
  b_gaps : Binds K a.fd_gaps ["camera"] []
  g_gaps : mg "gaps" = some (.ref a.f_gaps)
  F_least_error : Fun K "least_error" "least_error" s_least_error a.f_least_error a.fd_least_error
  b_least_error : Binds K a.fd_least_error ["camera", "brightness"] []
  g_least_error : mg "least_error" = some (.ref a.f_least_error)
  F_nearest_settings : Fun K "nearest_settings" "nearest_settings" s_nearest_settings a.f_nearest_settings a.fd_nearest_settings
  b_nearest_settings : Binds K a.fd_nearest_settings ["camera", "brightness"] []
  g_nearest_settings : mg "nearest_settings" = some (.ref a.f_nearest_settings)
  F_worst_brightness : Fun K "worst_brightness" "worst_brightness" s_worst_brightness a.f_worst_brightness a.fd_worst_brightness
  b_worst_brightness : Binds K a.fd_worst_brightness ["camera"] []
  g_worst_brightness : mg "worst_brightness" = some (.ref a.f_worst_brightness)
  F_check_number : Fun K "check_number" "check_number" s_check_number a.f_check_number a.fd_check_number
  b_check_number : Binds K a.fd_check_number ["value", "most"] []
  g_check_number : mg "check_number" = some (.ref a.f_check_number)
  F_with_error : Fun K "with_error" "with_error" s_with_error a.f_with_error a.fd_with_error
  b_with_error : Binds K a.fd_with_error ["setting", "place", "number"] []
  g_with_error : mg "with_error" = some (.ref a.f_with_error)
  F_find_bracket : Fun K "find_bracket" "find_bracket" s_find_bracket a.f_find_bracket a.fd_find_bracket
  b_find_bracket : Binds K a.fd_find_bracket ["camera", "setting", "place", "many", "width"] []
  g_find_bracket : mg "find_bracket" = some (.ref a.f_find_bracket)
  F_check_three : Fun K "check_three" "check_three" s_check_three a.f_check_three a.fd_check_three
  b_check_three : Binds K a.fd_check_three ["camera", "setting", "many"] []
  g_check_three : mg "check_three" = some (.ref a.f_check_three)
  F_bracket : Fun K "bracket" "bracket" s_bracket a.f_bracket a.fd_bracket
  b_bracket : Binds K a.fd_bracket ["camera", "setting", "wheel", "many", "width"] []
  g_bracket : mg "bracket" = some (.ref a.f_bracket)
  F_wheels_for : Fun K "wheels_for" "wheels_for" s_wheels_for a.f_wheels_for a.fd_wheels_for
  b_wheels_for : Binds K a.fd_wheels_for ["camera", "setting", "many", "width"] []
  g_wheels_for : mg "wheels_for" = some (.ref a.f_wheels_for)
  F_widest : Fun K "widest" "widest" s_widest a.f_widest a.fd_widest
  b_widest : Binds K a.fd_widest ["camera", "setting", "wheel", "many"] []
  g_widest : mg "widest" = some (.ref a.f_widest)
  F_clicks : Fun K "clicks" "clicks" s_clicks a.f_clicks a.fd_clicks
  b_clicks : Binds K a.fd_clicks ["camera", "one", "other"] []
  g_clicks : mg "clicks" = some (.ref a.f_clicks)
  F_find_nearest : Fun K "find_nearest" "find_nearest" s_find_nearest a.f_find_nearest a.fd_find_nearest
  b_find_nearest : Binds K a.fd_find_nearest ["camera", "setting", "brightness"] []
  g_find_nearest : mg "find_nearest" = some (.ref a.f_find_nearest)
  F_fewest_clicks : Fun K "fewest_clicks" "fewest_clicks" s_fewest_clicks a.f_fewest_clicks a.fd_fewest_clicks
  b_fewest_clicks : Binds K a.fd_fewest_clicks ["camera", "setting", "brightness"] []
  g_fewest_clicks : mg "fewest_clicks" = some (.ref a.f_fewest_clicks)
  F_nearest_right : Fun K "nearest_right" "nearest_right" s_nearest_right a.f_nearest_right a.fd_nearest_right
  b_nearest_right : Binds K a.fd_nearest_right ["camera", "setting", "brightness"] []
  g_nearest_right : mg "nearest_right" = some (.ref a.f_nearest_right)
  F_farthest : Fun K "farthest" "farthest" s_farthest a.f_farthest a.fd_farthest
  b_farthest : Binds K a.fd_farthest ["camera", "brightness"] []
  g_farthest : mg "farthest" = some (.ref a.f_farthest)
  F_shifts : Fun K "shifts" "shifts" s_shifts a.f_shifts a.fd_shifts
  b_shifts : Binds K a.fd_shifts ["camera", "setting"] []
  g_shifts : mg "shifts" = some (.ref a.f_shifts)
  F_fewest_shifts : Fun K "fewest_shifts" "fewest_shifts" s_fewest_shifts a.f_fewest_shifts a.fd_fewest_shifts
  b_fewest_shifts : Binds K a.fd_fewest_shifts ["camera", "one", "other"] []
  g_fewest_shifts : mg "fewest_shifts" = some (.ref a.f_fewest_shifts)
  F_shift_groups : Fun K "shift_groups" "shift_groups" s_shift_groups a.f_shift_groups a.fd_shift_groups
  b_shift_groups : Binds K a.fd_shift_groups ["camera", "brightness"] []
  g_shift_groups : mg "shift_groups" = some (.ref a.f_shift_groups)
  F_law_pick : Fun K "_law_pick" "_law_pick" s_law_pick a.f_law_pick a.fd_law_pick
  b_law_pick : Binds K a.fd_law_pick ["script", "k", "many"] []
  g_law_pick : mg "_law_pick" = some (.ref a.f_law_pick)
  F_law_box : Fun K "_law_box" "_law_box" s_law_box a.f_law_box a.fd_law_box
  b_law_box : Binds K a.fd_law_box ["script", "at", "most"] []
  g_law_box : mg "_law_box" = some (.ref a.f_law_box)
  F_law_every : Fun K "_law_every" "_law_every" s_law_every a.f_law_every a.fd_law_every
  b_law_every : Binds K a.fd_law_every ["box"] []
  g_law_every : mg "_law_every" = some (.ref a.f_law_every)
  g_LightError : mg "LightError" = some (.ref a.C_LightError)
  x_InvalidBrightness : PySem.W.excIn K a.C_InvalidBrightness [.type "ValueError", .type "Exception", .type "BaseException", .type "object"] "ValueError.__new__" = true
  g_InvalidBrightness : mg "InvalidBrightness" = some (.ref a.C_InvalidBrightness)
  k_InvalidBrightness : PySem.W.keepIn K (.ref a.C_InvalidBrightness) = true
  bx_InvalidBrightness : PySem.W.subIn K (.ref a.C_InvalidBrightness) (.type "BaseException") = some true
  t_InvalidBrightness : PySem.W.typeIn K (.ref a.C_InvalidBrightness) = some (.type "type")
  x_InvalidCamera : PySem.W.excIn K a.C_InvalidCamera [.type "ValueError", .type "Exception", .type "BaseException", .type "object"] "ValueError.__new__" = true
  g_InvalidCamera : mg "InvalidCamera" = some (.ref a.C_InvalidCamera)
  k_InvalidCamera : PySem.W.keepIn K (.ref a.C_InvalidCamera) = true
  bx_InvalidCamera : PySem.W.subIn K (.ref a.C_InvalidCamera) (.type "BaseException") = some true
  t_InvalidCamera : PySem.W.typeIn K (.ref a.C_InvalidCamera) = some (.type "type")
  x_InvalidNumber : PySem.W.excIn K a.C_InvalidNumber [.type "ValueError", .type "Exception", .type "BaseException", .type "object"] "ValueError.__new__" = true
  g_InvalidNumber : mg "InvalidNumber" = some (.ref a.C_InvalidNumber)
  k_InvalidNumber : PySem.W.keepIn K (.ref a.C_InvalidNumber) = true
  bx_InvalidNumber : PySem.W.subIn K (.ref a.C_InvalidNumber) (.type "BaseException") = some true
  t_InvalidNumber : PySem.W.typeIn K (.ref a.C_InvalidNumber) = some (.type "type")
  x_InvalidSetting : PySem.W.excIn K a.C_InvalidSetting [.type "ValueError", .type "Exception", .type "BaseException", .type "object"] "ValueError.__new__" = true
  g_InvalidSetting : mg "InvalidSetting" = some (.ref a.C_InvalidSetting)
  k_InvalidSetting : PySem.W.keepIn K (.ref a.C_InvalidSetting) = true
  bx_InvalidSetting : PySem.W.subIn K (.ref a.C_InvalidSetting) (.type "BaseException") = some true
  t_InvalidSetting : PySem.W.typeIn K (.ref a.C_InvalidSetting) = some (.type "type")
  x_InvalidWheel : PySem.W.excIn K a.C_InvalidWheel [.type "ValueError", .type "Exception", .type "BaseException", .type "object"] "ValueError.__new__" = true
  g_InvalidWheel : mg "InvalidWheel" = some (.ref a.C_InvalidWheel)
  k_InvalidWheel : PySem.W.keepIn K (.ref a.C_InvalidWheel) = true
  bx_InvalidWheel : PySem.W.subIn K (.ref a.C_InvalidWheel) (.type "BaseException") = some true
  t_InvalidWheel : PySem.W.typeIn K (.ref a.C_InvalidWheel) = some (.type "type")
  kt_InvalidBrightness_InvalidBrightness : PySem.W.kitOne K (.ref a.C_InvalidBrightness) (.ref a.C_InvalidBrightness) = some true
  kt_InvalidBrightness_InvalidCamera : PySem.W.kitOne K (.ref a.C_InvalidBrightness) (.ref a.C_InvalidCamera) = some false
  kt_InvalidBrightness_InvalidNumber : PySem.W.kitOne K (.ref a.C_InvalidBrightness) (.ref a.C_InvalidNumber) = some false
  kt_InvalidBrightness_InvalidSetting : PySem.W.kitOne K (.ref a.C_InvalidBrightness) (.ref a.C_InvalidSetting) = some false
  kt_InvalidBrightness_InvalidWheel : PySem.W.kitOne K (.ref a.C_InvalidBrightness) (.ref a.C_InvalidWheel) = some false
  kt_InvalidCamera_InvalidBrightness : PySem.W.kitOne K (.ref a.C_InvalidCamera) (.ref a.C_InvalidBrightness) = some false
  kt_InvalidCamera_InvalidCamera : PySem.W.kitOne K (.ref a.C_InvalidCamera) (.ref a.C_InvalidCamera) = some true
  kt_InvalidCamera_InvalidNumber : PySem.W.kitOne K (.ref a.C_InvalidCamera) (.ref a.C_InvalidNumber) = some false
  kt_InvalidCamera_InvalidSetting : PySem.W.kitOne K (.ref a.C_InvalidCamera) (.ref a.C_InvalidSetting) = some false
  kt_InvalidCamera_InvalidWheel : PySem.W.kitOne K (.ref a.C_InvalidCamera) (.ref a.C_InvalidWheel) = some false
  kt_InvalidNumber_InvalidBrightness : PySem.W.kitOne K (.ref a.C_InvalidNumber) (.ref a.C_InvalidBrightness) = some false
  kt_InvalidNumber_InvalidCamera : PySem.W.kitOne K (.ref a.C_InvalidNumber) (.ref a.C_InvalidCamera) = some false
  kt_InvalidNumber_InvalidNumber : PySem.W.kitOne K (.ref a.C_InvalidNumber) (.ref a.C_InvalidNumber) = some true
  kt_InvalidNumber_InvalidSetting : PySem.W.kitOne K (.ref a.C_InvalidNumber) (.ref a.C_InvalidSetting) = some false
  kt_InvalidNumber_InvalidWheel : PySem.W.kitOne K (.ref a.C_InvalidNumber) (.ref a.C_InvalidWheel) = some false
  kt_InvalidSetting_InvalidBrightness : PySem.W.kitOne K (.ref a.C_InvalidSetting) (.ref a.C_InvalidBrightness) = some false
  kt_InvalidSetting_InvalidCamera : PySem.W.kitOne K (.ref a.C_InvalidSetting) (.ref a.C_InvalidCamera) = some false
  kt_InvalidSetting_InvalidNumber : PySem.W.kitOne K (.ref a.C_InvalidSetting) (.ref a.C_InvalidNumber) = some false
  kt_InvalidSetting_InvalidSetting : PySem.W.kitOne K (.ref a.C_InvalidSetting) (.ref a.C_InvalidSetting) = some true
  kt_InvalidSetting_InvalidWheel : PySem.W.kitOne K (.ref a.C_InvalidSetting) (.ref a.C_InvalidWheel) = some false
  kt_InvalidWheel_InvalidBrightness : PySem.W.kitOne K (.ref a.C_InvalidWheel) (.ref a.C_InvalidBrightness) = some false
  kt_InvalidWheel_InvalidCamera : PySem.W.kitOne K (.ref a.C_InvalidWheel) (.ref a.C_InvalidCamera) = some false
  kt_InvalidWheel_InvalidNumber : PySem.W.kitOne K (.ref a.C_InvalidWheel) (.ref a.C_InvalidNumber) = some false
  kt_InvalidWheel_InvalidSetting : PySem.W.kitOne K (.ref a.C_InvalidWheel) (.ref a.C_InvalidSetting) = some false
  kt_InvalidWheel_InvalidWheel : PySem.W.kitOne K (.ref a.C_InvalidWheel) (.ref a.C_InvalidWheel) = some true
  e_InvalidBrightness : ExcC K a.C_InvalidBrightness
  em_InvalidBrightness_LightError : PySem.W.exmOne K (.ref a.C_InvalidBrightness) (.ref a.C_LightError) = some true
  e_InvalidCamera : ExcC K a.C_InvalidCamera
  em_InvalidCamera_LightError : PySem.W.exmOne K (.ref a.C_InvalidCamera) (.ref a.C_LightError) = some true
  e_InvalidNumber : ExcC K a.C_InvalidNumber
  em_InvalidNumber_LightError : PySem.W.exmOne K (.ref a.C_InvalidNumber) (.ref a.C_LightError) = some true
  e_InvalidSetting : ExcC K a.C_InvalidSetting
  em_InvalidSetting_LightError : PySem.W.exmOne K (.ref a.C_InvalidSetting) (.ref a.C_LightError) = some true
  e_InvalidWheel : ExcC K a.C_InvalidWheel
  em_InvalidWheel_LightError : PySem.W.exmOne K (.ref a.C_InvalidWheel) (.ref a.C_LightError) = some true
  c_MAX_LEAST : ∃ t, mg "MAX_LEAST" = some (.int (40) t)
  c_MAX_LIGHT : ∃ t, mg "MAX_LIGHT" = some (.int (120) t)
  c_MAX_MANY : ∃ t, mg "MAX_MANY" = some (.int (4) t)
  c_MAX_MOST : ∃ t, mg "MAX_MOST" = some (.int (60) t)
  c_MAX_STEP : ∃ t, mg "MAX_STEP" = some (.int (3) t)
  c_MAX_VALUES : ∃ t, mg "MAX_VALUES" = some (.int (13) t)
  c_MAX_WIDTH : ∃ t, mg "MAX_WIDTH" = some (.int (12) t)
  c_MIN_LIGHT : ∃ t, mg "MIN_LIGHT" = some (.int (-60) t)
  c_NAMES : mg "NAMES" = some (.ref a.a_NAMES)
  d_NAMES : ∀ S, DV K S (.ref a.a_NAMES) (.tuple [(.str "aperture"), (.str "time"), (.str "sensitivity")])
  oe_NAMES : ∃ ob, K.lookup a.a_NAMES = some ob ∧ ob.cls = .type "tuple" ∧ ob.dict = none
  s_NAMES : ∀ H, SqT K H a.a_NAMES ((["aperture", "time", "sensitivity"] : List Str).map V.str)
  c_SIGNS : mg "SIGNS" = some (.ref a.a_SIGNS)
  d_SIGNS : ∀ S, DV K S (.ref a.a_SIGNS) (.tuple [(.int 1), (.int 1), (.int (-1))])
  m_ValueError : mg "ValueError" = none
  m_all : mg "all" = none
  m_bool : mg "bool" = none
  m_int : mg "int" = none
  m_isinstance : mg "isinstance" = none
  m_len : mg "len" = none
  m_list : mg "list" = none
  m_max : mg "max" = none
  m_range : mg "range" = none
  m_str : mg "str" = none
  m_tuple : mg "tuple" = none
  m_zip : mg "zip" = none
section
variable {P : Program} {w : World} {K : PySem.W.Frag} {mg : Str → Option Value} {base : Heap} {a : Ad}
theorem ok_is_int (T : Txt K mg a) : FnOk P w K mg base (L2.CX P w) 1 a.f_is_int a.fd_is_int ["value", "least", "most"] (spD K mg 3 F_is_int) :=
  fnD (N := N_is_int) (B := B_is_int) T.F_is_int sc_is_int rfl fun cdv A outer s H E hr => ⟨_, sds_one (sd_ret (pd_and (pd_isi (T := "int") (by decide) (pdv 0) rfl T.m_isinstance bt_isinstance rfl T.m_int bt_int) (pd_and (pd_not (pd_isi (T := "bool") (by decide) (pdv 0) rfl T.m_isinstance bt_isinstance rfl T.m_bool bt_bool)) (pd_one (pd_chain op_le op_le os_le os_le (pdv 1) (pdv 0) (pdv 2))))))⟩
theorem ok_wheel_values (T : Txt K mg a) : FnOk P w K mg base (L2.CX P w) 1 a.f_wheel_values a.fd_wheel_values ["wheel"] (spD K mg 1 F_wheel_values) :=
  fnD (N := N_wheel_values) (B := B_wheel_values) T.F_wheel_values sc_wheel_values rfl fun cdv A outer s H E hr => ⟨_, sds_cons (sd_asg (pdv 0) (gd_tup rfl (gds_cons (gn 1 sc_wheel_values.nd) (gds_cons (gn 2 sc_wheel_values.nd) (gds_cons (gn 3 sc_wheel_values.nd) gds_nil))))) (sds_one (sd_ret (pd_listR3 rfl rfl T.m_list rfl T.m_range (ad_cons (pdv 1) (ad_cons (pd_op op_addA os_add (pdv 2) pd_int) (ad_cons (pdv 3) ad_nil))))))⟩
theorem ok_find_wheel (T : Txt K mg a) : FnOk P w K mg base (L2.CX P w) 1 a.f_find_wheel a.fd_find_wheel ["value"] (spD K mg 1 F_find_wheel) :=
  fnD (N := N_find_wheel) (B := B_find_wheel) T.F_find_wheel sc_find_wheel rfl fun cdv A outer s H E hr => ⟨_, sds_cons (sd_if (WD.td (wd_or (td_not (td_val (pd_isi (T := "str") (by decide) (pdv 0) rfl T.m_isinstance bt_isinstance rfl T.m_str bt_str))) (wd_or1 (td_cmp (op_notInK (hU hr)) os_notin (pdv 0) (pd_gref T.c_NAMES T.d_NAMES))))) (sds_one (sd_raise rfl tkX T.x_InvalidWheel T.g_InvalidWheel T.k_InvalidWheel T.bx_InvalidWheel T.t_InvalidWheel rfl)) sds_nil) (sds_one (sd_ret (pd_namesIx (ys := ["aperture", "time", "sensitivity"]) T.oe_NAMES T.s_NAMES (pdv 0) (pe_bm PySem.F.plainAttrs_tuple PySem.F.slot_tuple_index PySem.F.type_tuple_index mt_nix (pe_glob rfl T.c_NAMES rfl) (pa_cons (PD.pe (K := K) (mg := mg) (E := E0) (pdv 0)) pa_nil)))))⟩
theorem ok_with_error (T : Txt K mg a) : FnOk P w K mg base (L2.CX P w) 1 a.f_with_error a.fd_with_error ["setting", "place", "number"] (spD K mg 3 F_with_error) :=
  fnD (N := N_with_error) (B := B_with_error) T.F_with_error sc_with_error rfl fun cdv A outer s H E hr => ⟨_, sds_cons (sd_set (pd_op op_addA os_add (pd_ix ix_A os_ix (pdv 0) (pdv 1)) (pd_op op_mul os_mulI (pd_ix ix_A os_ix (pd_gref T.c_SIGNS T.d_SIGNS) (pdv 1)) (pdv 2))) sc_with_error.nd rfl) (sds_one (sd_ret (pd_op op_addA os_add (pd_op op_addA os_add (pd_slice sl_D ss_sl (pdv 0) od_none (od_some (pdv 1))) (pd_tup (ad_cons (pdv 3) ad_nil))) (pd_slice sl_D ss_sl (pdv 0) (od_some (pd_op op_addA os_add (pdv 1) pd_int)) od_none))))⟩
theorem ok_law_pick (T : Txt K mg a) : FnOk P w K mg base (L2.CX P w) 1 a.f_law_pick a.fd_law_pick ["script", "k", "many"] (spD K mg 3 F_law_pick) :=
  fnD (N := N_law_pick) (B := B_law_pick) T.F_law_pick sc_law_pick rfl fun cdv A outer s H E hr => ⟨_, sds_cons (sd_set (pd_if (td_cmp (op_neK (hU hr)) os_ne (pdv 0) (pd_lst ad_nil)) (pd_ix ix_A os_ix (pdv 0) (pd_op op_mod os_mod (pdv 1) (pd_callB c_len cs_len rfl T.m_len bt_len (ad_cons (pdv 0) ad_nil)))) pd_int) sc_law_pick.nd rfl) (sds_cons (sd_p2 (i := 4) (j := 5) sc_law_pick.nd (zd_d (pd_op op_fdivW os_div (pdv 3) (pd_op op_pow os_pow pd_int pd_int)) (zd_d (pd_op op_fdivW os_div (pdv 1) (pd_callB (call_max2 rfl) cs_max2 rfl T.m_max bt_max (ad_cons (pd_callB c_len cs_len rfl T.m_len bt_len (ad_cons (pdv 0) ad_nil)) (ad_cons pd_int ad_nil)))) zd_nil))) (sds_cons (sd_while 100000 poX (WD.td (wd_and (td_cmp op_gt os_gt (pdv 4) pd_int) (wd_and1 (td_cmp op_gt os_gt (pdv 5) pd_int)))) (sds_one (sd_p2 (i := 4) (j := 5) sc_law_pick.nd (zd_d (pd_op op_fdivW os_div (pdv 4) pd_int) (zd_d (pd_op op_sub os_sub (pdv 5) pd_int) zd_nil))))) (sds_cons (sd_if (td_cmp op_gt os_gt (pdv 4) pd_int) (sds_one (sd_ret (pd_op op_mod os_mod (pd_op op_mod os_mod (pdv 4) pd_int) (pdv 2)))) sds_nil) (sds_cons (sd_set (pd_op op_mod os_mod (pd_op op_mul os_mulI (pd_op op_addA os_add (pd_op op_mul os_mulI (pdv 3) pd_int) (pd_op op_mul os_mulI pd_int (pd_op op_addA os_add (pdv 1) pd_int))) pd_int) pd_int) sc_law_pick.nd rfl) (sds_one (sd_ret (pd_op op_mod os_mod (pd_op op_mod os_mod (pd_op op_addA os_add (pd_op op_mul os_mulI (pdv 6) (pdv 6)) (pd_op op_fdivW os_div (pdv 6) pd_int)) pd_int) (pdv 2))))))))⟩
theorem ok_law_every (T : Txt K mg a) : FnOk P w K mg base (L2.CX P w) 1 a.f_law_every a.fd_law_every ["box"] (spD K mg 1 F_law_every) :=
  fnD (N := N_law_every) (B := B_law_every) T.F_law_every sc_law_every rfl fun cdv A outer s H E hr => ⟨_, sds_cons (sd_set (pd_lst (ad_cons (pd_tup ad_nil) ad_nil)) sc_law_every.nd rfl) (sds_cons (sd_forI poX rfl (id_seq (pdv 0)) (gd_tup rfl (gds_cons (gn 2 sc_law_every.nd) (gds_cons (gn 3 sc_law_every.nd) (gds_cons (gn 4 sc_law_every.nd) gds_nil)))) (sds_cons (sd_ownL ad_nil sc_law_every.nd rfl) (sds_cons (sd_forI poX rfl (id_seq (pdv 1)) (gd_name (gn 6 sc_law_every.nd)) (sds_one (sd_ext' false (pv 5) (pd_lc rfl sc_law_every.nd (id_range1 rfl T.m_range (ad_cons (pd_op op_addA os_add (pd_op op_sub os_sub (pdv 3) (pdv 2)) pd_int) ad_nil)) (blkOk_by (own := [("k", 7)]) (N := N_law_every) (sc := defScope s_law_every) (by decide +kernel)) (fun _ _ _ _ _ => gd_name (gn 7 sc_law_every.nd)) (fun _ _ _ _ _ => tds_one (td_cmp (op_eqK (hU hr)) os_eq (pd_op op_mod os_mod (pdv 7) (pdv 4)) pd_int)) (fun _ _ _ _ _ => pd_op op_addA os_add (pdv 6) (pd_tup (ad_cons (pd_op op_addA os_add (pdv 2) (pdv 7)) ad_nil))))))) (sds_one (sd_frz [5] (sd_set (pdv 5) sc_law_every.nd rfl)))))) (sds_one (sd_ret (pdv 1))))⟩
theorem ok_is_wheel (T : Txt K mg a) : FnOk P w K mg base (L2.CX P w) 2 a.f_is_wheel a.fd_is_wheel ["value"] (spD K mg 1 F_is_wheel) :=
  fnD (N := N_is_wheel) (B := B_is_wheel) T.F_is_wheel sc_is_wheel rfl fun cdv A outer s H E hr => ⟨_, sds_cons (sd_if (WD.td (wd_or (td_not (td_val (pd_isi (T := "tuple") (by decide) (pdv 0) rfl T.m_isinstance bt_isinstance rfl T.m_tuple bt_tuple))) (wd_or (td_cmp (op_neK (hU hr)) os_ne (pd_callB c_len cs_len rfl T.m_len bt_len (ad_cons (pdv 0) ad_nil)) pd_int) (wd_or1 (td_not (td_val (pd_call (ok_is_int T) (hr.mono (by decide)) rfl T.g_is_int T.F_is_int.kp T.b_is_int pX (ad_cons (pd_ix ix_A os_ix (pdv 0) pd_int) (ad_cons pd_int (ad_cons (pd_gint T.c_MAX_LEAST) ad_nil)))))))))) (sds_one (sd_ret pd_bl)) sds_nil) (sds_cons (sd_asg (pdv 0) (gd_tup rfl (gds_cons (gn 1 sc_is_wheel.nd) (gds_cons (gn 2 sc_is_wheel.nd) (gds_cons (gn 3 sc_is_wheel.nd) gds_nil))))) (sds_cons (sd_if (WD.td (wd_or (td_not (td_val (pd_call (ok_is_int T) (hr.mono (by decide)) rfl T.g_is_int T.F_is_int.kp T.b_is_int pX (ad_cons (pdv 2) (ad_cons (pdv 1) (ad_cons (pd_gint T.c_MAX_MOST) ad_nil)))))) (wd_or1 (td_not (td_val (pd_call (ok_is_int T) (hr.mono (by decide)) rfl T.g_is_int T.F_is_int.kp T.b_is_int pX (ad_cons (pdv 3) (ad_cons pd_int (ad_cons (pd_gint T.c_MAX_STEP) ad_nil))))))))) (sds_one (sd_ret pd_bl)) sds_nil) (sds_one (sd_ret (pd_cmp op_le os_le (pd_op op_addA os_add (pd_op op_fdivW os_div (pd_op op_sub os_sub (pdv 2) (pdv 1)) (pdv 3)) pd_int) (pd_gint T.c_MAX_VALUES))))))⟩
theorem ok_has_setting (T : Txt K mg a) : FnOk P w K mg base (L2.CX P w) 2 a.f_has_setting a.fd_has_setting ["camera", "candidate"] (spD K mg 2 F_has_setting) :=
  fnD (N := N_has_setting) (B := B_has_setting) T.F_has_setting sc_has_setting rfl fun cdv A outer s H E hr => ⟨_, sds_cons (sd_if (WD.td (wd_or (td_not (td_val (pd_isi (T := "tuple") (by decide) (pdv 1) rfl T.m_isinstance bt_isinstance rfl T.m_tuple bt_tuple))) (wd_or1 (td_cmp (op_neK (hU hr)) os_ne (pd_callB c_len cs_len rfl T.m_len bt_len (ad_cons (pdv 1) ad_nil)) (pd_callB c_len cs_len rfl T.m_len bt_len (ad_cons (pd_gref T.c_NAMES T.d_NAMES) ad_nil)))))) (sds_one (sd_ret pd_bl)) sds_nil) (sds_cons (sd_setLc rfl sc_has_setting.nd rfl rfl (sw_true rfl rfl rfl (by decide +kernel)) (id_zip rfl T.m_zip (ad_cons (pdv 1) (ad_cons (pdv 0) ad_nil))) (blkOk_by (own := [("value", 3), ("wheel", 4)]) (N := N_has_setting) (sc := defScope s_has_setting) (by decide +kernel)) (fun _ _ _ _ _ => gd_tup rfl (gds_cons (gn 3 sc_has_setting.nd) (gds_cons (gn 4 sc_has_setting.nd) gds_nil))) (fun _ _ _ _ _ => tds_nil) (fun _ _ _ _ _ => pd_and (pd_call (ok_is_int T) (hr.mono (by decide)) rfl T.g_is_int T.F_is_int.kp T.b_is_int passL (ad_cons (pdv 3) (ad_cons pd_int (ad_cons (pd_gint T.c_MAX_MOST) ad_nil)))) (pd_one (pd_cmp (op_inK (hU hr)) os_in (pdv 3) (pd_call (ok_wheel_values T) (hr.mono (by decide)) rfl T.g_wheel_values T.F_wheel_values.kp T.b_wheel_values passL (ad_cons (pdv 4) ad_nil)))))) (sds_one (sd_ret (pd_callB (c_all rfl) cs_all rfl T.m_all bt_all (ad_cons (pdv 2) ad_nil)))))⟩
theorem ok_check_light (T : Txt K mg a) : FnOk P w K mg base (L2.CX P w) 2 a.f_check_light a.fd_check_light ["value"] (spD K mg 1 F_check_light) :=
  fnD (N := N_check_light) (B := B_check_light) T.F_check_light sc_check_light rfl fun cdv A outer s H E hr => ⟨_, sds_one (sd_if (td_not (td_val (pd_call (ok_is_int T) (hr.mono (by decide)) rfl T.g_is_int T.F_is_int.kp T.b_is_int pX (ad_cons (pdv 0) (ad_cons (pd_gint T.c_MIN_LIGHT) (ad_cons (pd_gint T.c_MAX_LIGHT) ad_nil)))))) (sds_one (sd_raise rfl tkX T.x_InvalidBrightness T.g_InvalidBrightness T.k_InvalidBrightness T.bx_InvalidBrightness T.t_InvalidBrightness rfl)) sds_nil)⟩
theorem ok_check_number (T : Txt K mg a) : FnOk P w K mg base (L2.CX P w) 2 a.f_check_number a.fd_check_number ["value", "most"] (spD K mg 2 F_check_number) :=
  fnD (N := N_check_number) (B := B_check_number) T.F_check_number sc_check_number rfl fun cdv A outer s H E hr => ⟨_, sds_one (sd_if (td_not (td_val (pd_call (ok_is_int T) (hr.mono (by decide)) rfl T.g_is_int T.F_is_int.kp T.b_is_int pX (ad_cons (pdv 0) (ad_cons pd_int (ad_cons (pdv 1) ad_nil)))))) (sds_one (sd_raise rfl tkX T.x_InvalidNumber T.g_InvalidNumber T.k_InvalidNumber T.bx_InvalidNumber T.t_InvalidNumber rfl)) sds_nil)⟩
theorem ok_find_bracket (T : Txt K mg a) : FnOk P w K mg base (L2.CX P w) 2 a.f_find_bracket a.fd_find_bracket ["camera", "setting", "place", "many", "width"] (spD K mg 5 F_find_bracket) :=
  fnD (N := N_find_bracket) (B := B_find_bracket) T.F_find_bracket sc_find_bracket rfl fun cdv A outer s H E hr => ⟨_, sds_cons (sd_setLc rfl sc_find_bracket.nd rfl rfl (sw_true rfl rfl rfl (by decide +kernel)) (id_range2 rfl T.m_range (ad_cons (pd_op op_sub os_sub pd_int (pdv 3)) (ad_cons (pd_op op_addA os_add (pdv 3) pd_int) ad_nil))) (blkOk_by (own := [("number", 7)]) (N := N_find_bracket) (sc := defScope s_find_bracket) (by decide +kernel)) (fun _ _ _ _ _ => gd_name (gn 7 sc_find_bracket.nd)) (fun _ _ _ _ _ => tds_nil) (fun _ _ _ _ _ => pd_call (ok_with_error T) (hr.mono (by decide)) rfl T.g_with_error T.F_with_error.kp T.b_with_error passL (ad_cons (pdv 1) (ad_cons (pdv 2) (ad_cons (pd_op op_mul os_mulI (pdv 4) (pdv 7)) ad_nil))))) (sds_cons (sd_set (pd_call (ok_wheel_values T) (hr.mono (by decide)) rfl T.g_wheel_values T.F_wheel_values.kp T.b_wheel_values pX (ad_cons (pd_ix ix_A os_ix (pdv 0) (pdv 2)) ad_nil)) sc_find_bracket.nd rfl) (sds_one (sd_ret (pd_if (td_val (pd_callB (c_all rfl) cs_all rfl T.m_all bt_all (ad_cons (pd_lc rfl sc_find_bracket.nd (id_seq (pdv 5)) (blkOk_by (own := [("other", 8)]) (N := N_find_bracket) (sc := defScope s_find_bracket) (by decide +kernel)) (fun _ _ _ _ _ => gd_name (gn 8 sc_find_bracket.nd)) (fun _ _ _ _ _ => tds_nil) (fun _ _ _ _ _ => pd_cmp (op_inK (hU hr)) os_in (pd_ix ix_A os_ix (pdv 8) (pdv 2)) (pdv 6))) ad_nil))) (pdv 5) pd_non))))⟩
theorem ok_law_box (T : Txt K mg a) : FnOk P w K mg base (L2.CX P w) 2 a.f_law_box a.fd_law_box ["script", "at", "most"] (spD K mg 3 F_law_box) :=
  fnD (N := N_law_box) (B := B_law_box) T.F_law_box sc_law_box rfl fun cdv A outer s H E hr => ⟨_, sds_cons (sd_ownL ad_nil sc_law_box.nd rfl) (sds_cons (sd_forI poX rfl (id_range1 rfl T.m_range (ad_cons pd_int ad_nil)) (gd_name (gn 4 sc_law_box.nd)) (sds_cons (sd_p2 (i := 5) (j := 6) sc_law_box.nd (zd_d (pd_call (ok_law_pick T) (hr.mono (by decide)) rfl T.g_law_pick T.F_law_pick.kp T.b_law_pick pX (ad_cons (pdv 0) (ad_cons (pd_op op_addA os_add (pdv 1) (pd_op op_mul os_mulI pd_int (pdv 4))) (ad_cons pd_int ad_nil)))) (zd_d (pd_op op_addA os_add pd_int (pd_call (ok_law_pick T) (hr.mono (by decide)) rfl T.g_law_pick T.F_law_pick.kp T.b_law_pick pX (ad_cons (pdv 0) (ad_cons (pd_op op_addA os_add (pd_op op_addA os_add (pdv 1) (pd_op op_mul os_mulI pd_int (pdv 4))) pd_int) (ad_cons pd_int ad_nil))))) zd_nil))) (sds_cons (sd_set (pd_call (ok_law_pick T) (hr.mono (by decide)) rfl T.g_law_pick T.F_law_pick.kp T.b_law_pick pX (ad_cons (pdv 0) (ad_cons (pd_op op_addA os_add (pd_op op_addA os_add (pdv 1) (pd_op op_mul os_mulI pd_int (pdv 4))) pd_int) (ad_cons (pdv 2) ad_nil)))) sc_law_box.nd rfl) (sds_cons (sd_set (pd_call (ok_law_pick T) (hr.mono (by decide)) rfl T.g_law_pick T.F_law_pick.kp T.b_law_pick pX (ad_cons (pdv 0) (ad_cons (pd_op op_addA os_add (pd_op op_addA os_add (pdv 1) (pd_op op_mul os_mulI pd_int (pdv 4))) pd_int) (ad_cons (pdv 6) ad_nil)))) sc_law_box.nd rfl) (sds_one (sd_app' false (pv 3) (pd_tup (ad_cons (pdv 5) (ad_cons (pd_op op_addA os_add (pd_op op_addA os_add (pdv 5) (pd_op op_mul os_mulI (pdv 6) (pdv 7))) (pdv 8)) (ad_cons (pdv 6) ad_nil)))))))))) (sds_one (sd_frz [3] (sd_ret (pd_callTy c_tup cs_tupOf rfl T.m_tuple bt_tuple (ad_cons (pdv 3) ad_nil))))))⟩
theorem ok_is_camera (T : Txt K mg a) : FnOk P w K mg base (L2.CX P w) 3 a.f_is_camera a.fd_is_camera ["candidate"] (spD K mg 1 F_is_camera) :=
  fnD (N := N_is_camera) (B := B_is_camera) T.F_is_camera sc_is_camera rfl fun cdv A outer s H E hr => ⟨_, sds_cons (sd_if (WD.td (wd_or (td_not (td_val (pd_isi (T := "tuple") (by decide) (pdv 0) rfl T.m_isinstance bt_isinstance rfl T.m_tuple bt_tuple))) (wd_or1 (td_cmp (op_neK (hU hr)) os_ne (pd_callB c_len cs_len rfl T.m_len bt_len (ad_cons (pdv 0) ad_nil)) (pd_callB c_len cs_len rfl T.m_len bt_len (ad_cons (pd_gref T.c_NAMES T.d_NAMES) ad_nil)))))) (sds_one (sd_ret pd_bl)) sds_nil) (sds_one (sd_ret (pd_callB (c_all rfl) cs_all rfl T.m_all bt_all (ad_cons (pd_lc rfl sc_is_camera.nd (id_seq (pdv 0)) (blkOk_by (own := [("wheel", 1)]) (N := N_is_camera) (sc := defScope s_is_camera) (by decide +kernel)) (fun _ _ _ _ _ => gd_name (gn 1 sc_is_camera.nd)) (fun _ _ _ _ _ => tds_nil) (fun _ _ _ _ _ => pd_call (ok_is_wheel T) (hr.mono (by decide)) rfl T.g_is_wheel T.F_is_wheel.kp T.b_is_wheel passL (ad_cons (pdv 1) ad_nil))) ad_nil))))⟩
theorem ok_check_setting (T : Txt K mg a) : FnOk P w K mg base (L2.CX P w) 3 a.f_check_setting a.fd_check_setting ["camera", "value"] (spD K mg 2 F_check_setting) :=
  fnD (N := N_check_setting) (B := B_check_setting) T.F_check_setting sc_check_setting rfl fun cdv A outer s H E hr => ⟨_, sds_one (sd_if (td_not (td_val (pd_call (ok_has_setting T) (hr.mono (by decide)) rfl T.g_has_setting T.F_has_setting.kp T.b_has_setting pX (ad_cons (pdv 0) (ad_cons (pdv 1) ad_nil))))) (sds_one (sd_raise rfl tkX T.x_InvalidSetting T.g_InvalidSetting T.k_InvalidSetting T.bx_InvalidSetting T.t_InvalidSetting rfl)) sds_nil)⟩
theorem ok_check_camera (T : Txt K mg a) : FnOk P w K mg base (L2.CX P w) 4 a.f_check_camera a.fd_check_camera ["value"] (spD K mg 1 F_check_camera) :=
  fnD (N := N_check_camera) (B := B_check_camera) T.F_check_camera sc_check_camera rfl fun cdv A outer s H E hr => ⟨_, sds_one (sd_if (td_not (td_val (pd_call (ok_is_camera T) (hr.mono (by decide)) rfl T.g_is_camera T.F_is_camera.kp T.b_is_camera pX (ad_cons (pdv 0) ad_nil)))) (sds_one (sd_raise rfl tkX T.x_InvalidCamera T.g_InvalidCamera T.k_InvalidCamera T.bx_InvalidCamera T.t_InvalidCamera rfl)) sds_nil)⟩
theorem ok_is_setting (T : Txt K mg a) : FnOk P w K mg base (L2.CX P w) 5 a.f_is_setting a.fd_is_setting ["camera", "candidate"] (spD K mg 2 F_is_setting) :=
  fnD (N := N_is_setting) (B := B_is_setting) T.F_is_setting sc_is_setting rfl fun cdv A outer s H E hr => ⟨_, sds_cons (sd_expr (pd_call (ok_check_camera T) (hr.mono (by decide)) rfl T.g_check_camera T.F_check_camera.kp T.b_check_camera pX (ad_cons (pdv 0) ad_nil))) sds_bad⟩
theorem ok_values (T : Txt K mg a) : FnOk P w K mg base (L2.CX P w) 5 a.f_values a.fd_values ["camera", "wheel"] (spD K mg 2 F_values) :=
  fnD (N := N_values) (B := B_values) T.F_values sc_values rfl fun cdv A outer s H E hr => ⟨_, sds_cons (sd_expr (pd_call (ok_check_camera T) (hr.mono (by decide)) rfl T.g_check_camera T.F_check_camera.kp T.b_check_camera pX (ad_cons (pdv 0) ad_nil))) (sds_one (sd_ret (pd_call (ok_wheel_values T) (hr.mono (by decide)) rfl T.g_wheel_values T.F_wheel_values.kp T.b_wheel_values pX (ad_cons (pd_ix ix_A os_ix (pdv 0) (pd_call (ok_find_wheel T) (hr.mono (by decide)) rfl T.g_find_wheel T.F_find_wheel.kp T.b_find_wheel pX (ad_cons (pdv 1) ad_nil))) ad_nil))))⟩
theorem ok_count_settings (T : Txt K mg a) : FnOk P w K mg base (L2.CX P w) 5 a.f_count_settings a.fd_count_settings ["camera"] (spD K mg 1 F_count_settings) :=
  fnD (N := N_count_settings) (B := B_count_settings) T.F_count_settings sc_count_settings rfl fun cdv A outer s H E hr => ⟨_, sds_cons (sd_expr (pd_call (ok_check_camera T) (hr.mono (by decide)) rfl T.g_check_camera T.F_check_camera.kp T.b_check_camera pX (ad_cons (pdv 0) ad_nil))) sds_bad⟩
theorem ok_exposure (T : Txt K mg a) : FnOk P w K mg base (L2.CX P w) 5 a.f_exposure a.fd_exposure ["camera", "setting"] (spD K mg 2 F_exposure) :=
  fnD (N := N_exposure) (B := B_exposure) T.F_exposure sc_exposure rfl fun cdv A outer s H E hr => ⟨_, sds_cons (sd_expr (pd_call (ok_check_camera T) (hr.mono (by decide)) rfl T.g_check_camera T.F_check_camera.kp T.b_check_camera pX (ad_cons (pdv 0) ad_nil))) (sds_cons (sd_expr (pd_call (ok_check_setting T) (hr.mono (by decide)) rfl T.g_check_setting T.F_check_setting.kp T.b_check_setting pX (ad_cons (pdv 0) (ad_cons (pdv 1) ad_nil)))) sds_bad)⟩
theorem ok_error (T : Txt K mg a) : FnOk P w K mg base (L2.CX P w) 5 a.f_error a.fd_error ["camera", "setting", "brightness"] (spD K mg 3 F_error) :=
  fnD (N := N_error) (B := B_error) T.F_error sc_error rfl fun cdv A outer s H E hr => ⟨_, sds_cons (sd_expr (pd_call (ok_check_camera T) (hr.mono (by decide)) rfl T.g_check_camera T.F_check_camera.kp T.b_check_camera pX (ad_cons (pdv 0) ad_nil))) (sds_cons (sd_expr (pd_call (ok_check_setting T) (hr.mono (by decide)) rfl T.g_check_setting T.F_check_setting.kp T.b_check_setting pX (ad_cons (pdv 0) (ad_cons (pdv 1) ad_nil)))) (sds_cons (sd_expr (pd_call (ok_check_light T) (hr.mono (by decide)) rfl T.g_check_light T.F_check_light.kp T.b_check_light pX (ad_cons (pdv 2) ad_nil))) sds_bad))⟩
theorem ok_check_both (T : Txt K mg a) : FnOk P w K mg base (L2.CX P w) 5 a.f_check_both a.fd_check_both ["camera", "brightness"] (spD K mg 2 F_check_both) :=
  fnD (N := N_check_both) (B := B_check_both) T.F_check_both sc_check_both rfl fun cdv A outer s H E hr => ⟨_, sds_cons (sd_expr (pd_call (ok_check_camera T) (hr.mono (by decide)) rfl T.g_check_camera T.F_check_camera.kp T.b_check_camera pX (ad_cons (pdv 0) ad_nil))) (sds_one (sd_expr (pd_call (ok_check_light T) (hr.mono (by decide)) rfl T.g_check_light T.F_check_light.kp T.b_check_light pX (ad_cons (pdv 1) ad_nil))))⟩
theorem ok_reach (T : Txt K mg a) : FnOk P w K mg base (L2.CX P w) 5 a.f_reach a.fd_reach ["camera"] (spD K mg 1 F_reach) :=
  fnD (N := N_reach) (B := B_reach) T.F_reach sc_reach rfl fun cdv A outer s H E hr => ⟨_, sds_cons (sd_expr (pd_call (ok_check_camera T) (hr.mono (by decide)) rfl T.g_check_camera T.F_check_camera.kp T.b_check_camera pX (ad_cons (pdv 0) ad_nil))) sds_bad⟩
theorem ok_reachable (T : Txt K mg a) : FnOk P w K mg base (L2.CX P w) 5 a.f_reachable a.fd_reachable ["camera"] (spD K mg 1 F_reachable) :=
  fnD (N := N_reachable) (B := B_reachable) T.F_reachable sc_reachable rfl fun cdv A outer s H E hr => ⟨_, sds_cons (sd_expr (pd_call (ok_check_camera T) (hr.mono (by decide)) rfl T.g_check_camera T.F_check_camera.kp T.b_check_camera pX (ad_cons (pdv 0) ad_nil))) sds_bad⟩
theorem ok_commonest (T : Txt K mg a) : FnOk P w K mg base (L2.CX P w) 5 a.f_commonest a.fd_commonest ["camera"] (spD K mg 1 F_commonest) :=
  fnD (N := N_commonest) (B := B_commonest) T.F_commonest sc_commonest rfl fun cdv A outer s H E hr => ⟨_, sds_cons (sd_expr (pd_call (ok_check_camera T) (hr.mono (by decide)) rfl T.g_check_camera T.F_check_camera.kp T.b_check_camera pX (ad_cons (pdv 0) ad_nil))) sds_bad⟩
theorem ok_gaps (T : Txt K mg a) : FnOk P w K mg base (L2.CX P w) 5 a.f_gaps a.fd_gaps ["camera"] (spD K mg 1 F_gaps) :=
  fnD (N := N_gaps) (B := B_gaps) T.F_gaps sc_gaps rfl fun cdv A outer s H E hr => ⟨_, sds_cons (sd_expr (pd_call (ok_check_camera T) (hr.mono (by decide)) rfl T.g_check_camera T.F_check_camera.kp T.b_check_camera pX (ad_cons (pdv 0) ad_nil))) sds_bad⟩
theorem ok_worst_brightness (T : Txt K mg a) : FnOk P w K mg base (L2.CX P w) 5 a.f_worst_brightness a.fd_worst_brightness ["camera"] (spD K mg 1 F_worst_brightness) :=
  fnD (N := N_worst_brightness) (B := B_worst_brightness) T.F_worst_brightness sc_worst_brightness rfl fun cdv A outer s H E hr => ⟨_, sds_cons (sd_expr (pd_call (ok_check_camera T) (hr.mono (by decide)) rfl T.g_check_camera T.F_check_camera.kp T.b_check_camera pX (ad_cons (pdv 0) ad_nil))) sds_bad⟩
theorem ok_check_three (T : Txt K mg a) : FnOk P w K mg base (L2.CX P w) 5 a.f_check_three a.fd_check_three ["camera", "setting", "many"] (spD K mg 3 F_check_three) :=
  fnD (N := N_check_three) (B := B_check_three) T.F_check_three sc_check_three rfl fun cdv A outer s H E hr => ⟨_, sds_cons (sd_expr (pd_call (ok_check_camera T) (hr.mono (by decide)) rfl T.g_check_camera T.F_check_camera.kp T.b_check_camera pX (ad_cons (pdv 0) ad_nil))) (sds_cons (sd_expr (pd_call (ok_check_setting T) (hr.mono (by decide)) rfl T.g_check_setting T.F_check_setting.kp T.b_check_setting pX (ad_cons (pdv 0) (ad_cons (pdv 1) ad_nil)))) (sds_one (sd_expr (pd_call (ok_check_number T) (hr.mono (by decide)) rfl T.g_check_number T.F_check_number.kp T.b_check_number pX (ad_cons (pdv 2) (ad_cons (pd_gint T.c_MAX_MANY) ad_nil))))))⟩
theorem ok_bracket (T : Txt K mg a) : FnOk P w K mg base (L2.CX P w) 5 a.f_bracket a.fd_bracket ["camera", "setting", "wheel", "many", "width"] (spD K mg 5 F_bracket) :=
  fnD (N := N_bracket) (B := B_bracket) T.F_bracket sc_bracket rfl fun cdv A outer s H E hr => ⟨_, sds_cons (sd_expr (pd_call (ok_check_camera T) (hr.mono (by decide)) rfl T.g_check_camera T.F_check_camera.kp T.b_check_camera pX (ad_cons (pdv 0) ad_nil))) (sds_cons (sd_expr (pd_call (ok_check_setting T) (hr.mono (by decide)) rfl T.g_check_setting T.F_check_setting.kp T.b_check_setting pX (ad_cons (pdv 0) (ad_cons (pdv 1) ad_nil)))) (sds_cons (sd_set (pd_call (ok_find_wheel T) (hr.mono (by decide)) rfl T.g_find_wheel T.F_find_wheel.kp T.b_find_wheel pX (ad_cons (pdv 2) ad_nil)) sc_bracket.nd rfl) (sds_cons (sd_expr (pd_call (ok_check_number T) (hr.mono (by decide)) rfl T.g_check_number T.F_check_number.kp T.b_check_number pX (ad_cons (pdv 3) (ad_cons (pd_gint T.c_MAX_MANY) ad_nil)))) (sds_cons (sd_expr (pd_call (ok_check_number T) (hr.mono (by decide)) rfl T.g_check_number T.F_check_number.kp T.b_check_number pX (ad_cons (pdv 4) (ad_cons (pd_gint T.c_MAX_WIDTH) ad_nil)))) (sds_one (sd_ret (pd_call (ok_find_bracket T) (hr.mono (by decide)) rfl T.g_find_bracket T.F_find_bracket.kp T.b_find_bracket pX (ad_cons (pdv 0) (ad_cons (pdv 1) (ad_cons (pdv 5) (ad_cons (pdv 3) (ad_cons (pdv 4) ad_nil))))))))))))⟩
theorem ok_widest (T : Txt K mg a) : FnOk P w K mg base (L2.CX P w) 5 a.f_widest a.fd_widest ["camera", "setting", "wheel", "many"] (spD K mg 4 F_widest) :=
  fnD (N := N_widest) (B := B_widest) T.F_widest sc_widest rfl fun cdv A outer s H E hr => ⟨_, sds_cons (sd_expr (pd_call (ok_check_camera T) (hr.mono (by decide)) rfl T.g_check_camera T.F_check_camera.kp T.b_check_camera pX (ad_cons (pdv 0) ad_nil))) (sds_cons (sd_expr (pd_call (ok_check_setting T) (hr.mono (by decide)) rfl T.g_check_setting T.F_check_setting.kp T.b_check_setting pX (ad_cons (pdv 0) (ad_cons (pdv 1) ad_nil)))) (sds_cons (sd_set (pd_call (ok_find_wheel T) (hr.mono (by decide)) rfl T.g_find_wheel T.F_find_wheel.kp T.b_find_wheel pX (ad_cons (pdv 2) ad_nil)) sc_widest.nd rfl) (sds_cons (sd_expr (pd_call (ok_check_number T) (hr.mono (by decide)) rfl T.g_check_number T.F_check_number.kp T.b_check_number pX (ad_cons (pdv 3) (ad_cons (pd_gint T.c_MAX_MANY) ad_nil)))) sds_bad)))⟩
theorem ok_clicks (T : Txt K mg a) : FnOk P w K mg base (L2.CX P w) 5 a.f_clicks a.fd_clicks ["camera", "one", "other"] (spD K mg 3 F_clicks) :=
  fnD (N := N_clicks) (B := B_clicks) T.F_clicks sc_clicks rfl fun cdv A outer s H E hr => ⟨_, sds_cons (sd_expr (pd_call (ok_check_camera T) (hr.mono (by decide)) rfl T.g_check_camera T.F_check_camera.kp T.b_check_camera pX (ad_cons (pdv 0) ad_nil))) (sds_cons (sd_expr (pd_call (ok_check_setting T) (hr.mono (by decide)) rfl T.g_check_setting T.F_check_setting.kp T.b_check_setting pX (ad_cons (pdv 0) (ad_cons (pdv 1) ad_nil)))) (sds_cons (sd_expr (pd_call (ok_check_setting T) (hr.mono (by decide)) rfl T.g_check_setting T.F_check_setting.kp T.b_check_setting pX (ad_cons (pdv 0) (ad_cons (pdv 2) ad_nil)))) sds_bad))⟩
theorem ok_find_nearest (T : Txt K mg a) : FnOk P w K mg base (L2.CX P w) 5 a.f_find_nearest a.fd_find_nearest ["camera", "setting", "brightness"] (spD K mg 3 F_find_nearest) :=
  fnD (N := N_find_nearest) (B := B_find_nearest) T.F_find_nearest sc_find_nearest rfl fun cdv A outer s H E hr => ⟨_, sds_cons (sd_expr (pd_call (ok_check_camera T) (hr.mono (by decide)) rfl T.g_check_camera T.F_check_camera.kp T.b_check_camera pX (ad_cons (pdv 0) ad_nil))) (sds_cons (sd_expr (pd_call (ok_check_setting T) (hr.mono (by decide)) rfl T.g_check_setting T.F_check_setting.kp T.b_check_setting pX (ad_cons (pdv 0) (ad_cons (pdv 1) ad_nil)))) (sds_cons (sd_expr (pd_call (ok_check_light T) (hr.mono (by decide)) rfl T.g_check_light T.F_check_light.kp T.b_check_light pX (ad_cons (pdv 2) ad_nil))) sds_bad))⟩
theorem ok_shifts (T : Txt K mg a) : FnOk P w K mg base (L2.CX P w) 5 a.f_shifts a.fd_shifts ["camera", "setting"] (spD K mg 2 F_shifts) :=
  fnD (N := N_shifts) (B := B_shifts) T.F_shifts sc_shifts rfl fun cdv A outer s H E hr => ⟨_, sds_cons (sd_expr (pd_call (ok_check_camera T) (hr.mono (by decide)) rfl T.g_check_camera T.F_check_camera.kp T.b_check_camera pX (ad_cons (pdv 0) ad_nil))) (sds_cons (sd_expr (pd_call (ok_check_setting T) (hr.mono (by decide)) rfl T.g_check_setting T.F_check_setting.kp T.b_check_setting pX (ad_cons (pdv 0) (ad_cons (pdv 1) ad_nil)))) sds_bad)⟩
theorem ok_fewest_shifts (T : Txt K mg a) : FnOk P w K mg base (L2.CX P w) 5 a.f_fewest_shifts a.fd_fewest_shifts ["camera", "one", "other"] (spD K mg 3 F_fewest_shifts) :=
  fnD (N := N_fewest_shifts) (B := B_fewest_shifts) T.F_fewest_shifts sc_fewest_shifts rfl fun cdv A outer s H E hr => ⟨_, sds_cons (sd_expr (pd_call (ok_check_camera T) (hr.mono (by decide)) rfl T.g_check_camera T.F_check_camera.kp T.b_check_camera pX (ad_cons (pdv 0) ad_nil))) (sds_cons (sd_expr (pd_call (ok_check_setting T) (hr.mono (by decide)) rfl T.g_check_setting T.F_check_setting.kp T.b_check_setting pX (ad_cons (pdv 0) (ad_cons (pdv 1) ad_nil)))) (sds_cons (sd_expr (pd_call (ok_check_setting T) (hr.mono (by decide)) rfl T.g_check_setting T.F_check_setting.kp T.b_check_setting pX (ad_cons (pdv 0) (ad_cons (pdv 2) ad_nil)))) sds_bad))⟩
theorem ok_right_settings (T : Txt K mg a) : FnOk P w K mg base (L2.CX P w) 6 a.f_right_settings a.fd_right_settings ["camera", "brightness"] (spD K mg 2 F_right_settings) :=
  fnD (N := N_right_settings) (B := B_right_settings) T.F_right_settings sc_right_settings rfl fun cdv A outer s H E hr => ⟨_, sds_cons (sd_expr (pd_call (ok_check_both T) (hr.mono (by decide)) rfl T.g_check_both T.F_check_both.kp T.b_check_both pX (ad_cons (pdv 0) (ad_cons (pdv 1) ad_nil)))) sds_bad⟩
theorem ok_count_right (T : Txt K mg a) : FnOk P w K mg base (L2.CX P w) 6 a.f_count_right a.fd_count_right ["camera", "brightness"] (spD K mg 2 F_count_right) :=
  fnD (N := N_count_right) (B := B_count_right) T.F_count_right sc_count_right rfl fun cdv A outer s H E hr => ⟨_, sds_cons (sd_expr (pd_call (ok_check_both T) (hr.mono (by decide)) rfl T.g_check_both T.F_check_both.kp T.b_check_both pX (ad_cons (pdv 0) (ad_cons (pdv 1) ad_nil)))) sds_bad⟩
theorem ok_least_error (T : Txt K mg a) : FnOk P w K mg base (L2.CX P w) 6 a.f_least_error a.fd_least_error ["camera", "brightness"] (spD K mg 2 F_least_error) :=
  fnD (N := N_least_error) (B := B_least_error) T.F_least_error sc_least_error rfl fun cdv A outer s H E hr => ⟨_, sds_cons (sd_expr (pd_call (ok_check_both T) (hr.mono (by decide)) rfl T.g_check_both T.F_check_both.kp T.b_check_both pX (ad_cons (pdv 0) (ad_cons (pdv 1) ad_nil)))) sds_bad⟩
theorem ok_nearest_settings (T : Txt K mg a) : FnOk P w K mg base (L2.CX P w) 6 a.f_nearest_settings a.fd_nearest_settings ["camera", "brightness"] (spD K mg 2 F_nearest_settings) :=
  fnD (N := N_nearest_settings) (B := B_nearest_settings) T.F_nearest_settings sc_nearest_settings rfl fun cdv A outer s H E hr => ⟨_, sds_cons (sd_expr (pd_call (ok_check_both T) (hr.mono (by decide)) rfl T.g_check_both T.F_check_both.kp T.b_check_both pX (ad_cons (pdv 0) (ad_cons (pdv 1) ad_nil)))) sds_bad⟩
theorem ok_wheels_for (T : Txt K mg a) : FnOk P w K mg base (L2.CX P w) 6 a.f_wheels_for a.fd_wheels_for ["camera", "setting", "many", "width"] (spD K mg 4 F_wheels_for) :=
  fnD (N := N_wheels_for) (B := B_wheels_for) T.F_wheels_for sc_wheels_for rfl fun cdv A outer s H E hr => ⟨_, sds_cons (sd_expr (pd_call (ok_check_three T) (hr.mono (by decide)) rfl T.g_check_three T.F_check_three.kp T.b_check_three pX (ad_cons (pdv 0) (ad_cons (pdv 1) (ad_cons (pdv 2) ad_nil))))) (sds_cons (sd_expr (pd_call (ok_check_number T) (hr.mono (by decide)) rfl T.g_check_number T.F_check_number.kp T.b_check_number pX (ad_cons (pdv 3) (ad_cons (pd_gint T.c_MAX_WIDTH) ad_nil)))) sds_bad)⟩
theorem ok_fewest_clicks (T : Txt K mg a) : FnOk P w K mg base (L2.CX P w) 6 a.f_fewest_clicks a.fd_fewest_clicks ["camera", "setting", "brightness"] (spD K mg 3 F_fewest_clicks) :=
  fnD (N := N_fewest_clicks) (B := B_fewest_clicks) T.F_fewest_clicks sc_fewest_clicks rfl fun cdv A outer s H E hr => ⟨_, sds_cons (sd_set (pd_call (ok_find_nearest T) (hr.mono (by decide)) rfl T.g_find_nearest T.F_find_nearest.kp T.b_find_nearest pX (ad_cons (pdv 0) (ad_cons (pdv 1) (ad_cons (pdv 2) ad_nil)))) sc_fewest_clicks.nd rfl) sds_bad⟩
theorem ok_nearest_right (T : Txt K mg a) : FnOk P w K mg base (L2.CX P w) 6 a.f_nearest_right a.fd_nearest_right ["camera", "setting", "brightness"] (spD K mg 3 F_nearest_right) :=
  fnD (N := N_nearest_right) (B := B_nearest_right) T.F_nearest_right sc_nearest_right rfl fun cdv A outer s H E hr => ⟨_, sds_cons (sd_set (pd_call (ok_find_nearest T) (hr.mono (by decide)) rfl T.g_find_nearest T.F_find_nearest.kp T.b_find_nearest pX (ad_cons (pdv 0) (ad_cons (pdv 1) (ad_cons (pdv 2) ad_nil)))) sc_nearest_right.nd rfl) sds_bad⟩
theorem ok_farthest (T : Txt K mg a) : FnOk P w K mg base (L2.CX P w) 6 a.f_farthest a.fd_farthest ["camera", "brightness"] (spD K mg 2 F_farthest) :=
  fnD (N := N_farthest) (B := B_farthest) T.F_farthest sc_farthest rfl fun cdv A outer s H E hr => ⟨_, sds_cons (sd_expr (pd_call (ok_check_both T) (hr.mono (by decide)) rfl T.g_check_both T.F_check_both.kp T.b_check_both pX (ad_cons (pdv 0) (ad_cons (pdv 1) ad_nil)))) sds_bad⟩
theorem ok_shift_groups (T : Txt K mg a) : FnOk P w K mg base (L2.CX P w) 6 a.f_shift_groups a.fd_shift_groups ["camera", "brightness"] (spD K mg 2 F_shift_groups) :=
  fnD (N := N_shift_groups) (B := B_shift_groups) T.F_shift_groups sc_shift_groups rfl fun cdv A outer s H E hr => ⟨_, sds_cons (sd_expr (pd_call (ok_check_both T) (hr.mono (by decide)) rfl T.g_check_both T.F_check_both.kp T.b_check_both pX (ad_cons (pdv 0) (ad_cons (pdv 1) ad_nil)))) sds_bad⟩
theorem ca_law (T : Txt K mg a) : Caught K mg LX (.ref a.C_LightError) := ⟨fun c u hL hm => by
  rcases lx5 hL with rfl | rfl | rfl | rfl | rfl
  · cases hm.symm.trans T.g_InvalidCamera
    exact ⟨_, rfl, T.e_InvalidCamera, T.em_InvalidCamera_LightError⟩
  · cases hm.symm.trans T.g_InvalidSetting
    exact ⟨_, rfl, T.e_InvalidSetting, T.em_InvalidSetting_LightError⟩
  · cases hm.symm.trans T.g_InvalidWheel
    exact ⟨_, rfl, T.e_InvalidWheel, T.em_InvalidWheel_LightError⟩
  · cases hm.symm.trans T.g_InvalidBrightness
    exact ⟨_, rfl, T.e_InvalidBrightness, T.em_InvalidBrightness_LightError⟩
  · cases hm.symm.trans T.g_InvalidNumber
    exact ⟨_, rfl, T.e_InvalidNumber, T.em_InvalidNumber_LightError⟩⟩
theorem kx_law_class_InvalidCamera (T : Txt K mg a) {c : Str} {C : Addr} (hL : LX.contains c = true) (hm : mg c = some (.ref C)) : PySem.W.kitOne K (.ref C) (.ref a.C_InvalidCamera) = some (c == "InvalidCamera") := by
  rcases lx5 hL with rfl | rfl | rfl | rfl | rfl
  · cases hm.symm.trans T.g_InvalidCamera
    rw [show (("InvalidCamera" : Str) == "InvalidCamera") = true from by decide +kernel]
    exact T.kt_InvalidCamera_InvalidCamera
  · cases hm.symm.trans T.g_InvalidSetting
    rw [show (("InvalidSetting" : Str) == "InvalidCamera") = false from by decide +kernel]
    exact T.kt_InvalidSetting_InvalidCamera
  · cases hm.symm.trans T.g_InvalidWheel
    rw [show (("InvalidWheel" : Str) == "InvalidCamera") = false from by decide +kernel]
    exact T.kt_InvalidWheel_InvalidCamera
  · cases hm.symm.trans T.g_InvalidBrightness
    rw [show (("InvalidBrightness" : Str) == "InvalidCamera") = false from by decide +kernel]
    exact T.kt_InvalidBrightness_InvalidCamera
  · cases hm.symm.trans T.g_InvalidNumber
    rw [show (("InvalidNumber" : Str) == "InvalidCamera") = false from by decide +kernel]
    exact T.kt_InvalidNumber_InvalidCamera
theorem kx_law_class_InvalidSetting (T : Txt K mg a) {c : Str} {C : Addr} (hL : LX.contains c = true) (hm : mg c = some (.ref C)) : PySem.W.kitOne K (.ref C) (.ref a.C_InvalidSetting) = some (c == "InvalidSetting") := by
  rcases lx5 hL with rfl | rfl | rfl | rfl | rfl
  · cases hm.symm.trans T.g_InvalidCamera
    rw [show (("InvalidCamera" : Str) == "InvalidSetting") = false from by decide +kernel]
    exact T.kt_InvalidCamera_InvalidSetting
  · cases hm.symm.trans T.g_InvalidSetting
    rw [show (("InvalidSetting" : Str) == "InvalidSetting") = true from by decide +kernel]
    exact T.kt_InvalidSetting_InvalidSetting
  · cases hm.symm.trans T.g_InvalidWheel
    rw [show (("InvalidWheel" : Str) == "InvalidSetting") = false from by decide +kernel]
    exact T.kt_InvalidWheel_InvalidSetting
  · cases hm.symm.trans T.g_InvalidBrightness
    rw [show (("InvalidBrightness" : Str) == "InvalidSetting") = false from by decide +kernel]
    exact T.kt_InvalidBrightness_InvalidSetting
  · cases hm.symm.trans T.g_InvalidNumber
    rw [show (("InvalidNumber" : Str) == "InvalidSetting") = false from by decide +kernel]
    exact T.kt_InvalidNumber_InvalidSetting
theorem kx_law_class_InvalidWheel (T : Txt K mg a) {c : Str} {C : Addr} (hL : LX.contains c = true) (hm : mg c = some (.ref C)) : PySem.W.kitOne K (.ref C) (.ref a.C_InvalidWheel) = some (c == "InvalidWheel") := by
  rcases lx5 hL with rfl | rfl | rfl | rfl | rfl
  · cases hm.symm.trans T.g_InvalidCamera
    rw [show (("InvalidCamera" : Str) == "InvalidWheel") = false from by decide +kernel]
    exact T.kt_InvalidCamera_InvalidWheel
  · cases hm.symm.trans T.g_InvalidSetting
    rw [show (("InvalidSetting" : Str) == "InvalidWheel") = false from by decide +kernel]
    exact T.kt_InvalidSetting_InvalidWheel
  · cases hm.symm.trans T.g_InvalidWheel
    rw [show (("InvalidWheel" : Str) == "InvalidWheel") = true from by decide +kernel]
    exact T.kt_InvalidWheel_InvalidWheel
  · cases hm.symm.trans T.g_InvalidBrightness
    rw [show (("InvalidBrightness" : Str) == "InvalidWheel") = false from by decide +kernel]
    exact T.kt_InvalidBrightness_InvalidWheel
  · cases hm.symm.trans T.g_InvalidNumber
    rw [show (("InvalidNumber" : Str) == "InvalidWheel") = false from by decide +kernel]
    exact T.kt_InvalidNumber_InvalidWheel
theorem kx_law_class_InvalidBrightness (T : Txt K mg a) {c : Str} {C : Addr} (hL : LX.contains c = true) (hm : mg c = some (.ref C)) : PySem.W.kitOne K (.ref C) (.ref a.C_InvalidBrightness) = some (c == "InvalidBrightness") := by
  rcases lx5 hL with rfl | rfl | rfl | rfl | rfl
  · cases hm.symm.trans T.g_InvalidCamera
    rw [show (("InvalidCamera" : Str) == "InvalidBrightness") = false from by decide +kernel]
    exact T.kt_InvalidCamera_InvalidBrightness
  · cases hm.symm.trans T.g_InvalidSetting
    rw [show (("InvalidSetting" : Str) == "InvalidBrightness") = false from by decide +kernel]
    exact T.kt_InvalidSetting_InvalidBrightness
  · cases hm.symm.trans T.g_InvalidWheel
    rw [show (("InvalidWheel" : Str) == "InvalidBrightness") = false from by decide +kernel]
    exact T.kt_InvalidWheel_InvalidBrightness
  · cases hm.symm.trans T.g_InvalidBrightness
    rw [show (("InvalidBrightness" : Str) == "InvalidBrightness") = true from by decide +kernel]
    exact T.kt_InvalidBrightness_InvalidBrightness
  · cases hm.symm.trans T.g_InvalidNumber
    rw [show (("InvalidNumber" : Str) == "InvalidBrightness") = false from by decide +kernel]
    exact T.kt_InvalidNumber_InvalidBrightness
theorem kx_law_class_InvalidNumber (T : Txt K mg a) {c : Str} {C : Addr} (hL : LX.contains c = true) (hm : mg c = some (.ref C)) : PySem.W.kitOne K (.ref C) (.ref a.C_InvalidNumber) = some (c == "InvalidNumber") := by
  rcases lx5 hL with rfl | rfl | rfl | rfl | rfl
  · cases hm.symm.trans T.g_InvalidCamera
    rw [show (("InvalidCamera" : Str) == "InvalidNumber") = false from by decide +kernel]
    exact T.kt_InvalidCamera_InvalidNumber
  · cases hm.symm.trans T.g_InvalidSetting
    rw [show (("InvalidSetting" : Str) == "InvalidNumber") = false from by decide +kernel]
    exact T.kt_InvalidSetting_InvalidNumber
  · cases hm.symm.trans T.g_InvalidWheel
    rw [show (("InvalidWheel" : Str) == "InvalidNumber") = false from by decide +kernel]
    exact T.kt_InvalidWheel_InvalidNumber
  · cases hm.symm.trans T.g_InvalidBrightness
    rw [show (("InvalidBrightness" : Str) == "InvalidNumber") = false from by decide +kernel]
    exact T.kt_InvalidBrightness_InvalidNumber
  · cases hm.symm.trans T.g_InvalidNumber
    rw [show (("InvalidNumber" : Str) == "InvalidNumber") = true from by decide +kernel]
    exact T.kt_InvalidNumber_InvalidNumber
theorem kv_law_class (T : Txt K mg a) {c : Str} {C : Addr} (hL : LX.contains c = true) (hm : mg c = some (.ref C)) : PySem.W.kitOne K (.ref C) (.type "ValueError") = some true := by
  rcases lx5 hL with rfl | rfl | rfl | rfl | rfl
  · cases hm.symm.trans T.g_InvalidCamera
    exact T.kv_InvalidCamera
  · cases hm.symm.trans T.g_InvalidSetting
    exact T.kv_InvalidSetting
  · cases hm.symm.trans T.g_InvalidWheel
    exact T.kv_InvalidWheel
  · cases hm.symm.trans T.g_InvalidBrightness
    exact T.kv_InvalidBrightness
  · cases hm.symm.trans T.g_InvalidNumber
    exact T.kv_InvalidNumber
theorem ok_law_class (T : Txt K mg a) : ClsOk P w K mg base 1 a.f_law_class a.fd_law_class :=
  cls_ok (N := N_law_class) (B := B_law_class) T.F_law_class sc_law_class (fun cdv A outer s H E a C oe c hr hz hf eC hm hL => ⟨_, sds_cons (sd_ownL (ad_cons (pd_isP (List.mem_cons_self) eC hz hf (kx_law_class_InvalidCamera T hL hm) (pv 0) rfl T.m_isinstance rfl T.g_InvalidCamera) (ad_cons (pd_isP (List.mem_cons_self) eC hz hf (kx_law_class_InvalidSetting T hL hm) (pv 0) rfl T.m_isinstance rfl T.g_InvalidSetting) ad_nil)) sc_law_class.nd rfl) (sds_cons (sd_ext' false (pv 1) (pd_lst (ad_cons (pd_isP (List.mem_cons_self) eC hz hf (kx_law_class_InvalidWheel T hL hm) (pv 0) rfl T.m_isinstance rfl T.g_InvalidWheel) (ad_cons (pd_isP (List.mem_cons_self) eC hz hf (kx_law_class_InvalidBrightness T hL hm) (pv 0) rfl T.m_isinstance rfl T.g_InvalidBrightness) ad_nil)))) (sds_cons (sd_ext' false (pv 1) (pd_lst (ad_cons (pd_isP (List.mem_cons_self) eC hz hf (kx_law_class_InvalidNumber T hL hm) (pv 0) rfl T.m_isinstance rfl T.g_InvalidNumber) ad_nil))) (sds_cons (sd_if (WD.td (wd_or (td_cmp (op_neK (hUH hr)) os_ne (pd_count (hUH hr) (pdv 1) pd_bl) pd_int) (wd_or1 (td_not (td_val (pd_isT (T := "ValueError") (List.mem_cons_self) eC hz hf (kv_law_class T hL hm) (pv 0) rfl T.m_isinstance rfl T.m_ValueError bt_ValueError)))))) (sds_one (sd_ret pd_str)) sds_nil) (sds_cons (sd_set (pd_lst (ad_cons pd_str (ad_cons pd_str (ad_cons pd_str (ad_cons pd_str (ad_cons pd_str ad_nil)))))) sc_law_class.nd rfl) (sds_one (sd_frz [1] (sd_ret (pd_ix ix_A os_ix (pdv 2) (pd_index (hUH hr) (pdv 1) pd_bl)))))))))⟩) (fun _ => rfl) (by decide) cls_val
theorem ok_law_result (T : Txt K mg a) : FnOk P w K mg base (L2.CX P w) 8 a.f_law_result a.fd_law_result ["call"] (spRes P w K mg base 6) :=
  fn_res (kk := 7) T.F_law_result sc_law_result rfl rfl rfl rfl rfl T.g_LightError (ca_law T) T.g_law_class (ok_law_class T) T.F_law_class.kp T.b_law_class (by decide) (by decide)
theorem ok_law_all (T : Txt K mg a) : FnOk P w K mg base (L2.CX P w) 9 a.f_law_all a.fd_law_all ["calls", "name"] (spAll P w K mg base 6) :=
  fn_all (kk := 8) (own := [("call", 2)]) T.F_law_all sc_law_all rfl (.inl rfl) rfl T.m_all (blkOk_by (own := [("call", 2)]) (N := N_law_all) (sc := defScope s_law_all) (by decide +kernel)) rfl (fun _ _ _ _ _ _ _ _ _ _ _ => gn 2 sc_law_all.nd) (by first | exact Or.inl rfl | exact Or.inr (Or.inl rfl) | exact Or.inr (Or.inr rfl)) (by first | exact Or.inl rfl | exact Or.inr (Or.inl rfl) | exact Or.inr (Or.inr rfl)) rfl T.g_law_result (ok_law_result T) T.F_law_result.kp T.b_law_result (by decide)
abbrev LL_law_cameras_0 : LS := lamL "_law_cameras.<locals>.<lambda>" (defScope s_law_cameras) (defArgs s_law_cameras) (lamE (stAt (defBody s_law_cameras) 0))
theorem lo_law_cameras_0 (T : Txt K mg a) : LamOk P w K mg base 6 LL_law_cameras_0 ["no"] FE_law_cameras_0 := ⟨nscope_by (by decide +kernel), fun _ _ _ _ => rfl, fun cl c f A outer s H E hr => ⟨_, pd_call (ok_is_setting T) (hr.mono (by decide)) rfl T.g_is_setting T.F_is_setting.kp T.b_is_setting pN (ad_cons (pdv 0) (ad_cons pd_non ad_nil))⟩⟩
abbrev LL_law_cameras_1 : LS := lamL "_law_cameras.<locals>.<lambda>" (defScope s_law_cameras) (defArgs s_law_cameras) (lamE (stAt (defBody s_law_cameras) 1))
theorem lo_law_cameras_1 (T : Txt K mg a) : LamOk P w K mg base 6 LL_law_cameras_1 ["no"] FE_law_cameras_1 := ⟨nscope_by (by decide +kernel), fun _ _ _ _ => rfl, fun cl c f A outer s H E hr => ⟨_, pd_call (ok_values T) (hr.mono (by decide)) rfl T.g_values T.F_values.kp T.b_values pN (ad_cons (pdv 0) (ad_cons pd_non ad_nil))⟩⟩
abbrev LL_law_cameras_2 : LS := lamL "_law_cameras.<locals>.<lambda>" (defScope s_law_cameras) (defArgs s_law_cameras) (lamE (stAt (defBody s_law_cameras) 2))
theorem lo_law_cameras_2 (T : Txt K mg a) : LamOk P w K mg base 6 LL_law_cameras_2 ["no"] FE_law_cameras_2 := ⟨nscope_by (by decide +kernel), fun _ _ _ _ => rfl, fun cl c f A outer s H E hr => ⟨_, pd_call (ok_count_settings T) (hr.mono (by decide)) rfl T.g_count_settings T.F_count_settings.kp T.b_count_settings pN (ad_cons (pdv 0) ad_nil)⟩⟩
abbrev LL_law_cameras_3 : LS := lamL "_law_cameras.<locals>.<lambda>" (defScope s_law_cameras) (defArgs s_law_cameras) (lamE (stAt (defBody s_law_cameras) 3))
theorem lo_law_cameras_3 (T : Txt K mg a) : LamOk P w K mg base 6 LL_law_cameras_3 ["no"] FE_law_cameras_3 := ⟨nscope_by (by decide +kernel), fun _ _ _ _ => rfl, fun cl c f A outer s H E hr => ⟨_, pd_call (ok_exposure T) (hr.mono (by decide)) rfl T.g_exposure T.F_exposure.kp T.b_exposure pN (ad_cons (pdv 0) (ad_cons pd_non ad_nil))⟩⟩
abbrev LL_law_cameras_4 : LS := lamL "_law_cameras.<locals>.<lambda>" (defScope s_law_cameras) (defArgs s_law_cameras) (lamE (stAt (defBody s_law_cameras) 4))
theorem lo_law_cameras_4 (T : Txt K mg a) : LamOk P w K mg base 6 LL_law_cameras_4 ["no"] FE_law_cameras_4 := ⟨nscope_by (by decide +kernel), fun _ _ _ _ => rfl, fun cl c f A outer s H E hr => ⟨_, pd_call (ok_error T) (hr.mono (by decide)) rfl T.g_error T.F_error.kp T.b_error pN (ad_cons (pdv 0) (ad_cons pd_non (ad_cons pd_non ad_nil)))⟩⟩
abbrev LL_law_cameras_5 : LS := lamL "_law_cameras.<locals>.<lambda>" (defScope s_law_cameras) (defArgs s_law_cameras) (lamE (stAt (defBody s_law_cameras) 5))
theorem lo_law_cameras_5 (T : Txt K mg a) : LamOk P w K mg base 6 LL_law_cameras_5 ["no"] FE_law_cameras_5 := ⟨nscope_by (by decide +kernel), fun _ _ _ _ => rfl, fun cl c f A outer s H E hr => ⟨_, pd_call (ok_right_settings T) (hr.mono (by decide)) rfl T.g_right_settings T.F_right_settings.kp T.b_right_settings pN (ad_cons (pdv 0) (ad_cons pd_non ad_nil))⟩⟩
abbrev LL_law_cameras_6 : LS := lamL "_law_cameras.<locals>.<lambda>" (defScope s_law_cameras) (defArgs s_law_cameras) (lamE (stAt (defBody s_law_cameras) 6))
theorem lo_law_cameras_6 (T : Txt K mg a) : LamOk P w K mg base 6 LL_law_cameras_6 ["no"] FE_law_cameras_6 := ⟨nscope_by (by decide +kernel), fun _ _ _ _ => rfl, fun cl c f A outer s H E hr => ⟨_, pd_call (ok_count_right T) (hr.mono (by decide)) rfl T.g_count_right T.F_count_right.kp T.b_count_right pN (ad_cons (pdv 0) (ad_cons pd_non ad_nil))⟩⟩
abbrev LL_law_cameras_7 : LS := lamL "_law_cameras.<locals>.<lambda>" (defScope s_law_cameras) (defArgs s_law_cameras) (lamE (stAt (defBody s_law_cameras) 7))
theorem lo_law_cameras_7 (T : Txt K mg a) : LamOk P w K mg base 6 LL_law_cameras_7 ["no"] FE_law_cameras_7 := ⟨nscope_by (by decide +kernel), fun _ _ _ _ => rfl, fun cl c f A outer s H E hr => ⟨_, pd_call (ok_reach T) (hr.mono (by decide)) rfl T.g_reach T.F_reach.kp T.b_reach pN (ad_cons (pdv 0) ad_nil)⟩⟩
abbrev LL_law_cameras_8 : LS := lamL "_law_cameras.<locals>.<lambda>" (defScope s_law_cameras) (defArgs s_law_cameras) (lamE (stAt (defBody s_law_cameras) 8))
theorem lo_law_cameras_8 (T : Txt K mg a) : LamOk P w K mg base 6 LL_law_cameras_8 ["no"] FE_law_cameras_8 := ⟨nscope_by (by decide +kernel), fun _ _ _ _ => rfl, fun cl c f A outer s H E hr => ⟨_, pd_call (ok_reachable T) (hr.mono (by decide)) rfl T.g_reachable T.F_reachable.kp T.b_reachable pN (ad_cons (pdv 0) ad_nil)⟩⟩
abbrev LL_law_cameras_9 : LS := lamL "_law_cameras.<locals>.<lambda>" (defScope s_law_cameras) (defArgs s_law_cameras) (lamE (stAt (defBody s_law_cameras) 9))
theorem lo_law_cameras_9 (T : Txt K mg a) : LamOk P w K mg base 6 LL_law_cameras_9 ["no"] FE_law_cameras_9 := ⟨nscope_by (by decide +kernel), fun _ _ _ _ => rfl, fun cl c f A outer s H E hr => ⟨_, pd_call (ok_commonest T) (hr.mono (by decide)) rfl T.g_commonest T.F_commonest.kp T.b_commonest pN (ad_cons (pdv 0) ad_nil)⟩⟩
abbrev LL_law_cameras_10 : LS := lamL "_law_cameras.<locals>.<lambda>" (defScope s_law_cameras) (defArgs s_law_cameras) (lamE (stAt (defBody s_law_cameras) 10))
theorem lo_law_cameras_10 (T : Txt K mg a) : LamOk P w K mg base 6 LL_law_cameras_10 ["no"] FE_law_cameras_10 := ⟨nscope_by (by decide +kernel), fun _ _ _ _ => rfl, fun cl c f A outer s H E hr => ⟨_, pd_call (ok_gaps T) (hr.mono (by decide)) rfl T.g_gaps T.F_gaps.kp T.b_gaps pN (ad_cons (pdv 0) ad_nil)⟩⟩
abbrev LL_law_cameras_11 : LS := lamL "_law_cameras.<locals>.<lambda>" (defScope s_law_cameras) (defArgs s_law_cameras) (lamE (stAt (defBody s_law_cameras) 11))
theorem lo_law_cameras_11 (T : Txt K mg a) : LamOk P w K mg base 6 LL_law_cameras_11 ["no"] FE_law_cameras_11 := ⟨nscope_by (by decide +kernel), fun _ _ _ _ => rfl, fun cl c f A outer s H E hr => ⟨_, pd_call (ok_least_error T) (hr.mono (by decide)) rfl T.g_least_error T.F_least_error.kp T.b_least_error pN (ad_cons (pdv 0) (ad_cons pd_non ad_nil))⟩⟩
abbrev LL_law_cameras_12 : LS := lamL "_law_cameras.<locals>.<lambda>" (defScope s_law_cameras) (defArgs s_law_cameras) (lamE (stAt (defBody s_law_cameras) 12))
theorem lo_law_cameras_12 (T : Txt K mg a) : LamOk P w K mg base 6 LL_law_cameras_12 ["no"] FE_law_cameras_12 := ⟨nscope_by (by decide +kernel), fun _ _ _ _ => rfl, fun cl c f A outer s H E hr => ⟨_, pd_call (ok_nearest_settings T) (hr.mono (by decide)) rfl T.g_nearest_settings T.F_nearest_settings.kp T.b_nearest_settings pN (ad_cons (pdv 0) (ad_cons pd_non ad_nil))⟩⟩
abbrev LL_law_cameras_13 : LS := lamL "_law_cameras.<locals>.<lambda>" (defScope s_law_cameras) (defArgs s_law_cameras) (lamE (stAt (defBody s_law_cameras) 13))
theorem lo_law_cameras_13 (T : Txt K mg a) : LamOk P w K mg base 6 LL_law_cameras_13 ["no"] FE_law_cameras_13 := ⟨nscope_by (by decide +kernel), fun _ _ _ _ => rfl, fun cl c f A outer s H E hr => ⟨_, pd_call (ok_worst_brightness T) (hr.mono (by decide)) rfl T.g_worst_brightness T.F_worst_brightness.kp T.b_worst_brightness pN (ad_cons (pdv 0) ad_nil)⟩⟩
abbrev LL_law_cameras_14 : LS := lamL "_law_cameras.<locals>.<lambda>" (defScope s_law_cameras) (defArgs s_law_cameras) (lamE (stAt (defBody s_law_cameras) 14))
theorem lo_law_cameras_14 (T : Txt K mg a) : LamOk P w K mg base 6 LL_law_cameras_14 ["no"] FE_law_cameras_14 := ⟨nscope_by (by decide +kernel), fun _ _ _ _ => rfl, fun cl c f A outer s H E hr => ⟨_, pd_call (ok_clicks T) (hr.mono (by decide)) rfl T.g_clicks T.F_clicks.kp T.b_clicks pN (ad_cons (pdv 0) (ad_cons pd_non (ad_cons pd_non ad_nil)))⟩⟩
abbrev LL_law_cameras_15 : LS := lamL "_law_cameras.<locals>.<lambda>" (defScope s_law_cameras) (defArgs s_law_cameras) (lamE (stAt (defBody s_law_cameras) 15))
theorem lo_law_cameras_15 (T : Txt K mg a) : LamOk P w K mg base 6 LL_law_cameras_15 ["no"] FE_law_cameras_15 := ⟨nscope_by (by decide +kernel), fun _ _ _ _ => rfl, fun cl c f A outer s H E hr => ⟨_, pd_call (ok_fewest_clicks T) (hr.mono (by decide)) rfl T.g_fewest_clicks T.F_fewest_clicks.kp T.b_fewest_clicks pN (ad_cons (pdv 0) (ad_cons pd_non (ad_cons pd_non ad_nil)))⟩⟩
abbrev LL_law_cameras_16 : LS := lamL "_law_cameras.<locals>.<lambda>" (defScope s_law_cameras) (defArgs s_law_cameras) (lamE (stAt (defBody s_law_cameras) 16))
theorem lo_law_cameras_16 (T : Txt K mg a) : LamOk P w K mg base 6 LL_law_cameras_16 ["no"] FE_law_cameras_16 := ⟨nscope_by (by decide +kernel), fun _ _ _ _ => rfl, fun cl c f A outer s H E hr => ⟨_, pd_call (ok_nearest_right T) (hr.mono (by decide)) rfl T.g_nearest_right T.F_nearest_right.kp T.b_nearest_right pN (ad_cons (pdv 0) (ad_cons pd_non (ad_cons pd_non ad_nil)))⟩⟩
abbrev LL_law_cameras_17 : LS := lamL "_law_cameras.<locals>.<lambda>" (defScope s_law_cameras) (defArgs s_law_cameras) (lamE (stAt (defBody s_law_cameras) 17))
theorem lo_law_cameras_17 (T : Txt K mg a) : LamOk P w K mg base 6 LL_law_cameras_17 ["no"] FE_law_cameras_17 := ⟨nscope_by (by decide +kernel), fun _ _ _ _ => rfl, fun cl c f A outer s H E hr => ⟨_, pd_call (ok_farthest T) (hr.mono (by decide)) rfl T.g_farthest T.F_farthest.kp T.b_farthest pN (ad_cons (pdv 0) (ad_cons pd_non ad_nil))⟩⟩
abbrev LL_law_cameras_18 : LS := lamL "_law_cameras.<locals>.<lambda>" (defScope s_law_cameras) (defArgs s_law_cameras) (lamE (stAt (defBody s_law_cameras) 18))
theorem lo_law_cameras_18 (T : Txt K mg a) : LamOk P w K mg base 6 LL_law_cameras_18 ["no"] FE_law_cameras_18 := ⟨nscope_by (by decide +kernel), fun _ _ _ _ => rfl, fun cl c f A outer s H E hr => ⟨_, pd_call (ok_shifts T) (hr.mono (by decide)) rfl T.g_shifts T.F_shifts.kp T.b_shifts pN (ad_cons (pdv 0) (ad_cons pd_non ad_nil))⟩⟩
abbrev LL_law_cameras_19 : LS := lamL "_law_cameras.<locals>.<lambda>" (defScope s_law_cameras) (defArgs s_law_cameras) (lamE (stAt (defBody s_law_cameras) 19))
theorem lo_law_cameras_19 (T : Txt K mg a) : LamOk P w K mg base 6 LL_law_cameras_19 ["no"] FE_law_cameras_19 := ⟨nscope_by (by decide +kernel), fun _ _ _ _ => rfl, fun cl c f A outer s H E hr => ⟨_, pd_call (ok_fewest_shifts T) (hr.mono (by decide)) rfl T.g_fewest_shifts T.F_fewest_shifts.kp T.b_fewest_shifts pN (ad_cons (pdv 0) (ad_cons pd_non (ad_cons pd_non ad_nil)))⟩⟩
abbrev LL_law_cameras_20 : LS := lamL "_law_cameras.<locals>.<lambda>" (defScope s_law_cameras) (defArgs s_law_cameras) (lamE (stAt (defBody s_law_cameras) 20))
theorem lo_law_cameras_20 (T : Txt K mg a) : LamOk P w K mg base 6 LL_law_cameras_20 ["no"] FE_law_cameras_20 := ⟨nscope_by (by decide +kernel), fun _ _ _ _ => rfl, fun cl c f A outer s H E hr => ⟨_, pd_call (ok_shift_groups T) (hr.mono (by decide)) rfl T.g_shift_groups T.F_shift_groups.kp T.b_shift_groups pN (ad_cons (pdv 0) (ad_cons pd_non ad_nil))⟩⟩
abbrev LL_law_cameras_21 : LS := lamL "_law_cameras.<locals>.<lambda>" (defScope s_law_cameras) (defArgs s_law_cameras) (lamE (stAt (defBody s_law_cameras) 21))
theorem lo_law_cameras_21 (T : Txt K mg a) : LamOk P w K mg base 6 LL_law_cameras_21 ["no"] FE_law_cameras_21 := ⟨nscope_by (by decide +kernel), fun _ _ _ _ => rfl, fun cl c f A outer s H E hr => ⟨_, pd_call (ok_bracket T) (hr.mono (by decide)) rfl T.g_bracket T.F_bracket.kp T.b_bracket pN (ad_cons (pdv 0) (ad_cons pd_non (ad_cons pd_non (ad_cons pd_int (ad_cons pd_int ad_nil)))))⟩⟩
abbrev LL_law_cameras_22 : LS := lamL "_law_cameras.<locals>.<lambda>" (defScope s_law_cameras) (defArgs s_law_cameras) (lamE (stAt (defBody s_law_cameras) 22))
theorem lo_law_cameras_22 (T : Txt K mg a) : LamOk P w K mg base 6 LL_law_cameras_22 ["no"] FE_law_cameras_22 := ⟨nscope_by (by decide +kernel), fun _ _ _ _ => rfl, fun cl c f A outer s H E hr => ⟨_, pd_call (ok_wheels_for T) (hr.mono (by decide)) rfl T.g_wheels_for T.F_wheels_for.kp T.b_wheels_for pN (ad_cons (pdv 0) (ad_cons pd_non (ad_cons pd_int (ad_cons pd_int ad_nil))))⟩⟩
abbrev LL_law_cameras_23 : LS := lamL "_law_cameras.<locals>.<lambda>" (defScope s_law_cameras) (defArgs s_law_cameras) (lamE (stAt (defBody s_law_cameras) 23))
theorem lo_law_cameras_23 (T : Txt K mg a) : LamOk P w K mg base 6 LL_law_cameras_23 ["no"] FE_law_cameras_23 := ⟨nscope_by (by decide +kernel), fun _ _ _ _ => rfl, fun cl c f A outer s H E hr => ⟨_, pd_call (ok_widest T) (hr.mono (by decide)) rfl T.g_widest T.F_widest.kp T.b_widest pN (ad_cons (pdv 0) (ad_cons pd_non (ad_cons pd_non (ad_cons pd_int ad_nil))))⟩⟩
abbrev LL_law_set_0 : LS := lamL "_law_set.<locals>.<lambda>" (defScope s_law_set) (defArgs s_law_set) (lamE (stAt (defBody s_law_set) 0))
theorem lo_law_set_0 (T : Txt K mg a) : LamOk P w K mg base 6 LL_law_set_0 ["box", "no"] FE_law_set_0 := ⟨nscope_by (by decide +kernel), fun _ _ _ _ => rfl, fun cl c f A outer s H E hr => ⟨_, pd_call (ok_exposure T) (hr.mono (by decide)) rfl T.g_exposure T.F_exposure.kp T.b_exposure pN (ad_cons (pdv 0) (ad_cons (pdv 1) ad_nil))⟩⟩
abbrev LL_law_set_1 : LS := lamL "_law_set.<locals>.<lambda>" (defScope s_law_set) (defArgs s_law_set) (lamE (stAt (defBody s_law_set) 1))
theorem lo_law_set_1 (T : Txt K mg a) : LamOk P w K mg base 6 LL_law_set_1 ["box", "no"] FE_law_set_1 := ⟨nscope_by (by decide +kernel), fun _ _ _ _ => rfl, fun cl c f A outer s H E hr => ⟨_, pd_call (ok_error T) (hr.mono (by decide)) rfl T.g_error T.F_error.kp T.b_error pN (ad_cons (pdv 0) (ad_cons (pdv 1) (ad_cons pd_non ad_nil)))⟩⟩
abbrev LL_law_set_2 : LS := lamL "_law_set.<locals>.<lambda>" (defScope s_law_set) (defArgs s_law_set) (lamE (stAt (defBody s_law_set) 2))
theorem lo_law_set_2 (T : Txt K mg a) : LamOk P w K mg base 6 LL_law_set_2 ["box", "no"] FE_law_set_2 := ⟨nscope_by (by decide +kernel), fun _ _ _ _ => rfl, fun cl c f A outer s H E hr => ⟨_, pd_call (ok_clicks T) (hr.mono (by decide)) rfl T.g_clicks T.F_clicks.kp T.b_clicks pN (ad_cons (pdv 0) (ad_cons (pdv 1) (ad_cons pd_non ad_nil)))⟩⟩
abbrev LL_law_set_3 : LS := lamL "_law_set.<locals>.<lambda>" (defScope s_law_set) (defArgs s_law_set) (lamE (stAt (defBody s_law_set) 3))
theorem lo_law_set_3 (T : Txt K mg a) : LamOk P w K mg base 6 LL_law_set_3 ["box", "one", "no"] FE_law_set_3 := ⟨nscope_by (by decide +kernel), fun _ _ _ _ => rfl, fun cl c f A outer s H E hr => ⟨_, pd_call (ok_clicks T) (hr.mono (by decide)) rfl T.g_clicks T.F_clicks.kp T.b_clicks pN (ad_cons (pdv 0) (ad_cons (pdv 1) (ad_cons (pdv 2) ad_nil)))⟩⟩
abbrev LL_law_set_4 : LS := lamL "_law_set.<locals>.<lambda>" (defScope s_law_set) (defArgs s_law_set) (lamE (stAt (defBody s_law_set) 4))
theorem lo_law_set_4 (T : Txt K mg a) : LamOk P w K mg base 6 LL_law_set_4 ["box", "no"] FE_law_set_4 := ⟨nscope_by (by decide +kernel), fun _ _ _ _ => rfl, fun cl c f A outer s H E hr => ⟨_, pd_call (ok_fewest_clicks T) (hr.mono (by decide)) rfl T.g_fewest_clicks T.F_fewest_clicks.kp T.b_fewest_clicks pN (ad_cons (pdv 0) (ad_cons (pdv 1) (ad_cons pd_non ad_nil)))⟩⟩
abbrev LL_law_set_5 : LS := lamL "_law_set.<locals>.<lambda>" (defScope s_law_set) (defArgs s_law_set) (lamE (stAt (defBody s_law_set) 5))
theorem lo_law_set_5 (T : Txt K mg a) : LamOk P w K mg base 6 LL_law_set_5 ["box", "no"] FE_law_set_5 := ⟨nscope_by (by decide +kernel), fun _ _ _ _ => rfl, fun cl c f A outer s H E hr => ⟨_, pd_call (ok_nearest_right T) (hr.mono (by decide)) rfl T.g_nearest_right T.F_nearest_right.kp T.b_nearest_right pN (ad_cons (pdv 0) (ad_cons (pdv 1) (ad_cons pd_non ad_nil)))⟩⟩
abbrev LL_law_set_6 : LS := lamL "_law_set.<locals>.<lambda>" (defScope s_law_set) (defArgs s_law_set) (lamE (stAt (defBody s_law_set) 6))
theorem lo_law_set_6 (T : Txt K mg a) : LamOk P w K mg base 6 LL_law_set_6 ["box", "no"] FE_law_set_6 := ⟨nscope_by (by decide +kernel), fun _ _ _ _ => rfl, fun cl c f A outer s H E hr => ⟨_, pd_call (ok_shifts T) (hr.mono (by decide)) rfl T.g_shifts T.F_shifts.kp T.b_shifts pN (ad_cons (pdv 0) (ad_cons (pdv 1) ad_nil))⟩⟩
abbrev LL_law_set_7 : LS := lamL "_law_set.<locals>.<lambda>" (defScope s_law_set) (defArgs s_law_set) (lamE (stAt (defBody s_law_set) 7))
theorem lo_law_set_7 (T : Txt K mg a) : LamOk P w K mg base 6 LL_law_set_7 ["box", "no"] FE_law_set_7 := ⟨nscope_by (by decide +kernel), fun _ _ _ _ => rfl, fun cl c f A outer s H E hr => ⟨_, pd_call (ok_fewest_shifts T) (hr.mono (by decide)) rfl T.g_fewest_shifts T.F_fewest_shifts.kp T.b_fewest_shifts pN (ad_cons (pdv 0) (ad_cons (pdv 1) (ad_cons pd_non ad_nil)))⟩⟩
abbrev LL_law_set_8 : LS := lamL "_law_set.<locals>.<lambda>" (defScope s_law_set) (defArgs s_law_set) (lamE (stAt (defBody s_law_set) 8))
theorem lo_law_set_8 (T : Txt K mg a) : LamOk P w K mg base 6 LL_law_set_8 ["box", "one", "no"] FE_law_set_8 := ⟨nscope_by (by decide +kernel), fun _ _ _ _ => rfl, fun cl c f A outer s H E hr => ⟨_, pd_call (ok_fewest_shifts T) (hr.mono (by decide)) rfl T.g_fewest_shifts T.F_fewest_shifts.kp T.b_fewest_shifts pN (ad_cons (pdv 0) (ad_cons (pdv 1) (ad_cons (pdv 2) ad_nil)))⟩⟩
abbrev LL_law_set_9 : LS := lamL "_law_set.<locals>.<lambda>" (defScope s_law_set) (defArgs s_law_set) (lamE (stAt (defBody s_law_set) 9))
theorem lo_law_set_9 (T : Txt K mg a) : LamOk P w K mg base 6 LL_law_set_9 ["box", "no"] FE_law_set_9 := ⟨nscope_by (by decide +kernel), fun _ _ _ _ => rfl, fun cl c f A outer s H E hr => ⟨_, pd_call (ok_bracket T) (hr.mono (by decide)) rfl T.g_bracket T.F_bracket.kp T.b_bracket pN (ad_cons (pdv 0) (ad_cons (pdv 1) (ad_cons pd_non (ad_cons pd_int (ad_cons pd_int ad_nil)))))⟩⟩
abbrev LL_law_set_10 : LS := lamL "_law_set.<locals>.<lambda>" (defScope s_law_set) (defArgs s_law_set) (lamE (stAt (defBody s_law_set) 10))
theorem lo_law_set_10 (T : Txt K mg a) : LamOk P w K mg base 6 LL_law_set_10 ["box", "no"] FE_law_set_10 := ⟨nscope_by (by decide +kernel), fun _ _ _ _ => rfl, fun cl c f A outer s H E hr => ⟨_, pd_call (ok_wheels_for T) (hr.mono (by decide)) rfl T.g_wheels_for T.F_wheels_for.kp T.b_wheels_for pN (ad_cons (pdv 0) (ad_cons (pdv 1) (ad_cons pd_int (ad_cons pd_int ad_nil))))⟩⟩
abbrev LL_law_set_11 : LS := lamL "_law_set.<locals>.<lambda>" (defScope s_law_set) (defArgs s_law_set) (lamE (stAt (defBody s_law_set) 11))
theorem lo_law_set_11 (T : Txt K mg a) : LamOk P w K mg base 6 LL_law_set_11 ["box", "no"] FE_law_set_11 := ⟨nscope_by (by decide +kernel), fun _ _ _ _ => rfl, fun cl c f A outer s H E hr => ⟨_, pd_call (ok_widest T) (hr.mono (by decide)) rfl T.g_widest T.F_widest.kp T.b_widest pN (ad_cons (pdv 0) (ad_cons (pdv 1) (ad_cons pd_non (ad_cons pd_int ad_nil))))⟩⟩
abbrev LL_law_lit_0 : LS := lamL "_law_lit.<locals>.<lambda>" (defScope s_law_lit) (defArgs s_law_lit) (lamE (stAt (defBody s_law_lit) 0))
theorem lo_law_lit_0 (T : Txt K mg a) : LamOk P w K mg base 6 LL_law_lit_0 ["box", "one", "no"] FE_law_lit_0 := ⟨nscope_by (by decide +kernel), fun _ _ _ _ => rfl, fun cl c f A outer s H E hr => ⟨_, pd_call (ok_error T) (hr.mono (by decide)) rfl T.g_error T.F_error.kp T.b_error pN (ad_cons (pdv 0) (ad_cons (pdv 1) (ad_cons (pdv 2) ad_nil)))⟩⟩
abbrev LL_law_lit_1 : LS := lamL "_law_lit.<locals>.<lambda>" (defScope s_law_lit) (defArgs s_law_lit) (lamE (stAt (defBody s_law_lit) 1))
theorem lo_law_lit_1 (T : Txt K mg a) : LamOk P w K mg base 6 LL_law_lit_1 ["box", "no"] FE_law_lit_1 := ⟨nscope_by (by decide +kernel), fun _ _ _ _ => rfl, fun cl c f A outer s H E hr => ⟨_, pd_call (ok_right_settings T) (hr.mono (by decide)) rfl T.g_right_settings T.F_right_settings.kp T.b_right_settings pN (ad_cons (pdv 0) (ad_cons (pdv 1) ad_nil))⟩⟩
abbrev LL_law_lit_2 : LS := lamL "_law_lit.<locals>.<lambda>" (defScope s_law_lit) (defArgs s_law_lit) (lamE (stAt (defBody s_law_lit) 2))
theorem lo_law_lit_2 (T : Txt K mg a) : LamOk P w K mg base 6 LL_law_lit_2 ["box", "no"] FE_law_lit_2 := ⟨nscope_by (by decide +kernel), fun _ _ _ _ => rfl, fun cl c f A outer s H E hr => ⟨_, pd_call (ok_count_right T) (hr.mono (by decide)) rfl T.g_count_right T.F_count_right.kp T.b_count_right pN (ad_cons (pdv 0) (ad_cons (pdv 1) ad_nil))⟩⟩
abbrev LL_law_lit_3 : LS := lamL "_law_lit.<locals>.<lambda>" (defScope s_law_lit) (defArgs s_law_lit) (lamE (stAt (defBody s_law_lit) 3))
theorem lo_law_lit_3 (T : Txt K mg a) : LamOk P w K mg base 6 LL_law_lit_3 ["box", "no"] FE_law_lit_3 := ⟨nscope_by (by decide +kernel), fun _ _ _ _ => rfl, fun cl c f A outer s H E hr => ⟨_, pd_call (ok_least_error T) (hr.mono (by decide)) rfl T.g_least_error T.F_least_error.kp T.b_least_error pN (ad_cons (pdv 0) (ad_cons (pdv 1) ad_nil))⟩⟩
abbrev LL_law_lit_4 : LS := lamL "_law_lit.<locals>.<lambda>" (defScope s_law_lit) (defArgs s_law_lit) (lamE (stAt (defBody s_law_lit) 4))
theorem lo_law_lit_4 (T : Txt K mg a) : LamOk P w K mg base 6 LL_law_lit_4 ["box", "no"] FE_law_lit_4 := ⟨nscope_by (by decide +kernel), fun _ _ _ _ => rfl, fun cl c f A outer s H E hr => ⟨_, pd_call (ok_nearest_settings T) (hr.mono (by decide)) rfl T.g_nearest_settings T.F_nearest_settings.kp T.b_nearest_settings pN (ad_cons (pdv 0) (ad_cons (pdv 1) ad_nil))⟩⟩
abbrev LL_law_lit_5 : LS := lamL "_law_lit.<locals>.<lambda>" (defScope s_law_lit) (defArgs s_law_lit) (lamE (stAt (defBody s_law_lit) 5))
theorem lo_law_lit_5 (T : Txt K mg a) : LamOk P w K mg base 6 LL_law_lit_5 ["box", "one", "no"] FE_law_lit_5 := ⟨nscope_by (by decide +kernel), fun _ _ _ _ => rfl, fun cl c f A outer s H E hr => ⟨_, pd_call (ok_fewest_clicks T) (hr.mono (by decide)) rfl T.g_fewest_clicks T.F_fewest_clicks.kp T.b_fewest_clicks pN (ad_cons (pdv 0) (ad_cons (pdv 1) (ad_cons (pdv 2) ad_nil)))⟩⟩
abbrev LL_law_lit_6 : LS := lamL "_law_lit.<locals>.<lambda>" (defScope s_law_lit) (defArgs s_law_lit) (lamE (stAt (defBody s_law_lit) 6))
theorem lo_law_lit_6 (T : Txt K mg a) : LamOk P w K mg base 6 LL_law_lit_6 ["box", "one", "no"] FE_law_lit_6 := ⟨nscope_by (by decide +kernel), fun _ _ _ _ => rfl, fun cl c f A outer s H E hr => ⟨_, pd_call (ok_nearest_right T) (hr.mono (by decide)) rfl T.g_nearest_right T.F_nearest_right.kp T.b_nearest_right pN (ad_cons (pdv 0) (ad_cons (pdv 1) (ad_cons (pdv 2) ad_nil)))⟩⟩
abbrev LL_law_lit_7 : LS := lamL "_law_lit.<locals>.<lambda>" (defScope s_law_lit) (defArgs s_law_lit) (lamE (stAt (defBody s_law_lit) 7))
theorem lo_law_lit_7 (T : Txt K mg a) : LamOk P w K mg base 6 LL_law_lit_7 ["box", "no"] FE_law_lit_7 := ⟨nscope_by (by decide +kernel), fun _ _ _ _ => rfl, fun cl c f A outer s H E hr => ⟨_, pd_call (ok_farthest T) (hr.mono (by decide)) rfl T.g_farthest T.F_farthest.kp T.b_farthest pN (ad_cons (pdv 0) (ad_cons (pdv 1) ad_nil))⟩⟩
abbrev LL_law_lit_8 : LS := lamL "_law_lit.<locals>.<lambda>" (defScope s_law_lit) (defArgs s_law_lit) (lamE (stAt (defBody s_law_lit) 8))
theorem lo_law_lit_8 (T : Txt K mg a) : LamOk P w K mg base 6 LL_law_lit_8 ["box", "no"] FE_law_lit_8 := ⟨nscope_by (by decide +kernel), fun _ _ _ _ => rfl, fun cl c f A outer s H E hr => ⟨_, pd_call (ok_shift_groups T) (hr.mono (by decide)) rfl T.g_shift_groups T.F_shift_groups.kp T.b_shift_groups pN (ad_cons (pdv 0) (ad_cons (pdv 1) ad_nil))⟩⟩
abbrev LL_law_0 : LS := lamL "law.<locals>.<lambda>" (defScope s_law) (defArgs s_law) (lamE (stAt (forBody (stAt (defBody s_law) 9)) 0))
theorem lo_law_0 (T : Txt K mg a) : LamOk P w K mg base 6 LL_law_0 ["box", "name"] FE_law_0 := ⟨nscope_by (by decide +kernel), fun _ _ _ _ => rfl, fun cl c f A outer s H E hr => ⟨_, pd_call (ok_values T) (hr.mono (by decide)) rfl T.g_values T.F_values.kp T.b_values pN (ad_cons (pdv 0) (ad_cons (pdv 1) ad_nil))⟩⟩
abbrev LL_law_1 : LS := lamL "law.<locals>.<lambda>" (defScope s_law) (defArgs s_law) (lamE (stAt (forBody (stAt (defBody s_law) 9)) 1))
theorem lo_law_1 (T : Txt K mg a) : LamOk P w K mg base 6 LL_law_1 ["box", "one", "name"] FE_law_1 := ⟨nscope_by (by decide +kernel), fun _ _ _ _ => rfl, fun cl c f A outer s H E hr => ⟨_, pd_call (ok_bracket T) (hr.mono (by decide)) rfl T.g_bracket T.F_bracket.kp T.b_bracket pN (ad_cons (pdv 0) (ad_cons (pdv 1) (ad_cons (pdv 2) (ad_cons pd_int (ad_cons pd_int ad_nil)))))⟩⟩
abbrev LL_law_2 : LS := lamL "law.<locals>.<lambda>" (defScope s_law) (defArgs s_law) (lamE (stAt (forBody (stAt (defBody s_law) 9)) 2))
theorem lo_law_2 (T : Txt K mg a) : LamOk P w K mg base 6 LL_law_2 ["box", "one", "name"] FE_law_2 := ⟨nscope_by (by decide +kernel), fun _ _ _ _ => rfl, fun cl c f A outer s H E hr => ⟨_, pd_call (ok_widest T) (hr.mono (by decide)) rfl T.g_widest T.F_widest.kp T.b_widest pN (ad_cons (pdv 0) (ad_cons (pdv 1) (ad_cons (pdv 2) (ad_cons pd_int ad_nil))))⟩⟩
abbrev LL_law_3 : LS := lamL "law.<locals>.<lambda>" (defScope s_law) (defArgs s_law) (lamE (stAt (defBody s_law) 10))
theorem lo_law_3 (T : Txt K mg a) : LamOk P w K mg base 6 LL_law_3 ["box", "one"] FE_law_3 := ⟨nscope_by (by decide +kernel), fun _ _ _ _ => rfl, fun cl c f A outer s H E hr => ⟨_, pd_call (ok_bracket T) (hr.mono (by decide)) rfl T.g_bracket T.F_bracket.kp T.b_bracket pN (ad_cons (pdv 0) (ad_cons (pdv 1) (ad_cons pd_str (ad_cons pd_int (ad_cons pd_int ad_nil)))))⟩⟩
abbrev LL_law_4 : LS := lamL "law.<locals>.<lambda>" (defScope s_law) (defArgs s_law) (lamE (stAt (defBody s_law) 11))
theorem lo_law_4 (T : Txt K mg a) : LamOk P w K mg base 6 LL_law_4 ["box", "one"] FE_law_4 := ⟨nscope_by (by decide +kernel), fun _ _ _ _ => rfl, fun cl c f A outer s H E hr => ⟨_, pd_call (ok_bracket T) (hr.mono (by decide)) rfl T.g_bracket T.F_bracket.kp T.b_bracket pN (ad_cons (pdv 0) (ad_cons (pdv 1) (ad_cons pd_str (ad_cons pd_int (ad_cons pd_int ad_nil)))))⟩⟩
abbrev LL_law_5 : LS := lamL "law.<locals>.<lambda>" (defScope s_law) (defArgs s_law) (lamE (stAt (defBody s_law) 12))
theorem lo_law_5 (T : Txt K mg a) : LamOk P w K mg base 6 LL_law_5 ["box", "one"] FE_law_5 := ⟨nscope_by (by decide +kernel), fun _ _ _ _ => rfl, fun cl c f A outer s H E hr => ⟨_, pd_call (ok_bracket T) (hr.mono (by decide)) rfl T.g_bracket T.F_bracket.kp T.b_bracket pN (ad_cons (pdv 0) (ad_cons (pdv 1) (ad_cons pd_str (ad_cons pd_int (ad_cons pd_int ad_nil)))))⟩⟩
abbrev LL_law_6 : LS := lamL "law.<locals>.<lambda>" (defScope s_law) (defArgs s_law) (lamE (stAt (defBody s_law) 13))
theorem lo_law_6 (T : Txt K mg a) : LamOk P w K mg base 6 LL_law_6 ["box", "one"] FE_law_6 := ⟨nscope_by (by decide +kernel), fun _ _ _ _ => rfl, fun cl c f A outer s H E hr => ⟨_, pd_call (ok_bracket T) (hr.mono (by decide)) rfl T.g_bracket T.F_bracket.kp T.b_bracket pN (ad_cons (pdv 0) (ad_cons (pdv 1) (ad_cons pd_str (ad_cons pd_int (ad_cons pd_bl ad_nil)))))⟩⟩
abbrev LL_law_7 : LS := lamL "law.<locals>.<lambda>" (defScope s_law) (defArgs s_law) (lamE (stAt (defBody s_law) 14))
theorem lo_law_7 (T : Txt K mg a) : LamOk P w K mg base 6 LL_law_7 ["box", "one"] FE_law_7 := ⟨nscope_by (by decide +kernel), fun _ _ _ _ => rfl, fun cl c f A outer s H E hr => ⟨_, pd_call (ok_wheels_for T) (hr.mono (by decide)) rfl T.g_wheels_for T.F_wheels_for.kp T.b_wheels_for pN (ad_cons (pdv 0) (ad_cons (pdv 1) (ad_cons pd_int (ad_cons pd_int ad_nil))))⟩⟩
abbrev LL_law_8 : LS := lamL "law.<locals>.<lambda>" (defScope s_law) (defArgs s_law) (lamE (stAt (defBody s_law) 15))
theorem lo_law_8 (T : Txt K mg a) : LamOk P w K mg base 6 LL_law_8 ["box", "one"] FE_law_8 := ⟨nscope_by (by decide +kernel), fun _ _ _ _ => rfl, fun cl c f A outer s H E hr => ⟨_, pd_call (ok_wheels_for T) (hr.mono (by decide)) rfl T.g_wheels_for T.F_wheels_for.kp T.b_wheels_for pN (ad_cons (pdv 0) (ad_cons (pdv 1) (ad_cons pd_int (ad_cons pd_int ad_nil))))⟩⟩
abbrev LL_law_9 : LS := lamL "law.<locals>.<lambda>" (defScope s_law) (defArgs s_law) (lamE (stAt (defBody s_law) 16))
theorem lo_law_9 (T : Txt K mg a) : LamOk P w K mg base 6 LL_law_9 ["box", "one"] FE_law_9 := ⟨nscope_by (by decide +kernel), fun _ _ _ _ => rfl, fun cl c f A outer s H E hr => ⟨_, pd_call (ok_widest T) (hr.mono (by decide)) rfl T.g_widest T.F_widest.kp T.b_widest pN (ad_cons (pdv 0) (ad_cons (pdv 1) (ad_cons pd_str (ad_cons pd_int ad_nil))))⟩⟩
abbrev LL_law_10 : LS := lamL "law.<locals>.<lambda>" (defScope s_law) (defArgs s_law) (lamE (stAt (defBody s_law) 17))
theorem lo_law_10 (T : Txt K mg a) : LamOk P w K mg base 6 LL_law_10 ["box", "one"] FE_law_10 := ⟨nscope_by (by decide +kernel), fun _ _ _ _ => rfl, fun cl c f A outer s H E hr => ⟨_, pd_call (ok_widest T) (hr.mono (by decide)) rfl T.g_widest T.F_widest.kp T.b_widest pN (ad_cons (pdv 0) (ad_cons (pdv 1) (ad_cons pd_str (ad_cons pd_non ad_nil))))⟩⟩
end
end Lw
namespace Lw
open PySem L2 PD PL LamX NdefX
abbrev TT (a : Ad) : List (Addr × Str) := [(a.pt_law_cameras, "_law_cameras.<locals>.<lambda>"), (a.pt_law_set, "_law_set.<locals>.<lambda>"), (a.pt_law_lit, "_law_lit.<locals>.<lambda>"), (a.pt_law, "law.<locals>.<lambda>")]
structure Tbs (base : Heap) (mg : Str → Option Value) (a : Ad) : Prop where
  tb_law_cameras : TabB base mg a.cc_law_cameras a.pt_law_cameras
  tb_law_set : TabB base mg a.cc_law_set a.pt_law_set
  tb_law_lit : TabB base mg a.cc_law_lit a.pt_law_lit
  tb_law : TabB base mg a.cc_law a.pt_law
section
variable {P : Program} {w : World} {K : PySem.W.Frag} {mg : Str → Option Value} {base : Heap} {a : Ad}
theorem hu_law_cameras (T : Txt K mg a) : ∀ p ∈ TT a, p.1 = a.pt_law_cameras → p.2 = "_law_cameras.<locals>.<lambda>" := fun p hp e => by
  rcases List.mem_cons.mp hp with rfl | hp
  · rfl
  rcases List.mem_cons.mp hp with rfl | hp
  · exact absurd e (Ne.symm T.ne_law_cameras_law_set)
  rcases List.mem_cons.mp hp with rfl | hp
  · exact absurd e (Ne.symm T.ne_law_cameras_law_lit)
  rcases List.mem_cons.mp hp with rfl | hp
  · exact absurd e (Ne.symm T.ne_law_cameras_law)
  cases hp
theorem hu_law_set (T : Txt K mg a) : ∀ p ∈ TT a, p.1 = a.pt_law_set → p.2 = "_law_set.<locals>.<lambda>" := fun p hp e => by
  rcases List.mem_cons.mp hp with rfl | hp
  · exact absurd e T.ne_law_cameras_law_set
  rcases List.mem_cons.mp hp with rfl | hp
  · rfl
  rcases List.mem_cons.mp hp with rfl | hp
  · exact absurd e (Ne.symm T.ne_law_set_law_lit)
  rcases List.mem_cons.mp hp with rfl | hp
  · exact absurd e (Ne.symm T.ne_law_set_law)
  cases hp
theorem hu_law_lit (T : Txt K mg a) : ∀ p ∈ TT a, p.1 = a.pt_law_lit → p.2 = "_law_lit.<locals>.<lambda>" := fun p hp e => by
  rcases List.mem_cons.mp hp with rfl | hp
  · exact absurd e T.ne_law_cameras_law_lit
  rcases List.mem_cons.mp hp with rfl | hp
  · exact absurd e T.ne_law_set_law_lit
  rcases List.mem_cons.mp hp with rfl | hp
  · rfl
  rcases List.mem_cons.mp hp with rfl | hp
  · exact absurd e (Ne.symm T.ne_law_lit_law)
  cases hp
theorem hu_law (T : Txt K mg a) : ∀ p ∈ TT a, p.1 = a.pt_law → p.2 = "law.<locals>.<lambda>" := fun p hp e => by
  rcases List.mem_cons.mp hp with rfl | hp
  · exact absurd e T.ne_law_cameras_law
  rcases List.mem_cons.mp hp with rfl | hp
  · exact absurd e T.ne_law_set_law
  rcases List.mem_cons.mp hp with rfl | hp
  · exact absurd e T.ne_law_lit_law
  rcases List.mem_cons.mp hp with rfl | hp
  · rfl
  cases hp
theorem nd_law_cameras_0 : ndefB (defScope s_law_cameras) LL_law_cameras_0.scope [] = true := by decide +kernel
theorem nd_law_cameras_1 : ndefB (defScope s_law_cameras) LL_law_cameras_1.scope [] = true := by decide +kernel
theorem nd_law_cameras_2 : ndefB (defScope s_law_cameras) LL_law_cameras_2.scope [] = true := by decide +kernel
theorem nd_law_cameras_3 : ndefB (defScope s_law_cameras) LL_law_cameras_3.scope [] = true := by decide +kernel
theorem nd_law_cameras_4 : ndefB (defScope s_law_cameras) LL_law_cameras_4.scope [] = true := by decide +kernel
theorem nd_law_cameras_5 : ndefB (defScope s_law_cameras) LL_law_cameras_5.scope [] = true := by decide +kernel
theorem nd_law_cameras_6 : ndefB (defScope s_law_cameras) LL_law_cameras_6.scope [] = true := by decide +kernel
theorem nd_law_cameras_7 : ndefB (defScope s_law_cameras) LL_law_cameras_7.scope [] = true := by decide +kernel
theorem nd_law_cameras_8 : ndefB (defScope s_law_cameras) LL_law_cameras_8.scope [] = true := by decide +kernel
theorem nd_law_cameras_9 : ndefB (defScope s_law_cameras) LL_law_cameras_9.scope [] = true := by decide +kernel
theorem nd_law_cameras_10 : ndefB (defScope s_law_cameras) LL_law_cameras_10.scope [] = true := by decide +kernel
theorem nd_law_cameras_11 : ndefB (defScope s_law_cameras) LL_law_cameras_11.scope [] = true := by decide +kernel
theorem nd_law_cameras_12 : ndefB (defScope s_law_cameras) LL_law_cameras_12.scope [] = true := by decide +kernel
theorem nd_law_cameras_13 : ndefB (defScope s_law_cameras) LL_law_cameras_13.scope [] = true := by decide +kernel
theorem nd_law_cameras_14 : ndefB (defScope s_law_cameras) LL_law_cameras_14.scope [] = true := by decide +kernel
theorem nd_law_cameras_15 : ndefB (defScope s_law_cameras) LL_law_cameras_15.scope [] = true := by decide +kernel
theorem nd_law_cameras_16 : ndefB (defScope s_law_cameras) LL_law_cameras_16.scope [] = true := by decide +kernel
theorem nd_law_cameras_17 : ndefB (defScope s_law_cameras) LL_law_cameras_17.scope [] = true := by decide +kernel
theorem nd_law_cameras_18 : ndefB (defScope s_law_cameras) LL_law_cameras_18.scope [] = true := by decide +kernel
theorem nd_law_cameras_19 : ndefB (defScope s_law_cameras) LL_law_cameras_19.scope [] = true := by decide +kernel
theorem nd_law_cameras_20 : ndefB (defScope s_law_cameras) LL_law_cameras_20.scope [] = true := by decide +kernel
theorem nd_law_cameras_21 : ndefB (defScope s_law_cameras) LL_law_cameras_21.scope [] = true := by decide +kernel
theorem nd_law_cameras_22 : ndefB (defScope s_law_cameras) LL_law_cameras_22.scope [] = true := by decide +kernel
theorem nd_law_cameras_23 : ndefB (defScope s_law_cameras) LL_law_cameras_23.scope [] = true := by decide +kernel
theorem nd_law_set_0 : ndefB (defScope s_law_set) LL_law_set_0.scope [] = true := by decide +kernel
theorem nd_law_set_1 : ndefB (defScope s_law_set) LL_law_set_1.scope [] = true := by decide +kernel
theorem nd_law_set_2 : ndefB (defScope s_law_set) LL_law_set_2.scope [] = true := by decide +kernel
theorem nd_law_set_3 : ndefB (defScope s_law_set) LL_law_set_3.scope [] = true := by decide +kernel
theorem nd_law_set_4 : ndefB (defScope s_law_set) LL_law_set_4.scope [] = true := by decide +kernel
theorem nd_law_set_5 : ndefB (defScope s_law_set) LL_law_set_5.scope [] = true := by decide +kernel
theorem nd_law_set_6 : ndefB (defScope s_law_set) LL_law_set_6.scope [] = true := by decide +kernel
theorem nd_law_set_7 : ndefB (defScope s_law_set) LL_law_set_7.scope [] = true := by decide +kernel
theorem nd_law_set_8 : ndefB (defScope s_law_set) LL_law_set_8.scope [] = true := by decide +kernel
theorem nd_law_set_9 : ndefB (defScope s_law_set) LL_law_set_9.scope [] = true := by decide +kernel
theorem nd_law_set_10 : ndefB (defScope s_law_set) LL_law_set_10.scope [] = true := by decide +kernel
theorem nd_law_set_11 : ndefB (defScope s_law_set) LL_law_set_11.scope [] = true := by decide +kernel
theorem nd_law_lit_0 : ndefB (defScope s_law_lit) LL_law_lit_0.scope [] = true := by decide +kernel
theorem nd_law_lit_1 : ndefB (defScope s_law_lit) LL_law_lit_1.scope [] = true := by decide +kernel
theorem nd_law_lit_2 : ndefB (defScope s_law_lit) LL_law_lit_2.scope [] = true := by decide +kernel
theorem nd_law_lit_3 : ndefB (defScope s_law_lit) LL_law_lit_3.scope [] = true := by decide +kernel
theorem nd_law_lit_4 : ndefB (defScope s_law_lit) LL_law_lit_4.scope [] = true := by decide +kernel
theorem nd_law_lit_5 : ndefB (defScope s_law_lit) LL_law_lit_5.scope [] = true := by decide +kernel
theorem nd_law_lit_6 : ndefB (defScope s_law_lit) LL_law_lit_6.scope [] = true := by decide +kernel
theorem nd_law_lit_7 : ndefB (defScope s_law_lit) LL_law_lit_7.scope [] = true := by decide +kernel
theorem nd_law_lit_8 : ndefB (defScope s_law_lit) LL_law_lit_8.scope [] = true := by decide +kernel
theorem nd_law_0 : ndefB (defScope s_law) LL_law_0.scope [] = true := by decide +kernel
theorem nd_law_1 : ndefB (defScope s_law) LL_law_1.scope [] = true := by decide +kernel
theorem nd_law_2 : ndefB (defScope s_law) LL_law_2.scope [] = true := by decide +kernel
theorem nd_law_3 : ndefB (defScope s_law) LL_law_3.scope [] = true := by decide +kernel
theorem nd_law_4 : ndefB (defScope s_law) LL_law_4.scope [] = true := by decide +kernel
theorem nd_law_5 : ndefB (defScope s_law) LL_law_5.scope [] = true := by decide +kernel
theorem nd_law_6 : ndefB (defScope s_law) LL_law_6.scope [] = true := by decide +kernel
theorem nd_law_7 : ndefB (defScope s_law) LL_law_7.scope [] = true := by decide +kernel
theorem nd_law_8 : ndefB (defScope s_law) LL_law_8.scope [] = true := by decide +kernel
theorem nd_law_9 : ndefB (defScope s_law) LL_law_9.scope [] = true := by decide +kernel
theorem nd_law_10 : ndefB (defScope s_law) LL_law_10.scope [] = true := by decide +kernel
theorem ok_law_cameras (T : Txt K mg a) (B : Tbs base mg a) : FnOk P w K mg base (L2.CX P w) 1 a.f_law_cameras a.fd_law_cameras ["no"] (spMk P w K mg base 6 1 (TT a) "InvalidCamera" FES_law_cameras) := by
  refine fn_mk (k := 0) (N := N_law_cameras) T.F_law_cameras sc_law_cameras (fun vs H Q E h => by obtain ⟨_, _, _, _, hl, _⟩ := h; exact hl) fun A outer s H vs Q E hr h => ?_
  obtain ⟨S, ds, sh, dv, hl, hL, hT, nt, hres, q⟩ := h
  match vs, hl with
  | [v0], _ =>
  have hd : ds.length = 1 := by rw [← dv.length]; rfl
  refine ⟨_, pz_cons (ps_asg (pe_lst (pa_cons (pe_lm (L := LL_law_cameras_0) B.tb_law_cameras rfl (List.mem_cons_self) (by show ("_law_cameras.<locals>.<lambda>" : Str) = ("_law_cameras" : Str) ++ ".<locals>." ++ "<lambda>"; decide +kernel) (hu_law_cameras T) rfl (ndef_free (sc := defScope s_law_cameras) nd_law_cameras_0)) pa_nil)) (gn 1 sc_law_cameras.nd)) (pz_cons (ps_expr (pe_bm PySem.F.plainAttrs_list PySem.F.slot_list_append PySem.F.type_list_append mt_append (pv 1) (pa_cons (pe_lm (L := LL_law_cameras_1) B.tb_law_cameras rfl (List.mem_cons_self) (by show ("_law_cameras.<locals>.<lambda>" : Str) = ("_law_cameras" : Str) ++ ".<locals>." ++ "<lambda>"; decide +kernel) (hu_law_cameras T) rfl (ndef_free (sc := defScope s_law_cameras) nd_law_cameras_1)) pa_nil))) (pz_cons (ps_expr (pe_bm PySem.F.plainAttrs_list PySem.F.slot_list_append PySem.F.type_list_append mt_append (pv 1) (pa_cons (pe_lm (L := LL_law_cameras_2) B.tb_law_cameras rfl (List.mem_cons_self) (by show ("_law_cameras.<locals>.<lambda>" : Str) = ("_law_cameras" : Str) ++ ".<locals>." ++ "<lambda>"; decide +kernel) (hu_law_cameras T) rfl (ndef_free (sc := defScope s_law_cameras) nd_law_cameras_2)) pa_nil))) (pz_cons (ps_expr (pe_bm PySem.F.plainAttrs_list PySem.F.slot_list_append PySem.F.type_list_append mt_append (pv 1) (pa_cons (pe_lm (L := LL_law_cameras_3) B.tb_law_cameras rfl (List.mem_cons_self) (by show ("_law_cameras.<locals>.<lambda>" : Str) = ("_law_cameras" : Str) ++ ".<locals>." ++ "<lambda>"; decide +kernel) (hu_law_cameras T) rfl (ndef_free (sc := defScope s_law_cameras) nd_law_cameras_3)) pa_nil))) (pz_cons (ps_expr (pe_bm PySem.F.plainAttrs_list PySem.F.slot_list_append PySem.F.type_list_append mt_append (pv 1) (pa_cons (pe_lm (L := LL_law_cameras_4) B.tb_law_cameras rfl (List.mem_cons_self) (by show ("_law_cameras.<locals>.<lambda>" : Str) = ("_law_cameras" : Str) ++ ".<locals>." ++ "<lambda>"; decide +kernel) (hu_law_cameras T) rfl (ndef_free (sc := defScope s_law_cameras) nd_law_cameras_4)) pa_nil))) (pz_cons (ps_expr (pe_bm PySem.F.plainAttrs_list PySem.F.slot_list_append PySem.F.type_list_append mt_append (pv 1) (pa_cons (pe_lm (L := LL_law_cameras_5) B.tb_law_cameras rfl (List.mem_cons_self) (by show ("_law_cameras.<locals>.<lambda>" : Str) = ("_law_cameras" : Str) ++ ".<locals>." ++ "<lambda>"; decide +kernel) (hu_law_cameras T) rfl (ndef_free (sc := defScope s_law_cameras) nd_law_cameras_5)) pa_nil))) (pz_cons (ps_expr (pe_bm PySem.F.plainAttrs_list PySem.F.slot_list_append PySem.F.type_list_append mt_append (pv 1) (pa_cons (pe_lm (L := LL_law_cameras_6) B.tb_law_cameras rfl (List.mem_cons_self) (by show ("_law_cameras.<locals>.<lambda>" : Str) = ("_law_cameras" : Str) ++ ".<locals>." ++ "<lambda>"; decide +kernel) (hu_law_cameras T) rfl (ndef_free (sc := defScope s_law_cameras) nd_law_cameras_6)) pa_nil))) (pz_cons (ps_expr (pe_bm PySem.F.plainAttrs_list PySem.F.slot_list_append PySem.F.type_list_append mt_append (pv 1) (pa_cons (pe_lm (L := LL_law_cameras_7) B.tb_law_cameras rfl (List.mem_cons_self) (by show ("_law_cameras.<locals>.<lambda>" : Str) = ("_law_cameras" : Str) ++ ".<locals>." ++ "<lambda>"; decide +kernel) (hu_law_cameras T) rfl (ndef_free (sc := defScope s_law_cameras) nd_law_cameras_7)) pa_nil))) (pz_cons (ps_expr (pe_bm PySem.F.plainAttrs_list PySem.F.slot_list_append PySem.F.type_list_append mt_append (pv 1) (pa_cons (pe_lm (L := LL_law_cameras_8) B.tb_law_cameras rfl (List.mem_cons_self) (by show ("_law_cameras.<locals>.<lambda>" : Str) = ("_law_cameras" : Str) ++ ".<locals>." ++ "<lambda>"; decide +kernel) (hu_law_cameras T) rfl (ndef_free (sc := defScope s_law_cameras) nd_law_cameras_8)) pa_nil))) (pz_cons (ps_expr (pe_bm PySem.F.plainAttrs_list PySem.F.slot_list_append PySem.F.type_list_append mt_append (pv 1) (pa_cons (pe_lm (L := LL_law_cameras_9) B.tb_law_cameras rfl (List.mem_cons_self) (by show ("_law_cameras.<locals>.<lambda>" : Str) = ("_law_cameras" : Str) ++ ".<locals>." ++ "<lambda>"; decide +kernel) (hu_law_cameras T) rfl (ndef_free (sc := defScope s_law_cameras) nd_law_cameras_9)) pa_nil))) (pz_cons (ps_expr (pe_bm PySem.F.plainAttrs_list PySem.F.slot_list_append PySem.F.type_list_append mt_append (pv 1) (pa_cons (pe_lm (L := LL_law_cameras_10) B.tb_law_cameras rfl (List.mem_cons_self) (by show ("_law_cameras.<locals>.<lambda>" : Str) = ("_law_cameras" : Str) ++ ".<locals>." ++ "<lambda>"; decide +kernel) (hu_law_cameras T) rfl (ndef_free (sc := defScope s_law_cameras) nd_law_cameras_10)) pa_nil))) (pz_cons (ps_expr (pe_bm PySem.F.plainAttrs_list PySem.F.slot_list_append PySem.F.type_list_append mt_append (pv 1) (pa_cons (pe_lm (L := LL_law_cameras_11) B.tb_law_cameras rfl (List.mem_cons_self) (by show ("_law_cameras.<locals>.<lambda>" : Str) = ("_law_cameras" : Str) ++ ".<locals>." ++ "<lambda>"; decide +kernel) (hu_law_cameras T) rfl (ndef_free (sc := defScope s_law_cameras) nd_law_cameras_11)) pa_nil))) (pz_cons (ps_expr (pe_bm PySem.F.plainAttrs_list PySem.F.slot_list_append PySem.F.type_list_append mt_append (pv 1) (pa_cons (pe_lm (L := LL_law_cameras_12) B.tb_law_cameras rfl (List.mem_cons_self) (by show ("_law_cameras.<locals>.<lambda>" : Str) = ("_law_cameras" : Str) ++ ".<locals>." ++ "<lambda>"; decide +kernel) (hu_law_cameras T) rfl (ndef_free (sc := defScope s_law_cameras) nd_law_cameras_12)) pa_nil))) (pz_cons (ps_expr (pe_bm PySem.F.plainAttrs_list PySem.F.slot_list_append PySem.F.type_list_append mt_append (pv 1) (pa_cons (pe_lm (L := LL_law_cameras_13) B.tb_law_cameras rfl (List.mem_cons_self) (by show ("_law_cameras.<locals>.<lambda>" : Str) = ("_law_cameras" : Str) ++ ".<locals>." ++ "<lambda>"; decide +kernel) (hu_law_cameras T) rfl (ndef_free (sc := defScope s_law_cameras) nd_law_cameras_13)) pa_nil))) (pz_cons (ps_expr (pe_bm PySem.F.plainAttrs_list PySem.F.slot_list_append PySem.F.type_list_append mt_append (pv 1) (pa_cons (pe_lm (L := LL_law_cameras_14) B.tb_law_cameras rfl (List.mem_cons_self) (by show ("_law_cameras.<locals>.<lambda>" : Str) = ("_law_cameras" : Str) ++ ".<locals>." ++ "<lambda>"; decide +kernel) (hu_law_cameras T) rfl (ndef_free (sc := defScope s_law_cameras) nd_law_cameras_14)) pa_nil))) (pz_cons (ps_expr (pe_bm PySem.F.plainAttrs_list PySem.F.slot_list_append PySem.F.type_list_append mt_append (pv 1) (pa_cons (pe_lm (L := LL_law_cameras_15) B.tb_law_cameras rfl (List.mem_cons_self) (by show ("_law_cameras.<locals>.<lambda>" : Str) = ("_law_cameras" : Str) ++ ".<locals>." ++ "<lambda>"; decide +kernel) (hu_law_cameras T) rfl (ndef_free (sc := defScope s_law_cameras) nd_law_cameras_15)) pa_nil))) (pz_cons (ps_expr (pe_bm PySem.F.plainAttrs_list PySem.F.slot_list_append PySem.F.type_list_append mt_append (pv 1) (pa_cons (pe_lm (L := LL_law_cameras_16) B.tb_law_cameras rfl (List.mem_cons_self) (by show ("_law_cameras.<locals>.<lambda>" : Str) = ("_law_cameras" : Str) ++ ".<locals>." ++ "<lambda>"; decide +kernel) (hu_law_cameras T) rfl (ndef_free (sc := defScope s_law_cameras) nd_law_cameras_16)) pa_nil))) (pz_cons (ps_expr (pe_bm PySem.F.plainAttrs_list PySem.F.slot_list_append PySem.F.type_list_append mt_append (pv 1) (pa_cons (pe_lm (L := LL_law_cameras_17) B.tb_law_cameras rfl (List.mem_cons_self) (by show ("_law_cameras.<locals>.<lambda>" : Str) = ("_law_cameras" : Str) ++ ".<locals>." ++ "<lambda>"; decide +kernel) (hu_law_cameras T) rfl (ndef_free (sc := defScope s_law_cameras) nd_law_cameras_17)) pa_nil))) (pz_cons (ps_expr (pe_bm PySem.F.plainAttrs_list PySem.F.slot_list_append PySem.F.type_list_append mt_append (pv 1) (pa_cons (pe_lm (L := LL_law_cameras_18) B.tb_law_cameras rfl (List.mem_cons_self) (by show ("_law_cameras.<locals>.<lambda>" : Str) = ("_law_cameras" : Str) ++ ".<locals>." ++ "<lambda>"; decide +kernel) (hu_law_cameras T) rfl (ndef_free (sc := defScope s_law_cameras) nd_law_cameras_18)) pa_nil))) (pz_cons (ps_expr (pe_bm PySem.F.plainAttrs_list PySem.F.slot_list_append PySem.F.type_list_append mt_append (pv 1) (pa_cons (pe_lm (L := LL_law_cameras_19) B.tb_law_cameras rfl (List.mem_cons_self) (by show ("_law_cameras.<locals>.<lambda>" : Str) = ("_law_cameras" : Str) ++ ".<locals>." ++ "<lambda>"; decide +kernel) (hu_law_cameras T) rfl (ndef_free (sc := defScope s_law_cameras) nd_law_cameras_19)) pa_nil))) (pz_cons (ps_expr (pe_bm PySem.F.plainAttrs_list PySem.F.slot_list_append PySem.F.type_list_append mt_append (pv 1) (pa_cons (pe_lm (L := LL_law_cameras_20) B.tb_law_cameras rfl (List.mem_cons_self) (by show ("_law_cameras.<locals>.<lambda>" : Str) = ("_law_cameras" : Str) ++ ".<locals>." ++ "<lambda>"; decide +kernel) (hu_law_cameras T) rfl (ndef_free (sc := defScope s_law_cameras) nd_law_cameras_20)) pa_nil))) (pz_cons (ps_expr (pe_bm PySem.F.plainAttrs_list PySem.F.slot_list_append PySem.F.type_list_append mt_append (pv 1) (pa_cons (pe_lm (L := LL_law_cameras_21) B.tb_law_cameras rfl (List.mem_cons_self) (by show ("_law_cameras.<locals>.<lambda>" : Str) = ("_law_cameras" : Str) ++ ".<locals>." ++ "<lambda>"; decide +kernel) (hu_law_cameras T) rfl (ndef_free (sc := defScope s_law_cameras) nd_law_cameras_21)) pa_nil))) (pz_cons (ps_expr (pe_bm PySem.F.plainAttrs_list PySem.F.slot_list_append PySem.F.type_list_append mt_append (pv 1) (pa_cons (pe_lm (L := LL_law_cameras_22) B.tb_law_cameras rfl (List.mem_cons_self) (by show ("_law_cameras.<locals>.<lambda>" : Str) = ("_law_cameras" : Str) ++ ".<locals>." ++ "<lambda>"; decide +kernel) (hu_law_cameras T) rfl (ndef_free (sc := defScope s_law_cameras) nd_law_cameras_22)) pa_nil))) (pz_cons (ps_expr (pe_bm PySem.F.plainAttrs_list PySem.F.slot_list_append PySem.F.type_list_append mt_append (pv 1) (pa_cons (pe_lm (L := LL_law_cameras_23) B.tb_law_cameras rfl (List.mem_cons_self) (by show ("_law_cameras.<locals>.<lambda>" : Str) = ("_law_cameras" : Str) ++ ".<locals>." ++ "<lambda>"; decide +kernel) (hu_law_cameras T) rfl (ndef_free (sc := defScope s_law_cameras) nd_law_cameras_23)) pa_nil))) (pz_ret (pv 1))))))))))))))))))))))))), ?_⟩
  refine bld_new (L := LL_law_cameras_0) (cl := fun L => cloFrom _ L.scope.names []) hT fun l f0 c0 H0 hb => ?_
  refine app_read (L := LL_law_cameras_1) hb rfl (by simp only [List.length_append, List.length_cons, List.length_nil]; decide) fun f1 c1 H1 hb => ?_
  refine app_read (L := LL_law_cameras_2) hb rfl (by simp only [List.length_append, List.length_cons, List.length_nil]; decide) fun f2 c2 H2 hb => ?_
  refine app_read (L := LL_law_cameras_3) hb rfl (by simp only [List.length_append, List.length_cons, List.length_nil]; decide) fun f3 c3 H3 hb => ?_
  refine app_read (L := LL_law_cameras_4) hb rfl (by simp only [List.length_append, List.length_cons, List.length_nil]; decide) fun f4 c4 H4 hb => ?_
  refine app_read (L := LL_law_cameras_5) hb rfl (by simp only [List.length_append, List.length_cons, List.length_nil]; decide) fun f5 c5 H5 hb => ?_
  refine app_read (L := LL_law_cameras_6) hb rfl (by simp only [List.length_append, List.length_cons, List.length_nil]; decide) fun f6 c6 H6 hb => ?_
  refine app_read (L := LL_law_cameras_7) hb rfl (by simp only [List.length_append, List.length_cons, List.length_nil]; decide) fun f7 c7 H7 hb => ?_
  refine app_read (L := LL_law_cameras_8) hb rfl (by simp only [List.length_append, List.length_cons, List.length_nil]; decide) fun f8 c8 H8 hb => ?_
  refine app_read (L := LL_law_cameras_9) hb rfl (by simp only [List.length_append, List.length_cons, List.length_nil]; decide) fun f9 c9 H9 hb => ?_
  refine app_read (L := LL_law_cameras_10) hb rfl (by simp only [List.length_append, List.length_cons, List.length_nil]; decide) fun f10 c10 H10 hb => ?_
  refine app_read (L := LL_law_cameras_11) hb rfl (by simp only [List.length_append, List.length_cons, List.length_nil]; decide) fun f11 c11 H11 hb => ?_
  refine app_read (L := LL_law_cameras_12) hb rfl (by simp only [List.length_append, List.length_cons, List.length_nil]; decide) fun f12 c12 H12 hb => ?_
  refine app_read (L := LL_law_cameras_13) hb rfl (by simp only [List.length_append, List.length_cons, List.length_nil]; decide) fun f13 c13 H13 hb => ?_
  refine app_read (L := LL_law_cameras_14) hb rfl (by simp only [List.length_append, List.length_cons, List.length_nil]; decide) fun f14 c14 H14 hb => ?_
  refine app_read (L := LL_law_cameras_15) hb rfl (by simp only [List.length_append, List.length_cons, List.length_nil]; decide) fun f15 c15 H15 hb => ?_
  refine app_read (L := LL_law_cameras_16) hb rfl (by simp only [List.length_append, List.length_cons, List.length_nil]; decide) fun f16 c16 H16 hb => ?_
  refine app_read (L := LL_law_cameras_17) hb rfl (by simp only [List.length_append, List.length_cons, List.length_nil]; decide) fun f17 c17 H17 hb => ?_
  refine app_read (L := LL_law_cameras_18) hb rfl (by simp only [List.length_append, List.length_cons, List.length_nil]; decide) fun f18 c18 H18 hb => ?_
  refine app_read (L := LL_law_cameras_19) hb rfl (by simp only [List.length_append, List.length_cons, List.length_nil]; decide) fun f19 c19 H19 hb => ?_
  refine app_read (L := LL_law_cameras_20) hb rfl (by simp only [List.length_append, List.length_cons, List.length_nil]; decide) fun f20 c20 H20 hb => ?_
  refine app_read (L := LL_law_cameras_21) hb rfl (by simp only [List.length_append, List.length_cons, List.length_nil]; decide) fun f21 c21 H21 hb => ?_
  refine app_read (L := LL_law_cameras_22) hb rfl (by simp only [List.length_append, List.length_cons, List.length_nil]; decide) fun f22 c22 H22 hb => ?_
  refine app_read (L := LL_law_cameras_23) hb rfl (by simp only [List.length_append, List.length_cons, List.length_nil]; decide) fun f23 c23 H23 hb => ?_
  refine ⟨.ref l, rfl, fun s' J => ?_⟩
  have hn := fun b o => cs_free (a := b) (o := o) J
  have sh2 := same_extT sh nt hb.ext
  exact q l _ _ (extT_trk hb.ext hn) (tabs_trk hb.tab hn) (lst_trk hb.lst hn) (by simp only [List.length_map, List.length_append, List.length_cons, List.length_nil]; decide) (all_fst (fApp (fApp (fApp (fApp (fApp (fApp (fApp (fApp (fApp (fApp (fApp (fApp (fApp (fApp (fApp (fApp (fApp (fApp (fApp (fApp (fApp (fApp (fApp (fOne (P := fun x : Addr × LS × Addr => Clo P w K mg base 6 "InvalidCamera" _ x.1) ((mk_clo (js := [0]) (lo_law_cameras_0 T) hb (List.mem_append_left _ (List.mem_append_left _ (List.mem_append_left _ (List.mem_append_left _ (List.mem_append_left _ (List.mem_append_left _ (List.mem_append_left _ (List.mem_append_left _ (List.mem_append_left _ (List.mem_append_left _ (List.mem_append_left _ (List.mem_append_left _ (List.mem_append_left _ (List.mem_append_left _ (List.mem_append_left _ (List.mem_append_left _ (List.mem_append_left _ (List.mem_append_left _ (List.mem_append_left _ (List.mem_append_left _ (List.mem_append_left _ (List.mem_append_left _ (List.mem_append_left _ List.mem_cons_self))))))))))))))))))))))) (ndef_free (sc := defScope s_law_cameras) nd_law_cameras_0) rfl rfl sh2 (DVs.pick dv [0] (by rw [hd]; decide)) (hres (FE_law_cameras_0, [0]) List.mem_cons_self)).clo J)) ((mk_clo (js := [0]) (lo_law_cameras_1 T) hb (List.mem_append_left _ (List.mem_append_left _ (List.mem_append_left _ (List.mem_append_left _ (List.mem_append_left _ (List.mem_append_left _ (List.mem_append_left _ (List.mem_append_left _ (List.mem_append_left _ (List.mem_append_left _ (List.mem_append_left _ (List.mem_append_left _ (List.mem_append_left _ (List.mem_append_left _ (List.mem_append_left _ (List.mem_append_left _ (List.mem_append_left _ (List.mem_append_left _ (List.mem_append_left _ (List.mem_append_left _ (List.mem_append_left _ (List.mem_append_left _ (List.mem_append_right _ List.mem_cons_self))))))))))))))))))))))) (ndef_free (sc := defScope s_law_cameras) nd_law_cameras_1) rfl rfl sh2 (DVs.pick dv [0] (by rw [hd]; decide)) (hres (FE_law_cameras_1, [0]) (List.mem_cons_of_mem _ List.mem_cons_self))).clo J)) ((mk_clo (js := [0]) (lo_law_cameras_2 T) hb (List.mem_append_left _ (List.mem_append_left _ (List.mem_append_left _ (List.mem_append_left _ (List.mem_append_left _ (List.mem_append_left _ (List.mem_append_left _ (List.mem_append_left _ (List.mem_append_left _ (List.mem_append_left _ (List.mem_append_left _ (List.mem_append_left _ (List.mem_append_left _ (List.mem_append_left _ (List.mem_append_left _ (List.mem_append_left _ (List.mem_append_left _ (List.mem_append_left _ (List.mem_append_left _ (List.mem_append_left _ (List.mem_append_left _ (List.mem_append_right _ List.mem_cons_self)))))))))))))))))))))) (ndef_free (sc := defScope s_law_cameras) nd_law_cameras_2) rfl rfl sh2 (DVs.pick dv [0] (by rw [hd]; decide)) (hres (FE_law_cameras_2, [0]) (List.mem_cons_of_mem _ (List.mem_cons_of_mem _ List.mem_cons_self)))).clo J)) ((mk_clo (js := [0]) (lo_law_cameras_3 T) hb (List.mem_append_left _ (List.mem_append_left _ (List.mem_append_left _ (List.mem_append_left _ (List.mem_append_left _ (List.mem_append_left _ (List.mem_append_left _ (List.mem_append_left _ (List.mem_append_left _ (List.mem_append_left _ (List.mem_append_left _ (List.mem_append_left _ (List.mem_append_left _ (List.mem_append_left _ (List.mem_append_left _ (List.mem_append_left _ (List.mem_append_left _ (List.mem_append_left _ (List.mem_append_left _ (List.mem_append_left _ (List.mem_append_right _ List.mem_cons_self))))))))))))))))))))) (ndef_free (sc := defScope s_law_cameras) nd_law_cameras_3) rfl rfl sh2 (DVs.pick dv [0] (by rw [hd]; decide)) (hres (FE_law_cameras_3, [0]) (List.mem_cons_of_mem _ (List.mem_cons_of_mem _ (List.mem_cons_of_mem _ List.mem_cons_self))))).clo J)) ((mk_clo (js := [0]) (lo_law_cameras_4 T) hb (List.mem_append_left _ (List.mem_append_left _ (List.mem_append_left _ (List.mem_append_left _ (List.mem_append_left _ (List.mem_append_left _ (List.mem_append_left _ (List.mem_append_left _ (List.mem_append_left _ (List.mem_append_left _ (List.mem_append_left _ (List.mem_append_left _ (List.mem_append_left _ (List.mem_append_left _ (List.mem_append_left _ (List.mem_append_left _ (List.mem_append_left _ (List.mem_append_left _ (List.mem_append_left _ (List.mem_append_right _ List.mem_cons_self)))))))))))))))))))) (ndef_free (sc := defScope s_law_cameras) nd_law_cameras_4) rfl rfl sh2 (DVs.pick dv [0] (by rw [hd]; decide)) (hres (FE_law_cameras_4, [0]) (List.mem_cons_of_mem _ (List.mem_cons_of_mem _ (List.mem_cons_of_mem _ (List.mem_cons_of_mem _ List.mem_cons_self)))))).clo J)) ((mk_clo (js := [0]) (lo_law_cameras_5 T) hb (List.mem_append_left _ (List.mem_append_left _ (List.mem_append_left _ (List.mem_append_left _ (List.mem_append_left _ (List.mem_append_left _ (List.mem_append_left _ (List.mem_append_left _ (List.mem_append_left _ (List.mem_append_left _ (List.mem_append_left _ (List.mem_append_left _ (List.mem_append_left _ (List.mem_append_left _ (List.mem_append_left _ (List.mem_append_left _ (List.mem_append_left _ (List.mem_append_left _ (List.mem_append_right _ List.mem_cons_self))))))))))))))))))) (ndef_free (sc := defScope s_law_cameras) nd_law_cameras_5) rfl rfl sh2 (DVs.pick dv [0] (by rw [hd]; decide)) (hres (FE_law_cameras_5, [0]) (List.mem_cons_of_mem _ (List.mem_cons_of_mem _ (List.mem_cons_of_mem _ (List.mem_cons_of_mem _ (List.mem_cons_of_mem _ List.mem_cons_self))))))).clo J)) ((mk_clo (js := [0]) (lo_law_cameras_6 T) hb (List.mem_append_left _ (List.mem_append_left _ (List.mem_append_left _ (List.mem_append_left _ (List.mem_append_left _ (List.mem_append_left _ (List.mem_append_left _ (List.mem_append_left _ (List.mem_append_left _ (List.mem_append_left _ (List.mem_append_left _ (List.mem_append_left _ (List.mem_append_left _ (List.mem_append_left _ (List.mem_append_left _ (List.mem_append_left _ (List.mem_append_left _ (List.mem_append_right _ List.mem_cons_self)))))))))))))))))) (ndef_free (sc := defScope s_law_cameras) nd_law_cameras_6) rfl rfl sh2 (DVs.pick dv [0] (by rw [hd]; decide)) (hres (FE_law_cameras_6, [0]) (List.mem_cons_of_mem _ (List.mem_cons_of_mem _ (List.mem_cons_of_mem _ (List.mem_cons_of_mem _ (List.mem_cons_of_mem _ (List.mem_cons_of_mem _ List.mem_cons_self)))))))).clo J)) ((mk_clo (js := [0]) (lo_law_cameras_7 T) hb (List.mem_append_left _ (List.mem_append_left _ (List.mem_append_left _ (List.mem_append_left _ (List.mem_append_left _ (List.mem_append_left _ (List.mem_append_left _ (List.mem_append_left _ (List.mem_append_left _ (List.mem_append_left _ (List.mem_append_left _ (List.mem_append_left _ (List.mem_append_left _ (List.mem_append_left _ (List.mem_append_left _ (List.mem_append_left _ (List.mem_append_right _ List.mem_cons_self))))))))))))))))) (ndef_free (sc := defScope s_law_cameras) nd_law_cameras_7) rfl rfl sh2 (DVs.pick dv [0] (by rw [hd]; decide)) (hres (FE_law_cameras_7, [0]) (List.mem_cons_of_mem _ (List.mem_cons_of_mem _ (List.mem_cons_of_mem _ (List.mem_cons_of_mem _ (List.mem_cons_of_mem _ (List.mem_cons_of_mem _ (List.mem_cons_of_mem _ List.mem_cons_self))))))))).clo J)) ((mk_clo (js := [0]) (lo_law_cameras_8 T) hb (List.mem_append_left _ (List.mem_append_left _ (List.mem_append_left _ (List.mem_append_left _ (List.mem_append_left _ (List.mem_append_left _ (List.mem_append_left _ (List.mem_append_left _ (List.mem_append_left _ (List.mem_append_left _ (List.mem_append_left _ (List.mem_append_left _ (List.mem_append_left _ (List.mem_append_left _ (List.mem_append_left _ (List.mem_append_right _ List.mem_cons_self)))))))))))))))) (ndef_free (sc := defScope s_law_cameras) nd_law_cameras_8) rfl rfl sh2 (DVs.pick dv [0] (by rw [hd]; decide)) (hres (FE_law_cameras_8, [0]) (List.mem_cons_of_mem _ (List.mem_cons_of_mem _ (List.mem_cons_of_mem _ (List.mem_cons_of_mem _ (List.mem_cons_of_mem _ (List.mem_cons_of_mem _ (List.mem_cons_of_mem _ (List.mem_cons_of_mem _ List.mem_cons_self)))))))))).clo J)) ((mk_clo (js := [0]) (lo_law_cameras_9 T) hb (List.mem_append_left _ (List.mem_append_left _ (List.mem_append_left _ (List.mem_append_left _ (List.mem_append_left _ (List.mem_append_left _ (List.mem_append_left _ (List.mem_append_left _ (List.mem_append_left _ (List.mem_append_left _ (List.mem_append_left _ (List.mem_append_left _ (List.mem_append_left _ (List.mem_append_left _ (List.mem_append_right _ List.mem_cons_self))))))))))))))) (ndef_free (sc := defScope s_law_cameras) nd_law_cameras_9) rfl rfl sh2 (DVs.pick dv [0] (by rw [hd]; decide)) (hres (FE_law_cameras_9, [0]) (List.mem_cons_of_mem _ (List.mem_cons_of_mem _ (List.mem_cons_of_mem _ (List.mem_cons_of_mem _ (List.mem_cons_of_mem _ (List.mem_cons_of_mem _ (List.mem_cons_of_mem _ (List.mem_cons_of_mem _ (List.mem_cons_of_mem _ List.mem_cons_self))))))))))).clo J)) ((mk_clo (js := [0]) (lo_law_cameras_10 T) hb (List.mem_append_left _ (List.mem_append_left _ (List.mem_append_left _ (List.mem_append_left _ (List.mem_append_left _ (List.mem_append_left _ (List.mem_append_left _ (List.mem_append_left _ (List.mem_append_left _ (List.mem_append_left _ (List.mem_append_left _ (List.mem_append_left _ (List.mem_append_left _ (List.mem_append_right _ List.mem_cons_self)))))))))))))) (ndef_free (sc := defScope s_law_cameras) nd_law_cameras_10) rfl rfl sh2 (DVs.pick dv [0] (by rw [hd]; decide)) (hres (FE_law_cameras_10, [0]) (List.mem_cons_of_mem _ (List.mem_cons_of_mem _ (List.mem_cons_of_mem _ (List.mem_cons_of_mem _ (List.mem_cons_of_mem _ (List.mem_cons_of_mem _ (List.mem_cons_of_mem _ (List.mem_cons_of_mem _ (List.mem_cons_of_mem _ (List.mem_cons_of_mem _ List.mem_cons_self)))))))))))).clo J)) ((mk_clo (js := [0]) (lo_law_cameras_11 T) hb (List.mem_append_left _ (List.mem_append_left _ (List.mem_append_left _ (List.mem_append_left _ (List.mem_append_left _ (List.mem_append_left _ (List.mem_append_left _ (List.mem_append_left _ (List.mem_append_left _ (List.mem_append_left _ (List.mem_append_left _ (List.mem_append_left _ (List.mem_append_right _ List.mem_cons_self))))))))))))) (ndef_free (sc := defScope s_law_cameras) nd_law_cameras_11) rfl rfl sh2 (DVs.pick dv [0] (by rw [hd]; decide)) (hres (FE_law_cameras_11, [0]) (List.mem_cons_of_mem _ (List.mem_cons_of_mem _ (List.mem_cons_of_mem _ (List.mem_cons_of_mem _ (List.mem_cons_of_mem _ (List.mem_cons_of_mem _ (List.mem_cons_of_mem _ (List.mem_cons_of_mem _ (List.mem_cons_of_mem _ (List.mem_cons_of_mem _ (List.mem_cons_of_mem _ List.mem_cons_self))))))))))))).clo J)) ((mk_clo (js := [0]) (lo_law_cameras_12 T) hb (List.mem_append_left _ (List.mem_append_left _ (List.mem_append_left _ (List.mem_append_left _ (List.mem_append_left _ (List.mem_append_left _ (List.mem_append_left _ (List.mem_append_left _ (List.mem_append_left _ (List.mem_append_left _ (List.mem_append_left _ (List.mem_append_right _ List.mem_cons_self)))))))))))) (ndef_free (sc := defScope s_law_cameras) nd_law_cameras_12) rfl rfl sh2 (DVs.pick dv [0] (by rw [hd]; decide)) (hres (FE_law_cameras_12, [0]) (List.mem_cons_of_mem _ (List.mem_cons_of_mem _ (List.mem_cons_of_mem _ (List.mem_cons_of_mem _ (List.mem_cons_of_mem _ (List.mem_cons_of_mem _ (List.mem_cons_of_mem _ (List.mem_cons_of_mem _ (List.mem_cons_of_mem _ (List.mem_cons_of_mem _ (List.mem_cons_of_mem _ (List.mem_cons_of_mem _ List.mem_cons_self)))))))))))))).clo J)) ((mk_clo (js := [0]) (lo_law_cameras_13 T) hb (List.mem_append_left _ (List.mem_append_left _ (List.mem_append_left _ (List.mem_append_left _ (List.mem_append_left _ (List.mem_append_left _ (List.mem_append_left _ (List.mem_append_left _ (List.mem_append_left _ (List.mem_append_left _ (List.mem_append_right _ List.mem_cons_self))))))))))) (ndef_free (sc := defScope s_law_cameras) nd_law_cameras_13) rfl rfl sh2 (DVs.pick dv [0] (by rw [hd]; decide)) (hres (FE_law_cameras_13, [0]) (List.mem_cons_of_mem _ (List.mem_cons_of_mem _ (List.mem_cons_of_mem _ (List.mem_cons_of_mem _ (List.mem_cons_of_mem _ (List.mem_cons_of_mem _ (List.mem_cons_of_mem _ (List.mem_cons_of_mem _ (List.mem_cons_of_mem _ (List.mem_cons_of_mem _ (List.mem_cons_of_mem _ (List.mem_cons_of_mem _ (List.mem_cons_of_mem _ List.mem_cons_self))))))))))))))).clo J)) ((mk_clo (js := [0]) (lo_law_cameras_14 T) hb (List.mem_append_left _ (List.mem_append_left _ (List.mem_append_left _ (List.mem_append_left _ (List.mem_append_left _ (List.mem_append_left _ (List.mem_append_left _ (List.mem_append_left _ (List.mem_append_left _ (List.mem_append_right _ List.mem_cons_self)))))))))) (ndef_free (sc := defScope s_law_cameras) nd_law_cameras_14) rfl rfl sh2 (DVs.pick dv [0] (by rw [hd]; decide)) (hres (FE_law_cameras_14, [0]) (List.mem_cons_of_mem _ (List.mem_cons_of_mem _ (List.mem_cons_of_mem _ (List.mem_cons_of_mem _ (List.mem_cons_of_mem _ (List.mem_cons_of_mem _ (List.mem_cons_of_mem _ (List.mem_cons_of_mem _ (List.mem_cons_of_mem _ (List.mem_cons_of_mem _ (List.mem_cons_of_mem _ (List.mem_cons_of_mem _ (List.mem_cons_of_mem _ (List.mem_cons_of_mem _ List.mem_cons_self)))))))))))))))).clo J)) ((mk_clo (js := [0]) (lo_law_cameras_15 T) hb (List.mem_append_left _ (List.mem_append_left _ (List.mem_append_left _ (List.mem_append_left _ (List.mem_append_left _ (List.mem_append_left _ (List.mem_append_left _ (List.mem_append_left _ (List.mem_append_right _ List.mem_cons_self))))))))) (ndef_free (sc := defScope s_law_cameras) nd_law_cameras_15) rfl rfl sh2 (DVs.pick dv [0] (by rw [hd]; decide)) (hres (FE_law_cameras_15, [0]) (List.mem_cons_of_mem _ (List.mem_cons_of_mem _ (List.mem_cons_of_mem _ (List.mem_cons_of_mem _ (List.mem_cons_of_mem _ (List.mem_cons_of_mem _ (List.mem_cons_of_mem _ (List.mem_cons_of_mem _ (List.mem_cons_of_mem _ (List.mem_cons_of_mem _ (List.mem_cons_of_mem _ (List.mem_cons_of_mem _ (List.mem_cons_of_mem _ (List.mem_cons_of_mem _ (List.mem_cons_of_mem _ List.mem_cons_self))))))))))))))))).clo J)) ((mk_clo (js := [0]) (lo_law_cameras_16 T) hb (List.mem_append_left _ (List.mem_append_left _ (List.mem_append_left _ (List.mem_append_left _ (List.mem_append_left _ (List.mem_append_left _ (List.mem_append_left _ (List.mem_append_right _ List.mem_cons_self)))))))) (ndef_free (sc := defScope s_law_cameras) nd_law_cameras_16) rfl rfl sh2 (DVs.pick dv [0] (by rw [hd]; decide)) (hres (FE_law_cameras_16, [0]) (List.mem_cons_of_mem _ (List.mem_cons_of_mem _ (List.mem_cons_of_mem _ (List.mem_cons_of_mem _ (List.mem_cons_of_mem _ (List.mem_cons_of_mem _ (List.mem_cons_of_mem _ (List.mem_cons_of_mem _ (List.mem_cons_of_mem _ (List.mem_cons_of_mem _ (List.mem_cons_of_mem _ (List.mem_cons_of_mem _ (List.mem_cons_of_mem _ (List.mem_cons_of_mem _ (List.mem_cons_of_mem _ (List.mem_cons_of_mem _ List.mem_cons_self)))))))))))))))))).clo J)) ((mk_clo (js := [0]) (lo_law_cameras_17 T) hb (List.mem_append_left _ (List.mem_append_left _ (List.mem_append_left _ (List.mem_append_left _ (List.mem_append_left _ (List.mem_append_left _ (List.mem_append_right _ List.mem_cons_self))))))) (ndef_free (sc := defScope s_law_cameras) nd_law_cameras_17) rfl rfl sh2 (DVs.pick dv [0] (by rw [hd]; decide)) (hres (FE_law_cameras_17, [0]) (List.mem_cons_of_mem _ (List.mem_cons_of_mem _ (List.mem_cons_of_mem _ (List.mem_cons_of_mem _ (List.mem_cons_of_mem _ (List.mem_cons_of_mem _ (List.mem_cons_of_mem _ (List.mem_cons_of_mem _ (List.mem_cons_of_mem _ (List.mem_cons_of_mem _ (List.mem_cons_of_mem _ (List.mem_cons_of_mem _ (List.mem_cons_of_mem _ (List.mem_cons_of_mem _ (List.mem_cons_of_mem _ (List.mem_cons_of_mem _ (List.mem_cons_of_mem _ List.mem_cons_self))))))))))))))))))).clo J)) ((mk_clo (js := [0]) (lo_law_cameras_18 T) hb (List.mem_append_left _ (List.mem_append_left _ (List.mem_append_left _ (List.mem_append_left _ (List.mem_append_left _ (List.mem_append_right _ List.mem_cons_self)))))) (ndef_free (sc := defScope s_law_cameras) nd_law_cameras_18) rfl rfl sh2 (DVs.pick dv [0] (by rw [hd]; decide)) (hres (FE_law_cameras_18, [0]) (List.mem_cons_of_mem _ (List.mem_cons_of_mem _ (List.mem_cons_of_mem _ (List.mem_cons_of_mem _ (List.mem_cons_of_mem _ (List.mem_cons_of_mem _ (List.mem_cons_of_mem _ (List.mem_cons_of_mem _ (List.mem_cons_of_mem _ (List.mem_cons_of_mem _ (List.mem_cons_of_mem _ (List.mem_cons_of_mem _ (List.mem_cons_of_mem _ (List.mem_cons_of_mem _ (List.mem_cons_of_mem _ (List.mem_cons_of_mem _ (List.mem_cons_of_mem _ (List.mem_cons_of_mem _ List.mem_cons_self)))))))))))))))))))).clo J)) ((mk_clo (js := [0]) (lo_law_cameras_19 T) hb (List.mem_append_left _ (List.mem_append_left _ (List.mem_append_left _ (List.mem_append_left _ (List.mem_append_right _ List.mem_cons_self))))) (ndef_free (sc := defScope s_law_cameras) nd_law_cameras_19) rfl rfl sh2 (DVs.pick dv [0] (by rw [hd]; decide)) (hres (FE_law_cameras_19, [0]) (List.mem_cons_of_mem _ (List.mem_cons_of_mem _ (List.mem_cons_of_mem _ (List.mem_cons_of_mem _ (List.mem_cons_of_mem _ (List.mem_cons_of_mem _ (List.mem_cons_of_mem _ (List.mem_cons_of_mem _ (List.mem_cons_of_mem _ (List.mem_cons_of_mem _ (List.mem_cons_of_mem _ (List.mem_cons_of_mem _ (List.mem_cons_of_mem _ (List.mem_cons_of_mem _ (List.mem_cons_of_mem _ (List.mem_cons_of_mem _ (List.mem_cons_of_mem _ (List.mem_cons_of_mem _ (List.mem_cons_of_mem _ List.mem_cons_self))))))))))))))))))))).clo J)) ((mk_clo (js := [0]) (lo_law_cameras_20 T) hb (List.mem_append_left _ (List.mem_append_left _ (List.mem_append_left _ (List.mem_append_right _ List.mem_cons_self)))) (ndef_free (sc := defScope s_law_cameras) nd_law_cameras_20) rfl rfl sh2 (DVs.pick dv [0] (by rw [hd]; decide)) (hres (FE_law_cameras_20, [0]) (List.mem_cons_of_mem _ (List.mem_cons_of_mem _ (List.mem_cons_of_mem _ (List.mem_cons_of_mem _ (List.mem_cons_of_mem _ (List.mem_cons_of_mem _ (List.mem_cons_of_mem _ (List.mem_cons_of_mem _ (List.mem_cons_of_mem _ (List.mem_cons_of_mem _ (List.mem_cons_of_mem _ (List.mem_cons_of_mem _ (List.mem_cons_of_mem _ (List.mem_cons_of_mem _ (List.mem_cons_of_mem _ (List.mem_cons_of_mem _ (List.mem_cons_of_mem _ (List.mem_cons_of_mem _ (List.mem_cons_of_mem _ (List.mem_cons_of_mem _ List.mem_cons_self)))))))))))))))))))))).clo J)) ((mk_clo (js := [0]) (lo_law_cameras_21 T) hb (List.mem_append_left _ (List.mem_append_left _ (List.mem_append_right _ List.mem_cons_self))) (ndef_free (sc := defScope s_law_cameras) nd_law_cameras_21) rfl rfl sh2 (DVs.pick dv [0] (by rw [hd]; decide)) (hres (FE_law_cameras_21, [0]) (List.mem_cons_of_mem _ (List.mem_cons_of_mem _ (List.mem_cons_of_mem _ (List.mem_cons_of_mem _ (List.mem_cons_of_mem _ (List.mem_cons_of_mem _ (List.mem_cons_of_mem _ (List.mem_cons_of_mem _ (List.mem_cons_of_mem _ (List.mem_cons_of_mem _ (List.mem_cons_of_mem _ (List.mem_cons_of_mem _ (List.mem_cons_of_mem _ (List.mem_cons_of_mem _ (List.mem_cons_of_mem _ (List.mem_cons_of_mem _ (List.mem_cons_of_mem _ (List.mem_cons_of_mem _ (List.mem_cons_of_mem _ (List.mem_cons_of_mem _ (List.mem_cons_of_mem _ List.mem_cons_self))))))))))))))))))))))).clo J)) ((mk_clo (js := [0]) (lo_law_cameras_22 T) hb (List.mem_append_left _ (List.mem_append_right _ List.mem_cons_self)) (ndef_free (sc := defScope s_law_cameras) nd_law_cameras_22) rfl rfl sh2 (DVs.pick dv [0] (by rw [hd]; decide)) (hres (FE_law_cameras_22, [0]) (List.mem_cons_of_mem _ (List.mem_cons_of_mem _ (List.mem_cons_of_mem _ (List.mem_cons_of_mem _ (List.mem_cons_of_mem _ (List.mem_cons_of_mem _ (List.mem_cons_of_mem _ (List.mem_cons_of_mem _ (List.mem_cons_of_mem _ (List.mem_cons_of_mem _ (List.mem_cons_of_mem _ (List.mem_cons_of_mem _ (List.mem_cons_of_mem _ (List.mem_cons_of_mem _ (List.mem_cons_of_mem _ (List.mem_cons_of_mem _ (List.mem_cons_of_mem _ (List.mem_cons_of_mem _ (List.mem_cons_of_mem _ (List.mem_cons_of_mem _ (List.mem_cons_of_mem _ (List.mem_cons_of_mem _ List.mem_cons_self)))))))))))))))))))))))).clo J)) ((mk_clo (js := [0]) (lo_law_cameras_23 T) hb (List.mem_append_right _ List.mem_cons_self) (ndef_free (sc := defScope s_law_cameras) nd_law_cameras_23) rfl rfl sh2 (DVs.pick dv [0] (by rw [hd]; decide)) (hres (FE_law_cameras_23, [0]) (List.mem_cons_of_mem _ (List.mem_cons_of_mem _ (List.mem_cons_of_mem _ (List.mem_cons_of_mem _ (List.mem_cons_of_mem _ (List.mem_cons_of_mem _ (List.mem_cons_of_mem _ (List.mem_cons_of_mem _ (List.mem_cons_of_mem _ (List.mem_cons_of_mem _ (List.mem_cons_of_mem _ (List.mem_cons_of_mem _ (List.mem_cons_of_mem _ (List.mem_cons_of_mem _ (List.mem_cons_of_mem _ (List.mem_cons_of_mem _ (List.mem_cons_of_mem _ (List.mem_cons_of_mem _ (List.mem_cons_of_mem _ (List.mem_cons_of_mem _ (List.mem_cons_of_mem _ (List.mem_cons_of_mem _ (List.mem_cons_of_mem _ List.mem_cons_self))))))))))))))))))))))))).clo J)))
theorem ok_law_set (T : Txt K mg a) (B : Tbs base mg a) : FnOk P w K mg base (L2.CX P w) 1 a.f_law_set a.fd_law_set ["box", "one", "no"] (spMk P w K mg base 6 3 (TT a) "InvalidSetting" FES_law_set) := by
  refine fn_mk (k := 0) (N := N_law_set) T.F_law_set sc_law_set (fun vs H Q E h => by obtain ⟨_, _, _, _, hl, _⟩ := h; exact hl) fun A outer s H vs Q E hr h => ?_
  obtain ⟨S, ds, sh, dv, hl, hL, hT, nt, hres, q⟩ := h
  match vs, hl with
  | [v0, v1, v2], _ =>
  have hd : ds.length = 3 := by rw [← dv.length]; rfl
  refine ⟨_, pz_cons (ps_asg (pe_lst (pa_cons (pe_lm (L := LL_law_set_0) B.tb_law_set rfl (List.mem_cons_of_mem _ (List.mem_cons_self)) (by show ("_law_set.<locals>.<lambda>" : Str) = ("_law_set" : Str) ++ ".<locals>." ++ "<lambda>"; decide +kernel) (hu_law_set T) rfl (ndef_free (sc := defScope s_law_set) nd_law_set_0)) pa_nil)) (gn 3 sc_law_set.nd)) (pz_cons (ps_expr (pe_bm PySem.F.plainAttrs_list PySem.F.slot_list_append PySem.F.type_list_append mt_append (pv 3) (pa_cons (pe_lm (L := LL_law_set_1) B.tb_law_set rfl (List.mem_cons_of_mem _ (List.mem_cons_self)) (by show ("_law_set.<locals>.<lambda>" : Str) = ("_law_set" : Str) ++ ".<locals>." ++ "<lambda>"; decide +kernel) (hu_law_set T) rfl (ndef_free (sc := defScope s_law_set) nd_law_set_1)) pa_nil))) (pz_cons (ps_expr (pe_bm PySem.F.plainAttrs_list PySem.F.slot_list_append PySem.F.type_list_append mt_append (pv 3) (pa_cons (pe_lm (L := LL_law_set_2) B.tb_law_set rfl (List.mem_cons_of_mem _ (List.mem_cons_self)) (by show ("_law_set.<locals>.<lambda>" : Str) = ("_law_set" : Str) ++ ".<locals>." ++ "<lambda>"; decide +kernel) (hu_law_set T) rfl (ndef_free (sc := defScope s_law_set) nd_law_set_2)) pa_nil))) (pz_cons (ps_expr (pe_bm PySem.F.plainAttrs_list PySem.F.slot_list_append PySem.F.type_list_append mt_append (pv 3) (pa_cons (pe_lm (L := LL_law_set_3) B.tb_law_set rfl (List.mem_cons_of_mem _ (List.mem_cons_self)) (by show ("_law_set.<locals>.<lambda>" : Str) = ("_law_set" : Str) ++ ".<locals>." ++ "<lambda>"; decide +kernel) (hu_law_set T) rfl (ndef_free (sc := defScope s_law_set) nd_law_set_3)) pa_nil))) (pz_cons (ps_expr (pe_bm PySem.F.plainAttrs_list PySem.F.slot_list_append PySem.F.type_list_append mt_append (pv 3) (pa_cons (pe_lm (L := LL_law_set_4) B.tb_law_set rfl (List.mem_cons_of_mem _ (List.mem_cons_self)) (by show ("_law_set.<locals>.<lambda>" : Str) = ("_law_set" : Str) ++ ".<locals>." ++ "<lambda>"; decide +kernel) (hu_law_set T) rfl (ndef_free (sc := defScope s_law_set) nd_law_set_4)) pa_nil))) (pz_cons (ps_expr (pe_bm PySem.F.plainAttrs_list PySem.F.slot_list_append PySem.F.type_list_append mt_append (pv 3) (pa_cons (pe_lm (L := LL_law_set_5) B.tb_law_set rfl (List.mem_cons_of_mem _ (List.mem_cons_self)) (by show ("_law_set.<locals>.<lambda>" : Str) = ("_law_set" : Str) ++ ".<locals>." ++ "<lambda>"; decide +kernel) (hu_law_set T) rfl (ndef_free (sc := defScope s_law_set) nd_law_set_5)) pa_nil))) (pz_cons (ps_expr (pe_bm PySem.F.plainAttrs_list PySem.F.slot_list_append PySem.F.type_list_append mt_append (pv 3) (pa_cons (pe_lm (L := LL_law_set_6) B.tb_law_set rfl (List.mem_cons_of_mem _ (List.mem_cons_self)) (by show ("_law_set.<locals>.<lambda>" : Str) = ("_law_set" : Str) ++ ".<locals>." ++ "<lambda>"; decide +kernel) (hu_law_set T) rfl (ndef_free (sc := defScope s_law_set) nd_law_set_6)) pa_nil))) (pz_cons (ps_expr (pe_bm PySem.F.plainAttrs_list PySem.F.slot_list_append PySem.F.type_list_append mt_append (pv 3) (pa_cons (pe_lm (L := LL_law_set_7) B.tb_law_set rfl (List.mem_cons_of_mem _ (List.mem_cons_self)) (by show ("_law_set.<locals>.<lambda>" : Str) = ("_law_set" : Str) ++ ".<locals>." ++ "<lambda>"; decide +kernel) (hu_law_set T) rfl (ndef_free (sc := defScope s_law_set) nd_law_set_7)) pa_nil))) (pz_cons (ps_expr (pe_bm PySem.F.plainAttrs_list PySem.F.slot_list_append PySem.F.type_list_append mt_append (pv 3) (pa_cons (pe_lm (L := LL_law_set_8) B.tb_law_set rfl (List.mem_cons_of_mem _ (List.mem_cons_self)) (by show ("_law_set.<locals>.<lambda>" : Str) = ("_law_set" : Str) ++ ".<locals>." ++ "<lambda>"; decide +kernel) (hu_law_set T) rfl (ndef_free (sc := defScope s_law_set) nd_law_set_8)) pa_nil))) (pz_cons (ps_expr (pe_bm PySem.F.plainAttrs_list PySem.F.slot_list_append PySem.F.type_list_append mt_append (pv 3) (pa_cons (pe_lm (L := LL_law_set_9) B.tb_law_set rfl (List.mem_cons_of_mem _ (List.mem_cons_self)) (by show ("_law_set.<locals>.<lambda>" : Str) = ("_law_set" : Str) ++ ".<locals>." ++ "<lambda>"; decide +kernel) (hu_law_set T) rfl (ndef_free (sc := defScope s_law_set) nd_law_set_9)) pa_nil))) (pz_cons (ps_expr (pe_bm PySem.F.plainAttrs_list PySem.F.slot_list_append PySem.F.type_list_append mt_append (pv 3) (pa_cons (pe_lm (L := LL_law_set_10) B.tb_law_set rfl (List.mem_cons_of_mem _ (List.mem_cons_self)) (by show ("_law_set.<locals>.<lambda>" : Str) = ("_law_set" : Str) ++ ".<locals>." ++ "<lambda>"; decide +kernel) (hu_law_set T) rfl (ndef_free (sc := defScope s_law_set) nd_law_set_10)) pa_nil))) (pz_cons (ps_expr (pe_bm PySem.F.plainAttrs_list PySem.F.slot_list_append PySem.F.type_list_append mt_append (pv 3) (pa_cons (pe_lm (L := LL_law_set_11) B.tb_law_set rfl (List.mem_cons_of_mem _ (List.mem_cons_self)) (by show ("_law_set.<locals>.<lambda>" : Str) = ("_law_set" : Str) ++ ".<locals>." ++ "<lambda>"; decide +kernel) (hu_law_set T) rfl (ndef_free (sc := defScope s_law_set) nd_law_set_11)) pa_nil))) (pz_ret (pv 3))))))))))))), ?_⟩
  refine bld_new (L := LL_law_set_0) (cl := fun L => cloFrom _ L.scope.names []) hT fun l f0 c0 H0 hb => ?_
  refine app_read (L := LL_law_set_1) hb rfl (by simp only [List.length_append, List.length_cons, List.length_nil]; decide) fun f1 c1 H1 hb => ?_
  refine app_read (L := LL_law_set_2) hb rfl (by simp only [List.length_append, List.length_cons, List.length_nil]; decide) fun f2 c2 H2 hb => ?_
  refine app_read (L := LL_law_set_3) hb rfl (by simp only [List.length_append, List.length_cons, List.length_nil]; decide) fun f3 c3 H3 hb => ?_
  refine app_read (L := LL_law_set_4) hb rfl (by simp only [List.length_append, List.length_cons, List.length_nil]; decide) fun f4 c4 H4 hb => ?_
  refine app_read (L := LL_law_set_5) hb rfl (by simp only [List.length_append, List.length_cons, List.length_nil]; decide) fun f5 c5 H5 hb => ?_
  refine app_read (L := LL_law_set_6) hb rfl (by simp only [List.length_append, List.length_cons, List.length_nil]; decide) fun f6 c6 H6 hb => ?_
  refine app_read (L := LL_law_set_7) hb rfl (by simp only [List.length_append, List.length_cons, List.length_nil]; decide) fun f7 c7 H7 hb => ?_
  refine app_read (L := LL_law_set_8) hb rfl (by simp only [List.length_append, List.length_cons, List.length_nil]; decide) fun f8 c8 H8 hb => ?_
  refine app_read (L := LL_law_set_9) hb rfl (by simp only [List.length_append, List.length_cons, List.length_nil]; decide) fun f9 c9 H9 hb => ?_
  refine app_read (L := LL_law_set_10) hb rfl (by simp only [List.length_append, List.length_cons, List.length_nil]; decide) fun f10 c10 H10 hb => ?_
  refine app_read (L := LL_law_set_11) hb rfl (by simp only [List.length_append, List.length_cons, List.length_nil]; decide) fun f11 c11 H11 hb => ?_
  refine ⟨.ref l, rfl, fun s' J => ?_⟩
  have hn := fun b o => cs_free (a := b) (o := o) J
  have sh2 := same_extT sh nt hb.ext
  exact q l _ _ (extT_trk hb.ext hn) (tabs_trk hb.tab hn) (lst_trk hb.lst hn) (by simp only [List.length_map, List.length_append, List.length_cons, List.length_nil]; decide) (all_fst (fApp (fApp (fApp (fApp (fApp (fApp (fApp (fApp (fApp (fApp (fApp (fOne (P := fun x : Addr × LS × Addr => Clo P w K mg base 6 "InvalidSetting" _ x.1) ((mk_clo (js := [0, 2]) (lo_law_set_0 T) hb (List.mem_append_left _ (List.mem_append_left _ (List.mem_append_left _ (List.mem_append_left _ (List.mem_append_left _ (List.mem_append_left _ (List.mem_append_left _ (List.mem_append_left _ (List.mem_append_left _ (List.mem_append_left _ (List.mem_append_left _ List.mem_cons_self))))))))))) (ndef_free (sc := defScope s_law_set) nd_law_set_0) rfl rfl sh2 (DVs.pick dv [0, 2] (by rw [hd]; decide)) (hres (FE_law_set_0, [0, 2]) List.mem_cons_self)).clo J)) ((mk_clo (js := [0, 2]) (lo_law_set_1 T) hb (List.mem_append_left _ (List.mem_append_left _ (List.mem_append_left _ (List.mem_append_left _ (List.mem_append_left _ (List.mem_append_left _ (List.mem_append_left _ (List.mem_append_left _ (List.mem_append_left _ (List.mem_append_left _ (List.mem_append_right _ List.mem_cons_self))))))))))) (ndef_free (sc := defScope s_law_set) nd_law_set_1) rfl rfl sh2 (DVs.pick dv [0, 2] (by rw [hd]; decide)) (hres (FE_law_set_1, [0, 2]) (List.mem_cons_of_mem _ List.mem_cons_self))).clo J)) ((mk_clo (js := [0, 2]) (lo_law_set_2 T) hb (List.mem_append_left _ (List.mem_append_left _ (List.mem_append_left _ (List.mem_append_left _ (List.mem_append_left _ (List.mem_append_left _ (List.mem_append_left _ (List.mem_append_left _ (List.mem_append_left _ (List.mem_append_right _ List.mem_cons_self)))))))))) (ndef_free (sc := defScope s_law_set) nd_law_set_2) rfl rfl sh2 (DVs.pick dv [0, 2] (by rw [hd]; decide)) (hres (FE_law_set_2, [0, 2]) (List.mem_cons_of_mem _ (List.mem_cons_of_mem _ List.mem_cons_self)))).clo J)) ((mk_clo (js := [0, 1, 2]) (lo_law_set_3 T) hb (List.mem_append_left _ (List.mem_append_left _ (List.mem_append_left _ (List.mem_append_left _ (List.mem_append_left _ (List.mem_append_left _ (List.mem_append_left _ (List.mem_append_left _ (List.mem_append_right _ List.mem_cons_self))))))))) (ndef_free (sc := defScope s_law_set) nd_law_set_3) rfl rfl sh2 (DVs.pick dv [0, 1, 2] (by rw [hd]; decide)) (hres (FE_law_set_3, [0, 1, 2]) (List.mem_cons_of_mem _ (List.mem_cons_of_mem _ (List.mem_cons_of_mem _ List.mem_cons_self))))).clo J)) ((mk_clo (js := [0, 2]) (lo_law_set_4 T) hb (List.mem_append_left _ (List.mem_append_left _ (List.mem_append_left _ (List.mem_append_left _ (List.mem_append_left _ (List.mem_append_left _ (List.mem_append_left _ (List.mem_append_right _ List.mem_cons_self)))))))) (ndef_free (sc := defScope s_law_set) nd_law_set_4) rfl rfl sh2 (DVs.pick dv [0, 2] (by rw [hd]; decide)) (hres (FE_law_set_4, [0, 2]) (List.mem_cons_of_mem _ (List.mem_cons_of_mem _ (List.mem_cons_of_mem _ (List.mem_cons_of_mem _ List.mem_cons_self)))))).clo J)) ((mk_clo (js := [0, 2]) (lo_law_set_5 T) hb (List.mem_append_left _ (List.mem_append_left _ (List.mem_append_left _ (List.mem_append_left _ (List.mem_append_left _ (List.mem_append_left _ (List.mem_append_right _ List.mem_cons_self))))))) (ndef_free (sc := defScope s_law_set) nd_law_set_5) rfl rfl sh2 (DVs.pick dv [0, 2] (by rw [hd]; decide)) (hres (FE_law_set_5, [0, 2]) (List.mem_cons_of_mem _ (List.mem_cons_of_mem _ (List.mem_cons_of_mem _ (List.mem_cons_of_mem _ (List.mem_cons_of_mem _ List.mem_cons_self))))))).clo J)) ((mk_clo (js := [0, 2]) (lo_law_set_6 T) hb (List.mem_append_left _ (List.mem_append_left _ (List.mem_append_left _ (List.mem_append_left _ (List.mem_append_left _ (List.mem_append_right _ List.mem_cons_self)))))) (ndef_free (sc := defScope s_law_set) nd_law_set_6) rfl rfl sh2 (DVs.pick dv [0, 2] (by rw [hd]; decide)) (hres (FE_law_set_6, [0, 2]) (List.mem_cons_of_mem _ (List.mem_cons_of_mem _ (List.mem_cons_of_mem _ (List.mem_cons_of_mem _ (List.mem_cons_of_mem _ (List.mem_cons_of_mem _ List.mem_cons_self)))))))).clo J)) ((mk_clo (js := [0, 2]) (lo_law_set_7 T) hb (List.mem_append_left _ (List.mem_append_left _ (List.mem_append_left _ (List.mem_append_left _ (List.mem_append_right _ List.mem_cons_self))))) (ndef_free (sc := defScope s_law_set) nd_law_set_7) rfl rfl sh2 (DVs.pick dv [0, 2] (by rw [hd]; decide)) (hres (FE_law_set_7, [0, 2]) (List.mem_cons_of_mem _ (List.mem_cons_of_mem _ (List.mem_cons_of_mem _ (List.mem_cons_of_mem _ (List.mem_cons_of_mem _ (List.mem_cons_of_mem _ (List.mem_cons_of_mem _ List.mem_cons_self))))))))).clo J)) ((mk_clo (js := [0, 1, 2]) (lo_law_set_8 T) hb (List.mem_append_left _ (List.mem_append_left _ (List.mem_append_left _ (List.mem_append_right _ List.mem_cons_self)))) (ndef_free (sc := defScope s_law_set) nd_law_set_8) rfl rfl sh2 (DVs.pick dv [0, 1, 2] (by rw [hd]; decide)) (hres (FE_law_set_8, [0, 1, 2]) (List.mem_cons_of_mem _ (List.mem_cons_of_mem _ (List.mem_cons_of_mem _ (List.mem_cons_of_mem _ (List.mem_cons_of_mem _ (List.mem_cons_of_mem _ (List.mem_cons_of_mem _ (List.mem_cons_of_mem _ List.mem_cons_self)))))))))).clo J)) ((mk_clo (js := [0, 2]) (lo_law_set_9 T) hb (List.mem_append_left _ (List.mem_append_left _ (List.mem_append_right _ List.mem_cons_self))) (ndef_free (sc := defScope s_law_set) nd_law_set_9) rfl rfl sh2 (DVs.pick dv [0, 2] (by rw [hd]; decide)) (hres (FE_law_set_9, [0, 2]) (List.mem_cons_of_mem _ (List.mem_cons_of_mem _ (List.mem_cons_of_mem _ (List.mem_cons_of_mem _ (List.mem_cons_of_mem _ (List.mem_cons_of_mem _ (List.mem_cons_of_mem _ (List.mem_cons_of_mem _ (List.mem_cons_of_mem _ List.mem_cons_self))))))))))).clo J)) ((mk_clo (js := [0, 2]) (lo_law_set_10 T) hb (List.mem_append_left _ (List.mem_append_right _ List.mem_cons_self)) (ndef_free (sc := defScope s_law_set) nd_law_set_10) rfl rfl sh2 (DVs.pick dv [0, 2] (by rw [hd]; decide)) (hres (FE_law_set_10, [0, 2]) (List.mem_cons_of_mem _ (List.mem_cons_of_mem _ (List.mem_cons_of_mem _ (List.mem_cons_of_mem _ (List.mem_cons_of_mem _ (List.mem_cons_of_mem _ (List.mem_cons_of_mem _ (List.mem_cons_of_mem _ (List.mem_cons_of_mem _ (List.mem_cons_of_mem _ List.mem_cons_self)))))))))))).clo J)) ((mk_clo (js := [0, 2]) (lo_law_set_11 T) hb (List.mem_append_right _ List.mem_cons_self) (ndef_free (sc := defScope s_law_set) nd_law_set_11) rfl rfl sh2 (DVs.pick dv [0, 2] (by rw [hd]; decide)) (hres (FE_law_set_11, [0, 2]) (List.mem_cons_of_mem _ (List.mem_cons_of_mem _ (List.mem_cons_of_mem _ (List.mem_cons_of_mem _ (List.mem_cons_of_mem _ (List.mem_cons_of_mem _ (List.mem_cons_of_mem _ (List.mem_cons_of_mem _ (List.mem_cons_of_mem _ (List.mem_cons_of_mem _ (List.mem_cons_of_mem _ List.mem_cons_self))))))))))))).clo J)))
theorem ok_law_lit (T : Txt K mg a) (B : Tbs base mg a) : FnOk P w K mg base (L2.CX P w) 1 a.f_law_lit a.fd_law_lit ["box", "one", "no"] (spMk P w K mg base 6 3 (TT a) "InvalidBrightness" FES_law_lit) := by
  refine fn_mk (k := 0) (N := N_law_lit) T.F_law_lit sc_law_lit (fun vs H Q E h => by obtain ⟨_, _, _, _, hl, _⟩ := h; exact hl) fun A outer s H vs Q E hr h => ?_
  obtain ⟨S, ds, sh, dv, hl, hL, hT, nt, hres, q⟩ := h
  match vs, hl with
  | [v0, v1, v2], _ =>
  have hd : ds.length = 3 := by rw [← dv.length]; rfl
  refine ⟨_, pz_cons (ps_asg (pe_lst (pa_cons (pe_lm (L := LL_law_lit_0) B.tb_law_lit rfl (List.mem_cons_of_mem _ (List.mem_cons_of_mem _ (List.mem_cons_self))) (by show ("_law_lit.<locals>.<lambda>" : Str) = ("_law_lit" : Str) ++ ".<locals>." ++ "<lambda>"; decide +kernel) (hu_law_lit T) rfl (ndef_free (sc := defScope s_law_lit) nd_law_lit_0)) pa_nil)) (gn 3 sc_law_lit.nd)) (pz_cons (ps_expr (pe_bm PySem.F.plainAttrs_list PySem.F.slot_list_append PySem.F.type_list_append mt_append (pv 3) (pa_cons (pe_lm (L := LL_law_lit_1) B.tb_law_lit rfl (List.mem_cons_of_mem _ (List.mem_cons_of_mem _ (List.mem_cons_self))) (by show ("_law_lit.<locals>.<lambda>" : Str) = ("_law_lit" : Str) ++ ".<locals>." ++ "<lambda>"; decide +kernel) (hu_law_lit T) rfl (ndef_free (sc := defScope s_law_lit) nd_law_lit_1)) pa_nil))) (pz_cons (ps_expr (pe_bm PySem.F.plainAttrs_list PySem.F.slot_list_append PySem.F.type_list_append mt_append (pv 3) (pa_cons (pe_lm (L := LL_law_lit_2) B.tb_law_lit rfl (List.mem_cons_of_mem _ (List.mem_cons_of_mem _ (List.mem_cons_self))) (by show ("_law_lit.<locals>.<lambda>" : Str) = ("_law_lit" : Str) ++ ".<locals>." ++ "<lambda>"; decide +kernel) (hu_law_lit T) rfl (ndef_free (sc := defScope s_law_lit) nd_law_lit_2)) pa_nil))) (pz_cons (ps_expr (pe_bm PySem.F.plainAttrs_list PySem.F.slot_list_append PySem.F.type_list_append mt_append (pv 3) (pa_cons (pe_lm (L := LL_law_lit_3) B.tb_law_lit rfl (List.mem_cons_of_mem _ (List.mem_cons_of_mem _ (List.mem_cons_self))) (by show ("_law_lit.<locals>.<lambda>" : Str) = ("_law_lit" : Str) ++ ".<locals>." ++ "<lambda>"; decide +kernel) (hu_law_lit T) rfl (ndef_free (sc := defScope s_law_lit) nd_law_lit_3)) pa_nil))) (pz_cons (ps_expr (pe_bm PySem.F.plainAttrs_list PySem.F.slot_list_append PySem.F.type_list_append mt_append (pv 3) (pa_cons (pe_lm (L := LL_law_lit_4) B.tb_law_lit rfl (List.mem_cons_of_mem _ (List.mem_cons_of_mem _ (List.mem_cons_self))) (by show ("_law_lit.<locals>.<lambda>" : Str) = ("_law_lit" : Str) ++ ".<locals>." ++ "<lambda>"; decide +kernel) (hu_law_lit T) rfl (ndef_free (sc := defScope s_law_lit) nd_law_lit_4)) pa_nil))) (pz_cons (ps_expr (pe_bm PySem.F.plainAttrs_list PySem.F.slot_list_append PySem.F.type_list_append mt_append (pv 3) (pa_cons (pe_lm (L := LL_law_lit_5) B.tb_law_lit rfl (List.mem_cons_of_mem _ (List.mem_cons_of_mem _ (List.mem_cons_self))) (by show ("_law_lit.<locals>.<lambda>" : Str) = ("_law_lit" : Str) ++ ".<locals>." ++ "<lambda>"; decide +kernel) (hu_law_lit T) rfl (ndef_free (sc := defScope s_law_lit) nd_law_lit_5)) pa_nil))) (pz_cons (ps_expr (pe_bm PySem.F.plainAttrs_list PySem.F.slot_list_append PySem.F.type_list_append mt_append (pv 3) (pa_cons (pe_lm (L := LL_law_lit_6) B.tb_law_lit rfl (List.mem_cons_of_mem _ (List.mem_cons_of_mem _ (List.mem_cons_self))) (by show ("_law_lit.<locals>.<lambda>" : Str) = ("_law_lit" : Str) ++ ".<locals>." ++ "<lambda>"; decide +kernel) (hu_law_lit T) rfl (ndef_free (sc := defScope s_law_lit) nd_law_lit_6)) pa_nil))) (pz_cons (ps_expr (pe_bm PySem.F.plainAttrs_list PySem.F.slot_list_append PySem.F.type_list_append mt_append (pv 3) (pa_cons (pe_lm (L := LL_law_lit_7) B.tb_law_lit rfl (List.mem_cons_of_mem _ (List.mem_cons_of_mem _ (List.mem_cons_self))) (by show ("_law_lit.<locals>.<lambda>" : Str) = ("_law_lit" : Str) ++ ".<locals>." ++ "<lambda>"; decide +kernel) (hu_law_lit T) rfl (ndef_free (sc := defScope s_law_lit) nd_law_lit_7)) pa_nil))) (pz_cons (ps_expr (pe_bm PySem.F.plainAttrs_list PySem.F.slot_list_append PySem.F.type_list_append mt_append (pv 3) (pa_cons (pe_lm (L := LL_law_lit_8) B.tb_law_lit rfl (List.mem_cons_of_mem _ (List.mem_cons_of_mem _ (List.mem_cons_self))) (by show ("_law_lit.<locals>.<lambda>" : Str) = ("_law_lit" : Str) ++ ".<locals>." ++ "<lambda>"; decide +kernel) (hu_law_lit T) rfl (ndef_free (sc := defScope s_law_lit) nd_law_lit_8)) pa_nil))) (pz_ret (pv 3)))))))))), ?_⟩
  refine bld_new (L := LL_law_lit_0) (cl := fun L => cloFrom _ L.scope.names []) hT fun l f0 c0 H0 hb => ?_
  refine app_read (L := LL_law_lit_1) hb rfl (by simp only [List.length_append, List.length_cons, List.length_nil]; decide) fun f1 c1 H1 hb => ?_
  refine app_read (L := LL_law_lit_2) hb rfl (by simp only [List.length_append, List.length_cons, List.length_nil]; decide) fun f2 c2 H2 hb => ?_
  refine app_read (L := LL_law_lit_3) hb rfl (by simp only [List.length_append, List.length_cons, List.length_nil]; decide) fun f3 c3 H3 hb => ?_
  refine app_read (L := LL_law_lit_4) hb rfl (by simp only [List.length_append, List.length_cons, List.length_nil]; decide) fun f4 c4 H4 hb => ?_
  refine app_read (L := LL_law_lit_5) hb rfl (by simp only [List.length_append, List.length_cons, List.length_nil]; decide) fun f5 c5 H5 hb => ?_
  refine app_read (L := LL_law_lit_6) hb rfl (by simp only [List.length_append, List.length_cons, List.length_nil]; decide) fun f6 c6 H6 hb => ?_
  refine app_read (L := LL_law_lit_7) hb rfl (by simp only [List.length_append, List.length_cons, List.length_nil]; decide) fun f7 c7 H7 hb => ?_
  refine app_read (L := LL_law_lit_8) hb rfl (by simp only [List.length_append, List.length_cons, List.length_nil]; decide) fun f8 c8 H8 hb => ?_
  refine ⟨.ref l, rfl, fun s' J => ?_⟩
  have hn := fun b o => cs_free (a := b) (o := o) J
  have sh2 := same_extT sh nt hb.ext
  exact q l _ _ (extT_trk hb.ext hn) (tabs_trk hb.tab hn) (lst_trk hb.lst hn) (by simp only [List.length_map, List.length_append, List.length_cons, List.length_nil]; decide) (all_fst (fApp (fApp (fApp (fApp (fApp (fApp (fApp (fApp (fOne (P := fun x : Addr × LS × Addr => Clo P w K mg base 6 "InvalidBrightness" _ x.1) ((mk_clo (js := [0, 1, 2]) (lo_law_lit_0 T) hb (List.mem_append_left _ (List.mem_append_left _ (List.mem_append_left _ (List.mem_append_left _ (List.mem_append_left _ (List.mem_append_left _ (List.mem_append_left _ (List.mem_append_left _ List.mem_cons_self)))))))) (ndef_free (sc := defScope s_law_lit) nd_law_lit_0) rfl rfl sh2 (DVs.pick dv [0, 1, 2] (by rw [hd]; decide)) (hres (FE_law_lit_0, [0, 1, 2]) List.mem_cons_self)).clo J)) ((mk_clo (js := [0, 2]) (lo_law_lit_1 T) hb (List.mem_append_left _ (List.mem_append_left _ (List.mem_append_left _ (List.mem_append_left _ (List.mem_append_left _ (List.mem_append_left _ (List.mem_append_left _ (List.mem_append_right _ List.mem_cons_self)))))))) (ndef_free (sc := defScope s_law_lit) nd_law_lit_1) rfl rfl sh2 (DVs.pick dv [0, 2] (by rw [hd]; decide)) (hres (FE_law_lit_1, [0, 2]) (List.mem_cons_of_mem _ List.mem_cons_self))).clo J)) ((mk_clo (js := [0, 2]) (lo_law_lit_2 T) hb (List.mem_append_left _ (List.mem_append_left _ (List.mem_append_left _ (List.mem_append_left _ (List.mem_append_left _ (List.mem_append_left _ (List.mem_append_right _ List.mem_cons_self))))))) (ndef_free (sc := defScope s_law_lit) nd_law_lit_2) rfl rfl sh2 (DVs.pick dv [0, 2] (by rw [hd]; decide)) (hres (FE_law_lit_2, [0, 2]) (List.mem_cons_of_mem _ (List.mem_cons_of_mem _ List.mem_cons_self)))).clo J)) ((mk_clo (js := [0, 2]) (lo_law_lit_3 T) hb (List.mem_append_left _ (List.mem_append_left _ (List.mem_append_left _ (List.mem_append_left _ (List.mem_append_left _ (List.mem_append_right _ List.mem_cons_self)))))) (ndef_free (sc := defScope s_law_lit) nd_law_lit_3) rfl rfl sh2 (DVs.pick dv [0, 2] (by rw [hd]; decide)) (hres (FE_law_lit_3, [0, 2]) (List.mem_cons_of_mem _ (List.mem_cons_of_mem _ (List.mem_cons_of_mem _ List.mem_cons_self))))).clo J)) ((mk_clo (js := [0, 2]) (lo_law_lit_4 T) hb (List.mem_append_left _ (List.mem_append_left _ (List.mem_append_left _ (List.mem_append_left _ (List.mem_append_right _ List.mem_cons_self))))) (ndef_free (sc := defScope s_law_lit) nd_law_lit_4) rfl rfl sh2 (DVs.pick dv [0, 2] (by rw [hd]; decide)) (hres (FE_law_lit_4, [0, 2]) (List.mem_cons_of_mem _ (List.mem_cons_of_mem _ (List.mem_cons_of_mem _ (List.mem_cons_of_mem _ List.mem_cons_self)))))).clo J)) ((mk_clo (js := [0, 1, 2]) (lo_law_lit_5 T) hb (List.mem_append_left _ (List.mem_append_left _ (List.mem_append_left _ (List.mem_append_right _ List.mem_cons_self)))) (ndef_free (sc := defScope s_law_lit) nd_law_lit_5) rfl rfl sh2 (DVs.pick dv [0, 1, 2] (by rw [hd]; decide)) (hres (FE_law_lit_5, [0, 1, 2]) (List.mem_cons_of_mem _ (List.mem_cons_of_mem _ (List.mem_cons_of_mem _ (List.mem_cons_of_mem _ (List.mem_cons_of_mem _ List.mem_cons_self))))))).clo J)) ((mk_clo (js := [0, 1, 2]) (lo_law_lit_6 T) hb (List.mem_append_left _ (List.mem_append_left _ (List.mem_append_right _ List.mem_cons_self))) (ndef_free (sc := defScope s_law_lit) nd_law_lit_6) rfl rfl sh2 (DVs.pick dv [0, 1, 2] (by rw [hd]; decide)) (hres (FE_law_lit_6, [0, 1, 2]) (List.mem_cons_of_mem _ (List.mem_cons_of_mem _ (List.mem_cons_of_mem _ (List.mem_cons_of_mem _ (List.mem_cons_of_mem _ (List.mem_cons_of_mem _ List.mem_cons_self)))))))).clo J)) ((mk_clo (js := [0, 2]) (lo_law_lit_7 T) hb (List.mem_append_left _ (List.mem_append_right _ List.mem_cons_self)) (ndef_free (sc := defScope s_law_lit) nd_law_lit_7) rfl rfl sh2 (DVs.pick dv [0, 2] (by rw [hd]; decide)) (hres (FE_law_lit_7, [0, 2]) (List.mem_cons_of_mem _ (List.mem_cons_of_mem _ (List.mem_cons_of_mem _ (List.mem_cons_of_mem _ (List.mem_cons_of_mem _ (List.mem_cons_of_mem _ (List.mem_cons_of_mem _ List.mem_cons_self))))))))).clo J)) ((mk_clo (js := [0, 2]) (lo_law_lit_8 T) hb (List.mem_append_right _ List.mem_cons_self) (ndef_free (sc := defScope s_law_lit) nd_law_lit_8) rfl rfl sh2 (DVs.pick dv [0, 2] (by rw [hd]; decide)) (hres (FE_law_lit_8, [0, 2]) (List.mem_cons_of_mem _ (List.mem_cons_of_mem _ (List.mem_cons_of_mem _ (List.mem_cons_of_mem _ (List.mem_cons_of_mem _ (List.mem_cons_of_mem _ (List.mem_cons_of_mem _ (List.mem_cons_of_mem _ List.mem_cons_self)))))))))).clo J)))
end
end Lw
namespace Lw
open PySem L2 PD PL LamX NdefX
section
variable {P : Program} {w : World} {K : PySem.W.Frag} {mg : Str → Option Value} {base : Heap} {a : Ad}
theorem ok_law (T : Txt K mg a) (B : Tbs base mg a) (M : LawMath) : FnOk P w K mg base (L2.CX P w) 10 a.f_law a.fd_law ["script"] (spLaw K (TT a)) := by
  refine fn_ofC (k := 9) (N := N_law) T.F_law sc_law (fun vs H Q E h => by obtain ⟨_, _, _, _, _, hl, _⟩ := h; exact hl) fun A outer s H vs Q E hr h => ?_
  obtain ⟨S, ns, sh, dv, hns, hl, hT, nt, q⟩ := h
  obtain ⟨box, at_, one, flat, late, no, low, bad, light, eh, m1, m2, m3, m4, m5, m6⟩ := M ns hns
  obtain ⟨th, hd⟩ : ∃ t, SDK K mg (cxOf (L2.CX P w) P w K mg base N_law "law" (defScope s_law) a.f_law (.ref a.cc_law) A outer s H E) E (defBody s_law) ((defBody s_law).drop 7) t B_head := ⟨_, sdk_cons (sd_asg (pd_tup (ad_cons (pd_call (ok_law_box T) (hr.mono (by decide)) rfl T.g_law_box T.F_law_box.kp T.b_law_box pX (ad_cons (pdv 0) (ad_cons pd_int (ad_cons pd_int ad_nil)))) (ad_cons (pd_call (ok_law_pick T) (hr.mono (by decide)) rfl T.g_law_pick T.F_law_pick.kp T.b_law_pick pX (ad_cons (pdv 0) (ad_cons pd_int (ad_cons pd_int ad_nil)))) ad_nil))) (gd_tup rfl (gds_cons (gn 1 sc_law.nd) (gds_cons (gn 2 sc_law.nd) gds_nil)))) (sdk_cons (sd_asg (pd_tup (ad_cons (pd_ix ix_A os_ix (pd_call (ok_law_every T) (hr.mono (by decide)) rfl T.g_law_every T.F_law_every.kp T.b_law_every pX (ad_cons (pdv 1) ad_nil)) pd_int) (ad_cons (pd_tup (ad_cons pd_int (ad_cons pd_int (ad_cons pd_int ad_nil)))) ad_nil))) (gd_tup rfl (gds_cons (gn 3 sc_law.nd) (gds_cons (gn 4 sc_law.nd) gds_nil)))) (sdk_cons (sd_set (pd_tup (ad_cons (pd_tup (ad_cons pd_int (ad_cons pd_int (ad_cons pd_int ad_nil)))) (ad_cons (pdv 4) (ad_cons (pdv 4) ad_nil)))) sc_law.nd rfl) (sdk_cons (sd_set (pd_ix ix_A os_ix (pd_tup (ad_cons pd_non (ad_cons pd_int (ad_cons (pd_tup (ad_cons (pdv 4) (ad_cons (pdv 4) ad_nil))) (ad_cons (pd_tup (ad_cons (pd_tup (ad_cons pd_int (ad_cons pd_int (ad_cons pd_int ad_nil)))) (ad_cons (pdv 4) (ad_cons (pdv 4) ad_nil)))) (ad_cons (pdv 5) (ad_cons (pd_op op_repA os_rep (pd_lst (ad_cons (pdv 4) ad_nil)) pd_int) (ad_cons (pd_tup (ad_cons (pd_tup (ad_cons pd_int (ad_cons pd_int (ad_cons pd_int ad_nil)))) (ad_cons (pdv 4) (ad_cons (pdv 4) ad_nil)))) (ad_cons (pd_tup ad_nil) ad_nil))))))))) (pdv 2)) sc_law.nd rfl) (sdk_cons (sd_set (pd_tup (ad_cons (pd_neg pd_int) (ad_cons (pd_ix ix_A os_ix (pdv 3) pd_int) (ad_cons (pd_ix ix_A os_ix (pdv 3) pd_int) ad_nil)))) sc_law.nd rfl) (sdk_cons (sd_set (pd_ix ix_A os_ix (pd_tup (ad_cons pd_non (ad_cons pd_int (ad_cons (pd_slice sl_D ss_sl (pdv 3) od_none (od_some pd_int)) (ad_cons (pd_callTy c_list cs_listOf rfl T.m_list bt_list (ad_cons (pdv 3) ad_nil)) (ad_cons (pd_tup (ad_cons pd_int (ad_cons (pd_ix ix_A os_ix (pdv 3) pd_int) (ad_cons (pd_ix ix_A os_ix (pdv 3) pd_int) ad_nil)))) (ad_cons (pd_tup (ad_cons (pd_ix ix_A os_ix (pdv 3) pd_int) (ad_cons pd_non (ad_cons (pd_ix ix_A os_ix (pdv 3) pd_int) ad_nil)))) (ad_cons (pd_op op_addA os_add (pdv 3) (pd_tup (ad_cons pd_int ad_nil))) (ad_cons (pdv 7) ad_nil))))))))) (pdv 2)) sc_law.nd rfl) (sdk_cons (sd_set (pd_ix ix_A os_ix (pd_tup (ad_cons pd_non (ad_cons (pd_neg pd_int) (ad_cons pd_int (ad_cons pd_bl (ad_cons pd_str (ad_cons (pd_tup (ad_cons pd_int ad_nil)) (ad_cons (pd_lst (ad_cons pd_int ad_nil)) (ad_cons (pd_neg pd_int) ad_nil))))))))) (pdv 2)) sc_law.nd rfl) sdk_nil))))))⟩
  obtain ⟨tw, hw⟩ : ∃ t, ID K mg (cxOf (L2.CX P w) P w K mg base N_law "law" (defScope s_law) a.f_law (.ref a.cc_law) A outer s H E) E0 (forTg (stAt (defBody s_law) 9)) (forIter (stAt (defBody s_law) 9)) t F_walk := ⟨_, id_seq (pd_tup (ad_cons pd_non (ad_cons pd_str (ad_cons pd_str (ad_cons pd_str (ad_cons (pd_lst (ad_cons pd_str ad_nil)) (ad_cons pd_int ad_nil)))))))⟩
  obtain ⟨tl, he⟩ : ∃ t, PD K mg (cxOf (L2.CX P w) P w K mg base N_law "law" (defScope s_law) a.f_law (.ref a.cc_law) A outer s H E) E0 (lastE (stAt (defBody s_law) 18)) t F_last := ⟨_, pd_cmp op_isA os_is (pd_call (ok_bracket T) (hr.mono (by decide)) rfl T.g_bracket T.F_bracket.kp T.b_bracket passL (ad_cons (pdv 1) (ad_cons (pdv 3) (ad_cons pd_str (ad_cons pd_int (ad_cons pd_int ad_nil)))))) pd_non⟩
  refine ⟨_, hd.ps _ (pss_cons (ps_if (PW.pt (pw_or (pt_not (pt_val (pe_call (ok_law_all T) (hr.mono (by decide)) rfl T.g_law_all T.F_law_all.kp T.b_law_all .nil passL (pa_cons (pe_call (ok_law_cameras T B) (hr.mono (by decide)) rfl T.g_law_cameras T.F_law_cameras.kp T.b_law_cameras .nil passL (pa_cons (pv 6) pa_nil)) (pa_cons pe_str pa_nil))))) (pw_or1 (pt_not (pt_val (pe_call (ok_law_all T) (hr.mono (by decide)) rfl T.g_law_all T.F_law_all.kp T.b_law_all .nil passL (pa_cons (pe_call (ok_law_set T B) (hr.mono (by decide)) rfl T.g_law_set T.F_law_set.kp T.b_law_set .nil passL (pa_cons (pv 1) (pa_cons (pv 3) (pa_cons (pv 8) pa_nil)))) (pa_cons pe_str pa_nil)))))))) (pss_one (ps_ret pe_bl)) pss_nil) (pss_cons (ps_if (pt_not (pt_val (pe_call (ok_law_all T) (hr.mono (by decide)) rfl T.g_law_all T.F_law_all.kp T.b_law_all .nil passL (pa_cons (pe_call (ok_law_lit T B) (hr.mono (by decide)) rfl T.g_law_lit T.F_law_lit.kp T.b_law_lit .nil passL (pa_cons (pv 1) (pa_cons (pv 3) (pa_cons (pv 9) pa_nil)))) (pa_cons pe_str pa_nil))))) (pss_one (ps_ret pe_bl)) pss_nil) (pss_cons (ps_for poX rfl hw.pi (gn 10 sc_law.nd) (pss_cons (ps_asg (pe_lst (pa_cons (pe_lm (L := LL_law_0) B.tb_law rfl (List.mem_cons_of_mem _ (List.mem_cons_of_mem _ (List.mem_cons_of_mem _ (List.mem_cons_self)))) (by show ("law.<locals>.<lambda>" : Str) = ("law" : Str) ++ ".<locals>." ++ "<lambda>"; decide +kernel) (hu_law T) rfl (ndef_free (sc := defScope s_law) nd_law_0)) pa_nil)) (gn 11 sc_law.nd)) (pss_cons (ps_expr (pe_bm PySem.F.plainAttrs_list PySem.F.slot_list_append PySem.F.type_list_append mt_append (pv 11) (pa_cons (pe_lm (L := LL_law_1) B.tb_law rfl (List.mem_cons_of_mem _ (List.mem_cons_of_mem _ (List.mem_cons_of_mem _ (List.mem_cons_self)))) (by show ("law.<locals>.<lambda>" : Str) = ("law" : Str) ++ ".<locals>." ++ "<lambda>"; decide +kernel) (hu_law T) rfl (ndef_free (sc := defScope s_law) nd_law_1)) pa_nil))) (pss_cons (ps_expr (pe_bm PySem.F.plainAttrs_list PySem.F.slot_list_append PySem.F.type_list_append mt_append (pv 11) (pa_cons (pe_lm (L := LL_law_2) B.tb_law rfl (List.mem_cons_of_mem _ (List.mem_cons_of_mem _ (List.mem_cons_of_mem _ (List.mem_cons_self)))) (by show ("law.<locals>.<lambda>" : Str) = ("law" : Str) ++ ".<locals>." ++ "<lambda>"; decide +kernel) (hu_law T) rfl (ndef_free (sc := defScope s_law) nd_law_2)) pa_nil))) (pss_one (ps_if (pt_not (pt_val (pe_allL (k := 6) (i := 11) (ok_law_all T) (hr.mono (by decide)) (fun _ => rfl) rfl T.g_law_all T.F_law_all.kp T.b_law_all (pv 11) (by decide)))) (pss_one (ps_ret pe_bl)) pss_nil)))))) (pss_cons (ps_asg (pe_lst (pa_cons (pe_lm (L := LL_law_3) B.tb_law rfl (List.mem_cons_of_mem _ (List.mem_cons_of_mem _ (List.mem_cons_of_mem _ (List.mem_cons_self)))) (by show ("law.<locals>.<lambda>" : Str) = ("law" : Str) ++ ".<locals>." ++ "<lambda>"; decide +kernel) (hu_law T) rfl (ndef_free (sc := defScope s_law) nd_law_3)) pa_nil)) (gn 12 sc_law.nd)) (pss_cons (ps_expr (pe_bm PySem.F.plainAttrs_list PySem.F.slot_list_append PySem.F.type_list_append mt_append (pv 12) (pa_cons (pe_lm (L := LL_law_4) B.tb_law rfl (List.mem_cons_of_mem _ (List.mem_cons_of_mem _ (List.mem_cons_of_mem _ (List.mem_cons_self)))) (by show ("law.<locals>.<lambda>" : Str) = ("law" : Str) ++ ".<locals>." ++ "<lambda>"; decide +kernel) (hu_law T) rfl (ndef_free (sc := defScope s_law) nd_law_4)) pa_nil))) (pss_cons (ps_expr (pe_bm PySem.F.plainAttrs_list PySem.F.slot_list_append PySem.F.type_list_append mt_append (pv 12) (pa_cons (pe_lm (L := LL_law_5) B.tb_law rfl (List.mem_cons_of_mem _ (List.mem_cons_of_mem _ (List.mem_cons_of_mem _ (List.mem_cons_self)))) (by show ("law.<locals>.<lambda>" : Str) = ("law" : Str) ++ ".<locals>." ++ "<lambda>"; decide +kernel) (hu_law T) rfl (ndef_free (sc := defScope s_law) nd_law_5)) pa_nil))) (pss_cons (ps_expr (pe_bm PySem.F.plainAttrs_list PySem.F.slot_list_append PySem.F.type_list_append mt_append (pv 12) (pa_cons (pe_lm (L := LL_law_6) B.tb_law rfl (List.mem_cons_of_mem _ (List.mem_cons_of_mem _ (List.mem_cons_of_mem _ (List.mem_cons_self)))) (by show ("law.<locals>.<lambda>" : Str) = ("law" : Str) ++ ".<locals>." ++ "<lambda>"; decide +kernel) (hu_law T) rfl (ndef_free (sc := defScope s_law) nd_law_6)) pa_nil))) (pss_cons (ps_expr (pe_bm PySem.F.plainAttrs_list PySem.F.slot_list_append PySem.F.type_list_append mt_append (pv 12) (pa_cons (pe_lm (L := LL_law_7) B.tb_law rfl (List.mem_cons_of_mem _ (List.mem_cons_of_mem _ (List.mem_cons_of_mem _ (List.mem_cons_self)))) (by show ("law.<locals>.<lambda>" : Str) = ("law" : Str) ++ ".<locals>." ++ "<lambda>"; decide +kernel) (hu_law T) rfl (ndef_free (sc := defScope s_law) nd_law_7)) pa_nil))) (pss_cons (ps_expr (pe_bm PySem.F.plainAttrs_list PySem.F.slot_list_append PySem.F.type_list_append mt_append (pv 12) (pa_cons (pe_lm (L := LL_law_8) B.tb_law rfl (List.mem_cons_of_mem _ (List.mem_cons_of_mem _ (List.mem_cons_of_mem _ (List.mem_cons_self)))) (by show ("law.<locals>.<lambda>" : Str) = ("law" : Str) ++ ".<locals>." ++ "<lambda>"; decide +kernel) (hu_law T) rfl (ndef_free (sc := defScope s_law) nd_law_8)) pa_nil))) (pss_cons (ps_expr (pe_bm PySem.F.plainAttrs_list PySem.F.slot_list_append PySem.F.type_list_append mt_append (pv 12) (pa_cons (pe_lm (L := LL_law_9) B.tb_law rfl (List.mem_cons_of_mem _ (List.mem_cons_of_mem _ (List.mem_cons_of_mem _ (List.mem_cons_self)))) (by show ("law.<locals>.<lambda>" : Str) = ("law" : Str) ++ ".<locals>." ++ "<lambda>"; decide +kernel) (hu_law T) rfl (ndef_free (sc := defScope s_law) nd_law_9)) pa_nil))) (pss_cons (ps_expr (pe_bm PySem.F.plainAttrs_list PySem.F.slot_list_append PySem.F.type_list_append mt_append (pv 12) (pa_cons (pe_lm (L := LL_law_10) B.tb_law rfl (List.mem_cons_of_mem _ (List.mem_cons_of_mem _ (List.mem_cons_of_mem _ (List.mem_cons_self)))) (by show ("law.<locals>.<lambda>" : Str) = ("law" : Str) ++ ".<locals>." ++ "<lambda>"; decide +kernel) (hu_law T) rfl (ndef_free (sc := defScope s_law) nd_law_10)) pa_nil))) (pss_one (ps_ret (pe_and (pe_allL (k := 6) (i := 12) (ok_law_all T) (hr.mono (by decide)) (fun _ => rfl) rfl T.g_law_all T.F_law_all.kp T.b_law_all (pv 12) (by decide)) (pe_one he.pe))))))))))))))), ?_⟩
  refine hd.sd _ S H S H _ _ _ (start_rel sh dv) ?_
  rw [show B_head (startD N_law.length [.list (ns.map PyData.int)]) = _ from eh]
  intro S1 H1 σ e1 r
  have hlen : σ.length = 13 := r.len
  obtain ⟨vb, b1, db⟩ := r.dt 1 box rfl
  obtain ⟨vo, o1, dO⟩ := r.dt 3 one rfl
  obtain ⟨vn, n1, dn⟩ := r.dt 6 no rfl
  obtain ⟨vd, d1, dd⟩ := r.dt 8 bad rfl
  obtain ⟨vl, l1, dl⟩ := r.dt 9 light rfl
  have nt1 := nt_ext hT nt r.x
  have hT1 := hT.ext r.x.h
  have sh1 := r.x.sh
  have rE := r.relE
  clear r
  match σ, hlen with
  | [x0, x1, x2, x3, x4, x5, x6, x7, x8, x9, x10, x11, x12], _ =>
  have y1 : x1 = some vb := Option.some.inj b1
  have y3 : x3 = some vo := Option.some.inj o1
  have y6 : x6 = some vn := Option.some.inj n1
  have y8 : x8 = some vd := Option.some.inj d1
  have y9 : x9 = some vl := Option.some.inj l1
  subst y1
  subst y3
  subst y6
  subst y8
  subst y9
  refine ⟨vn, rfl, S1, [no], sh1, ⟨dn, trivial⟩, rfl, by decide, hT1, nt1, m1, ?_⟩
  intro l2 fs2 Hm2 Xm2 tm2 hm1 hm2 hm3
  refine ⟨l2, fs2, _, rfl, by decide, hm1, hm2, hm3, ?_⟩
  intro H2 Xs2
  have X2 := Xm2.trans (ExtT.of Xs2)
  have t2 := tm2.ext Xs2
  refine ⟨true, rfl, ?_⟩
  have sh2 := same_extT sh1 nt1 X2
  refine ⟨vb, rfl, vo, rfl, vd, rfl, S1, [box, one, bad], sh2, ⟨db, dO, dd, trivial⟩, rfl, by decide, t2, nt1, m2, ?_⟩
  intro l3 fs3 Hm3 Xm3 tm3 hm1 hm2 hm3
  refine ⟨l3, fs3, _, rfl, by decide, hm1, hm2, hm3, ?_⟩
  intro H3 Xs3
  have X3 := Xm3.trans (ExtT.of Xs3)
  have t3 := tm3.ext Xs3
  refine ⟨true, rfl, ?_⟩
  have sh3 := same_extT sh2 nt1 X3
  refine ⟨vb, rfl, vo, rfl, vl, rfl, S1, [box, one, light], sh3, ⟨db, dO, dl, trivial⟩, rfl, by decide, t3, nt1, m3, ?_⟩
  intro l4 fs4 Hm4 Xm4 tm4 hm1 hm2 hm3
  refine ⟨l4, fs4, _, rfl, by decide, hm1, hm2, hm3, ?_⟩
  intro H4 Xs4
  have X4 := Xm4.trans (ExtT.of Xs4)
  have t4 := tm4.ext Xs4
  refine ⟨true, rfl, ?_⟩
  have sh4 := same_extT sh3 nt1 X4
  have rE4 : RelE K S1 H4 ([x0, some vb, x2, some vo, x4, x5, some vn, x7, some vd, some vl] ++ [x10, x11, x12]) ([.d (.list (ns.map PyData.int)), .d box, .d at_, .d one, .d flat, .d late, .d no, .d low, .d bad, .d light] ++ List.replicate 3 .un) := ⟨sh4, rE.len, rE.dt, rE.rw⟩
  refine hw.sd S1 H4 _ _ _ rE4 ?_
  rw [show F_walk ([.d (.list (ns.map PyData.int)), .d box, .d at_, .d one, .d flat, .d late, .d no, .d low, .d bad, .d light] ++ List.replicate 3 .un) = .ok NMS from rfl]
  intro J S5 H5 X5 wk
  have nt5 := nt_ext t4 nt1 X5
  have t5 := t4.ext X5.h
  have sh5 := X5.sh
  refine ⟨fun i m σ' H' => i + m = 6 ∧ Same S5 H' ∧ Tabs (TT a) H' ∧ ∃ y10 y11 y12, σ' = [x0, some vb, x2, some vo, x4, x5, some vn, x7, some vd, some vl, y10, y11, y12], ⟨6, rfl, sh5, t5, _, _, _, rfl⟩, ?_⟩
  rintro i m σ' H' ⟨him, s', t', y10, y11, y12, rfl⟩
  have wk' := wk S5 H' (Same.refl _) s'
  by_cases hi : i < 6
  · have hn : i < NMS.length := hi
    obtain ⟨go, yl⟩ := wk'.1 i NMS[i] (List.getElem?_eq_getElem hn)
    refine .inr ⟨go, fun σ'' H'' => i + 1 + (m - 1) = 6 ∧ Same S5 H'' ∧ Tabs (TT a) H'' ∧ ∃ y10 y11 y12, σ'' = [x0, some vb, x2, some vo, x4, x5, some vn, x7, some vd, some vl, y10, y11, y12], fun σ'' H'' z => ⟨m - 1, by omega, z⟩, fun x H6 hy => ?_⟩
    obtain ⟨S6, X6, dx⟩ := yl x H6 hy
    have nt6 := nt_ext t' nt5 X6
    have t6 := t'.ext X6.h
    have sh6 := X6.sh
    obtain ⟨w0, w1, w2⟩ := m4 NMS[i] (List.getElem_mem hn)
    refine bld_new (L := LL_law_0) (cl := fun L => cloFrom _ L.scope.names []) t6 fun l f0 c0 H7 hb => ?_
    refine app_read (L := LL_law_1) hb rfl (by simp only [List.length_append, List.length_cons, List.length_nil]; decide) fun f1 c1 H8 hb => ?_
    refine app_read (L := LL_law_2) hb rfl (by simp only [List.length_append, List.length_cons, List.length_nil]; decide) fun f2 c2 H9 hb => ?_
    have shZ := same_extT sh6 nt6 hb.ext
    have db6 := (db.mono X5.s).mono X6.s
    have dO6 := (dO.mono X5.s).mono X6.s
    refine ⟨l, _, rfl, lst_fst hb.lst, by simp only [List.length_map, List.length_append, List.length_cons, List.length_nil]; decide, all_fst (fApp (fApp (fOne (P := fun x : Addr × LS × Addr => CloL (cxOf (L2.CX P w) P w K mg base N_law "law" (defScope s_law) a.f_law (.ref a.cc_law) A outer s H E) 6 "InvalidWheel" _ _ x.1) (mk_clo (js := [1, 10]) (vs := [vb, x]) (ds := [box, NMS[i]]) (lo_law_0 T) hb (List.mem_append_left _ (List.mem_append_left _ List.mem_cons_self)) (ndef_free (sc := defScope s_law) nd_law_0) rfl rfl shZ ⟨db6, dx, trivial⟩ w0)) (mk_clo (js := [1, 3, 10]) (vs := [vb, vo, x]) (ds := [box, one, NMS[i]]) (lo_law_1 T) hb (List.mem_append_left _ (List.mem_append_right _ List.mem_cons_self)) (ndef_free (sc := defScope s_law) nd_law_1) rfl rfl shZ ⟨db6, dO6, dx, trivial⟩ w1)) (mk_clo (js := [1, 3, 10]) (vs := [vb, vo, x]) (ds := [box, one, NMS[i]]) (lo_law_2 T) hb (List.mem_append_right _ List.mem_cons_self) (ndef_free (sc := defScope s_law) nd_law_2) rfl rfl shZ ⟨db6, dO6, dx, trivial⟩ w2)), fun H10 X10 => ⟨true, rfl, ?_⟩⟩
    exact ⟨by omega, X6.s.trans (shZ.trans X10), hb.tab.ext X10, _, _, _, rfl⟩
  · have e6 : i = NMS.length := by show i = 6; omega
    refine .inl ⟨by rw [e6]; exact wk'.2, ?_⟩
    refine bld_new (L := LL_law_3) (cl := fun L => cloFrom _ L.scope.names []) t' fun l f3 c3 H7 hb => ?_
    refine app_read (L := LL_law_4) hb rfl (by simp only [List.length_append, List.length_cons, List.length_nil]; decide) fun f4 c4 H11 hb => ?_
    refine app_read (L := LL_law_5) hb rfl (by simp only [List.length_append, List.length_cons, List.length_nil]; decide) fun f5 c5 H12 hb => ?_
    refine app_read (L := LL_law_6) hb rfl (by simp only [List.length_append, List.length_cons, List.length_nil]; decide) fun f6 c6 H13 hb => ?_
    refine app_read (L := LL_law_7) hb rfl (by simp only [List.length_append, List.length_cons, List.length_nil]; decide) fun f7 c7 H14 hb => ?_
    refine app_read (L := LL_law_8) hb rfl (by simp only [List.length_append, List.length_cons, List.length_nil]; decide) fun f8 c8 H15 hb => ?_
    refine app_read (L := LL_law_9) hb rfl (by simp only [List.length_append, List.length_cons, List.length_nil]; decide) fun f9 c9 H16 hb => ?_
    refine app_read (L := LL_law_10) hb rfl (by simp only [List.length_append, List.length_cons, List.length_nil]; decide) fun f10 c10 H17 hb => ?_
    have shZ := same_extT s' nt5 hb.ext
    have db6 := db.mono X5.s
    have dO6 := dO.mono X5.s
    obtain ⟨w0, w1, w2, w3, w4, w5, w6, w7⟩ := m5
    refine ⟨l, _, rfl, lst_fst hb.lst, by simp only [List.length_map, List.length_append, List.length_cons, List.length_nil]; decide, all_fst (fApp (fApp (fApp (fApp (fApp (fApp (fApp (fOne (P := fun x : Addr × LS × Addr => CloL (cxOf (L2.CX P w) P w K mg base N_law "law" (defScope s_law) a.f_law (.ref a.cc_law) A outer s H E) 6 "InvalidNumber" _ _ x.1) (mk_clo (js := [1, 3]) (vs := [vb, vo]) (ds := [box, one]) (lo_law_3 T) hb (List.mem_append_left _ (List.mem_append_left _ (List.mem_append_left _ (List.mem_append_left _ (List.mem_append_left _ (List.mem_append_left _ (List.mem_append_left _ List.mem_cons_self))))))) (ndef_free (sc := defScope s_law) nd_law_3) rfl rfl shZ ⟨db6, dO6, trivial⟩ w0)) (mk_clo (js := [1, 3]) (vs := [vb, vo]) (ds := [box, one]) (lo_law_4 T) hb (List.mem_append_left _ (List.mem_append_left _ (List.mem_append_left _ (List.mem_append_left _ (List.mem_append_left _ (List.mem_append_left _ (List.mem_append_right _ List.mem_cons_self))))))) (ndef_free (sc := defScope s_law) nd_law_4) rfl rfl shZ ⟨db6, dO6, trivial⟩ w1)) (mk_clo (js := [1, 3]) (vs := [vb, vo]) (ds := [box, one]) (lo_law_5 T) hb (List.mem_append_left _ (List.mem_append_left _ (List.mem_append_left _ (List.mem_append_left _ (List.mem_append_left _ (List.mem_append_right _ List.mem_cons_self)))))) (ndef_free (sc := defScope s_law) nd_law_5) rfl rfl shZ ⟨db6, dO6, trivial⟩ w2)) (mk_clo (js := [1, 3]) (vs := [vb, vo]) (ds := [box, one]) (lo_law_6 T) hb (List.mem_append_left _ (List.mem_append_left _ (List.mem_append_left _ (List.mem_append_left _ (List.mem_append_right _ List.mem_cons_self))))) (ndef_free (sc := defScope s_law) nd_law_6) rfl rfl shZ ⟨db6, dO6, trivial⟩ w3)) (mk_clo (js := [1, 3]) (vs := [vb, vo]) (ds := [box, one]) (lo_law_7 T) hb (List.mem_append_left _ (List.mem_append_left _ (List.mem_append_left _ (List.mem_append_right _ List.mem_cons_self)))) (ndef_free (sc := defScope s_law) nd_law_7) rfl rfl shZ ⟨db6, dO6, trivial⟩ w4)) (mk_clo (js := [1, 3]) (vs := [vb, vo]) (ds := [box, one]) (lo_law_8 T) hb (List.mem_append_left _ (List.mem_append_left _ (List.mem_append_right _ List.mem_cons_self))) (ndef_free (sc := defScope s_law) nd_law_8) rfl rfl shZ ⟨db6, dO6, trivial⟩ w5)) (mk_clo (js := [1, 3]) (vs := [vb, vo]) (ds := [box, one]) (lo_law_9 T) hb (List.mem_append_left _ (List.mem_append_right _ List.mem_cons_self)) (ndef_free (sc := defScope s_law) nd_law_9) rfl rfl shZ ⟨db6, dO6, trivial⟩ w6)) (mk_clo (js := [1, 3]) (vs := [vb, vo]) (ds := [box, one]) (lo_law_10 T) hb (List.mem_append_right _ List.mem_cons_self) (ndef_free (sc := defScope s_law) nd_law_10) rfl rfl shZ ⟨db6, dO6, trivial⟩ w7)), fun H10 X10 => ⟨true, rfl, ?_⟩⟩
    have rE5 : RelE K S5 H10 ([x0, some vb, x2, some vo, x4, x5, some vn, x7, some vd, some vl] ++ [y10, y11, some (.ref l)]) ([.d (.list (ns.map PyData.int)), .d box, .d at_, .d one, .d flat, .d late, .d no, .d low, .d bad, .d light] ++ List.replicate 3 .un) := relE_tail rE4 rfl rfl X5.s (shZ.trans X10)
    refine he.sd S5 H10 _ _ _ rE5 ?_
    rw [show F_last ([.d (.list (ns.map PyData.int)), .d box, .d at_, .d one, .d flat, .d late, .d no, .d low, .d bad, .d light] ++ List.replicate 3 .un) = _ from m6]
    exact fun v S' H' _ dv => by
      rw [DV] at dv
      rw [dv]
      exact q H'
end
end Lw
namespace Lw
open PySem L2 PD PL LamX NdefX
theorem all_mk {l : PySem.W.OpenLaw} {w : World} {K : PySem.W.Frag} {h : Heap} {mg : Str → Option Value} {fa : Addr} (X : K.In h) (G : h.Ns mainGlobals mg) (hfa : mg "law" = some (.ref fa))
    {f_is_int : Addr} {od_is_int an_is_int : Option Addr} {sl_is_int : Array (Option Value)} {oc_is_int kV_is_int dc_is_int pm_is_int cd_is_int ct_is_int : Value}
    {f_is_wheel : Addr} {od_is_wheel an_is_wheel : Option Addr} {sl_is_wheel : Array (Option Value)} {oc_is_wheel kV_is_wheel dc_is_wheel pm_is_wheel cd_is_wheel ct_is_wheel : Value}
    {f_is_camera : Addr} {od_is_camera an_is_camera : Option Addr} {sl_is_camera : Array (Option Value)} {oc_is_camera kV_is_camera dc_is_camera pm_is_camera cd_is_camera ct_is_camera : Value}
    {f_wheel_values : Addr} {od_wheel_values an_wheel_values : Option Addr} {sl_wheel_values : Array (Option Value)} {oc_wheel_values kV_wheel_values dc_wheel_values pm_wheel_values cd_wheel_values ct_wheel_values : Value}
    {f_has_setting : Addr} {od_has_setting an_has_setting : Option Addr} {sl_has_setting : Array (Option Value)} {oc_has_setting kV_has_setting dc_has_setting pm_has_setting cd_has_setting ct_has_setting : Value}
    {f_check_camera : Addr} {od_check_camera an_check_camera : Option Addr} {sl_check_camera : Array (Option Value)} {oc_check_camera kV_check_camera dc_check_camera pm_check_camera cd_check_camera ct_check_camera : Value}
    {f_check_setting : Addr} {od_check_setting an_check_setting : Option Addr} {sl_check_setting : Array (Option Value)} {oc_check_setting kV_check_setting dc_check_setting pm_check_setting cd_check_setting ct_check_setting : Value}
    {f_check_light : Addr} {od_check_light an_check_light : Option Addr} {sl_check_light : Array (Option Value)} {oc_check_light kV_check_light dc_check_light pm_check_light cd_check_light ct_check_light : Value}
    {f_find_wheel : Addr} {od_find_wheel an_find_wheel : Option Addr} {sl_find_wheel : Array (Option Value)} {oc_find_wheel kV_find_wheel dc_find_wheel pm_find_wheel cd_find_wheel ct_find_wheel : Value}
    {f_is_setting : Addr} {od_is_setting an_is_setting : Option Addr} {sl_is_setting : Array (Option Value)} {oc_is_setting kV_is_setting dc_is_setting pm_is_setting cd_is_setting ct_is_setting : Value}
    {f_values : Addr} {od_values an_values : Option Addr} {sl_values : Array (Option Value)} {oc_values kV_values dc_values pm_values cd_values ct_values : Value}
    {f_count_settings : Addr} {od_count_settings an_count_settings : Option Addr} {sl_count_settings : Array (Option Value)} {oc_count_settings kV_count_settings dc_count_settings pm_count_settings cd_count_settings ct_count_settings : Value}
    {f_exposure : Addr} {od_exposure an_exposure : Option Addr} {sl_exposure : Array (Option Value)} {oc_exposure kV_exposure dc_exposure pm_exposure cd_exposure ct_exposure : Value}
    {f_error : Addr} {od_error an_error : Option Addr} {sl_error : Array (Option Value)} {oc_error kV_error dc_error pm_error cd_error ct_error : Value}
    {f_check_both : Addr} {od_check_both an_check_both : Option Addr} {sl_check_both : Array (Option Value)} {oc_check_both kV_check_both dc_check_both pm_check_both cd_check_both ct_check_both : Value}
    {f_right_settings : Addr} {od_right_settings an_right_settings : Option Addr} {sl_right_settings : Array (Option Value)} {oc_right_settings kV_right_settings dc_right_settings pm_right_settings cd_right_settings ct_right_settings : Value}
    {f_count_right : Addr} {od_count_right an_count_right : Option Addr} {sl_count_right : Array (Option Value)} {oc_count_right kV_count_right dc_count_right pm_count_right cd_count_right ct_count_right : Value}
    {f_reach : Addr} {od_reach an_reach : Option Addr} {sl_reach : Array (Option Value)} {oc_reach kV_reach dc_reach pm_reach cd_reach ct_reach : Value}
    {f_reachable : Addr} {od_reachable an_reachable : Option Addr} {sl_reachable : Array (Option Value)} {oc_reachable kV_reachable dc_reachable pm_reachable cd_reachable ct_reachable : Value}
    {f_commonest : Addr} {od_commonest an_commonest : Option Addr} {sl_commonest : Array (Option Value)} {oc_commonest kV_commonest dc_commonest pm_commonest cd_commonest ct_commonest : Value}
    {f_gaps : Addr} {od_gaps an_gaps : Option Addr} {sl_gaps : Array (Option Value)} {oc_gaps kV_gaps dc_gaps pm_gaps cd_gaps ct_gaps : Value}
    {f_least_error : Addr} {od_least_error an_least_error : Option Addr} {sl_least_error : Array (Option Value)} {oc_least_error kV_least_error dc_least_error pm_least_error cd_least_error ct_least_error : Value}
    {f_nearest_settings : Addr} {od_nearest_settings an_nearest_settings : Option Addr} {sl_nearest_settings : Array (Option Value)} {oc_nearest_settings kV_nearest_settings dc_nearest_settings pm_nearest_settings cd_nearest_settings ct_nearest_settings : Value}
    {f_worst_brightness : Addr} {od_worst_brightness an_worst_brightness : Option Addr} {sl_worst_brightness : Array (Option Value)} {oc_worst_brightness kV_worst_brightness dc_worst_brightness pm_worst_brightness cd_worst_brightness ct_worst_brightness : Value}
    {f_check_number : Addr} {od_check_number an_check_number : Option Addr} {sl_check_number : Array (Option Value)} {oc_check_number kV_check_number dc_check_number pm_check_number cd_check_number ct_check_number : Value}
    {f_with_error : Addr} {od_with_error an_with_error : Option Addr} {sl_with_error : Array (Option Value)} {oc_with_error kV_with_error dc_with_error pm_with_error cd_with_error ct_with_error : Value}
    {f_find_bracket : Addr} {od_find_bracket an_find_bracket : Option Addr} {sl_find_bracket : Array (Option Value)} {oc_find_bracket kV_find_bracket dc_find_bracket pm_find_bracket cd_find_bracket ct_find_bracket : Value}
    {f_check_three : Addr} {od_check_three an_check_three : Option Addr} {sl_check_three : Array (Option Value)} {oc_check_three kV_check_three dc_check_three pm_check_three cd_check_three ct_check_three : Value}
    {f_bracket : Addr} {od_bracket an_bracket : Option Addr} {sl_bracket : Array (Option Value)} {oc_bracket kV_bracket dc_bracket pm_bracket cd_bracket ct_bracket : Value}
    {f_wheels_for : Addr} {od_wheels_for an_wheels_for : Option Addr} {sl_wheels_for : Array (Option Value)} {oc_wheels_for kV_wheels_for dc_wheels_for pm_wheels_for cd_wheels_for ct_wheels_for : Value}
    {f_widest : Addr} {od_widest an_widest : Option Addr} {sl_widest : Array (Option Value)} {oc_widest kV_widest dc_widest pm_widest cd_widest ct_widest : Value}
    {f_clicks : Addr} {od_clicks an_clicks : Option Addr} {sl_clicks : Array (Option Value)} {oc_clicks kV_clicks dc_clicks pm_clicks cd_clicks ct_clicks : Value}
    {f_find_nearest : Addr} {od_find_nearest an_find_nearest : Option Addr} {sl_find_nearest : Array (Option Value)} {oc_find_nearest kV_find_nearest dc_find_nearest pm_find_nearest cd_find_nearest ct_find_nearest : Value}
    {f_fewest_clicks : Addr} {od_fewest_clicks an_fewest_clicks : Option Addr} {sl_fewest_clicks : Array (Option Value)} {oc_fewest_clicks kV_fewest_clicks dc_fewest_clicks pm_fewest_clicks cd_fewest_clicks ct_fewest_clicks : Value}
    {f_nearest_right : Addr} {od_nearest_right an_nearest_right : Option Addr} {sl_nearest_right : Array (Option Value)} {oc_nearest_right kV_nearest_right dc_nearest_right pm_nearest_right cd_nearest_right ct_nearest_right : Value}
    {f_farthest : Addr} {od_farthest an_farthest : Option Addr} {sl_farthest : Array (Option Value)} {oc_farthest kV_farthest dc_farthest pm_farthest cd_farthest ct_farthest : Value}
    {f_shifts : Addr} {od_shifts an_shifts : Option Addr} {sl_shifts : Array (Option Value)} {oc_shifts kV_shifts dc_shifts pm_shifts cd_shifts ct_shifts : Value}
    {f_fewest_shifts : Addr} {od_fewest_shifts an_fewest_shifts : Option Addr} {sl_fewest_shifts : Array (Option Value)} {oc_fewest_shifts kV_fewest_shifts dc_fewest_shifts pm_fewest_shifts cd_fewest_shifts ct_fewest_shifts : Value}
    {f_shift_groups : Addr} {od_shift_groups an_shift_groups : Option Addr} {sl_shift_groups : Array (Option Value)} {oc_shift_groups kV_shift_groups dc_shift_groups pm_shift_groups cd_shift_groups ct_shift_groups : Value}
    {f_law_pick : Addr} {od_law_pick an_law_pick : Option Addr} {sl_law_pick : Array (Option Value)} {oc_law_pick kV_law_pick dc_law_pick pm_law_pick cd_law_pick ct_law_pick : Value}
    {f_law_box : Addr} {od_law_box an_law_box : Option Addr} {sl_law_box : Array (Option Value)} {oc_law_box kV_law_box dc_law_box pm_law_box cd_law_box ct_law_box : Value}
    {f_law_every : Addr} {od_law_every an_law_every : Option Addr} {sl_law_every : Array (Option Value)} {oc_law_every kV_law_every dc_law_every pm_law_every cd_law_every ct_law_every : Value}
    {f_law_class : Addr} {od_law_class an_law_class : Option Addr} {sl_law_class : Array (Option Value)} {oc_law_class kV_law_class dc_law_class pm_law_class cd_law_class ct_law_class : Value}
    {f_law_result : Addr} {od_law_result an_law_result : Option Addr} {sl_law_result : Array (Option Value)} {oc_law_result kV_law_result dc_law_result pm_law_result cd_law_result ct_law_result : Value}
    {f_law_all : Addr} {od_law_all an_law_all : Option Addr} {sl_law_all : Array (Option Value)} {oc_law_all kV_law_all dc_law_all pm_law_all cd_law_all ct_law_all : Value}
    {f_law_cameras : Addr} {od_law_cameras an_law_cameras : Option Addr} {sl_law_cameras : Array (Option Value)} {oc_law_cameras kV_law_cameras dc_law_cameras pm_law_cameras ct_law_cameras : Value} {cc_law_cameras pt_law_cameras : Addr} {ec_law_cameras : Value} {ddc_law_cameras : Option Addr} {vc_law_cameras : Array Value} {slc_law_cameras : Array (Option Value)}
    {f_law_set : Addr} {od_law_set an_law_set : Option Addr} {sl_law_set : Array (Option Value)} {oc_law_set kV_law_set dc_law_set pm_law_set ct_law_set : Value} {cc_law_set pt_law_set : Addr} {ec_law_set : Value} {ddc_law_set : Option Addr} {vc_law_set : Array Value} {slc_law_set : Array (Option Value)}
    {f_law_lit : Addr} {od_law_lit an_law_lit : Option Addr} {sl_law_lit : Array (Option Value)} {oc_law_lit kV_law_lit dc_law_lit pm_law_lit ct_law_lit : Value} {cc_law_lit pt_law_lit : Addr} {ec_law_lit : Value} {ddc_law_lit : Option Addr} {vc_law_lit : Array Value} {slc_law_lit : Array (Option Value)}
    {f_law : Addr} {od_law an_law : Option Addr} {sl_law : Array (Option Value)} {oc_law kV_law dc_law pm_law ct_law : Value} {cc_law pt_law : Addr} {ec_law : Value} {ddc_law : Option Addr} {vc_law : Array Value} {slc_law : Array (Option Value)}
    {C_InvalidBrightness : Addr}
    {C_InvalidCamera : Addr}
    {C_InvalidNumber : Addr}
    {C_InvalidSetting : Addr}
    {C_InvalidWheel : Addr}
    {C_LightError : Addr}
    {t_MAX_LEAST : Tok}
    {t_MAX_LIGHT : Tok}
    {t_MAX_MANY : Tok}
    {t_MAX_MOST : Tok}
    {t_MAX_STEP : Tok}
    {t_MAX_VALUES : Tok}
    {t_MAX_WIDTH : Tok}
    {t_MIN_LIGHT : Tok}
    {a_NAMES : Addr} {t_NAMES0 t_NAMES1 t_NAMES2 : Tok} {n_NAMES : Nat} {sl_NAMES : Array (Option Value)}
    {a_SIGNS : Addr} {t_SIGNS0 t_SIGNS1 t_SIGNS2 : Tok} {n_SIGNS : Nat} {sl_SIGNS : Array (Option Value)}
    (a_is_int : PySem.W.nsIn K mainGlobals "is_int" = some (some (.ref f_is_int)))
    (l_is_int : K.lookup f_is_int = some ⟨oc_is_int, od_is_int, .func (PySem.W.fnOf "is_int" "is_int" (defArgs s_is_int) (defBody s_is_int) (defScope s_is_int) .none kV_is_int dc_is_int pm_is_int an_is_int cd_is_int ct_is_int), sl_is_int⟩)
    (c_is_int : PySem.W.codeIn K cd_is_int "is_int" = true)
    (k_is_int : PySem.W.keepIn K (.ref f_is_int) = true)
    (a_is_wheel : PySem.W.nsIn K mainGlobals "is_wheel" = some (some (.ref f_is_wheel)))
    (l_is_wheel : K.lookup f_is_wheel = some ⟨oc_is_wheel, od_is_wheel, .func (PySem.W.fnOf "is_wheel" "is_wheel" (defArgs s_is_wheel) (defBody s_is_wheel) (defScope s_is_wheel) .none kV_is_wheel dc_is_wheel pm_is_wheel an_is_wheel cd_is_wheel ct_is_wheel), sl_is_wheel⟩)
    (c_is_wheel : PySem.W.codeIn K cd_is_wheel "is_wheel" = true)
    (k_is_wheel : PySem.W.keepIn K (.ref f_is_wheel) = true)
    (a_is_camera : PySem.W.nsIn K mainGlobals "is_camera" = some (some (.ref f_is_camera)))
    (l_is_camera : K.lookup f_is_camera = some ⟨oc_is_camera, od_is_camera, .func (PySem.W.fnOf "is_camera" "is_camera" (defArgs s_is_camera) (defBody s_is_camera) (defScope s_is_camera) .none kV_is_camera dc_is_camera pm_is_camera an_is_camera cd_is_camera ct_is_camera), sl_is_camera⟩)
    (c_is_camera : PySem.W.codeIn K cd_is_camera "is_camera" = true)
    (k_is_camera : PySem.W.keepIn K (.ref f_is_camera) = true)
    (a_wheel_values : PySem.W.nsIn K mainGlobals "wheel_values" = some (some (.ref f_wheel_values)))
    (l_wheel_values : K.lookup f_wheel_values = some ⟨oc_wheel_values, od_wheel_values, .func (PySem.W.fnOf "wheel_values" "wheel_values" (defArgs s_wheel_values) (defBody s_wheel_values) (defScope s_wheel_values) .none kV_wheel_values dc_wheel_values pm_wheel_values an_wheel_values cd_wheel_values ct_wheel_values), sl_wheel_values⟩)
    (c_wheel_values : PySem.W.codeIn K cd_wheel_values "wheel_values" = true)
    (k_wheel_values : PySem.W.keepIn K (.ref f_wheel_values) = true)
    (a_has_setting : PySem.W.nsIn K mainGlobals "has_setting" = some (some (.ref f_has_setting)))
    (l_has_setting : K.lookup f_has_setting = some ⟨oc_has_setting, od_has_setting, .func (PySem.W.fnOf "has_setting" "has_setting" (defArgs s_has_setting) (defBody s_has_setting) (defScope s_has_setting) .none kV_has_setting dc_has_setting pm_has_setting an_has_setting cd_has_setting ct_has_setting), sl_has_setting⟩)
    (c_has_setting : PySem.W.codeIn K cd_has_setting "has_setting" = true)
    (k_has_setting : PySem.W.keepIn K (.ref f_has_setting) = true)
    (a_check_camera : PySem.W.nsIn K mainGlobals "check_camera" = some (some (.ref f_check_camera)))
    (l_check_camera : K.lookup f_check_camera = some ⟨oc_check_camera, od_check_camera, .func (PySem.W.fnOf "check_camera" "check_camera" (defArgs s_check_camera) (defBody s_check_camera) (defScope s_check_camera) .none kV_check_camera dc_check_camera pm_check_camera an_check_camera cd_check_camera ct_check_camera), sl_check_camera⟩)
    (c_check_camera : PySem.W.codeIn K cd_check_camera "check_camera" = true)
    (k_check_camera : PySem.W.keepIn K (.ref f_check_camera) = true)
    (a_check_setting : PySem.W.nsIn K mainGlobals "check_setting" = some (some (.ref f_check_setting)))
    (l_check_setting : K.lookup f_check_setting = some ⟨oc_check_setting, od_check_setting, .func (PySem.W.fnOf "check_setting" "check_setting" (defArgs s_check_setting) (defBody s_check_setting) (defScope s_check_setting) .none kV_check_setting dc_check_setting pm_check_setting an_check_setting cd_check_setting ct_check_setting), sl_check_setting⟩)
    (c_check_setting : PySem.W.codeIn K cd_check_setting "check_setting" = true)
    (k_check_setting : PySem.W.keepIn K (.ref f_check_setting) = true)
    (a_check_light : PySem.W.nsIn K mainGlobals "check_light" = some (some (.ref f_check_light)))
    (l_check_light : K.lookup f_check_light = some ⟨oc_check_light, od_check_light, .func (PySem.W.fnOf "check_light" "check_light" (defArgs s_check_light) (defBody s_check_light) (defScope s_check_light) .none kV_check_light dc_check_light pm_check_light an_check_light cd_check_light ct_check_light), sl_check_light⟩)
    (c_check_light : PySem.W.codeIn K cd_check_light "check_light" = true)
    (k_check_light : PySem.W.keepIn K (.ref f_check_light) = true)
    (a_find_wheel : PySem.W.nsIn K mainGlobals "find_wheel" = some (some (.ref f_find_wheel)))
    (l_find_wheel : K.lookup f_find_wheel = some ⟨oc_find_wheel, od_find_wheel, .func (PySem.W.fnOf "find_wheel" "find_wheel" (defArgs s_find_wheel) (defBody s_find_wheel) (defScope s_find_wheel) .none kV_find_wheel dc_find_wheel pm_find_wheel an_find_wheel cd_find_wheel ct_find_wheel), sl_find_wheel⟩)
    (c_find_wheel : PySem.W.codeIn K cd_find_wheel "find_wheel" = true)
    (k_find_wheel : PySem.W.keepIn K (.ref f_find_wheel) = true)
    (a_is_setting : PySem.W.nsIn K mainGlobals "is_setting" = some (some (.ref f_is_setting)))
    (l_is_setting : K.lookup f_is_setting = some ⟨oc_is_setting, od_is_setting, .func (PySem.W.fnOf "is_setting" "is_setting" (defArgs s_is_setting) (defBody s_is_setting) (defScope s_is_setting) .none kV_is_setting dc_is_setting pm_is_setting an_is_setting cd_is_setting ct_is_setting), sl_is_setting⟩)
    (c_is_setting : PySem.W.codeIn K cd_is_setting "is_setting" = true)
    (k_is_setting : PySem.W.keepIn K (.ref f_is_setting) = true)
    (a_values : PySem.W.nsIn K mainGlobals "values" = some (some (.ref f_values)))
    (l_values : K.lookup f_values = some ⟨oc_values, od_values, .func (PySem.W.fnOf "values" "values" (defArgs s_values) (defBody s_values) (defScope s_values) .none kV_values dc_values pm_values an_values cd_values ct_values), sl_values⟩)
    (c_values : PySem.W.codeIn K cd_values "values" = true)
    (k_values : PySem.W.keepIn K (.ref f_values) = true)
    (a_count_settings : PySem.W.nsIn K mainGlobals "count_settings" = some (some (.ref f_count_settings)))
    (l_count_settings : K.lookup f_count_settings = some ⟨oc_count_settings, od_count_settings, .func (PySem.W.fnOf "count_settings" "count_settings" (defArgs s_count_settings) (defBody s_count_settings) (defScope s_count_settings) .none kV_count_settings dc_count_settings pm_count_settings an_count_settings cd_count_settings ct_count_settings), sl_count_settings⟩)
    (c_count_settings : PySem.W.codeIn K cd_count_settings "count_settings" = true)
    (k_count_settings : PySem.W.keepIn K (.ref f_count_settings) = true)
    (a_exposure : PySem.W.nsIn K mainGlobals "exposure" = some (some (.ref f_exposure)))
    (l_exposure : K.lookup f_exposure = some ⟨oc_exposure, od_exposure, .func (PySem.W.fnOf "exposure" "exposure" (defArgs s_exposure) (defBody s_exposure) (defScope s_exposure) .none kV_exposure dc_exposure pm_exposure an_exposure cd_exposure ct_exposure), sl_exposure⟩)
    (c_exposure : PySem.W.codeIn K cd_exposure "exposure" = true)
    (k_exposure : PySem.W.keepIn K (.ref f_exposure) = true)
    (a_error : PySem.W.nsIn K mainGlobals "error" = some (some (.ref f_error)))
    (l_error : K.lookup f_error = some ⟨oc_error, od_error, .func (PySem.W.fnOf "error" "error" (defArgs s_error) (defBody s_error) (defScope s_error) .none kV_error dc_error pm_error an_error cd_error ct_error), sl_error⟩)
    (c_error : PySem.W.codeIn K cd_error "error" = true)
    (k_error : PySem.W.keepIn K (.ref f_error) = true)
    (a_check_both : PySem.W.nsIn K mainGlobals "check_both" = some (some (.ref f_check_both)))
    (l_check_both : K.lookup f_check_both = some ⟨oc_check_both, od_check_both, .func (PySem.W.fnOf "check_both" "check_both" (defArgs s_check_both) (defBody s_check_both) (defScope s_check_both) .none kV_check_both dc_check_both pm_check_both an_check_both cd_check_both ct_check_both), sl_check_both⟩)
    (c_check_both : PySem.W.codeIn K cd_check_both "check_both" = true)
    (k_check_both : PySem.W.keepIn K (.ref f_check_both) = true)
    (a_right_settings : PySem.W.nsIn K mainGlobals "right_settings" = some (some (.ref f_right_settings)))
    (l_right_settings : K.lookup f_right_settings = some ⟨oc_right_settings, od_right_settings, .func (PySem.W.fnOf "right_settings" "right_settings" (defArgs s_right_settings) (defBody s_right_settings) (defScope s_right_settings) .none kV_right_settings dc_right_settings pm_right_settings an_right_settings cd_right_settings ct_right_settings), sl_right_settings⟩)
    (c_right_settings : PySem.W.codeIn K cd_right_settings "right_settings" = true)
    (k_right_settings : PySem.W.keepIn K (.ref f_right_settings) = true)
    (a_count_right : PySem.W.nsIn K mainGlobals "count_right" = some (some (.ref f_count_right)))
    (l_count_right : K.lookup f_count_right = some ⟨oc_count_right, od_count_right, .func (PySem.W.fnOf "count_right" "count_right" (defArgs s_count_right) (defBody s_count_right) (defScope s_count_right) .none kV_count_right dc_count_right pm_count_right an_count_right cd_count_right ct_count_right), sl_count_right⟩)
    (c_count_right : PySem.W.codeIn K cd_count_right "count_right" = true)
    (k_count_right : PySem.W.keepIn K (.ref f_count_right) = true)
    (a_reach : PySem.W.nsIn K mainGlobals "reach" = some (some (.ref f_reach)))
    (l_reach : K.lookup f_reach = some ⟨oc_reach, od_reach, .func (PySem.W.fnOf "reach" "reach" (defArgs s_reach) (defBody s_reach) (defScope s_reach) .none kV_reach dc_reach pm_reach an_reach cd_reach ct_reach), sl_reach⟩)
    (c_reach : PySem.W.codeIn K cd_reach "reach" = true)
    (k_reach : PySem.W.keepIn K (.ref f_reach) = true)
    (a_reachable : PySem.W.nsIn K mainGlobals "reachable" = some (some (.ref f_reachable)))
    (l_reachable : K.lookup f_reachable = some ⟨oc_reachable, od_reachable, .func (PySem.W.fnOf "reachable" "reachable" (defArgs s_reachable) (defBody s_reachable) (defScope s_reachable) .none kV_reachable dc_reachable pm_reachable an_reachable cd_reachable ct_reachable), sl_reachable⟩)
    (c_reachable : PySem.W.codeIn K cd_reachable "reachable" = true)
    (k_reachable : PySem.W.keepIn K (.ref f_reachable) = true)
    (a_commonest : PySem.W.nsIn K mainGlobals "commonest" = some (some (.ref f_commonest)))
    (l_commonest : K.lookup f_commonest = some ⟨oc_commonest, od_commonest, .func (PySem.W.fnOf "commonest" "commonest" (defArgs s_commonest) (defBody s_commonest) (defScope s_commonest) .none kV_commonest dc_commonest pm_commonest an_commonest cd_commonest ct_commonest), sl_commonest⟩)
    (c_commonest : PySem.W.codeIn K cd_commonest "commonest" = true)
    (k_commonest : PySem.W.keepIn K (.ref f_commonest) = true)
    (a_gaps : PySem.W.nsIn K mainGlobals "gaps" = some (some (.ref f_gaps)))
    (l_gaps : K.lookup f_gaps = some ⟨oc_gaps, od_gaps, .func (PySem.W.fnOf "gaps" "gaps" (defArgs s_gaps) (defBody s_gaps) (defScope s_gaps) .none kV_gaps dc_gaps pm_gaps an_gaps cd_gaps ct_gaps), sl_gaps⟩)
    (c_gaps : PySem.W.codeIn K cd_gaps "gaps" = true)
    (k_gaps : PySem.W.keepIn K (.ref f_gaps) = true)
    (a_least_error : PySem.W.nsIn K mainGlobals "least_error" = some (some (.ref f_least_error)))
    (l_least_error : K.lookup f_least_error = some ⟨oc_least_error, od_least_error, .func (PySem.W.fnOf "least_error" "least_error" (defArgs s_least_error) (defBody s_least_error) (defScope s_least_error) .none kV_least_error dc_least_error pm_least_error an_least_error cd_least_error ct_least_error), sl_least_error⟩)
    (c_least_error : PySem.W.codeIn K cd_least_error "least_error" = true)
    (k_least_error : PySem.W.keepIn K (.ref f_least_error) = true)
    (a_nearest_settings : PySem.W.nsIn K mainGlobals "nearest_settings" = some (some (.ref f_nearest_settings)))
    (l_nearest_settings : K.lookup f_nearest_settings = some ⟨oc_nearest_settings, od_nearest_settings, .func (PySem.W.fnOf "nearest_settings" "nearest_settings" (defArgs s_nearest_settings) (defBody s_nearest_settings) (defScope s_nearest_settings) .none kV_nearest_settings dc_nearest_settings pm_nearest_settings an_nearest_settings cd_nearest_settings ct_nearest_settings), sl_nearest_settings⟩)
    (c_nearest_settings : PySem.W.codeIn K cd_nearest_settings "nearest_settings" = true)
    (k_nearest_settings : PySem.W.keepIn K (.ref f_nearest_settings) = true)
    (a_worst_brightness : PySem.W.nsIn K mainGlobals "worst_brightness" = some (some (.ref f_worst_brightness)))
    (l_worst_brightness : K.lookup f_worst_brightness = some ⟨oc_worst_brightness, od_worst_brightness, .func (PySem.W.fnOf "worst_brightness" "worst_brightness" (defArgs s_worst_brightness) (defBody s_worst_brightness) (defScope s_worst_brightness) .none kV_worst_brightness dc_worst_brightness pm_worst_brightness an_worst_brightness cd_worst_brightness ct_worst_brightness), sl_worst_brightness⟩)
    (c_worst_brightness : PySem.W.codeIn K cd_worst_brightness "worst_brightness" = true)
    (k_worst_brightness : PySem.W.keepIn K (.ref f_worst_brightness) = true)
    (a_check_number : PySem.W.nsIn K mainGlobals "check_number" = some (some (.ref f_check_number)))
    (l_check_number : K.lookup f_check_number = some ⟨oc_check_number, od_check_number, .func (PySem.W.fnOf "check_number" "check_number" (defArgs s_check_number) (defBody s_check_number) (defScope s_check_number) .none kV_check_number dc_check_number pm_check_number an_check_number cd_check_number ct_check_number), sl_check_number⟩)
    (c_check_number : PySem.W.codeIn K cd_check_number "check_number" = true)
    (k_check_number : PySem.W.keepIn K (.ref f_check_number) = true)
    (a_with_error : PySem.W.nsIn K mainGlobals "with_error" = some (some (.ref f_with_error)))
    (l_with_error : K.lookup f_with_error = some ⟨oc_with_error, od_with_error, .func (PySem.W.fnOf "with_error" "with_error" (defArgs s_with_error) (defBody s_with_error) (defScope s_with_error) .none kV_with_error dc_with_error pm_with_error an_with_error cd_with_error ct_with_error), sl_with_error⟩)
    (c_with_error : PySem.W.codeIn K cd_with_error "with_error" = true)
    (k_with_error : PySem.W.keepIn K (.ref f_with_error) = true)
    (a_find_bracket : PySem.W.nsIn K mainGlobals "find_bracket" = some (some (.ref f_find_bracket)))
    (l_find_bracket : K.lookup f_find_bracket = some ⟨oc_find_bracket, od_find_bracket, .func (PySem.W.fnOf "find_bracket" "find_bracket" (defArgs s_find_bracket) (defBody s_find_bracket) (defScope s_find_bracket) .none kV_find_bracket dc_find_bracket pm_find_bracket an_find_bracket cd_find_bracket ct_find_bracket), sl_find_bracket⟩)
    (c_find_bracket : PySem.W.codeIn K cd_find_bracket "find_bracket" = true)
    (k_find_bracket : PySem.W.keepIn K (.ref f_find_bracket) = true)
    (a_check_three : PySem.W.nsIn K mainGlobals "check_three" = some (some (.ref f_check_three)))
    (l_check_three : K.lookup f_check_three = some ⟨oc_check_three, od_check_three, .func (PySem.W.fnOf "check_three" "check_three" (defArgs s_check_three) (defBody s_check_three) (defScope s_check_three) .none kV_check_three dc_check_three pm_check_three an_check_three cd_check_three ct_check_three), sl_check_three⟩)
    (c_check_three : PySem.W.codeIn K cd_check_three "check_three" = true)
    (k_check_three : PySem.W.keepIn K (.ref f_check_three) = true)
    (a_bracket : PySem.W.nsIn K mainGlobals "bracket" = some (some (.ref f_bracket)))
    (l_bracket : K.lookup f_bracket = some ⟨oc_bracket, od_bracket, .func (PySem.W.fnOf "bracket" "bracket" (defArgs s_bracket) (defBody s_bracket) (defScope s_bracket) .none kV_bracket dc_bracket pm_bracket an_bracket cd_bracket ct_bracket), sl_bracket⟩)
    (c_bracket : PySem.W.codeIn K cd_bracket "bracket" = true)
    (k_bracket : PySem.W.keepIn K (.ref f_bracket) = true)
    (a_wheels_for : PySem.W.nsIn K mainGlobals "wheels_for" = some (some (.ref f_wheels_for)))
    (l_wheels_for : K.lookup f_wheels_for = some ⟨oc_wheels_for, od_wheels_for, .func (PySem.W.fnOf "wheels_for" "wheels_for" (defArgs s_wheels_for) (defBody s_wheels_for) (defScope s_wheels_for) .none kV_wheels_for dc_wheels_for pm_wheels_for an_wheels_for cd_wheels_for ct_wheels_for), sl_wheels_for⟩)
    (c_wheels_for : PySem.W.codeIn K cd_wheels_for "wheels_for" = true)
    (k_wheels_for : PySem.W.keepIn K (.ref f_wheels_for) = true)
    (a_widest : PySem.W.nsIn K mainGlobals "widest" = some (some (.ref f_widest)))
    (l_widest : K.lookup f_widest = some ⟨oc_widest, od_widest, .func (PySem.W.fnOf "widest" "widest" (defArgs s_widest) (defBody s_widest) (defScope s_widest) .none kV_widest dc_widest pm_widest an_widest cd_widest ct_widest), sl_widest⟩)
    (c_widest : PySem.W.codeIn K cd_widest "widest" = true)
    (k_widest : PySem.W.keepIn K (.ref f_widest) = true)
    (a_clicks : PySem.W.nsIn K mainGlobals "clicks" = some (some (.ref f_clicks)))
    (l_clicks : K.lookup f_clicks = some ⟨oc_clicks, od_clicks, .func (PySem.W.fnOf "clicks" "clicks" (defArgs s_clicks) (defBody s_clicks) (defScope s_clicks) .none kV_clicks dc_clicks pm_clicks an_clicks cd_clicks ct_clicks), sl_clicks⟩)
    (c_clicks : PySem.W.codeIn K cd_clicks "clicks" = true)
    (k_clicks : PySem.W.keepIn K (.ref f_clicks) = true)
    (a_find_nearest : PySem.W.nsIn K mainGlobals "find_nearest" = some (some (.ref f_find_nearest)))
    (l_find_nearest : K.lookup f_find_nearest = some ⟨oc_find_nearest, od_find_nearest, .func (PySem.W.fnOf "find_nearest" "find_nearest" (defArgs s_find_nearest) (defBody s_find_nearest) (defScope s_find_nearest) .none kV_find_nearest dc_find_nearest pm_find_nearest an_find_nearest cd_find_nearest ct_find_nearest), sl_find_nearest⟩)
    (c_find_nearest : PySem.W.codeIn K cd_find_nearest "find_nearest" = true)
    (k_find_nearest : PySem.W.keepIn K (.ref f_find_nearest) = true)
    (a_fewest_clicks : PySem.W.nsIn K mainGlobals "fewest_clicks" = some (some (.ref f_fewest_clicks)))
    (l_fewest_clicks : K.lookup f_fewest_clicks = some ⟨oc_fewest_clicks, od_fewest_clicks, .func (PySem.W.fnOf "fewest_clicks" "fewest_clicks" (defArgs s_fewest_clicks) (defBody s_fewest_clicks) (defScope s_fewest_clicks) .none kV_fewest_clicks dc_fewest_clicks pm_fewest_clicks an_fewest_clicks cd_fewest_clicks ct_fewest_clicks), sl_fewest_clicks⟩)
    (c_fewest_clicks : PySem.W.codeIn K cd_fewest_clicks "fewest_clicks" = true)
    (k_fewest_clicks : PySem.W.keepIn K (.ref f_fewest_clicks) = true)
    (a_nearest_right : PySem.W.nsIn K mainGlobals "nearest_right" = some (some (.ref f_nearest_right)))
    (l_nearest_right : K.lookup f_nearest_right = some ⟨oc_nearest_right, od_nearest_right, .func (PySem.W.fnOf "nearest_right" "nearest_right" (defArgs s_nearest_right) (defBody s_nearest_right) (defScope s_nearest_right) .none kV_nearest_right dc_nearest_right pm_nearest_right an_nearest_right cd_nearest_right ct_nearest_right), sl_nearest_right⟩)
    (c_nearest_right : PySem.W.codeIn K cd_nearest_right "nearest_right" = true)
    (k_nearest_right : PySem.W.keepIn K (.ref f_nearest_right) = true)
    (a_farthest : PySem.W.nsIn K mainGlobals "farthest" = some (some (.ref f_farthest)))
    (l_farthest : K.lookup f_farthest = some ⟨oc_farthest, od_farthest, .func (PySem.W.fnOf "farthest" "farthest" (defArgs s_farthest) (defBody s_farthest) (defScope s_farthest) .none kV_farthest dc_farthest pm_farthest an_farthest cd_farthest ct_farthest), sl_farthest⟩)
    (c_farthest : PySem.W.codeIn K cd_farthest "farthest" = true)
    (k_farthest : PySem.W.keepIn K (.ref f_farthest) = true)
    (a_shifts : PySem.W.nsIn K mainGlobals "shifts" = some (some (.ref f_shifts)))
    (l_shifts : K.lookup f_shifts = some ⟨oc_shifts, od_shifts, .func (PySem.W.fnOf "shifts" "shifts" (defArgs s_shifts) (defBody s_shifts) (defScope s_shifts) .none kV_shifts dc_shifts pm_shifts an_shifts cd_shifts ct_shifts), sl_shifts⟩)
    (c_shifts : PySem.W.codeIn K cd_shifts "shifts" = true)
    (k_shifts : PySem.W.keepIn K (.ref f_shifts) = true)
    (a_fewest_shifts : PySem.W.nsIn K mainGlobals "fewest_shifts" = some (some (.ref f_fewest_shifts)))
    (l_fewest_shifts : K.lookup f_fewest_shifts = some ⟨oc_fewest_shifts, od_fewest_shifts, .func (PySem.W.fnOf "fewest_shifts" "fewest_shifts" (defArgs s_fewest_shifts) (defBody s_fewest_shifts) (defScope s_fewest_shifts) .none kV_fewest_shifts dc_fewest_shifts pm_fewest_shifts an_fewest_shifts cd_fewest_shifts ct_fewest_shifts), sl_fewest_shifts⟩)
    (c_fewest_shifts : PySem.W.codeIn K cd_fewest_shifts "fewest_shifts" = true)
    (k_fewest_shifts : PySem.W.keepIn K (.ref f_fewest_shifts) = true)
    (a_shift_groups : PySem.W.nsIn K mainGlobals "shift_groups" = some (some (.ref f_shift_groups)))
    (l_shift_groups : K.lookup f_shift_groups = some ⟨oc_shift_groups, od_shift_groups, .func (PySem.W.fnOf "shift_groups" "shift_groups" (defArgs s_shift_groups) (defBody s_shift_groups) (defScope s_shift_groups) .none kV_shift_groups dc_shift_groups pm_shift_groups an_shift_groups cd_shift_groups ct_shift_groups), sl_shift_groups⟩)
    (c_shift_groups : PySem.W.codeIn K cd_shift_groups "shift_groups" = true)
    (k_shift_groups : PySem.W.keepIn K (.ref f_shift_groups) = true)
    (a_law_pick : PySem.W.nsIn K mainGlobals "_law_pick" = some (some (.ref f_law_pick)))
    (l_law_pick : K.lookup f_law_pick = some ⟨oc_law_pick, od_law_pick, .func (PySem.W.fnOf "_law_pick" "_law_pick" (defArgs s_law_pick) (defBody s_law_pick) (defScope s_law_pick) .none kV_law_pick dc_law_pick pm_law_pick an_law_pick cd_law_pick ct_law_pick), sl_law_pick⟩)
    (c_law_pick : PySem.W.codeIn K cd_law_pick "_law_pick" = true)
    (k_law_pick : PySem.W.keepIn K (.ref f_law_pick) = true)
    (a_law_box : PySem.W.nsIn K mainGlobals "_law_box" = some (some (.ref f_law_box)))
    (l_law_box : K.lookup f_law_box = some ⟨oc_law_box, od_law_box, .func (PySem.W.fnOf "_law_box" "_law_box" (defArgs s_law_box) (defBody s_law_box) (defScope s_law_box) .none kV_law_box dc_law_box pm_law_box an_law_box cd_law_box ct_law_box), sl_law_box⟩)
    (c_law_box : PySem.W.codeIn K cd_law_box "_law_box" = true)
    (k_law_box : PySem.W.keepIn K (.ref f_law_box) = true)
    (a_law_every : PySem.W.nsIn K mainGlobals "_law_every" = some (some (.ref f_law_every)))
    (l_law_every : K.lookup f_law_every = some ⟨oc_law_every, od_law_every, .func (PySem.W.fnOf "_law_every" "_law_every" (defArgs s_law_every) (defBody s_law_every) (defScope s_law_every) .none kV_law_every dc_law_every pm_law_every an_law_every cd_law_every ct_law_every), sl_law_every⟩)
    (c_law_every : PySem.W.codeIn K cd_law_every "_law_every" = true)
    (k_law_every : PySem.W.keepIn K (.ref f_law_every) = true)
    (a_law_class : PySem.W.nsIn K mainGlobals "_law_class" = some (some (.ref f_law_class)))
    (l_law_class : K.lookup f_law_class = some ⟨oc_law_class, od_law_class, .func (PySem.W.fnOf "_law_class" "_law_class" (defArgs s_law_class) (defBody s_law_class) (defScope s_law_class) .none kV_law_class dc_law_class pm_law_class an_law_class cd_law_class ct_law_class), sl_law_class⟩)
    (c_law_class : PySem.W.codeIn K cd_law_class "_law_class" = true)
    (k_law_class : PySem.W.keepIn K (.ref f_law_class) = true)
    (a_law_result : PySem.W.nsIn K mainGlobals "_law_result" = some (some (.ref f_law_result)))
    (l_law_result : K.lookup f_law_result = some ⟨oc_law_result, od_law_result, .func (PySem.W.fnOf "_law_result" "_law_result" (defArgs s_law_result) (defBody s_law_result) (defScope s_law_result) .none kV_law_result dc_law_result pm_law_result an_law_result cd_law_result ct_law_result), sl_law_result⟩)
    (c_law_result : PySem.W.codeIn K cd_law_result "_law_result" = true)
    (k_law_result : PySem.W.keepIn K (.ref f_law_result) = true)
    (a_law_all : PySem.W.nsIn K mainGlobals "_law_all" = some (some (.ref f_law_all)))
    (l_law_all : K.lookup f_law_all = some ⟨oc_law_all, od_law_all, .func (PySem.W.fnOf "_law_all" "_law_all" (defArgs s_law_all) (defBody s_law_all) (defScope s_law_all) .none kV_law_all dc_law_all pm_law_all an_law_all cd_law_all ct_law_all), sl_law_all⟩)
    (c_law_all : PySem.W.codeIn K cd_law_all "_law_all" = true)
    (k_law_all : PySem.W.keepIn K (.ref f_law_all) = true)
    (a_law_cameras : PySem.W.nsIn K mainGlobals "_law_cameras" = some (some (.ref f_law_cameras)))
    (l_law_cameras : K.lookup f_law_cameras = some ⟨oc_law_cameras, od_law_cameras, .func (PySem.W.fnOf "_law_cameras" "_law_cameras" (defArgs s_law_cameras) (defBody s_law_cameras) (defScope s_law_cameras) .none kV_law_cameras dc_law_cameras pm_law_cameras an_law_cameras (.ref cc_law_cameras) ct_law_cameras), sl_law_cameras⟩)
    (c_law_cameras : PySem.W.codeIn K (.ref cc_law_cameras) "_law_cameras" = true)
    (k_law_cameras : PySem.W.keepIn K (.ref f_law_cameras) = true)
    (a_law_set : PySem.W.nsIn K mainGlobals "_law_set" = some (some (.ref f_law_set)))
    (l_law_set : K.lookup f_law_set = some ⟨oc_law_set, od_law_set, .func (PySem.W.fnOf "_law_set" "_law_set" (defArgs s_law_set) (defBody s_law_set) (defScope s_law_set) .none kV_law_set dc_law_set pm_law_set an_law_set (.ref cc_law_set) ct_law_set), sl_law_set⟩)
    (c_law_set : PySem.W.codeIn K (.ref cc_law_set) "_law_set" = true)
    (k_law_set : PySem.W.keepIn K (.ref f_law_set) = true)
    (a_law_lit : PySem.W.nsIn K mainGlobals "_law_lit" = some (some (.ref f_law_lit)))
    (l_law_lit : K.lookup f_law_lit = some ⟨oc_law_lit, od_law_lit, .func (PySem.W.fnOf "_law_lit" "_law_lit" (defArgs s_law_lit) (defBody s_law_lit) (defScope s_law_lit) .none kV_law_lit dc_law_lit pm_law_lit an_law_lit (.ref cc_law_lit) ct_law_lit), sl_law_lit⟩)
    (c_law_lit : PySem.W.codeIn K (.ref cc_law_lit) "_law_lit" = true)
    (k_law_lit : PySem.W.keepIn K (.ref f_law_lit) = true)
    (a_law : PySem.W.nsIn K mainGlobals "law" = some (some (.ref f_law)))
    (l_law : K.lookup f_law = some ⟨oc_law, od_law, .func (PySem.W.fnOf "law" "law" (defArgs s_law) (defBody s_law) (defScope s_law) .none kV_law dc_law pm_law an_law (.ref cc_law) ct_law), sl_law⟩)
    (c_law : PySem.W.codeIn K (.ref cc_law) "law" = true)
    (k_law : PySem.W.keepIn K (.ref f_law) = true)
    (ax_InvalidBrightness : PySem.W.nsIn K mainGlobals "InvalidBrightness" = some (some (.ref C_InvalidBrightness)))
    (x_InvalidBrightness : PySem.W.excIn K C_InvalidBrightness [.type "ValueError", .type "Exception", .type "BaseException", .type "object"] "ValueError.__new__" = true)
    (kx_InvalidBrightness : PySem.W.keepIn K (.ref C_InvalidBrightness) = true)
    (bx_InvalidBrightness : PySem.W.subIn K (.ref C_InvalidBrightness) (.type "BaseException") = some true)
    (t_InvalidBrightness : PySem.W.typeIn K (.ref C_InvalidBrightness) = some (.type "type"))
    (ax_InvalidCamera : PySem.W.nsIn K mainGlobals "InvalidCamera" = some (some (.ref C_InvalidCamera)))
    (x_InvalidCamera : PySem.W.excIn K C_InvalidCamera [.type "ValueError", .type "Exception", .type "BaseException", .type "object"] "ValueError.__new__" = true)
    (kx_InvalidCamera : PySem.W.keepIn K (.ref C_InvalidCamera) = true)
    (bx_InvalidCamera : PySem.W.subIn K (.ref C_InvalidCamera) (.type "BaseException") = some true)
    (t_InvalidCamera : PySem.W.typeIn K (.ref C_InvalidCamera) = some (.type "type"))
    (ax_InvalidNumber : PySem.W.nsIn K mainGlobals "InvalidNumber" = some (some (.ref C_InvalidNumber)))
    (x_InvalidNumber : PySem.W.excIn K C_InvalidNumber [.type "ValueError", .type "Exception", .type "BaseException", .type "object"] "ValueError.__new__" = true)
    (kx_InvalidNumber : PySem.W.keepIn K (.ref C_InvalidNumber) = true)
    (bx_InvalidNumber : PySem.W.subIn K (.ref C_InvalidNumber) (.type "BaseException") = some true)
    (t_InvalidNumber : PySem.W.typeIn K (.ref C_InvalidNumber) = some (.type "type"))
    (ax_InvalidSetting : PySem.W.nsIn K mainGlobals "InvalidSetting" = some (some (.ref C_InvalidSetting)))
    (x_InvalidSetting : PySem.W.excIn K C_InvalidSetting [.type "ValueError", .type "Exception", .type "BaseException", .type "object"] "ValueError.__new__" = true)
    (kx_InvalidSetting : PySem.W.keepIn K (.ref C_InvalidSetting) = true)
    (bx_InvalidSetting : PySem.W.subIn K (.ref C_InvalidSetting) (.type "BaseException") = some true)
    (t_InvalidSetting : PySem.W.typeIn K (.ref C_InvalidSetting) = some (.type "type"))
    (ax_InvalidWheel : PySem.W.nsIn K mainGlobals "InvalidWheel" = some (some (.ref C_InvalidWheel)))
    (x_InvalidWheel : PySem.W.excIn K C_InvalidWheel [.type "ValueError", .type "Exception", .type "BaseException", .type "object"] "ValueError.__new__" = true)
    (kx_InvalidWheel : PySem.W.keepIn K (.ref C_InvalidWheel) = true)
    (bx_InvalidWheel : PySem.W.subIn K (.ref C_InvalidWheel) (.type "BaseException") = some true)
    (t_InvalidWheel : PySem.W.typeIn K (.ref C_InvalidWheel) = some (.type "type"))
    (ax_LightError : PySem.W.nsIn K mainGlobals "LightError" = some (some (.ref C_LightError)))
    (bx_LightError : PySem.W.subIn K (.ref C_LightError) (.type "BaseException") = some true)
    (t_LightError : PySem.W.typeIn K (.ref C_LightError) = some (.type "type"))
    (sb_InvalidBrightness_InvalidBrightness : PySem.W.subIn K (.ref C_InvalidBrightness) (.ref C_InvalidBrightness) = some true)
    (sb_InvalidBrightness_InvalidCamera : PySem.W.subIn K (.ref C_InvalidBrightness) (.ref C_InvalidCamera) = some false)
    (sb_InvalidBrightness_InvalidNumber : PySem.W.subIn K (.ref C_InvalidBrightness) (.ref C_InvalidNumber) = some false)
    (sb_InvalidBrightness_InvalidSetting : PySem.W.subIn K (.ref C_InvalidBrightness) (.ref C_InvalidSetting) = some false)
    (sb_InvalidBrightness_InvalidWheel : PySem.W.subIn K (.ref C_InvalidBrightness) (.ref C_InvalidWheel) = some false)
    (sb_InvalidCamera_InvalidBrightness : PySem.W.subIn K (.ref C_InvalidCamera) (.ref C_InvalidBrightness) = some false)
    (sb_InvalidCamera_InvalidCamera : PySem.W.subIn K (.ref C_InvalidCamera) (.ref C_InvalidCamera) = some true)
    (sb_InvalidCamera_InvalidNumber : PySem.W.subIn K (.ref C_InvalidCamera) (.ref C_InvalidNumber) = some false)
    (sb_InvalidCamera_InvalidSetting : PySem.W.subIn K (.ref C_InvalidCamera) (.ref C_InvalidSetting) = some false)
    (sb_InvalidCamera_InvalidWheel : PySem.W.subIn K (.ref C_InvalidCamera) (.ref C_InvalidWheel) = some false)
    (sb_InvalidNumber_InvalidBrightness : PySem.W.subIn K (.ref C_InvalidNumber) (.ref C_InvalidBrightness) = some false)
    (sb_InvalidNumber_InvalidCamera : PySem.W.subIn K (.ref C_InvalidNumber) (.ref C_InvalidCamera) = some false)
    (sb_InvalidNumber_InvalidNumber : PySem.W.subIn K (.ref C_InvalidNumber) (.ref C_InvalidNumber) = some true)
    (sb_InvalidNumber_InvalidSetting : PySem.W.subIn K (.ref C_InvalidNumber) (.ref C_InvalidSetting) = some false)
    (sb_InvalidNumber_InvalidWheel : PySem.W.subIn K (.ref C_InvalidNumber) (.ref C_InvalidWheel) = some false)
    (sb_InvalidSetting_InvalidBrightness : PySem.W.subIn K (.ref C_InvalidSetting) (.ref C_InvalidBrightness) = some false)
    (sb_InvalidSetting_InvalidCamera : PySem.W.subIn K (.ref C_InvalidSetting) (.ref C_InvalidCamera) = some false)
    (sb_InvalidSetting_InvalidNumber : PySem.W.subIn K (.ref C_InvalidSetting) (.ref C_InvalidNumber) = some false)
    (sb_InvalidSetting_InvalidSetting : PySem.W.subIn K (.ref C_InvalidSetting) (.ref C_InvalidSetting) = some true)
    (sb_InvalidSetting_InvalidWheel : PySem.W.subIn K (.ref C_InvalidSetting) (.ref C_InvalidWheel) = some false)
    (sb_InvalidWheel_InvalidBrightness : PySem.W.subIn K (.ref C_InvalidWheel) (.ref C_InvalidBrightness) = some false)
    (sb_InvalidWheel_InvalidCamera : PySem.W.subIn K (.ref C_InvalidWheel) (.ref C_InvalidCamera) = some false)
    (sb_InvalidWheel_InvalidNumber : PySem.W.subIn K (.ref C_InvalidWheel) (.ref C_InvalidNumber) = some false)
    (sb_InvalidWheel_InvalidSetting : PySem.W.subIn K (.ref C_InvalidWheel) (.ref C_InvalidSetting) = some false)
    (sb_InvalidWheel_InvalidWheel : PySem.W.subIn K (.ref C_InvalidWheel) (.ref C_InvalidWheel) = some true)
    (ehn : PySem.W.specialIn K (.builtin "object.__class__") "__get__" = some (some (.builtin "getset_descriptor.__get__")))
    (eht : PySem.W.takesIn K (.builtin "object.__class__") = some true)
    (ehd_InvalidBrightness : PySem.W.hasDictIn K C_InvalidBrightness = true)
    (ehd_InvalidCamera : PySem.W.hasDictIn K C_InvalidCamera = true)
    (ehd_InvalidNumber : PySem.W.hasDictIn K C_InvalidNumber = true)
    (ehd_InvalidSetting : PySem.W.hasDictIn K C_InvalidSetting = true)
    (ehd_InvalidWheel : PySem.W.hasDictIn K C_InvalidWheel = true)
    (ehd_LightError : PySem.W.hasDictIn K C_LightError = true)
    (ehg_InvalidBrightness : PySem.W.findIn K (.ref C_InvalidBrightness) "__getattribute__" = some (some (.builtin "BaseException.__getattribute__")))
    (ehk_InvalidBrightness : PySem.W.findIn K (.ref C_InvalidBrightness) "__getattr__" = some none)
    (eha_InvalidBrightness : PySem.W.findIn K (.ref C_InvalidBrightness) "__class__" = some (some (.builtin "object.__class__")))
    (ehm_InvalidBrightness : PySem.W.mroIn K C_InvalidBrightness (.type "object") = some true)
    (em_InvalidBrightness_LightError : PySem.W.subIn K (.ref C_InvalidBrightness) (.ref C_LightError) = some true)
    (ehg_InvalidCamera : PySem.W.findIn K (.ref C_InvalidCamera) "__getattribute__" = some (some (.builtin "BaseException.__getattribute__")))
    (ehk_InvalidCamera : PySem.W.findIn K (.ref C_InvalidCamera) "__getattr__" = some none)
    (eha_InvalidCamera : PySem.W.findIn K (.ref C_InvalidCamera) "__class__" = some (some (.builtin "object.__class__")))
    (ehm_InvalidCamera : PySem.W.mroIn K C_InvalidCamera (.type "object") = some true)
    (em_InvalidCamera_LightError : PySem.W.subIn K (.ref C_InvalidCamera) (.ref C_LightError) = some true)
    (ehg_InvalidNumber : PySem.W.findIn K (.ref C_InvalidNumber) "__getattribute__" = some (some (.builtin "BaseException.__getattribute__")))
    (ehk_InvalidNumber : PySem.W.findIn K (.ref C_InvalidNumber) "__getattr__" = some none)
    (eha_InvalidNumber : PySem.W.findIn K (.ref C_InvalidNumber) "__class__" = some (some (.builtin "object.__class__")))
    (ehm_InvalidNumber : PySem.W.mroIn K C_InvalidNumber (.type "object") = some true)
    (em_InvalidNumber_LightError : PySem.W.subIn K (.ref C_InvalidNumber) (.ref C_LightError) = some true)
    (ehg_InvalidSetting : PySem.W.findIn K (.ref C_InvalidSetting) "__getattribute__" = some (some (.builtin "BaseException.__getattribute__")))
    (ehk_InvalidSetting : PySem.W.findIn K (.ref C_InvalidSetting) "__getattr__" = some none)
    (eha_InvalidSetting : PySem.W.findIn K (.ref C_InvalidSetting) "__class__" = some (some (.builtin "object.__class__")))
    (ehm_InvalidSetting : PySem.W.mroIn K C_InvalidSetting (.type "object") = some true)
    (em_InvalidSetting_LightError : PySem.W.subIn K (.ref C_InvalidSetting) (.ref C_LightError) = some true)
    (ehg_InvalidWheel : PySem.W.findIn K (.ref C_InvalidWheel) "__getattribute__" = some (some (.builtin "BaseException.__getattribute__")))
    (ehk_InvalidWheel : PySem.W.findIn K (.ref C_InvalidWheel) "__getattr__" = some none)
    (eha_InvalidWheel : PySem.W.findIn K (.ref C_InvalidWheel) "__class__" = some (some (.builtin "object.__class__")))
    (ehm_InvalidWheel : PySem.W.mroIn K C_InvalidWheel (.type "object") = some true)
    (em_InvalidWheel_LightError : PySem.W.subIn K (.ref C_InvalidWheel) (.ref C_LightError) = some true)
    (co_MAX_LEAST : PySem.W.nsIn K mainGlobals "MAX_LEAST" = some (some (.int (40) t_MAX_LEAST)))
    (co_MAX_LIGHT : PySem.W.nsIn K mainGlobals "MAX_LIGHT" = some (some (.int (120) t_MAX_LIGHT)))
    (co_MAX_MANY : PySem.W.nsIn K mainGlobals "MAX_MANY" = some (some (.int (4) t_MAX_MANY)))
    (co_MAX_MOST : PySem.W.nsIn K mainGlobals "MAX_MOST" = some (some (.int (60) t_MAX_MOST)))
    (co_MAX_STEP : PySem.W.nsIn K mainGlobals "MAX_STEP" = some (some (.int (3) t_MAX_STEP)))
    (co_MAX_VALUES : PySem.W.nsIn K mainGlobals "MAX_VALUES" = some (some (.int (13) t_MAX_VALUES)))
    (co_MAX_WIDTH : PySem.W.nsIn K mainGlobals "MAX_WIDTH" = some (some (.int (12) t_MAX_WIDTH)))
    (co_MIN_LIGHT : PySem.W.nsIn K mainGlobals "MIN_LIGHT" = some (some (.int (-60) t_MIN_LIGHT)))
    (co_NAMES : PySem.W.nsIn K mainGlobals "NAMES" = some (some (.ref a_NAMES)))
    (cl_NAMES : K.lookup a_NAMES = some ⟨.type "tuple", none, .seq #[.str "aperture" t_NAMES0, .str "time" t_NAMES1, .str "sensitivity" t_NAMES2] n_NAMES, sl_NAMES⟩)
    (co_SIGNS : PySem.W.nsIn K mainGlobals "SIGNS" = some (some (.ref a_SIGNS)))
    (cl_SIGNS : K.lookup a_SIGNS = some ⟨.type "tuple", none, .seq #[.int (1) t_SIGNS0, .int (1) t_SIGNS1, .int (-1) t_SIGNS2] n_SIGNS, sl_SIGNS⟩)
    (z_ValueError : PySem.W.nsIn K mainGlobals "ValueError" = some none)
    (z_all : PySem.W.nsIn K mainGlobals "all" = some none)
    (z_bool : PySem.W.nsIn K mainGlobals "bool" = some none)
    (z_int : PySem.W.nsIn K mainGlobals "int" = some none)
    (z_isinstance : PySem.W.nsIn K mainGlobals "isinstance" = some none)
    (z_len : PySem.W.nsIn K mainGlobals "len" = some none)
    (z_list : PySem.W.nsIn K mainGlobals "list" = some none)
    (z_max : PySem.W.nsIn K mainGlobals "max" = some none)
    (z_range : PySem.W.nsIn K mainGlobals "range" = some none)
    (z_str : PySem.W.nsIn K mainGlobals "str" = some none)
    (z_tuple : PySem.W.nsIn K mainGlobals "tuple" = some none)
    (z_zip : PySem.W.nsIn K mainGlobals "zip" = some none)
    (kc_law_cameras : K.lookup cc_law_cameras = some ⟨ec_law_cameras, ddc_law_cameras, .fields vc_law_cameras, slc_law_cameras⟩)
    (v11_law_cameras : vc_law_cameras[11]? = some (.ref pt_law_cameras))
    (hdc_law_cameras : PySem.W.codeHdIn K cc_law_cameras pt_law_cameras = true)
    (nk_law_cameras : K.lookup pt_law_cameras = none)
    (kc_law_set : K.lookup cc_law_set = some ⟨ec_law_set, ddc_law_set, .fields vc_law_set, slc_law_set⟩)
    (v11_law_set : vc_law_set[11]? = some (.ref pt_law_set))
    (hdc_law_set : PySem.W.codeHdIn K cc_law_set pt_law_set = true)
    (nk_law_set : K.lookup pt_law_set = none)
    (kc_law_lit : K.lookup cc_law_lit = some ⟨ec_law_lit, ddc_law_lit, .fields vc_law_lit, slc_law_lit⟩)
    (v11_law_lit : vc_law_lit[11]? = some (.ref pt_law_lit))
    (hdc_law_lit : PySem.W.codeHdIn K cc_law_lit pt_law_lit = true)
    (nk_law_lit : K.lookup pt_law_lit = none)
    (kc_law : K.lookup cc_law = some ⟨ec_law, ddc_law, .fields vc_law, slc_law⟩)
    (v11_law : vc_law[11]? = some (.ref pt_law))
    (hdc_law : PySem.W.codeHdIn K cc_law pt_law = true)
    (nk_law : K.lookup pt_law = none)
    (ne_law_cameras_law_set : pt_law_cameras ≠ pt_law_set)
    (ne_law_cameras_law_lit : pt_law_cameras ≠ pt_law_lit)
    (ne_law_cameras_law : pt_law_cameras ≠ pt_law)
    (ne_law_set_law_lit : pt_law_set ≠ pt_law_lit)
    (ne_law_set_law : pt_law_set ≠ pt_law)
    (ne_law_lit_law : pt_law_lit ≠ pt_law)
    (sv_InvalidCamera : PySem.W.subIn K (.ref C_InvalidCamera) (.type "ValueError") = some true)
    (sv_InvalidSetting : PySem.W.subIn K (.ref C_InvalidSetting) (.type "ValueError") = some true)
    (sv_InvalidWheel : PySem.W.subIn K (.ref C_InvalidWheel) (.type "ValueError") = some true)
    (sv_InvalidBrightness : PySem.W.subIn K (.ref C_InvalidBrightness) (.type "ValueError") = some true)
    (sv_InvalidNumber : PySem.W.subIn K (.ref C_InvalidNumber) (.type "ValueError") = some true)
    (hTO : PL.TabOf K mg h ["_law_cameras", "_law_set", "_law_lit", "law"])
    : ∃ fd cs T, PL.LawAt l w K 10 mg fa h fd cs T := by
  have e := hfa.symm.trans (PySem.W.mg_of X G a_law)
  cases e
  have T : Txt K mg { cc_law_cameras := cc_law_cameras, pt_law_cameras := pt_law_cameras, cc_law_set := cc_law_set, pt_law_set := pt_law_set, cc_law_lit := cc_law_lit, pt_law_lit := pt_law_lit, cc_law := cc_law, pt_law := pt_law, f_is_int := f_is_int, fd_is_int := _, f_is_wheel := f_is_wheel, fd_is_wheel := _, f_is_camera := f_is_camera, fd_is_camera := _, f_wheel_values := f_wheel_values, fd_wheel_values := _, f_has_setting := f_has_setting, fd_has_setting := _, f_check_camera := f_check_camera, fd_check_camera := _, f_check_setting := f_check_setting, fd_check_setting := _, f_check_light := f_check_light, fd_check_light := _, f_find_wheel := f_find_wheel, fd_find_wheel := _, f_is_setting := f_is_setting, fd_is_setting := _, f_values := f_values, fd_values := _, f_count_settings := f_count_settings, fd_count_settings := _, f_exposure := f_exposure, fd_exposure := _, f_error := f_error, fd_error := _, f_check_both := f_check_both, fd_check_both := _, f_right_settings := f_right_settings, fd_right_settings := _, f_count_right := f_count_right, fd_count_right := _, f_reach := f_reach, fd_reach := _, f_reachable := f_reachable, fd_reachable := _, f_commonest := f_commonest, fd_commonest := _, f_gaps := f_gaps, fd_gaps := _, f_least_error := f_least_error, fd_least_error := _, f_nearest_settings := f_nearest_settings, fd_nearest_settings := _, f_worst_brightness := f_worst_brightness, fd_worst_brightness := _, f_check_number := f_check_number, fd_check_number := _, f_with_error := f_with_error, fd_with_error := _, f_find_bracket := f_find_bracket, fd_find_bracket := _, f_check_three := f_check_three, fd_check_three := _, f_bracket := f_bracket, fd_bracket := _, f_wheels_for := f_wheels_for, fd_wheels_for := _, f_widest := f_widest, fd_widest := _, f_clicks := f_clicks, fd_clicks := _, f_find_nearest := f_find_nearest, fd_find_nearest := _, f_fewest_clicks := f_fewest_clicks, fd_fewest_clicks := _, f_nearest_right := f_nearest_right, fd_nearest_right := _, f_farthest := f_farthest, fd_farthest := _, f_shifts := f_shifts, fd_shifts := _, f_fewest_shifts := f_fewest_shifts, fd_fewest_shifts := _, f_shift_groups := f_shift_groups, fd_shift_groups := _, f_law_pick := f_law_pick, fd_law_pick := _, f_law_box := f_law_box, fd_law_box := _, f_law_every := f_law_every, fd_law_every := _, f_law_class := f_law_class, fd_law_class := _, f_law_result := f_law_result, fd_law_result := _, f_law_all := f_law_all, fd_law_all := _, f_law_cameras := f_law_cameras, fd_law_cameras := _, f_law_set := f_law_set, fd_law_set := _, f_law_lit := f_law_lit, fd_law_lit := _, f_law := fa, fd_law := _, C_InvalidBrightness := C_InvalidBrightness, C_InvalidCamera := C_InvalidCamera, C_InvalidNumber := C_InvalidNumber, C_InvalidSetting := C_InvalidSetting, C_InvalidWheel := C_InvalidWheel, C_LightError := C_LightError, a_NAMES := a_NAMES, a_SIGNS := a_SIGNS } := {
    F_is_int := fun_mk (st := s_is_int) l_is_int c_is_int k_is_int,
    b_is_int := (fun_mk (st := s_is_int) l_is_int c_is_int k_is_int).binds (ps := ["value", "least", "most"]) fun _ _ _ _ _ _ us hl => match us, hl with | [_, _, _], _ => rfl,
    g_is_int := PySem.W.mg_of X G a_is_int,
    F_is_wheel := fun_mk (st := s_is_wheel) l_is_wheel c_is_wheel k_is_wheel,
    b_is_wheel := (fun_mk (st := s_is_wheel) l_is_wheel c_is_wheel k_is_wheel).binds (ps := ["value"]) fun _ _ _ _ _ _ us hl => match us, hl with | [_], _ => rfl,
    g_is_wheel := PySem.W.mg_of X G a_is_wheel,
    F_is_camera := fun_mk (st := s_is_camera) l_is_camera c_is_camera k_is_camera,
    b_is_camera := (fun_mk (st := s_is_camera) l_is_camera c_is_camera k_is_camera).binds (ps := ["candidate"]) fun _ _ _ _ _ _ us hl => match us, hl with | [_], _ => rfl,
    g_is_camera := PySem.W.mg_of X G a_is_camera,
    F_wheel_values := fun_mk (st := s_wheel_values) l_wheel_values c_wheel_values k_wheel_values,
    b_wheel_values := (fun_mk (st := s_wheel_values) l_wheel_values c_wheel_values k_wheel_values).binds (ps := ["wheel"]) fun _ _ _ _ _ _ us hl => match us, hl with | [_], _ => rfl,
    g_wheel_values := PySem.W.mg_of X G a_wheel_values,
    F_has_setting := fun_mk (st := s_has_setting) l_has_setting c_has_setting k_has_setting,
    b_has_setting := (fun_mk (st := s_has_setting) l_has_setting c_has_setting k_has_setting).binds (ps := ["camera", "candidate"]) fun _ _ _ _ _ _ us hl => match us, hl with | [_, _], _ => rfl,
    g_has_setting := PySem.W.mg_of X G a_has_setting,
    F_check_camera := fun_mk (st := s_check_camera) l_check_camera c_check_camera k_check_camera,
    b_check_camera := (fun_mk (st := s_check_camera) l_check_camera c_check_camera k_check_camera).binds (ps := ["value"]) fun _ _ _ _ _ _ us hl => match us, hl with | [_], _ => rfl,
    g_check_camera := PySem.W.mg_of X G a_check_camera,
    F_check_setting := fun_mk (st := s_check_setting) l_check_setting c_check_setting k_check_setting,
    b_check_setting := (fun_mk (st := s_check_setting) l_check_setting c_check_setting k_check_setting).binds (ps := ["camera", "value"]) fun _ _ _ _ _ _ us hl => match us, hl with | [_, _], _ => rfl,
    g_check_setting := PySem.W.mg_of X G a_check_setting,
    F_check_light := fun_mk (st := s_check_light) l_check_light c_check_light k_check_light,
    b_check_light := (fun_mk (st := s_check_light) l_check_light c_check_light k_check_light).binds (ps := ["value"]) fun _ _ _ _ _ _ us hl => match us, hl with | [_], _ => rfl,
    g_check_light := PySem.W.mg_of X G a_check_light,
    F_find_wheel := fun_mk (st := s_find_wheel) l_find_wheel c_find_wheel k_find_wheel,
    b_find_wheel := (fun_mk (st := s_find_wheel) l_find_wheel c_find_wheel k_find_wheel).binds (ps := ["value"]) fun _ _ _ _ _ _ us hl => match us, hl with | [_], _ => rfl,
    g_find_wheel := PySem.W.mg_of X G a_find_wheel,
    F_is_setting := fun_mk (st := s_is_setting) l_is_setting c_is_setting k_is_setting,
    b_is_setting := (fun_mk (st := s_is_setting) l_is_setting c_is_setting k_is_setting).binds (ps := ["camera", "candidate"]) fun _ _ _ _ _ _ us hl => match us, hl with | [_, _], _ => rfl,
    g_is_setting := PySem.W.mg_of X G a_is_setting,
    F_values := fun_mk (st := s_values) l_values c_values k_values,
    b_values := (fun_mk (st := s_values) l_values c_values k_values).binds (ps := ["camera", "wheel"]) fun _ _ _ _ _ _ us hl => match us, hl with | [_, _], _ => rfl,
    g_values := PySem.W.mg_of X G a_values,
    F_count_settings := fun_mk (st := s_count_settings) l_count_settings c_count_settings k_count_settings,
    b_count_settings := (fun_mk (st := s_count_settings) l_count_settings c_count_settings k_count_settings).binds (ps := ["camera"]) fun _ _ _ _ _ _ us hl => match us, hl with | [_], _ => rfl,
    g_count_settings := PySem.W.mg_of X G a_count_settings,
    F_exposure := fun_mk (st := s_exposure) l_exposure c_exposure k_exposure,
    b_exposure := (fun_mk (st := s_exposure) l_exposure c_exposure k_exposure).binds (ps := ["camera", "setting"]) fun _ _ _ _ _ _ us hl => match us, hl with | [_, _], _ => rfl,
    g_exposure := PySem.W.mg_of X G a_exposure,
    F_error := fun_mk (st := s_error) l_error c_error k_error,
    b_error := (fun_mk (st := s_error) l_error c_error k_error).binds (ps := ["camera", "setting", "brightness"]) fun _ _ _ _ _ _ us hl => match us, hl with | [_, _, _], _ => rfl,
    g_error := PySem.W.mg_of X G a_error,
    F_check_both := fun_mk (st := s_check_both) l_check_both c_check_both k_check_both,
    b_check_both := (fun_mk (st := s_check_both) l_check_both c_check_both k_check_both).binds (ps := ["camera", "brightness"]) fun _ _ _ _ _ _ us hl => match us, hl with | [_, _], _ => rfl,
    g_check_both := PySem.W.mg_of X G a_check_both,
    F_right_settings := fun_mk (st := s_right_settings) l_right_settings c_right_settings k_right_settings,
    b_right_settings := (fun_mk (st := s_right_settings) l_right_settings c_right_settings k_right_settings).binds (ps := ["camera", "brightness"]) fun _ _ _ _ _ _ us hl => match us, hl with | [_, _], _ => rfl,
    g_right_settings := PySem.W.mg_of X G a_right_settings,
    F_count_right := fun_mk (st := s_count_right) l_count_right c_count_right k_count_right,
    b_count_right := (fun_mk (st := s_count_right) l_count_right c_count_right k_count_right).binds (ps := ["camera", "brightness"]) fun _ _ _ _ _ _ us hl => match us, hl with | [_, _], _ => rfl,
    g_count_right := PySem.W.mg_of X G a_count_right,
    F_reach := fun_mk (st := s_reach) l_reach c_reach k_reach,
    b_reach := (fun_mk (st := s_reach) l_reach c_reach k_reach).binds (ps := ["camera"]) fun _ _ _ _ _ _ us hl => match us, hl with | [_], _ => rfl,
    g_reach := PySem.W.mg_of X G a_reach,
    F_reachable := fun_mk (st := s_reachable) l_reachable c_reachable k_reachable,
    b_reachable := (fun_mk (st := s_reachable) l_reachable c_reachable k_reachable).binds (ps := ["camera"]) fun _ _ _ _ _ _ us hl => match us, hl with | [_], _ => rfl,
    g_reachable := PySem.W.mg_of X G a_reachable,
    F_commonest := fun_mk (st := s_commonest) l_commonest c_commonest k_commonest,
    b_commonest := (fun_mk (st := s_commonest) l_commonest c_commonest k_commonest).binds (ps := ["camera"]) fun _ _ _ _ _ _ us hl => match us, hl with | [_], _ => rfl,
    g_commonest := PySem.W.mg_of X G a_commonest,
    F_gaps := fun_mk (st := s_gaps) l_gaps c_gaps k_gaps,
    b_gaps := (fun_mk (st := s_gaps) l_gaps c_gaps k_gaps).binds (ps := ["camera"]) fun _ _ _ _ _ _ us hl => match us, hl with | [_], _ => rfl,
    g_gaps := PySem.W.mg_of X G a_gaps,
    F_least_error := fun_mk (st := s_least_error) l_least_error c_least_error k_least_error,
    b_least_error := (fun_mk (st := s_least_error) l_least_error c_least_error k_least_error).binds (ps := ["camera", "brightness"]) fun _ _ _ _ _ _ us hl => match us, hl with | [_, _], _ => rfl,
    g_least_error := PySem.W.mg_of X G a_least_error,
    F_nearest_settings := fun_mk (st := s_nearest_settings) l_nearest_settings c_nearest_settings k_nearest_settings,
    b_nearest_settings := (fun_mk (st := s_nearest_settings) l_nearest_settings c_nearest_settings k_nearest_settings).binds (ps := ["camera", "brightness"]) fun _ _ _ _ _ _ us hl => match us, hl with | [_, _], _ => rfl,
    g_nearest_settings := PySem.W.mg_of X G a_nearest_settings,
    F_worst_brightness := fun_mk (st := s_worst_brightness) l_worst_brightness c_worst_brightness k_worst_brightness,
    b_worst_brightness := (fun_mk (st := s_worst_brightness) l_worst_brightness c_worst_brightness k_worst_brightness).binds (ps := ["camera"]) fun _ _ _ _ _ _ us hl => match us, hl with | [_], _ => rfl,
    g_worst_brightness := PySem.W.mg_of X G a_worst_brightness,
    F_check_number := fun_mk (st := s_check_number) l_check_number c_check_number k_check_number,
    b_check_number := (fun_mk (st := s_check_number) l_check_number c_check_number k_check_number).binds (ps := ["value", "most"]) fun _ _ _ _ _ _ us hl => match us, hl with | [_, _], _ => rfl,
    g_check_number := PySem.W.mg_of X G a_check_number,
    F_with_error := fun_mk (st := s_with_error) l_with_error c_with_error k_with_error,
    b_with_error := (fun_mk (st := s_with_error) l_with_error c_with_error k_with_error).binds (ps := ["setting", "place", "number"]) fun _ _ _ _ _ _ us hl => match us, hl with | [_, _, _], _ => rfl,
    g_with_error := PySem.W.mg_of X G a_with_error,
    F_find_bracket := fun_mk (st := s_find_bracket) l_find_bracket c_find_bracket k_find_bracket,
    b_find_bracket := (fun_mk (st := s_find_bracket) l_find_bracket c_find_bracket k_find_bracket).binds (ps := ["camera", "setting", "place", "many", "width"]) fun _ _ _ _ _ _ us hl => match us, hl with | [_, _, _, _, _], _ => rfl,
    g_find_bracket := PySem.W.mg_of X G a_find_bracket,
    F_check_three := fun_mk (st := s_check_three) l_check_three c_check_three k_check_three,
    b_check_three := (fun_mk (st := s_check_three) l_check_three c_check_three k_check_three).binds (ps := ["camera", "setting", "many"]) fun _ _ _ _ _ _ us hl => match us, hl with | [_, _, _], _ => rfl,
    g_check_three := PySem.W.mg_of X G a_check_three,
    F_bracket := fun_mk (st := s_bracket) l_bracket c_bracket k_bracket,
    b_bracket := (fun_mk (st := s_bracket) l_bracket c_bracket k_bracket).binds (ps := ["camera", "setting", "wheel", "many", "width"]) fun _ _ _ _ _ _ us hl => match us, hl with | [_, _, _, _, _], _ => rfl,
    g_bracket := PySem.W.mg_of X G a_bracket,
    F_wheels_for := fun_mk (st := s_wheels_for) l_wheels_for c_wheels_for k_wheels_for,
    b_wheels_for := (fun_mk (st := s_wheels_for) l_wheels_for c_wheels_for k_wheels_for).binds (ps := ["camera", "setting", "many", "width"]) fun _ _ _ _ _ _ us hl => match us, hl with | [_, _, _, _], _ => rfl,
    g_wheels_for := PySem.W.mg_of X G a_wheels_for,
    F_widest := fun_mk (st := s_widest) l_widest c_widest k_widest,
    b_widest := (fun_mk (st := s_widest) l_widest c_widest k_widest).binds (ps := ["camera", "setting", "wheel", "many"]) fun _ _ _ _ _ _ us hl => match us, hl with | [_, _, _, _], _ => rfl,
    g_widest := PySem.W.mg_of X G a_widest,
    F_clicks := fun_mk (st := s_clicks) l_clicks c_clicks k_clicks,
    b_clicks := (fun_mk (st := s_clicks) l_clicks c_clicks k_clicks).binds (ps := ["camera", "one", "other"]) fun _ _ _ _ _ _ us hl => match us, hl with | [_, _, _], _ => rfl,
    g_clicks := PySem.W.mg_of X G a_clicks,
    F_find_nearest := fun_mk (st := s_find_nearest) l_find_nearest c_find_nearest k_find_nearest,
    b_find_nearest := (fun_mk (st := s_find_nearest) l_find_nearest c_find_nearest k_find_nearest).binds (ps := ["camera", "setting", "brightness"]) fun _ _ _ _ _ _ us hl => match us, hl with | [_, _, _], _ => rfl,
    g_find_nearest := PySem.W.mg_of X G a_find_nearest,
    F_fewest_clicks := fun_mk (st := s_fewest_clicks) l_fewest_clicks c_fewest_clicks k_fewest_clicks,
    b_fewest_clicks := (fun_mk (st := s_fewest_clicks) l_fewest_clicks c_fewest_clicks k_fewest_clicks).binds (ps := ["camera", "setting", "brightness"]) fun _ _ _ _ _ _ us hl => match us, hl with | [_, _, _], _ => rfl,
    g_fewest_clicks := PySem.W.mg_of X G a_fewest_clicks,
    F_nearest_right := fun_mk (st := s_nearest_right) l_nearest_right c_nearest_right k_nearest_right,
    b_nearest_right := (fun_mk (st := s_nearest_right) l_nearest_right c_nearest_right k_nearest_right).binds (ps := ["camera", "setting", "brightness"]) fun _ _ _ _ _ _ us hl => match us, hl with | [_, _, _], _ => rfl,
    g_nearest_right := PySem.W.mg_of X G a_nearest_right,
    F_farthest := fun_mk (st := s_farthest) l_farthest c_farthest k_farthest,
    b_farthest := (fun_mk (st := s_farthest) l_farthest c_farthest k_farthest).binds (ps := ["camera", "brightness"]) fun _ _ _ _ _ _ us hl => match us, hl with | [_, _], _ => rfl,
    g_farthest := PySem.W.mg_of X G a_farthest,
    F_shifts := fun_mk (st := s_shifts) l_shifts c_shifts k_shifts,
    b_shifts := (fun_mk (st := s_shifts) l_shifts c_shifts k_shifts).binds (ps := ["camera", "setting"]) fun _ _ _ _ _ _ us hl => match us, hl with | [_, _], _ => rfl,
    g_shifts := PySem.W.mg_of X G a_shifts,
    F_fewest_shifts := fun_mk (st := s_fewest_shifts) l_fewest_shifts c_fewest_shifts k_fewest_shifts,
    b_fewest_shifts := (fun_mk (st := s_fewest_shifts) l_fewest_shifts c_fewest_shifts k_fewest_shifts).binds (ps := ["camera", "one", "other"]) fun _ _ _ _ _ _ us hl => match us, hl with | [_, _, _], _ => rfl,
    g_fewest_shifts := PySem.W.mg_of X G a_fewest_shifts,
    F_shift_groups := fun_mk (st := s_shift_groups) l_shift_groups c_shift_groups k_shift_groups,
    b_shift_groups := (fun_mk (st := s_shift_groups) l_shift_groups c_shift_groups k_shift_groups).binds (ps := ["camera", "brightness"]) fun _ _ _ _ _ _ us hl => match us, hl with | [_, _], _ => rfl,
    g_shift_groups := PySem.W.mg_of X G a_shift_groups,
    F_law_pick := fun_mk (st := s_law_pick) l_law_pick c_law_pick k_law_pick,
    b_law_pick := (fun_mk (st := s_law_pick) l_law_pick c_law_pick k_law_pick).binds (ps := ["script", "k", "many"]) fun _ _ _ _ _ _ us hl => match us, hl with | [_, _, _], _ => rfl,
    g_law_pick := PySem.W.mg_of X G a_law_pick,
    F_law_box := fun_mk (st := s_law_box) l_law_box c_law_box k_law_box,
    b_law_box := (fun_mk (st := s_law_box) l_law_box c_law_box k_law_box).binds (ps := ["script", "at", "most"]) fun _ _ _ _ _ _ us hl => match us, hl with | [_, _, _], _ => rfl,
    g_law_box := PySem.W.mg_of X G a_law_box,
    F_law_every := fun_mk (st := s_law_every) l_law_every c_law_every k_law_every,
    b_law_every := (fun_mk (st := s_law_every) l_law_every c_law_every k_law_every).binds (ps := ["box"]) fun _ _ _ _ _ _ us hl => match us, hl with | [_], _ => rfl,
    g_law_every := PySem.W.mg_of X G a_law_every,
    F_law_class := fun_mk (st := s_law_class) l_law_class c_law_class k_law_class,
    b_law_class := (fun_mk (st := s_law_class) l_law_class c_law_class k_law_class).binds (ps := ["fault"]) fun _ _ _ _ _ _ us hl => match us, hl with | [_], _ => rfl,
    g_law_class := PySem.W.mg_of X G a_law_class,
    F_law_result := fun_mk (st := s_law_result) l_law_result c_law_result k_law_result,
    b_law_result := (fun_mk (st := s_law_result) l_law_result c_law_result k_law_result).binds (ps := ["call"]) fun _ _ _ _ _ _ us hl => match us, hl with | [_], _ => rfl,
    g_law_result := PySem.W.mg_of X G a_law_result,
    F_law_all := fun_mk (st := s_law_all) l_law_all c_law_all k_law_all,
    b_law_all := (fun_mk (st := s_law_all) l_law_all c_law_all k_law_all).binds (ps := ["calls", "name"]) fun _ _ _ _ _ _ us hl => match us, hl with | [_, _], _ => rfl,
    g_law_all := PySem.W.mg_of X G a_law_all,
    F_law_cameras := ⟨⟨_, _, _, _, _, _, _, _, rfl, l_law_cameras, c_law_cameras⟩, k_law_cameras⟩,
    b_law_cameras := (fun_mk (st := s_law_cameras) l_law_cameras c_law_cameras k_law_cameras).binds (ps := ["no"]) fun _ _ _ _ _ _ us hl => match us, hl with | [_], _ => rfl,
    g_law_cameras := PySem.W.mg_of X G a_law_cameras,
    F_law_set := ⟨⟨_, _, _, _, _, _, _, _, rfl, l_law_set, c_law_set⟩, k_law_set⟩,
    b_law_set := (fun_mk (st := s_law_set) l_law_set c_law_set k_law_set).binds (ps := ["box", "one", "no"]) fun _ _ _ _ _ _ us hl => match us, hl with | [_, _, _], _ => rfl,
    g_law_set := PySem.W.mg_of X G a_law_set,
    F_law_lit := ⟨⟨_, _, _, _, _, _, _, _, rfl, l_law_lit, c_law_lit⟩, k_law_lit⟩,
    b_law_lit := (fun_mk (st := s_law_lit) l_law_lit c_law_lit k_law_lit).binds (ps := ["box", "one", "no"]) fun _ _ _ _ _ _ us hl => match us, hl with | [_, _, _], _ => rfl,
    g_law_lit := PySem.W.mg_of X G a_law_lit,
    F_law := ⟨⟨_, _, _, _, _, _, _, _, rfl, l_law, c_law⟩, k_law⟩,
    b_law := (fun_mk (st := s_law) l_law c_law k_law).binds (ps := ["script"]) fun _ _ _ _ _ _ us hl => match us, hl with | [_], _ => rfl,
    g_law := PySem.W.mg_of X G a_law,
    x_InvalidBrightness := x_InvalidBrightness,
    g_InvalidBrightness := PySem.W.mg_of X G ax_InvalidBrightness,
    k_InvalidBrightness := kx_InvalidBrightness,
    bx_InvalidBrightness := bx_InvalidBrightness,
    t_InvalidBrightness := t_InvalidBrightness,
    x_InvalidCamera := x_InvalidCamera,
    g_InvalidCamera := PySem.W.mg_of X G ax_InvalidCamera,
    k_InvalidCamera := kx_InvalidCamera,
    bx_InvalidCamera := bx_InvalidCamera,
    t_InvalidCamera := t_InvalidCamera,
    x_InvalidNumber := x_InvalidNumber,
    g_InvalidNumber := PySem.W.mg_of X G ax_InvalidNumber,
    k_InvalidNumber := kx_InvalidNumber,
    bx_InvalidNumber := bx_InvalidNumber,
    t_InvalidNumber := t_InvalidNumber,
    x_InvalidSetting := x_InvalidSetting,
    g_InvalidSetting := PySem.W.mg_of X G ax_InvalidSetting,
    k_InvalidSetting := kx_InvalidSetting,
    bx_InvalidSetting := bx_InvalidSetting,
    t_InvalidSetting := t_InvalidSetting,
    x_InvalidWheel := x_InvalidWheel,
    g_InvalidWheel := PySem.W.mg_of X G ax_InvalidWheel,
    k_InvalidWheel := kx_InvalidWheel,
    bx_InvalidWheel := bx_InvalidWheel,
    t_InvalidWheel := t_InvalidWheel,
    g_LightError := PySem.W.mg_of X G ax_LightError,
    kt_InvalidBrightness_InvalidBrightness := kit_sub ehd_InvalidBrightness t_InvalidBrightness sb_InvalidBrightness_InvalidBrightness sb_InvalidBrightness_InvalidBrightness,
    kt_InvalidBrightness_InvalidCamera := kit_sub ehd_InvalidCamera t_InvalidCamera sb_InvalidBrightness_InvalidCamera sb_InvalidCamera_InvalidCamera,
    kt_InvalidBrightness_InvalidNumber := kit_sub ehd_InvalidNumber t_InvalidNumber sb_InvalidBrightness_InvalidNumber sb_InvalidNumber_InvalidNumber,
    kt_InvalidBrightness_InvalidSetting := kit_sub ehd_InvalidSetting t_InvalidSetting sb_InvalidBrightness_InvalidSetting sb_InvalidSetting_InvalidSetting,
    kt_InvalidBrightness_InvalidWheel := kit_sub ehd_InvalidWheel t_InvalidWheel sb_InvalidBrightness_InvalidWheel sb_InvalidWheel_InvalidWheel,
    kt_InvalidCamera_InvalidBrightness := kit_sub ehd_InvalidBrightness t_InvalidBrightness sb_InvalidCamera_InvalidBrightness sb_InvalidBrightness_InvalidBrightness,
    kt_InvalidCamera_InvalidCamera := kit_sub ehd_InvalidCamera t_InvalidCamera sb_InvalidCamera_InvalidCamera sb_InvalidCamera_InvalidCamera,
    kt_InvalidCamera_InvalidNumber := kit_sub ehd_InvalidNumber t_InvalidNumber sb_InvalidCamera_InvalidNumber sb_InvalidNumber_InvalidNumber,
    kt_InvalidCamera_InvalidSetting := kit_sub ehd_InvalidSetting t_InvalidSetting sb_InvalidCamera_InvalidSetting sb_InvalidSetting_InvalidSetting,
    kt_InvalidCamera_InvalidWheel := kit_sub ehd_InvalidWheel t_InvalidWheel sb_InvalidCamera_InvalidWheel sb_InvalidWheel_InvalidWheel,
    kt_InvalidNumber_InvalidBrightness := kit_sub ehd_InvalidBrightness t_InvalidBrightness sb_InvalidNumber_InvalidBrightness sb_InvalidBrightness_InvalidBrightness,
    kt_InvalidNumber_InvalidCamera := kit_sub ehd_InvalidCamera t_InvalidCamera sb_InvalidNumber_InvalidCamera sb_InvalidCamera_InvalidCamera,
    kt_InvalidNumber_InvalidNumber := kit_sub ehd_InvalidNumber t_InvalidNumber sb_InvalidNumber_InvalidNumber sb_InvalidNumber_InvalidNumber,
    kt_InvalidNumber_InvalidSetting := kit_sub ehd_InvalidSetting t_InvalidSetting sb_InvalidNumber_InvalidSetting sb_InvalidSetting_InvalidSetting,
    kt_InvalidNumber_InvalidWheel := kit_sub ehd_InvalidWheel t_InvalidWheel sb_InvalidNumber_InvalidWheel sb_InvalidWheel_InvalidWheel,
    kt_InvalidSetting_InvalidBrightness := kit_sub ehd_InvalidBrightness t_InvalidBrightness sb_InvalidSetting_InvalidBrightness sb_InvalidBrightness_InvalidBrightness,
    kt_InvalidSetting_InvalidCamera := kit_sub ehd_InvalidCamera t_InvalidCamera sb_InvalidSetting_InvalidCamera sb_InvalidCamera_InvalidCamera,
    kt_InvalidSetting_InvalidNumber := kit_sub ehd_InvalidNumber t_InvalidNumber sb_InvalidSetting_InvalidNumber sb_InvalidNumber_InvalidNumber,
    kt_InvalidSetting_InvalidSetting := kit_sub ehd_InvalidSetting t_InvalidSetting sb_InvalidSetting_InvalidSetting sb_InvalidSetting_InvalidSetting,
    kt_InvalidSetting_InvalidWheel := kit_sub ehd_InvalidWheel t_InvalidWheel sb_InvalidSetting_InvalidWheel sb_InvalidWheel_InvalidWheel,
    kt_InvalidWheel_InvalidBrightness := kit_sub ehd_InvalidBrightness t_InvalidBrightness sb_InvalidWheel_InvalidBrightness sb_InvalidBrightness_InvalidBrightness,
    kt_InvalidWheel_InvalidCamera := kit_sub ehd_InvalidCamera t_InvalidCamera sb_InvalidWheel_InvalidCamera sb_InvalidCamera_InvalidCamera,
    kt_InvalidWheel_InvalidNumber := kit_sub ehd_InvalidNumber t_InvalidNumber sb_InvalidWheel_InvalidNumber sb_InvalidNumber_InvalidNumber,
    kt_InvalidWheel_InvalidSetting := kit_sub ehd_InvalidSetting t_InvalidSetting sb_InvalidWheel_InvalidSetting sb_InvalidSetting_InvalidSetting,
    kt_InvalidWheel_InvalidWheel := kit_sub ehd_InvalidWheel t_InvalidWheel sb_InvalidWheel_InvalidWheel sb_InvalidWheel_InvalidWheel,
    e_InvalidBrightness := ⟨ehg_InvalidBrightness, ehk_InvalidBrightness, bx_InvalidBrightness, ehd_InvalidBrightness, eha_InvalidBrightness, ehn, eht, ehm_InvalidBrightness⟩,
    em_InvalidBrightness_LightError := PySem.W.exm_ref bx_LightError ehd_LightError t_LightError em_InvalidBrightness_LightError,
    e_InvalidCamera := ⟨ehg_InvalidCamera, ehk_InvalidCamera, bx_InvalidCamera, ehd_InvalidCamera, eha_InvalidCamera, ehn, eht, ehm_InvalidCamera⟩,
    em_InvalidCamera_LightError := PySem.W.exm_ref bx_LightError ehd_LightError t_LightError em_InvalidCamera_LightError,
    e_InvalidNumber := ⟨ehg_InvalidNumber, ehk_InvalidNumber, bx_InvalidNumber, ehd_InvalidNumber, eha_InvalidNumber, ehn, eht, ehm_InvalidNumber⟩,
    em_InvalidNumber_LightError := PySem.W.exm_ref bx_LightError ehd_LightError t_LightError em_InvalidNumber_LightError,
    e_InvalidSetting := ⟨ehg_InvalidSetting, ehk_InvalidSetting, bx_InvalidSetting, ehd_InvalidSetting, eha_InvalidSetting, ehn, eht, ehm_InvalidSetting⟩,
    em_InvalidSetting_LightError := PySem.W.exm_ref bx_LightError ehd_LightError t_LightError em_InvalidSetting_LightError,
    e_InvalidWheel := ⟨ehg_InvalidWheel, ehk_InvalidWheel, bx_InvalidWheel, ehd_InvalidWheel, eha_InvalidWheel, ehn, eht, ehm_InvalidWheel⟩,
    em_InvalidWheel_LightError := PySem.W.exm_ref bx_LightError ehd_LightError t_LightError em_InvalidWheel_LightError,
    c_MAX_LEAST := ⟨_, PySem.W.mg_of X G co_MAX_LEAST⟩,
    c_MAX_LIGHT := ⟨_, PySem.W.mg_of X G co_MAX_LIGHT⟩,
    c_MAX_MANY := ⟨_, PySem.W.mg_of X G co_MAX_MANY⟩,
    c_MAX_MOST := ⟨_, PySem.W.mg_of X G co_MAX_MOST⟩,
    c_MAX_STEP := ⟨_, PySem.W.mg_of X G co_MAX_STEP⟩,
    c_MAX_VALUES := ⟨_, PySem.W.mg_of X G co_MAX_VALUES⟩,
    c_MAX_WIDTH := ⟨_, PySem.W.mg_of X G co_MAX_WIDTH⟩,
    c_MIN_LIGHT := ⟨_, PySem.W.mg_of X G co_MIN_LIGHT⟩,
    c_NAMES := PySem.W.mg_of X G co_NAMES,
    d_NAMES := fun S => dv_written (vs := [.str "aperture", .str "time", .str "sensitivity"]) cl_NAMES rfl rfl (by show 3 ≤ sizeLine; decide) (.cons ⟨_, rfl⟩ (.cons ⟨_, rfl⟩ (.cons ⟨_, rfl⟩ (.nil)))) (⟨rfl, ⟨rfl, ⟨rfl, trivial⟩⟩⟩),
    oe_NAMES := ⟨_, cl_NAMES, rfl, rfl⟩,
    s_NAMES := fun H => .inr ⟨_, _, _, cl_NAMES, rfl, rfl, (by show 3 ≤ sizeLine; decide), (.cons ⟨_, rfl⟩ (.cons ⟨_, rfl⟩ (.cons ⟨_, rfl⟩ (.nil))))⟩,
    c_SIGNS := PySem.W.mg_of X G co_SIGNS,
    d_SIGNS := fun S => dv_written (vs := [.int (1), .int (1), .int (-1)]) cl_SIGNS rfl rfl (by show 3 ≤ sizeLine; decide) (.cons ⟨_, rfl⟩ (.cons ⟨_, rfl⟩ (.cons ⟨_, rfl⟩ (.nil)))) (⟨rfl, ⟨rfl, ⟨rfl, trivial⟩⟩⟩),
    m_ValueError := PySem.W.mg_none_of X G z_ValueError,
    m_all := PySem.W.mg_none_of X G z_all,
    m_bool := PySem.W.mg_none_of X G z_bool,
    m_int := PySem.W.mg_none_of X G z_int,
    m_isinstance := PySem.W.mg_none_of X G z_isinstance,
    m_len := PySem.W.mg_none_of X G z_len,
    m_list := PySem.W.mg_none_of X G z_list,
    m_max := PySem.W.mg_none_of X G z_max,
    m_range := PySem.W.mg_none_of X G z_range,
    m_str := PySem.W.mg_none_of X G z_str,
    m_tuple := PySem.W.mg_none_of X G z_tuple,
    m_zip := PySem.W.mg_none_of X G z_zip,
    ne_law_cameras_law_set := ne_law_cameras_law_set,
    ne_law_cameras_law_lit := ne_law_cameras_law_lit,
    ne_law_cameras_law := ne_law_cameras_law,
    ne_law_set_law_lit := ne_law_set_law_lit,
    ne_law_set_law := ne_law_set_law,
    ne_law_lit_law := ne_law_lit_law,
    kv_InvalidCamera := kit_ty sv_InvalidCamera,
    kv_InvalidSetting := kit_ty sv_InvalidSetting,
    kv_InvalidWheel := kit_ty sv_InvalidWheel,
    kv_InvalidBrightness := kit_ty sv_InvalidBrightness,
    kv_InvalidNumber := kit_ty sv_InvalidNumber }
  exact ⟨_, [(cc_law_cameras, pt_law_cameras), (cc_law_set, pt_law_set), (cc_law_lit, pt_law_lit), (cc_law, pt_law)], _, List.forall_mem_cons.mpr ⟨hTO "_law_cameras" List.mem_cons_self _ _ _ _ _ _ _ _ _ (T.g_law_cameras) l_law_cameras rfl rfl kc_law_cameras v11_law_cameras, List.forall_mem_cons.mpr ⟨hTO "_law_set" ((List.mem_cons_of_mem _ List.mem_cons_self)) _ _ _ _ _ _ _ _ _ (T.g_law_set) l_law_set rfl rfl kc_law_set v11_law_set, List.forall_mem_cons.mpr ⟨hTO "_law_lit" ((List.mem_cons_of_mem _ (List.mem_cons_of_mem _ List.mem_cons_self))) _ _ _ _ _ _ _ _ _ (T.g_law_lit) l_law_lit rfl rfl kc_law_lit v11_law_lit, List.forall_mem_cons.mpr ⟨hTO "law" ((List.mem_cons_of_mem _ (List.mem_cons_of_mem _ (List.mem_cons_of_mem _ List.mem_cons_self)))) _ _ _ _ _ _ _ _ _ (T.g_law) l_law rfl rfl kc_law v11_law, fun x hx => absurd hx List.not_mem_nil⟩⟩⟩⟩, List.forall_mem_cons.mpr ⟨nk_law_cameras, List.forall_mem_cons.mpr ⟨nk_law_set, List.forall_mem_cons.mpr ⟨nk_law_lit, List.forall_mem_cons.mpr ⟨nk_law, fun x hx => absurd hx List.not_mem_nil⟩⟩⟩⟩, List.forall_mem_cons.mpr ⟨PySem.W.codeHd_of_K X hdc_law_cameras, List.forall_mem_cons.mpr ⟨PySem.W.codeHd_of_K X hdc_law_set, List.forall_mem_cons.mpr ⟨PySem.W.codeHd_of_K X hdc_law_lit, List.forall_mem_cons.mpr ⟨PySem.W.codeHd_of_K X hdc_law, fun x hx => absurd hx List.not_mem_nil⟩⟩⟩⟩, fun s v => .of_eq rfl, List.forall_mem_cons.mpr ⟨⟨_, List.mem_cons_self, rfl⟩, List.forall_mem_cons.mpr ⟨⟨_, (List.mem_cons_of_mem _ List.mem_cons_self), rfl⟩, List.forall_mem_cons.mpr ⟨⟨_, (List.mem_cons_of_mem _ (List.mem_cons_of_mem _ List.mem_cons_self)), rfl⟩, List.forall_mem_cons.mpr ⟨⟨_, (List.mem_cons_of_mem _ (List.mem_cons_of_mem _ (List.mem_cons_of_mem _ List.mem_cons_self))), rfl⟩, fun x hx => absurd hx List.not_mem_nil⟩⟩⟩⟩, fun base _ _ hb => ok_law T ⟨hb _ List.mem_cons_self, hb _ ((List.mem_cons_of_mem _ List.mem_cons_self)), hb _ ((List.mem_cons_of_mem _ (List.mem_cons_of_mem _ List.mem_cons_self))), hb _ ((List.mem_cons_of_mem _ (List.mem_cons_of_mem _ (List.mem_cons_of_mem _ List.mem_cons_self))))⟩ law_math⟩
end Lw
open PySem PySem.W PyProof.Rows
theorem PySem.Challenge.cw_lightsteps_k26_errors_holds : PySem.Challenge.rw_lightsteps_k26_errors.Holds := by
  w_on; o_law; k_head; (case hw => w_witness2)
  k_fill
  refine PL.walk26 (l := PySem.Challenge.rw_lightsteps_k26_errors) (k := 10) (ds := ["_law_cameras", "_law_set", "_law_lit", "law"]) rfl rfl ⟨rfl, by decide, by decide⟩ (by decide +kernel) (fun w h Y => PySem.W.km_in_of Y) ?F
  case F =>
    intro w mg fa h KX G hmg hTO
    refine' Lw.all_mk KX G hmg ?a_is_int ?l_is_int ?c_is_int ?k_is_int ?a_is_wheel ?l_is_wheel ?c_is_wheel ?k_is_wheel ?a_is_camera ?l_is_camera ?c_is_camera ?k_is_camera ?a_wheel_values ?l_wheel_values ?c_wheel_values ?k_wheel_values ?a_has_setting ?l_has_setting ?c_has_setting ?k_has_setting ?a_check_camera ?l_check_camera ?c_check_camera ?k_check_camera ?a_check_setting ?l_check_setting ?c_check_setting ?k_check_setting ?a_check_light ?l_check_light ?c_check_light ?k_check_light ?a_find_wheel ?l_find_wheel ?c_find_wheel ?k_find_wheel ?a_is_setting ?l_is_setting ?c_is_setting ?k_is_setting ?a_values ?l_values ?c_values ?k_values ?a_count_settings ?l_count_settings ?c_count_settings ?k_count_settings ?a_exposure ?l_exposure ?c_exposure ?k_exposure ?a_error ?l_error ?c_error ?k_error ?a_check_both ?l_check_both ?c_check_both ?k_check_both ?a_right_settings ?l_right_settings ?c_right_settings ?k_right_settings ?a_count_right ?l_count_right ?c_count_right ?k_count_right ?a_reach ?l_reach ?c_reach ?k_reach ?a_reachable ?l_reachable ?c_reachable ?k_reachable ?a_commonest ?l_commonest ?c_commonest ?k_commonest ?a_gaps ?l_gaps ?c_gaps ?k_gaps ?a_least_error ?l_least_error ?c_least_error ?k_least_error ?a_nearest_settings ?l_nearest_settings ?c_nearest_settings ?k_nearest_settings ?a_worst_brightness ?l_worst_brightness ?c_worst_brightness ?k_worst_brightness ?a_check_number ?l_check_number ?c_check_number ?k_check_number ?a_with_error ?l_with_error ?c_with_error ?k_with_error ?a_find_bracket ?l_find_bracket ?c_find_bracket ?k_find_bracket ?a_check_three ?l_check_three ?c_check_three ?k_check_three ?a_bracket ?l_bracket ?c_bracket ?k_bracket ?a_wheels_for ?l_wheels_for ?c_wheels_for ?k_wheels_for ?a_widest ?l_widest ?c_widest ?k_widest ?a_clicks ?l_clicks ?c_clicks ?k_clicks ?a_find_nearest ?l_find_nearest ?c_find_nearest ?k_find_nearest ?a_fewest_clicks ?l_fewest_clicks ?c_fewest_clicks ?k_fewest_clicks ?a_nearest_right ?l_nearest_right ?c_nearest_right ?k_nearest_right ?a_farthest ?l_farthest ?c_farthest ?k_farthest ?a_shifts ?l_shifts ?c_shifts ?k_shifts ?a_fewest_shifts ?l_fewest_shifts ?c_fewest_shifts ?k_fewest_shifts ?a_shift_groups ?l_shift_groups ?c_shift_groups ?k_shift_groups ?a_law_pick ?l_law_pick ?c_law_pick ?k_law_pick ?a_law_box ?l_law_box ?c_law_box ?k_law_box ?a_law_every ?l_law_every ?c_law_every ?k_law_every ?a_law_class ?l_law_class ?c_law_class ?k_law_class ?a_law_result ?l_law_result ?c_law_result ?k_law_result ?a_law_all ?l_law_all ?c_law_all ?k_law_all ?a_law_cameras ?l_law_cameras ?c_law_cameras ?k_law_cameras ?a_law_set ?l_law_set ?c_law_set ?k_law_set ?a_law_lit ?l_law_lit ?c_law_lit ?k_law_lit ?a_law ?l_law ?c_law ?k_law ?ax_InvalidBrightness ?x_InvalidBrightness ?kx_InvalidBrightness ?bx_InvalidBrightness ?t_InvalidBrightness ?ax_InvalidCamera ?x_InvalidCamera ?kx_InvalidCamera ?bx_InvalidCamera ?t_InvalidCamera ?ax_InvalidNumber ?x_InvalidNumber ?kx_InvalidNumber ?bx_InvalidNumber ?t_InvalidNumber ?ax_InvalidSetting ?x_InvalidSetting ?kx_InvalidSetting ?bx_InvalidSetting ?t_InvalidSetting ?ax_InvalidWheel ?x_InvalidWheel ?kx_InvalidWheel ?bx_InvalidWheel ?t_InvalidWheel ?ax_LightError ?bx_LightError ?t_LightError ?sb_InvalidBrightness_InvalidBrightness ?sb_InvalidBrightness_InvalidCamera ?sb_InvalidBrightness_InvalidNumber ?sb_InvalidBrightness_InvalidSetting ?sb_InvalidBrightness_InvalidWheel ?sb_InvalidCamera_InvalidBrightness ?sb_InvalidCamera_InvalidCamera ?sb_InvalidCamera_InvalidNumber ?sb_InvalidCamera_InvalidSetting ?sb_InvalidCamera_InvalidWheel ?sb_InvalidNumber_InvalidBrightness ?sb_InvalidNumber_InvalidCamera ?sb_InvalidNumber_InvalidNumber ?sb_InvalidNumber_InvalidSetting ?sb_InvalidNumber_InvalidWheel ?sb_InvalidSetting_InvalidBrightness ?sb_InvalidSetting_InvalidCamera ?sb_InvalidSetting_InvalidNumber ?sb_InvalidSetting_InvalidSetting ?sb_InvalidSetting_InvalidWheel ?sb_InvalidWheel_InvalidBrightness ?sb_InvalidWheel_InvalidCamera ?sb_InvalidWheel_InvalidNumber ?sb_InvalidWheel_InvalidSetting ?sb_InvalidWheel_InvalidWheel ?ehn ?eht ?ehd_InvalidBrightness ?ehd_InvalidCamera ?ehd_InvalidNumber ?ehd_InvalidSetting ?ehd_InvalidWheel ?ehd_LightError ?ehg_InvalidBrightness ?ehk_InvalidBrightness ?eha_InvalidBrightness ?ehm_InvalidBrightness ?em_InvalidBrightness_LightError ?ehg_InvalidCamera ?ehk_InvalidCamera ?eha_InvalidCamera ?ehm_InvalidCamera ?em_InvalidCamera_LightError ?ehg_InvalidNumber ?ehk_InvalidNumber ?eha_InvalidNumber ?ehm_InvalidNumber ?em_InvalidNumber_LightError ?ehg_InvalidSetting ?ehk_InvalidSetting ?eha_InvalidSetting ?ehm_InvalidSetting ?em_InvalidSetting_LightError ?ehg_InvalidWheel ?ehk_InvalidWheel ?eha_InvalidWheel ?ehm_InvalidWheel ?em_InvalidWheel_LightError ?co_MAX_LEAST ?co_MAX_LIGHT ?co_MAX_MANY ?co_MAX_MOST ?co_MAX_STEP ?co_MAX_VALUES ?co_MAX_WIDTH ?co_MIN_LIGHT ?co_NAMES ?cl_NAMES ?co_SIGNS ?cl_SIGNS ?z_ValueError ?z_all ?z_bool ?z_int ?z_isinstance ?z_len ?z_list ?z_max ?z_range ?z_str ?z_tuple ?z_zip ?kc_law_cameras ?v11_law_cameras ?hdc_law_cameras ?nk_law_cameras ?kc_law_set ?v11_law_set ?hdc_law_set ?nk_law_set ?kc_law_lit ?v11_law_lit ?hdc_law_lit ?nk_law_lit ?kc_law ?v11_law ?hdc_law ?nk_law ?ne_law_cameras_law_set ?ne_law_cameras_law_lit ?ne_law_cameras_law ?ne_law_set_law_lit ?ne_law_set_law ?ne_law_lit_law ?sv_InvalidCamera ?sv_InvalidSetting ?sv_InvalidWheel ?sv_InvalidBrightness ?sv_InvalidNumber hTO
    (case a_is_int => k_is)
    (case l_is_int => k_is)
    (case c_is_int => k_is)
    (case k_is_int => k_is)
    (case a_is_wheel => k_is)
    (case l_is_wheel => k_is)
    (case c_is_wheel => k_is)
    (case k_is_wheel => k_is)
    (case a_is_camera => k_is)
    (case l_is_camera => k_is)
    (case c_is_camera => k_is)
    (case k_is_camera => k_is)
    (case a_wheel_values => k_is)
    (case l_wheel_values => k_is)
    (case c_wheel_values => k_is)
    (case k_wheel_values => k_is)
    (case a_has_setting => k_is)
    (case l_has_setting => k_is)
    (case c_has_setting => k_is)
    (case k_has_setting => k_is)
    (case a_check_camera => k_is)
    (case l_check_camera => k_is)
    (case c_check_camera => k_is)
    (case k_check_camera => k_is)
    (case a_check_setting => k_is)
    (case l_check_setting => k_is)
    (case c_check_setting => k_is)
    (case k_check_setting => k_is)
    (case a_check_light => k_is)
    (case l_check_light => k_is)
    (case c_check_light => k_is)
    (case k_check_light => k_is)
    (case a_find_wheel => k_is)
    (case l_find_wheel => k_is)
    (case c_find_wheel => k_is)
    (case k_find_wheel => k_is)
    (case a_is_setting => k_is)
    (case l_is_setting => k_is)
    (case c_is_setting => k_is)
    (case k_is_setting => k_is)
    (case a_values => k_is)
    (case l_values => k_is)
    (case c_values => k_is)
    (case k_values => k_is)
    (case a_count_settings => k_is)
    (case l_count_settings => k_is)
    (case c_count_settings => k_is)
    (case k_count_settings => k_is)
    (case a_exposure => k_is)
    (case l_exposure => k_is)
    (case c_exposure => k_is)
    (case k_exposure => k_is)
    (case a_error => k_is)
    (case l_error => k_is)
    (case c_error => k_is)
    (case k_error => k_is)
    (case a_check_both => k_is)
    (case l_check_both => k_is)
    (case c_check_both => k_is)
    (case k_check_both => k_is)
    (case a_right_settings => k_is)
    (case l_right_settings => k_is)
    (case c_right_settings => k_is)
    (case k_right_settings => k_is)
    (case a_count_right => k_is)
    (case l_count_right => k_is)
    (case c_count_right => k_is)
    (case k_count_right => k_is)
    (case a_reach => k_is)
    (case l_reach => k_is)
    (case c_reach => k_is)
    (case k_reach => k_is)
    (case a_reachable => k_is)
    (case l_reachable => k_is)
    (case c_reachable => k_is)
    (case k_reachable => k_is)
    (case a_commonest => k_is)
    (case l_commonest => k_is)
    (case c_commonest => k_is)
    (case k_commonest => k_is)
    (case a_gaps => k_is)
    (case l_gaps => k_is)
    (case c_gaps => k_is)
    (case k_gaps => k_is)
    (case a_least_error => k_is)
    (case l_least_error => k_is)
    (case c_least_error => k_is)
    (case k_least_error => k_is)
    (case a_nearest_settings => k_is)
    (case l_nearest_settings => k_is)
    (case c_nearest_settings => k_is)
    (case k_nearest_settings => k_is)
    (case a_worst_brightness => k_is)
    (case l_worst_brightness => k_is)
    (case c_worst_brightness => k_is)
    (case k_worst_brightness => k_is)
    (case a_check_number => k_is)
    (case l_check_number => k_is)
    (case c_check_number => k_is)
    (case k_check_number => k_is)
    (case a_with_error => k_is)
    (case l_with_error => k_is)
    (case c_with_error => k_is)
    (case k_with_error => k_is)
    (case a_find_bracket => k_is)
    (case l_find_bracket => k_is)
    (case c_find_bracket => k_is)
    (case k_find_bracket => k_is)
    (case a_check_three => k_is)
    (case l_check_three => k_is)
    (case c_check_three => k_is)
    (case k_check_three => k_is)
    (case a_bracket => k_is)
    (case l_bracket => k_is)
    (case c_bracket => k_is)
    (case k_bracket => k_is)
    (case a_wheels_for => k_is)
    (case l_wheels_for => k_is)
    (case c_wheels_for => k_is)
    (case k_wheels_for => k_is)
    (case a_widest => k_is)
    (case l_widest => k_is)
    (case c_widest => k_is)
    (case k_widest => k_is)
    (case a_clicks => k_is)
    (case l_clicks => k_is)
    (case c_clicks => k_is)
    (case k_clicks => k_is)
    (case a_find_nearest => k_is)
    (case l_find_nearest => k_is)
    (case c_find_nearest => k_is)
    (case k_find_nearest => k_is)
    (case a_fewest_clicks => k_is)
    (case l_fewest_clicks => k_is)
    (case c_fewest_clicks => k_is)
    (case k_fewest_clicks => k_is)
    (case a_nearest_right => k_is)
    (case l_nearest_right => k_is)
    (case c_nearest_right => k_is)
    (case k_nearest_right => k_is)
    (case a_farthest => k_is)
    (case l_farthest => k_is)
    (case c_farthest => k_is)
    (case k_farthest => k_is)
    (case a_shifts => k_is)
    (case l_shifts => k_is)
    (case c_shifts => k_is)
    (case k_shifts => k_is)
    (case a_fewest_shifts => k_is)
    (case l_fewest_shifts => k_is)
    (case c_fewest_shifts => k_is)
    (case k_fewest_shifts => k_is)
    (case a_shift_groups => k_is)
    (case l_shift_groups => k_is)
    (case c_shift_groups => k_is)
    (case k_shift_groups => k_is)
    (case a_law_pick => k_is)
    (case l_law_pick => k_is)
    (case c_law_pick => k_is)
    (case k_law_pick => k_is)
    (case a_law_box => k_is)
    (case l_law_box => k_is)
    (case c_law_box => k_is)
    (case k_law_box => k_is)
    (case a_law_every => k_is)
    (case l_law_every => k_is)
    (case c_law_every => k_is)
    (case k_law_every => k_is)
    (case a_law_class => k_is)
    (case l_law_class => k_is)
    (case c_law_class => k_is)
    (case k_law_class => k_is)
    (case a_law_result => k_is)
    (case l_law_result => k_is)
    (case c_law_result => k_is)
    (case k_law_result => k_is)
    (case a_law_all => k_is)
    (case l_law_all => k_is)
    (case c_law_all => k_is)
    (case k_law_all => k_is)
    (case a_law_cameras => k_is)
    (case l_law_cameras => k_is)
    (case c_law_cameras => k_is)
    (case k_law_cameras => k_is)
    (case a_law_set => k_is)
    (case l_law_set => k_is)
    (case c_law_set => k_is)
    (case k_law_set => k_is)
    (case a_law_lit => k_is)
    (case l_law_lit => k_is)
    (case c_law_lit => k_is)
    (case k_law_lit => k_is)
    (case a_law => k_is)
    (case l_law => k_is)
    (case c_law => k_is)
    (case k_law => k_is)
    (case ax_InvalidBrightness => k_is)
    (case x_InvalidBrightness => k_exc)
    (case kx_InvalidBrightness => k_is)
    (case bx_InvalidBrightness => k_is)
    (case t_InvalidBrightness => k_is)
    (case ax_InvalidCamera => k_is)
    (case x_InvalidCamera => k_exc)
    (case kx_InvalidCamera => k_is)
    (case bx_InvalidCamera => k_is)
    (case t_InvalidCamera => k_is)
    (case ax_InvalidNumber => k_is)
    (case x_InvalidNumber => k_exc)
    (case kx_InvalidNumber => k_is)
    (case bx_InvalidNumber => k_is)
    (case t_InvalidNumber => k_is)
    (case ax_InvalidSetting => k_is)
    (case x_InvalidSetting => k_exc)
    (case kx_InvalidSetting => k_is)
    (case bx_InvalidSetting => k_is)
    (case t_InvalidSetting => k_is)
    (case ax_InvalidWheel => k_is)
    (case x_InvalidWheel => k_exc)
    (case kx_InvalidWheel => k_is)
    (case bx_InvalidWheel => k_is)
    (case t_InvalidWheel => k_is)
    (case ax_LightError => k_is)
    (case bx_LightError => k_is)
    (case t_LightError => k_is)
    (case sb_InvalidBrightness_InvalidBrightness => k_is)
    (case sb_InvalidBrightness_InvalidCamera => k_is)
    (case sb_InvalidBrightness_InvalidNumber => k_is)
    (case sb_InvalidBrightness_InvalidSetting => k_is)
    (case sb_InvalidBrightness_InvalidWheel => k_is)
    (case sb_InvalidCamera_InvalidBrightness => k_is)
    (case sb_InvalidCamera_InvalidCamera => k_is)
    (case sb_InvalidCamera_InvalidNumber => k_is)
    (case sb_InvalidCamera_InvalidSetting => k_is)
    (case sb_InvalidCamera_InvalidWheel => k_is)
    (case sb_InvalidNumber_InvalidBrightness => k_is)
    (case sb_InvalidNumber_InvalidCamera => k_is)
    (case sb_InvalidNumber_InvalidNumber => k_is)
    (case sb_InvalidNumber_InvalidSetting => k_is)
    (case sb_InvalidNumber_InvalidWheel => k_is)
    (case sb_InvalidSetting_InvalidBrightness => k_is)
    (case sb_InvalidSetting_InvalidCamera => k_is)
    (case sb_InvalidSetting_InvalidNumber => k_is)
    (case sb_InvalidSetting_InvalidSetting => k_is)
    (case sb_InvalidSetting_InvalidWheel => k_is)
    (case sb_InvalidWheel_InvalidBrightness => k_is)
    (case sb_InvalidWheel_InvalidCamera => k_is)
    (case sb_InvalidWheel_InvalidNumber => k_is)
    (case sb_InvalidWheel_InvalidSetting => k_is)
    (case sb_InvalidWheel_InvalidWheel => k_is)
    (case ehn => k_is)
    (case eht => k_is)
    (case ehd_InvalidBrightness => k_is)
    (case ehd_InvalidCamera => k_is)
    (case ehd_InvalidNumber => k_is)
    (case ehd_InvalidSetting => k_is)
    (case ehd_InvalidWheel => k_is)
    (case ehd_LightError => k_is)
    (case ehg_InvalidBrightness => k_is)
    (case ehk_InvalidBrightness => k_is)
    (case eha_InvalidBrightness => k_is)
    (case ehm_InvalidBrightness => k_is)
    (case em_InvalidBrightness_LightError => k_is)
    (case ehg_InvalidCamera => k_is)
    (case ehk_InvalidCamera => k_is)
    (case eha_InvalidCamera => k_is)
    (case ehm_InvalidCamera => k_is)
    (case em_InvalidCamera_LightError => k_is)
    (case ehg_InvalidNumber => k_is)
    (case ehk_InvalidNumber => k_is)
    (case eha_InvalidNumber => k_is)
    (case ehm_InvalidNumber => k_is)
    (case em_InvalidNumber_LightError => k_is)
    (case ehg_InvalidSetting => k_is)
    (case ehk_InvalidSetting => k_is)
    (case eha_InvalidSetting => k_is)
    (case ehm_InvalidSetting => k_is)
    (case em_InvalidSetting_LightError => k_is)
    (case ehg_InvalidWheel => k_is)
    (case ehk_InvalidWheel => k_is)
    (case eha_InvalidWheel => k_is)
    (case ehm_InvalidWheel => k_is)
    (case em_InvalidWheel_LightError => k_is)
    (case co_MAX_LEAST => k_is)
    (case co_MAX_LIGHT => k_is)
    (case co_MAX_MANY => k_is)
    (case co_MAX_MOST => k_is)
    (case co_MAX_STEP => k_is)
    (case co_MAX_VALUES => k_is)
    (case co_MAX_WIDTH => k_is)
    (case co_MIN_LIGHT => k_is)
    (case co_NAMES => k_is)
    (case cl_NAMES => k_is)
    (case co_SIGNS => k_is)
    (case cl_SIGNS => k_is)
    (case z_ValueError => k_is)
    (case z_all => k_is)
    (case z_bool => k_is)
    (case z_int => k_is)
    (case z_isinstance => k_is)
    (case z_len => k_is)
    (case z_list => k_is)
    (case z_max => k_is)
    (case z_range => k_is)
    (case z_str => k_is)
    (case z_tuple => k_is)
    (case z_zip => k_is)
    (case kc_law_cameras => k_is)
    (case v11_law_cameras => exact rfl)
    (case hdc_law_cameras => kernel_rfl)
    (case nk_law_cameras => kernel_rfl)
    (case kc_law_set => k_is)
    (case v11_law_set => exact rfl)
    (case hdc_law_set => kernel_rfl)
    (case nk_law_set => kernel_rfl)
    (case kc_law_lit => k_is)
    (case v11_law_lit => exact rfl)
    (case hdc_law_lit => kernel_rfl)
    (case nk_law_lit => kernel_rfl)
    (case kc_law => k_is)
    (case v11_law => exact rfl)
    (case hdc_law => kernel_rfl)
    (case nk_law => kernel_rfl)
    (case ne_law_cameras_law_set => decide)
    (case ne_law_cameras_law_lit => decide)
    (case ne_law_cameras_law => decide)
    (case ne_law_set_law_lit => decide)
    (case ne_law_set_law => decide)
    (case ne_law_lit_law => decide)
    (case sv_InvalidCamera => k_is)
    (case sv_InvalidSetting => k_is)
    (case sv_InvalidWheel => k_is)
    (case sv_InvalidBrightness => k_is)
    (case sv_InvalidNumber => k_is)
