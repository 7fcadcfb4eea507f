import PyProof.Rows.All
import HandS.ForMost
import HandS.ForExc
import HandS.IsInst
import HandS.Zip
import HandS.Wide
import HandS.TupAny
import HandS.TupMul
import HandS.Conv
import HandS.Strs
import HandS.Deep
import HandS.Style
import KE.DataMinMax
import KE.SortData
import HandS.ExcIs
import KE.GoesMore
import KE.GoesEnum
import HandS.TupSets
import HandS.More
import HandS.SetFor
import PyProof.Rows.TupDisplay
import KE.KDictPairs
import KE.DataEq
import KE.DataFind
import PySem.Challenge.RW_lightsteps_k16_whole_shifting
set_option Elab.async false
set_option autoImplicit false
set_option linter.all false
set_option maxRecDepth 100000
set_option maxHeartbeats 4000000
namespace PD
open PySem L2

/-! ### results -/
abbrev D := PyData
inductive Res (α : Type) where
  | ok (a : α)
  | err (c : Str)
  | bad
def Res.bind {α β : Type} (r : Res α) (k : α → Res β) : Res β := match r with
  | .ok a => k a
  | .err c => .err c
  | .bad => .bad
theorem bind_ok {α β : Type} (a : α) (k : α → Res β) : (Res.ok a).bind k = k a := rfl
theorem bind_err {α β : Type} (c : Str) (k : α → Res β) : (Res.err c : Res α).bind k = .err c := rfl
theorem bind_bad {α β : Type} (k : α → Res β) : (Res.bad : Res α).bind k = .bad := rfl
def kD : Key → D
  | .inl i => .int i
  | .inr x => .str x

/-! ### data in a heap -/
/-- a list that is read: tracked, known, or a plain list of the written part -/
def LsAt (K : PySem.W.Frag) (S : Hp) (a : Addr) (xs : List V) : Prop :=
  Rd S a (.lst xs) ∨ ∃ (its : List Value) (n : Nat), K.lookup a = some { cls := .type "list", data := .seq its.toArray n } ∧ its.length ≤ sizeLine ∧ Vals xs its
theorem rd_same {S S' : Hp} {a : Addr} {u : HO} (e : Same S S') (h : Rd S a u) : Rd S' a u := by
  rcases h with h | ⟨o, h⟩
  · exact .inl (e _ _ h)
  · exact .inr ⟨o, e _ _ h⟩
theorem ls_of {K : PySem.W.Frag} {S : Hp} {a : Addr} {xs : List V} (h : S a = some (.lst xs)) : LsAt K S a xs := .inl (.inl h)
theorem ls_mono {K : PySem.W.Frag} {S S' : Hp} {a : Addr} {xs : List V} (e : Same S S') (h : LsAt K S a xs) : LsAt K S' a xs := by
  rcases h with (h | ⟨o, h⟩) | h
  · exact .inl (.inl (e _ _ h))
  · exact .inl (.inr ⟨o, e _ _ h⟩)
  · exact .inr h
theorem ls_sq {K : PySem.W.Frag} {S : Hp} {a : Addr} {xs : List V} (h : LsAt K S a xs) : SqL K S a xs := by
  rcases h with h | ⟨its, n, h1, h2, h3⟩
  · exact .inl h
  · exact .inr ⟨_, its.toArray, n, h1, rfl, rfl, rfl, by simpa using h2, by simpa using h3⟩
/-- tuples of ints alone are tracked (all but the one of signs) -/
def allInt (ds : List D) : Bool := ds.all fun d => match d with
  | .int _ => true
  | _ => false
def isSigns : List D → Bool
  | [.int a, .int b, .int c] => decide (a = 1) && decide (b = 1) && decide (c = -1)
  | _ => false
def keyT (ds : List D) : Bool := allInt ds && !isSigns ds
def TpAt (K : PySem.W.Frag) (S : Hp) (a : Addr) (xs : List V) (ds : List D) : Prop := SqT K S a xs ∧ (keyT ds = true → S a = some (.tup xs))
theorem tp_of {K : PySem.W.Frag} {S : Hp} {a : Addr} {xs : List V} {ds : List D} (h : S a = some (.tup xs)) : TpAt K S a xs ds := ⟨SqT.of h, fun _ => h⟩
mutual
def DV (K : PySem.W.Frag) (S : Hp) : V → D → Prop
  | v, .none => v = .non
  | v, .bool b => v = .bl b
  | v, .int i => v = .int i
  | v, .str x => v = .str x
  | v, .list ds => ∃ a xs, v = .ref a ∧ LsAt K S a xs ∧ DVs K S xs ds
  | v, .tuple ds => ∃ a xs, v = .ref a ∧ TpAt K S a xs ds ∧ DVs K S xs ds
  | v, .dict kvs => ∃ a, v = .ref a ∧ ((∃ es : List (Key × V), Rd S a (.dK es) ∧ kvs.map (·.1) = es.map (fun e => kD e.1) ∧ DVp K S (es.map (·.2)) kvs) ∨
      (∃ es : List (List Key × V), Rd S a (.dT es) ∧ kvs.map (·.1) = es.map (fun e => PyData.tuple (e.1.map kD)) ∧ DVp K S (es.map (·.2)) kvs))
def DVs (K : PySem.W.Frag) (S : Hp) : List V → List D → Prop
  | [], [] => True
  | v :: vs, d :: ds => DV K S v d ∧ DVs K S vs ds
  | [], _ :: _ => False
  | _ :: _, [] => False
def DVp (K : PySem.W.Frag) (S : Hp) : List V → List (D × D) → Prop
  | [], [] => True
  | v :: vs, (_, d) :: ds => DV K S v d ∧ DVp K S vs ds
  | [], _ :: _ => False
  | _ :: _, [] => False
end
example (K : PySem.W.Frag) (S : Hp) (v : V) (i : Int) : DV K S v (.int i) = (v = .int i) := rfl
theorem DV_tuple (K : PySem.W.Frag) (S : Hp) (v : V) (ds : List D) : DV K S v (.tuple ds) = (∃ a xs, v = .ref a ∧ TpAt K S a xs ds ∧ DVs K S xs ds) := by rw [DV]
mutual
theorem DV.mono {K : PySem.W.Frag} {S S' : Hp} (e : Same S S') : ∀ (d : D) (v : V), DV K S v d → DV K S' v d
  | .none, v, h => by rw [DV] at h ⊢; exact h
  | .bool b, v, h => by rw [DV] at h ⊢; exact h
  | .int b, v, h => by rw [DV] at h ⊢; exact h
  | .str b, v, h => by rw [DV] at h ⊢; exact h
  | .list ds, v, h => by
    rw [DV] at h ⊢
    obtain ⟨a, xs, h1, h2, h3⟩ := h
    exact ⟨a, xs, h1, ls_mono e h2, DVs.mono e ds xs h3⟩
  | .tuple ds, v, h => by
    rw [DV] at h ⊢
    obtain ⟨a, xs, h1, h2, h3⟩ := h
    refine ⟨a, xs, h1, ⟨?_, fun z => e _ _ (h2.2 z)⟩, DVs.mono e ds xs h3⟩
    rcases h2.1 with (h | ⟨o, h⟩) | h
    · exact .inl (.inl (e _ _ h))
    · exact .inl (.inr ⟨o, e _ _ h⟩)
    · exact .inr h
  | .dict kvs, v, h => by
    rw [DV] at h ⊢
    obtain ⟨a, h1, h2⟩ := h
    refine ⟨a, h1, ?_⟩
    rcases h2 with ⟨es, h2, h3, h4⟩ | ⟨es, h2, h3, h4⟩
    · exact .inl ⟨es, rd_same e h2, h3, DVp.mono e kvs _ h4⟩
    · exact .inr ⟨es, rd_same e h2, h3, DVp.mono e kvs _ h4⟩
theorem DVs.mono {K : PySem.W.Frag} {S S' : Hp} (e : Same S S') : ∀ (ds : List D) (vs : List V), DVs K S vs ds → DVs K S' vs ds
  | [], [], _ => by rw [DVs]; trivial
  | d :: ds, v :: vs, h => by
    rw [DVs] at h ⊢
    exact ⟨DV.mono e d v h.1, DVs.mono e ds vs h.2⟩
  | [], _ :: _, h => by rw [DVs] at h; exact h.elim
  | _ :: _, [], h => by rw [DVs] at h; exact h.elim
theorem DVp.mono {K : PySem.W.Frag} {S S' : Hp} (e : Same S S') : ∀ (ds : List (D × D)) (vs : List V), DVp K S vs ds → DVp K S' vs ds
  | [], [], _ => by rw [DVp]; trivial
  | (_, d) :: ds, v :: vs, h => by
    rw [DVp] at h ⊢
    exact ⟨DV.mono e d v h.1, DVp.mono e ds vs h.2⟩
  | [], _ :: _, h => by rw [DVp] at h; exact h.elim
  | _ :: _, [], h => by rw [DVp] at h; exact h.elim
end
end PD
namespace PD
open PySem L2

/-! ### two heaps: what is shared (S) within what is tracked (H) -/
/-- tracked, and no tuple (a tuple may be shared at any time) -/
def Live (o : Option HO) : Prop := o ≠ none ∧ ∀ xs, o ≠ some (.tup xs)
theorem Live.same {H H' : Hp} {x : Addr} (l : Live (H x)) (h : Same H H') : Live (H' x) := by
  cases e : H x with
  | none => exact absurd e l.1
  | some o => rw [h x o e, ← e]; exact l
theorem Live.of {o : Option HO} {u : HO} (e : o = some u) (hn : ∀ xs, u ≠ .tup xs) : Live o := by
  subst e
  exact ⟨(fun z => nomatch z), fun xs z => hn xs (Option.some.inj z)⟩
structure Ext (S H S' H' : Hp) : Prop where
  s : Same S S'
  h : Same H H'
  sh : Same S' H'
  old : ∀ x, Live (H x) → S' x = S x
theorem same_upd {H : Hp} {p : Addr} {o : HO} (h : H p = none) : Same H (upd H p o) := fun b x e => by
  rw [upd_ne (ne_of_none e h)]
  exact e
theorem Ext.refl {S H : Hp} (h : Same S H) : Ext S H S H := ⟨Same.refl S, Same.refl H, h, fun _ _ => rfl⟩
theorem Ext.trans {S H S1 H1 S2 H2 : Hp} (a : Ext S H S1 H1) (b : Ext S1 H1 S2 H2) : Ext S H S2 H2 :=
  ⟨a.s.trans b.s, a.h.trans b.h, b.sh, fun x hx => (b.old x (hx.same a.h)).trans (a.old x hx)⟩
theorem same_upd2 {S H : Hp} {p : Addr} {o : HO} (h : Same S H) : Same (upd S p o) (upd H p o) := fun b x e => by
  by_cases hb : b = p
  · subst hb
    rw [upd_same] at e ⊢
    exact e
  · rw [upd_ne hb] at e ⊢
    exact h b x e
theorem Ext.new {S H : Hp} {p : Addr} {o : HO} (h : Same S H) (hp : H p = none) : Ext S H (upd S p o) (upd H p o) :=
  ⟨same_upd (h.free hp), same_upd hp, same_upd2 h, fun x hx => upd_ne fun z => hx.1 (by rw [z]; exact hp)⟩
/-- a tuple that is tracked becomes shared -/
theorem Ext.adopt {S H : Hp} {q : Addr} {xs : List V} (h : Same S H) (hq : H q = some (.tup xs)) (hn : S q = none) : Ext S H (upd S q (.tup xs)) H :=
  ⟨same_upd hn, Same.refl H, fun b o e => by
    by_cases hb : b = q
    · subst hb; rw [upd_same] at e; rw [hq]; exact e
    · rw [upd_ne hb] at e; exact h b o e, fun x hx => upd_ne fun z => hx.2 xs (by rw [z]; exact hq)⟩
theorem Ext.same {S H S' H' : Hp} (x : Ext S H S' H') : Same S H' := x.s.trans x.sh

/-! ### what is wanted of a result -/
def PostG {α W : Type} (mg : Str → Option Value) (E : XK) (S H : Hp) (R : Hp → W → α → Prop) (r : Res α) (Q : W → Hp → Prop) : Prop := match r with
  | .ok a => ∀ w S' H', Ext S H S' H' → R S' w a → Q w H'
  | .err c => ∀ u H', mg c = some u → Same H H' → E u none H'
  | .bad => False
section
variable {α β W Z : Type} {mg : Str → Option Value} {E : XK} {S H S' H' : Hp}
theorem PostG.mono {R : Hp → W → α → Prop} {r : Res α} {Q : W → Hp → Prop} (x : Ext S H S' H') (h : PostG mg E S H R r Q) : PostG mg E S' H' R r Q := by
  cases r with
  | ok a => exact fun w S2 H2 x2 hr => h w S2 H2 (x.trans x2) hr
  | err c => exact fun u H2 e sm => h u H2 e (x.h.trans sm)
  | bad => exact h
theorem PostG.bind {R1 : Hp → W → α → Prop} {R2 : Hp → Z → β → Prop} {r : Res α} {k : α → Res β} {Q : Z → Hp → Prop} {Q1 : W → Hp → Prop} (h : PostG mg E S H R2 (r.bind k) Q)
    (hk : ∀ a w S' H', Ext S H S' H' → R1 S' w a → PostG mg E S' H' R2 (k a) Q → Q1 w H') : PostG mg E S H R1 r Q1 := by
  cases r with
  | ok a => exact fun w S2 H2 x2 hr => hk a w S2 H2 x2 hr (PostG.mono x2 h)
  | err c => exact h
  | bad => exact h
theorem PostG.ok {R : Hp → W → α → Prop} {a : α} {Q : W → Hp → Prop} (h : PostG mg E S H R (.ok a) Q) {w : W} (x : Ext S H S' H') (hr : R S' w a) : Q w H' := h w S' H' x hr
theorem PostG.ok0 {R : Hp → W → α → Prop} {a : α} {Q : W → Hp → Prop} (h : PostG mg E S H R (.ok a) Q) {w : W} (x : Same S H) (hr : R S w a) : Q w H := h w S H (Ext.refl x) hr
end

/-! ### slots -/
inductive Slot where
  | un
  | d (x : D)
  | own (xs : List D)
  | ownK (kvs : List (Key × D))
  | ownT (kvs : List (List Key × D))
  | raw (v : V)
abbrev DEnv := List Slot
structure RelE (K : PySem.W.Frag) (S H : Hp) (σ : St) (ρ : DEnv) : Prop where
  sh : Same S H
  len : σ.length = ρ.length
  dt : ∀ (i : Nat) (x : D), ρ[i]? = some (Slot.d x) → ∃ v, σ[i]? = some (some v) ∧ DV K S v x
  rw : ∀ (i : Nat) (v : V), ρ[i]? = some (Slot.raw v) → σ[i]? = some (some v)
theorem RelE.mono {K : PySem.W.Frag} {S H S' H' : Hp} {σ : St} {ρ : DEnv} (r : RelE K S H σ ρ) (x : Ext S H S' H') : RelE K S' H' σ ρ :=
  ⟨x.sh, r.len, fun i y e => let ⟨v, h1, h2⟩ := r.dt i y e; ⟨v, h1, h2.mono x.s⟩, r.rw⟩

/-! ### judgements -/
abbrev EqB : Hp → Bool → Bool → Prop := fun _ b c => b = c
structure PD (K : PySem.W.Frag) (mg : Str → Option Value) (X : Cx) (E : XK) (e : Expr) (t : TE) (f : DEnv → Res D) : Prop where
  pe : PE X e t
  sd : ∀ (S H : Hp) (σ : St) (ρ : DEnv) (Q : VK), RelE K S H σ ρ → PostG mg E S H (DV K) (f ρ) Q → t σ H Q
structure TD (K : PySem.W.Frag) (mg : Str → Option Value) (X : Cx) (E : XK) (e : Expr) (t : TT) (f : DEnv → Res Bool) : Prop where
  pe : PT X e t
  sd : ∀ (S H : Hp) (σ : St) (ρ : DEnv) (Q : Bool → Hp → Prop), RelE K S H σ ρ → PostG mg E S H EqB (f ρ) Q → t σ H Q
structure WD (K : PySem.W.Frag) (mg : Str → Option Value) (X : Cx) (E : XK) (e : Expr) (t : TT) (f : DEnv → Res Bool) : Prop where
  pe : PW X e t
  sd : ∀ (S H : Hp) (σ : St) (ρ : DEnv) (Q : Bool → Hp → Prop), RelE K S H σ ρ → PostG mg E S H EqB (f ρ) Q → t σ H Q
structure AD (K : PySem.W.Frag) (mg : Str → Option Value) (X : Cx) (E : XK) (es : List Expr) (t : TA) (f : DEnv → Res (List D)) : Prop where
  pe : PA X es t
  sd : ∀ (S H : Hp) (σ : St) (ρ : DEnv) (Q : List V → Hp → Prop), RelE K S H σ ρ → PostG mg E S H (DVs K) (f ρ) Q → t σ H Q

section
variable {K : PySem.W.Frag} {mg : Str → Option Value} {X : Cx} {E : XK}
/-! ### names, constants -/
def fVar (i : Nat) : DEnv → Res D := fun ρ => match ρ[i]? with
  | some (Slot.d x) => .ok x
  | _ => .bad
theorem pd_var (i : Nat) {x : Str} {pos : Pos} (h : PE X (.Name x pos) (tVar i)) : PD K mg X E (.Name x pos) (tVar i) (fVar i) := ⟨h, fun S H σ ρ Q r h => by
  unfold fVar at h
  split at h
  · rename_i x e
    obtain ⟨v, h1, h2⟩ := r.dt i x e
    exact ⟨v, h1, h.ok0 r.sh h2⟩
  · exact h.elim⟩
theorem pdv (i : Nat) {x : Str} {pos : Pos} (hN : X.N[i]? = some x := by rfl) (hv : Vis X.env.scope x := by first | exact Or.inl rfl | exact Or.inr (Or.inl rfl) | exact Or.inr (Or.inr rfl)) (hd : (x == ("__debug__" : Str)) = false := by decide)
    (hcd : (x == ("__classdict__" : Str)) = false := by decide) : PD K mg X E (.Name x pos) (tVar i) (fVar i) := pd_var i (pe_var hN hv hd hcd)
def fC (d : D) : DEnv → Res D := fun _ => .ok d
theorem pd_c {e : Expr} {v : V} {d : D} (h : PE X e (tC v)) (hd : ∀ S, DV K S v d) : PD K mg X E e (tC v) (fC d) := ⟨h, fun S H σ ρ Q r h => h.ok0 r.sh (hd S)⟩
theorem pd_int {i j pos} : PD K mg X E (.Constant (.int i) j pos) (tC (.int i)) (fC (.int i)) := pd_c pe_int fun _ => rfl
theorem pd_bl {b j pos} : PD K mg X E (.Constant (.bool b) j pos) (tC (.bl b)) (fC (.bool b)) := pd_c pe_bl fun _ => rfl
theorem pd_non {j pos} : PD K mg X E (.Constant .none j pos) (tC .non) (fC .none) := pd_c pe_non fun _ => rfl
theorem pd_str {x j pos} : PD K mg X E (.Constant (.str x) j pos) (tC (.str x)) (fC (.str x)) := pd_c pe_str fun _ => rfl

/-! ### operators -/
def OpS (K : PySem.W.Frag) (mg : Str → Option Value) (E : XK) (r : R2) (g : D → D → Res D) : Prop := ∀ (S H : Hp) (x y : V) (a b : D) (Q : VK), Same S H → DV K S x a → DV K S y b → PostG mg E S H (DV K) (g a b) Q → r x y H Q
def fBin (g : D → D → Res D) (f1 f2 : DEnv → Res D) : DEnv → Res D := fun ρ => (f1 ρ).bind fun a => (f2 ρ).bind fun b => g a b
variable {a b c : Expr} {ta tb tc : TE} {fa fb fc : DEnv → Res D} {pos : Pos}
theorem bin_sd {r : R2} {g : D → D → Res D} (hs : OpS K mg E r g) (ha : PD K mg X E a ta fa) (hb : PD K mg X E b tb fb) (S H : Hp) (σ : St) (ρ : DEnv) (Q : VK) (rl : RelE K S H σ ρ)
    (h : PostG mg E S H (DV K) (fBin g fa fb ρ) Q) : tOp r ta tb σ H Q := by
  refine ha.sd S H σ ρ _ rl (h.bind fun x v S1 H1 x1 d1 h1 => ?_)
  refine hb.sd S1 H1 σ ρ _ (rl.mono x1) (h1.bind fun y u S2 H2 x2 d2 h2 => ?_)
  exact hs S2 H2 v u x y Q x2.sh (d1.mono x2.s) d2 h2
theorem pd_op {op : Operator} {r : R2} {g : D → D → Res D} (ho : OpR X (binaryOp op) r) (hs : OpS K mg E r g) (ha : PD K mg X E a ta fa) (hb : PD K mg X E b tb fb) : PD K mg X E (.BinOp a op b pos) (tOp r ta tb) (fBin g fa fb) :=
  ⟨pe_op ho ha.pe hb.pe, bin_sd hs ha hb⟩
theorem pd_cmp {op : CmpOp} {r : R2} {g : D → D → Res D} (ho : OpR X (compareOp op) r) (hs : OpS K mg E r g) (ha : PD K mg X E a ta fa) (hb : PD K mg X E b tb fb) (hm : behindInMarks op b = false := by first | exact nomark _ | rfl) :
    PD K mg X E (.Compare a [op] [b] pos) (tOp r ta tb) (fBin g fa fb) := ⟨pe_cmpR ho ha.pe hb.pe hm, bin_sd hs ha hb⟩
/-- the truth of a value that is a bool -/
def asB : D → Res Bool
  | .bool b => .ok b
  | _ => .bad
def fTest (f : DEnv → Res D) : DEnv → Res Bool := fun ρ => (f ρ).bind asB
theorem test_sd {e : Expr} {te : TE} {f : DEnv → Res D} (he : PD K mg X E e te f) (S H : Hp) (σ : St) (ρ : DEnv) (Q : Bool → Hp → Prop) (rl : RelE K S H σ ρ) (h : PostG mg E S H EqB (fTest f ρ) Q) : te σ H fun x H1 => ∃ k, x = .bl k ∧ Q k H1 := by
  refine he.sd S H σ ρ _ rl (h.bind fun x v S1 H1 x1 d1 h1 => ?_)
  cases x with
  | bool k => exact ⟨k, d1, h1.ok0 x1.sh rfl⟩
  | _ => exact h1.elim
theorem td_cmp {op : CmpOp} {r : R2} {g : D → D → Res D} (ho : OpR X (compareOp op) r) (hs : OpS K mg E r g) (ha : PD K mg X E a ta fa) (hb : PD K mg X E b tb fb) (hm : behindInMarks op b = false := by first | exact nomark _ | rfl) :
    TD K mg X E (.Compare a [op] [b] pos) (tTest (tOp r ta tb)) (fTest (fBin g fa fb)) :=
  ⟨pt_cmpR ho ha.pe hb.pe hm, fun S H σ ρ Q rl h => test_sd (pd_cmp (pos := pos) ho hs ha hb hm) S H σ ρ Q rl h⟩
theorem td_val {e : Expr} {te : TE} {f : DEnv → Res D} (he : PD K mg X E e te f) (hw : ∀ whole, isTrue e X.env whole = (do let v ← whole; standAt e.pos; holding [v] (truthy v)) := by intro _; rfl) : TD K mg X E e (tB te) (fTest f) :=
  ⟨pt_val he.pe hw, fun S H σ ρ Q rl h => test_sd he S H σ ρ Q rl h⟩
/-! ### not, and, or, if else -/
def fNot (f : DEnv → Res Bool) : DEnv → Res Bool := fun ρ => (f ρ).bind fun b => .ok (!b)
theorem td_not {tA : TT} {f : DEnv → Res Bool} (ha : TD K mg X E a tA f) : TD K mg X E (.UnaryOp .Not a pos) (tNot tA) (fNot f) :=
  ⟨pt_not ha.pe, fun S H σ ρ Q rl h => ha.sd S H σ ρ _ rl (h.bind fun b w S1 H1 x1 e h1 => by cases e; exact h1.ok0 x1.sh rfl)⟩
def fAnd (f g : DEnv → Res Bool) : DEnv → Res Bool := fun ρ => (f ρ).bind fun b => if b = true then g ρ else .ok false
def fOr (f g : DEnv → Res Bool) : DEnv → Res Bool := fun ρ => (f ρ).bind fun b => if b = true then .ok true else g ρ
variable {tA tB' : TT} {gA gB : DEnv → Res Bool} {rest : List Expr}
theorem WD.td {e : Expr} {t : TT} {f : DEnv → Res Bool} (h : WD K mg X E e t f) : TD K mg X E e t f := ⟨h.pe.pt, h.sd⟩
theorem wd_and1 (ha : TD K mg X E a tA gA) : WD K mg X E (.BoolOp .And [a] pos) tA gA := ⟨pw_and1 ha.pe, ha.sd⟩
theorem wd_or1 (ha : TD K mg X E a tA gA) : WD K mg X E (.BoolOp .Or [a] pos) tA gA := ⟨pw_or1 ha.pe, ha.sd⟩
theorem wd_and (ha : TD K mg X E a tA gA) (hb : WD K mg X E (.BoolOp .And (b :: rest) pos) tB' gB) : WD K mg X E (.BoolOp .And (a :: b :: rest) pos) (tAnd tA tB') (fAnd gA gB) :=
  ⟨pw_and ha.pe hb.pe, fun S H σ ρ Q rl h => ha.sd S H σ ρ _ rl (h.bind fun k w S1 H1 x1 e h1 => by
    cases e
    cases k with
    | true => exact hb.sd S1 H1 σ ρ Q (rl.mono x1) h1
    | false => exact h1.ok0 x1.sh rfl)⟩
theorem wd_or (ha : TD K mg X E a tA gA) (hb : WD K mg X E (.BoolOp .Or (b :: rest) pos) tB' gB) : WD K mg X E (.BoolOp .Or (a :: b :: rest) pos) (tOr tA tB') (fOr gA gB) :=
  ⟨pw_or ha.pe hb.pe, fun S H σ ρ Q rl h => ha.sd S H σ ρ _ rl (h.bind fun k w S1 H1 x1 e h1 => by
    cases e
    cases k with
    | false => exact hb.sd S1 H1 σ ρ Q (rl.mono x1) h1
    | true => exact h1.ok0 x1.sh rfl)⟩
/-- .. as values, bools -/
def fAndV (f g : DEnv → Res D) : DEnv → Res D := fun ρ => (fTest f ρ).bind fun b => if b = true then g ρ else .ok (.bool false)
def fOrV (f g : DEnv → Res D) : DEnv → Res D := fun ρ => (fTest f ρ).bind fun b => if b = true then .ok (.bool true) else g ρ
def fNotV (f : DEnv → Res D) : DEnv → Res D := fun ρ => (fTest f ρ).bind fun b => .ok (.bool !b)
theorem pd_one {op} {t : TE} (h : PD K mg X E a t fa) : PD K mg X E (.BoolOp op [a] pos) t fa := ⟨pe_one h.pe, h.sd⟩
theorem pd_and (ha : PD K mg X E a ta fa) (hb : PD K mg X E (.BoolOp .And (b :: rest) pos) tb fb) : PD K mg X E (.BoolOp .And (a :: b :: rest) pos) (tAndV ta tb) (fAndV fa fb) :=
  ⟨pe_and ha.pe hb.pe, fun S H σ ρ Q rl h => by
    refine ha.sd S H σ ρ _ rl ?_
    unfold fAndV fTest at h
    cases e : fa ρ with
    | bad => rw [e] at h; exact h
    | err c => rw [e] at h; exact h
    | ok x =>
      rw [e] at h
      intro v S1 H1 x1 d1
      cases x with
      | bool k =>
        refine ⟨k, d1, ?_⟩
        cases k with
        | true => exact hb.sd S1 H1 σ ρ Q (rl.mono x1) (h.mono x1)
        | false => exact PostG.ok0 (PostG.mono x1 h) x1.sh rfl
      | _ => exact h.elim⟩
theorem pd_or (ha : PD K mg X E a ta fa) (hb : PD K mg X E (.BoolOp .Or (b :: rest) pos) tb fb) : PD K mg X E (.BoolOp .Or (a :: b :: rest) pos) (tOrV ta tb) (fOrV fa fb) :=
  ⟨pe_or ha.pe hb.pe, fun S H σ ρ Q rl h => by
    refine ha.sd S H σ ρ _ rl ?_
    unfold fOrV fTest at h
    cases e : fa ρ with
    | bad => rw [e] at h; exact h
    | err c => rw [e] at h; exact h
    | ok x =>
      rw [e] at h
      intro v S1 H1 x1 d1
      cases x with
      | bool k =>
        refine ⟨k, d1, ?_⟩
        cases k with
        | false => exact hb.sd S1 H1 σ ρ Q (rl.mono x1) (h.mono x1)
        | true => exact PostG.ok0 (PostG.mono x1 h) x1.sh rfl
      | _ => exact h.elim⟩
theorem pd_not (ha : PD K mg X E a ta fa) : PD K mg X E (.UnaryOp .Not a pos) (tNotV ta) (fNotV fa) :=
  ⟨pe_not ha.pe, fun S H σ ρ Q rl h => by
    refine ha.sd S H σ ρ _ rl ?_
    unfold fNotV fTest at h
    cases e : fa ρ with
    | bad => rw [e] at h; exact h
    | err c => rw [e] at h; exact h
    | ok x =>
      rw [e] at h
      intro v S1 H1 x1 d1
      cases x with
      | bool k => exact ⟨k, d1, PostG.ok0 (PostG.mono x1 h) x1.sh rfl⟩
      | _ => exact h.elim⟩
def fIf (g : DEnv → Res Bool) (f1 f2 : DEnv → Res D) : DEnv → Res D := fun ρ => (g ρ).bind fun b => if b = true then f1 ρ else f2 ρ
theorem pd_if (hc : TD K mg X E c tA gA) (ha : PD K mg X E a ta fa) (hb : PD K mg X E b tb fb) : PD K mg X E (.IfExp c a b pos) (tIf tA ta tb) (fIf gA fa fb) :=
  ⟨pe_ifExp hc.pe ha.pe hb.pe, fun S H σ ρ Q rl h => hc.sd S H σ ρ _ rl (h.bind fun k w S1 H1 x1 e h1 => by
    cases e
    cases k with
    | true => exact ha.sd S1 H1 σ ρ Q (rl.mono x1) h1
    | false => exact hb.sd S1 H1 σ ρ Q (rl.mono x1) h1)⟩
/-! ### arguments, displays -/
def fNil : DEnv → Res (List D) := fun _ => .ok []
def fCons (f : DEnv → Res D) (g : DEnv → Res (List D)) : DEnv → Res (List D) := fun ρ => (f ρ).bind fun x => (g ρ).bind fun xs => .ok (x :: xs)
theorem ad_nil : AD K mg X E [] tNil fNil := ⟨pa_nil, fun S H σ ρ Q rl h => h.ok0 rl.sh trivial⟩
theorem ad_cons {e : Expr} {es : List Expr} {te : TE} {t : TA} {f : DEnv → Res D} {g : DEnv → Res (List D)} (ha : PD K mg X E e te f) (hr : AD K mg X E es t g) (hs : starEach (e :: es) X.env = (false, eval e X.env) :: starEach es X.env := by rfl) :
    AD K mg X E (e :: es) (tCons te t) (fCons f g) := ⟨pa_cons ha.pe hr.pe hs, fun S H σ ρ Q rl h => by
  refine ha.sd S H σ ρ _ rl (h.bind fun x v S1 H1 x1 d1 h1 => ?_)
  refine hr.sd S1 H1 σ ρ _ (rl.mono x1) (h1.bind fun xs vs S2 H2 x2 d2 h2 => ?_)
  exact h2.ok0 x2.sh ⟨d1.mono x2.s, d2⟩⟩
theorem DVs.length {K : PySem.W.Frag} {S : Hp} : ∀ {vs : List V} {ds : List D}, DVs K S vs ds → vs.length = ds.length
  | [], [], _ => rfl
  | _ :: vs, _ :: ds, h => congrArg (· + 1) (DVs.length (vs := vs) (ds := ds) h.2)
  | [], _ :: _, h => h.elim
  | _ :: _, [], h => h.elim
def lenOk (n : Nat) : Bool := decide (n ≤ 1000000)
theorem lenOk.le {n : Nat} (h : lenOk n = true) : n ≤ sizeLine := Nat.le_trans (of_decide_eq_true h) (by decide)
theorem lenOk.lt {n : Nat} (h : lenOk n = true) : n < sizeLine := Nat.lt_of_le_of_lt (of_decide_eq_true h) (by decide)
def mkT (xs : List D) : Res D := if lenOk xs.length = true then .ok (.tuple xs) else .bad
def mkL (xs : List D) : Res D := if lenOk xs.length = true then .ok (.list xs) else .bad
def fTup (g : DEnv → Res (List D)) : DEnv → Res D := fun ρ => (g ρ).bind mkT
def fLst (g : DEnv → Res (List D)) : DEnv → Res D := fun ρ => (g ρ).bind mkL
/-- a new tuple, a new list -/
theorem new_tup {S H : Hp} {xs : List V} {ds : List D} {Q : VK} {p : Addr} (sh : Same S H) (d : DVs K S xs ds) (h : PostG mg E S H (DV K) (.ok (.tuple ds)) Q) (hp : H p = none) : Q (.ref p) (upd H p (.tup xs)) :=
  h.ok (Ext.new sh hp) ⟨p, xs, rfl, tp_of upd_same, d.mono (same_upd (sh.free hp))⟩
theorem new_lst {S H : Hp} {xs : List V} {ds : List D} {Q : VK} {p : Addr} (sh : Same S H) (d : DVs K S xs ds) (h : PostG mg E S H (DV K) (.ok (.list ds)) Q) (hp : H p = none) : Q (.ref p) (upd H p (.lst xs)) :=
  h.ok (Ext.new sh hp) ⟨p, xs, rfl, ls_of upd_same, d.mono (same_upd (sh.free hp))⟩
theorem pd_tup {es : List Expr} {t : TA} {g : DEnv → Res (List D)} {k} (h : AD K mg X E es t g) : PD K mg X E (.Tuple es k pos) (tTup t) (fTup g) := ⟨pe_tup h.pe, fun S H σ ρ Q rl hp => by
  refine h.sd S H σ ρ _ rl (hp.bind fun ds vs S1 H1 x1 d1 h1 => ?_)
  unfold mkT at h1
  split at h1
  · rename_i hz
    exact ⟨by rw [d1.length]; exact lenOk.le hz, fun p hn => new_tup (S := S1) x1.sh d1 h1 hn⟩
  · exact h1.elim⟩
theorem pd_lst {es : List Expr} {t : TA} {g : DEnv → Res (List D)} (h : AD K mg X E es t g) : PD K mg X E (.List es pos) (tLst t) (fLst g) := ⟨pe_lst h.pe, fun S H σ ρ Q rl hp => by
  refine h.sd S H σ ρ _ rl (hp.bind fun ds vs S1 H1 x1 d1 h1 => ?_)
  unfold mkL at h1
  split at h1
  · rename_i hz
    exact ⟨by rw [d1.length]; exact lenOk.le hz, fun p hn => new_lst (S := S1) x1.sh d1 h1 hn⟩
  · exact h1.elim⟩
/-! ### calls -/
/-- the promise of a def that is a function of data -/
def spD (K : PySem.W.Frag) (mg : Str → Option Value) (n : Nat) (F : List D → Res D) : Sp := fun vs H Q E => ∃ S ds, Same S H ∧ DVs K S vs ds ∧ vs.length = n ∧ PostG mg E S H (DV K) (F ds) Q
def fCall (n : Nat) (F : List D → Res D) (g : DEnv → Res (List D)) : DEnv → Res D := fun ρ => (g ρ).bind fun ds => if ds.length = n then F ds else .bad
theorem pd_call {n k : Nat} {f : Addr} {fd : FuncData} {ps : List Str} {F : List D → Res D} {x : Str} {p : Pos} {e : Expr} {es : List Expr} {t : TA} {g : DEnv → Res (List D)} (G : FnOk X.prog X.w X.K X.mg X.base (L2.CX X.prog X.w) k f fd ps (spD K mg n F)) (hr : Room k X.A) (hg : Gl X x) (hm : X.mg x = some (.ref f)) (hk : PySem.W.keepIn X.K (.ref f) = true)
    (hb : Binds X.K fd ps []) (hx : Passes (L2.CX X.prog X.w) X E) (ha : AD K mg X E (e :: es) t g) (hdb : (x == ("__debug__" : Str)) = false := by decide) (he : starEach (e :: es) X.env = (false, eval e X.env) :: starEach es X.env := by rfl)
    (hpl : (backTo pos (starEach es X.env)).any (·.1) = false := by rfl) : PD K mg X E (.Call (.Name x p) (e :: es) [] pos) (tCall (spD K mg n F) [] E t) (fCall n F g) :=
  ⟨pe_call G hr hg hm hk hb .nil hx ha.pe hdb he hpl, fun S H σ ρ Q rl h => by
    refine ha.sd S H σ ρ _ rl (h.bind fun ds vs S1 H1 x1 d1 h1 => ?_)
    split at h1
    · rename_i hn
      refine ⟨S1, ds, x1.sh, by rw [List.append_nil]; exact d1, by rw [List.append_nil, d1.length]; exact hn, h1⟩
    · exact h1.elim⟩
theorem pd_call0 {k : Nat} {f : Addr} {fd : FuncData} {ps : List Str} {F : List D → Res D} {x : Str} {p : Pos} (G : FnOk X.prog X.w X.K X.mg X.base (L2.CX X.prog X.w) k f fd ps (spD K mg 0 F)) (hr : Room k X.A) (hg : Gl X x) (hm : X.mg x = some (.ref f)) (hk : PySem.W.keepIn X.K (.ref f) = true)
    (hb : Binds X.K fd ps []) (hx : Passes (L2.CX X.prog X.w) X E) (hdb : (x == ("__debug__" : Str)) = false := by decide) : PD K mg X E (.Call (.Name x p) [] [] pos) (tCall (spD K mg 0 F) [] E tNil) (fCall 0 F fNil) :=
  ⟨pe_call0 G hr hg hm hk hb .nil hx hdb, fun S H σ ρ Q rl h => ⟨S, [], rl.sh, trivial, rfl, h⟩⟩
/-! ### builtins by values -/
def CaS (K : PySem.W.Frag) (mg : Str → Option Value) (E : XK) (r : List V → Hp → VK → Prop) (g : List D → Res D) : Prop := ∀ (S H : Hp) (xs : List V) (ds : List D) (Q : VK), Same S H → DVs K S xs ds → PostG mg E S H (DV K) (g ds) Q → r xs H Q
def fB (g : List D → Res D) (f : DEnv → Res (List D)) : DEnv → Res D := fun ρ => (f ρ).bind g
variable {e : Expr} {es : List Expr} {t : TA} {ga : DEnv → Res (List D)} {x : Str} {p : Pos}
theorem cb_sd {r : List V → Hp → VK → Prop} {g : List D → Res D} (hs : CaS K mg E r g) (ha : AD K mg X E es t ga) (S H : Hp) (σ : St) (ρ : DEnv) (Q : VK) (rl : RelE K S H σ ρ) (h : PostG mg E S H (DV K) (fB g ga ρ) Q) : tCB r t σ H Q :=
  ha.sd S H σ ρ _ rl (h.bind fun ds vs S1 H1 x1 d1 h1 => hs S1 H1 vs ds Q x1.sh d1 h1)
theorem pd_callB {id : String} {r : List V → Hp → VK → Prop} {g : List D → Res D} (hc : CallR X (.builtin id) r) (hs : CaS K mg E r g) (hg : Gl X x) (hm : X.mg x = none) (hv : bootBuiltins x = some (.builtin id)) (ha : AD K mg X E (e :: es) t ga) (hn : x ≠ "__name__" := by decide) (hdb : (x == ("__debug__" : Str)) = false := by decide)
    (he : starEach (e :: es) X.env = (false, eval e X.env) :: starEach es X.env := by rfl) (hpl : (backTo pos (starEach es X.env)).any (·.1) = false := by rfl) : PD K mg X E (.Call (.Name x p) (e :: es) [] pos) (tCB r t) (fB g ga) :=
  ⟨pe_callB hc hg hm hv ha.pe hn hdb he hpl, cb_sd hs ha⟩
theorem pd_callTy {T : String} {r : List V → Hp → VK → Prop} {g : List D → Res D} (hc : CallR X (.type T) r) (hs : CaS K mg E r g) (hg : Gl X x) (hm : X.mg x = none) (hv : bootBuiltins x = some (.type T)) (ha : AD K mg X E (e :: es) t ga) (hn : x ≠ "__name__" := by decide) (hdb : (x == ("__debug__" : Str)) = false := by decide)
    (he : starEach (e :: es) X.env = (false, eval e X.env) :: starEach es X.env := by rfl) (hpl : (backTo pos (starEach es X.env)).any (·.1) = false := by rfl) : PD K mg X E (.Call (.Name x p) (e :: es) [] pos) (tCB r t) (fB g ga) :=
  ⟨pe_callTy hc hg hm hv ha.pe hn hdb he hpl, cb_sd hs ha⟩
/-! ### subscripts -/
theorem pd_ix {r : R2} {g : D → D → Res D} (hr : IxR X r) (hs : OpS K mg E r g) (ha : PD K mg X E a ta fa) (hb : PD K mg X E b tb fb) (hp : PlainIx b := by exact fun _ _ => rfl) : PD K mg X E (.Subscript a b pos) (tOp r ta tb) (fBin g fa fb) :=
  ⟨pe_ix hr ha.pe hb.pe hp, bin_sd hs ha hb⟩
def SlS (K : PySem.W.Frag) (mg : Str → Option Value) (E : XK) (r : V → Option Int → Option Int → Hp → VK → Prop) (g : D → Option Int → Option Int → Res D) : Prop := ∀ (S H : Hp) (x : V) (lo hi : Option Int) (a : D) (Q : VK), Same S H → DV K S x a → PostG mg E S H (DV K) (g a lo hi) Q → r x lo hi H Q
abbrev EqO : Hp → Option Int → Option Int → Prop := fun _ b c => b = c
structure OD (K : PySem.W.Frag) (mg : Str → Option Value) (X : Cx) (E : XK) (e : Option Expr) (t : TO) (f : DEnv → Res (Option Int)) : Prop where
  pe : PO X e t
  sd : ∀ (S H : Hp) (σ : St) (ρ : DEnv) (Q : Option Int → Hp → Prop), RelE K S H σ ρ → PostG mg E S H EqO (f ρ) Q → t σ H Q
def fNoPart : DEnv → Res (Option Int) := fun _ => .ok none
def asI : D → Res (Option Int)
  | .int i => .ok (some i)
  | _ => .bad
def fPart (f : DEnv → Res D) : DEnv → Res (Option Int) := fun ρ => (f ρ).bind asI
theorem od_none : OD K mg X E none tNoPart fNoPart := ⟨po_none, fun S H σ ρ Q rl h => h.ok0 rl.sh rfl⟩
theorem od_some (ha : PD K mg X E a ta fa) : OD K mg X E (some a) (tPart ta) (fPart fa) := ⟨po_some ha.pe, fun S H σ ρ Q rl h => ha.sd S H σ ρ _ rl (h.bind fun y v S1 H1 x1 d1 h1 => by
  cases y with
  | int i => exact ⟨i, d1, h1.ok0 x1.sh rfl⟩
  | _ => exact h1.elim)⟩
def fSl (g : D → Option Int → Option Int → Res D) (f : DEnv → Res D) (fl fh : DEnv → Res (Option Int)) : DEnv → Res D := fun ρ => (f ρ).bind fun x => (fl ρ).bind fun lo => (fh ρ).bind fun hi => g x lo hi
theorem pd_slice {r : V → Option Int → Option Int → Hp → VK → Prop} {g : D → Option Int → Option Int → Res D} {lo hi : Option Expr} {tl th : TO} {fl fh : DEnv → Res (Option Int)} {p2 : Pos} (hr : SlR X r) (hs : SlS K mg E r g) (ha : PD K mg X E a ta fa) (hl : OD K mg X E lo tl fl) (hh : OD K mg X E hi th fh) :
    PD K mg X E (.Subscript a (.Slice lo hi none p2) pos) (tSl r ta tl th) (fSl g fa fl fh) := ⟨pe_slice hr ha.pe hl.pe hh.pe, fun S H σ ρ Q rl h => by
  refine ha.sd S H σ ρ _ rl (h.bind fun y v S1 H1 x1 d1 h1 => ?_)
  refine hl.sd S1 H1 σ ρ _ (rl.mono x1) (h1.bind fun l w S2 H2 x2 e2 h2 => ?_)
  cases e2
  refine hh.sd S2 H2 σ ρ _ ((rl.mono x1).mono x2) (h2.bind fun u w' S3 H3 x3 e3 h3 => ?_)
  cases e3
  exact hs S3 H3 v l u y Q x3.sh ((d1.mono x2.s).mono x3.s) h3⟩
/-- a chain of two comparisons -/
def fChain (g g' : D → D → Res D) (f1 f2 f3 : DEnv → Res D) : DEnv → Res D := fun ρ => (f1 ρ).bind fun x => (f2 ρ).bind fun y => (g x y).bind fun z => (asB z).bind fun k => if k = true then (f3 ρ).bind fun w => g' y w else .ok (.bool false)
theorem asB_bind {β : Type} {z : D} {k : Bool → Res β} {mg : Str → Option Value} {S H : Hp} {W : Type} {R : Hp → W → β → Prop} {Q : W → Hp → Prop} (h : PostG mg E S H R ((asB z).bind k) Q) : ∃ b, z = .bool b ∧ PostG mg E S H R (k b) Q := by
  cases z with
  | bool b => exact ⟨b, rfl, h⟩
  | _ => exact h.elim
theorem chain_sd {r r' : R2} {g g' : D → D → Res D} (hs : OpS K mg E r g) (hs' : OpS K mg E r' g') (ha : PD K mg X E a ta fa) (hb : PD K mg X E b tb fb) (hc : PD K mg X E c tc fc) (S H : Hp) (σ : St) (ρ : DEnv) (Q : VK) (rl : RelE K S H σ ρ)
    (h : PostG mg E S H (DV K) (fChain g g' fa fb fc ρ) Q) : tChain r r' ta tb tc σ H Q := by
  refine ha.sd S H σ ρ _ rl (h.bind fun x v S1 H1 x1 d1 h1 => ?_)
  refine hb.sd S1 H1 σ ρ _ (rl.mono x1) (h1.bind fun y u S2 H2 x2 d2 h2 => ?_)
  refine hs S2 H2 v u x y _ x2.sh (d1.mono x2.s) d2 (h2.bind fun z w S3 H3 x3 d3 h3 => ?_)
  obtain ⟨k, rfl, h3⟩ := asB_bind h3
  refine ⟨k, d3, ?_⟩
  cases k with
  | true =>
    refine hc.sd S3 H3 σ ρ _ (((rl.mono x1).mono x2).mono x3) (PostG.bind h3 fun w2 u2 S4 H4 x4 d4 h4 => ?_)
    exact hs' S4 H4 u u2 y w2 Q x4.sh ((d2.mono x3.s).mono x4.s) d4 h4
  | false => exact h3.ok0 x3.sh rfl
end
end PD
namespace PD
open PySem L2
theorem hU {k : Nat} {A : Around} (r : Room k A) : A.units + 65 < cLine := by have := r.un; omega
theorem hU4 {A : Around} (h : A.units + 65 < cLine) : A.units + 64 < cLine := by omega
/-! ### data for the library's comparison -/
theorem same_t {K : PySem.W.Frag} {H H' : Hp} {a : Addr} {xs : List V} (e : Same H H') (h : SqT K H a xs) : SqT K H' a xs := by
  rcases h with (h | ⟨o, h⟩) | h
  · exact .inl (.inl (e _ _ h))
  · exact .inl (.inr ⟨o, e _ _ h⟩)
  · exact .inr h
mutual
theorem DV.dp {K : PySem.W.Frag} {S H : Hp} (e : Same S H) : ∀ (d : D) (v : V), d.canLay0 = true → DV K S v d → Dp K H v d
  | .none, v, _, h => by rw [DV] at h; subst h; exact .non
  | .bool b, v, _, h => by rw [DV] at h; subst h; exact .bl b
  | .int i, v, _, h => by rw [DV] at h; subst h; exact .int i
  | .str x, v, _, h => by rw [DV] at h; subst h; exact .str x
  | .list ds, v, c, h => by
    rw [DV] at h
    obtain ⟨a, xs, rfl, h2, h3⟩ := h
    exact .lst (ls_sq (ls_mono e h2)) (DVs.dp e ds xs (by rw [PyData.canLay0] at c; exact c) h3)
  | .tuple ds, v, c, h => by
    rw [DV] at h
    obtain ⟨a, xs, rfl, h2, h3⟩ := h
    exact .tup (same_t e h2.1) (DVs.dp e ds xs (by rw [PyData.canLay0] at c; exact c) h3)
  | .dict kvs, v, c, h => by rw [PyData.canLay0] at c; cases c
theorem DVs.dp {K : PySem.W.Frag} {S H : Hp} (e : Same S H) : ∀ (ds : List D) (vs : List V), PyData.canLayAll0 ds = true → DVs K S vs ds → DpAll K H vs ds
  | [], [], _, _ => .nil
  | d :: ds, v :: vs, c, h => by
    rw [PyData.canLayAll0, Bool.and_eq_true] at c
    exact .cons (DV.dp e d v c.1 h.1) (DVs.dp e ds vs c.2 h.2)
  | [], _ :: _, _, h => h.elim
  | _ :: _, [], _, h => h.elim
end
theorem dp_of {K : PySem.W.Frag} {S H : Hp} {d : D} {v : V} (e : Same S H) (c : SeqAt.shaped d = true) (h : DV K S v d) : Dp K H v d := DV.dp e d v (SeqAt.canLay_of_shaped c) h
theorem and_split {a b : Bool} (h : (a && b) = true) : a = true ∧ b = true := by rw [Bool.and_eq_true] at h; exact h
section
variable {K : PySem.W.Frag} {mg : Str → Option Value} {X : Cx} {E : XK}
theorem OpR.imp {f : Value → Value → Sem Value} {r r' : R2} (h : OpR X f r) (i : ∀ x y H Q, r' x y H Q → r x y H Q) : OpR X f r' := fun pins s σ H x y v u Q I rx ry q => h pins s σ H x y v u Q I rx ry (i x y H Q q)
theorem OpS.or {r r' : R2} {g : D → D → Res D} (h : ∀ (S H : Hp) (x y : V) (a b : D) (Q : VK), Same S H → DV K S x a → DV K S y b → PostG mg E S H (DV K) (g a b) Q → r x y H Q ∨ r' x y H Q) : OpS K mg E (fun x y H Q => r x y H Q ∨ r' x y H Q) g := h
/-! ### == and != -/
def gEq (a b : D) : Res D := if (SeqAt.shaped a && SeqAt.shaped b) = true then .ok (.bool (PyData.eqv a b)) else .bad
def gNe (a b : D) : Res D := if (SeqAt.shaped a && SeqAt.shaped b) = true then .ok (.bool (!PyData.eqv a b)) else .bad
theorem os_eq : OpS K mg E (rEqD K) gEq := fun S H x y a b Q sh dx dy h => by
  unfold gEq at h
  split at h
  · rename_i c
    obtain ⟨c1, c2⟩ := and_split c
    exact ⟨a, b, dp_of sh c1 dx, dp_of sh c2 dy, c1, c2, h.ok0 sh rfl⟩
  · exact h.elim
theorem os_ne : OpS K mg E (rNeD K) gNe := fun S H x y a b Q sh dx dy h => by
  unfold gNe at h
  split at h
  · rename_i c
    obtain ⟨c1, c2⟩ := and_split c
    exact ⟨a, b, dp_of sh c1 dx, dp_of sh c2 dy, c1, c2, h.ok0 sh rfl⟩
  · exact h.elim
/-! ### orders of ints -/
def gI (C : Int → Int → Bool) (k : Int → Int → D) : D → D → Res D
  | .int i, .int j => if C i j = true then .ok (k i j) else .bad
  | _, _ => .bad
def gI0 (k : Int → Int → D) : D → D → Res D
  | .int i, .int j => .ok (k i j)
  | _, _ => .bad
theorem os_I0 {k : Int → Int → D} {g : Int → Int → V} (hk : ∀ S i j, DV K S (g i j) (k i j)) : OpS K mg E (rI0 g) (gI0 k) := fun S H x y a b Q sh dx dy h => by
  cases a with
  | int i =>
    cases b with
    | int j => exact ⟨i, j, dx, dy, h.ok0 sh (hk S i j)⟩
    | _ => exact h.elim
  | _ => exact h.elim
theorem os_I {C : Int → Int → Bool} {P : Int → Int → Prop} {k : Int → Int → D} {g : Int → Int → V} (hC : ∀ i j, C i j = true → P i j) (hk : ∀ S i j, DV K S (g i j) (k i j)) : OpS K mg E (rI P g) (gI C k) := fun S H x y a b Q sh dx dy h => by
  cases a with
  | int i =>
    cases b with
    | int j =>
      unfold gI at h
      dsimp only at h
      split at h
      · rename_i c
        exact ⟨i, j, dx, dy, hC i j c, h.ok0 sh (hk S i j)⟩
      · exact h.elim
    | _ => exact h.elim
  | _ => exact h.elim
def gLt : D → D → Res D := gI0 fun i j => .bool (decide (i < j))
def gLe : D → D → Res D := gI0 fun i j => .bool (decide (i ≤ j))
def gGt : D → D → Res D := gI0 fun i j => .bool (decide (j < i))
def gGe : D → D → Res D := gI0 fun i j => .bool (decide (j ≤ i))
def gSub : D → D → Res D := gI0 fun i j => .int (i - j)
theorem os_lt : OpS K mg E (rI0 fun i j => .bl (decide (i < j))) gLt := os_I0 fun _ _ _ => rfl
theorem os_le : OpS K mg E (rI0 fun i j => .bl (decide (i ≤ j))) gLe := os_I0 fun _ _ _ => rfl
theorem os_gt : OpS K mg E (rI0 fun i j => .bl (decide (j < i))) gGt := os_I0 fun _ _ _ => rfl
theorem os_ge : OpS K mg E (rI0 fun i j => .bl (decide (j ≤ i))) gGe := os_I0 fun _ _ _ => rfl
theorem os_sub : OpS K mg E (rI0 fun i j => .int (i - j)) gSub := os_I0 fun _ _ _ => rfl
/-! ### // % ** -/
def divOk (_ j : Int) : Bool := decide (0 < j) && decide (j ≤ 1000000000000000000)
def gDiv : D → D → Res D := gI divOk fun i j => .int (i / j)
theorem os_div : OpS K mg E (rI CDivW fun i j => .int (i / j)) gDiv := os_I (fun i j h => by
  obtain ⟨h1, h2⟩ := and_split h
  have h1 := of_decide_eq_true h1
  have h2 := of_decide_eq_true h2
  refine wide_div (b := 64) h1 ?_ (by decide) (by decide)
  have : (2 : Nat) ^ 64 = 18446744073709551616 := by decide
  omega) fun _ _ _ => rfl
def gMod : D → D → Res D := gI (fun _ j => decide (0 < j)) fun i j => .int (i % j)
theorem os_mod : OpS K mg E (rI (fun _ j => 0 < j) fun i j => .int (i % j)) gMod := os_I (fun i j h => of_decide_eq_true h) fun _ _ _ => rfl
def powOk (i j : Int) : Bool := decide (0 ≤ j) && decide (j ≤ 1000) && decide (0 ≤ i) && decide (i ≤ 1000)
def gPow : D → D → Res D := gI powOk fun i j => .int (i ^ j.toNat)
theorem os_pow : OpS K mg E (rI CPow fun i j => .int (i ^ j.toNat)) gPow := os_I (fun i j h => by
  obtain ⟨h, h4⟩ := and_split h
  obtain ⟨h, h3⟩ := and_split h
  obtain ⟨h1, h2⟩ := and_split h
  have h1 := of_decide_eq_true h1
  have h2 := of_decide_eq_true h2
  have h3 := of_decide_eq_true h3
  have h4 := of_decide_eq_true h4
  have e : (2 : Nat) ^ 64 = 18446744073709551616 := by decide
  exact ⟨h1, by omega, by omega⟩) fun _ _ _ => rfl
/-! ### + -/
theorem DVs.append {K : PySem.W.Frag} {S : Hp} : ∀ {vs ws : List V} {ds es : List D}, DVs K S vs ds → DVs K S ws es → DVs K S (vs ++ ws) (ds ++ es)
  | [], _, [], _, _, h => h
  | _ :: vs, _, _ :: ds, _, h, h' => ⟨h.1, DVs.append (vs := vs) (ds := ds) h.2 h'⟩
  | [], _, _ :: _, _, h, _ => h.elim
  | _ :: _, _, [], _, h, _ => h.elim
/-- xs + ys, of any two lists that are read -/
def rCatR (K : PySem.W.Frag) : R2 := fun x y H Q => ∃ l b xs zs, x = .ref l ∧ y = .ref b ∧ LsAt K H l xs ∧ LsAt K H b zs ∧ xs.length + zs.length ≤ sizeLine ∧ ∀ p, H p = none → Q (.ref p) (upd H p (.lst (xs ++ zs)))
theorem rd_lst {pins : List (Addr × Obj)} {σ : L2.St} {H : Hp} {s : Shared} {a : Addr} {xs : List V} (I : Inv X pins σ H s) (h : LsAt X.K H a xs) : ∃ (its : List Value) (n : Nat), Vals xs its ∧ xs.length = its.length ∧ s.heap.get? a = some { cls := .type "list", data := .seq its.toArray n } := by
  rcases h with h | ⟨its, n, h1, h2, h3⟩
  · obtain ⟨z, its, n, r, e⟩ := h.ok I.hok
    exact ⟨its, n, r, r.length, e⟩
  · exact ⟨its, n, h3, h3.length, I.kIn a _ h1⟩
theorem op_catR : OpR X (binaryOp .Add) (rCatR X.K) := by
  intro pins s σ H x y v u Q I rx ry h
  obtain ⟨l, b, xs, zs, rfl, rfl, hH, hB, hz, q⟩ := h
  cases rx
  cases ry
  obtain ⟨its, n, r, hl, e⟩ := rd_lst I hH
  obtain ⟨its2, n2, r2, hl2, e2⟩ := rd_lst I hB
  refine PySem.P.add_list e e2 ?_ (by rw [List.size_toArray, List.size_toArray]; omega)
  have ea : its.toArray ++ its2.toArray = (its ++ its2).toArray := by simp
  rw [ea]
  exact ⟨.ref _, _, I.lnew (t' := s.toks) (r.append r2) (by rw [List.length_append]; omega), rfl, q _ I.fresh⟩
def rStrAdd : R2 := fun x y H Q => ∃ i j, x = .str i ∧ y = .str j ∧ i.length + j.length ≤ sizeLine ∧ Q (.str (i ++ j)) H
def rAddA (K : PySem.W.Frag) : R2 := fun x y H Q => rI0 (fun i j => .int (i + j)) x y H Q ∨ (rCatR K x y H Q ∨ (rCatA K x y H Q ∨ rStrAdd x y H Q))
theorem op_addA (hK : X.K = K := by rfl) : OpR X (binaryOp .Add) (rAddA K) := by subst hK; exact op_add.or (op_catR.or (op_catA.or op_add_str))
theorem op_eqK (hu : X.A.units + 65 < cLine) (hK : X.K = K := by rfl) : OpR X (compareOp .Eq) (rEqD K) := by subst hK; exact op_eqD (hU4 hu)
theorem op_neK (hu : X.A.units + 65 < cLine) (hK : X.K = K := by rfl) : OpR X (compareOp .NotEq) (rNeD K) := by subst hK; exact op_neD (hU4 hu)
def gAdd : D → D → Res D
  | .int i, .int j => .ok (.int (i + j))
  | .list xs, .list ys => if lenOk (xs.length + ys.length) = true then .ok (.list (xs ++ ys)) else .bad
  | .tuple xs, .tuple ys => if lenOk (xs.length + ys.length) = true then .ok (.tuple (xs ++ ys)) else .bad
  | .str i, .str j => if lenOk (i.length + j.length) = true then .ok (.str (i ++ j)) else .bad
  | _, _ => .bad
theorem os_add : OpS K mg E (rAddA K) gAdd := fun S H x y a b Q sh dx dy h => by
  unfold gAdd at h
  split at h
  · rename_i i j
    exact .inl ⟨i, j, dx, dy, h.ok0 sh rfl⟩
  · rename_i xs ys
    split at h
    · rename_i hz
      rw [DV] at dx dy
      obtain ⟨p, us, rfl, h1, h2⟩ := dx
      obtain ⟨q, ws, rfl, h3, h4⟩ := dy
      refine .inr (.inl ⟨p, q, us, ws, rfl, rfl, ls_mono sh h1, ls_mono sh h3, ?_, fun n hn => new_lst sh (h2.append h4) h hn⟩)
      rw [h2.length, h4.length]
      exact lenOk.le hz
    · exact h.elim
  · rename_i xs ys
    split at h
    · rename_i hz
      rw [DV] at dx dy
      obtain ⟨p, us, rfl, h1, h2⟩ := dx
      obtain ⟨q, ws, rfl, h3, h4⟩ := dy
      have hl : us.length + ws.length ≤ sizeLine := by
        rw [h2.length, h4.length]
        exact lenOk.le hz
      refine .inr (.inr (.inl ⟨p, q, us, ws, rfl, rfl, same_t sh h1.1, same_t sh h3.1, hl, fun e => ?_, fun e e' => ?_, fun _ _ n hn => new_tup sh (h2.append h4) h hn⟩))
      · subst e
        cases xs with
        | nil => exact h.ok0 sh (by rw [DV]; exact ⟨q, ws, rfl, h3, h4⟩)
        | cons _ _ => exact h2.elim
      · subst e'
        cases ys with
        | nil => exact h.ok0 sh (by rw [List.append_nil, DV]; exact ⟨p, us, rfl, h1, h2⟩)
        | cons _ _ => exact h4.elim
    · exact h.elim
  · rename_i i j
    split at h
    · rename_i hz
      exact .inr (.inr (.inr ⟨i, j, dx, dy, lenOk.le hz, h.ok0 sh rfl⟩))
    · exact h.elim
  · exact h.elim
/-! ### * -/
def rRepR : R2 := fun x y H Q => ∃ l k xs, x = .ref l ∧ y = .int k ∧ H l = some (.lst xs) ∧ -(2 ^ 63) ≤ k ∧ k < 2 ^ 63 ∧ xs.length * k.toNat ≤ sizeLine ∧
  ∀ p, H p = none → Q (.ref p) (upd H p (.lst (List.replicate k.toNat xs).flatten))
def mulOk (i j : Int) : Bool := (decide (-1000000000000000000 ≤ i) && decide (i ≤ 1000000000000000000)) || (decide (-1000000000000000000 ≤ j) && decide (j ≤ 1000000000000000000))
def gMulI : D → D → Res D := gI mulOk fun i j => .int (i * j)
theorem os_mulI : OpS K mg E (rI CMul fun i j => .int (i * j)) gMulI := os_I (fun i j h => by
  unfold mulOk at h
  rw [Bool.or_eq_true] at h
  have e : (2 : Int) ^ 64 = 18446744073709551616 := by decide
  rcases h with h | h
  · obtain ⟨h1, h2⟩ := and_split h
    have h1 := of_decide_eq_true h1
    have h2 := of_decide_eq_true h2
    exact .inl ⟨by omega, by omega⟩
  · obtain ⟨h1, h2⟩ := and_split h
    have h1 := of_decide_eq_true h1
    have h2 := of_decide_eq_true h2
    exact .inr ⟨by omega, by omega⟩) fun _ _ _ => rfl
/-! ### in, not in -/
def rInT (K : PySem.W.Frag) : R2 := fun x y H Q => ∃ d ds, Dp K H x d ∧ Dp K H y (.tuple ds) ∧ SeqAt.shaped d = true ∧ SeqAt.shaped (.tuple ds) = true ∧ Q (.bl (ds.any fun z => PyData.eqv z d)) H
def rNotInT (K : PySem.W.Frag) : R2 := fun x y H Q => ∃ d ds, Dp K H x d ∧ Dp K H y (.tuple ds) ∧ SeqAt.shaped d = true ∧ SeqAt.shaped (.tuple ds) = true ∧ Q (.bl (!ds.any fun z => PyData.eqv z d)) H
theorem op_inT (hu : X.A.units + 65 < cLine) : OpR X (compareOp .In) (rInT X.K) := by
  intro pins s σ H x y v u Q I rx ry h
  obtain ⟨d, ds, hd, he, sd, se, q⟩ := h
  obtain ⟨as, r1⟩ := Dp.reads I d x v hd rx
  obtain ⟨bs, r2⟩ := Dp.reads I (.tuple ds) y u he ry
  exact SeqAt.in_tuple_reads r2 r1 (SeqAt.canLay_of_shaped se) (SeqAt.canLay_of_shaped sd) (PyProof.Rows.room_in_shaped sd hu) ⟨.bl _, H, I, rfl, q⟩
theorem op_notInT (hu : X.A.units + 65 < cLine) : OpR X (compareOp .NotIn) (rNotInT X.K) := by
  intro pins s σ H x y v u Q I rx ry h
  obtain ⟨d, ds, hd, he, sd, se, q⟩ := h
  obtain ⟨as, r1⟩ := Dp.reads I d x v hd rx
  obtain ⟨bs, r2⟩ := Dp.reads I (.tuple ds) y u he ry
  exact SeqAt.notIn_tuple_reads r2 r1 (SeqAt.canLay_of_shaped se) (SeqAt.canLay_of_shaped sd) (PyProof.Rows.room_in_shaped sd hu) ⟨.bl _, H, I, rfl, q⟩
theorem op_inK (hu : X.A.units + 65 < cLine) (hK : X.K = K := by rfl) : OpR X (compareOp .In) (fun x y H Q => rInD K x y H Q ∨ rInT K x y H Q) := by subst hK; exact (op_inD hu).or (op_inT hu)
theorem op_notInK (hu : X.A.units + 65 < cLine) (hK : X.K = K := by rfl) : OpR X (compareOp .NotIn) (fun x y H Q => rNotInD K x y H Q ∨ rNotInT K x y H Q) := by subst hK; exact (op_notInD hu).or (op_notInT hu)
def inD (a : D) (ds : List D) : Bool := ds.any fun z => PyData.eqv z a
def gIn (neg : Bool) (a b : D) : Res D := match b with
  | .list ds => if (SeqAt.shaped a && SeqAt.shaped (.list ds)) = true then .ok (.bool (if neg then !inD a ds else inD a ds)) else .bad
  | .tuple ds => if (SeqAt.shaped a && SeqAt.shaped (.tuple ds)) = true then .ok (.bool (if neg then !inD a ds else inD a ds)) else .bad
  | _ => .bad
theorem os_in : OpS K mg E (fun x y H Q => rInD K x y H Q ∨ rInT K x y H Q) (gIn false) := fun S H x y a b Q sh dx dy h => by
  unfold gIn at h
  split at h
  · rename_i ds
    split at h
    · rename_i c
      obtain ⟨c1, c2⟩ := and_split c
      exact .inl ⟨a, ds, dp_of sh c1 dx, dp_of sh c2 dy, c1, c2, h.ok0 sh rfl⟩
    · exact h.elim
  · rename_i ds
    split at h
    · rename_i c
      obtain ⟨c1, c2⟩ := and_split c
      exact .inr ⟨a, ds, dp_of sh c1 dx, dp_of sh c2 dy, c1, c2, h.ok0 sh rfl⟩
    · exact h.elim
  · exact h.elim
theorem os_notin : OpS K mg E (fun x y H Q => rNotInD K x y H Q ∨ rNotInT K x y H Q) (gIn true) := fun S H x y a b Q sh dx dy h => by
  unfold gIn at h
  split at h
  · rename_i ds
    split at h
    · rename_i c
      obtain ⟨c1, c2⟩ := and_split c
      exact .inl ⟨a, ds, dp_of sh c1 dx, dp_of sh c2 dy, c1, c2, h.ok0 sh rfl⟩
    · exact h.elim
  · rename_i ds
    split at h
    · rename_i c
      obtain ⟨c1, c2⟩ := and_split c
      exact .inr ⟨a, ds, dp_of sh c1 dx, dp_of sh c2 dy, c1, c2, h.ok0 sh rfl⟩
    · exact h.elim
  · exact h.elim
/-! ### is -/
def rIsA : R2 := fun x y H Q => (y = .non ∧ Q (.bl (decide (x = .non))) H) ∨ rIsB x y H Q
def rIsNotA : R2 := fun x y H Q => (y = .non ∧ Q (.bl (!decide (x = .non))) H) ∨ rNotB x y H Q
theorem op_isA : OpR X (compareOp .Is) rIsA := op_isN.or op_isBl
theorem op_isNotA : OpR X (compareOp .IsNot) rIsNotA := op_notN.or op_notBl
def isNone : D → Bool
  | .none => true
  | _ => false
theorem DV.isNone {K : PySem.W.Frag} {S : Hp} {v : V} {d : D} (h : DV K S v d) : decide (v = .non) = PD.isNone d := by
  cases d with
  | none => rw [DV] at h; subst h; rfl
  | bool b => rw [DV] at h; subst h; rfl
  | int b => rw [DV] at h; subst h; rfl
  | str b => rw [DV] at h; subst h; rfl
  | list b => rw [DV] at h; obtain ⟨a, xs, rfl, _⟩ := h; rfl
  | tuple b => rw [DV] at h; obtain ⟨a, xs, rfl, _⟩ := h; rfl
  | dict b => rw [DV] at h; obtain ⟨a, rfl, _⟩ := h; rfl
def gIs (neg : Bool) (a b : D) : Res D := match b with
  | .none => .ok (.bool (if neg then !isNone a else isNone a))
  | .bool k => match a with
    | .bool j => .ok (.bool (if neg then !decide (j = k) else decide (j = k)))
    | _ => .bad
  | _ => .bad
theorem os_is : OpS K mg E rIsA (gIs false) := fun S H x y a b Q sh dx dy h => by
  unfold gIs at h
  split at h
  · refine .inl ⟨dy, ?_⟩
    rw [dx.isNone]
    exact h.ok0 sh rfl
  · split at h
    · exact .inr ⟨_, _, dx, dy, h.ok0 sh rfl⟩
    · exact h.elim
  · exact h.elim
theorem os_isnot : OpS K mg E rIsNotA (gIs true) := fun S H x y a b Q sh dx dy h => by
  unfold gIs at h
  split at h
  · refine .inl ⟨dy, ?_⟩
    rw [dx.isNone]
    exact h.ok0 sh rfl
  · split at h
    · exact .inr ⟨_, _, dx, dy, h.ok0 sh rfl⟩
    · exact h.elim
  · exact h.elim
/-! ### a[i] -/
def ixD (xs : List D) (i : Int) : Option D := if 0 ≤ i then xs[i.toNat]? else if -(xs.length : Int) ≤ i then xs[(i + xs.length).toNat]? else none
def gIx : D → D → Res D
  | .list xs, .int i => match ixD xs i with
    | some d => .ok d
    | none => .bad
  | .tuple xs, .int i => match ixD xs i with
    | some d => .ok d
    | none => .bad
  | _, _ => .bad
theorem DVs.get {K : PySem.W.Frag} {S : Hp} : ∀ {vs : List V} {ds : List D} {i : Nat} {d : D}, DVs K S vs ds → ds[i]? = some d → ∃ v, vs[i]? = some v ∧ DV K S v d
  | v :: _, d :: _, 0, x, h, e => by
    have e : d = x := Option.some.inj e
    subst e
    exact ⟨v, rfl, h.1⟩
  | _ :: vs, _ :: ds, i + 1, x, h, e => DVs.get (vs := vs) (ds := ds) (i := i) h.2 e
  | [], [], _, _, _, e => by simp at e
  | [], _ :: _, _, _, h, _ => h.elim
  | _ :: _, [], _, _, h, _ => h.elim
theorem ixD_at {K : PySem.W.Frag} {S : Hp} {vs : List V} {ds : List D} {i : Int} {d : D} (h : DVs K S vs ds) (e : ixD ds i = some d) : ∃ v, atI vs i = some v ∧ DV K S v d := by
  unfold ixD at e
  unfold atI ixN
  rw [h.length]
  split at e
  · rename_i h0
    obtain ⟨v, h1, h2⟩ := h.get e
    have hl : i.toNat < ds.length := (List.getElem?_eq_some_iff.mp e).1
    rw [if_pos h0, if_pos (by omega)]
    exact ⟨v, h1, h2⟩
  · rename_i h0
    split at e
    · rename_i h1
      obtain ⟨v, h2, h3⟩ := h.get e
      rw [if_neg h0, if_pos h1]
      exact ⟨v, h2, h3⟩
    · cases e
def rIxA (K : PySem.W.Frag) : R2 := fun x y H Q => rIxL K x y H Q ∨ rIxT K x y H Q
theorem ix_A (hK : X.K = K := by rfl) : IxR X (rIxA K) := by subst hK; exact ix_list.or ix_tup
theorem os_ix : OpS K mg E (rIxA K) gIx := fun S H x y a b Q sh dx dy h => by
  unfold gIx at h
  split at h
  · rename_i xs i
    split at h
    · rename_i d e
      rw [DV] at dx
      obtain ⟨p, us, rfl, h1, h2⟩ := dx
      obtain ⟨v, h3, h4⟩ := ixD_at h2 e
      exact .inl ⟨p, us, i, v, rfl, dy, ls_sq (ls_mono sh h1), h3, h.ok0 sh h4⟩
    · exact h.elim
  · rename_i xs i
    split at h
    · rename_i d e
      rw [DV] at dx
      obtain ⟨p, us, rfl, h1, h2⟩ := dx
      obtain ⟨v, h3, h4⟩ := ixD_at h2 e
      exact .inr ⟨p, us, i, v, rfl, dy, same_t sh h1.1, h3, h.ok0 sh h4⟩
    · exact h.elim
  · exact h.elim
/-! ### a[lo:hi] -/
def cutD (xs : List D) (lo hi : Option Int) : List D := (xs.drop (HT.sIx xs.length 0 lo)).take (HT.sIx xs.length xs.length hi - HT.sIx xs.length 0 lo)
theorem DVs.drop {K : PySem.W.Frag} {S : Hp} : ∀ {vs : List V} {ds : List D} (i : Nat), DVs K S vs ds → DVs K S (vs.drop i) (ds.drop i)
  | _, _, 0, h => h
  | [], [], _ + 1, _ => trivial
  | _ :: vs, _ :: ds, i + 1, h => DVs.drop (vs := vs) (ds := ds) i h.2
  | [], _ :: _, _ + 1, h => h.elim
  | _ :: _, [], _ + 1, h => h.elim
theorem DVs.take {K : PySem.W.Frag} {S : Hp} : ∀ {vs : List V} {ds : List D} (i : Nat), DVs K S vs ds → DVs K S (vs.take i) (ds.take i)
  | _, _, 0, _ => trivial
  | [], [], _ + 1, _ => trivial
  | _ :: vs, _ :: ds, i + 1, h => ⟨h.1, DVs.take (vs := vs) (ds := ds) i h.2⟩
  | [], _ :: _, _ + 1, h => h.elim
  | _ :: _, [], _ + 1, h => h.elim
theorem DVs.cut {K : PySem.W.Frag} {S : Hp} {vs : List V} {ds : List D} (lo hi : Option Int) (h : DVs K S vs ds) : DVs K S (cutV vs lo hi) (cutD ds lo hi) := by
  unfold cutV cutD
  rw [h.length]
  exact (h.drop _).take _
def gSl (a : D) (lo hi : Option Int) : Res D := match a with
  | .list xs => .ok (.list (cutD xs lo hi))
  | .tuple xs => .ok (.tuple (cutD xs lo hi))
  | _ => .bad
def rSlD (K : PySem.W.Frag) : V → Option Int → Option Int → Hp → VK → Prop := fun x lo hi H Q => rSlL K x lo hi H Q ∨ rSlA K x lo hi H Q
theorem sl_D (hK : X.K = K := by rfl) : SlR X (rSlD K) := by subst hK; exact sl_list.or sl_tupA
theorem ss_sl : SlS K mg E (rSlD K) gSl := fun S H x lo hi a Q sh dx h => by
  unfold gSl at h
  split at h
  · rename_i xs
    rw [DV] at dx
    obtain ⟨p, us, rfl, h1, h2⟩ := dx
    exact .inl ⟨p, us, rfl, ls_sq (ls_mono sh h1), fun n hn => new_lst sh (h2.cut lo hi) h hn⟩
  · rename_i xs
    rw [DV] at dx
    obtain ⟨p, us, rfl, h1, h2⟩ := dx
    refine .inr ⟨p, us, rfl, same_t sh h1.1, fun hw => ?_, fun _ n hn => new_tup sh (h2.cut lo hi) h hn⟩
    refine h.ok0 sh ?_
    have e : cutD xs lo hi = xs := by
      unfold cutD
      rw [h2.length] at hw
      rw [hw.1, hw.2, List.drop_zero, Nat.sub_zero, List.take_length]
    rw [e, DV]
    exact ⟨p, us, rfl, h1, h2⟩
  · exact h.elim
end
end PD
namespace PD
open PySem L2
/-! ### targets -/
def setAll (σ : L2.St) : List Nat → List V → L2.St
  | i :: is, v :: vs => setAll (σ.set i (some v)) is vs
  | _, _ => σ
def setD (ρ : DEnv) : List Nat → List D → DEnv
  | i :: is, d :: ds => setD (ρ.set i (.d d)) is ds
  | _, _ => ρ
structure GD (K : PySem.W.Frag) (X : Cx) (tg : Expr) (g : TG) (is : List Nat) (h : D → Option (List D)) : Prop where
  pg : PG X tg g
  sd : ∀ (S H : Hp) (v : V) (σ : L2.St) (d : D) (ds : List D) (Q : L2.St → Hp → Prop), Same S H → DV K S v d → h d = some ds → (∀ vs, DVs K S vs ds → Q (setAll σ is vs) H) → g v σ H Q
def hOne (d : D) : Option (List D) := some [d]
def hTup (n : Nat) : D → Option (List D)
  | .tuple ds => if ds.length = n then some ds else none
  | _ => none
structure GDs (X : Cx) (ts : List Expr) (g : TGs) (is : List Nat) : Prop where
  pg : PGs X ts g
  sd : ∀ (H : Hp) (vs : List V) (σ : L2.St) (Q : L2.St → Hp → Prop), vs.length = is.length → Q (setAll σ is vs) H → g vs σ H Q
section
variable {K : PySem.W.Frag} {mg : Str → Option Value} {X : Cx} {E : XK} {pos : Pos}
theorem gd_name {i : Nat} {x : Str} (h : PG X (.Name x pos) (gName i)) : GD K X (.Name x pos) (gName i) [i] hOne := ⟨h, fun S H v σ d ds Q sh dv e q => by
  cases e
  exact q [v] ⟨dv, trivial⟩⟩
theorem gds_nil : GDs X [] gNil [] := ⟨pgs_nil, fun H vs σ Q hl q => by
  cases vs with
  | nil => exact ⟨rfl, q⟩
  | cons _ _ => cases hl⟩
theorem gds_cons {e : Expr} {es : List Expr} {i : Nat} {u : TGs} {is : List Nat} (h1 : PG X e (gName i)) (h2 : GDs X es u is) (hs : (assignEach (e :: es) X.env).map (·.2) = assign e X.env :: (assignEach es X.env).map (·.2) := by rfl) :
    GDs X (e :: es) (gCons (gName i) u) (i :: is) := ⟨pgs_cons h1 h2.pg hs, fun H vs σ Q hl q => by
  cases vs with
  | nil => cases hl
  | cons v vs => exact ⟨v, vs, rfl, h2.sd H vs _ Q (Nat.succ.inj hl) q⟩⟩
theorem gd_tup {es : List Expr} {k : Nat} {t : TGs} {n : Nat} {is : List Nat} (hc : X.calm = true) (h : GDs X es t is) (hn : (assignEach es X.env).length = n := by rfl) (hst : (assignEach es X.env).findIdx? (·.1) = none := by rfl) (hl : is.length = n := by rfl) (hK : X.K = K := by rfl) :
    GD K X (.Tuple es k pos) (gTup K n t) is (hTup n) := ⟨hK ▸ pg_tup hc h.pg hn hst, fun S H v σ d ds Q sh dv e q => by
  cases d with
  | tuple xs =>
    unfold hTup at e
    dsimp only at e
    split at e
    · rename_i hx
      cases e
      rw [DV] at dv
      obtain ⟨a, us, rfl, h1, h2⟩ := dv
      exact ⟨a, us, rfl, same_t sh h1.1, by rw [h2.length]; exact hx, h.sd H us σ Q (by rw [h2.length, hl]; exact hx) (q us h2)⟩
    · cases e
  | _ => cases e⟩
end
theorem setAll_length : ∀ (is : List Nat) (vs : List V) (σ : L2.St), (setAll σ is vs).length = σ.length
  | [], _, _ => rfl
  | _ :: _, [], _ => rfl
  | i :: is, v :: vs, σ => by
    show (setAll (σ.set i (some v)) is vs).length = σ.length
    rw [setAll_length is vs, List.length_set]
theorem setD_length : ∀ (is : List Nat) (vs : List D) (ρ : DEnv), (setD ρ is vs).length = ρ.length
  | [], _, _ => rfl
  | _ :: _, [], _ => rfl
  | i :: is, v :: vs, ρ => by
    show (setD (ρ.set i (.d v)) is vs).length = ρ.length
    rw [setD_length is vs, List.length_set]
/-! ### slots forgotten -/
def wipeD (ρ : DEnv) : List Nat → DEnv
  | [] => ρ
  | v :: vs => (wipeD ρ vs).set v .un
theorem RelE.set {K : PySem.W.Frag} {S H : Hp} {σ : L2.St} {ρ : DEnv} {i : Nat} {v : V} {d : D} (r : RelE K S H σ ρ) (h : DV K S v d) : RelE K S H (σ.set i (some v)) (ρ.set i (.d d)) := by
  have hl := r.len
  refine ⟨r.sh, by rw [List.length_set, List.length_set]; exact hl, fun j x e => ?_, fun j x e => ?_⟩
  · by_cases hj : i = j
    · subst hj
      by_cases hi : i < ρ.length
      · rw [List.getElem?_set_self hi] at e
        cases e
        exact ⟨v, List.getElem?_set_self (by omega), h⟩
      · rw [List.getElem?_eq_none (by rw [List.length_set]; omega)] at e
        cases e
    · rw [List.getElem?_set_ne hj] at e ⊢
      exact r.dt j x e
  · by_cases hj : i = j
    · subst hj
      by_cases hi : i < ρ.length
      · rw [List.getElem?_set_self hi] at e
        cases e
      · rw [List.getElem?_eq_none (by rw [List.length_set]; omega)] at e
        cases e
    · rw [List.getElem?_set_ne hj] at e ⊢
      exact r.rw j x e
theorem RelE.setAll {K : PySem.W.Frag} {S H : Hp} : ∀ (is : List Nat) (vs : List V) (ds : List D) {σ : L2.St} {ρ : DEnv}, RelE K S H σ ρ → DVs K S vs ds → RelE K S H (PD.setAll σ is vs) (setD ρ is ds)
  | [], _, _, _, _, r, _ => by cases ‹List V› <;> cases ‹List D› <;> exact r
  | _ :: _, [], [], _, _, r, _ => r
  | i :: is, v :: vs, d :: ds, σ, ρ, r, h => by
    show RelE K S H (PD.setAll (σ.set i (some v)) is vs) (setD (ρ.set i (.d d)) is ds)
    exact RelE.setAll is vs ds (r.set h.1) h.2
  | _ :: _, [], _ :: _, _, _, _, h => h.elim
  | _ :: _, _ :: _, [], _, _, _, h => h.elim
theorem wipeD_length (ρ : DEnv) : ∀ vs : List Nat, (wipeD ρ vs).length = ρ.length
  | [] => rfl
  | v :: vs => by unfold wipeD; rw [List.length_set, wipeD_length ρ vs]
theorem RelE.wipe {K : PySem.W.Frag} {S H : Hp} {σ : L2.St} {ρ : DEnv} (r : RelE K S H σ ρ) : ∀ vs : List Nat, RelE K S H (L2.wipe σ vs) (wipeD ρ vs)
  | [] => r
  | v :: vs => by
    have q := RelE.wipe r vs
    unfold L2.wipe wipeD
    refine ⟨q.sh, by rw [List.length_set, List.length_set]; exact q.len, fun j x e => ?_, fun j x e => ?_⟩
    · by_cases hj : v = j
      · subst hj
        by_cases hi : v < (wipeD ρ vs).length
        · rw [List.getElem?_set_self hi] at e
          cases e
        · rw [List.getElem?_eq_none (by rw [List.length_set]; omega)] at e
          cases e
      · rw [List.getElem?_set_ne hj] at e ⊢
        exact q.dt j x e
    · by_cases hj : v = j
      · subst hj
        by_cases hi : v < (wipeD ρ vs).length
        · rw [List.getElem?_set_self hi] at e
          cases e
        · rw [List.getElem?_eq_none (by rw [List.length_set]; omega)] at e
          cases e
      · rw [List.getElem?_set_ne hj] at e ⊢
        exact q.rw j x e
theorem wipe_set {i : Nat} {v : Option V} : ∀ {vs : List Nat} {σ : L2.St}, i ∈ vs → L2.wipe (σ.set i v) vs = L2.wipe σ vs
  | j :: vs, σ, h => by
    show (L2.wipe (σ.set i v) vs).set j none = (L2.wipe σ vs).set j none
    by_cases hm : i ∈ vs
    · rw [wipe_set hm]
    · have e : i = j := by
        rcases List.mem_cons.mp h with z | z
        · exact z
        · exact absurd z hm
      subst e
      have key : ∀ (ws : List Nat) (τ : L2.St), i ∉ ws → L2.wipe (τ.set i v) ws = (L2.wipe τ ws).set i v := by
        intro ws
        induction ws with
        | nil => intro τ _; rfl
        | cons k ws ih =>
          intro τ hk
          show (L2.wipe (τ.set i v) ws).set k none = ((L2.wipe τ ws).set k none).set i v
          rw [ih τ (fun z => hk (List.mem_cons_of_mem _ z)), List.set_comm _ _ (fun z : i = k => hk (by rw [z]; exact List.mem_cons_self))]
      rw [key vs σ hm, List.set_set]
theorem wipe_wipe {σ : L2.St} : ∀ (vs ws : List Nat), (∀ i ∈ ws, i ∈ vs) → L2.wipe (L2.wipe σ ws) vs = L2.wipe σ vs
  | _, [], _ => rfl
  | vs, w :: ws, h => by
    show L2.wipe ((L2.wipe σ ws).set w none) vs = L2.wipe σ vs
    rw [wipe_set (h w List.mem_cons_self), wipe_wipe vs ws fun i hi => h i (List.mem_cons_of_mem _ hi)]
theorem wipe_setAll : ∀ (is : List Nat) (xs : List V) {vs : List Nat} {σ : L2.St}, (∀ i ∈ is, i ∈ vs) → L2.wipe (PD.setAll σ is xs) vs = L2.wipe σ vs
  | [], xs, vs, σ, _ => by cases xs <;> rfl
  | _ :: _, [], vs, σ, _ => rfl
  | i :: is, x :: xs, vs, σ, h => by
    show L2.wipe (PD.setAll (σ.set i (some x)) is xs) vs = L2.wipe σ vs
    rw [wipe_setAll is xs fun j hj => h j (List.mem_cons_of_mem _ hj), wipe_set (h i List.mem_cons_self)]
/-! ### what is walked -/
def Walks (K : PySem.W.Frag) (S : Hp) (J : It) (ds : List D) : Prop := ∀ S' H', Same S S' → Same S' H' →
  (∀ (i : Nat) (d : D), ds[i]? = some d → J.go i H' ∧ ∀ x H'', J.yld i H' x H'' → ∃ S'', Ext S' H' S'' H'' ∧ DV K S'' x d) ∧ J.stop ds.length H'
theorem Walks.mono {K : PySem.W.Frag} {S S1 : Hp} {J : It} {ds : List D} (w : Walks K S J ds) (e : Same S S1) : Walks K S1 J ds := fun S' H' h1 h2 => w S' H' (e.trans h1) h2
structure ID (K : PySem.W.Frag) (mg : Str → Option Value) (X : Cx) (E : XK) (tg iter : Expr) (wi : TI) (f : DEnv → Res (List D)) : Prop where
  pi : PI X tg iter wi
  sd : ∀ (S H : Hp) (σ : L2.St) (ρ : DEnv) (R : It → Hp → Prop), RelE K S H σ ρ → PostG mg E S H (fun S J ds => Walks K S J ds) (f ρ) R → wi σ H R
section
variable {K : PySem.W.Frag} {mg : Str → Option Value} {X : Cx} {E : XK} {pos : Pos} {tg l : Expr} {tl : TE} {f : DEnv → Res D}
def asList : D → Res (List D)
  | .list ds => .ok ds
  | _ => .bad
def asTup : D → Res (List D)
  | .tuple ds => .ok ds
  | _ => .bad
def fItL (f : DEnv → Res D) : DEnv → Res (List D) := fun ρ => (f ρ).bind asList
def fItT (f : DEnv → Res D) : DEnv → Res (List D) := fun ρ => (f ρ).bind asTup
theorem walks_list {K : PySem.W.Frag} {S : Hp} {a : Addr} {us : List V} {ds : List D} (h1 : LsAt K S a us) (h2 : DVs K S us ds) : Walks K S (Itl K a) ds := fun S' H' e1 e2 => by
  have q : SqL K H' a us := ls_sq (ls_mono (e1.trans e2) h1)
  refine ⟨fun i d hi => ?_, us, q, by rw [h2.length]; exact Nat.le_refl _⟩
  obtain ⟨v, g1, g2⟩ := h2.get hi
  refine ⟨⟨us, v, q, g1⟩, fun x H'' hy => ?_⟩
  obtain ⟨rfl, fv⟩ := hy
  have ev : x = v := Option.some.inj ((fv _ q).symm.trans g1)
  subst ev
  exact ⟨S', Ext.refl e2, g2.mono e1⟩
theorem walks_tup {K : PySem.W.Frag} {S : Hp} {a : Addr} {us : List V} {ds : List D} (h1 : SqT K S a us) (h2 : DVs K S us ds) : Walks K S (Itt K a) ds := fun S' H' e1 e2 => by
  have q : SqT K H' a us := same_t (e1.trans e2) h1
  refine ⟨fun i d hi => ?_, us, q, by rw [h2.length]; exact Nat.le_refl _⟩
  obtain ⟨v, g1, g2⟩ := h2.get hi
  refine ⟨⟨us, v, q, g1⟩, fun x H'' hy => ?_⟩
  obtain ⟨rfl, fv⟩ := hy
  have ev : x = v := Option.some.inj ((fv _ q).symm.trans g1)
  subst ev
  exact ⟨S', Ext.refl e2, g2.mono e1⟩
theorem id_list (hl : PD K mg X E l tl f) (hK : X.K = K := by rfl) : ID K mg X E tg l (iList K tl) (fItL f) := ⟨hK ▸ pi_list hl.pe, fun S H σ ρ R rl h => by
  refine hl.sd S H σ ρ _ rl (h.bind fun d v S1 H1 x1 d1 h1 => ?_)
  cases d with
  | list ds =>
    rw [DV] at d1
    obtain ⟨a, us, rfl, g1, g2⟩ := d1
    exact ⟨a, rfl, ⟨us, ls_sq (ls_mono x1.sh g1)⟩, h1.ok0 x1.sh (walks_list g1 g2)⟩
  | _ => exact h1.elim⟩
theorem id_tup (hl : PD K mg X E l tl f) (hK : X.K = K := by rfl) : ID K mg X E tg l (iTup K tl) (fItT f) := ⟨hK ▸ pi_tup hl.pe, fun S H σ ρ R rl h => by
  refine hl.sd S H σ ρ _ rl (h.bind fun d v S1 H1 x1 d1 h1 => ?_)
  cases d with
  | tuple ds =>
    rw [DV] at d1
    obtain ⟨a, us, rfl, g1, g2⟩ := d1
    exact ⟨a, rfl, ⟨us, same_t x1.sh g1.1⟩, h1.ok0 x1.sh (walks_tup g1.1 g2)⟩
  | _ => exact h1.elim⟩
def rngD (lo : Int) (n : Nat) : List D := (List.range n).map fun (i : Nat) => PyData.int (lo + (i : Int))
theorem walks_rng {K : PySem.W.Frag} {S : Hp} (lo : Int) (n : Nat) : Walks K S (Itr lo n) (rngD lo n) := fun S' H' e1 e2 => by
  have hl : (rngD lo n).length = n := by unfold rngD; rw [List.length_map, List.length_range]
  refine ⟨fun i d hi => ?_, by rw [hl]; exact Nat.le_refl n⟩
  have hin : i < n := by
    have := (List.getElem?_eq_some_iff.mp hi).1
    omega
  refine ⟨hin, fun x H'' hy => ?_⟩
  obtain ⟨rfl, rfl⟩ := hy
  refine ⟨S', Ext.refl e2, ?_⟩
  unfold rngD at hi
  rw [List.getElem?_map, List.getElem?_range hin] at hi
  have hi := Option.some.inj hi
  rw [← hi]
  rfl
def rngOk (i : Int) : Bool := decide (-1000000000000 ≤ i) && decide (i ≤ 1000000000000)
theorem rngOk.b {i : Int} (h : rngOk i = true) : -(2 ^ 62) ≤ i ∧ i < 2 ^ 62 := by
  obtain ⟨h1, h2⟩ := and_split h
  have h1 := of_decide_eq_true h1
  have h2 := of_decide_eq_true h2
  have e : (2 : Int) ^ 62 = 4611686018427387904 := by decide
  omega
def gRng1 : List D → Res (List D)
  | [.int j] => if rngOk j = true then .ok (rngD 0 j.toNat) else .bad
  | _ => .bad
def gRng2 : List D → Res (List D)
  | [.int i, .int j] => if (rngOk i && rngOk j) = true then .ok (rngD i (j - i).toNat) else .bad
  | _ => .bad
def fRng (g : List D → Res (List D)) (f : DEnv → Res (List D)) : DEnv → Res (List D) := fun ρ => (f ρ).bind g
variable {a b c : Expr} {ta : TA} {ga : DEnv → Res (List D)} {p : Pos}
theorem dvs1 {K : PySem.W.Frag} {S : Hp} {vs : List V} {d : D} (h : DVs K S vs [d]) : ∃ v, vs = [v] ∧ DV K S v d := by
  cases vs with
  | nil => exact h.elim
  | cons v vs =>
    cases vs with
    | nil => exact ⟨v, rfl, h.1⟩
    | cons _ _ => exact h.2.elim
theorem dvs2 {K : PySem.W.Frag} {S : Hp} {vs : List V} {d e : D} (h : DVs K S vs [d, e]) : ∃ v w, vs = [v, w] ∧ DV K S v d ∧ DV K S w e := by
  cases vs with
  | nil => exact h.elim
  | cons v vs =>
    obtain ⟨w, rfl, h2⟩ := dvs1 h.2
    exact ⟨v, w, rfl, h.1, h2⟩
theorem dvs3 {K : PySem.W.Frag} {S : Hp} {vs : List V} {d e f : D} (h : DVs K S vs [d, e, f]) : ∃ v w u, vs = [v, w, u] ∧ DV K S v d ∧ DV K S w e ∧ DV K S u f := by
  cases vs with
  | nil => exact h.elim
  | cons v vs =>
    obtain ⟨w, u, rfl, h2, h3⟩ := dvs2 h.2
    exact ⟨v, w, u, rfl, h.1, h2, h3⟩
theorem id_range1 (hg : Gl X "range") (hm : X.mg "range" = none) (ha : AD K mg X E [a] ta ga) (hs : starEach [a] X.env = [(false, eval a X.env)] := by rfl) : ID K mg X E tg (.Call (.Name "range" p) [a] [] pos) (iRng1 ta) (fRng gRng1 ga) :=
  ⟨pi_range1 hg hm ha.pe hs, fun S H σ ρ R rl h => ha.sd S H σ ρ _ rl (h.bind fun ds vs S1 H1 x1 d1 h1 => by
    unfold gRng1 at h1
    split at h1
    · rename_i j
      split at h1
      · rename_i hz
        obtain ⟨v, rfl, hv⟩ := dvs1 d1
        cases hv
        exact ⟨j, rfl, (rngOk.b hz).1, (rngOk.b hz).2, h1.ok0 x1.sh (walks_rng _ _)⟩
      · exact h1.elim
    · exact h1.elim)⟩
theorem id_range2 (hg : Gl X "range") (hm : X.mg "range" = none) (ha : AD K mg X E [a, b] ta ga) (hs : starEach [a, b] X.env = [(false, eval a X.env), (false, eval b X.env)] := by rfl) (hs2 : starEach [b] X.env = [(false, eval b X.env)] := by rfl) : ID K mg X E tg (.Call (.Name "range" p) [a, b] [] pos) (iRng2 ta) (fRng gRng2 ga) :=
  ⟨pi_range2 hg hm ha.pe hs hs2, fun S H σ ρ R rl h => ha.sd S H σ ρ _ rl (h.bind fun ds vs S1 H1 x1 d1 h1 => by
    unfold gRng2 at h1
    split at h1
    · rename_i i j
      split at h1
      · rename_i hz
        obtain ⟨hz1, hz2⟩ := and_split hz
        obtain ⟨v, w, rfl, hv, hw⟩ := dvs2 d1
        cases hv
        cases hw
        exact ⟨i, j, rfl, ⟨(rngOk.b hz1).1, (rngOk.b hz1).2, (rngOk.b hz2).1, (rngOk.b hz2).2⟩, h1.ok0 x1.sh (walks_rng _ _)⟩
      · exact h1.elim
    · exact h1.elim)⟩
end
end PD
namespace PD
open PySem L2
/-! ### list comprehensions -/
def Res.strict {α : Type} : Res α → Res α
  | .ok a => .ok a
  | .err _ => .bad
  | .bad => .bad
def lcGo (step : D → Res (List D)) : List D → Res (List D)
  | [] => .ok []
  | d :: ds => (step d).strict.bind fun o => (lcGo step ds).bind fun r => .ok (o ++ r)
theorem lcGo_snoc (step : D → Res (List D)) (d : D) : ∀ (xs : List D) {r : List D}, lcGo step xs = .ok r → lcGo step (xs ++ [d]) = (step d).strict.bind fun o => .ok (r ++ o)
  | [], r, h => by
    cases h
    show (step d).strict.bind (fun o => (Res.ok []).bind fun r => .ok (o ++ r)) = _
    cases (step d).strict with
    | ok o => show Res.ok (o ++ []) = Res.ok ([] ++ o); rw [List.append_nil, List.nil_append]
    | err c => rfl
    | bad => rfl
  | x :: xs, r, h => by
    have h : ((step x).strict.bind fun o => (lcGo step xs).bind fun r => .ok (o ++ r)) = .ok r := h
    show ((step x).strict.bind fun o => (lcGo step (xs ++ [d])).bind fun r => .ok (o ++ r)) = _
    cases e1 : (step x).strict with
    | ok o =>
      rw [e1] at h
      cases e2 : lcGo step xs with
      | ok r1 =>
        rw [e2] at h
        have h : Res.ok (o ++ r1) = Res.ok r := h
        cases h
        have q := lcGo_snoc step d xs e2
        show (lcGo step (xs ++ [d])).bind (fun r => .ok (o ++ r)) = _
        rw [q]
        cases (step d).strict with
        | ok o2 => show Res.ok (o ++ (r1 ++ o2)) = Res.ok (o ++ r1 ++ o2); rw [List.append_assoc]
        | err c => rfl
        | bad => rfl
      | err c => rw [e2] at h; cases h
      | bad => rw [e2] at h; cases h
    | err c => rw [e1] at h; cases h
    | bad => rw [e1] at h; cases h
/-- where the whole is ok, each part is -/
theorem lcGo_part {step : D → Res (List D)} : ∀ {xs : List D} {r : List D} (i : Nat), lcGo step xs = .ok r → ∃ r', lcGo step (xs.take i) = .ok r' ∧ ∀ d, xs[i]? = some d → ∃ o, step d = .ok o ∧ lcGo step (xs.take (i + 1)) = .ok (r' ++ o)
  | [], r, i, h => ⟨[], by rw [List.take_nil]; rfl, fun d e => by simp at e⟩
  | x :: xs, r, i, h => by
    have h : ((step x).strict.bind fun o => (lcGo step xs).bind fun r => .ok (o ++ r)) = .ok r := h
    cases e0 : step x with
    | ok o =>
      rw [e0] at h
      cases e2 : lcGo step xs with
      | ok r1 =>
        cases i with
        | zero =>
          refine ⟨[], rfl, fun d e => ?_⟩
          have e : x = d := Option.some.inj e
          subst e
          refine ⟨o, e0, ?_⟩
          show ((step x).strict.bind fun o => (Res.ok []).bind fun r => .ok (o ++ r)) = .ok ([] ++ o)
          rw [e0]
          show Res.ok (o ++ []) = Res.ok ([] ++ o)
          rw [List.append_nil, List.nil_append]
        | succ i =>
          obtain ⟨r', g1, g2⟩ := lcGo_part i e2
          refine ⟨o ++ r', ?_, fun d e => ?_⟩
          · show ((step x).strict.bind fun o => (lcGo step (xs.take i)).bind fun r => .ok (o ++ r)) = _
            rw [e0, g1]
            rfl
          · obtain ⟨o2, g3, g4⟩ := g2 d e
            refine ⟨o2, g3, ?_⟩
            show ((step x).strict.bind fun o => (lcGo step (xs.take (i + 1))).bind fun r => .ok (o ++ r)) = _
            rw [e0, g4]
            show Res.ok (o ++ (r' ++ o2)) = Res.ok (o ++ r' ++ o2)
            rw [List.append_assoc]
      | err c => rw [e2] at h; cases h
      | bad => rw [e2] at h; cases h
    | err c => rw [e0] at h; cases h
    | bad => rw [e0] at h; cases h
theorem lcGo_noerr (step : D → Res (List D)) : ∀ (xs : List D) (c : Str), lcGo step xs ≠ .err c
  | [], c, h => by cases h
  | x :: xs, c, h => by
    have h : ((step x).strict.bind fun o => (lcGo step xs).bind fun r => .ok (o ++ r)) = .err c := h
    cases e0 : step x with
    | ok o =>
      rw [e0] at h
      cases e2 : lcGo step xs with
      | ok r1 => rw [e2] at h; cases h
      | err c => exact lcGo_noerr step xs c e2
      | bad => rw [e2] at h; cases h
    | err c => rw [e0] at h; cases h
    | bad => rw [e0] at h; cases h
/-- the step: the item to the slots, the tests, the element -/
def lcStep (ρ : DEnv) (own is : List Nat) (h : D → Option (List D)) (tt : DEnv → Res Bool) (fe : DEnv → Res D) (d : D) : Res (List D) := match h d with
  | none => .bad
  | some xs => (tt (setD (wipeD ρ own) is xs)).bind fun b => if b = true then (fe (setD (wipeD ρ own) is xs)).bind fun y => .ok [y] else .ok []
def lcEnd (r : Res (List D)) : Res D := r.bind fun ys => if lenOk (ys.length + 1) = true then .ok (.list ys) else .bad
def fLc (src : DEnv → Res (List D)) (own is : List Nat) (h : D → Option (List D)) (tt : DEnv → Res Bool) (fe : DEnv → Res D) : DEnv → Res D := fun ρ => (src ρ).bind fun ds => lcEnd (lcGo (lcStep ρ own is h tt fe) ds)
structure TDs (K : PySem.W.Frag) (mg : Str → Option Value) (X : Cx) (E : XK) (ifs : List Expr) (t : TT) (f : DEnv → Res Bool) : Prop where
  pe : PTs X ifs t
  sd : ∀ (S H : Hp) (σ : L2.St) (ρ : DEnv) (Q : Bool → Hp → Prop), RelE K S H σ ρ → PostG mg E S H EqB (f ρ) Q → t σ H Q
def fYes : DEnv → Res Bool := fun _ => .ok true
section
variable {K : PySem.W.Frag} {mg : Str → Option Value} {X : Cx} {E : XK}
theorem tds_nil : TDs K mg X E [] tYes fYes := ⟨pts_nil, fun S H σ ρ Q rl h => h.ok0 rl.sh rfl⟩
theorem tds_one {c : Expr} {t : TT} {f : DEnv → Res Bool} (h : TD K mg X E c t f) : TDs K mg X E [c] t f := ⟨pts_one h.pe, h.sd⟩
/-- the state of a comprehension that grows the list at D -/
structure LcAt (K : PySem.W.Frag) (S1 H1 : Hp) (D0 : Addr) (acc : List V) (r : List D) (S H : Hp) : Prop where
  s : Same S1 S
  h : Same H1 H
  sh : Same S H
  old : ∀ x, Live (H1 x) → S x = S1 x
  sD : S D0 = none
  hD : H D0 = some (.lst acc)
  dv : DVs K S acc r
theorem LcAt.start {K : PySem.W.Frag} {S1 H1 : Hp} {D0 : Addr} (sh : Same S1 H1) (hD : H1 D0 = none) : LcAt K S1 H1 D0 [] [] S1 (upd H1 D0 (.lst [])) :=
  ⟨Same.refl _, same_upd hD, sh.trans (same_upd hD), fun _ _ => rfl, sh.free hD, upd_same, trivial⟩
theorem LcAt.ext {K : PySem.W.Frag} {S1 H1 S H S' H' : Hp} {D0 : Addr} {acc : List V} {r : List D} (l : LcAt K S1 H1 D0 acc r S H) (x : Ext S H S' H') : LcAt K S1 H1 D0 acc r S' H' :=
  ⟨l.s.trans x.s, l.h.trans x.h, x.sh, fun a ha => (x.old a (ha.same l.h)).trans (l.old a ha),
   by rw [x.old D0 (Live.of l.hD (fun _ z => nomatch z))]; exact l.sD, x.h _ _ l.hD, l.dv.mono x.s⟩
theorem LcAt.push {K : PySem.W.Frag} {S1 H1 S H : Hp} {D0 : Addr} {acc : List V} {r : List D} {y : V} {d : D} (l : LcAt K S1 H1 D0 acc r S H) (h1 : H1 D0 = none) (hy : DV K S y d) : LcAt K S1 H1 D0 (acc ++ [y]) (r ++ [d]) S (upd H D0 (.lst (acc ++ [y]))) :=
  ⟨l.s, fun b o e => by rw [upd_ne (ne_of_none e h1)]; exact l.h b o e, fun b o e => by rw [upd_ne (ne_of_none e l.sD)]; exact l.sh b o e, l.old, l.sD, upd_same, l.dv.append ⟨hy, trivial⟩⟩
theorem LcAt.done {K : PySem.W.Frag} {S1 H1 S H : Hp} {D0 : Addr} {acc : List V} {r : List D} (l : LcAt K S1 H1 D0 acc r S H) (h1 : H1 D0 = none) : Ext S1 H1 (upd S D0 (.lst acc)) H ∧ DV K (upd S D0 (.lst acc)) (.ref D0) (.list r) := by
  have sm : Same S (upd S D0 (.lst acc)) := same_upd l.sD
  refine ⟨⟨l.s.trans sm, l.h, fun b o e => ?_, fun x hx => ?_⟩, D0, acc, rfl, ls_of upd_same, l.dv.mono sm⟩
  · by_cases hb : b = D0
    · subst hb
      rw [upd_same] at e
      rw [l.hD]
      exact e
    · rw [upd_ne hb] at e
      exact l.sh b o e
  · rw [upd_ne (fun z => hx.1 (by rw [z]; exact h1))]
    exact l.old x hx
theorem ok_of_noerr {α : Type} {mg : Str → Option Value} {S H : Hp} {W : Type} {R : Hp → W → α → Prop} {r : Res α} {Q : W → Hp → Prop} (h : PostG mg E S H R r Q) (hn : ∀ c, r ≠ .err c) : ∃ a, r = .ok a ∧ PostG mg E S H R (.ok a) Q := by
  cases r with
  | ok a => exact ⟨a, rfl, h⟩
  | err c => exact absurd rfl (hn c)
  | bad => exact h.elim
theorem lcEnd_ok {S H : Hp} {r : Res (List D)} {Q : VK} (h : PostG mg E S H (DV K) (lcEnd r) Q) (hn : ∀ c, r ≠ .err c) : ∃ ys, r = .ok ys ∧ lenOk (ys.length + 1) = true ∧ PostG mg E S H (DV K) (.ok (.list ys)) Q := by
  cases r with
  | ok ys =>
    unfold lcEnd at h
    rw [bind_ok] at h
    split at h
    · rename_i hz
      exact ⟨ys, rfl, hz, h⟩
    · exact h.elim
  | err c => exact absurd rfl (hn c)
  | bad => exact h.elim
theorem lcGo_le {step : D → Res (List D)} {xs ys : List D} (h : lcGo step xs = .ok ys) (i : Nat) {r : List D} (hr : lcGo step (xs.take i) = .ok r) : r.length ≤ ys.length := by
  have key : ∀ (as bs : List D) (ra r : List D), lcGo step (as ++ bs) = .ok r → lcGo step as = .ok ra → ra.length ≤ r.length := by
    intro as
    induction as with
    | nil => intro bs ra r _ h2; cases h2; exact Nat.zero_le _
    | cons a as ih =>
      intro bs ra r h1 h2
      have h1 : ((step a).strict.bind fun o => (lcGo step (as ++ bs)).bind fun r => .ok (o ++ r)) = .ok r := h1
      have h2 : ((step a).strict.bind fun o => (lcGo step as).bind fun r => .ok (o ++ r)) = .ok ra := h2
      cases e0 : (step a).strict with
      | ok o =>
        rw [e0] at h1 h2
        cases e1 : lcGo step (as ++ bs) with
        | ok r1 =>
          rw [e1] at h1
          cases e2 : lcGo step as with
          | ok r2 =>
            rw [e2] at h2
            have h1 : Res.ok (o ++ r1) = Res.ok r := h1
            have h2 : Res.ok (o ++ r2) = Res.ok ra := h2
            cases h1
            cases h2
            have := ih bs r2 r1 e1 e2
            rw [List.length_append, List.length_append]
            omega
          | err c => rw [e2] at h2; cases h2
          | bad => rw [e2] at h2; cases h2
        | err c => rw [e1] at h1; cases h1
        | bad => rw [e1] at h1; cases h1
      | err c => rw [e0] at h1; cases h1
      | bad => rw [e0] at h1; cases h1
  refine key (xs.take i) (xs.drop i) r ys ?_ hr
  rw [List.take_append_drop]
  exact h
variable {elt tg iter : Expr} {ifs : List Expr} {scope : Scope} {own : List (Str × Nat)} {pos : Pos} {wi : TI} {g : TG} {tt : TT} {te : TE} {src : DEnv → Res (List D)} {is : List Nat} {h : D → Option (List D)} {ft : DEnv → Res Bool} {fe : DEnv → Res D}
/-- the step is sound -/
theorem lcStep_ok {ρ : DEnv} {own is : List Nat} {h : D → Option (List D)} {ft : DEnv → Res Bool} {fe : DEnv → Res D} {d : D} {o : List D} (e : lcStep ρ own is h ft fe d = .ok o) : ∃ xs b, h d = some xs ∧ ft (setD (wipeD ρ own) is xs) = .ok b ∧
    ((b = false ∧ o = []) ∨ (b = true ∧ ∃ y, fe (setD (wipeD ρ own) is xs) = .ok y ∧ o = [y])) := by
  unfold lcStep at e
  split at e
  · cases e
  · rename_i xs hx
    cases e1 : ft (setD (wipeD ρ own) is xs) with
    | ok b =>
      rw [e1, bind_ok] at e
      refine ⟨xs, b, hx, e1, ?_⟩
      cases b with
      | false =>
        cases e
        exact .inl ⟨rfl, rfl⟩
      | true =>
        cases e2 : fe (setD (wipeD ρ own) is xs) with
        | ok y =>
          rw [e2] at e
          cases e
          exact .inr ⟨rfl, y, rfl, rfl⟩
        | err c => rw [e2] at e; cases e
        | bad => rw [e2] at e; cases e
    | err c => rw [e1] at e; cases e
    | bad => rw [e1] at e; cases e
theorem lc_sd' {X' : Cx} {S H : Hp} {σ : L2.St} {ρ : DEnv} (hsrc : ∀ R : It → Hp → Prop, PostG mg E S H (fun S J ds => Walks K S J ds) (src ρ) R → wi σ H R) (hg : GD K X' tg g is h) (ht : TDs K mg X' E0 ifs tt ft) (he : PD K mg X' E0 elt te fe) {vs : List Nat} (his : ∀ i ∈ is, i ∈ vs)
    (Q : VK) (rl : RelE K S H σ ρ) (hp : PostG mg E S H (DV K) (fLc src vs is h ft fe ρ) Q) : tLc wi g tt te vs σ H Q := by
  refine hsrc _ (hp.bind fun ds J S1 H1 x1 wk hq => ?_)
  intro D0 hD
  obtain ⟨ys, hgo, hlen, hq⟩ := lcEnd_ok hq (lcGo_noerr _ _)
  refine ⟨fun i m H => i + m = ds.length ∧ ∃ S acc r, LcAt K S1 H1 D0 acc r S H ∧ lcGo (lcStep ρ vs is h ft fe) (ds.take i) = .ok r, ⟨ds.length, by omega, S1, [], [], LcAt.start x1.sh hD, rfl⟩, ?_⟩
  rintro i m H2 ⟨him, S2, acc, r, la, hr⟩
  have wk2 := wk S2 H2 la.s la.sh
  by_cases hi : i < ds.length
  · obtain ⟨go, yl⟩ := wk2.1 i ds[i] (List.getElem?_eq_getElem hi)
    obtain ⟨r', g1, g2⟩ := lcGo_part i hgo
    obtain ⟨o, g3, g4⟩ := g2 ds[i] (List.getElem?_eq_getElem hi)
    rw [hr] at g1
    cases g1
    have hrl : (r ++ o).length ≤ ys.length := lcGo_le hgo (i + 1) g4
    have hz := lenOk.le hlen
    obtain ⟨xs, b, k1, k2, k3⟩ := lcStep_ok g3
    refine .inr ⟨go, fun H' => ∃ S acc, LcAt K S1 H1 D0 acc (r ++ o) S H', fun H' ⟨S', acc', l'⟩ => ⟨m - 1, by omega, by omega, S', acc', _, l', g4⟩, fun x H3 hy => ?_⟩
    obtain ⟨S3, x3, dx⟩ := yl x H3 hy
    have l3 := la.ext x3
    refine hg.sd S3 H3 x _ ds[i] xs _ x3.sh dx k1 fun us hus => ?_
    refine ⟨by rw [wipe_setAll is us his, wipe_wipe vs vs fun _ z => z], ?_⟩
    have x13 : Ext S H S3 H3 := by
      refine x1.trans ⟨l3.s, l3.h, l3.sh, l3.old⟩
    have rl3 : RelE K S3 H3 (PD.setAll (L2.wipe σ vs) is us) (setD (wipeD ρ vs) is xs) := ((rl.mono x13).wipe vs).setAll is us xs hus
    refine ht.sd S3 H3 _ (setD (wipeD ρ vs) is xs) _ rl3 ?_
    rw [k2]
    intro b' S4 H4 x4 eb
    cases eb
    have l4 := l3.ext x4
    rcases k3 with ⟨rfl, rfl⟩ | ⟨rfl, y, ey, rfl⟩
    · refine iteF ?_
      exact ⟨S4, acc, by rw [List.append_nil]; exact l4⟩
    · refine iteT ?_
      refine he.sd S4 H4 _ (setD (wipeD ρ vs) is xs) _ (rl3.mono x4) ?_
      rw [ey]
      intro v S5 H5 x5 dv
      have l5 := l4.ext x5
      refine ⟨acc, l5.hD, ?_, S5, acc ++ [v], l5.push hD dv⟩
      rw [la.dv.length]
      rw [List.length_append] at hrl
      have : ([y] : List D).length = 1 := rfl
      omega
  · have ei : ds.take i = ds := List.take_of_length_le (by omega)
    have e2 : i = ds.length := by omega
    subst e2
    rw [ei, hgo] at hr
    cases hr
    obtain ⟨xx, dd⟩ := la.done hD
    exact .inl ⟨wk2.2, hq.ok xx dd⟩
theorem lc_sd {X' : Cx} (hsrc : ID K mg X E tg iter wi src) (hg : GD K X' tg g is h) (ht : TDs K mg X' E0 ifs tt ft) (he : PD K mg X' E0 elt te fe) {vs : List Nat} (his : ∀ i ∈ is, i ∈ vs)
    (S H : Hp) (σ : L2.St) (ρ : DEnv) (Q : VK) (rl : RelE K S H σ ρ) (hp : PostG mg E S H (DV K) (fLc src vs is h ft fe ρ) Q) : tLc wi g tt te vs σ H Q :=
  lc_sd' (fun R q => hsrc.sd S H σ ρ R rl q) hg ht he his Q rl hp
end
end PD
namespace PD
open PySem L2
section
variable {K : PySem.W.Frag} {mg : Str → Option Value} {X : Cx} {E : XK}
variable {elt tg iter tg1 iter1 : Expr} {ifs ifs1 : List Expr} {scope : Scope} {own : List (Str × Nat)} {pos : Pos} {wi wi1 : TI} {g g1 : TG} {tt tt1 : TT} {te : TE} {src src1 : DEnv → Res (List D)} {is is1 : List Nat} {h h1 : D → Option (List D)} {ft ft1 : DEnv → Res Bool} {fe : DEnv → Res D}
abbrev Blk (X : Cx) (scope : Scope) (s : Shared) (H : Hp) (C : Addr) (cl : List (Str × Addr)) (fp : List Addr) : Cx := X.blk s H scope (compEnvC scope cl C X.env) fp
theorem pd_lc {vs : List Nat} (hc : X.calm = true) (hN : X.N.Nodup) (hi : ID K mg X E tg iter wi src) (ok : BlkOk X.N X.env.scope scope own)
    (hg : ∀ (s : Shared) (H : Hp) (C : Addr) (cl : List (Str × Addr)) (fp : List Addr), GD K (Blk X scope s H C cl fp) tg g is h) (ht : ∀ (s : Shared) (H : Hp) (C : Addr) (cl : List (Str × Addr)) (fp : List Addr), TDs K mg (Blk X scope s H C cl fp) E0 ifs tt ft)
    (he : ∀ (s : Shared) (H : Hp) (C : Addr) (cl : List (Str × Addr)) (fp : List Addr), PD K mg (Blk X scope s H C cl fp) E0 elt te fe) (hvs : own.map (·.2) = vs := by rfl) (his : ∀ i ∈ is, i ∈ vs := by decide) (hs : ∀ x, foldedSetIterable iter X.env x = pure x := by intro _; rfl) :
    PD K mg X E (.ListComp elt [⟨tg, iter, ifs, 0⟩] scope pos) (tLc wi g tt te vs) (fLc src vs is h ft fe) :=
  ⟨hvs ▸ pe_lc hc hN hi.pi ok (fun s H C cl fp => (hg s H C cl fp).pg) (fun s H C cl fp => (ht s H C cl fp).pe) (fun s H C cl fp => (he s H C cl fp).pe) hs,
   fun S H σ ρ Q rl hp => lc_sd (X := X) (X' := Blk X scope X.s_0 X.H_0 0 [] []) hi (hg _ _ _ _ _) (ht _ _ _ _ _) (he _ _ _ _ _) his S H σ ρ Q rl hp⟩
def lc2Step (ρ : DEnv) (own is : List Nat) (h : D → Option (List D)) (ft : DEnv → Res Bool) (src1 : DEnv → Res (List D)) (own1 is1 : List Nat) (h1 : D → Option (List D)) (ft1 : DEnv → Res Bool) (fe : DEnv → Res D) (d : D) : Res (List D) := match h d with
  | none => .bad
  | some xs => (ft (setD (wipeD ρ own) is xs)).bind fun b => if b = true then (src1 (setD (wipeD ρ own) is xs)).bind fun es => lcGo (lcStep (setD (wipeD ρ own) is xs) own1 is1 h1 ft1 fe) es else .ok []
def fLc2 (src : DEnv → Res (List D)) (own is : List Nat) (h : D → Option (List D)) (ft : DEnv → Res Bool) (src1 : DEnv → Res (List D)) (own1 is1 : List Nat) (h1 : D → Option (List D)) (ft1 : DEnv → Res Bool) (fe : DEnv → Res D) : DEnv → Res D :=
  fun ρ => (src ρ).bind fun ds => lcEnd (lcGo (lc2Step ρ own is h ft src1 own1 is1 h1 ft1 fe) ds)
theorem lc2Step_ok {ρ : DEnv} {own is : List Nat} {h : D → Option (List D)} {ft : DEnv → Res Bool} {src1 : DEnv → Res (List D)} {own1 is1 : List Nat} {h1 : D → Option (List D)} {ft1 : DEnv → Res Bool} {fe : DEnv → Res D} {d : D} {o : List D} (e : lc2Step ρ own is h ft src1 own1 is1 h1 ft1 fe d = .ok o) :
    ∃ xs b, h d = some xs ∧ ft (setD (wipeD ρ own) is xs) = .ok b ∧ ((b = false ∧ o = []) ∨ (b = true ∧ ∃ es, src1 (setD (wipeD ρ own) is xs) = .ok es ∧ lcGo (lcStep (setD (wipeD ρ own) is xs) own1 is1 h1 ft1 fe) es = .ok o)) := by
  unfold lc2Step at e
  split at e
  · cases e
  · rename_i xs hx
    cases e1 : ft (setD (wipeD ρ own) is xs) with
    | ok b =>
      rw [e1, bind_ok] at e
      refine ⟨xs, b, hx, e1, ?_⟩
      cases b with
      | false =>
        cases e
        exact .inl ⟨rfl, rfl⟩
      | true =>
        cases e2 : src1 (setD (wipeD ρ own) is xs) with
        | ok y =>
          rw [e2] at e
          exact .inr ⟨rfl, y, rfl, e⟩
        | err c => rw [e2] at e; cases e
        | bad => rw [e2] at e; cases e
    | err c => rw [e1] at e; cases e
    | bad => rw [e1] at e; cases e
theorem lc2_sd {X' : Cx} (hsrc : ID K mg X E tg iter wi src) (hg : GD K X' tg g is h) (ht : TDs K mg X' E0 ifs tt ft) (hsrc1 : ID K mg X' E0 tg1 iter1 wi1 src1) (hg1 : GD K X' tg1 g1 is1 h1) (ht1 : TDs K mg X' E0 ifs1 tt1 ft1) (he : PD K mg X' E0 elt te fe) {vs vs1 : List Nat} (his : ∀ i ∈ is, i ∈ vs) (his1 : ∀ i ∈ is1, i ∈ vs1)
    (S H : Hp) (σ : L2.St) (ρ : DEnv) (Q : VK) (rl : RelE K S H σ ρ) (hp : PostG mg E S H (DV K) (fLc2 src vs is h ft src1 vs1 is1 h1 ft1 fe ρ) Q) : tLc2 wi g tt wi1 g1 tt1 te vs vs1 σ H Q := by
  refine hsrc.sd S H σ ρ _ rl (hp.bind fun ds J S1 H1 x1 wk hq => ?_)
  intro D0 hD
  obtain ⟨ys, hgo, hlen, hq⟩ := lcEnd_ok hq (lcGo_noerr _ _)
  refine ⟨fun i m H => i + m = ds.length ∧ ∃ S acc r, LcAt K S1 H1 D0 acc r S H ∧ lcGo (lc2Step ρ vs is h ft src1 vs1 is1 h1 ft1 fe) (ds.take i) = .ok r, ⟨ds.length, by omega, S1, [], [], LcAt.start x1.sh hD, rfl⟩, ?_⟩
  rintro i m H2 ⟨him, S2, acc, r, la, hr⟩
  have wk2 := wk S2 H2 la.s la.sh
  by_cases hi : i < ds.length
  · obtain ⟨go, yl⟩ := wk2.1 i ds[i] (List.getElem?_eq_getElem hi)
    obtain ⟨r', g1', g2⟩ := lcGo_part i hgo
    obtain ⟨o, g3, g4⟩ := g2 ds[i] (List.getElem?_eq_getElem hi)
    rw [hr] at g1'
    cases g1'
    have hrl : (r ++ o).length ≤ ys.length := lcGo_le hgo (i + 1) g4
    have hz := lenOk.le hlen
    obtain ⟨xs, b, k1, k2, k3⟩ := lc2Step_ok g3
    refine .inr ⟨go, fun H' => ∃ S acc, LcAt K S1 H1 D0 acc (r ++ o) S H', fun H' ⟨S', acc', l'⟩ => ⟨m - 1, by omega, by omega, S', acc', _, l', g4⟩, fun x H3 hy => ?_⟩
    obtain ⟨S3, x3, dx⟩ := yl x H3 hy
    have l3 := la.ext x3
    refine hg.sd S3 H3 x _ ds[i] xs _ x3.sh dx k1 fun us hus => ?_
    refine ⟨by rw [wipe_setAll is us his, wipe_wipe vs vs fun _ z => z], ?_⟩
    have x13 : Ext S H S3 H3 := x1.trans ⟨l3.s, l3.h, l3.sh, l3.old⟩
    have rl3 : RelE K S3 H3 (PD.setAll (L2.wipe σ vs) is us) (setD (wipeD ρ vs) is xs) := ((rl.mono x13).wipe vs).setAll is us xs hus
    refine ht.sd S3 H3 _ (setD (wipeD ρ vs) is xs) _ rl3 ?_
    rw [k2]
    intro b' S4 H4 x4 eb
    cases eb
    have l4 := l3.ext x4
    rcases k3 with ⟨rfl, rfl⟩ | ⟨rfl, es, ee, hin⟩
    · refine iteF ?_
      exact ⟨S4, acc, by rw [List.append_nil]; exact l4⟩
    · refine iteT ?_
      have rl4 := rl3.mono x4
      refine hsrc1.sd S4 H4 _ (setD (wipeD ρ vs) is xs) _ rl4 ?_
      rw [ee]
      intro J1 S5 H5 x5 wk5
      have l5 := l4.ext x5
      have rl5 := rl4.mono x5
      refine ⟨fun j k H => j + k = es.length ∧ ∃ S acc rj, LcAt K S1 H1 D0 acc (r ++ rj) S H ∧ Ext S5 (fun a => if a = D0 then none else H5 a) S (fun a => if a = D0 then none else H a) ∧ lcGo (lcStep (setD (wipeD ρ vs) is xs) vs1 is1 h1 ft1 fe) (es.take j) = .ok rj, ⟨es.length, by omega, S5, acc, [], by rw [List.append_nil]; exact l5, ?_, rfl⟩, ?_⟩
      · refine Ext.refl fun a o e => ?_
        have : a ≠ D0 := ne_of_none e l5.sD
        show (if a = D0 then none else H5 a) = some o
        rw [if_neg this]
        exact l5.sh a o e
      rintro j k H6 ⟨hjk, S6, acc6, rj, l6, x6, hrj⟩
      have s56 : Same S5 S6 := x6.s
      have wk6 := wk5 S6 H6 s56 l6.sh
      by_cases hj : j < es.length
      · obtain ⟨go1, yl1⟩ := wk6.1 j es[j] (List.getElem?_eq_getElem hj)
        obtain ⟨rj', q1, q2⟩ := lcGo_part j hin
        obtain ⟨o1, q3, q4⟩ := q2 es[j] (List.getElem?_eq_getElem hj)
        rw [hrj] at q1
        cases q1
        have hrl1 : (rj ++ o1).length ≤ o.length := lcGo_le hin (j + 1) q4
        obtain ⟨xs1, b1, p1, p2, p3⟩ := lcStep_ok q3
        have push : ∀ {S' H'}, Ext S6 H6 S' H' → Ext S5 (fun a => if a = D0 then none else H5 a) S' (fun a => if a = D0 then none else H' a) := fun {S' H'} xx => by
          refine x6.trans ⟨xx.s, fun a o e => ?_, fun a o e => ?_, fun a ha => ?_⟩
          · have e : (if a = D0 then none else H6 a) = some o := e
            show (if a = D0 then none else H' a) = some o
            split at e
            · cases e
            · rename_i hn
              rw [if_neg hn]
              exact xx.h a o e
          · have hn : a ≠ D0 := by
              intro z
              subst z
              rw [xx.old a (Live.of l6.hD (fun _ z => nomatch z)), l6.sD] at e
              cases e
            show (if a = D0 then none else H' a) = some o
            rw [if_neg hn]
            exact xx.sh a o e
          · have hn : a ≠ D0 := fun z => ha.1 (if_pos z)
            have ha' : Live (if a = D0 then none else H6 a) := ha
            rw [if_neg hn] at ha'
            exact xx.old a ha'
        refine .inr ⟨go1, fun H' => ∃ S acc, LcAt K S1 H1 D0 acc (r ++ (rj ++ o1)) S H' ∧ Ext S5 (fun a => if a = D0 then none else H5 a) S (fun a => if a = D0 then none else H' a), fun H' ⟨S', acc', l', xx⟩ => ⟨k - 1, by omega, by omega, S', acc', _, l', xx, q4⟩, fun x' H7 hy' => ?_⟩
        obtain ⟨S7, x7, dx7⟩ := yl1 x' H7 hy'
        have l7 := l6.ext x7
        refine hg1.sd S7 H7 x' _ es[j] xs1 _ x7.sh dx7 p1 fun us1 hus1 => ?_
        refine ⟨by rw [wipe_setAll is1 us1 his1, wipe_wipe vs1 vs1 fun _ z => z], ?_⟩
        have rl7 : RelE K S7 H7 (PD.setAll (L2.wipe σ vs) is us) (setD (wipeD ρ vs) is xs) :=
          ⟨x7.sh, rl5.len, fun a y e => let ⟨v, e1, e2⟩ := rl5.dt a y e; ⟨v, e1, (e2.mono s56).mono x7.s⟩, rl5.rw⟩
        have rl8 := (rl7.wipe vs1).setAll is1 us1 xs1 hus1
        refine ht1.sd S7 H7 _ _ _ rl8 ?_
        rw [p2]
        intro b'' S8 H8 x8 eb
        cases eb
        have l8 := l7.ext x8
        rcases p3 with ⟨rfl, rfl⟩ | ⟨rfl, y, ey, rfl⟩
        · refine iteF ?_
          exact ⟨S8, acc6, by rw [List.append_nil]; exact l8, push (x7.trans x8)⟩
        · refine iteT ?_
          refine he.sd S8 H8 _ _ _ (rl8.mono x8) ?_
          rw [ey]
          intro v S9 H9 x9 dv
          have l9 := l8.ext x9
          refine ⟨acc6, l9.hD, ?_, S9, acc6 ++ [v], ?_, ?_⟩
          · rw [l6.dv.length, List.length_append]
            rw [List.length_append] at hrl hrl1
            have : ([y] : List D).length = 1 := rfl
            omega
          · rw [← List.append_assoc]
            exact l9.push hD dv
          · have q := push ((x7.trans x8).trans x9)
            have eqh : (fun a => if a = D0 then none else upd H9 D0 (.lst (acc6 ++ [v])) a) = (fun a => if a = D0 then none else H9 a) := by
              funext a
              by_cases ha : a = D0
              · rw [if_pos ha, if_pos ha]
              · rw [if_neg ha, if_neg ha, upd_ne ha]
            show Ext S5 (fun a => if a = D0 then none else H5 a) S9 (fun a => if a = D0 then none else upd H9 D0 (.lst (acc6 ++ [v])) a)
            rw [eqh]
            exact q
      · have ei : es.take j = es := List.take_of_length_le (by omega)
        have e2 : j = es.length := by omega
        subst e2
        rw [ei, hin] at hrj
        cases hrj
        exact .inl ⟨wk6.2, S6, acc6, l6⟩
  · have ei : ds.take i = ds := List.take_of_length_le (by omega)
    have e2 : i = ds.length := by omega
    subst e2
    rw [ei, hgo] at hr
    cases hr
    obtain ⟨xx, dd⟩ := la.done hD
    exact .inl ⟨wk2.2, hq.ok xx dd⟩
theorem pd_lc2 {vs vs1 : List Nat} (hc : X.calm = true) (hN : X.N.Nodup) (hi : ID K mg X E tg iter wi src) (ok : BlkOk X.N X.env.scope scope own) (hv : ∀ i ∈ vs1, i ∈ own.map (·.2))
    (hg : ∀ (s : Shared) (H : Hp) (C : Addr) (cl : List (Str × Addr)) (fp : List Addr), GD K (Blk X scope s H C cl fp) tg g is h) (ht : ∀ (s : Shared) (H : Hp) (C : Addr) (cl : List (Str × Addr)) (fp : List Addr), TDs K mg (Blk X scope s H C cl fp) E0 ifs tt ft)
    (hi1 : ∀ (s : Shared) (H : Hp) (C : Addr) (cl : List (Str × Addr)) (fp : List Addr), ID K mg (Blk X scope s H C cl fp) E0 tg1 iter1 wi1 src1)
    (hg1 : ∀ (s : Shared) (H : Hp) (C : Addr) (cl : List (Str × Addr)) (fp : List Addr), GD K (Blk X scope s H C cl fp) tg1 g1 is1 h1) (ht1 : ∀ (s : Shared) (H : Hp) (C : Addr) (cl : List (Str × Addr)) (fp : List Addr), TDs K mg (Blk X scope s H C cl fp) E0 ifs1 tt1 ft1)
    (he : ∀ (s : Shared) (H : Hp) (C : Addr) (cl : List (Str × Addr)) (fp : List Addr), PD K mg (Blk X scope s H C cl fp) E0 elt te fe) (hvs : own.map (·.2) = vs := by rfl) (his : ∀ i ∈ is, i ∈ vs := by decide) (his1 : ∀ i ∈ is1, i ∈ vs1 := by decide)
    (hs : ∀ x, foldedSetIterable iter X.env x = pure x := by intro _; rfl) (hs1 : ∀ (env : Env) x, foldedSetIterable iter1 env x = pure x := by intro _ _; rfl) :
    PD K mg X E (.ListComp elt [⟨tg, iter, ifs, 0⟩, ⟨tg1, iter1, ifs1, 0⟩] scope pos) (tLc2 wi g tt wi1 g1 tt1 te vs vs1) (fLc2 src vs is h ft src1 vs1 is1 h1 ft1 fe) :=
  ⟨hvs ▸ pe_lc2 hc hN hi.pi ok hv (fun s H C cl fp => (hg s H C cl fp).pg) (fun s H C cl fp => (ht s H C cl fp).pe) (fun s H C cl fp => (hi1 s H C cl fp).pi) (fun s H C cl fp => (hg1 s H C cl fp).pg) (fun s H C cl fp => (ht1 s H C cl fp).pe) (fun s H C cl fp => (he s H C cl fp).pe) hs hs1,
   fun S H σ ρ Q rl hp => lc2_sd (X := X) (X' := Blk X scope X.s_0 X.H_0 0 [] []) hi (hg _ _ _ _ _) (ht _ _ _ _ _) (hi1 _ _ _ _ _) (hg1 _ _ _ _ _) (ht1 _ _ _ _ _) (he _ _ _ _ _) his his1 S H σ ρ Q rl hp⟩
end
end PD
namespace PD
open PySem L2
/-! ### states of a body: what is shared, what a slot owns -/
def isOwn : Slot → Bool
  | .own _ => true
  | .ownK _ => true
  | .ownT _ => true
  | _ => false
def OwnOk (K : PySem.W.Frag) (S H : Hp) (p : Addr) : Slot → Prop
  | .own xs => ∃ vs, H p = some (.lst vs) ∧ DVs K S vs xs
  | .ownK kvs => ∃ es : List (Key × V), H p = some (.dK es) ∧ es.map (·.1) = kvs.map (·.1) ∧ DVs K S (es.map (·.2)) (kvs.map (·.2))
  | .ownT kvs => ∃ es : List (List Key × V), H p = some (.dT es) ∧ es.map (·.1) = kvs.map (·.1) ∧ DVs K S (es.map (·.2)) (kvs.map (·.2))
  | _ => False
theorem OwnOk.mono {K : PySem.W.Frag} {S H S' H' : Hp} {p : Addr} {s : Slot} (o : OwnOk K S H p s) (e : Same S S') (h : ∀ u, H p = some u → H' p = some u) : OwnOk K S' H' p s := by
  cases s with
  | own xs => obtain ⟨vs, h1, h2⟩ := o; exact ⟨vs, h _ h1, h2.mono e⟩
  | ownK kvs => obtain ⟨vs, h1, h2, h3⟩ := o; exact ⟨vs, h _ h1, h2, h3.mono e⟩
  | ownT kvs => obtain ⟨vs, h1, h2, h3⟩ := o; exact ⟨vs, h _ h1, h2, h3.mono e⟩
  | _ => exact o.elim
theorem OwnOk.some {K : PySem.W.Frag} {S H : Hp} {p : Addr} {s : Slot} (o : OwnOk K S H p s) : ∃ u, H p = some u := by
  cases s with
  | own xs => obtain ⟨vs, h1, h2⟩ := o; exact ⟨_, h1⟩
  | ownK kvs => obtain ⟨vs, h1, h2, h3⟩ := o; exact ⟨_, h1⟩
  | ownT kvs => obtain ⟨vs, h1, h2, h3⟩ := o; exact ⟨_, h1⟩
  | _ => exact o.elim
theorem OwnOk.live {K : PySem.W.Frag} {S H : Hp} {p : Addr} {s : Slot} (o : OwnOk K S H p s) : Live (H p) := by
  cases s with
  | own xs => obtain ⟨vs, h1, h2⟩ := o; exact Live.of h1 (fun _ z => nomatch z)
  | ownK kvs => obtain ⟨vs, h1, h2, h3⟩ := o; exact Live.of h1 (fun _ z => nomatch z)
  | ownT kvs => obtain ⟨vs, h1, h2, h3⟩ := o; exact Live.of h1 (fun _ z => nomatch z)
  | _ => exact o.elim
structure Rel (K : PySem.W.Frag) (S0 H0 S H : Hp) (σ : L2.St) (ρ : DEnv) : Prop where
  x : Ext S0 H0 S H
  len : σ.length = ρ.length
  dt : ∀ (i : Nat) (y : D), ρ[i]? = some (Slot.d y) → ∃ v, σ[i]? = some (some v) ∧ DV K S v y
  rw : ∀ (i : Nat) (v : V), ρ[i]? = some (Slot.raw v) → σ[i]? = some (some v)
  own : ∀ (i : Nat) (s : Slot), ρ[i]? = some s → isOwn s = true → ∃ p, σ[i]? = some (some (.ref p)) ∧ S p = none ∧ H0 p = none ∧ OwnOk K S H p s
  dis : ∀ (i j : Nat) (s s' : Slot) (p : Addr), ρ[i]? = some s → ρ[j]? = some s' → isOwn s = true → isOwn s' = true → σ[i]? = some (some (.ref p)) → σ[j]? = some (some (.ref p)) → i = j
def view : Slot → Slot
  | .own xs => .d (.list xs)
  | .ownK kvs => .d (.dict (kvs.map fun e => (kD e.1, e.2)))
  | .ownT kvs => .d (.dict (kvs.map fun e => (.tuple (e.1.map kD), e.2)))
  | s => s
def viewAll (ρ : DEnv) : DEnv := ρ.map view
section
variable {K : PySem.W.Frag} {S0 H0 S H S' H' : Hp} {σ : L2.St} {ρ : DEnv}
theorem Rel.relE (r : Rel K S0 H0 S H σ ρ) : RelE K S H σ ρ := ⟨r.x.sh, r.len, r.dt, r.rw⟩
theorem DVp_of {K : PySem.W.Frag} {S : Hp} {κ : Type} (f : κ → D) : ∀ {vs : List V} {kvs : List (κ × D)}, DVs K S vs (kvs.map (·.2)) → DVp K S vs (kvs.map fun e => (f e.1, e.2))
  | [], [], _ => by rw [List.map_nil, DVp]; trivial
  | v :: vs, e :: kvs, h => by
    rw [List.map_cons, DVp]
    exact ⟨h.1, DVp_of f (vs := vs) (kvs := kvs) h.2⟩
  | [], _ :: _, h => h.elim
  | _ :: _, [], h => h.elim
theorem own_dv {p : Addr} {s : Slot} {y : D} (o : OwnOk K S H p s) (e : view s = .d y) (hs : isOwn s = true) (T : Hp) (st : Same S T) (ht : ∀ u, H p = some u → T p = some u) : DV K T (.ref p) y := by
  cases s with
  | own xs =>
    obtain ⟨vs, h1, h2⟩ := o
    cases e
    exact ⟨p, vs, rfl, ls_of (ht _ h1), h2.mono st⟩
  | ownK kvs =>
    obtain ⟨vs, h1, h2, h3⟩ := o
    cases e
    refine ⟨p, rfl, .inl ⟨vs, .inl (ht _ h1), ?_, DVp_of _ (h3.mono st)⟩⟩
    have := congrArg (List.map kD) h2
    simp only [List.map_map] at this ⊢
    exact this.symm
  | ownT kvs =>
    obtain ⟨vs, h1, h2, h3⟩ := o
    cases e
    refine ⟨p, rfl, .inr ⟨vs, .inl (ht _ h1), ?_, DVp_of (fun k : List Key => PyData.tuple (k.map kD)) (h3.mono st)⟩⟩
    have := congrArg (List.map fun k : List Key => PyData.tuple (k.map kD)) h2
    simp only [List.map_map] at this ⊢
    exact this.symm
  | _ => cases hs
theorem view_d {s : Slot} {y : D} (e : view s = .d y) : (isOwn s = true) ∨ s = .d y := by
  cases s with
  | un => cases e
  | d x => exact .inr e
  | own xs => exact .inl rfl
  | ownK kvs => exact .inl rfl
  | ownT kvs => exact .inl rfl
  | raw v => cases e
theorem view_raw {s : Slot} {v : V} (e : view s = .raw v) : s = .raw v := by
  cases s with
  | raw w => exact e
  | _ => cases e
/-- all that is tracked, read: nothing is owned for the while -/
theorem Rel.relV (r : Rel K S0 H0 S H σ ρ) : RelE K H H σ (viewAll ρ) := by
  refine ⟨Same.refl H, by unfold viewAll; rw [List.length_map]; exact r.len, fun i y e => ?_, fun i v e => ?_⟩
  · unfold viewAll at e
    rw [List.getElem?_map] at e
    cases e1 : ρ[i]? with
    | none => rw [e1] at e; cases e
    | some s =>
      rw [e1] at e
      have e2 : view s = .d y := Option.some.inj e
      rcases view_d e2 with hs | hs
      · obtain ⟨p, h1, h2, h3, h4⟩ := r.own i s e1 hs
        exact ⟨_, h1, own_dv h4 e2 hs H r.x.sh fun _ z => z⟩
      · rw [hs] at e1
        obtain ⟨v, h1, h2⟩ := r.dt i y e1
        exact ⟨v, h1, h2.mono r.x.sh⟩
  · unfold viewAll at e
    rw [List.getElem?_map] at e
    cases e1 : ρ[i]? with
    | none => rw [e1] at e; cases e
    | some s =>
      rw [e1] at e
      have e2 : view s = .raw v := Option.some.inj e
      rw [view_raw e2] at e1
      exact r.rw i v e1
theorem Rel.ext (r : Rel K S0 H0 S H σ ρ) (y : Ext S H S' H') : Rel K S0 H0 S' H' σ ρ :=
  ⟨r.x.trans y, r.len, fun i z e => let ⟨v, h1, h2⟩ := r.dt i z e; ⟨v, h1, h2.mono y.s⟩, r.rw, fun i s e hs => by
    obtain ⟨p, h1, h2, h3, h4⟩ := r.own i s e hs
    obtain ⟨u, hu⟩ := h4.some
    exact ⟨p, h1, by rw [y.old p h4.live]; exact h2, h3, h4.mono y.s fun _ z => y.h _ _ z⟩, r.dis⟩
theorem Rel.grow (r : Rel K S0 H0 S H σ ρ) (y : Same H H') : Rel K S0 H0 S H' σ ρ :=
  ⟨⟨r.x.s, r.x.h.trans y, r.x.sh.trans y, r.x.old⟩, r.len, r.dt, r.rw, fun i s e hs => by
    obtain ⟨p, h1, h2, h3, h4⟩ := r.own i s e hs
    exact ⟨p, h1, h2, h3, h4.mono (Same.refl _) fun _ z => y _ _ z⟩, r.dis⟩
theorem set_at {α : Type} {l : List α} {i j : Nat} {x y : α} (e : (l.set i x)[j]? = some y) : (i = j ∧ i < l.length ∧ x = y) ∨ (i ≠ j ∧ l[j]? = some y) := by
  by_cases hj : i = j
  · subst hj
    by_cases hi : i < l.length
    · rw [List.getElem?_set_self hi] at e
      exact .inl ⟨rfl, hi, Option.some.inj e⟩
    · rw [List.getElem?_eq_none (by rw [List.length_set]; omega)] at e
      cases e
  · rw [List.getElem?_set_ne hj] at e
    exact .inr ⟨hj, e⟩
theorem Rel.setV (r : Rel K S0 H0 S H σ ρ) {i : Nat} {v : V} {y : D} (h : DV K S v y) : Rel K S0 H0 S H (σ.set i (some v)) (ρ.set i (.d y)) := by
  have hl := r.len
  refine ⟨r.x, by rw [List.length_set, List.length_set]; exact hl, fun j z e => ?_, fun j z e => ?_, fun j s e hs => ?_, fun j k s s' p e1 e2 h1 h2 g1 g2 => ?_⟩
  · rcases set_at e with ⟨rfl, hi, e⟩ | ⟨hj, e⟩
    · cases e
      exact ⟨v, List.getElem?_set_self (by omega), h⟩
    · rw [List.getElem?_set_ne hj]
      exact r.dt j z e
  · rcases set_at e with ⟨rfl, hi, e⟩ | ⟨hj, e⟩
    · cases e
    · rw [List.getElem?_set_ne hj]
      exact r.rw j z e
  · rcases set_at e with ⟨rfl, hi, e⟩ | ⟨hj, e⟩
    · subst e
      cases hs
    · rw [List.getElem?_set_ne hj]
      exact r.own j s e hs
  · rcases set_at e1 with ⟨rfl, hi, e1⟩ | ⟨hj, e1⟩
    · subst e1
      cases h1
    · rcases set_at e2 with ⟨rfl, hi, e2⟩ | ⟨hk, e2⟩
      · subst e2
        cases h2
      · rw [List.getElem?_set_ne hj] at g1
        rw [List.getElem?_set_ne hk] at g2
        exact r.dis j k s s' p e1 e2 h1 h2 g1 g2
theorem Rel.setAll (is : List Nat) : ∀ (vs : List V) (ds : List D) {σ : L2.St} {ρ : DEnv}, Rel K S0 H0 S H σ ρ → DVs K S vs ds → Rel K S0 H0 S H (PD.setAll σ is vs) (setD ρ is ds) := by
  induction is with
  | nil => intro vs ds σ ρ r _; cases vs <;> cases ds <;> exact r
  | cons i is ih =>
    intro vs ds σ ρ r h
    cases vs with
    | nil =>
      cases ds with
      | nil => exact r
      | cons _ _ => exact h.elim
    | cons v vs =>
      cases ds with
      | nil => exact h.elim
      | cons d ds => exact ih vs ds (r.setV h.1) h.2
/-- a slot takes what is new and owned -/
theorem Rel.setOwn (r : Rel K S0 H0 S H σ ρ) {i : Nat} {p : Addr} {s : Slot} (hs : isOwn s = true) (h1 : S p = none) (h2 : H0 p = none) (h3 : OwnOk K S H p s) (h4 : ∀ (j : Nat) (s' : Slot), ρ[j]? = some s' → isOwn s' = true → σ[j]? ≠ some (some (.ref p))) :
    Rel K S0 H0 S H (σ.set i (some (.ref p))) (ρ.set i s) := by
  have hl := r.len
  refine ⟨r.x, by rw [List.length_set, List.length_set]; exact hl, fun j z e => ?_, fun j z e => ?_, fun j s' e hs' => ?_, fun j k s1 s2 q e1 e2 k1 k2 g1 g2 => ?_⟩
  · rcases set_at e with ⟨rfl, hi, e⟩ | ⟨hj, e⟩
    · subst e
      cases hs
    · rw [List.getElem?_set_ne hj]
      exact r.dt j z e
  · rcases set_at e with ⟨rfl, hi, e⟩ | ⟨hj, e⟩
    · subst e
      cases hs
    · rw [List.getElem?_set_ne hj]
      exact r.rw j z e
  · rcases set_at e with ⟨rfl, hi, e⟩ | ⟨hj, e⟩
    · subst e
      exact ⟨p, List.getElem?_set_self (by omega), h1, h2, h3⟩
    · rw [List.getElem?_set_ne hj]
      exact r.own j s' e hs'
  · rcases set_at e1 with ⟨rfl, hi, e1⟩ | ⟨hj, e1⟩
    · rcases set_at e2 with ⟨z, _, _⟩ | ⟨hk, e2⟩
      · exact z
      · rw [List.getElem?_set_self (by omega)] at g1
        rw [List.getElem?_set_ne hk] at g2
        cases g1
        exact absurd g2 (h4 k s2 e2 k2)
    · rcases set_at e2 with ⟨rfl, hi, e2⟩ | ⟨hk, e2⟩
      · rw [List.getElem?_set_self (by omega)] at g2
        rw [List.getElem?_set_ne hj] at g1
        cases g2
        exact absurd g1 (h4 j s1 e1 k1)
      · rw [List.getElem?_set_ne hj] at g1
        rw [List.getElem?_set_ne hk] at g2
        exact r.dis j k s1 s2 q e1 e2 k1 k2 g1 g2
/-- what a slot owns is changed -/
theorem Rel.mut (r : Rel K S0 H0 S H σ ρ) {i : Nat} {p : Addr} {s s' : Slot} {o : HO} (e : ρ[i]? = some s) (hs : isOwn s = true) (hs' : isOwn s' = true) (hp : σ[i]? = some (some (.ref p))) (h3 : OwnOk K S (upd H p o) p s') :
    Rel K S0 H0 S (upd H p o) σ (ρ.set i s') := by
  have hl := r.len
  obtain ⟨p', g1, g2, g3, g4⟩ := r.own i s e hs
  have ep : p' = p := by
    rw [hp] at g1
    cases g1
    rfl
  subst ep
  have il : i < ρ.length := (List.getElem?_eq_some_iff.mp e).1
  refine ⟨⟨r.x.s, fun b u q => ?_, fun b u q => ?_, r.x.old⟩, by rw [List.length_set]; exact hl, fun j z e' => ?_, fun j z e' => ?_, fun j s2 e' hs2 => ?_, fun j k s1 s2 q e1 e2 k1 k2 q1 q2 => ?_⟩
  · rw [upd_ne (ne_of_none q g3)]
    exact r.x.h b u q
  · rw [upd_ne (ne_of_none q g2)]
    exact r.x.sh b u q
  · rcases set_at e' with ⟨rfl, hi, e'⟩ | ⟨hj, e'⟩
    · subst e'
      cases hs'
    · exact r.dt j z e'
  · rcases set_at e' with ⟨rfl, hi, e'⟩ | ⟨hj, e'⟩
    · subst e'
      cases hs'
    · exact r.rw j z e'
  · rcases set_at e' with ⟨rfl, hi, e'⟩ | ⟨hj, e'⟩
    · subst e'
      exact ⟨p', hp, g2, g3, h3⟩
    · obtain ⟨q, q1, q2, q3, q4⟩ := r.own j s2 e' hs2
      have hq : q ≠ p' := fun z => hj (by
        subst z
        exact r.dis i j s s2 q e e' hs hs2 hp q1)
      exact ⟨q, q1, q2, q3, q4.mono (Same.refl _) fun u z => by rw [upd_ne hq]; exact z⟩
  · have w1 : ∃ t, ρ[j]? = some t ∧ isOwn t = true := by
      rcases set_at e1 with ⟨rfl, hi, e1⟩ | ⟨hj, e1⟩
      · exact ⟨s, e, hs⟩
      · exact ⟨s1, e1, k1⟩
    have w2 : ∃ t, ρ[k]? = some t ∧ isOwn t = true := by
      rcases set_at e2 with ⟨rfl, hi, e2⟩ | ⟨hj, e2⟩
      · exact ⟨s, e, hs⟩
      · exact ⟨s2, e2, k2⟩
    obtain ⟨t1, f1, f2⟩ := w1
    obtain ⟨t2, f3, f4⟩ := w2
    exact r.dis j k t1 t2 q f1 f3 f2 f4 q1 q2
/-- a slot gives up what it owns: it is shared -/
def frz1 (ρ : DEnv) (i : Nat) : DEnv := match ρ[i]? with
  | some s => ρ.set i (view s)
  | none => ρ
def frz (ρ : DEnv) : List Nat → DEnv
  | [] => ρ
  | i :: is => frz (frz1 ρ i) is
theorem Rel.frz1 (r : Rel K S0 H0 S H σ ρ) (i : Nat) : ∃ S', Same S S' ∧ Rel K S0 H0 S' H σ (PD.frz1 ρ i) := by
  unfold PD.frz1
  cases e : ρ[i]? with
  | none => exact ⟨S, Same.refl _, r⟩
  | some s =>
    show ∃ S', Same S S' ∧ Rel K S0 H0 S' H σ (ρ.set i (view s))
    by_cases hs : isOwn s = true
    · obtain ⟨p, g1, g2, g3, g4⟩ := r.own i s e hs
      obtain ⟨u, hu⟩ := g4.some
      have sm : Same S (upd S p u) := same_upd g2
      have il : i < ρ.length := (List.getElem?_eq_some_iff.mp e).1
      refine ⟨upd S p u, sm, ⟨r.x.s.trans sm, r.x.h, fun b o q => ?_, fun a ha => ?_⟩, by rw [List.length_set]; exact r.len, fun j z e' => ?_, fun j z e' => ?_, fun j s2 e' hs2 => ?_, fun j k s1 s2 q e1 e2 k1 k2 q1 q2 => ?_⟩
      · by_cases hb : b = p
        · subst hb
          rw [upd_same] at q
          rw [hu]
          exact q
        · rw [upd_ne hb] at q
          exact r.x.sh b o q
      · rw [upd_ne (fun z => ha.1 (by rw [z]; exact g3))]
        exact r.x.old a ha
      · rcases set_at e' with ⟨rfl, hi, e'⟩ | ⟨hj, e'⟩
        · exact ⟨_, g1, own_dv g4 e' hs _ sm fun v hv => by rw [upd_same]; rw [hu] at hv; exact hv⟩
        · obtain ⟨v, h1, h2⟩ := r.dt j z e'
          exact ⟨v, h1, h2.mono sm⟩
      · rcases set_at e' with ⟨rfl, hi, e'⟩ | ⟨hj, e'⟩
        · have := view_raw e'
          subst this
          cases hs
        · exact r.rw j z e'
      · rcases set_at e' with ⟨rfl, hi, e'⟩ | ⟨hj, e'⟩
        · subst e'
          cases s <;> first | cases hs2 | cases hs
        · obtain ⟨q, q1, q2, q3, q4⟩ := r.own j s2 e' hs2
          have hq : q ≠ p := fun z => hj (by
            subst z
            exact r.dis i j s s2 q e e' hs hs2 g1 q1)
          exact ⟨q, q1, by rw [upd_ne hq]; exact q2, q3, q4.mono sm fun _ z => z⟩
      · have w1 : i ≠ j ∧ ρ[j]? = some s1 := by
          rcases set_at e1 with ⟨rfl, hi, e1⟩ | h
          · subst e1
            cases s <;> first | cases k1 | cases hs
          · exact h
        have w2 : i ≠ k ∧ ρ[k]? = some s2 := by
          rcases set_at e2 with ⟨rfl, hi, e2⟩ | h
          · subst e2
            cases s <;> first | cases k2 | cases hs
          · exact h
        exact r.dis j k s1 s2 q w1.2 w2.2 k1 k2 q1 q2
    · have ev : view s = s := by
        cases s <;> first | rfl | exact absurd rfl hs
      rw [ev]
      have es : ρ.set i s = ρ := by
        obtain ⟨h1, h2⟩ := List.getElem?_eq_some_iff.mp e
        rw [← h2, List.set_getElem_self]
      rw [es]
      exact ⟨S, Same.refl _, r⟩
theorem Rel.frz (is : List Nat) : ∀ {S : Hp} {ρ : DEnv}, Rel K S0 H0 S H σ ρ → ∃ S', Same S S' ∧ Rel K S0 H0 S' H σ (PD.frz ρ is) := by
  induction is with
  | nil => intro S ρ r; exact ⟨S, Same.refl _, r⟩
  | cons i is ih =>
    intro S ρ r
    obtain ⟨S1, s1, r1⟩ := r.frz1 i
    obtain ⟨S2, s2, r2⟩ := ih r1
    exact ⟨S2, s1.trans s2, r2⟩
end
end PD
namespace PD
open PySem L2
/-! ### statements -/
inductive SR where
  | next (ρ : DEnv)
  | ret (d : D)
  | err (c : Str)
  | brk (ρ : DEnv)
  | cont (ρ : DEnv)
  | bad
def SPost (K : PySem.W.Frag) (mg : Str → Option Value) (E : XK) (S0 H0 S : Hp) (r : SR) (N : Ends) : Prop := match r with
  | .next ρ => ∀ S' H' σ', Same S S' → Rel K S0 H0 S' H' σ' ρ → N.nx σ' H'
  | .ret d => ∀ v S' H', Ext S0 H0 S' H' → DV K S' v d → N.rt v H'
  | .err c => ∀ u H', mg c = some u → Same H0 H' → E u none H'
  | .brk ρ => ∀ S' H' σ', Same S S' → Rel K S0 H0 S' H' σ' ρ → N.bk σ' H'
  | .cont ρ => ∀ S' H' σ', Same S S' → Rel K S0 H0 S' H' σ' ρ → N.ct σ' H'
  | .bad => False
theorem SPost.mono {K : PySem.W.Frag} {mg : Str → Option Value} {E : XK} {S0 H0 S S1 : Hp} {r : SR} {N : Ends} (h : SPost K mg E S0 H0 S r N) (e : Same S S1) : SPost K mg E S0 H0 S1 r N := by
  cases r with
  | next ρ => exact fun S' H' σ' e' q => h S' H' σ' (e.trans e') q
  | ret d => exact h
  | err c => exact h
  | brk ρ => exact fun S' H' σ' e' q => h S' H' σ' (e.trans e') q
  | cont ρ => exact fun S' H' σ' e' q => h S' H' σ' (e.trans e') q
  | bad => exact h
structure SD (K : PySem.W.Frag) (mg : Str → Option Value) (X : Cx) (E : XK) (st : Stmt) (t : TS) (F : DEnv → SR) : Prop where
  ps : PS X st t
  sd : ∀ (S0 H0 S H : Hp) (σ : L2.St) (ρ : DEnv) (N : Ends), Rel K S0 H0 S H σ ρ → SPost K mg E S0 H0 S (F ρ) N → t N σ H
structure SDs (K : PySem.W.Frag) (mg : Str → Option Value) (X : Cx) (E : XK) (st : List Stmt) (t : TS) (F : DEnv → SR) : Prop where
  ps : PSs X st t
  sd : ∀ (S0 H0 S H : Hp) (σ : L2.St) (ρ : DEnv) (N : Ends), Rel K S0 H0 S H σ ρ → SPost K mg E S0 H0 S (F ρ) N → t N σ H
def SR.seq (r : SR) (k : DEnv → SR) : SR := match r with
  | .next ρ => k ρ
  | .ret d => .ret d
  | .err c => .err c
  | .brk ρ => .brk ρ
  | .cont ρ => .cont ρ
  | .bad => .bad
def ofRes {α : Type} (r : Res α) (k : α → SR) : SR := match r with
  | .ok a => k a
  | .err c => .err c
  | .bad => .bad
section
variable {K : PySem.W.Frag} {mg : Str → Option Value} {X : Cx} {E : XK} {st : Stmt} {rest : List Stmt} {t u : TS} {e : Expr} {te : TE} {pos : Pos} {F G : DEnv → SR} {f : DEnv → Res D}
def sNext : DEnv → SR := fun ρ => .next ρ
def sSeq (F G : DEnv → SR) : DEnv → SR := fun ρ => (F ρ).seq G
theorem sds_nil : SDs K mg X E [] tNext sNext := ⟨pss_nil, fun S0 H0 S H σ ρ N r h => h S H σ (Same.refl _) r⟩
theorem sds_one (h : SD K mg X E st t F) : SDs K mg X E [st] t F := ⟨pss_one h.ps, h.sd⟩
theorem sds_cons (h1 : SD K mg X E st t F) (h2 : SDs K mg X E rest u G) : SDs K mg X E (st :: rest) (tSeq t u) (sSeq F G) := ⟨pss_cons h1.ps h2.ps, fun S0 H0 S H σ ρ N r h => by
  refine h1.sd S0 H0 S H σ ρ _ r ?_
  unfold sSeq at h
  cases e : F ρ with
  | next ρ1 =>
    rw [e] at h
    intro S' H' σ' e' r'
    exact h2.sd S0 H0 S' H' σ' ρ1 N r' (SPost.mono h e')
  | ret d => rw [e] at h; exact h
  | err c => rw [e] at h; exact h
  | brk ρ1 => rw [e] at h; exact h
  | cont ρ1 => rw [e] at h; exact h
  | bad => rw [e] at h; exact h⟩
/-- from what is wanted of a statement to what is wanted of its expression -/
theorem post_of {α W : Type} {K : PySem.W.Frag} {mg : Str → Option Value} {S0 H0 S H T : Hp} {σ : L2.St} {ρ : DEnv} {N : Ends} {R : Hp → W → α → Prop} {r : Res α} {k : α → SR} {Q : W → Hp → Prop} (rl : Rel K S0 H0 S H σ ρ) (h : SPost K mg E S0 H0 S (ofRes r k) N)
    (hk : ∀ a w S' H', r = .ok a → Ext T H S' H' → R S' w a → SPost K mg E S0 H0 S (k a) N → Q w H') : PostG mg E T H R r Q := by
  cases r with
  | ok a => exact fun w S' H' x q => hk a w S' H' rfl x q h
  | err c => exact fun u H' e sm => h u H' e (rl.x.h.trans sm)
  | bad => exact h
def sExpr (f : DEnv → Res D) : DEnv → SR := fun ρ => ofRes (f ρ) fun _ => .next ρ
theorem sd_expr (he : PD K mg X E e te f) (hs : swapsWith e none pos.line X.env = pure false := by rfl) : SD K mg X E (.Expr e pos) (tDrop te) (sExpr f) := ⟨ps_expr he.pe hs, fun S0 H0 S H σ ρ N r h =>
  he.sd S H σ ρ _ r.relE (post_of r h fun a w S' H' _ x q h => h S' H' σ x.s (r.ext x))⟩
def sRet (f : DEnv → Res D) : DEnv → SR := fun ρ => ofRes (f ρ) fun d => .ret d
theorem sd_ret (he : PD K mg X E e te f) : SD K mg X E (.Return (some e) pos) (tRet te) (sRet f) := ⟨ps_ret he.pe, fun S0 H0 S H σ ρ N r h =>
  he.sd S H σ ρ _ r.relE (post_of r h fun a w S' H' _ x q h => h w S' H' (r.x.trans x) q)⟩
def sRetN : DEnv → SR := fun _ => .ret .none
theorem sd_retN : SD K mg X E (.Return none pos) tRetN sRetN := ⟨ps_retN, fun S0 H0 S H σ ρ N r h => h .non S H r.x rfl⟩
theorem sd_pass : SD K mg X E (.Pass pos) tNext sNext := ⟨ps_pass, fun S0 H0 S H σ ρ N r h => h S H σ (Same.refl _) r⟩
def sIf (g : DEnv → Res Bool) (F G : DEnv → SR) : DEnv → SR := fun ρ => ofRes (g (viewAll ρ)) fun b => if b = true then F ρ else G ρ
theorem sd_if {c : Expr} {a b : List Stmt} {tc : TT} {g : DEnv → Res Bool} (hc : TD K mg X E c tc g) (ha : SDs K mg X E a t F) (hb : SDs K mg X E b u G) : SD K mg X E (.If c a b pos) (tIfS tc t u) (sIf g F G) := ⟨ps_if hc.pe ha.ps hb.ps, fun S0 H0 S H σ ρ N r h =>
  hc.sd H H σ (viewAll ρ) _ r.relV (post_of r h fun k w S' H' _ x q h => by
    cases q
    have r' := r.grow x.h
    cases k with
    | true => exact ha.sd S0 H0 S H' σ ρ N r' h
    | false => exact hb.sd S0 H0 S H' σ ρ N r' h)⟩
/-! ### assignments -/
def sAsg (f : DEnv → Res D) (is : List Nat) (hh : D → Option (List D)) : DEnv → SR := fun ρ => ofRes (f ρ) fun d => match hh d with
  | some ds => .next (setD ρ is ds)
  | none => .bad
theorem asg_sd {g : TG} {is : List Nat} {hh : D → Option (List D)} {tg : Expr} (he : PD K mg X E e te f) (hg : GD K X tg g is hh) (S0 H0 S H : Hp) (σ : L2.St) (ρ : DEnv) (N : Ends) (r : Rel K S0 H0 S H σ ρ) (h : SPost K mg E S0 H0 S (sAsg f is hh ρ) N) : tAsg te g N σ H :=
  he.sd S H σ ρ _ r.relE (post_of r h fun a w S' H' _ x q h => by
    cases e1 : hh a with
    | none => rw [e1] at h; exact h.elim
    | some ds =>
      rw [e1] at h
      exact hg.sd S' H' w σ a ds _ x.sh q e1 fun vs hv => h S' H' _ x.s ((r.ext x).setAll is vs ds hv))
theorem sd_asg {tg : Expr} {g : TG} {is : List Nat} {hh : D → Option (List D)} (he : PD K mg X E e te f) (hg : GD K X tg g is hh) (hs : swapsWithSole [tg] e pos.line X.env = pure false := by rfl) (hw : swappedStores [tg] e X.env = pure none := by rfl) (h1 : (assignEach [tg] X.env).map (·.2) = [assign tg X.env] := by rfl) :
    SD K mg X E (.Assign [tg] e pos) (tAsg te g) (sAsg f is hh) := ⟨ps_asg he.pe hg.pg hs hw h1, asg_sd he hg⟩
theorem sd_set {i : Nat} {x : Str} {pos' : Pos} (he : PD K mg X E e te f) (hN : X.N.Nodup) (hi : X.N[i]? = some x) (hx : Loc X.env.scope x := by first | exact Or.inl rfl | exact Or.inr rfl) (hs : swapsWith e (some (.Name x pos')) pos.line X.env = pure false := by rfl) (hf : X.fn x = true ∨ X.env.scope.names.lookup x = some .local := by first | exact .inl rfl | exact .inr rfl | assumption) :
    SD K mg X E (.Assign [.Name x pos'] e pos) (tAsg te (gName i)) (sAsg f [i] hOne) := ⟨ps_set hN hi hx he.pe hs hf, asg_sd he (gd_name (pg_name (pos := pos') hN hi hx hf))⟩
/-- x = [..] on one line -/
theorem sd_setLc {i : Nat} {vs : List Nat} {y : Str} {py : Pos} {elt tg iter : Expr} {ifs : List Expr} {scope : Scope} {own : List (Str × Nat)} {spos : Pos} {wi : TI} {g : TG} {tt : TT} {src : DEnv → Res (List D)} {is : List Nat} {h : D → Option (List D)} {ft : DEnv → Res Bool} {fe : DEnv → Res D} (hc : X.calm = true) (hN : X.N.Nodup) (hy : X.N[i]? = some y) (hyl : X.env.scope.names.lookup y = some .local)
    (hsw : swapsWith (.ListComp elt [⟨tg, iter, ifs, 0⟩] scope pos) (some (.Name y py)) spos.line X.env = pure true) (hi : ID K mg X E tg iter wi src) (ok : BlkOk X.N X.env.scope scope own)
    (hg : ∀ (s : Shared) (H : Hp) (C : Addr) (cl : List (Str × Addr)) (fp : List Addr), GD K (Blk X scope s H C cl fp) tg g is h) (ht : ∀ (s : Shared) (H : Hp) (C : Addr) (cl : List (Str × Addr)) (fp : List Addr), TDs K mg (Blk X scope s H C cl fp) E0 ifs tt ft)
    (he : ∀ (s : Shared) (H : Hp) (C : Addr) (cl : List (Str × Addr)) (fp : List Addr), PD K mg (Blk X scope s H C cl fp) E0 elt te fe) (hvs : own.map (·.2) = vs := by rfl) (his : ∀ i ∈ is, i ∈ vs := by decide) (hs : ∀ x, foldedSetIterable iter X.env x = pure x := by intro _; rfl) :
    SD K mg X E (.Assign [.Name y py] (.ListComp elt [⟨tg, iter, ifs, 0⟩] scope pos) spos) (tAsg (tLc wi g tt te vs) (gName i)) (sAsg (fLc src vs is h ft fe) [i] hOne) :=
  ⟨hvs ▸ ps_setLc hc hN hy hyl hsw hi.pi ok (fun s H C cl fp => (hg s H C cl fp).pg) (fun s H C cl fp => (ht s H C cl fp).pe) (fun s H C cl fp => (he s H C cl fp).pe) hs, asg_sd (pd_lc (pos := pos) hc hN hi ok hg ht he hvs his hs) (gd_name (pg_name (pos := py) hN hy (.inl hyl) (.inr hyl)))⟩
theorem sd_setLc2 {i : Nat} {vs : List Nat} {y : Str} {py : Pos} {elt tg iter tg1 iter1 : Expr} {ifs ifs1 : List Expr} {scope : Scope} {own : List (Str × Nat)} {spos : Pos} {wi wi1 : TI} {g g1 : TG} {tt tt1 : TT} {src src1 : DEnv → Res (List D)} {is is1 : List Nat} {h h1 : D → Option (List D)} {ft ft1 : DEnv → Res Bool} {fe : DEnv → Res D} {vs1 : List Nat} (hc : X.calm = true) (hN : X.N.Nodup) (hy : X.N[i]? = some y) (hyl : X.env.scope.names.lookup y = some .local)
    (hsw : swapsWith (.ListComp elt [⟨tg, iter, ifs, 0⟩, ⟨tg1, iter1, ifs1, 0⟩] scope pos) (some (.Name y py)) spos.line X.env = pure true) (hi : ID K mg X E tg iter wi src) (ok : BlkOk X.N X.env.scope scope own) (hv : ∀ i ∈ vs1, i ∈ own.map (·.2))
    (hg : ∀ (s : Shared) (H : Hp) (C : Addr) (cl : List (Str × Addr)) (fp : List Addr), GD K (Blk X scope s H C cl fp) tg g is h) (ht : ∀ (s : Shared) (H : Hp) (C : Addr) (cl : List (Str × Addr)) (fp : List Addr), TDs K mg (Blk X scope s H C cl fp) E0 ifs tt ft)
    (hi1 : ∀ (s : Shared) (H : Hp) (C : Addr) (cl : List (Str × Addr)) (fp : List Addr), ID K mg (Blk X scope s H C cl fp) E0 tg1 iter1 wi1 src1)
    (hg1 : ∀ (s : Shared) (H : Hp) (C : Addr) (cl : List (Str × Addr)) (fp : List Addr), GD K (Blk X scope s H C cl fp) tg1 g1 is1 h1) (ht1 : ∀ (s : Shared) (H : Hp) (C : Addr) (cl : List (Str × Addr)) (fp : List Addr), TDs K mg (Blk X scope s H C cl fp) E0 ifs1 tt1 ft1)
    (he : ∀ (s : Shared) (H : Hp) (C : Addr) (cl : List (Str × Addr)) (fp : List Addr), PD K mg (Blk X scope s H C cl fp) E0 elt te fe) (hvs : own.map (·.2) = vs := by rfl) (his : ∀ i ∈ is, i ∈ vs := by decide) (his1 : ∀ i ∈ is1, i ∈ vs1 := by decide)
    (hs : ∀ x, foldedSetIterable iter X.env x = pure x := by intro _; rfl) (hs1 : ∀ (env : Env) x, foldedSetIterable iter1 env x = pure x := by intro _ _; rfl) :
    SD K mg X E (.Assign [.Name y py] (.ListComp elt [⟨tg, iter, ifs, 0⟩, ⟨tg1, iter1, ifs1, 0⟩] scope pos) spos) (tAsg (tLc2 wi g tt wi1 g1 tt1 te vs vs1) (gName i)) (sAsg (fLc2 src vs is h ft src1 vs1 is1 h1 ft1 fe) [i] hOne) :=
  ⟨hvs ▸ ps_setLc2 hc hN hy hyl hsw hi.pi ok hv (fun s H C cl fp => (hg s H C cl fp).pg) (fun s H C cl fp => (ht s H C cl fp).pe) (fun s H C cl fp => (hi1 s H C cl fp).pi) (fun s H C cl fp => (hg1 s H C cl fp).pg) (fun s H C cl fp => (ht1 s H C cl fp).pe) (fun s H C cl fp => (he s H C cl fp).pe) hs hs1,
   asg_sd (pd_lc2 (pos := pos) hc hN hi ok hv hg ht hi1 hg1 ht1 he hvs his his1 hs hs1) (gd_name (pg_name (pos := py) hN hy (.inl hyl) (.inr hyl)))⟩
/-- what a slot owns is given up ahead of a statement -/
def sFrz (is : List Nat) (F : DEnv → SR) : DEnv → SR := fun ρ => F (frz ρ is)
theorem sd_frz (is : List Nat) (h : SD K mg X E st t F) : SD K mg X E st t (sFrz is F) := ⟨h.ps, fun S0 H0 S H σ ρ N r q => by
  obtain ⟨S', e, r'⟩ := r.frz is
  exact h.sd S0 H0 S' H σ _ N r' (SPost.mono q e)⟩
/-! ### for -/
def forGo (asg : D → DEnv → Option DEnv) (body : DEnv → SR) : List D → DEnv → SR
  | [], ρ => .next ρ
  | d :: ds, ρ => match asg d ρ with
    | none => .bad
    | some ρ1 => match body ρ1 with
      | .next ρ' => forGo asg body ds ρ'
      | .cont ρ' => forGo asg body ds ρ'
      | .brk ρ' => .next ρ'
      | .ret x => .ret x
      | .err c => .err c
      | .bad => .bad
def asgOf (is : List Nat) (hh : D → Option (List D)) (d : D) (ρ : DEnv) : Option DEnv := (hh d).map fun ds => setD ρ is ds
def sFor (src : DEnv → Res (List D)) (is : List Nat) (hh : D → Option (List D)) (body : DEnv → SR) : DEnv → SR := fun ρ => ofRes (src ρ) fun ds => forGo (asgOf is hh) body ds ρ
theorem sd_for {tg iter : Expr} {body : List Stmt} {wi : TI} {g : TG} {tb : TS} {src : DEnv → Res (List D)} {is : List Nat} {hh : D → Option (List D)} {B : DEnv → SR} (hp : PassesOwn (model X.prog X.w) X.A X.env X.xe) (hc : X.calm = true) (hi : ID K mg X E tg iter wi src) (hg : GD K X tg g is hh) (hb : SDs K mg X E body tb B)
    (hps : PS X (.For tg iter body [] pos) (tFor wi g tb)) : SD K mg X E (.For tg iter body [] pos) (tFor wi g tb) (sFor src is hh B) := ⟨hps, fun S0 H0 S H σ ρ N r h => by
  refine hi.sd S H σ ρ _ r.relE (post_of r h fun ds J S1 H1 _ x1 wk h => ?_)
  refine ⟨fun i m σ' H' => i + m = ds.length ∧ ∃ S' ρ', Same S1 S' ∧ Rel K S0 H0 S' H' σ' ρ' ∧ SPost K mg E S0 H0 S' (forGo (asgOf is hh) B (ds.drop i) ρ') N, ⟨ds.length, by omega, S1, ρ, Same.refl _, r.ext x1, SPost.mono h x1.s⟩, ?_⟩
  rintro i m σ2 H2 ⟨him, S2, ρ2, e2, r2, h2⟩
  have wk2 := wk S2 H2 e2 r2.x.sh
  by_cases hil : i < ds.length
  · obtain ⟨go, yl⟩ := wk2.1 i ds[i] (List.getElem?_eq_getElem hil)
    have ed : ds.drop i = ds[i] :: ds.drop (i + 1) := (List.drop_eq_getElem_cons hil)
    rw [ed] at h2
    unfold forGo at h2
    refine .inr ⟨go, fun σ' H' => ∃ S' ρ', Same S1 S' ∧ Rel K S0 H0 S' H' σ' ρ' ∧ SPost K mg E S0 H0 S' (forGo (asgOf is hh) B (ds.drop (i + 1)) ρ') N, fun σ' H' ⟨S', ρ', a1, a2, a3⟩ => ⟨m - 1, by omega, by omega, S', ρ', a1, a2, a3⟩, fun x H3 hy => ?_⟩
    obtain ⟨S3, x3, dx⟩ := yl x H3 hy
    cases e1 : hh ds[i] with
    | none =>
      unfold asgOf at h2
      rw [e1] at h2
      exact h2.elim
    | some xs =>
      have ea : asgOf is hh ds[i] ρ2 = some (setD ρ2 is xs) := by unfold asgOf; rw [e1]; rfl
      rw [ea] at h2
      dsimp only at h2
      refine hg.sd S3 H3 x σ2 ds[i] xs _ x3.sh dx e1 fun vs hv => ?_
      have r3 := (r2.ext x3).setAll is vs xs hv
      refine hb.sd S0 H0 S3 H3 _ _ _ r3 ?_
      have h3 := SPost.mono h2 x3.s
      cases eb : B (setD ρ2 is xs) with
      | next ρ' =>
        rw [eb] at h3
        exact fun S' H' σ' e' r' => ⟨S', ρ', (e2.trans x3.s).trans e', r', SPost.mono h3 e'⟩
      | cont ρ' =>
        rw [eb] at h3
        exact fun S' H' σ' e' r' => ⟨S', ρ', (e2.trans x3.s).trans e', r', SPost.mono h3 e'⟩
      | brk ρ' => rw [eb] at h3; exact h3
      | ret d => rw [eb] at h3; exact h3
      | err c => rw [eb] at h3; exact h3
      | bad => rw [eb] at h3; exact h3
  · have ed : ds.drop i = [] := List.drop_eq_nil_of_le (by omega)
    have e3 : i = ds.length := by omega
    rw [ed] at h2
    refine .inl ⟨by rw [e3]; exact wk2.2, ?_⟩
    exact h2 S2 H2 σ2 (Same.refl _) r2⟩
/-! ### while -/
def whileGo (g : DEnv → Res Bool) (body : DEnv → SR) : Nat → DEnv → SR
  | 0, _ => .bad
  | n + 1, ρ => match g (viewAll ρ) with
    | .bad => .bad
    | .err c => .err c
    | .ok b => if b = true then (match body ρ with
      | .next ρ' => whileGo g body n ρ'
      | .cont ρ' => whileGo g body n ρ'
      | .brk ρ' => .next ρ'
      | .ret x => .ret x
      | .err c => .err c
      | .bad => .bad) else .next ρ
theorem sd_while (n : Nat) {c : Expr} {body : List Stmt} {tc : TT} {tb : TS} {g : DEnv → Res Bool} {B : DEnv → SR} (hp : PassesOwn (model X.prog X.w) X.A X.env X.xe) (hc : TD K mg X E c tc g) (hb : SDs K mg X E body tb B) : SD K mg X E (.While c body [] pos) (tWhile tc tb) (whileGo g B n) :=
  ⟨ps_while hp hc.pe hb.ps, fun S0 H0 S H σ ρ N r h => by
    refine ⟨fun m σ' H' => ∃ S' ρ', Rel K S0 H0 S' H' σ' ρ' ∧ SPost K mg E S0 H0 S' (whileGo g B m ρ') N, ⟨n, S, ρ, r, h⟩, ?_⟩
    rintro m σ2 H2 ⟨S2, ρ2, r2, h2⟩
    cases m with
    | zero => exact h2.elim
    | succ m =>
      unfold whileGo at h2
      refine hc.sd H2 H2 σ2 (viewAll ρ2) _ r2.relV ?_
      cases eg : g (viewAll ρ2) with
      | bad => rw [eg] at h2; exact h2
      | err c =>
        rw [eg] at h2
        exact fun u H' e sm => h2 u H' e (r2.x.h.trans sm)
      | ok b =>
        rw [eg] at h2
        intro w S' H' x q
        cases q
        have r' := r2.grow x.h
        cases b with
        | false => exact h2 S2 H' σ2 (Same.refl _) r'
        | true =>
          dsimp only at h2
          rw [if_pos rfl] at h2
          refine iteT ⟨fun σ' H' => ∃ S' ρ', Rel K S0 H0 S' H' σ' ρ' ∧ SPost K mg E S0 H0 S' (whileGo g B m ρ') N, fun σ' H' q => ⟨m, Nat.lt_succ_self m, q⟩, ?_⟩
          refine hb.sd S0 H0 S2 H' σ2 ρ2 _ r' ?_
          cases eb : B ρ2 with
          | next ρ' =>
            rw [eb] at h2
            exact fun S' H' σ' e' r' => ⟨S', ρ', r', SPost.mono h2 e'⟩
          | cont ρ' =>
            rw [eb] at h2
            exact fun S' H' σ' e' r' => ⟨S', ρ', r', SPost.mono h2 e'⟩
          | brk ρ' => rw [eb] at h2; exact h2
          | ret d => rw [eb] at h2; exact h2
          | err c => rw [eb] at h2; exact h2
          | bad => rw [eb] at h2; exact h2⟩
/-! ### raise -/
def sRaise (c : Str) : DEnv → SR := fun _ => .err c
theorem sd_raise {x m : Str} {j : Nat} {p p2 pos2 : Pos} {C : Addr} (hc : X.calm = true) (tk : Takes X (fun cls d _ H => E cls d H)) (q : PySem.W.excIn X.K C [.type "ValueError", .type "Exception", .type "BaseException", .type "object"] "ValueError.__new__" = true) (gC : X.mg x = some (.ref C)) (kC : PySem.W.keepIn X.K (.ref C) = true)
    (bC : PySem.W.subIn X.K (.ref C) (.type "BaseException") = some true) (tC : PySem.W.typeIn X.K (.ref C) = some (.type "type")) (hg : Gl X x) (hdb : (x == ("__debug__" : Str)) = false := by decide) (hM : X.mg = mg := by rfl) :
    SD K mg X E (.Raise (some (.Call (.Name x p) [.Constant (.str m) j p2] [] pos2)) none pos) (fun _ σ H => E (.ref C) none H) (sRaise x) :=
  ⟨ps_raise hc tk (pmk_own PySem.F.excBase_ValueError q gC kC (raises_own bC tC) hg hdb), fun S0 H0 S H σ ρ N r h => h (.ref C) H (hM ▸ gC) r.x.h⟩
end
end PD
namespace PD
open PySem L2
/-! ### new things for slots -/
def SlotNew (K : PySem.W.Frag) (H S' H' : Hp) (v : V) (s : Slot) : Prop := match s with
  | .d x => DV K S' v x
  | .un => False
  | .raw _ => False
  | s => ∃ p, v = .ref p ∧ S' p = none ∧ H p = none ∧ OwnOk K S' H' p s
def OwnIn (p : Addr) : List V → List Slot → Prop
  | v :: vs, s :: ss => (v = .ref p ∧ isOwn s = true) ∨ OwnIn p vs ss
  | _, _ => False
def SlotsNew (K : PySem.W.Frag) (H S' H' : Hp) : List V → List Slot → Prop
  | [], [] => True
  | v :: vs, s :: ss => SlotNew K H S' H' v s ∧ SlotsNew K H S' H' vs ss ∧ ∀ p, v = .ref p → isOwn s = true → ¬ OwnIn p vs ss
  | _, _ => False
def PostS (K : PySem.W.Frag) (mg : Str → Option Value) (E : XK) (S H : Hp) (r : Res (List Slot)) (Q : List V → Hp → Prop) : Prop := match r with
  | .ok ss => ∀ vs S' H', Ext S H S' H' → SlotsNew K H S' H' vs ss → Q vs H'
  | .err c => ∀ u H', mg c = some u → Same H H' → E u none H'
  | .bad => False
structure ZD (K : PySem.W.Frag) (mg : Str → Option Value) (X : Cx) (E : XK) (es : List Expr) (t : TA) (f : DEnv → Res (List Slot)) : Prop where
  pe : PA X es t
  sd : ∀ (S H : Hp) (σ : L2.St) (ρ : DEnv) (Q : List V → Hp → Prop), RelE K S H σ ρ → PostS K mg E S H (f ρ) Q → t σ H Q
def zNil : DEnv → Res (List Slot) := fun _ => .ok []
def zD (f : DEnv → Res D) (g : DEnv → Res (List Slot)) : DEnv → Res (List Slot) := fun ρ => (f ρ).bind fun x => (g ρ).bind fun xs => .ok (.d x :: xs)
def zL (f : DEnv → Res (List D)) (g : DEnv → Res (List Slot)) : DEnv → Res (List Slot) := fun ρ => (f ρ).bind fun ds => if lenOk ds.length = true then (g ρ).bind fun xs => .ok (.own ds :: xs) else .bad
theorem refs_lt {K : PySem.W.Frag} {H S' H' : Hp} : ∀ {vs : List V} {ss : List Slot} {p : Addr}, SlotsNew K H S' H' vs ss → OwnIn p vs ss → H p = none
  | v :: vs, s :: ss, p, h, hp => by
    obtain ⟨h1, h2, h3⟩ := h
    rcases hp with ⟨rfl, ho⟩ | hp
    · cases s with
      | own xs => obtain ⟨q, e, _, g, _⟩ := h1; cases e; exact g
      | ownK xs => obtain ⟨q, e, _, g, _⟩ := h1; cases e; exact g
      | ownT xs => obtain ⟨q, e, _, g, _⟩ := h1; cases e; exact g
      | _ => cases ho
    · exact refs_lt h2 hp
  | [], [], _, _, hp => hp.elim
  | [], _ :: _, _, h, _ => h.elim
  | _ :: _, [], _, h, _ => h.elim
theorem SlotsNew.weak {K : PySem.W.Frag} {H H1 S' H' : Hp} (e : Same H H1) : ∀ {vs : List V} {ss : List Slot}, SlotsNew K H1 S' H' vs ss → SlotsNew K H S' H' vs ss
  | [], [], _ => trivial
  | v :: vs, s :: ss, h => by
    obtain ⟨h1, h2, h3⟩ := h
    refine ⟨?_, SlotsNew.weak e h2, h3⟩
    cases s with
    | d x => exact h1
    | un => exact h1
    | raw _ => exact h1
    | own xs => obtain ⟨q, e1, e2, g, e3⟩ := h1; exact ⟨q, e1, e2, e.free g, e3⟩
    | ownK xs => obtain ⟨q, e1, e2, g, e3⟩ := h1; exact ⟨q, e1, e2, e.free g, e3⟩
    | ownT xs => obtain ⟨q, e1, e2, g, e3⟩ := h1; exact ⟨q, e1, e2, e.free g, e3⟩
  | [], _ :: _, h => h.elim
  | _ :: _, [], h => h.elim
section
variable {K : PySem.W.Frag} {mg : Str → Option Value} {X : Cx} {E : XK} {e : Expr} {es : List Expr} {te : TE} {t tr : TA} {f : DEnv → Res D} {fa : DEnv → Res (List D)} {g : DEnv → Res (List Slot)} {pos : Pos}
theorem zd_nil : ZD K mg X E [] tNil zNil := ⟨pa_nil, fun S H σ ρ Q rl h => h [] S H (Ext.refl rl.sh) trivial⟩
theorem zd_d (ha : PD K mg X E e te f) (hr : ZD K mg X E es tr g) (hs : starEach (e :: es) X.env = (false, eval e X.env) :: starEach es X.env := by rfl) : ZD K mg X E (e :: es) (tCons te tr) (zD f g) := ⟨pa_cons ha.pe hr.pe hs, fun S H σ ρ Q rl h => by
  refine ha.sd S H σ ρ _ rl ?_
  unfold zD at h
  cases e1 : f ρ with
  | ok x =>
    rw [e1] at h
    intro v S1 H1 x1 d1
    refine hr.sd S1 H1 σ ρ _ (rl.mono x1) ?_
    cases e2 : g ρ with
    | ok ss =>
      rw [e2] at h
      exact fun vs S2 H2 x2 d2 => h (v :: vs) S2 H2 (x1.trans x2) ⟨d1.mono x2.s, d2.weak x1.h, fun p _ z => by cases z⟩
    | err c =>
      rw [e2] at h
      exact fun u H' e sm => h u H' e (x1.h.trans sm)
    | bad => rw [e2] at h; exact h
  | err c => rw [e1] at h; exact h
  | bad => rw [e1] at h; exact h⟩
theorem zd_lst {ls : List Expr} (ha : AD K mg X E ls t fa) (hr : ZD K mg X E es tr g) (hs : starEach (.List ls pos :: es) X.env = (false, eval (.List ls pos) X.env) :: starEach es X.env := by rfl) : ZD K mg X E (.List ls pos :: es) (tCons (tLst t) tr) (zL fa g) := ⟨pa_cons (pe_lst ha.pe) hr.pe hs, fun S H σ ρ Q rl h => by
  refine ha.sd S H σ ρ _ rl ?_
  unfold zL at h
  cases e1 : fa ρ with
  | ok ds =>
    rw [e1, bind_ok] at h
    intro xs S1 H1 x1 d1
    split at h
    · rename_i hz
      refine ⟨by rw [d1.length]; exact lenOk.le hz, fun p hp => ?_⟩
      have sm : Same H1 (upd H1 p (.lst xs)) := same_upd hp
      have rl1 : RelE K S1 (upd H1 p (.lst xs)) σ ρ := ⟨x1.sh.trans sm, rl.len, (rl.mono x1).dt, rl.rw⟩
      refine hr.sd S1 _ σ ρ _ rl1 ?_
      cases e2 : g ρ with
      | ok ss =>
        rw [e2] at h
        refine fun vs S2 H2 x2 d2 => h (.ref p :: vs) S2 H2 ⟨x1.s.trans x2.s, (x1.h.trans sm).trans x2.h, x2.sh, fun a ha => ?_⟩ ⟨⟨p, rfl, ?_, x1.h.free hp, xs, x2.h _ _ upd_same, d1.mono x2.s⟩, d2.weak (x1.h.trans sm), fun q e _ hq => ?_⟩
        · exact (x2.old a ((ha.same x1.h).same sm)).trans (x1.old a ha)
        · rw [x2.old p (Live.of upd_same (fun _ z => nomatch z))]
          exact x1.sh.free hp
        · cases e
          have := refs_lt d2 hq
          rw [upd_same] at this
          cases this
      | err c =>
        rw [e2] at h
        exact fun u H' e sm' => h u H' e ((x1.h.trans sm).trans sm')
      | bad => rw [e2] at h; exact h
    · exact h.elim
  | err c => rw [e1] at h; exact h
  | bad => rw [e1] at h; exact h⟩
end
def setS (ρ : DEnv) : List Nat → List Slot → DEnv
  | i :: is, s :: ss => setS (ρ.set i s) is ss
  | _, _ => ρ
theorem Rel.setSlots {K : PySem.W.Frag} {S0 H0 Hb S H : Hp} (hb : Same H0 Hb) : ∀ (is : List Nat) (vs : List V) (ss : List Slot) {σ : L2.St} {ρ : DEnv}, Rel K S0 H0 S H σ ρ → SlotsNew K Hb S H vs ss →
    (∀ p, OwnIn p vs ss → ∀ (j : Nat) (s' : Slot), ρ[j]? = some s' → isOwn s' = true → σ[j]? ≠ some (some (.ref p))) → Rel K S0 H0 S H (PD.setAll σ is vs) (setS ρ is ss)
  | [], vs, ss, _, _, r, _, _ => by cases vs <;> cases ss <;> exact r
  | _ :: _, [], [], _, _, r, _, _ => r
  | i :: is, v :: vs, s :: ss, σ, ρ, r, h, hd => by
    obtain ⟨h1, h2, h3⟩ := h
    show Rel K S0 H0 S H (PD.setAll (σ.set i (some v)) is vs) (setS (ρ.set i s) is ss)
    have own : ∀ p, v = .ref p → isOwn s = true → S p = none → Hb p = none → OwnOk K S H p s → Rel K S0 H0 S H (PD.setAll (σ.set i (some v)) is vs) (setS (ρ.set i s) is ss) := fun p e ho g1 g2 g3 => by
      subst e
      refine Rel.setSlots hb is vs ss (r.setOwn ho g1 (hb.free g2) g3 (hd p (.inl ⟨rfl, ho⟩))) h2 fun q hq j s' e1 e2 e3 => ?_
      rcases set_at e1 with ⟨rfl, hi, _⟩ | ⟨hj, e1⟩
      · rw [List.getElem?_set_self (by rw [r.len]; exact hi)] at e3
        cases e3
        exact h3 _ rfl ho hq
      · rw [List.getElem?_set_ne hj] at e3
        exact hd q (.inr hq) j s' e1 e2 e3
    cases s with
    | d x =>
      refine Rel.setSlots hb is vs ss (r.setV h1) h2 fun q hq j s' e1 e2 e3 => ?_
      rcases set_at e1 with ⟨rfl, hi, e1⟩ | ⟨hj, e1⟩
      · subst e1
        cases e2
      · rw [List.getElem?_set_ne hj] at e3
        exact hd q (.inr hq) j s' e1 e2 e3
    | un => exact h1.elim
    | raw _ => exact h1.elim
    | own xs => obtain ⟨p, e1, e2, g, e3⟩ := h1; exact own p e1 rfl e2 g e3
    | ownK xs => obtain ⟨p, e1, e2, g, e3⟩ := h1; exact own p e1 rfl e2 g e3
    | ownT xs => obtain ⟨p, e1, e2, g, e3⟩ := h1; exact own p e1 rfl e2 g e3
  | _ :: _, [], _ :: _, _, _, _, h, _ => h.elim
  | _ :: _, _ :: _, [], _, _, _, h, _ => h.elim
theorem Rel.slots {K : PySem.W.Frag} {S0 H0 S H S' H' : Hp} {σ : L2.St} {ρ : DEnv} {vs : List V} {ss : List Slot} (r : Rel K S0 H0 S H σ ρ) (x : Ext S H S' H') (h : SlotsNew K H S' H' vs ss) (is : List Nat) : Rel K S0 H0 S' H' (PD.setAll σ is vs) (setS ρ is ss) := by
  refine Rel.setSlots r.x.h is vs ss (r.ext x) h fun p hp j s' e1 e2 e3 => ?_
  obtain ⟨q, g1, _, _, g4⟩ := r.own j s' e1 e2
  obtain ⟨u, hu⟩ := g4.some
  rw [e3] at g1
  cases g1
  have := refs_lt h hp
  rw [hu] at this
  cases this
section
variable {K : PySem.W.Frag} {mg : Str → Option Value} {X : Cx} {E : XK} {e : Expr} {te : TE} {t : TA} {f : DEnv → Res D} {fa : DEnv → Res (List D)} {g : DEnv → Res (List Slot)} {pos : Pos}
def sPar (g : DEnv → Res (List Slot)) (is : List Nat) : DEnv → SR := fun ρ => ofRes (g ρ) fun ss => if ss.length = is.length then .next (setS ρ is ss) else .bad
theorem SlotsNew.length {K : PySem.W.Frag} {H S' H' : Hp} : ∀ {vs : List V} {ss : List Slot}, SlotsNew K H S' H' vs ss → vs.length = ss.length
  | [], [], _ => rfl
  | _ :: vs, _ :: ss, h => congrArg (· + 1) (SlotsNew.length (vs := vs) (ss := ss) h.2.1)
  | [], _ :: _, h => h.elim
  | _ :: _, [], h => h.elim
theorem posts_of {mg : Str → Option Value} {K : PySem.W.Frag} {S0 H0 S H T : Hp} {σ : L2.St} {ρ : DEnv} {N : Ends} {r : Res (List Slot)} {k : List Slot → SR} {Q : List V → Hp → Prop} (rl : Rel K S0 H0 S H σ ρ) (h : SPost K mg E S0 H0 S (ofRes r k) N)
    (hk : ∀ ss vs S' H', Ext T H S' H' → SlotsNew K H S' H' vs ss → SPost K mg E S0 H0 S (k ss) N → Q vs H') : PostS K mg E T H r Q := by
  cases r with
  | ok a => exact fun vs S' H' x q => hk a vs S' H' x q h
  | err c => exact fun u H' e sm => h u H' e (rl.x.h.trans sm)
  | bad => exact h
/-- x, y = a, b -/
theorem sd_par {i j : Nat} {x y : Str} {a b : Expr} {px py pt : Pos} {kt k2 pt2} (hz : ZD K mg X E [a, b] t g)
    (hp : PS X (.Assign [.Tuple [.Name x px, .Name y py] kt pt] (.Tuple [a, b] k2 pt2) pos) (tPar i j t)) : SD K mg X E (.Assign [.Tuple [.Name x px, .Name y py] kt pt] (.Tuple [a, b] k2 pt2) pos) (tPar i j t) (sPar g [i, j]) := ⟨hp, fun S0 H0 S H σ ρ N r h => by
  refine hz.sd S H σ ρ _ r.relE (posts_of r h fun ss vs S' H' x' q h => ?_)
  split at h
  · rename_i hl
    have lv := q.length
    match vs, lv with
    | [v, w], _ => exact ⟨v, w, rfl, h S' H' _ x'.s (r.slots x' q [i, j])⟩
    | [], lv => rw [hl] at lv; cases lv
    | [_], lv => rw [hl] at lv; cases lv
    | _ :: _ :: _ :: _, lv => rw [hl] at lv; cases lv
  · exact h.elim⟩
theorem sd_par3 {i j l : Nat} {x y z : Str} {a b c : Expr} {px py pz pt : Pos} {kt k2 pt2} (hz : ZD K mg X E [a, b, c] t g)
    (hp : PS X (.Assign [.Tuple [.Name x px, .Name y py, .Name z pz] kt pt] (.Tuple [a, b, c] k2 pt2) pos) (tPar3 i j l t)) : SD K mg X E (.Assign [.Tuple [.Name x px, .Name y py, .Name z pz] kt pt] (.Tuple [a, b, c] k2 pt2) pos) (tPar3 i j l t) (sPar g [i, j, l]) := ⟨hp, fun S0 H0 S H σ ρ N r h => by
  refine hz.sd S H σ ρ _ r.relE (posts_of r h fun ss vs S' H' x' q h => ?_)
  split at h
  · rename_i hl
    have lv := q.length
    match vs, lv with
    | [v, w, u], _ => exact ⟨v, w, u, rfl, h S' H' _ x'.s (r.slots x' q [i, j, l])⟩
    | [], lv => rw [hl] at lv; cases lv
    | [_], lv => rw [hl] at lv; cases lv
    | [_, _], lv => rw [hl] at lv; cases lv
    | _ :: _ :: _ :: _ :: _, lv => rw [hl] at lv; cases lv
  · exact h.elim⟩
/-- x = [a, ..], owned -/
def sOwnL (fa : DEnv → Res (List D)) (i : Nat) : DEnv → SR := fun ρ => ofRes (fa ρ) fun ds => if lenOk ds.length = true then .next (ρ.set i (.own ds)) else .bad
theorem sd_ownL {i : Nat} {x : Str} {pos' pos2 : Pos} {ls : List Expr} (ha : AD K mg X E ls t fa) (hN : X.N.Nodup) (hi : X.N[i]? = some x) (hx : Loc X.env.scope x := by first | exact Or.inl rfl | exact Or.inr rfl) (hs : swapsWith (.List ls pos2) (some (.Name x pos')) pos.line X.env = pure false := by rfl) (hf : X.fn x = true ∨ X.env.scope.names.lookup x = some .local := by first | exact .inl rfl | exact .inr rfl | assumption) :
    SD K mg X E (.Assign [.Name x pos'] (.List ls pos2) pos) (tAsg (tLst t) (gName i)) (sOwnL fa i) := ⟨ps_set hN hi hx (pe_lst ha.pe) hs hf, fun S0 H0 S H σ ρ N r h => by
  refine ha.sd S H σ ρ _ r.relE (post_of r h fun ds vs S1 H1 _ x1 d1 h => ?_)
  split at h
  · rename_i hz
    refine ⟨by rw [d1.length]; exact lenOk.le hz, fun p hp => ?_⟩
    have sm : Same H1 (upd H1 p (.lst vs)) := same_upd hp
    refine h S1 _ _ x1.s (((r.ext x1).grow sm).setOwn rfl (x1.sh.free hp) ((r.x.h.trans x1.h).free hp) ⟨vs, upd_same, d1⟩ fun k s' e1 e2 e3 => ?_)
    obtain ⟨q, g1, _, _, g4⟩ := (r.ext x1).own k s' e1 e2
    obtain ⟨u, hu⟩ := g4.some
    rw [e3] at g1
    cases g1
    rw [hp] at hu
    cases hu
  · exact h.elim⟩
/-- the value of an expression, read where all is shared for the while: what comes out is flat -/
def flatD : D → Bool
  | .none => true
  | .bool _ => true
  | .int _ => true
  | .str _ => true
  | _ => false
theorem DV.flat {K : PySem.W.Frag} {S T : Hp} {v : V} {d : D} (h : DV K S v d) (hf : flatD d = true) : DV K T v d := by
  cases d with
  | none => exact h
  | bool b => exact h
  | int b => exact h
  | str b => exact h
  | _ => cases hf
def fBor (f : DEnv → Res D) : DEnv → Res D := fun ρ => (f (viewAll ρ)).bind fun d => if flatD d = true then .ok d else .bad
/-- x.append(e) -/
def sApp (f : DEnv → Res D) (i : Nat) : DEnv → SR := fun ρ => match ρ[i]? with
  | some (.own xs) => ofRes (f ρ) fun d => if lenOk (xs.length + 1) = true then .next (ρ.set i (.own (xs ++ [d]))) else .bad
  | _ => .bad
def Use (K : PySem.W.Frag) (mg : Str → Option Value) (E : XK) (te : TE) (f : DEnv → Res D) : Prop := ∀ (S0 H0 S H : Hp) (σ : L2.St) (ρ : DEnv) (N : Ends) (k : D → SR) (Q : VK), Rel K S0 H0 S H σ ρ → SPost K mg E S0 H0 S (ofRes (f ρ) k) N →
  (∀ a w S' H', Rel K S0 H0 S' H' σ ρ → Same S S' → Same H H' → DV K S' w a → SPost K mg E S0 H0 S (k a) N → Q w H') → te σ H Q
theorem own_at {ρ : DEnv} {i : Nat} {k : List D → SR} {K : PySem.W.Frag} {mg : Str → Option Value} {S0 H0 S : Hp} {N : Ends} (h : SPost K mg E S0 H0 S (match ρ[i]? with | some (.own xs) => k xs | _ => .bad) N) : ∃ xs, ρ[i]? = some (Slot.own xs) ∧ SPost K mg E S0 H0 S (k xs) N := by
  cases e2 : ρ[i]? with
  | none => rw [e2] at h; exact h.elim
  | some s =>
    rw [e2] at h
    cases s with
    | own xs => exact ⟨xs, rfl, h⟩
    | _ => exact h.elim
theorem app_sd {i : Nat} (he : Use K mg E te f) (S0 H0 S H : Hp) (σ : L2.St) (ρ : DEnv) (N : Ends) (r : Rel K S0 H0 S H σ ρ) (h : SPost K mg E S0 H0 S (sApp f i ρ) N) : tDrop (tBM K "list" rAppend (tVar i) (tCons te tNil)) N σ H := by
  obtain ⟨xs, ex, h⟩ := own_at h
  obtain ⟨p, g1, g2, g3, vs, g4, g5⟩ := r.own i _ ex rfl
  refine ⟨.ref p, g1, .inl ⟨rfl, vs, SqL.of g4⟩, ?_⟩
  refine he S0 H0 S H σ ρ N _ _ r h fun a w S' H' r' e1 e2 d1 h => ?_
  split at h
  · rename_i hz
    refine ⟨p, vs, w, rfl, rfl, e2 _ _ g4, ?_, ?_⟩
    · rw [g5.length]
      exact Nat.lt_of_lt_of_le (Nat.lt_succ_self _) (lenOk.le hz)
    · exact h S' _ σ e1 (r'.mut ex rfl rfl g1 ⟨vs ++ [w], upd_same, (g5.mono e1).append ⟨d1, trivial⟩⟩)
  · exact h.elim
/-- x.extend(e) -/
def sExt (f : DEnv → Res D) (i : Nat) : DEnv → SR := fun ρ => match ρ[i]? with
  | some (.own xs) => ofRes (f ρ) fun d => match d with
    | .list ys => if lenOk (xs.length + ys.length) = true then .next (ρ.set i (.own (xs ++ ys))) else .bad
    | _ => .bad
  | _ => .bad
def rExtR (K : PySem.W.Frag) : V → List V → Hp → VK → Prop := fun x vs H Q => ∃ l b xs zs, x = .ref l ∧ vs = [.ref b] ∧ H l = some (.lst xs) ∧ LsAt K H b zs ∧ xs.length + zs.length ≤ sizeLine ∧ Q .non (upd H l (.lst (xs ++ zs)))
theorem mt_extR (hK : X.K = K := by rfl) : MtM X "list.extend" (rExtR K) := by
  subst hK
  intro pins s σ H x vs v us Q I rx rv h
  obtain ⟨l, b, xs, zs, rfl, rfl, hH, hB, hz, q⟩ := h
  cases rx
  obtain ⟨u, rfl, ru⟩ := rv.one
  cases ru
  obtain ⟨z, its, n, r, hl, e⟩ := I.lstM hH
  obtain ⟨its2, n2, r2, hl2, e2⟩ := rd_lst I hB
  have hsz : its.toArray.size + its2.toArray.size ≤ sizeLine := by rw [List.size_toArray, List.size_toArray]; omega
  have hlong : ¬ (!its.toArray.isEmpty && Builtin.List.listTooLong (its.toArray.size + its2.toArray.size)) = true := by
    rw [notLongL hsz, Bool.and_false]
    exact Bool.false_ne_true
  refine call_meets F.slot_list_extend ⟨_, e, rfl⟩ F.entry_list_extend (F.args_list_extend_2 _ _)
    (AutoSeq1.list_extend_list_list_0 l its.toArray n b its2.toArray n2 hlong (by rw [List.size_toArray]; omega) (by omega)) ⟨e, e2, ?_⟩
  refine ⟨.non, _, I.lset (its' := its ++ its2) hH e (by simp) (r.append r2) ?_, rfl, q⟩
  rw [List.length_append]
  omega
theorem ext_sd {i : Nat} (he : Use K mg E te f) (S0 H0 S H : Hp) (σ : L2.St) (ρ : DEnv) (N : Ends) (r : Rel K S0 H0 S H σ ρ) (h : SPost K mg E S0 H0 S (sExt f i ρ) N) : tDrop (tBM K "list" (rExtR K) (tVar i) (tCons te tNil)) N σ H := by
  obtain ⟨xs, ex, h⟩ := own_at h
  obtain ⟨p, g1, g2, g3, vs, g4, g5⟩ := r.own i _ ex rfl
  refine ⟨.ref p, g1, .inl ⟨rfl, vs, SqL.of g4⟩, ?_⟩
  refine he S0 H0 S H σ ρ N _ _ r h fun a w S' H' r' e1 e2 d1 h => ?_
  cases a with
  | list ys =>
    dsimp only at h
    split at h
    · rename_i hz
      rw [DV] at d1
      obtain ⟨b, us, rfl, h1, h2⟩ := d1
      refine ⟨p, b, vs, us, rfl, rfl, e2 _ _ g4, ls_mono r'.x.sh h1, ?_, ?_⟩
      · rw [g5.length, h2.length]
        exact lenOk.le hz
      · exact h S' _ σ e1 (r'.mut ex rfl rfl g1 ⟨vs ++ us, upd_same, (g5.mono e1).append h2⟩)
    · exact h.elim
  | _ => exact h.elim
theorem use_plain (he : PD K mg X E e te f) : Use K mg E te f := fun S0 H0 S H σ ρ N k Q r h hk =>
  he.sd S H σ ρ _ r.relE (post_of r h fun a w S' H' _ x q h => hk a w S' H' (r.ext x) x.s x.h q h)
theorem use_bor (he : PD K mg X E e te f) : Use K mg E te (fBor f) := fun S0 H0 S H σ ρ N k Q r h hk => by
  refine he.sd H H σ (viewAll ρ) _ r.relV ?_
  unfold fBor at h
  cases e1 : f (viewAll ρ) with
  | ok d =>
    rw [e1, bind_ok] at h
    intro w S' H' x q
    split at h
    · rename_i hf
      exact hk d w S H' (r.grow x.h) (Same.refl _) x.h (q.flat hf) h
    · exact h.elim
  | err c =>
    rw [e1] at h
    exact fun u H' e sm => h u H' e (r.x.h.trans sm)
  | bad => rw [e1] at h; exact h
/-- x = e, the value read with all shared, flat -/
theorem sd_setU {i : Nat} {x : Str} {pos' : Pos} (pe : PE X e te) (he : Use K mg E te f) (hN : X.N.Nodup) (hi : X.N[i]? = some x) (hx : Loc X.env.scope x := by first | exact Or.inl rfl | exact Or.inr rfl) (hs : swapsWith e (some (.Name x pos')) pos.line X.env = pure false := by rfl) (hf : X.fn x = true ∨ X.env.scope.names.lookup x = some .local := by first | exact .inl rfl | exact .inr rfl | assumption) :
    SD K mg X E (.Assign [.Name x pos'] e pos) (tAsg te (gName i)) (sAsg f [i] hOne) := ⟨ps_set hN hi hx pe hs hf, fun S0 H0 S H σ ρ N r h =>
  he S0 H0 S H σ ρ N _ _ r h fun a w S' H' r' e1 e2 d1 h => h S' H' _ e1 (r'.setAll [i] [w] [a] ⟨d1, trivial⟩)⟩
theorem sd_retU (pe : PE X e te) (he : Use K mg E te f) : SD K mg X E (.Return (some e) pos) (tRet te) (sRet f) := ⟨ps_ret pe, fun S0 H0 S H σ ρ N r h =>
  he S0 H0 S H σ ρ N _ _ r h fun a w S' H' r' e1 e2 d1 h => h w S' H' r'.x d1⟩
/-! ### a def -/
def toRes (r : SR) : Res D := match r with
  | .next _ => .ok .none
  | .ret d => .ok d
  | .err c => .err c
  | .brk _ => .bad
  | .cont _ => .bad
  | .bad => .bad
def startD (n : Nat) (ds : List D) : DEnv := ds.map Slot.d ++ List.replicate (n - ds.length) Slot.un
def fnF (n : Nat) (B : DEnv → SR) (ds : List D) : Res D := toRes (B (startD n ds))
theorem start_rel {K : PySem.W.Frag} {S H : Hp} {N : List Str} {vs : List V} {ds : List D} (sh : Same S H) (h : DVs K S vs ds) : Rel K S H S H (start N vs) (startD N.length ds) := by
  have hn : ∀ (i : Nat) (s : Slot), (startD N.length ds)[i]? = some s → (∃ d, ds[i]? = some d ∧ s = .d d) ∨ s = .un := fun i s e => by
    unfold startD at e
    by_cases hi : i < ds.length
    · rw [List.getElem?_append_left (by rw [List.length_map]; exact hi), List.getElem?_map] at e
      cases e2 : ds[i]? with
      | none => rw [e2] at e; cases e
      | some d => rw [e2] at e; cases e; exact .inl ⟨d, rfl, rfl⟩
    · rw [List.getElem?_append_right (by rw [List.length_map]; omega)] at e
      have := List.mem_of_getElem? e
      exact .inr (List.eq_of_mem_replicate this)
  refine ⟨Ext.refl sh, ?_, fun i y e => ?_, fun i v e => ?_, fun i s e hs => ?_, fun i j s s' p e _ hs => ?_⟩
  · unfold L2.start startD
    rw [List.length_append, List.length_append, List.length_map, List.length_map, List.length_replicate, List.length_replicate, h.length]
  · rcases hn i _ e with ⟨d, e1, e2⟩ | e2
    · cases e2
      obtain ⟨v, g1, g2⟩ := h.get e1
      refine ⟨v, ?_, g2⟩
      unfold L2.start
      have hi := (List.getElem?_eq_some_iff.mp g1).1
      rw [List.getElem?_append_left (by rw [List.length_map]; exact hi), List.getElem?_map, g1]
      rfl
    · cases e2
  · rcases hn i _ e with ⟨d, e1, e2⟩ | e2 <;> cases e2
  · rcases hn i _ e with ⟨d, e1, e2⟩ | e2 <;> (subst e2; cases hs)
  · rcases hn i _ e with ⟨d, e1, e2⟩ | e2 <;> (subst e2; cases hs)
end
/-- THE RULE for a def that is a function of data -/
theorem fnD {P : Program} {w : World} {K : PySem.W.Frag} {mg : Str → Option Value} {base : Heap} {x qual : Str} {st : Stmt} {f : Addr} {fd : FuncData} {N ps : List Str} {k n : Nat} {B : DEnv → SR} (F : Fun K x qual st f fd) (S : FnScope N ps (defScope st)) (hn : ps.length = n)
    (hbody : ∀ (cdv : Value) (A : Around) (outer : List Env) (s : Shared) (H : Hp) (E : XK), Room k (A.deeper (PyProof.Rows.envOfC qual (defScope st) s.heap.objs.size f cdv)) →
      ∃ t, SDs K mg (cxOf (L2.CX P w) P w K mg base N qual (defScope st) f cdv A outer s H E) E (defBody st) t B) : FnOk P w K mg base (L2.CX P w) (k + 1) f fd ps (spD K mg n (fnF N.length B)) := by
  refine F.okX S (fun vs H Q E h => ?_) (fun cdv A outer s H vs Q E hr h => ?_)
  · obtain ⟨_, _, _, _, hl, _⟩ := h
    rw [hl, hn]
  · obtain ⟨S1, ds, sh, dv, hl, hp⟩ := h
    obtain ⟨t, hb⟩ := hbody cdv A outer s H E hr
    refine ⟨t, hb.ps, hb.sd S1 H S1 H (start N vs) (startD N.length ds) _ (start_rel sh dv) ?_⟩
    unfold fnF at hp
    cases e : B (startD N.length ds) with
    | next ρ => rw [e] at hp; exact fun S' H' σ' _ r => hp .non S' H' r.x rfl
    | ret d => rw [e] at hp; exact fun v S' H' x dv => hp v S' H' x dv
    | err c => rw [e] at hp; exact hp
    | brk ρ => rw [e] at hp; exact hp.elim
    | cont ρ => rw [e] at hp; exact hp.elim
    | bad => rw [e] at hp; exact hp.elim
end PD
namespace PD
open PySem L2
section
variable {K : PySem.W.Frag} {mg : Str → Option Value} {X : Cx} {E : XK} {e : Expr} {es : List Expr} {te : TE} {t : TA} {f : DEnv → Res D} {fa : DEnv → Res (List D)} {pos p : Pos}
/-! ### len -/
def rLenA (K : PySem.W.Frag) : List V → Hp → VK → Prop := fun xs H Q => ∃ x n, xs = [x] ∧ LenV K x H n ∧ Q (.int n) H
def rTupOf (K : PySem.W.Frag) : List V → Hp → VK → Prop := fun xs H Q => ∃ p ys, xs = [.ref p] ∧ ((SqL K H p ys ∧ ∀ l, H l = none → Q (.ref l) (upd H l (.tup ys))) ∨ (SqT K H p ys ∧ Q (.ref p) H))
def rListOf (K : PySem.W.Frag) : List V → Hp → VK → Prop := fun xs H Q => ∃ p ys, xs = [.ref p] ∧ (SqL K H p ys ∨ SqT K H p ys) ∧ ∀ l, H l = none → Q (.ref l) (upd H l (.lst ys))
theorem c_len (hK : X.K = K := by rfl) : CallR X (.builtin "len") (rLenA K) := by subst hK; exact call_len
theorem c_tup (hK : X.K = K := by rfl) : CallR X (.type "tuple") (rTupOf K) := by subst hK; exact call_tuple_of
theorem c_list (hK : X.K = K := by rfl) : CallR X (.type "list") (rListOf K) := by subst hK; exact call_list_of
theorem c_all (hc : X.calm = true) (hK : X.K = K := by rfl) : CallR X (.builtin "all") (rAll K) := by subst hK; exact cr_all hc
theorem c_any (hc : X.calm = true) (hK : X.K = K := by rfl) : CallR X (.builtin "any") (rAny K) := by subst hK; exact cr_any hc
theorem c_sum (hc : X.calm = true) (hK : X.K = K := by rfl) : CallR X (.builtin "sum") (rSum K) := by subst hK; exact cr_sum hc
theorem c_max (hc : X.calm = true) (hK : X.K = K := by rfl) : CallR X (.builtin "max") (rMax K) := by subst hK; exact cr_max hc
theorem c_min (hc : X.calm = true) (hK : X.K = K := by rfl) : CallR X (.builtin "min") (rMin K) := by subst hK; exact cr_min hc
def gLen : List D → Res D
  | [.list xs] => .ok (.int xs.length)
  | [.tuple xs] => .ok (.int xs.length)
  | [.str s] => if lenOk s.length = true then .ok (.int s.length) else .bad
  | _ => .bad
theorem cs_len : CaS K mg E (rLenA K) gLen := fun S H xs ds Q sh dv h => by
  unfold gLen at h
  split at h
  · obtain ⟨v, rfl, hv⟩ := dvs1 dv
    rw [DV] at hv
    obtain ⟨a, us, rfl, h1, h2⟩ := hv
    refine ⟨_, us.length, rfl, .inl ⟨us, ls_sq (ls_mono sh h1), rfl⟩, ?_⟩
    rw [h2.length]
    exact h.ok0 sh rfl
  · obtain ⟨v, rfl, hv⟩ := dvs1 dv
    rw [DV] at hv
    obtain ⟨a, us, rfl, h1, h2⟩ := hv
    refine ⟨_, us.length, rfl, .inr ⟨us, same_t sh h1.1, rfl⟩, ?_⟩
    rw [h2.length]
    exact h.ok0 sh rfl
  · split at h
    · rename_i hz
      obtain ⟨v, rfl, hv⟩ := dvs1 dv
      rw [DV] at hv
      subst hv
      exact ⟨_, _, rfl, ⟨lenOk.le hz, rfl⟩, h.ok0 sh rfl⟩
    · exact h.elim
  · exact h.elim
/-! ### abs, max, min of two -/
def gAbs : List D → Res D
  | [.int i] => .ok (.int (if i < 0 then -i else i))
  | _ => .bad
theorem cs_abs : CaS K mg E (fun xs H Q => ∃ i, xs = [.int i] ∧ Q (.int (if i < 0 then -i else i)) H) gAbs := fun S H xs ds Q sh dv h => by
  unfold gAbs at h
  split at h
  · obtain ⟨v, rfl, hv⟩ := dvs1 dv
    cases hv
    exact ⟨_, rfl, h.ok0 sh rfl⟩
  · exact h.elim
def gMax2 : List D → Res D
  | [.int i, .int j] => .ok (.int (if j > i then j else i))
  | _ => .bad
def gMin2 : List D → Res D
  | [.int i, .int j] => .ok (.int (if j < i then j else i))
  | _ => .bad
theorem cs_max2 : CaS K mg E (fun xs H Q => ∃ i j, xs = [.int i, .int j] ∧ Q (.int (if j > i then j else i)) H) gMax2 := fun S H xs ds Q sh dv h => by
  unfold gMax2 at h
  split at h
  · obtain ⟨v, w, rfl, hv, hw⟩ := dvs2 dv
    cases hv
    cases hw
    exact ⟨_, _, rfl, h.ok0 sh rfl⟩
  · exact h.elim
theorem cs_min2 : CaS K mg E (fun xs H Q => ∃ i j, xs = [.int i, .int j] ∧ Q (.int (if j < i then j else i)) H) gMin2 := fun S H xs ds Q sh dv h => by
  unfold gMin2 at h
  split at h
  · obtain ⟨v, w, rfl, hv, hw⟩ := dvs2 dv
    cases hv
    cases hw
    exact ⟨_, _, rfl, h.ok0 sh rfl⟩
  · exact h.elim
/-! ### lists of bools, of ints -/
def asBs : List D → Option (List Bool)
  | [] => some []
  | .bool b :: r => (asBs r).map (b :: ·)
  | _ :: _ => none
def asIs : List D → Option (List Int)
  | [] => some []
  | .int b :: r => (asIs r).map (b :: ·)
  | _ :: _ => none
theorem asBs_dv {K : PySem.W.Frag} {S : Hp} : ∀ {vs : List V} {ds : List D} {bs : List Bool}, asBs ds = some bs → DVs K S vs ds → vs = bs.map V.bl
  | [], [], bs, h, _ => by cases h; rfl
  | v :: vs, d :: ds, bs, h, hd => by
    cases d with
    | bool b =>
      unfold asBs at h
      cases e : asBs ds with
      | none => rw [e] at h; cases h
      | some r =>
        rw [e] at h
        cases h
        have h1 : v = .bl b := hd.1
        rw [h1, asBs_dv e hd.2]
        rfl
    | _ => cases h
  | [], _ :: _, _, _, h => h.elim
  | _ :: _, [], _, _, h => h.elim
theorem asIs_dv {K : PySem.W.Frag} {S : Hp} : ∀ {vs : List V} {ds : List D} {bs : List Int}, asIs ds = some bs → DVs K S vs ds → vs = bs.map V.int
  | [], [], bs, h, _ => by cases h; rfl
  | v :: vs, d :: ds, bs, h, hd => by
    cases d with
    | int b =>
      unfold asIs at h
      cases e : asIs ds with
      | none => rw [e] at h; cases h
      | some r =>
        rw [e] at h
        cases h
        have h1 : v = .int b := hd.1
        rw [h1, asIs_dv e hd.2]
        rfl
    | _ => cases h
  | [], _ :: _, _, _, h => h.elim
  | _ :: _, [], _, _, h => h.elim
theorem asIs_map : ∀ ns : List Int, asIs (ns.map PyData.int) = some ns
  | [] => rfl
  | n :: ns => by show (asIs (ns.map PyData.int)).map (n :: ·) = _; rw [asIs_map ns]; rfl
theorem asBs_map : ∀ ns : List Bool, asBs (ns.map PyData.bool) = some ns
  | [] => rfl
  | n :: ns => by show (asBs (ns.map PyData.bool)).map (n :: ·) = _; rw [asBs_map ns]; rfl
def gBs (k : List Bool → D) : List D → Res D
  | [.list xs] => match asBs xs with
    | some bs => .ok (k bs)
    | none => .bad
  | _ => .bad
def gAll : List D → Res D := gBs fun bs => .bool (bs.all id)
def gAny : List D → Res D := gBs fun bs => .bool (bs.any id)
theorem bs_of {k : List Bool → D} {S H : Hp} {xs : List V} {ds : List D} {Q : VK} (dv : DVs K S xs ds) (h : PostG mg E S H (DV K) (gBs k ds) Q) : ∃ a bs, xs = [.ref a] ∧ LsAt K S a (bs.map V.bl) ∧ PostG mg E S H (DV K) (.ok (k bs)) Q := by
  unfold gBs at h
  split at h
  · split at h
    · rename_i bs e
      obtain ⟨v, rfl, hv⟩ := dvs1 dv
      rw [DV] at hv
      obtain ⟨a, us, rfl, h1, h2⟩ := hv
      rw [asBs_dv e h2] at h1
      exact ⟨a, bs, rfl, h1, h⟩
    · exact h.elim
  · exact h.elim
theorem cs_all : CaS K mg E (rAll K) gAll := fun S H xs ds Q sh dv h => by
  obtain ⟨a, bs, rfl, h1, h⟩ := bs_of dv h
  exact ⟨a, bs, rfl, ls_sq (ls_mono sh h1), h.ok0 sh rfl⟩
theorem cs_any : CaS K mg E (rAny K) gAny := fun S H xs ds Q sh dv h => by
  obtain ⟨a, bs, rfl, h1, h⟩ := bs_of dv h
  exact ⟨a, bs, rfl, ls_sq (ls_mono sh h1), h.ok0 sh rfl⟩
def gIsL (ne : Bool) (k : List Int → D) : List D → Res D
  | [.list xs] => match asIs xs with
    | some ns => if (ne && ns.isEmpty) = true then .bad else .ok (k ns)
    | none => .bad
  | _ => .bad
theorem is_of {ne : Bool} {k : List Int → D} {S H : Hp} {xs : List V} {ds : List D} {Q : VK} (dv : DVs K S xs ds) (h : PostG mg E S H (DV K) (gIsL ne k ds) Q) : ∃ a ns, xs = [.ref a] ∧ LsAt K S a (ns.map V.int) ∧ (ne && ns.isEmpty) = false ∧ PostG mg E S H (DV K) (.ok (k ns)) Q := by
  unfold gIsL at h
  split at h
  · split at h
    · rename_i bs e
      split at h
      · exact h.elim
      · rename_i hne
        obtain ⟨v, rfl, hv⟩ := dvs1 dv
        rw [DV] at hv
        obtain ⟨a, us, rfl, h1, h2⟩ := hv
        rw [asIs_dv e h2] at h1
        exact ⟨a, bs, rfl, h1, by cases hx : (ne && bs.isEmpty) with | true => exact absurd hx hne | false => rfl, h⟩
    · exact h.elim
  · exact h.elim
def gSum : List D → Res D := gIsL false fun ns => .int ns.sum
theorem cs_sum : CaS K mg E (rSum K) gSum := fun S H xs ds Q sh dv h => by
  obtain ⟨a, ns, rfl, h1, _, h⟩ := is_of dv h
  exact ⟨a, ns, rfl, ls_sq (ls_mono sh h1), h.ok0 sh rfl⟩
def maxI : List Int → Int
  | [] => 0
  | [x] => x
  | x :: y :: r => if maxI (y :: r) > x then maxI (y :: r) else x
def minI : List Int → Int
  | [] => 0
  | [x] => x
  | x :: y :: r => if minI (y :: r) < x then minI (y :: r) else x
theorem maxI_spec : ∀ (ns : List Int), ns ≠ [] → maxI ns ∈ ns ∧ ∀ y ∈ ns, y ≤ maxI ns
  | [], h => absurd rfl h
  | [x], _ => ⟨List.mem_singleton.mpr rfl, fun y hy => by rw [List.mem_singleton.mp hy]; exact Int.le_refl _⟩
  | x :: y :: r, _ => by
    obtain ⟨h1, h2⟩ := maxI_spec (y :: r) (by simp)
    show (if maxI (y :: r) > x then maxI (y :: r) else x) ∈ x :: y :: r ∧ ∀ z ∈ x :: y :: r, z ≤ (if maxI (y :: r) > x then maxI (y :: r) else x)
    split
    · rename_i hg
      refine ⟨List.mem_cons_of_mem _ h1, fun z hz => ?_⟩
      rcases List.mem_cons.mp hz with q | q
      · omega
      · exact h2 z q
    · rename_i hg
      refine ⟨List.mem_cons_self, fun z hz => ?_⟩
      rcases List.mem_cons.mp hz with q | q
      · omega
      · have := h2 z q
        omega
theorem minI_spec : ∀ (ns : List Int), ns ≠ [] → minI ns ∈ ns ∧ ∀ y ∈ ns, minI ns ≤ y
  | [], h => absurd rfl h
  | [x], _ => ⟨List.mem_singleton.mpr rfl, fun y hy => by rw [List.mem_singleton.mp hy]; exact Int.le_refl _⟩
  | x :: y :: r, _ => by
    obtain ⟨h1, h2⟩ := minI_spec (y :: r) (by simp)
    show (if minI (y :: r) < x then minI (y :: r) else x) ∈ x :: y :: r ∧ ∀ z ∈ x :: y :: r, (if minI (y :: r) < x then minI (y :: r) else x) ≤ z
    split
    · rename_i hg
      refine ⟨List.mem_cons_of_mem _ h1, fun z hz => ?_⟩
      rcases List.mem_cons.mp hz with q | q
      · omega
      · exact h2 z q
    · rename_i hg
      refine ⟨List.mem_cons_self, fun z hz => ?_⟩
      rcases List.mem_cons.mp hz with q | q
      · omega
      · have := h2 z q
        omega
def gMaxL : List D → Res D := gIsL true fun ns => .int (maxI ns)
def gMinL : List D → Res D := gIsL true fun ns => .int (minI ns)
theorem ne_of_flag {ns : List Int} (h : (true && ns.isEmpty) = false) : ns ≠ [] := by
  intro z
  subst z
  cases h
theorem cs_maxL : CaS K mg E (rMax K) gMaxL := fun S H xs ds Q sh dv h => by
  obtain ⟨a, ns, rfl, h1, hn, h⟩ := is_of dv h
  have hn := ne_of_flag hn
  refine ⟨a, ns, rfl, ls_sq (ls_mono sh h1), List.length_pos_iff.mpr hn, fun m hm hle => ?_⟩
  obtain ⟨g1, g2⟩ := maxI_spec ns hn
  have e : m = maxI ns := Int.le_antisymm (g2 m hm) (hle _ g1)
  rw [e]
  exact h.ok0 sh rfl
theorem cs_minL : CaS K mg E (rMin K) gMinL := fun S H xs ds Q sh dv h => by
  obtain ⟨a, ns, rfl, h1, hn, h⟩ := is_of dv h
  have hn := ne_of_flag hn
  refine ⟨a, ns, rfl, ls_sq (ls_mono sh h1), List.length_pos_iff.mpr hn, fun m hm hle => ?_⟩
  obtain ⟨g1, g2⟩ := minI_spec ns hn
  have e : m = minI ns := Int.le_antisymm (hle _ g1) (g2 m hm)
  rw [e]
  exact h.ok0 sh rfl
/-! ### tuple(x), list(x) -/
def gTupOf : List D → Res D
  | [.list xs] => .ok (.tuple xs)
  | [.tuple xs] => .ok (.tuple xs)
  | _ => .bad
def gListOf : List D → Res D
  | [.list xs] => .ok (.list xs)
  | [.tuple xs] => .ok (.list xs)
  | _ => .bad
theorem cs_tupOf : CaS K mg E (rTupOf K) gTupOf := fun S H xs ds Q sh dv h => by
  unfold gTupOf at h
  split at h
  · obtain ⟨v, rfl, hv⟩ := dvs1 dv
    rw [DV] at hv
    obtain ⟨a, us, rfl, h1, h2⟩ := hv
    exact ⟨a, us, rfl, .inl ⟨ls_sq (ls_mono sh h1), fun l hl => new_tup sh h2 h hl⟩⟩
  · obtain ⟨v, rfl, hv⟩ := dvs1 dv
    rw [DV] at hv
    obtain ⟨a, us, rfl, h1, h2⟩ := hv
    exact ⟨a, us, rfl, .inr ⟨same_t sh h1.1, h.ok0 sh ⟨a, us, rfl, h1, h2⟩⟩⟩
  · exact h.elim
theorem cs_listOf : CaS K mg E (rListOf K) gListOf := fun S H xs ds Q sh dv h => by
  unfold gListOf at h
  split at h
  · obtain ⟨v, rfl, hv⟩ := dvs1 dv
    rw [DV] at hv
    obtain ⟨a, us, rfl, h1, h2⟩ := hv
    exact ⟨a, us, rfl, .inl (ls_sq (ls_mono sh h1)), fun l hl => new_lst sh h2 h hl⟩
  · obtain ⟨v, rfl, hv⟩ := dvs1 dv
    rw [DV] at hv
    obtain ⟨a, us, rfl, h1, h2⟩ := hv
    exact ⟨a, us, rfl, .inr (same_t sh h1.1), fun l hl => new_lst sh h2 h hl⟩
  · exact h.elim
/-! ### isinstance(x, T), T built-in -/
def tyName : D → String
  | .none => "NoneType"
  | .bool _ => "bool"
  | .int _ => "int"
  | .str _ => "str"
  | .list _ => "list"
  | .tuple _ => "tuple"
  | .dict _ => "dict"
def isiN (n T : String) : Bool := decide (n = T) || (decide (T = "int") && decide (n = "bool"))
def isiD (T : String) (d : D) : Bool := isiN (tyName d) T
theorem kit_N : ∀ n ∈ ["NoneType", "bool", "int", "str", "list", "tuple", "dict"], ∀ T ∈ ["int", "bool", "tuple", "list", "str"], kitB n T = some (isiN n T) := by decide +kernel
theorem tyName_mem (d : D) : tyName d ∈ ["NoneType", "bool", "int", "str", "list", "tuple", "dict"] := by
  cases d <;> simp [tyName]
theorem kit_D (T : String) (hT : T ∈ ["int", "bool", "tuple", "list", "str"]) (d : D) : kitB (tyName d) T = some (isiD T d) := kit_N _ (tyName_mem d) T hT
/-- .. a dict that is being walked too -/
def TyY (K : PySem.W.Frag) (H : Hp) (x : V) (t : Value) : Prop := TyX K H x t ∨ ∃ (a : Addr) (ob : Obj) (kvs : List (List Key × V)), x = .ref a ∧ H a = some (.frz ob (.dT kvs)) ∧ t = .type "dict"
theorem kit_ofY {X : Cx} {pins : List (Addr × Obj)} {σ : L2.St} {H : Hp} {s : Shared} {x : V} {u t : Value} (I : Inv X pins σ H s) (rx : RelV x u) (ty : TyY X.K H x t) : ∃ P : Heap → Prop, PySem.W.KitX X.K u t P ∧ P s.heap ∧ u ≠ .builtin "__main__.__loader__#opaque" := by
  rcases ty with ty | ⟨a, ob, kvs, rfl, ea, rfl⟩
  · exact kit_of I rx ty
  · cases (show u = Value.ref a from rx)
    obtain ⟨_, _, _, xs, _, o, es, ep, h1, h2, _⟩ := (show ObjOk X.prog X.w H s.heap a (.frz ob (.dT kvs)) from I.hok a _ ea)
    exact ⟨_, PySem.W.kitx_dict, ⟨o, h1, h2.1⟩, fun z => nomatch z⟩
def rIsiY (K : PySem.W.Frag) : List V → Hp → VK → Prop := fun xs H Q => ∃ (x c : V) (t u : Value) (b : Bool), xs = [x, c] ∧ ClsV c u ∧ TyY K H x t ∧ PySem.W.kitOne K t u = some b ∧ Q (.bl b) H
theorem call_isiY {X : Cx} : CallR X (.builtin "isinstance") (rIsiY X.K) := by
  intro pins s σ H xs us Q I r h
  obtain ⟨x, c, t, u, b, rfl, k, ty, e, q⟩ := h
  obtain ⟨u1, u2, rfl, r1, r2⟩ := vals2 r
  have e2 := k.eq r2
  subst e2
  obtain ⟨P, Z, p, hx⟩ := kit_ofY I r1 ty
  exact PySem.W.kia_one Z I.kIn p e hx fun tk => ⟨.bl b, H, I.tok tk, rfl, q⟩
theorem tyX_of {K : PySem.W.Frag} {S H : Hp} {v : V} {d : D} (sh : Same S H) (h : DV K S v d) : TyY K H v (.type (tyName d)) := by
  cases d with
  | none => rw [DV] at h; subst h; exact .inl (.base .non)
  | bool b => rw [DV] at h; subst h; exact .inl (.base (.bl b))
  | int b => rw [DV] at h; subst h; exact .inl (.base (.int b))
  | str b => rw [DV] at h; subst h; exact .inl (.base (.str b))
  | list b =>
    rw [DV] at h
    obtain ⟨a, us, rfl, (h1 | ⟨o, h1⟩) | ⟨its, n, h1, _⟩, _⟩ := h
    · exact .inl (.base (.lst (sh _ _ h1)))
    · exact .inl (.base (.frz (sh _ _ h1)))
    · exact .inl (.kList h1 rfl)
  | tuple b =>
    rw [DV] at h
    obtain ⟨a, us, rfl, ⟨(h1 | ⟨o, h1⟩) | ⟨o, its, n, h1, h2, _⟩, _⟩, _⟩ := h
    · exact .inl (.base (.tup (sh _ _ h1)))
    · exact .inl (.fTuple (sh _ _ h1))
    · exact .inl (.kTuple h1 h2)
  | dict b =>
    rw [DV] at h
    obtain ⟨a, rfl, ⟨es, h1 | ⟨o, h1⟩, _⟩ | ⟨es, h1 | ⟨o, h1⟩, _⟩⟩ := h
    · exact .inl (.base (.dK (sh _ _ h1)))
    · exact .inl (.fDict (sh _ _ h1))
    · exact .inl (.base (.dT (sh _ _ h1)))
    · exact .inr ⟨a, o, es, rfl, sh _ _ h1, rfl⟩
def fIsi (T : String) (f : DEnv → Res D) : DEnv → Res D := fun ρ => (f ρ).bind fun d => .ok (.bool (isiD T d))
theorem pd_isi {T : String} {x : Str} {p1 p2 : Pos} (hT : T ∈ ["int", "bool", "tuple", "list", "str"]) (he : PD K mg X E e te f) (hg : Gl X "isinstance") (hm : X.mg "isinstance" = none) (hv : bootBuiltins "isinstance" = some (.builtin "isinstance")) (hgT : Gl X x) (hmT : X.mg x = none) (hvT : bootBuiltins x = some (.type T))
    (hn : x ≠ "__name__" := by decide) (hd : (x == ("__debug__" : Str)) = false := by decide)
    (h1 : starEach [e, .Name x p1] X.env = (false, eval e X.env) :: starEach [.Name x p1] X.env := by rfl) (h2 : starEach [.Name x p1] X.env = (false, eval (.Name x p1) X.env) :: starEach [] X.env := by rfl) (hpl : (backTo pos (starEach [.Name x p1] X.env)).any (·.1) = false := by rfl) (hK : X.K = K := by rfl) :
    PD K mg X E (.Call (.Name "isinstance" p2) [e, .Name x p1] [] pos) (tCB (rIsiY K) (tCons te (tCons (tC (.ty T)) tNil))) (fIsi T f) :=
  ⟨hK ▸ pe_callB call_isiY hg hm hv (pa_cons he.pe (pa_cons (pe_bltn (v := .ty T) hgT hmT hvT rfl hn hd) pa_nil h2) h1) (by decide) (by decide) h1 hpl, fun S H σ ρ Q rl h =>
    he.sd S H σ ρ _ rl (h.bind fun d v S1 H1 x1 d1 h1 => ⟨v, .ty T, _, _, isiD T d, rfl, .ty T, tyX_of x1.sh d1, kit_ty (kit_D T hT d), h1.ok0 x1.sh rfl⟩)⟩
/-! ### NAMES.index(x), a tuple of texts of the written part -/
def gNamesIx (ys : List Str) : D → Res D
  | .str z => match ys.idxOf? z with
    | some j => .ok (.int (j : Nat))
    | none => .bad
  | _ => .bad
def rNamesIx (K : PySem.W.Frag) : V → List V → Hp → VK → Prop := fun x xs H Q => ∃ p, ∃ ys : List Str, ∃ z j, x = .ref p ∧ xs = [.str z] ∧ SqT K H p (ys.map V.str) ∧ ys[j]? = some z ∧ (∀ m, m < j → ys[m]? ≠ some z) ∧ Q (.int (j : Nat)) H
theorem mt_nix (hK : X.K = K := by rfl) : MtR X "tuple.index" (rNamesIx K) := by subst hK; exact mt_tup_index
def fNix (ys : List Str) (f : DEnv → Res D) : DEnv → Res D := fun ρ => (f ρ).bind (gNamesIx ys)
theorem pd_namesIx {a : Addr} {ys : List Str} {o : Expr} {apos : Pos} (hk : ∃ ob, K.lookup a = some ob ∧ ob.cls = .type "tuple" ∧ ob.dict = none) (hs : ∀ H, SqT K H a (ys.map V.str)) (he : PD K mg X E e te f)
    (hp : PE X (.Call (.Attribute o "index" apos) [e] [] pos) (tBM K "tuple" (rNamesIx K) (tC (.ref a)) (tCons te tNil))) :
    PD K mg X E (.Call (.Attribute o "index" apos) [e] [] pos) (tBM K "tuple" (rNamesIx K) (tC (.ref a)) (tCons te tNil)) (fNix ys f) :=
  ⟨hp, fun S H σ ρ Q rl h => ⟨.inr (.inl ⟨rfl, hk⟩), he.sd S H σ ρ _ rl (h.bind fun d v S1 H1 x1 d1 h1 => by
    cases d with
    | str z =>
      unfold gNamesIx at h1
      dsimp only at h1
      split at h1
      · rename_i j ej
        rw [DV] at d1
        subst d1
        have q := List.findIdx?_eq_some_iff_getElem.mp ej
        obtain ⟨hj, e1, e2⟩ := q
        refine ⟨a, ys, z, j, rfl, rfl, hs H1, ?_, fun m hm em => ?_, h1.ok0 x1.sh rfl⟩
        · rw [List.getElem?_eq_getElem hj]
          exact congrArg some (by simpa using e1)
        · have hml : m < ys.length := by omega
          rw [List.getElem?_eq_getElem hml] at em
          have := e2 m hm
          have em := Option.some.inj em
          rw [em] at this
          simp at this
      · exact h1.elim
    | _ => exact h1.elim)⟩⟩
end
end PD
namespace PD
open PySem L2
def zipD : List D → List D → List D
  | x :: xs, y :: ys => .tuple [x, y] :: zipD xs ys
  | _, _ => []
theorem zipD_get : ∀ {xs ys : List D} {i : Nat} {d : D}, (zipD xs ys)[i]? = some d → ∃ x y, xs[i]? = some x ∧ ys[i]? = some y ∧ d = .tuple [x, y]
  | x :: xs, y :: ys, 0, d, h => ⟨x, y, rfl, rfl, (Option.some.inj h).symm⟩
  | x :: xs, y :: ys, i + 1, d, h => zipD_get (xs := xs) (ys := ys) (i := i) h
  | [], _, _, _, h => by simp [zipD] at h
  | _ :: _, [], _, _, h => by simp [zipD] at h
theorem zipD_len : ∀ (xs ys : List D), (zipD xs ys).length = min xs.length ys.length
  | x :: xs, y :: ys => by show (zipD xs ys).length + 1 = min (xs.length + 1) (ys.length + 1); rw [zipD_len xs ys]; omega
  | [], ys => by simp [zipD]
  | _ :: _, [] => by simp [zipD]
theorem walks_zip {K : PySem.W.Frag} {S : Hp} {a b : Addr} {us ws : List V} {ds es : List D} (h1 : LsAt K S a us) (h2 : DVs K S us ds) (h3 : LsAt K S b ws) (h4 : DVs K S ws es) : Walks K S (Itz K a b) (zipD ds es) := fun S' H' e1 e2 => by
  have q1 : SqL K H' a us := ls_sq (ls_mono (e1.trans e2) h1)
  have q2 : SqL K H' b ws := ls_sq (ls_mono (e1.trans e2) h3)
  refine ⟨fun i d hi => ?_, us, ws, q1, q2, ?_⟩
  · obtain ⟨x, y, g1, g2, rfl⟩ := zipD_get hi
    obtain ⟨v, k1, k2⟩ := h2.get g1
    obtain ⟨w, k3, k4⟩ := h4.get g2
    refine ⟨⟨us, ws, v, w, q1, q2, k1, k3⟩, fun z H'' hy => ?_⟩
    obtain ⟨T, x1, x2, rfl, nT, rfl, f1, f2⟩ := hy
    have ex : x1 = v := Option.some.inj ((f1 _ q1).symm.trans k1)
    have ey : x2 = w := Option.some.inj ((f2 _ q2).symm.trans k3)
    subst ex ey
    have sm : Same S (upd S' T (.tup [x1, x2])) := e1.trans (same_upd (e2.free nT))
    exact ⟨_, Ext.new e2 nT, T, [x1, x2], rfl, tp_of upd_same, k2.mono sm, k4.mono sm, trivial⟩
  · rw [zipD_len, h2.length, h4.length]
    omega
theorem walks_zipT {K : PySem.W.Frag} {S : Hp} {a b : Addr} {us ws : List V} {ds es : List D} (h1 : SqT K S a us) (h2 : DVs K S us ds) (h3 : SqT K S b ws) (h4 : DVs K S ws es) : Walks K S (RZ.ItzT K a b) (zipD ds es) := fun S' H' e1 e2 => by
  have q1 : SqT K H' a us := same_t (e1.trans e2) h1
  have q2 : SqT K H' b ws := same_t (e1.trans e2) h3
  refine ⟨fun i d hi => ?_, us, ws, q1, q2, ?_⟩
  · obtain ⟨x, y, g1, g2, rfl⟩ := zipD_get hi
    obtain ⟨v, k1, k2⟩ := h2.get g1
    obtain ⟨w, k3, k4⟩ := h4.get g2
    refine ⟨⟨us, ws, v, w, q1, q2, k1, k3⟩, fun z H'' hy => ?_⟩
    obtain ⟨T, x1, x2, rfl, nT, rfl, f1, f2⟩ := hy
    have ex : x1 = v := Option.some.inj ((f1 _ q1).symm.trans k1)
    have ey : x2 = w := Option.some.inj ((f2 _ q2).symm.trans k3)
    subst ex ey
    have sm : Same S (upd S' T (.tup [x1, x2])) := e1.trans (same_upd (e2.free nT))
    exact ⟨_, Ext.new e2 nT, T, [x1, x2], rfl, tp_of upd_same, k2.mono sm, k4.mono sm, trivial⟩
  · rw [zipD_len, h2.length, h4.length]
    omega
def gZip : List D → Res (List D)
  | [.list xs, .list ys] => .ok (zipD xs ys)
  | [.tuple xs, .tuple ys] => .ok (zipD xs ys)
  | _ => .bad
section
variable {K : PySem.W.Frag} {mg : Str → Option Value} {X : Cx} {E : XK} {e e2 : Expr} {ta : TA} {ga : DEnv → Res (List D)} {p pos tpos : Pos} {elts : List Expr} {kk : Nat}
theorem id_zip (hg : Gl X "zip") (hm : X.mg "zip" = none) (ha : AD K mg X E [e, e2] ta ga) (hs : starEach [e, e2] X.env = (false, eval e X.env) :: starEach [e2] X.env := by rfl) (hpl : (backTo pos (starEach [e2] X.env)).any (·.1) = false := by rfl) (hK : X.K = K := by rfl) :
    ID K mg X E (.Tuple elts kk tpos) (.Call (.Name "zip" p) [e, e2] [] pos) (RZ.iZipA K ta) (fRng gZip ga) := ⟨hK ▸ RZ.pi_zipA hg hm ha.pe hs hpl, fun S H σ ρ R rl h => by
  refine ha.sd S H σ ρ _ rl (h.bind fun ds vs S1 H1 x1 d1 h1 => ?_)
  unfold gZip at h1
  split at h1
  · obtain ⟨v, w, rfl, hv, hw⟩ := dvs2 d1
    rw [DV] at hv hw
    obtain ⟨a, us, rfl, k1, k2⟩ := hv
    obtain ⟨b, ws, rfl, k3, k4⟩ := hw
    exact ⟨a, b, us, ws, rfl, .inl ⟨ls_sq (ls_mono x1.sh k1), ls_sq (ls_mono x1.sh k3), h1.ok0 x1.sh (walks_zip k1 k2 k3 k4)⟩⟩
  · obtain ⟨v, w, rfl, hv, hw⟩ := dvs2 d1
    rw [DV] at hv hw
    obtain ⟨a, us, rfl, k1, k2⟩ := hv
    obtain ⟨b, ws, rfl, k3, k4⟩ := hw
    exact ⟨a, b, us, ws, rfl, .inr ⟨same_t x1.sh k1.1, same_t x1.sh k3.1, h1.ok0 x1.sh (walks_zipT k1.1 k2 k3.1 k4)⟩⟩
  · exact h1.elim⟩
/-! ### ranges with a step; list(range(..)) -/
def rngS (lo c : Int) (n : Nat) : List D := (List.range n).map fun (i : Nat) => PyData.int (lo + (i : Int) * c)
/-- how many: a, a + c, .. below b -/
def rngN (a b c : Int) : Nat := if a < b then ((b - a - 1) / c + 1).toNat else 0
def rng3Ok (a b c : Int) : Bool := decide (-1000000 ≤ a) && decide (a ≤ 1000000) && decide (-1000000 ≤ b) && decide (b ≤ 1000000) && decide (0 < c) && decide (c ≤ 1000000)
theorem rng3Ok.bd {a b c : Int} (h : rng3Ok a b c = true) : -1000000 ≤ a ∧ a ≤ 1000000 ∧ -1000000 ≤ b ∧ b ≤ 1000000 ∧ 0 < c ∧ c ≤ 1000000 := by
  unfold rng3Ok at h
  simp only [Bool.and_eq_true, decide_eq_true_eq] at h
  omega
theorem rng_size {a b c : Int} (h : 0 < c) : Builtin.Range.rangeSize a b c = (rngN a b c : Nat) := by
  unfold Builtin.Range.rangeSize rngN
  rw [if_pos h]
  split
  · have : 0 ≤ (b - a - 1) / c := Int.ediv_nonneg (by omega) (by omega)
    omega
  · rfl
theorem rngN_le {a b c : Int} (h : rng3Ok a b c = true) : rngN a b c ≤ 2000001 := by
  obtain ⟨h1, h2, h3, h4, h5, h6⟩ := rng3Ok.bd h
  unfold rngN
  split
  · have : (b - a - 1) / c ≤ b - a - 1 := Int.ediv_le_self _ (by omega)
    omega
  · omega
theorem rng_small {a b c : Int} (h : rng3Ok a b c = true) : Builtin.Range.small a b c = true := by
  have hn := rngN_le h
  obtain ⟨h1, h2, h3, h4, h5, h6⟩ := rng3Ok.bd h
  unfold Builtin.Range.small
  rw [rng_size h5]
  simp only [Builtin.Range.rangeFitsLong, Bool.and_eq_true, Bool.or_eq_true, decide_eq_true_eq, beq_iff_eq, h5, gt_iff_lt, if_true]
  have e : (2 : Int) ^ 63 = 9223372036854775808 := by decide
  omega
theorem rgC_of {a b c : Int} (h : rng3Ok a b c = true) : RgC a b c (rngN a b c) := by
  obtain ⟨h1, h2, h3, h4, h5, h6⟩ := rng3Ok.bd h
  exact ⟨by omega, by omega, rng_small h, rng_size h5⟩
theorem walks_rngC {K : PySem.W.Frag} {S : Hp} (lo c : Int) (n : Nat) : Walks K S (Itc lo c n) (rngS lo c n) := fun S' H' e1 e2 => by
  have hl : (rngS lo c n).length = n := by unfold rngS; rw [List.length_map, List.length_range]
  refine ⟨fun i d hi => ?_, by rw [hl]; exact Nat.le_refl n⟩
  have hin : i < n := by
    have := (List.getElem?_eq_some_iff.mp hi).1
    omega
  refine ⟨hin, fun x H'' hy => ?_⟩
  obtain ⟨rfl, rfl⟩ := hy
  refine ⟨S', Ext.refl e2, ?_⟩
  unfold rngS at hi
  rw [List.getElem?_map, List.getElem?_range hin] at hi
  have hi := Option.some.inj hi
  rw [← hi]
  rfl
def gRng3 : List D → Res (List D)
  | [.int i, .int j, .int c] => if rng3Ok i j c = true then .ok (rngS i c (rngN i j c)) else .bad
  | _ => .bad
variable {a b c tg : Expr}
theorem id_range3 (hg : Gl X "range") (hm : X.mg "range" = none) (ha : AD K mg X E [a, b, c] ta ga) (hs : starEach [a, b, c] X.env = (false, eval a X.env) :: starEach [b, c] X.env := by rfl) (hpl : (backTo pos (starEach [b, c] X.env)).any (·.1) = false := by rfl) :
    ID K mg X E tg (.Call (.Name "range" p) [a, b, c] [] pos) (iRng3 ta) (fRng gRng3 ga) := ⟨pi_range3 hg hm ha.pe hs hpl, fun S H σ ρ R rl h => ha.sd S H σ ρ _ rl (h.bind fun ds vs S1 H1 x1 d1 h1 => by
    unfold gRng3 at h1
    split at h1
    · rename_i i j k
      split at h1
      · rename_i hz
        obtain ⟨v, w, u, rfl, hv, hw, hu⟩ := dvs3 d1
        cases hv
        cases hw
        cases hu
        exact ⟨i, j, k, _, rfl, rgC_of hz, h1.ok0 x1.sh (walks_rngC _ _ _)⟩
      · exact h1.elim
    · exact h1.elim)⟩
/-- list(range(a, b, c)) -/
def rgS (lo c : Int) (n : Nat) : List V := (List.range n).map fun (i : Nat) => V.int (lo + (i : Int) * c)
theorem vals_rgS {lo c : Int} {n : Nat} {acc : Array Value} (h : PySem.ItemsOf (fun i v => ∃ t, v = .int (lo + i * c) t) acc n) : Vals (rgS lo c n) acc.toList := by
  have e : acc.toList.length = n := by rw [Array.length_toList]; exact h.1
  unfold rgS
  rw [← e]
  refine vals_of_get acc.toList _ fun j u hj => ?_
  obtain ⟨t, rfl⟩ := h.2 j u (by rw [← hj, Array.getElem?_toList])
  exact ⟨t, rfl⟩
theorem dvs_rgS {K : PySem.W.Frag} {S : Hp} (lo c : Int) : ∀ l : List Nat, DVs K S (l.map fun (i : Nat) => V.int (lo + (i : Int) * c)) (l.map fun (i : Nat) => PyData.int (lo + (i : Int) * c))
  | [] => trivial
  | _ :: l => ⟨rfl, dvs_rgS lo c l⟩
def tLR3 (ta : TA) : TE := fun σ H Q => ta σ H fun vs H1 => ∃ (i j c : Int), vs = [.int i, .int j, .int c] ∧ rng3Ok i j c = true ∧ ∀ q, H1 q = none → Q (.ref q) (upd H1 q (.lst (rgS i c (rngN i j c))))
theorem pe_listR3 {p1 p2 pos2 : Pos} (hc : X.calm = true) (hgL : Gl X "list") (hmL : X.mg "list" = none) (hg : Gl X "range") (hm : X.mg "range" = none) (ha : PA X [a, b, c] ta)
    (hs : starEach [a, b, c] X.env = (false, eval a X.env) :: starEach [b, c] X.env := by rfl) (hpl : (backTo pos2 (starEach [b, c] X.env)).any (·.1) = false := by rfl)
    (na : starEach [.Call (.Name "range" p2) [a, b, c] [] pos2] X.env = (false, eval (.Call (.Name "range" p2) [a, b, c] [] pos2) X.env) :: starEach [] X.env := by rfl) :
    PE X (.Call (.Name "list" p1) [.Call (.Name "range" p2) [a, b, c] [] pos2] [] pos) (tLR3 ta) := by
  refine ⟨fun pins s σ H Q I h => ?_⟩
  refine PyProof.Rows.Call_ (ld_blt I hgL hmL PyProof.Rows.boot_list (PyProof.Rows.callWith_type1 (PyProof.Rows.args_cons ?_ na) na))
  refine PyProof.Rows.Call_ (ld_blt I hg hm PyProof.Rows.boot_range (PyProof.Rows.callWith_type1 (thn (ha.run pos2 pins s σ H _ I h) fun us s1 ⟨vs, H1, I1, r1, q1⟩ => ?_) hs hpl))
  obtain ⟨i, j, k, ev, ok, q⟩ := q1
  subst ev
  have rc := rgC_of ok
  obtain ⟨c0, c1, c2, c3⟩ := rc
  cases r1 with
  | cons r rr =>
    cases rr with
    | cons r' rr =>
      cases rr with
      | cons r'' rr =>
        cases rr
        obtain ⟨t, rfl⟩ := r
        obtain ⟨t', rfl⟩ := r'
        obtain ⟨t'', rfl⟩ := r''
        refine PySem.call_range_3 c0 ?_ (.inl (PyProof.noPylong_small c1))
        refine PyProof.Rows.args_nil ?_
        have I2 : Inv X pins σ H1 { s1 with heap := s1.heap.push { cls := .type "range", data := .fields #[.int i t, .int j t', .int k t''] } } := I1.kept (t' := s1.toks) fun b o e => Heap.get?_push_of_some _ e
        have hn := rngN_le ok
        refine PySem.call_list_range (n := rngN i j k) (I2.ok.hd hc) (IsRange.new ..) c2 c3 (Nat.le_trans hn (by decide)) fun h' tk acc c' hk e' hi => ?_
        refine ⟨.ref _, upd H1 _ (.lst (rgS i k (rngN i j k))), I2.laid hk (Nat.le_refl _) (show ObjOk X.prog X.w _ _ _ (.lst (rgS i k (rngN i j k))) from ⟨?_, acc.toList, c', vals_rgS hi, ?_⟩), rfl, q _ (I2.hok.fresh (Nat.le_refl _))⟩
        · unfold rgS
          rw [List.length_map, List.length_range, sizeLine_eq]
          omega
        · rw [Array.toArray_toList]
          exact e'
def gLR3 : List D → Res D
  | [.int i, .int j, .int c] => if rng3Ok i j c = true then .ok (.list (rngS i c (rngN i j c))) else .bad
  | _ => .bad
theorem pd_listR3 {p1 p2 pos2 : Pos} (hc : X.calm = true) (hgL : Gl X "list") (hmL : X.mg "list" = none) (hg : Gl X "range") (hm : X.mg "range" = none) (ha : AD K mg X E [a, b, c] ta ga)
    (hs : starEach [a, b, c] X.env = (false, eval a X.env) :: starEach [b, c] X.env := by rfl) (hpl : (backTo pos2 (starEach [b, c] X.env)).any (·.1) = false := by rfl)
    (na : starEach [.Call (.Name "range" p2) [a, b, c] [] pos2] X.env = (false, eval (.Call (.Name "range" p2) [a, b, c] [] pos2) X.env) :: starEach [] X.env := by rfl) :
    PD K mg X E (.Call (.Name "list" p1) [.Call (.Name "range" p2) [a, b, c] [] pos2] [] pos) (tLR3 ta) (fB gLR3 ga) := ⟨pe_listR3 hc hgL hmL hg hm ha.pe hs hpl na, fun S H σ ρ Q rl h => ha.sd S H σ ρ _ rl (h.bind fun ds vs S1 H1 x1 d1 h1 => by
    unfold gLR3 at h1
    split at h1
    · rename_i i j k
      split at h1
      · rename_i hz
        obtain ⟨v, w, u, rfl, hv, hw, hu⟩ := dvs3 d1
        cases hv
        cases hw
        cases hu
        exact ⟨i, j, k, rfl, hz, fun q hq => new_lst x1.sh (dvs_rgS i k _) h1 hq⟩
      · exact h1.elim
    · exact h1.elim)⟩
/-- list(range(a)), list(range(a, b)) -/
theorem dvs_rg {K : PySem.W.Frag} {S : Hp} (lo : Int) : ∀ l : List Nat, DVs K S (l.map fun (i : Nat) => V.int (lo + (i : Nat))) (l.map fun (i : Nat) => PyData.int (lo + (i : Int)))
  | [] => trivial
  | _ :: l => ⟨rfl, dvs_rg lo l⟩
def rng2Ok (a b : Int) : Bool := decide (-1000000 ≤ a) && decide (a ≤ 1000000) && decide (-1000000 ≤ b) && decide (b ≤ 1000000)
theorem rng2Ok.bd {a b : Int} (h : rng2Ok a b = true) : RgOk a b := by
  unfold rng2Ok at h
  simp only [Bool.and_eq_true, decide_eq_true_eq] at h
  have e : (2 : Int) ^ 62 = 4611686018427387904 := by decide
  exact ⟨by omega, by omega, by omega, by omega, by omega⟩
def gLR (a b : D) : Res D := match a, b with
  | .int i, .int j => if rng2Ok i j = true then .ok (.list (rngD i (j - i).toNat)) else .bad
  | _, _ => .bad
def fLR1 (f : DEnv → Res D) : DEnv → Res D := fun ρ => (f ρ).bind fun x => gLR (.int 0) x
variable {t1 t2 : TE} {f1 f2 : DEnv → Res D}
theorem pd_listR1 {p1 p2 pos2 : Pos} (hc : X.calm = true) (hgL : Gl X "list") (hmL : X.mg "list" = none) (hg : Gl X "range") (hm : X.mg "range" = none) (ha : PD K mg X E a t1 f1) (na : starEach [a] X.env = (false, eval a X.env) :: starEach [] X.env := by rfl)
    (nb : starEach [.Call (.Name "range" p2) [a] [] pos2] X.env = (false, eval (.Call (.Name "range" p2) [a] [] pos2) X.env) :: starEach [] X.env := by rfl) :
    PD K mg X E (.Call (.Name "list" p1) [.Call (.Name "range" p2) [a] [] pos2] [] pos) (tLstRg (tRg1 t1)) (fLR1 f1) := ⟨pe_listRg hc hgL hmL (prg_1 hg hm ha.pe na) nb, fun S H σ ρ Q rl h => ha.sd S H σ ρ _ rl (h.bind fun d v S1 H1 x1 d1 h1 => by
    unfold gLR at h1
    split at h1
    · rename_i i j e
      cases e
      split at h1
      · rename_i hz
        cases d1
        exact ⟨j, rfl, rng2Ok.bd hz, fun q hq => new_lst x1.sh (dvs_rg 0 _) h1 hq⟩
      · exact h1.elim
    · exact h1.elim)⟩
theorem pd_listR2 {p1 p2 pos2 : Pos} (hc : X.calm = true) (hgL : Gl X "list") (hmL : X.mg "list" = none) (hg : Gl X "range") (hm : X.mg "range" = none) (ha : PD K mg X E a t1 f1) (hb : PD K mg X E b t2 f2) (na : starEach [a, b] X.env = (false, eval a X.env) :: starEach [b] X.env := by rfl)
    (nb : starEach [b] X.env = (false, eval b X.env) :: starEach [] X.env := by rfl) (hp : (backTo pos2 (starEach [b] X.env)).any (·.1) = false := by rfl)
    (nc : starEach [.Call (.Name "range" p2) [a, b] [] pos2] X.env = (false, eval (.Call (.Name "range" p2) [a, b] [] pos2) X.env) :: starEach [] X.env := by rfl) :
    PD K mg X E (.Call (.Name "list" p1) [.Call (.Name "range" p2) [a, b] [] pos2] [] pos) (tLstRg (tRg2 t1 t2)) (fBin gLR f1 f2) := ⟨pe_listRg hc hgL hmL (prg_2 hg hm ha.pe hb.pe na nb hp) nc, fun S H σ ρ Q rl h => ha.sd S H σ ρ _ rl (h.bind fun d v S1 H1 x1 d1 h1 =>
    hb.sd S1 H1 σ ρ _ (rl.mono x1) (h1.bind fun d' v' S2 H2 x2 d2 h2 => by
    unfold gLR at h2
    split at h2
    · rename_i i j
      split at h2
      · rename_i hz
        cases d1
        cases d2
        exact ⟨i, j, rfl, rfl, rng2Ok.bd hz, fun q hq => new_lst x2.sh (dvs_rg i _) h2 hq⟩
      · exact h2.elim
    · exact h2.elim))⟩
end
end PD
namespace PD
open PySem L2
section
variable {K : PySem.W.Frag} {mg : Str → Option Value} {X : Cx} {E : XK} {a b c e : Expr} {ta tb tc : TE} {fa fb fc : DEnv → Res D} {pos : Pos}
theorem pd_chain {op op' : CmpOp} {r r' : R2} {g g' : D → D → Res D} (ho : OpR X (compareOp op) r) (ho' : OpR X (compareOp op') r') (hs : OpS K mg E r g) (hs' : OpS K mg E r' g') (ha : PD K mg X E a ta fa) (hb : PD K mg X E b tb fb) (hc : PD K mg X E c tc fc) (hm : lastMarks [op, op'] [b, c] = false := by with_unfolding_all rfl) :
    PD K mg X E (.Compare a [op, op'] [b, c] pos) (tChain r r' ta tb tc) (fChain g g' fa fb fc) := ⟨pe_chain ho ho' ha.pe hb.pe hc.pe hm, chain_sd hs hs' ha hb hc⟩
theorem td_chain {op op' : CmpOp} {r r' : R2} {g g' : D → D → Res D} (ho : OpR X (compareOp op) r) (ho' : OpR X (compareOp op') r') (hs : OpS K mg E r g) (hs' : OpS K mg E r' g') (ha : PD K mg X E a ta fa) (hb : PD K mg X E b tb fb) (hc : PD K mg X E c tc fc) (hm : lastMarks [op, op'] [b, c] = false := by with_unfolding_all rfl) :
    TD K mg X E (.Compare a [op, op'] [b, c] pos) (tTest (tChain r r' ta tb tc)) (fTest (fChain g g' fa fb fc)) := ⟨pt_chain ho ho' ha.pe hb.pe hc.pe hm, fun S H σ ρ Q rl h => by
  refine chain_sd hs hs' ha hb hc S H σ ρ _ rl (h.bind fun x v S1 H1 x1 d1 h1 => ?_)
  cases x with
  | bool k => exact ⟨k, d1, h1.ok0 x1.sh rfl⟩
  | _ => exact h1.elim⟩
/-- -e -/
def gNeg : D → Res D
  | .int i => .ok (.int (-i))
  | _ => .bad
def fUn (g : D → Res D) (f : DEnv → Res D) : DEnv → Res D := fun ρ => (f ρ).bind g
theorem pd_neg (ha : PD K mg X E a ta fa) : PD K mg X E (.UnaryOp .USub a pos) (tUn (rU fun i => .int (-i)) ta) (fUn gNeg fa) := ⟨pe_un un_neg ha.pe, fun S H σ ρ Q rl h => ha.sd S H σ ρ _ rl (h.bind fun d v S1 H1 x1 d1 h1 => by
  cases d with
  | int i => exact ⟨i, d1, h1.ok0 x1.sh rfl⟩
  | _ => exact h1.elim)⟩
/-- the module's constants -/
theorem pd_gint {x : Str} {i : Int} (h : ∃ t, X.mg x = some (.int i t)) (hg : Gl X x := by rfl) (hd : (x == ("__debug__" : Str)) = false := by decide) : PD K mg X E (.Name x pos) (tC (.int i)) (fC (.int i)) :=
  pd_c (by obtain ⟨t, h⟩ := h; exact pe_glob hg h ⟨t, rfl⟩ hd) fun _ => rfl
theorem pd_gstr {x : Str} {i : Str} (h : ∃ t, X.mg x = some (.str i t)) (hg : Gl X x := by rfl) (hd : (x == ("__debug__" : Str)) = false := by decide) : PD K mg X E (.Name x pos) (tC (.str i)) (fC (.str i)) :=
  pd_c (by obtain ⟨t, h⟩ := h; exact pe_glob hg h ⟨t, rfl⟩ hd) fun _ => rfl
theorem pd_gref {x : Str} {r : Addr} {d : D} (h : X.mg x = some (.ref r)) (hd' : ∀ S, DV K S (.ref r) d) (hg : Gl X x := by rfl) (hd : (x == ("__debug__" : Str)) = false := by decide) : PD K mg X E (.Name x pos) (tC (.ref r)) (fC d) :=
  pd_c (pe_glob hg h rfl hd) hd'
/-- a[::-1] -/
def gRev : D → Res D
  | .list xs => .ok (.list xs.reverse)
  | _ => .bad
theorem DVs.reverse {K : PySem.W.Frag} {S : Hp} : ∀ {vs : List V} {ds : List D}, DVs K S vs ds → DVs K S vs.reverse ds.reverse
  | [], [], _ => trivial
  | v :: vs, d :: ds, h => by
    rw [List.reverse_cons, List.reverse_cons]
    exact (DVs.reverse (vs := vs) (ds := ds) h.2).append ⟨h.1, trivial⟩
  | [], _ :: _, h => h.elim
  | _ :: _, [], h => h.elim
theorem pd_rev {k : Nat} {p1 p2 p3 : Pos} (ha : PD K mg X E a ta fa) (hK : X.K = K := by rfl) : PD K mg X E (.Subscript a (.Slice none none (some (.UnaryOp .USub (.Constant (.int 1) k p1) p2)) p3) pos) (tRevL K ta) (fUn gRev fa) := ⟨hK ▸ pe_revL ha.pe, fun S H σ ρ Q rl h => ha.sd S H σ ρ _ rl (h.bind fun d v S1 H1 x1 d1 h1 => by
  cases d with
  | list xs =>
    rw [DV] at d1
    obtain ⟨p, us, rfl, g1, g2⟩ := d1
    exact ⟨p, us, rfl, ls_sq (ls_mono x1.sh g1), fun q hq => new_lst x1.sh g2.reverse h1 hq⟩
  | _ => exact h1.elim)⟩
theorem sd_forI {tg iter : Expr} {body : List Stmt} {wi : TI} {g : TG} {tb : TS} {src : DEnv → Res (List D)} {is : List Nat} {hh : D → Option (List D)} {B : DEnv → SR} (hp : PassesOwn (model X.prog X.w) X.A X.env X.xe) (hc : X.calm = true) (hi : ID K mg X E tg iter wi src) (hg : GD K X tg g is hh) (hb : SDs K mg X E body tb B)
    (hs : ∀ x, foldedSetIterable iter X.env x = pure x := by intro _; rfl) : SD K mg X E (.For tg iter body [] pos) (tFor wi g tb) (sFor src is hh B) := sd_for hp hc hi hg hb (ps_for hp hc hi.pi hg.pg hb.ps hs)
/-- names as targets -/
theorem gn (i : Nat) {x : Str} (hN : X.N.Nodup) (hi : X.N[i]? = some x := by rfl) (hx : Loc X.env.scope x := by first | exact Or.inl rfl | exact Or.inr rfl) (hf : X.fn x = true ∨ X.env.scope.names.lookup x = some .local := by first | exact .inl rfl | exact .inr rfl) : PG X (.Name x pos) (gName i) := pg_name hN hi hx hf
end
section
variable {P : Program} {w : World} {K : PySem.W.Frag} {mg : Str → Option Value} {base : Heap} {N : List Str} {qual : Str} {scope : Scope} {f : Addr} {cdv : Value} {A : Around} {outer : List Env} {s : Shared} {H : Hp} {E : XK}
theorem tkX : Takes (cxOf (L2.CX P w) P w K mg base N qual scope f cdv A outer s H E) (fun cls d _ H => E cls d H) := takes_of rfl rfl rfl rfl
theorem pX : Passes (L2.CX P w) (cxOf (L2.CX P w) P w K mg base N qual scope f cdv A outer s H E) E := passes_call tkX (fun _ _ _ _ h => h)
theorem poX : PassesOwn (model P w) (cxOf (L2.CX P w) P w K mg base N qual scope f cdv A outer s H E).A (cxOf (L2.CX P w) P w K mg base N qual scope f cdv A outer s H E).env (cxOf (L2.CX P w) P w K mg base N qual scope f cdv A outer s H E).xe := passes_of (X := cxOf (L2.CX P w) P w K mg base N qual scope f cdv A outer s H E) rfl
end
end PD
namespace PD
open PySem L2
section
variable {K : PySem.W.Frag} {mg : Str → Option Value} {X : Cx} {E : XK} {e : Expr} {te : TE} {t : TA} {f : DEnv → Res D} {g : DEnv → Res (List Slot)} {pos : Pos}
/-! ### a list or a tuple, walked -/
def asSeq : D → Res (List D)
  | .list ds => .ok ds
  | .tuple ds => .ok ds
  | _ => .bad
def fSeq (f : DEnv → Res D) : DEnv → Res (List D) := fun ρ => (f ρ).bind asSeq
def iSeq (K : PySem.W.Frag) (tl : TE) : TI := fun σ H R => iList K tl σ H R ∨ iTup K tl σ H R
theorem id_seq {tg : Expr} (hl : PD K mg X E e te f) (hK : X.K = K := by rfl) : ID K mg X E tg e (iSeq K te) (fSeq f) := ⟨⟨hK ▸ fun pins s σ H R I h => h.elim (fun h => (pi_list hl.pe).run pins s σ H R I h) fun h => (pi_tup hl.pe).run pins s σ H R I h⟩, fun S H σ ρ R rl h => by
  unfold fSeq at h
  cases e1 : f ρ with
  | ok d =>
    cases d with
    | tuple ds =>
      refine .inr (hl.sd S H σ ρ _ rl ?_)
      rw [e1] at h ⊢
      intro v S1 H1 x1 d1
      rw [DV] at d1
      obtain ⟨a, us, rfl, g1, g2⟩ := d1
      exact ⟨a, rfl, ⟨us, same_t x1.sh g1.1⟩, PostG.ok h x1 (walks_tup g1.1 g2)⟩
    | list ds =>
      refine .inl (hl.sd S H σ ρ _ rl ?_)
      rw [e1] at h ⊢
      intro v S1 H1 x1 d1
      rw [DV] at d1
      obtain ⟨a, us, rfl, g1, g2⟩ := d1
      exact ⟨a, rfl, ⟨us, ls_sq (ls_mono x1.sh g1)⟩, PostG.ok h x1 (walks_list g1 g2)⟩
    | _ => rw [e1] at h; exact h.elim
  | err c =>
    refine .inl (hl.sd S H σ ρ _ rl ?_)
    rw [e1] at h ⊢
    exact h
  | bad => rw [e1] at h; exact h.elim⟩
/-! ### append, extend -/
section
variable {i : Nat} {x : Str} {p1 p2 p3 : Pos}
theorem sd_app' (m : Bool) (hv : PE X (.Name x p1) (tVar i)) (he : PD K mg X E e te f)
    (hbase : attributeBase (.Name x p1) "append" X.env (eval (.Name x p1) X.env) = eval (.Name x p1) X.env := by rfl)
    (hfew : ((backTo p3 (starEach [e] X.env)).all (fun x => !x.1) && (backToKw p3 (keywordEach [] X.env)).all (fun x => x.1.isSome) && decide ([e].length + ([] : List Keyword).length + (if ([] : List Keyword).isEmpty then 0 else 1) < 30)) = true := by rfl)
    (hline : (p2.endLine == p3.line) = true := by rfl) (hs : starEach [e] X.env = (false, eval e X.env) :: starEach [] X.env := by rfl) (hplain : (backTo p3 (starEach [] X.env)).any (·.1) = false := by rfl)
    (hw : swapsWith (.Call (.Attribute (.Name x p1) "append" p2) [e] [] p3) none pos.line X.env = pure false := by rfl) (hK : X.K = K := by rfl) : SD K mg X E (.Expr (.Call (.Attribute (.Name x p1) "append" p2) [e] [] p3) pos) (tDrop (tBM K "list" rAppend (tVar i) (tCons te tNil))) (sApp (if m = true then fBor f else f) i) :=
  ⟨hK ▸ ps_expr (pe_bm PySem.F.plainAttrs_list PySem.F.slot_list_append PySem.F.type_list_append mt_append hv (pa_cons he.pe pa_nil hs) hbase hfew hline hs hplain) hw, by
    cases m with
    | true => exact app_sd (use_bor he)
    | false => exact app_sd (use_plain he)⟩
theorem sd_ext' (m : Bool) (hv : PE X (.Name x p1) (tVar i)) (he : PD K mg X E e te f)
    (hbase : attributeBase (.Name x p1) "extend" X.env (eval (.Name x p1) X.env) = eval (.Name x p1) X.env := by rfl)
    (hfew : ((backTo p3 (starEach [e] X.env)).all (fun x => !x.1) && (backToKw p3 (keywordEach [] X.env)).all (fun x => x.1.isSome) && decide ([e].length + ([] : List Keyword).length + (if ([] : List Keyword).isEmpty then 0 else 1) < 30)) = true := by rfl)
    (hline : (p2.endLine == p3.line) = true := by rfl) (hs : starEach [e] X.env = (false, eval e X.env) :: starEach [] X.env := by rfl) (hplain : (backTo p3 (starEach [] X.env)).any (·.1) = false := by rfl)
    (hw : swapsWith (.Call (.Attribute (.Name x p1) "extend" p2) [e] [] p3) none pos.line X.env = pure false := by rfl) (hK : X.K = K := by rfl) : SD K mg X E (.Expr (.Call (.Attribute (.Name x p1) "extend" p2) [e] [] p3) pos) (tDrop (tBM K "list" (rExtR K) (tVar i) (tCons te tNil))) (sExt (if m = true then fBor f else f) i) :=
  ⟨hK ▸ ps_expr (pe_bm PySem.F.plainAttrs_list PySem.F.slot_list_extend PySem.F.type_list_extend (mt_extR rfl) hv (pa_cons he.pe pa_nil hs) hbase hfew hline hs hplain) hw, by
    cases m with
    | true => exact ext_sd (use_bor he)
    | false => exact ext_sd (use_plain he)⟩
end
/-! ### x, y = a, b -/
theorem sd_p2 {i j : Nat} {x y : Str} {a b : Expr} {px py pt : Pos} {kt k2 pt2} (hN : X.N.Nodup) (hz : ZD K mg X E [a, b] t g) (hc : X.calm = true := by rfl) (hi : X.N[i]? = some x := by rfl) (hj : X.N[j]? = some y := by rfl) (hij : i ≠ j := by decide)
    (hx : X.env.scope.names.lookup x = some .local := by rfl) (hy : X.env.scope.names.lookup y = some .local := by rfl) (hw : swappedStores [.Tuple [.Name x px, .Name y py] kt pt] (.Tuple [a, b] k2 pt2) X.env = pure (some [x, y]) := by rfl)
    (hs : swapsWithSole [.Tuple [.Name x px, .Name y py] kt pt] (.Tuple [a, b] k2 pt2) pos.line X.env = pure false := by rfl) : SD K mg X E (.Assign [.Tuple [.Name x px, .Name y py] kt pt] (.Tuple [a, b] k2 pt2) pos) (tPar i j t) (sPar g [i, j]) :=
  sd_par hz (ps_par hc hN hi hj hij hx hy hz.pe hw hs)
theorem sd_p3 {i j l : Nat} {x y z : Str} {a b c : Expr} {px py pz pt : Pos} {kt k2 pt2} (hN : X.N.Nodup) (hz : ZD K mg X E [a, b, c] t g) (hc : X.calm = true := by rfl) (hi : X.N[i]? = some x := by rfl) (hj : X.N[j]? = some y := by rfl) (hl : X.N[l]? = some z := by rfl) (hij : i ≠ j := by decide) (hil : i ≠ l := by decide) (hjl : j ≠ l := by decide)
    (hx : X.env.scope.names.lookup x = some .local := by rfl) (hy : X.env.scope.names.lookup y = some .local := by rfl) (hz' : X.env.scope.names.lookup z = some .local := by rfl) (hw : swappedStores [.Tuple [.Name x px, .Name y py, .Name z pz] kt pt] (.Tuple [a, b, c] k2 pt2) X.env = pure (some [x, y, z]) := by rfl)
    (hs : swapsWithSole [.Tuple [.Name x px, .Name y py, .Name z pz] kt pt] (.Tuple [a, b, c] k2 pt2) pos.line X.env = pure false := by rfl) : SD K mg X E (.Assign [.Tuple [.Name x px, .Name y py, .Name z pz] kt pt] (.Tuple [a, b, c] k2 pt2) pos) (tPar3 i j l t) (sPar g [i, j, l]) :=
  sd_par3 hz (ps_par3 hc hN hi hj hl hij hil hjl hx hy hz' hz.pe hw hs)
/-! ### names of the builtins -/
theorem bt_len : bootBuiltins "len" = some (.builtin "len") := by decide +kernel
theorem bt_abs : bootBuiltins "abs" = some (.builtin "abs") := by decide +kernel
theorem bt_max : bootBuiltins "max" = some (.builtin "max") := by decide +kernel
theorem bt_min : bootBuiltins "min" = some (.builtin "min") := by decide +kernel
theorem bt_all : bootBuiltins "all" = some (.builtin "all") := by decide +kernel
theorem bt_any : bootBuiltins "any" = some (.builtin "any") := by decide +kernel
theorem bt_sum : bootBuiltins "sum" = some (.builtin "sum") := by decide +kernel
theorem bt_isinstance : bootBuiltins "isinstance" = some (.builtin "isinstance") := by decide +kernel
theorem bt_sorted : bootBuiltins "sorted" = some (.builtin "sorted") := by decide +kernel
theorem bt_list : bootBuiltins "list" = some (.type "list") := by decide +kernel
theorem bt_tuple : bootBuiltins "tuple" = some (.type "tuple") := by decide +kernel
theorem bt_int : bootBuiltins "int" = some (.type "int") := by decide +kernel
theorem bt_bool : bootBuiltins "bool" = some (.type "bool") := by decide +kernel
theorem bt_str : bootBuiltins "str" = some (.type "str") := by decide +kernel
theorem bt_range : bootBuiltins "range" = some (.type "range") := by decide +kernel
theorem bt_zip : bootBuiltins "zip" = some (.type "zip") := by decide +kernel
theorem bt_enumerate : bootBuiltins "enumerate" = some (.type "enumerate") := by decide +kernel
theorem bt_set : bootBuiltins "set" = some (.type "set") := by decide +kernel
theorem bt_dict : bootBuiltins "dict" = some (.type "dict") := by decide +kernel
/-! ### the law's own end -/
def spLaw (K : PySem.W.Frag) (mg : Str → Option Value) (F : List D → Res D) : Sp := spD K mg 1 F
end
end PD
namespace PD
open PySem L2
theorem dvs_ints {K : PySem.W.Frag} {S : Hp} : ∀ ns : List Int, DVs K S (ns.map V.int) (ns.map PyData.int)
  | [] => trivial
  | _ :: ns => ⟨rfl, dvs_ints ns⟩
theorem script_at {K : PySem.W.Frag} {H : Hp} {h : Heap} {a : Addr} {xs : List V} {vs : List Value} (KX : K.In h) (ho : h.get? a = some { cls := .type "list", data := .seq vs.toArray }) (hS : SqL K H a xs) : LsAt K H a xs := by
  rcases hS with h1 | ⟨o, its, n, hk, _, _, hd, hz, r⟩
  · exact .inl h1
  · have e := KX a o hk
    rw [ho] at e
    have e := Option.some.inj e
    subst e
    injection hd with e1 _
    subst e1
    exact .inr ⟨vs, 0, hk, by simpa using hz, by simpa using r⟩
/-- a law whose def computes F: True at every script -/
theorem walkD {l : PySem.W.OpenLaw} {k : Nat} {q : Program} {loose : List Str} {XP : (Str → Option Value) → Heap → Prop} {YP : World → Heap → Prop} {d : DefRec} {K : Params → PySem.W.Frag} {F : List D → Res D} (hn : l.most = some 63) (hdf : d.params.defaults = []) (hr : Room k callerA)
    (hY : ∀ (w : World) (h : Heap), YP w h → (K w.params).In h)
    (hF : ∀ (w : World) (mg : Str → Option Value) (fa : Addr) (h : Heap), (K w.params).In h → h.Ns mainGlobals mg → mg d.name = some (.ref fa) → ∃ fd : FuncData, (∀ (s : Shared) (u : Value), BindsTo s fd ⟨[u], []⟩ [("script", u)]) ∧
      ∀ base : Heap, (K w.params).In base → base.Ns mainGlobals mg → FnOk l.prog w (K w.params) mg base (L2.CX l.prog w) k fa fd ["script"] (spD (K w.params) mg 1 F))
    (ht : ∀ ns : List Int, ns.length ≤ 63 → F [.list (ns.map PyData.int)] = .ok (.bool true)) : PySem.W.WalkO q loose XP YP l.row.toRowW d [] (fun f vs => PySem.call f vs) := by
  refine Att.attach_call hn hdf fun w s0 s1 mg mb fa o pm cd doc a vs ns G Y ho hd hcd hmg hobj hints hlen hg => ?_
  have KX := hY w _ Y
  obtain ⟨fd, hb, hG⟩ := hF w mg fa _ KX G.T.g hmg
  refine law_call KX G.T.g G.T.b G.T.builtins G.T.nolimit hg hobj hints (Nat.le_trans hlen (by decide)) hr hG hb (fun H hO hS => ?_) (fun H e s' c => ?_)
  · refine ⟨H, [.list (ns.map PyData.int)], Same.refl _, ⟨⟨a, ns.map V.int, rfl, script_at KX hobj hS, dvs_ints ns⟩, trivial⟩, rfl, ?_⟩
    rw [ht ns hlen]
    exact fun v S' H' _ dv => dv
  · obtain ⟨_, _, _, _, _, _, _, _, _, _, _, _, z⟩ := c
    exact z.elim
/-- a constant tuple of the written part -/
theorem dv_written {K : PySem.W.Frag} {S : Hp} {a : Addr} {o : Obj} {its : Array Value} {n : Nat} {vs : List V} {ds : List D} (hk : K.lookup a = some o) (hc : o.cls = .type "tuple") (hd : o.data = .seq its n) (hz : its.size ≤ sizeLine) (hv : Vals vs its.toList) (dv : DVs K S vs ds) (hkt : keyT ds = false := by rfl) : DV K S (.ref a) (.tuple ds) := ⟨a, vs, rfl, ⟨.inr ⟨o, its, n, hk, hc, hd, hz, hv⟩, fun z => by rw [hkt] at z; cases z⟩, dv⟩
end PD
namespace PD
open PySem L2
theorem hV {k : Nat} {A : Around} (r : Room k A) : A.units + 70 < cLine := by have := r.un; omega
/-! ### data in order: x < y, min, sorted -/
def allAl (ds : List D) : Bool := ds.all fun x => ds.all fun y => PySem.W.alike x y
def noNone (ds : List D) : Bool := ds.all fun x => !isNone x
def ordOk (ds : List D) : Bool := allAl ds && noNone ds && SeqAt.shaped (.list ds)
theorem allAl_iff {ds : List D} : allAl ds = true ↔ ∀ x ∈ ds, ∀ y ∈ ds, PySem.W.alike x y = true := by
  unfold allAl
  simp only [List.all_eq_true]
theorem noNone_ne {ds : List D} (h : noNone ds = true) : ∀ x ∈ ds, x ≠ PyData.none := fun x hx e => by
  unfold noNone at h
  have := List.all_eq_true.mp h x hx
  subst e
  cases this
def rMinD (K : PySem.W.Frag) : List V → Hp → VK → Prop := fun vs H Q => ∃ (a : Addr) (xs : List V) (d : D) (ds : List D), vs = [.ref a] ∧ SqL K H a xs ∧ DpAll K H xs (d :: ds) ∧ PySem.W.AlikeAll (d :: ds) ∧ PyData.depthAll (d :: ds) ≤ 63 ∧
  ∀ (i : Nat) (x : V), xs[i]? = some x → (d :: ds)[i]? = some (PySem.W.minD d ds) → Q x H
theorem minD_mem (d : D) : ∀ ds : List D, PySem.W.minD d ds ∈ d :: ds := by
  intro ds
  unfold PySem.W.minD
  induction ds generalizing d with
  | nil => exact List.mem_cons_self
  | cons e ds ih =>
    rw [List.foldl_cons]
    split
    · exact List.mem_cons_of_mem _ (ih e)
    · rcases List.mem_cons.mp (ih d) with q | q
      · rw [q]; exact List.mem_cons_self
      · exact List.mem_cons_of_mem _ (List.mem_cons_of_mem _ q)
theorem vals_back' : ∀ {xs : List V} {us : List Value} {i : Nat} {u : Value}, Vals xs us → us[i]? = some u → ∃ x, xs[i]? = some x ∧ RelV x u := fun {xs us i u} r e => by
  have hl := r.length
  have hi : i < us.length := by
    rcases Nat.lt_or_ge i us.length with h | h
    · exact h
    · rw [List.getElem?_eq_none h] at e; cases e
  have hx : xs[i]? = some xs[i] := List.getElem?_eq_getElem (by omega)
  obtain ⟨u', e', rv⟩ := r.get hx
  rw [e] at e'
  cases e'
  exact ⟨_, hx, rv⟩
section
variable {K : PySem.W.Frag} {mg : Str → Option Value} {X : Cx} {E : XK}
theorem c_minD (hc : X.calm = true) (hu : X.A.units + 70 < cLine) (hK : X.K = K := by rfl) : CallR X (.builtin "min") (rMinD K) := by
  subst hK
  intro pins s σ H vs us Q I r h
  obtain ⟨a, xs, d, ds, rfl, hs, hd, ha, hz, q⟩ := h
  obtain ⟨its, rv, hl, _⟩ := I.list hs
  rw [Vals.ref1 r]
  obtain ⟨as, hr⟩ := Dp.readsAll I (d :: ds) xs its hd rv
  have hr' : PySem.ReadsAll s.heap its.toArray.toList (d :: ds) as := by simpa using hr
  refine PySem.W.min_list_data (I.ok.hd hc) hl.isList hr' ha (by omega) fun i v h' tk bs hv hrd hk => ?_
  have hv' : its[i]? = some v := by simpa using hv
  obtain ⟨x, hx, rvx⟩ := vals_back' rv hv'
  obtain ⟨cs, hrd2, hi, hm, _⟩ := PySem.W.readsAll_atA hr' i v hv
  have e : (d :: ds).getD i .none = PySem.W.minD d ds := PySem.W.alike_unique _ _ v _ _ (ha.1 _ hm _ (minD_mem d ds)) (PySem.W.reads_keeps hk hrd2) hrd
  refine ⟨x, H, I.kept hk, rvx, q i x hx ?_⟩
  rw [← e, List.getD_eq_getElem?_getD, List.getElem?_eq_getElem hi]
  rfl
def gMinD : List D → Res D
  | [.list (d :: ds)] => if ordOk (d :: ds) = true then .ok (PySem.W.minD d ds) else .bad
  | _ => .bad
theorem ord_parts {ds : List D} (h : ordOk ds = true) : PySem.W.AlikeAll ds ∧ PyData.canLayAll0 ds = true ∧ PyData.depthAll ds ≤ 63 := by
  unfold ordOk at h
  obtain ⟨h, h3⟩ := and_split h
  obtain ⟨h1, h2⟩ := and_split h
  refine ⟨⟨allAl_iff.mp h1, noNone_ne h2⟩, ?_⟩
  have h4 : (PyData.canLayAll0 ds && decide (PyData.depthAll ds + 1 ≤ 64)) = true := h3
  obtain ⟨h5, h6⟩ := and_split h4
  exact ⟨h5, by have := of_decide_eq_true h6; omega⟩
theorem cs_minD : CaS K mg E (rMinD K) gMinD := fun S H xs ds Q sh dv h => by
  unfold gMinD at h
  split at h
  · rename_i d es
    obtain ⟨v, rfl, hv⟩ := dvs1 dv
    rw [DV] at hv
    obtain ⟨a, us, rfl, h1, h2⟩ := hv
    split at h
    · rename_i ho
      obtain ⟨o1, o2, o3⟩ := ord_parts ho
      refine ⟨a, us, d, es, rfl, ls_sq (ls_mono sh h1), DVs.dp sh _ _ o2 h2, o1, o3, fun i x hx hd => ?_⟩
      obtain ⟨w, hw, dw⟩ := h2.get hd
      rw [hx] at hw
      cases hw
      exact h.ok0 sh dw
    · exact h.elim
  · exact h.elim
/-! sorted -/
def sortOk (ds : List D) : Bool := ordOk ds && ((ds.all fun d => match d with | .tuple (_ :: _) => true | _ => false) || (ds.all fun d => match d with | .tuple _ => false | _ => true)) && lenOk ds.length
def rSortD (K : PySem.W.Frag) : List V → Hp → VK → Prop := fun vs H Q => ∃ (a : Addr) (xs : List V) (ds : List D), vs = [.ref a] ∧ SqL K H a xs ∧ DpAll K H xs ds ∧ sortOk ds = true ∧
  ∀ p, H p = none → Q (.ref p) (upd H p (.lst (((xs.zip ds).mergeSort (PySem.W.dataLe false Prod.snd)).map Prod.fst)))
theorem sort_parts {ds : List D} (h : sortOk ds = true) : ordOk ds = true ∧ PySem.W.Sortable ds ∧ ds.length ≤ 1000000 := by
  unfold sortOk at h
  obtain ⟨h, h3⟩ := and_split h
  obtain ⟨h1, h2⟩ := and_split h
  refine ⟨h1, ?_, of_decide_eq_true h3⟩
  obtain ⟨o, _⟩ := ord_parts h1
  rw [Bool.or_eq_true] at h2
  rcases h2 with h2 | h2
  · refine .inl fun d hd => ?_
    have := List.all_eq_true.mp h2 d hd
    match d, this with
    | .tuple (x :: r), _ => exact ⟨x, r, rfl⟩
  · refine .inr fun d hd => ⟨o.2 d hd, fun xs e => ?_⟩
    have := List.all_eq_true.mp h2 d hd
    subst e
    cases this
theorem zip_snd : ∀ {α β : Type} {xs : List α} {ys : List β}, xs.length = ys.length → (xs.zip ys).map Prod.snd = ys
  | _, _, [], [], _ => rfl
  | _, _, x :: xs, y :: ys, h => by
    show y :: (xs.zip ys).map Prod.snd = _
    rw [zip_snd (by simpa using h)]
theorem dpAll_len {H : Hp} : ∀ {xs : List V} {ds : List D}, DpAll K H xs ds → xs.length = ds.length
  | _, _, .nil => rfl
  | _, _, .cons _ h => congrArg (· + 1) (dpAll_len h)
theorem each_zip {R : Value → V × D → Prop} : ∀ {xs : List V} {us : List Value} {ds : List D}, Vals xs us → xs.length = ds.length → (∀ u x d, RelV x u → (x, d) ∈ xs.zip ds → R u (x, d)) → PySem.W.EachIs R us (xs.zip ds)
  | [], us, ds, r, hl, _ => by
    rw [Vals.zero r]
    cases ds with
    | nil => exact .nil
    | cons _ _ => cases hl
  | x :: xs, us, ds, r, hl, h => by
    cases us with
    | nil => exact absurd r.length (by simp)
    | cons u us =>
      cases ds with
      | nil => cases hl
      | cons d ds =>
        obtain ⟨r1, r2⟩ : RelV x u ∧ Vals xs us := by cases r with | cons a b => exact ⟨a, b⟩
        exact .cons (h u x d r1 List.mem_cons_self) (each_zip (ds := ds) r2 (by simpa using hl) fun u' x' d' rv hm => h u' x' d' rv (List.mem_cons_of_mem _ hm))
theorem dp_zip {H : Hp} : ∀ {xs : List V} {ds : List D}, DpAll K H xs ds → ∀ {x : V} {d : D}, (x, d) ∈ xs.zip ds → Dp K H x d
  | _, _, .nil, _, _, h => absurd h List.not_mem_nil
  | _, _, .cons h1 h2, x, d, h => by
    rcases List.mem_cons.mp h with e | e
    · cases e; exact h1
    · exact dp_zip h2 e
theorem vals_each : ∀ {bs : List (V × D)} {out : List Value}, PySem.W.EachIs (fun u (b : V × D) => RelV b.1 u) out bs → Vals (bs.map Prod.fst) out
  | _, _, .nil => .nil
  | _, _, .cons h1 h2 => .cons h1 (vals_each h2)
theorem depth_mem : ∀ {ds : List D} {d : D}, d ∈ ds → d.depth ≤ PyData.depthAll ds
  | [], _, h => absurd h List.not_mem_nil
  | e :: ds, d, h => by
    show d.depth ≤ max e.depth (PyData.depthAll ds)
    rcases List.mem_cons.mp h with q | q
    · rw [q]; omega
    · have := depth_mem q; omega
theorem c_sortD (hu : X.A.units + 70 < cLine) (hK : X.K = K := by rfl) : CallR X (.builtin "sorted") (rSortD K) := by
  subst hK
  intro pins s σ H vs us Q I r h
  obtain ⟨a, xs, ds, rfl, hs, hd, ho, q⟩ := h
  obtain ⟨its, rv, hl, hzl⟩ := I.list hs
  rw [Vals.ref1 r]
  have hlen := dpAll_len hd
  obtain ⟨o1, o2, o3⟩ := sort_parts ho
  obtain ⟨p1, p2, p3⟩ := ord_parts o1
  have hz := zip_snd hlen
  have hzn : (xs.zip ds).length = xs.length := by rw [List.length_zip]; omega
  have e : PySem.W.EachIs (fun u (b : V × D) => RelV b.1 u) its (xs.zip ds) := each_zip rv hlen fun u x d h _ => h
  have er : PySem.W.EachIs (fun u (b : V × D) => ∃ as, Reads s.heap u (Prod.snd b) as) its (xs.zip ds) := each_zip rv hlen fun u x d h hm => Dp.reads I d x u (dp_zip hd hm) h
  refine PySem.W.sorted_data (enc := Prod.snd) (R := fun u (b : V × D) => RelV b.1 u) hl.isList e er (by rw [hz]; exact p1.1) (by rw [hz]; exact o2) (by rw [hzn]; exact hzl) (fun b hb => ?_) fun out hol eo => ?_
  · have hb2 : b.2 ∈ ds := by rw [← hz]; exact List.mem_map_of_mem hb
    have := depth_mem hb2
    omega
  · obtain ⟨ep, he'⟩ := PyProof.Rows.sortedAll_at s.heap its out.toArray
    have hv := vals_each eo
    have hle : (((xs.zip ds).mergeSort (PySem.W.dataLe false Prod.snd)).map Prod.fst).length ≤ sizeLine := by rw [List.length_map, List.length_mergeSort, hzn]; exact hzl
    exact ⟨.ref _, upd H (s.heap.objs.size + 1) (.lst _), I.laid (t' := s.toks) (fun _ _ => PyProof.Rows.sortedAll_old) (Nat.le_succ _) ⟨hle, out, ep, hv, by simpa using he'⟩, rfl, q _ (I.hok.fresh (Nat.le_succ _))⟩
def gSortD : List D → Res D
  | [.list ds] => if sortOk ds = true then .ok (.list (ds.mergeSort (PySem.W.dataLe false id))) else .bad
  | _ => .bad
theorem dvs_len {S : Hp} : ∀ {vs : List V} {ds : List D}, DVs K S vs ds → vs.length = ds.length
  | [], [], _ => rfl
  | _ :: vs, _ :: ds, h => congrArg (· + 1) (dvs_len (vs := vs) (ds := ds) h.2)
  | [], _ :: _, h => h.elim
  | _ :: _, [], h => h.elim
theorem dvs_zip {S : Hp} : ∀ {vs : List V} {ds : List D}, DVs K S vs ds → ∀ b ∈ vs.zip ds, DV K S b.1 b.2
  | [], [], _, _, h => absurd h List.not_mem_nil
  | v :: vs, d :: ds, h, b, hb => by
    rcases List.mem_cons.mp hb with e | e
    · rw [e]; exact h.1
    · exact dvs_zip (vs := vs) (ds := ds) h.2 b e
  | [], _ :: _, h, _, _ => h.elim
  | _ :: _, [], h, _, _ => h.elim
theorem dvs_unzip {S : Hp} : ∀ {bs : List (V × D)}, (∀ b ∈ bs, DV K S b.1 b.2) → DVs K S (bs.map Prod.fst) (bs.map Prod.snd)
  | [], _ => trivial
  | b :: bs, h => ⟨h b List.mem_cons_self, dvs_unzip fun c hc => h c (List.mem_cons_of_mem _ hc)⟩
theorem cs_sortD : CaS K mg E (rSortD K) gSortD := fun S H xs ds Q sh dv h => by
  unfold gSortD at h
  split at h
  · rename_i es
    obtain ⟨v, rfl, hv⟩ := dvs1 dv
    rw [DV] at hv
    obtain ⟨a, us, rfl, h1, h2⟩ := hv
    split at h
    · rename_i ho
      obtain ⟨o1, _, _⟩ := sort_parts ho
      obtain ⟨_, p2, _⟩ := ord_parts o1
      have hl := dvs_len h2
      have em : ((us.zip es).mergeSort (PySem.W.dataLe false Prod.snd)).map Prod.snd = es.mergeSort (PySem.W.dataLe false id) := by
        rw [List.map_mergeSort (r := PySem.W.dataLe false Prod.snd) (s := PySem.W.dataLe false id) (f := Prod.snd) (fun a _ b _ => rfl), zip_snd hl]
      refine ⟨a, us, es, rfl, ls_sq (ls_mono sh h1), DVs.dp sh _ _ p2 h2, ho, fun p hp => ?_⟩
      rw [← em] at h
      exact new_lst sh (dvs_unzip fun b hb => dvs_zip h2 b (List.mem_mergeSort.mp hb)) h hp
    · exact h.elim
  · exact h.elim
/-! x < y -/
def rLtD (K : PySem.W.Frag) : R2 := fun x y H Q => ∃ d e, Dp K H x d ∧ Dp K H y e ∧ SeqAt.shaped d = true ∧ SeqAt.shaped e = true ∧ PySem.W.alike d e = true ∧ d ≠ .none ∧ Q (.bl (PySem.W.dataLt d e)) H
theorem op_ltD (hu : X.A.units + 70 < cLine) (hK : X.K = K := by rfl) : OpR X (compareOp .Lt) (rLtD K) := by
  subst hK
  intro pins s σ H x y v u Q I rx ry h
  obtain ⟨d, e, hd, he, sd, se, al, hn, q⟩ := h
  obtain ⟨as, r1⟩ := Dp.reads I d x v hd rx
  obtain ⟨bs, r2⟩ := Dp.reads I e y u he ry
  have hdp : d.depth ≤ 64 := by
    unfold SeqAt.shaped at sd
    exact of_decide_eq_true (and_split sd).2
  have := Nat.min_le_left d.depth e.depth
  exact PySem.W.rcLt_alike d e X.A s v u as bs r1 r2 al hn (by omega) _ _ _ _ ⟨.bl _, H, I, rfl, q⟩
def gLtD (a b : D) : Res D := if (SeqAt.shaped a && SeqAt.shaped b && PySem.W.alike a b && !isNone a) = true then .ok (.bool (PySem.W.dataLt a b)) else .bad
theorem os_ltD : OpS K mg E (rLtD K) gLtD := fun S H x y a b Q sh dx dy h => by
  unfold gLtD at h
  split at h
  · rename_i c
    obtain ⟨c, c4⟩ := and_split c
    obtain ⟨c, c3⟩ := and_split c
    obtain ⟨c1, c2⟩ := and_split c
    exact ⟨a, b, dp_of sh c1 dx, dp_of sh c2 dy, c1, c2, c3, (fun e => by subst e; cases c4), h.ok0 sh rfl⟩
  · exact h.elim
end
end PD
namespace PD
open PySem L2
theorem foldl_repA (its : List Value) : ∀ (m : Nat) (acc : List Value), List.foldl (fun (x1 x2 : Array Value) => x1 ++ x2) acc.toArray (List.replicate m its.toArray) = (acc ++ (List.replicate m its).flatten).toArray
  | 0, acc => by simp
  | m + 1, acc => by
    rw [List.replicate_succ, List.foldl_cons, List.replicate_succ, List.flatten_cons]
    have e : acc.toArray ++ its.toArray = (acc ++ its).toArray := by simp
    rw [e, foldl_repA its m, List.append_assoc]
section
variable {K : PySem.W.Frag} {mg : Str → Option Value} {X : Cx} {E : XK} {e o : Expr} {te to : TE} {f fo : DEnv → Res D} {pos : Pos}
/-! ### xs * n, of lists and tuples -/
def rRepL (K : PySem.W.Frag) : R2 := fun x y H Q => ∃ l k xs, x = .ref l ∧ y = .int k ∧ LsAt K H l xs ∧ 0 ≤ k ∧ k ≤ 1000 ∧ xs.length ≤ 1000 ∧ ∀ p, H p = none → Q (.ref p) (upd H p (.lst (List.replicate k.toNat xs).flatten))
theorem op_repL : OpR X (binaryOp .Mult) (rRepL X.K) := by
  intro pins s σ H x y v u Q I rx ry h
  obtain ⟨l, k, xs, rfl, rfl, hH, h1, h2, hz, q⟩ := h
  cases rx
  obtain ⟨t, rfl⟩ := ry
  obtain ⟨its, n, r, hl, e⟩ := rd_lst I hH
  have hb : xs.length * k.toNat ≤ 1000000 := by
    have : xs.length * k.toNat ≤ 1000 * 1000 := Nat.mul_le_mul hz (by omega)
    omega
  have hlen : its.toArray.size * k.toNat ≤ sizeLine := by rw [List.size_toArray, ← hl, sizeLine_eq]; omega
  have hcap : ¬ its.toArray.size * k.toNat > (2 ^ 63 - 1) / 8 := by
    have : (sizeLine : Nat) ≤ (2 ^ 63 - 1) / 8 := by decide
    omega
  have hfit : ¬ (!Builtin.List.listFitsIndex k) = true := by
    rw [fitsIndex_both (by omega) (by omega)]
    exact Bool.false_ne_true
  have hlong : ¬ Builtin.List.listTooLong (its.toArray.size * k.toNat) = true := by
    rw [notLongL hlen]
    exact Bool.false_ne_true
  have hnew : List.foldl (fun x1 x2 => x1 ++ x2) #[] (List.replicate (if its.toArray.isEmpty = true then 0 else k.toNat) its.toArray) = (List.replicate k.toNat its).flatten.toArray := by
    have f0 : ∀ m : Nat, List.foldl (fun x1 x2 => x1 ++ x2) #[] (List.replicate m its.toArray) = (List.replicate m its).flatten.toArray := fun m => by
      have := foldl_repA its m []
      rw [List.nil_append] at this
      exact this
    rw [f0]
    cases its with
    | nil => simp
    | cons a r' => rw [if_neg (by simp)]
  refine wpAny_binaryOp_repeat_ref (T := "list") (U := "int") (by decide) ⟨_, e, rfl⟩ (fun s' => typeIs_int s' k t) noFill_list_mul F.fills_int_mul F.slot_int_rmul repeat_list F.slot_int_index.lookup
    (call_meets F.slot_int_rmul (typeIs_int s k t) F.entry_int_rmul (F.args_int_rmul_2 _ _) (int___rmul___int_list k t l its.toArray n)
      ⟨e, rfl, ⟨_, e, rfl⟩, call_meets F.slot_list_mul ⟨_, e, rfl⟩ F.entry_list_mul (F.args_list_mul_2 _ _) (AutoListH.list___mul___list_int_3 l its.toArray n k t hfit hcap hlong) ⟨e, ?_⟩⟩)
  rw [hnew]
  exact ⟨.ref _, _, I.lnew (t' := s.toks) (r.rep k.toNat) (by rw [PyProof.Rows.lm_len_rep_flat, Nat.mul_comm, sizeLine_eq]; omega), rfl, q _ I.fresh⟩
theorem DVs.rep {K : PySem.W.Frag} {S : Hp} {vs : List V} {ds : List D} (h : DVs K S vs ds) : ∀ n : Nat, DVs K S (List.replicate n vs).flatten (List.replicate n ds).flatten
  | 0 => trivial
  | n + 1 => by
    rw [List.replicate_succ, List.replicate_succ, List.flatten_cons, List.flatten_cons]
    exact h.append (DVs.rep h n)
def rRepA (K : PySem.W.Frag) : R2 := fun x y H Q => rRepL K x y H Q ∨ rRepT K x y H Q
theorem op_repA (hK : X.K = K := by rfl) : OpR X (binaryOp .Mult) (rRepA K) := by subst hK; exact op_repL.or op_repT
def gRep : D → D → Res D
  | .list xs, .int k => if (decide (0 ≤ k) && decide (k ≤ 1000) && decide (xs.length ≤ 1000)) = true then .ok (.list (List.replicate k.toNat xs).flatten) else .bad
  | .tuple xs, .int k => if (decide (2 ≤ k) && decide (k ≤ 1000) && decide (xs.length ≤ 1000) && decide (xs.length ≠ 0)) = true then .ok (.tuple (List.replicate k.toNat xs).flatten) else .bad
  | _, _ => .bad
theorem os_rep : OpS K mg E (rRepA K) gRep := fun S H x y a b Q sh dx dy h => by
  unfold gRep at h
  split at h
  · rename_i xs k
    split at h
    · rename_i c
      simp only [Bool.and_eq_true, decide_eq_true_eq] at c
      rw [DV] at dx
      obtain ⟨p, us, rfl, h1, h2⟩ := dx
      exact .inl ⟨p, k, us, rfl, dy, ls_mono sh h1, c.1.1, c.1.2, by rw [h2.length]; exact c.2, fun n hn => new_lst sh (h2.rep _) h hn⟩
    · exact h.elim
  · rename_i xs k
    split at h
    · rename_i c
      simp only [Bool.and_eq_true, decide_eq_true_eq] at c
      rw [DV] at dx
      obtain ⟨p, us, rfl, h1, h2⟩ := dx
      refine .inr ⟨p, k, us, rfl, dy, same_t sh h1.1, fun e => ?_, c.1.1.1, c.1.1.2, by rw [h2.length]; exact c.1.2, fun n hn => new_tup sh (h2.rep _) h hn⟩
      have := h2.length
      rw [e] at this
      exact c.2 this.symm
    · exact h.elim
  · exact h.elim
/-! ### str(int) -/
def strOk (i : Int) : Bool := decide (-1000000000000 ≤ i) && decide (i ≤ 1000000000000)
def gStr : List D → Res D
  | [.int i] => if strOk i = true then .ok (.str (toString i)) else .bad
  | _ => .bad
theorem cs_str : CaS K mg E (fun xs H Q => ∃ i, xs = [.int i] ∧ i.natAbs.log2 < 1920 ∧ Q (.str (toString i)) H) gStr := fun S H xs ds Q sh dv h => by
  unfold gStr at h
  split at h
  · rename_i i
    split at h
    · rename_i hz
      obtain ⟨v, rfl, hv⟩ := dvs1 dv
      cases hv
      refine ⟨_, rfl, ?_, h.ok0 sh rfl⟩
      simp only [strOk, Bool.and_eq_true, decide_eq_true_eq] at hz
      have hb : i.natAbs < 2 ^ 64 := by omega
      by_cases h0 : i.natAbs = 0
      · rw [h0]; decide
      · exact Nat.lt_trans ((Nat.log2_lt h0).mpr hb) (by decide)
    · exact h.elim
  · exact h.elim
/-! ### xs.index(y), xs a list -/
def idxD (ds : List D) (d : D) : Option Nat := ds.findIdx? fun z => PyData.eqv z d
def gIndex (ds : List D) (b : D) : Res D := if (SeqAt.shaped (.list ds) && SeqAt.shaped b) = true then (match idxD ds b with
    | some j => .ok (.int (j : Nat))
    | none => .bad) else .bad
/-- a method of a list with one argument -/
def fLM (g : List D → D → Res D) (fo f : DEnv → Res D) : DEnv → Res D := fun ρ => ((fo ρ).bind asList).bind fun ds => (f ρ).bind fun b => g ds b
theorem pd_index {apos : Pos} (hu : X.A.units + 65 < cLine) (ho : PD K mg X E o to fo) (he : PD K mg X E e te f)
    (hbase : attributeBase o "index" X.env (eval o X.env) = eval o X.env := by rfl)
    (hfew : ((backTo pos (starEach [e] X.env)).all (fun x => !x.1) && (backToKw pos (keywordEach [] X.env)).all (fun x => x.1.isSome) && decide ([e].length + ([] : List Keyword).length + (if ([] : List Keyword).isEmpty then 0 else 1) < 30)) = true := by rfl)
    (hline : (apos.endLine == pos.line) = true := by rfl) (hs : starEach [e] X.env = (false, eval e X.env) :: starEach [] X.env := by rfl) (hplain : (backTo pos (starEach [] X.env)).any (·.1) = false := by rfl) (hK : X.K = K := by rfl) :
    PD K mg X E (.Call (.Attribute o "index" apos) [e] [] pos) (tBM K "list" (rIndexD K) to (tCons te tNil)) (fLM gIndex fo f) :=
  ⟨hK ▸ pe_bm PySem.F.plainAttrs_list PySem.F.slot_list_index PySem.F.type_list_index (mt_indexD hu) ho.pe (pa_cons he.pe pa_nil hs) hbase hfew hline hs hplain, fun S H σ ρ Q rl h => by
    have h : PostG mg E S H (DV K) ((fo ρ).bind fun d => (asList d).bind fun ds => (f ρ).bind fun b => gIndex ds b) Q := by
      unfold fLM at h
      cases eo : fo ρ <;> (rw [eo] at h; exact h)
    refine ho.sd S H σ ρ _ rl (h.bind fun d v S1 H1 x1 d1 h1 => ?_)
    cases d with
    | list ds =>
      have d1' := d1
      rw [DV] at d1
      obtain ⟨a, us, rfl, g1, g2⟩ := d1
      refine ⟨.inl ⟨rfl, us, ls_sq (ls_mono x1.sh g1)⟩, ?_⟩
      have h1 : PostG mg E S1 H1 (DV K) ((f ρ).bind fun b => gIndex ds b) Q := h1
      refine he.sd S1 H1 σ ρ _ (rl.mono x1) (h1.bind fun b w S2 H2 x2 d2 h2 => ?_)
      unfold gIndex at h2
      split at h2
      · rename_i c
        obtain ⟨c1, c2⟩ := and_split c
        cases ej : idxD ds b with
        | none => rw [ej] at h2; exact h2.elim
        | some j =>
          rw [ej] at h2
          obtain ⟨hj, e1, e2⟩ := List.findIdx?_eq_some_iff_getElem.mp ej
          refine ⟨a, w, b, ds, j, ds[j], rfl, rfl, dp_of x2.sh c1 (d1'.mono x2.s), dp_of x2.sh c2 d2, c1, c2, List.getElem?_eq_getElem hj, e1, fun m z' hm em => ?_, h2.ok0 x2.sh rfl⟩
          have hml : m < ds.length := by omega
          rw [List.getElem?_eq_getElem hml] at em
          have em := Option.some.inj em
          rw [← em]
          have := e2 m hm
          simpa using this
      · exact h2.elim
    | _ => exact h1.elim⟩
end
end PD
namespace PD
open PySem L2
theorem PostG.unstrict {α W : Type} {mg : Str → Option Value} {E E' : XK} {S H : Hp} {R : Hp → W → α → Prop} {r : Res α} {Q : W → Hp → Prop} (h : PostG mg E S H R r.strict Q) : PostG mg E' S H R r Q := by
  cases r with
  | ok a => exact h
  | err c => exact h.elim
  | bad => exact h
def fSt {α : Type} (f : DEnv → Res α) : DEnv → Res α := fun ρ => (f ρ).strict
theorem hUs {k : Nat} {A : Around} {v : Option Value} (r : Room k A) : (A.mark v).units + 65 < cLine := by have h := hU r; exact h
/-! ### expressions in the body of a try: what a call raises goes to W -/
structure PDS (K : PySem.W.Frag) (mg : Str → Option Value) (X : Cx) (W : WX) (e : Expr) (t : TE) (f : DEnv → Res D) : Prop where
  pe : PE X e t
  sd : ∀ (S H : Hp) (σ : L2.St) (ρ : DEnv) (Q : VK), RelE K S H σ ρ → PostG mg (WE W σ) S H (DV K) (f ρ) Q → t σ H Q
structure ADS (K : PySem.W.Frag) (mg : Str → Option Value) (X : Cx) (W : WX) (es : List Expr) (t : TA) (f : DEnv → Res (List D)) : Prop where
  pe : PA X es t
  sd : ∀ (S H : Hp) (σ : L2.St) (ρ : DEnv) (Q : List V → Hp → Prop), RelE K S H σ ρ → PostG mg (WE W σ) S H (DVs K) (f ρ) Q → t σ H Q
section
variable {K : PySem.W.Frag} {mg : Str → Option Value} {X : Cx} {W : WX} {e : Expr} {es : List Expr} {te : TE} {t : TA} {f : DEnv → Res D} {g : DEnv → Res (List D)} {pos : Pos}
theorem pds_of (h : PD K mg X E0 e te f) : PDS K mg X W e te (fSt f) := ⟨h.pe, fun S H σ ρ Q rl q => h.sd S H σ ρ Q rl (PostG.unstrict q)⟩
theorem ads_of (h : AD K mg X E0 es t g) : ADS K mg X W es t (fSt g) := ⟨h.pe, fun S H σ ρ Q rl q => h.sd S H σ ρ Q rl (PostG.unstrict q)⟩
theorem ads_one (ha : PDS K mg X W e te f) (hs : starEach [e] X.env = (false, eval e X.env) :: starEach [] X.env := by rfl) : ADS K mg X W [e] (tCons te tNil) (fCons f fNil) := ⟨pa_cons ha.pe pa_nil hs, fun S H σ ρ Q rl h => by
  refine ha.sd S H σ ρ _ rl (h.bind fun x v S1 H1 x1 d1 h1 => ?_)
  exact h1.ok0 x1.sh ⟨d1, trivial⟩⟩
theorem pds_call {n k : Nat} {fa : Addr} {fd : FuncData} {ps : List Str} {F : List D → Res D} {x : Str} {p : Pos} (G : FnOk X.prog X.w X.K X.mg X.base (L2.CX X.prog X.w) k fa fd ps (spD K mg n F)) (hr : Room k X.A) (hg : Gl X x) (hm : X.mg x = some (.ref fa)) (hk : PySem.W.keepIn X.K (.ref fa) = true)
    (hb : Binds X.K fd ps []) (tk : Takes X W) (ha : ADS K mg X W (e :: es) t g) (hdb : (x == ("__debug__" : Str)) = false := by decide) (he : starEach (e :: es) X.env = (false, eval e X.env) :: starEach es X.env := by rfl)
    (hpl : (backTo pos (starEach es X.env)).any (·.1) = false := by rfl) : PDS K mg X W (.Call (.Name x p) (e :: es) [] pos) (tCallS (spD K mg n F) (WE W) t) (fCall n F g) :=
  ⟨pe_callS G hr hg hm hk hb (fun σ => passAt tk σ) ha.pe hdb he hpl, fun S H σ ρ Q rl h => by
    refine ha.sd S H σ ρ _ rl (h.bind fun ds vs S1 H1 x1 d1 h1 => ?_)
    split at h1
    · rename_i hn
      exact ⟨S1, ds, x1.sh, d1, by rw [d1.length]; exact hn, h1⟩
    · exact h1.elim⟩
/-- [f, g, ..][i](..) -/
structure FnIs (K : PySem.W.Frag) (mg : Str → Option Value) (X : Cx) (n : Nat) (fa : Addr) (F : List D → Res D) : Prop where
  ex : ∃ k fd ps, FnOk X.prog X.w X.K X.mg X.base (L2.CX X.prog X.w) k fa fd ps (spD K mg n F) ∧ Room k X.A ∧ PySem.W.keepIn X.K (.ref fa) = true ∧ Binds X.K fd ps []
theorem fn_is {n k : Nat} {fa : Addr} {F : List D → Res D} {fd : FuncData} {ps : List Str} (G : FnOk X.prog X.w X.K X.mg X.base (L2.CX X.prog X.w) k fa fd ps (spD K mg n F)) (hr : Room k X.A) (hk : PySem.W.keepIn X.K (.ref fa) = true) (hb : Binds X.K fd ps []) : FnIs K mg X n fa F := ⟨k, fd, ps, G, hr, hk, hb⟩
theorem nm_of {x : Str} {c : Value} (hg : Gl X x) (hm : X.mg x = some c) (hd : (x == ("__debug__" : Str)) = false := by decide) : Names X x c := ⟨hg, hd, .inl hm⟩
inductive FnsAre (K : PySem.W.Frag) (mg : Str → Option Value) (X : Cx) (n : Nat) : List Addr → List (List D → Res D) → Prop
  | nil : FnsAre K mg X n [] []
  | cons {fa : Addr} {F : List D → Res D} {as : List Addr} {Fs : List (List D → Res D)} : FnIs K mg X n fa F → FnsAre K mg X n as Fs → FnsAre K mg X n (fa :: as) (F :: Fs)
theorem FnsAre.get {n : Nat} {as : List Addr} {Fs : List (List D → Res D)} (h : FnsAre K mg X n as Fs) : ∀ {i : Nat} {F : List D → Res D}, Fs[i]? = some F → ∃ fa, as[i]? = some fa ∧ FnIs K mg X n fa F := by
  induction h with
  | nil => intro i F e; simp at e
  | cons hf _ ih =>
    intro i F e
    cases i with
    | zero =>
      cases e
      exact ⟨_, rfl, hf⟩
    | succ i => exact ih e
def tVia (tf : TE) (S : Addr → Sp → Prop) (E : L2.St → XK) (t : TA) : TE := fun σ H Q => tf σ H fun v H1 => ∃ fa sp, v = .ref fa ∧ S fa sp ∧ t σ H1 fun vs H2 => sp vs H2 Q (E σ)
theorem pe_via {func : Expr} {tf : TE} {S : Addr → Sp → Prop} (hf : PE X func tf) (hS : ∀ fa sp, S fa sp → ∃ k fd ps, FnOk X.prog X.w X.K X.mg X.base (L2.CX X.prog X.w) k fa fd ps sp ∧ Room k X.A ∧ PySem.W.keepIn X.K (.ref fa) = true ∧ Binds X.K fd ps [])
    (tk : Takes X W) (ha : PA X (e :: es) t) (he : starEach (e :: es) X.env = (false, eval e X.env) :: starEach es X.env := by rfl) (hpl : (backTo pos (starEach es X.env)).any (·.1) = false := by rfl)
    (hev : eval (.Call func (e :: es) [] pos) X.env = (do callWith pos (← eval func X.env) [] (backTo pos (starEach (e :: es) X.env)) (backToKw pos (keywordEach [] X.env))) := by rfl) :
    PE X (.Call func (e :: es) [] pos) (tVia tf S (WE W) t) := by
  refine ⟨fun pins s σ H Q I h => ?_⟩
  refine PyProof.Rows.Call_ (thn (hf.run pins s σ H _ I h) fun v s1 ⟨x, H1, I1, r1, q1⟩ => ?_) hev
  obtain ⟨fa, sp, rfl, hs, q⟩ := q1
  cases r1
  obtain ⟨k, fd, ps, G, hr, hk, hb⟩ := hS fa sp hs
  refine PySem.W.callWith_K (h₀ := X.base) I.ok.mod.kin hk (thn (ha.run pos pins s1 σ H1 _ I1 q) fun us s2 ⟨vs, H2, I2, r, q2⟩ => ⟨I2.kIn, ?_⟩) he hpl
  exact run_fnS G hr hb (passAt tk σ) I2 r q2
def ixF (Fs : List (List D → Res D)) : D → Res (List D → Res D)
  | .int i => if 0 ≤ i then (match Fs[i.toNat]? with
    | some F => .ok F
    | none => .bad) else .bad
  | _ => .bad
def fVia (n : Nat) (Fs : List (List D → Res D)) (fi : DEnv → Res D) (g : DEnv → Res (List D)) : DEnv → Res D := fun ρ => (fi ρ).strict.bind fun i => (ixF Fs i).bind fun F => (g ρ).bind fun ds => if ds.length = n then F ds else .bad
/-- the names of defs, as a list's items -/
structure FA (X : Cx) (es : List Expr) (t : TA) (as : List Addr) : Prop where
  pa : PA X es t
  sd : ∀ (σ : L2.St) (H : Hp) (Q : List V → Hp → Prop), Q (as.map V.ref) H → t σ H Q
theorem fa_nil : FA X [] tNil [] := ⟨pa_nil, fun σ H Q h => h⟩
theorem fa_cons {x : Str} {fa : Addr} {as : List Addr} {p : Pos} (hm : X.mg x = some (.ref fa)) (h : FA X es t as) (hg : Gl X x := by rfl) (hd : (x == ("__debug__" : Str)) = false := by decide) (hs : starEach (.Name x p :: es) X.env = (false, eval (.Name x p) X.env) :: starEach es X.env := by rfl) :
    FA X (.Name x p :: es) (tCons (tC (.ref fa)) t) (fa :: as) := ⟨pa_cons (pe_glob hg hm rfl hd) h.pa hs, fun σ H Q q => h.sd σ H _ q⟩
theorem pds_via {n : Nat} {as : List Addr} {Fs : List (List D → Res D)} {ls : List Expr} {tl : TA} {b : Expr} {tb : TE} {fb : DEnv → Res D} {p1 p2 : Pos} (hl : FA X ls tl as) (hF : FnsAre K mg X n as Fs) (hb : PD K mg X E0 b tb fb) (tk : Takes X W) (ha : ADS K mg X W (e :: es) t g)
    (hz : as.length ≤ 100 := by simp) (hp : PlainIx b := by exact fun _ _ => rfl)
    (he : starEach (e :: es) X.env = (false, eval e X.env) :: starEach es X.env := by rfl) (hpl : (backTo pos (starEach es X.env)).any (·.1) = false := by rfl)
    (hev : eval (.Call (.Subscript (.List ls p1) b p2) (e :: es) [] pos) X.env = (do callWith pos (← eval (.Subscript (.List ls p1) b p2) X.env) [] (backTo pos (starEach (e :: es) X.env)) (backToKw pos (keywordEach [] X.env))) := by rfl) (hK : X.K = K := by rfl) :
    PDS K mg X W (.Call (.Subscript (.List ls p1) b p2) (e :: es) [] pos) (tVia (tOp (rIxL K) (tLst tl) tb) (fun fa sp => ∃ F, ∃ i : Nat, as[i]? = some fa ∧ Fs[i]? = some F ∧ sp = spD K mg n F) (WE W) t) (fVia n Fs fb g) := by
  subst hK
  refine ⟨pe_via (pe_ix ix_list (pe_lst hl.pa) hb.pe hp) (fun fa sp ⟨F, i, h1, h2, e⟩ => by
    subst e
    obtain ⟨fa', h3, h4⟩ := hF.get h2
    rw [h1] at h3
    cases h3
    exact h4.ex) tk ha.pe he hpl hev, fun S H σ ρ Q rl h => ?_⟩
  refine hl.sd σ H _ ⟨by rw [List.length_map, sizeLine_eq]; omega, fun p hn => ?_⟩
  have x0 : Ext S H S (upd H p (.lst (as.map V.ref))) := ⟨Same.refl _, same_upd hn, rl.sh.trans (same_upd hn), fun _ _ => rfl⟩
  refine hb.sd S _ σ ρ _ (rl.mono x0) (PostG.unstrict (PostG.bind (PostG.mono x0 h) fun d v S1 H1 x1 d1 h1 => ?_))
  unfold ixF at h1
  cases d with
  | int i =>
    dsimp only at h1
    split at h1
    · rename_i h0
      cases eF : Fs[i.toNat]? with
      | none => rw [eF] at h1; exact h1.elim
      | some F =>
        rw [eF] at h1
        have h1 : PostG mg (WE W σ) S1 H1 (DV X.K) ((g ρ).bind fun ds => if ds.length = n then F ds else .bad) Q := h1
        obtain ⟨fa, e1, e2⟩ := hF.get eF
        have hl2 : i.toNat < as.length := (List.getElem?_eq_some_iff.mp e1).1
        refine ⟨p, as.map V.ref, i, .ref fa, rfl, d1, SqL.of (x1.h _ _ upd_same), ?_, fa, spD X.K mg n F, rfl, ⟨F, i.toNat, e1, eF, rfl⟩, ?_⟩
        · unfold atI ixN
          rw [if_pos h0, if_pos (by rw [List.length_map]; omega)]
          show (as.map V.ref)[i.toNat]? = some (.ref fa)
          rw [List.getElem?_map, e1]
          rfl
        · refine ha.sd S1 H1 σ ρ _ ((rl.mono x0).mono x1) (h1.bind fun ds vs S2 H2 x2 d2 h2 => ?_)
          split at h2
          · rename_i hn2
            exact ⟨S2, ds, x2.sh, d2, by rw [d2.length]; exact hn2, h2⟩
          · exact h2.elim
    · exact h1.elim
  | _ => exact h1.elim
theorem pds_if {c a b : Expr} {tA : TT} {ta tb : TE} {gA : DEnv → Res Bool} {fa fb : DEnv → Res D} (hc : TD K mg X E0 c tA gA) (ha : PDS K mg X W a ta fa) (hb : PDS K mg X W b tb fb) : PDS K mg X W (.IfExp c a b pos) (tIf tA ta tb) (fIf (fSt gA) fa fb) :=
  ⟨pe_ifExp hc.pe ha.pe hb.pe, fun S H σ ρ Q rl h => hc.sd S H σ ρ _ rl (PostG.unstrict (PostG.bind h fun k w S1 H1 x1 e h1 => by
    cases e
    cases k with
    | true => exact ha.sd S1 H1 σ ρ Q (rl.mono x1) h1
    | false => exact hb.sd S1 H1 σ ρ Q (rl.mono x1) h1))⟩
/-! ### the body of a try: nothing is stored -/
def BPost (K : PySem.W.Frag) (mg : Str → Option Value) (W : WX) (σ : L2.St) (H : Hp) (r : Res (Option D)) (N : Ends) : Prop := match r with
  | .ok none => ∀ H', Same H H' → N.nx σ H'
  | .ok (some d) => ∀ v H', Same H H' → (∀ T, DV K T v d) → N.rt v H'
  | .err c => ∀ u H', mg c = some u → Same H H' → W u none σ H'
  | .bad => False
theorem BPost.mono {σ : L2.St} {H H1 : Hp} {r : Res (Option D)} {N : Ends} (h : BPost K mg W σ H r N) (x : Same H H1) : BPost K mg W σ H1 r N := by
  cases r with
  | ok o =>
    cases o with
    | none => exact fun H' e => h H' (x.trans e)
    | some d => exact fun v H' e q => h v H' (x.trans e) q
  | err c => exact fun u H' e q => h u H' e (x.trans q)
  | bad => exact h
structure BD (K : PySem.W.Frag) (mg : Str → Option Value) (X : Cx) (W : WX) (st : Stmt) (t : TS) (F : DEnv → Res (Option D)) : Prop where
  ps : PS X st t
  sd : ∀ (H : Hp) (σ : L2.St) (ρ : DEnv) (N : Ends), RelE K H H σ ρ → BPost K mg W σ H (F ρ) N → t N σ H
structure BDs (K : PySem.W.Frag) (mg : Str → Option Value) (X : Cx) (W : WX) (st : List Stmt) (t : TS) (F : DEnv → Res (Option D)) : Prop where
  ps : PSs X st t
  sd : ∀ (H : Hp) (σ : L2.St) (ρ : DEnv) (N : Ends), RelE K H H σ ρ → BPost K mg W σ H (F ρ) N → t N σ H
theorem RelE.up {H H1 : Hp} {σ : L2.St} {ρ : DEnv} (r : RelE K H H σ ρ) (x : Same H H1) : RelE K H1 H1 σ ρ := ⟨Same.refl _, r.len, fun i y e => let ⟨v, h1, h2⟩ := r.dt i y e; ⟨v, h1, h2.mono x⟩, r.rw⟩
theorem bds_one {st : Stmt} {ts : TS} {F : DEnv → Res (Option D)} (h : BD K mg X W st ts F) : BDs K mg X W [st] ts F := ⟨pss_one h.ps, h.sd⟩
theorem bds_nil : BDs K mg X W [] tNext (fun _ => .ok none) := ⟨pss_nil, fun H σ ρ N r h => h H (Same.refl _)⟩
def bSeq (F G : DEnv → Res (Option D)) : DEnv → Res (Option D) := fun ρ => (F ρ).bind fun o => match o with
  | none => G ρ
  | some d => .ok (some d)
theorem bds_cons {st : Stmt} {rest : List Stmt} {ts us : TS} {F G : DEnv → Res (Option D)} (h : BD K mg X W st ts F) (h2 : BDs K mg X W rest us G) : BDs K mg X W (st :: rest) (tSeq ts us) (bSeq F G) := ⟨pss_cons h.ps h2.ps, fun H σ ρ N r q => by
  refine h.sd H σ ρ _ r ?_
  unfold bSeq at q
  cases e1 : F ρ with
  | ok o =>
    rw [e1] at q
    cases o with
    | none => exact fun H' e => h2.sd H' σ ρ N (r.up e) (BPost.mono q e)
    | some d => exact q
  | err c => rw [e1] at q; exact q
  | bad => rw [e1] at q; exact q⟩
def bExpr (f : DEnv → Res D) : DEnv → Res (Option D) := fun ρ => (f ρ).bind fun _ => .ok none
def bRet (f : DEnv → Res D) : DEnv → Res (Option D) := fun ρ => (f ρ).bind fun d => if flatD d = true then .ok (some d) else .bad
def bIf (g : DEnv → Res Bool) (F G : DEnv → Res (Option D)) : DEnv → Res (Option D) := fun ρ => (g ρ).strict.bind fun b => if b = true then F ρ else G ρ
theorem bd_expr (he : PDS K mg X W e te f) (hs : swapsWith e none pos.line X.env = pure false := by rfl) : BD K mg X W (.Expr e pos) (tDrop te) (bExpr f) := ⟨ps_expr he.pe hs, fun H σ ρ N r q => by
  refine he.sd H H σ ρ _ r ?_
  unfold bExpr at q
  cases e1 : f ρ with
  | ok d => rw [e1] at q; exact fun w S' H' x dv => q H' x.h
  | err c => rw [e1] at q; exact q
  | bad => rw [e1] at q; exact q⟩
theorem bd_ret (he : PDS K mg X W e te f) : BD K mg X W (.Return (some e) pos) (tRet te) (bRet f) := ⟨ps_ret he.pe, fun H σ ρ N r q => by
  refine he.sd H H σ ρ _ r ?_
  unfold bRet at q
  cases e1 : f ρ with
  | ok d =>
    rw [e1, bind_ok] at q
    intro w S' H' x dv
    split at q
    · rename_i hf
      exact q w H' x.h fun T => dv.flat hf
    · exact q.elim
  | err c => rw [e1] at q; exact q
  | bad => rw [e1] at q; exact q⟩
theorem bd_if {c : Expr} {a b : List Stmt} {tc : TT} {ta tb : TS} {gc : DEnv → Res Bool} {F G : DEnv → Res (Option D)} (hc : TD K mg X E0 c tc gc) (ha : BDs K mg X W a ta F) (hb : BDs K mg X W b tb G) : BD K mg X W (.If c a b pos) (tIfS tc ta tb) (bIf gc F G) :=
  ⟨ps_if hc.pe ha.ps hb.ps, fun H σ ρ N r q => by
    refine hc.sd H H σ ρ _ r ?_
    unfold bIf at q
    cases e1 : gc ρ with
    | ok k =>
      rw [e1] at q
      intro w S' H' x ek
      cases ek
      cases k with
      | true => exact ha.sd H' σ ρ N (r.up x.h) (BPost.mono q x.h)
      | false => exact hb.sd H' σ ρ N (r.up x.h) (BPost.mono q x.h)
    | err c => rw [e1] at q; exact q.elim
    | bad => rw [e1] at q; exact q⟩
end
/-! ### try -/
theorem Rel.setRaw {K : PySem.W.Frag} {S0 H0 S H : Hp} {σ : L2.St} {ρ : DEnv} (r : Rel K S0 H0 S H σ ρ) {i : Nat} {v : V} : Rel K S0 H0 S H (σ.set i (some v)) (ρ.set i (.raw v)) := by
  have hl := r.len
  refine ⟨r.x, by rw [List.length_set, List.length_set]; exact hl, fun j z e => ?_, fun j z e => ?_, fun j s e hs => ?_, fun j k s s' p e1 e2 h1 h2 g1 g2 => ?_⟩
  · rcases set_at e with ⟨rfl, hi, e⟩ | ⟨hj, e⟩
    · cases e
    · rw [List.getElem?_set_ne hj]
      exact r.dt j z e
  · rcases set_at e with ⟨rfl, hi, e⟩ | ⟨hj, e⟩
    · cases e
      exact List.getElem?_set_self (by omega)
    · rw [List.getElem?_set_ne hj]
      exact r.rw j z e
  · rcases set_at e with ⟨rfl, hi, e⟩ | ⟨hj, e⟩
    · subst e
      cases hs
    · rw [List.getElem?_set_ne hj]
      exact r.own j s e hs
  · rcases set_at e1 with ⟨rfl, hi, e1⟩ | ⟨hj, e1⟩
    · subst e1
      cases h1
    · rcases set_at e2 with ⟨rfl, hi, e2⟩ | ⟨hk, e2⟩
      · subst e2
        cases h2
      · rw [List.getElem?_set_ne hj] at g1
        rw [List.getElem?_set_ne hk] at g2
        exact r.dis j k s s' p e1 e2 h1 h2 g1 g2
theorem kit_sub {K : PySem.W.Frag} {C D : Addr} {b : Bool} (hd : PySem.W.hasDictIn K D = true) (ht : PySem.W.typeIn K (.ref D) = some (.type "type")) (hs : PySem.W.subIn K (.ref C) (.ref D) = some b) (h0 : PySem.W.subIn K (.ref D) (.ref D) = some true) : PySem.W.kitOne K (.ref C) (.ref D) = some b := by
  obtain ⟨cd, hc, _⟩ := PySem.W.any_some hd
  unfold PySem.W.kitOne
  split
  · rename_i e
    have e : C = D := Value.ref.inj (beq_iff_eq.mp e)
    subst e
    rw [hs] at h0
    exact h0.symm
  · show (if ((PySem.W.clsIn K D).isSome && PySem.W.typeIn K (.ref D) == some (.type "type")) = true then PySem.W.subIn K (.ref C) (.ref D) else none) = some b
    have e2 : ((PySem.W.clsIn K D).isSome && PySem.W.typeIn K (.ref D) == some (.type "type")) = true := by rw [hc, ht] <;> rfl
    rw [if_pos e2]
    exact hs
def sTry (B : DEnv → Res (Option D)) (Lx : List Str) (FS : Str → DEnv → Res D) : DEnv → SR := fun ρ => match B (viewAll ρ) with
  | .ok none => .next ρ
  | .ok (some d) => .ret d
  | .err c => if Lx.contains c = true then (match FS c ρ with
    | .ok d => .ret d
    | _ => .bad) else .bad
  | .bad => .bad
/-- what is known of the classes that may be caught -/
structure Caught (K : PySem.W.Frag) (mg : Str → Option Value) (Lx : List Str) (cL : Value) : Prop where
  ex : ∀ c u, Lx.contains c = true → mg c = some u → ∃ C, u = .ref C ∧ ExcC K C ∧ PySem.W.exmOne K (.ref C) cL = some true
section
variable {K : PySem.W.Frag} {mg : Str → Option Value} {X : Cx} {E : XK} {x n : Str} {c : Value} {i : Nat} {body suite : List Stmt} {b₀ : Stmt} {np pos pos' : Pos} {tb : WX → TS} {tsu : Addr → Addr → Str → TS} {Lx : List Str} {B : DEnv → Res (Option D)} {FSa : Addr → Str → DEnv → SR}
theorem sd_try {FS : Str → DEnv → Res D} (hN : X.N.Nodup) (hi : X.N[i]? = some n) (hc : Names X x c) (tk : Takes X (fun cls d _ H => E cls d H)) (hk : Caught K mg Lx c)
    (hFS : ∀ a c ρ d, FS c ρ = .ok d → FSa a c (ρ.set i (.raw (.ref a))) = .ret d)
    (hb : ∀ (W : WX) (pn : List (Addr × Obj)) (xe : Value → Shared → Prop), Takes (X.tr pn xe) W → BDs K mg (X.tr pn xe) W body (tb W) B)
    (hsu : ∀ (a : Addr) (oe : Obj) (C : Addr) (pn : List (Addr × Obj)) (c : Str), Zc (.ref C) none oe → (∃ vs, oe.data = .fields vs) → ExcC K C → mg c = some (.ref C) → Lx.contains c = true → SDs K mg (X.suite a ((a, oe) :: pn)) E0 (b₀ :: suite) (tsu a C c) (FSa a c))
    (hs : X.stack = X.env :: X.outer := by rfl) (hf : X.env.frame = some X.env.locals := by rfl) (hln : X.env.kindOf n = some .local := by rfl) (hK : X.K = K := by rfl) :
    SD K mg X E (.Try body [.ExceptHandler (some (.Name x np)) (some n) (b₀ :: suite) pos'] [] [] pos)
      (fun D σ H => tb (wAs K c i (fun a cls d N σ H => ∃ C k, cls = .ref C ∧ d = none ∧ ExcC K C ∧ mg k = some (.ref C) ∧ Lx.contains k = true ∧ tsu a C k N σ H) (fun cls d _ H => E cls d H) D) D σ H) (sTry B Lx FS) := by
  subst hK
  refine ⟨ps_try_as hs hf hN hi hln hc tk (fun W pn xe tkb _ => (hb W pn xe tkb).ps) (fun a oe cls d pn hz hfd => ⟨fun pins s σ H D I h => ?_⟩), fun S0 H0 S H σ ρ N r h => ?_⟩
  · obtain ⟨C, k, rfl, rfl, he, hm, hL, h⟩ := h
    exact (hsu a oe C pn k hz hfd he hm hL).ps.run pins s σ H D I h
  · refine (hb _ X.pn (fun u s' => False ∨ XE X (fun cls d _ H => E cls d H) u s' ∨ True) (fun _ _ _ => .inr (.inr trivial))).sd H σ (viewAll ρ) N r.relV ?_
    unfold sTry at h
    cases e1 : B (viewAll ρ) with
    | ok o =>
      rw [e1] at h
      cases o with
      | none => exact fun H' e => h S H' σ (Same.refl _) (r.grow e)
      | some d => exact fun v H' e dv => h v S H' ((r.grow e).x) (dv S)
    | bad => rw [e1] at h; exact h
    | err k =>
      rw [e1] at h
      dsimp only at h
      split at h
      · rename_i hL
        cases eF : FS k ρ with
        | ok d =>
          rw [eF] at h
          intro u H' hm e
          obtain ⟨C, rfl, he, hx⟩ := hk.ex k u hL hm
          refine ⟨true, hx, fun _ a ha => ⟨C, k, rfl, rfl, he, hm, hL, ?_⟩, fun z => nomatch z⟩
          have r2 : Rel X.K S0 H0 S H' (σ.set i (some (.ref a))) (ρ.set i (.raw (.ref a))) := (r.grow e).setRaw
          refine (hsu a { cls := .ref C, data := .fields #[] } C [] k ⟨rfl, rfl⟩ ⟨_, rfl⟩ he hm hL).sd S0 H0 S H' _ _ _ r2 ?_
          rw [hFS a k ρ d eF]
          exact h
        | err c => rw [eF] at h; exact h.elim
        | bad => rw [eF] at h; exact h.elim
      · exact h.elim
/-- isinstance(e, D), e the exception that the suite holds -/
def fIsE (i : Nat) (a : Addr) (b : Bool) : DEnv → Res D := fun ρ => match ρ[i]? with
  | some (.raw (.ref a')) => if a' = a then .ok (.bool b) else .bad
  | _ => .bad
theorem pd_isE {a C CD : Addr} {oe : Obj} {pn : List (Addr × Obj)} {xe xD : Str} {p1 p2 p3 : Pos} {b : Bool} (hC : ExcC X.K C) (hz : Zc (.ref C) none oe) (hf : ∃ vs, oe.data = .fields vs) (hkit : PySem.W.kitOne K (.ref C) (.ref CD) = some b) (hv : PE (X.suite a ((a, oe) :: pn)) (.Name xe p1) (tVar i))
    (hg : Gl X "isinstance") (hm : X.mg "isinstance" = none) (hgD : Gl X xD) (hmD : X.mg xD = some (.ref CD)) (hd : (xD == ("__debug__" : Str)) = false := by decide)
    (h1 : starEach [.Name xe p1, .Name xD p2] X.env = (false, eval (.Name xe p1) X.env) :: starEach [.Name xD p2] X.env := by rfl) (h2 : starEach [.Name xD p2] X.env = (false, eval (.Name xD p2) X.env) :: starEach [] X.env := by rfl) (hpl : (backTo pos (starEach [.Name xD p2] X.env)).any (·.1) = false := by rfl) (hK : X.K = K := by rfl) :
    PD K mg (X.suite a ((a, oe) :: pn)) E0 (.Call (.Name "isinstance" p3) [.Name xe p1, .Name xD p2] [] pos) (tCB (rIsE K C a) (tCons (tVar i) (tCons (tC (.ref CD)) tNil))) (fIsE i a b) := by
  subst hK
  refine ⟨pe_callB (X := X.suite a ((a, oe) :: pn)) (call_isE hC hz hf) hg hm bt_isinstance (pa_cons hv (pa_cons (pe_glob (v := .ref CD) hgD hmD rfl hd) pa_nil h2) h1) (by decide) (by decide) h1 hpl, fun S H σ ρ Q rl h => ?_⟩
  unfold fIsE at h
  split at h
  · rename_i a' e
    split at h
    · rename_i ea
      subst ea
      exact ⟨_, rl.rw _ _ e, _, _, b, rfl, fun u hu => hu, hkit, h.ok0 rl.sh rfl⟩
    · exact h.elim
  · exact h.elim
end
end PD
namespace PD
open PySem L2
/-! ### zip of three tuples -/
def Itz3 (K : PySem.W.Frag) (a b c : Addr) : It :=
  ⟨fun i H => ∃ (xs ys zs : List V) (x y z : V), SqT K H a xs ∧ SqT K H b ys ∧ SqT K H c zs ∧ xs[i]? = some x ∧ ys[i]? = some y ∧ zs[i]? = some z,
    fun i H v H' => ∃ T x y z, v = .ref T ∧ H T = none ∧ H' = upd H T (.tup [x, y, z]) ∧ (∀ xs, SqT K H a xs → xs[i]? = some x) ∧ (∀ ys, SqT K H b ys → ys[i]? = some y) ∧ ∀ zs, SqT K H c zs → zs[i]? = some z,
    fun i H => ∃ xs ys zs : List V, SqT K H a xs ∧ SqT K H b ys ∧ SqT K H c zs ∧ i = min (min xs.length ys.length) zs.length⟩
theorem lt_of_get {α : Type} {xs : List α} {i : Nat} {x : α} (h : xs[i]? = some x) : i < xs.length := (List.getElem?_eq_some_iff.mp h).1
theorem turn_zip3 {P : Program} {w : World} {K : PySem.W.Frag} {elts : List Expr} {kk : Nat} {tpos : Pos} {a b c z TI TO i1 i2 i3 : Addr} (D : ZipSep3 z TI TO i1 i2 i3 [i1, a] [i2, b] [i3, c]) (na : a ≠ i1) (nb : b ≠ i2) (nc : c ≠ i3) :
    Turn P w K (.Tuple elts kk tpos) (Itz3 K a b c) [z, TI, TO, i1, i2, i3] z (fun i h => IsZip h z TI TO .none ∧ IsTupOf3 h TI (.ref i1) (.ref i2) (.ref i3) ∧ (∃ x y u, IsTupOf3 h TO x y u) ∧ h.IsTupleIter i1 a i ∧ h.IsTupleIter i2 b i ∧ h.IsTupleIter i3 c i) where
  mem := by simp
  obj := fun i h st c' hc => by
    obtain ⟨hz, hTI, ⟨x, y, u, hTO⟩, ⟨o1, e1, _, d1⟩, ⟨o2, e2, _, d2⟩, ⟨o3, e3, _, d3⟩⟩ := st
    have e' : c' = z ∨ c' = TI ∨ c' = TO ∨ c' = i1 ∨ c' = i2 ∨ c' = i3 := by simpa using hc
    rcases e' with q | q | q | q | q | q
    · rw [q]; exact ⟨_, hz, fun v q => nomatch q⟩
    · rw [q]; exact ⟨_, hTI, fun v q => nomatch q⟩
    · rw [q]; exact ⟨_, hTO, fun v q => nomatch q⟩
    · rw [q]; exact ⟨o1, e1, fun v q => by rw [d1] at q; cases q⟩
    · rw [q]; exact ⟨o2, e2, fun v q => by rw [d2] at q; cases q⟩
    · rw [q]; exact ⟨o3, e3, fun v q => by rw [d3] at q; cases q⟩
  keep := fun i h h' st k => by
    obtain ⟨hz, hTI, ⟨x, y, u, hTO⟩, h1, h2, h3⟩ := st
    exact ⟨k z (by simp) _ hz, k TI (by simp) _ hTI, ⟨x, y, u, k TO (by simp) _ hTO⟩, h1.at fun o q => k i1 (by simp) o q, h2.at fun o q => k i2 (by simp) o q, h3.at fun o q => k i3 (by simp) o q⟩
  item := by
    intro X hP hw hK hc i pins s σ H E I hf st hg
    subst hP hw hK
    obtain ⟨hz, hTI, hTO, h1, h2, h3⟩ := st
    obtain ⟨xs, ys, zs, x, y, u, hqx, hqy, hqz, hx, hy, hu⟩ := hg
    obtain ⟨its, rv, p, _⟩ := I.tuple hqx
    obtain ⟨its2, rv2, p2, _⟩ := I.tuple hqy
    obtain ⟨its3, rv3, p3, _⟩ := I.tuple hqz
    obtain ⟨u1, hu1, ru1⟩ := rv.get hx
    obtain ⟨u2, hu2, ru2⟩ := rv2.get hy
    obtain ⟨u3, hu3, ru3⟩ := rv3.get hu
    have hh : X.A.in1.handled = none := I.ok.hd hc
    have W := WalksT.zipD3 (prog := X.prog) (w := X.w) (A := X.A) D (Draws.tuple hh i1 a na its.toArray) (Draws.tuple hh i2 b nb its2.toArray) (Draws.tuple hh i3 c nc its3.toArray)
    have hlt : i < min (min its.toArray.size its2.toArray.size) its3.toArray.size := by
      have a1 := lt_of_get hu1
      have a2 := lt_of_get hu2
      have a3 := lt_of_get hu3
      simp only [List.size_toArray]
      omega
    refine W.item i s _ _ hlt ⟨hz, hTI, hTO, ⟨h1, p⟩, ⟨h2, p2⟩, h3, p3⟩ fun T vals h' tk hP hT hTu hM hk => ?_
    obtain ⟨v1, v2, v3, e1, e2, e3, rfl⟩ := hP
    have q1 : u1 = v1 := Option.some.inj (hu1.symm.trans (by simpa using e1))
    have q2 : u2 = v2 := Option.some.inj (hu2.symm.trans (by simpa using e2))
    have q3 : u3 = v3 := Option.some.inj (hu3.symm.trans (by simpa using e3))
    subst q1 q2 q3
    refine ⟨_, rfl, W.go elts kk tpos i T { s with heap := h', toks := tk } _ _ hM fun h'' st'' hk2 => ?_⟩
    have nT : T ∉ [z, TO, i1, i2, i3] := W.apart i T h' hM
    have hT2 : h''.IsTuple T #[u1, u2, u3] := hTu.at fun o e => hk2 T o nT e
    have new : ObjOk X.prog X.w (upd H T (.tup [x, y, u])) h'' T (.tup [x, y, u]) :=
      ⟨by show 3 ≤ sizeLine; decide, [u1, u2, u3], .cons ru1 (.cons ru2 (.cons ru3 .nil)), hT2⟩
    have sub : ∀ b', b' ∉ [z, TI, TO, i1, i2, i3] → b' ∉ [z, TO, i1, i2, i3] := fun b' hb hm => hb (by
      have e' : b' = z ∨ b' = TO ∨ b' = i1 ∨ b' = i2 ∨ b' = i3 := by simpa using hm
      rcases e' with q | q | q | q | q <;> simp [q])
    have I1 : Inv X pins σ (upd H T (.tup [x, y, u])) { s with heap := h'', toks := tk } :=
      I.turnedNew (t' := tk) (ch := [z, TI, TO, i1, i2, i3]) (fun b' o hb q => hk2 b' o (sub b' hb) (hk b' o (sub b' hb) q)) hf hT new
    obtain ⟨hz', hTI', hTO', ⟨h1', _⟩, ⟨h2', _⟩, h3', _⟩ := st''
    refine ⟨.ref T, _, I1, rfl, ⟨T, x, y, u, rfl, I.hok.fresh hT, rfl, fun l hl => by rw [I.tuple_inj hl hqx]; exact hx, fun l hl => by rw [I.tuple_inj hl hqy]; exact hy, fun l hl => by rw [I.tuple_inj hl hqz]; exact hu⟩, ⟨hz', hTI', hTO', h1', h2', h3'⟩, fun c' hcm => ?_⟩
    have hlt : c' < s.heap.objs.size := by
      obtain ⟨x0, y0, u0, hTO⟩ := hTO
      have e' : c' = z ∨ c' = TI ∨ c' = TO ∨ c' = i1 ∨ c' = i2 ∨ c' = i3 := by simpa using hcm
      rcases e' with q | q | q | q | q | q
      · rw [q]; exact Heap.lt_size hz
      · rw [q]; exact Heap.lt_size hTI
      · rw [q]; exact Heap.lt_size hTO
      · rw [q]; obtain ⟨_, e1, _⟩ := h1; exact Heap.lt_size e1
      · rw [q]; obtain ⟨_, e2, _⟩ := h2; exact Heap.lt_size e2
      · rw [q]; obtain ⟨_, e3, _⟩ := h3; exact Heap.lt_size e3
    rw [upd_ne (Nat.ne_of_lt (Nat.lt_of_lt_of_le hlt hT))]
    exact (hf c' hcm).1
  done := by
    intro X hP hw hK hc i pins s σ H E I hf st hg
    subst hP hw hK
    obtain ⟨hz, hTI, hTO, h1, h2, h3⟩ := st
    obtain ⟨xs, ys, zs, hqx, hqy, hqz, hend⟩ := hg
    obtain ⟨its, rv, p, _⟩ := I.tuple hqx
    obtain ⟨its2, rv2, p2, _⟩ := I.tuple hqy
    obtain ⟨its3, rv3, p3, _⟩ := I.tuple hqz
    have hh : X.A.in1.handled = none := I.ok.hd hc
    have W := WalksT.zipD3 (prog := X.prog) (w := X.w) (A := X.A) D (Draws.tuple hh i1 a na its.toArray) (Draws.tuple hh i2 b nb its2.toArray) (Draws.tuple hh i3 c nc its3.toArray)
    have hi : i = min (min its.toArray.size its2.toArray.size) its3.toArray.size := by
      rw [hend, rv.length, rv2.length, rv3.length]
      simp only [List.size_toArray]
    subst hi
    refine W.done s _ _ ⟨hz, hTI, hTO, ⟨h1, p⟩, ⟨h2, p2⟩, h3, p3⟩ fun h' tk hk => ⟨rfl, I.turnedL (t' := tk) (ch := [z, TI, TO, i1, i2, i3]) (fun b' o hb q => hk b' o (fun hm => hb ?_) q) hf⟩
    have e' : b' = z ∨ b' = TO ∨ b' = i1 ∨ b' = i2 ∨ b' = i3 := by simpa using hm
    rcases e' with q | q | q | q | q <;> simp [q]
  self := fun A i s Q E st h => wpAny_pyIter_zip st.1 h
def iZip3 (K : PySem.W.Frag) (ta : TA) : TI := fun σ H R => ta σ H fun vs H1 => ∃ a b c xs ys zs, vs = [.ref a, .ref b, .ref c] ∧ SqT K H1 a xs ∧ SqT K H1 b ys ∧ SqT K H1 c zs ∧ R (Itz3 K a b c) H1
theorem pi_zip3 {X : Cx} {e e2 e3 : Expr} {ta : TA} {p pos tpos : Pos} {elts : List Expr} {kk : Nat} (hg : Gl X "zip") (hm : X.mg "zip" = none) (ha : PA X [e, e2, e3] ta)
    (hs : starEach [e, e2, e3] X.env = (false, eval e X.env) :: starEach [e2, e3] X.env := by rfl) (hpl : (backTo pos (starEach [e2, e3] X.env)).any (·.1) = false := by rfl) :
    PI X (.Tuple elts kk tpos) (.Call (.Name "zip" p) [e, e2, e3] [] pos) (iZip3 X.K ta) := by
  refine ⟨fun pins s σ H R I h => ?_⟩
  refine PyProof.Rows.Call_ (ld_blt I hg hm PyProof.Rows.boot_zip (PyProof.Rows.callWith_type1 (thn (ha.run pos pins s σ H _ I h) fun us s1 ⟨vs, H1, I1, r1, q1⟩ => ?_) hs hpl))
  obtain ⟨a, b, c, xs, ys, zs, ex, hqx, hqy, hqz, q⟩ := q1
  subst ex
  cases r1 with
  | cons r rr =>
    cases rr with
    | cons r' rr =>
      cases rr with
      | cons r'' rr =>
        cases rr
        cases r
        cases r'
        cases r''
        obtain ⟨its, rv, p1, _⟩ := I1.tuple hqx
        obtain ⟨its2, rv2, p2, _⟩ := I1.tuple hqy
        obtain ⟨its3, rv3, p3, _⟩ := I1.tuple hqz
        obtain ⟨o1, ho1, _⟩ := id p1
        obtain ⟨o2, ho2, _⟩ := id p2
        obtain ⟨o3, ho3, _⟩ := id p3
        have la : a < s1.heap.objs.size := Heap.lt_size ho1
        have lb : b < s1.heap.objs.size := Heap.lt_size ho2
        have lc : c < s1.heap.objs.size := Heap.lt_size ho3
        refine zip_begins3 (begins_tuple a its.toArray) (begins_tuple b its2.toArray) (begins_tuple c its3.toArray) p1 p2 p3 fun h' hz hTI hTO g1 g2 g3 hsz hk => wpAny_pyIter_zip hz ?_
        have I2 : Inv X pins σ H1 { s1 with heap := h' } := I1.kept (t' := s1.toks) hk
        have D : ZipSep3 (s1.heap.objs.size + 5) (s1.heap.objs.size + 3) (s1.heap.objs.size + 4) s1.heap.objs.size (s1.heap.objs.size + 1) (s1.heap.objs.size + 2) [s1.heap.objs.size, a] [s1.heap.objs.size + 1, b] [s1.heap.objs.size + 2, c] :=
          zip_sep3 (fun x hx => by rw [List.mem_singleton.mp hx]; exact la) (fun x hx => by rw [List.mem_singleton.mp hx]; exact lb) (fun x hx => by rw [List.mem_singleton.mp hx]; exact lc)
        refine ⟨s1.heap.objs.size + 5, [s1.heap.objs.size + 5, s1.heap.objs.size + 3, s1.heap.objs.size + 4, s1.heap.objs.size, s1.heap.objs.size + 1, s1.heap.objs.size + 2], _, _, H1, rfl, I2,
          turn_zip3 D (Nat.ne_of_lt la) (Nat.ne_of_lt (Nat.lt_succ_of_lt lb)) (Nat.ne_of_lt (Nat.lt_succ_of_lt (Nat.lt_succ_of_lt lc))), ⟨hz, hTI, ⟨_, _, _, hTO⟩, ⟨_, g1, rfl, rfl⟩, ⟨_, g2, rfl, rfl⟩, ⟨_, g3, rfl, rfl⟩⟩, fun x hx => ?_, q⟩
        have e' : x = s1.heap.objs.size + 5 ∨ x = s1.heap.objs.size + 3 ∨ x = s1.heap.objs.size + 4 ∨ x = s1.heap.objs.size ∨ x = s1.heap.objs.size + 1 ∨ x = s1.heap.objs.size + 2 := by simpa using hx
        have hle : s1.heap.objs.size ≤ x := by
          rcases e' with z | z | z | z | z | z
          · rw [z]; exact Nat.le_add_right _ _
          · rw [z]; exact Nat.le_add_right _ _
          · rw [z]; exact Nat.le_add_right _ _
          · rw [z]; exact Nat.le_refl _
          · rw [z]; exact Nat.le_add_right _ _
          · rw [z]; exact Nat.le_add_right _ _
        exact I1.fpOk hle (I1.hok.fresh hle)
def zip3D : List D → List D → List D → List D
  | x :: xs, y :: ys, z :: zs => .tuple [x, y, z] :: zip3D xs ys zs
  | _, _, _ => []
theorem zip3D_get : ∀ {xs ys zs : List D} {i : Nat} {d : D}, (zip3D xs ys zs)[i]? = some d → ∃ x y z, xs[i]? = some x ∧ ys[i]? = some y ∧ zs[i]? = some z ∧ d = .tuple [x, y, z]
  | x :: xs, y :: ys, z :: zs, 0, d, h => ⟨x, y, z, rfl, rfl, rfl, (Option.some.inj h).symm⟩
  | x :: xs, y :: ys, z :: zs, i + 1, d, h => zip3D_get (xs := xs) (ys := ys) (zs := zs) (i := i) h
  | [], _, _, _, _, h => by simp [zip3D] at h
  | _ :: _, [], _, _, _, h => by simp [zip3D] at h
  | _ :: _, _ :: _, [], _, _, h => by simp [zip3D] at h
theorem zip3D_len : ∀ (xs ys zs : List D), (zip3D xs ys zs).length = min (min xs.length ys.length) zs.length
  | x :: xs, y :: ys, z :: zs => by show (zip3D xs ys zs).length + 1 = min (min (xs.length + 1) (ys.length + 1)) (zs.length + 1); rw [zip3D_len xs ys zs]; omega
  | [], ys, zs => by simp [zip3D]
  | _ :: _, [], _ => by simp [zip3D]
  | _ :: _, _ :: _, [] => by simp [zip3D]
theorem walks_zip3 {K : PySem.W.Frag} {S : Hp} {a b c : Addr} {us ws ts : List V} {ds es fs : List D} (h1 : SqT K S a us) (h2 : DVs K S us ds) (h3 : SqT K S b ws) (h4 : DVs K S ws es) (h5 : SqT K S c ts) (h6 : DVs K S ts fs) : Walks K S (Itz3 K a b c) (zip3D ds es fs) := fun S' H' e1 e2 => by
  have q1 : SqT K H' a us := same_t (e1.trans e2) h1
  have q2 : SqT K H' b ws := same_t (e1.trans e2) h3
  have q3 : SqT K H' c ts := same_t (e1.trans e2) h5
  refine ⟨fun i d hi => ?_, us, ws, ts, q1, q2, q3, ?_⟩
  · obtain ⟨x, y, z, g1, g2, g3, rfl⟩ := zip3D_get hi
    obtain ⟨v, k1, k2⟩ := h2.get g1
    obtain ⟨w, k3, k4⟩ := h4.get g2
    obtain ⟨t, k5, k6⟩ := h6.get g3
    refine ⟨⟨us, ws, ts, v, w, t, q1, q2, q3, k1, k3, k5⟩, fun x' H'' hy => ?_⟩
    obtain ⟨T, x1, x2, x3, rfl, nT, rfl, f1, f2, f3⟩ := hy
    have ex : x1 = v := Option.some.inj ((f1 _ q1).symm.trans k1)
    have ey : x2 = w := Option.some.inj ((f2 _ q2).symm.trans k3)
    have ez : x3 = t := Option.some.inj ((f3 _ q3).symm.trans k5)
    subst ex ey ez
    have sm : Same S (upd S' T (.tup [x1, x2, x3])) := e1.trans (same_upd (e2.free nT))
    exact ⟨_, Ext.new e2 nT, T, [x1, x2, x3], rfl, tp_of upd_same, k2.mono sm, k4.mono sm, k6.mono sm, trivial⟩
  · rw [zip3D_len, h2.length, h4.length, h6.length]
def gZip3 : List D → Res (List D)
  | [.tuple xs, .tuple ys, .tuple zs] => .ok (zip3D xs ys zs)
  | _ => .bad
section
variable {K : PySem.W.Frag} {mg : Str → Option Value} {X : Cx} {E : XK} {e e2 e3 : Expr} {ta : TA} {ga : DEnv → Res (List D)} {p pos tpos : Pos} {elts : List Expr} {kk : Nat}
theorem id_zip3 (hg : Gl X "zip") (hm : X.mg "zip" = none) (ha : AD K mg X E [e, e2, e3] ta ga) (hs : starEach [e, e2, e3] X.env = (false, eval e X.env) :: starEach [e2, e3] X.env := by rfl) (hpl : (backTo pos (starEach [e2, e3] X.env)).any (·.1) = false := by rfl) (hK : X.K = K := by rfl) :
    ID K mg X E (.Tuple elts kk tpos) (.Call (.Name "zip" p) [e, e2, e3] [] pos) (iZip3 K ta) (fRng gZip3 ga) := ⟨hK ▸ pi_zip3 hg hm ha.pe hs hpl, fun S H σ ρ R rl h => by
  refine ha.sd S H σ ρ _ rl (h.bind fun ds vs S1 H1 x1 d1 h1 => ?_)
  unfold gZip3 at h1
  split at h1
  · obtain ⟨v, w, u, rfl, hv, hw, hu⟩ := dvs3 d1
    rw [DV] at hv hw hu
    obtain ⟨a, us, rfl, k1, k2⟩ := hv
    obtain ⟨b, ws, rfl, k3, k4⟩ := hw
    obtain ⟨c, ts, rfl, k5, k6⟩ := hu
    exact ⟨a, b, c, us, ws, ts, rfl, same_t x1.sh k1.1, same_t x1.sh k3.1, same_t x1.sh k5.1, h1.ok0 x1.sh (walks_zip3 k1.1 k2 k3.1 k4 k5.1 k6)⟩
  · exact h1.elim⟩
end
/-! ### enumerate of a list -/
def enumD (n : Nat) : List D → List D
  | [] => []
  | x :: xs => .tuple [.int (n : Int), x] :: enumD (n + 1) xs
theorem enumD_get : ∀ {xs : List D} {n i : Nat} {d : D}, (enumD n xs)[i]? = some d → ∃ x, xs[i]? = some x ∧ d = .tuple [.int ((n + i : Nat) : Int), x]
  | x :: xs, n, 0, d, h => ⟨x, rfl, (Option.some.inj h).symm⟩
  | x :: xs, n, i + 1, d, h => by
    obtain ⟨y, h1, h2⟩ := enumD_get (xs := xs) (n := n + 1) (i := i) h
    refine ⟨y, h1, ?_⟩
    rw [h2, show n + 1 + i = n + (i + 1) from by omega]
  | [], _, _, _, h => by simp [enumD] at h
theorem enumD_len : ∀ (xs : List D) (n : Nat), (enumD n xs).length = xs.length
  | [], _ => rfl
  | x :: xs, n => by show (enumD (n + 1) xs).length + 1 = _; rw [enumD_len xs]; rfl
theorem walks_enum {K : PySem.W.Frag} {S : Hp} {a : Addr} {us : List V} {ds : List D} (h1 : LsAt K S a us) (h2 : DVs K S us ds) : Walks K S (Ite K a) (enumD 0 ds) := fun S' H' e1 e2 => by
  have q1 : SqL K H' a us := ls_sq (ls_mono (e1.trans e2) h1)
  refine ⟨fun i d hi => ?_, us, q1, by rw [enumD_len, h2.length]; exact Nat.le_refl _⟩
  obtain ⟨x, g1, rfl⟩ := enumD_get hi
  obtain ⟨v, k1, k2⟩ := h2.get g1
  refine ⟨⟨us, v, q1, k1⟩, fun x' H'' hy => ?_⟩
  obtain ⟨T, x1, rfl, nT, rfl, f1⟩ := hy
  have ex : x1 = v := Option.some.inj ((f1 _ q1).symm.trans k1)
  subst ex
  have sm : Same S (upd S' T (.tup [.int (i : Nat), x1])) := e1.trans (same_upd (e2.free nT))
  exact ⟨_, Ext.new e2 nT, T, [.int (i : Nat), x1], rfl, tp_of upd_same, by show V.int (i : Nat) = V.int ((0 + i : Nat) : Int); rw [Nat.zero_add], k2.mono sm, trivial⟩
def gEnum : List D → Res (List D)
  | [.list xs] => .ok (enumD 0 xs)
  | _ => .bad
section
variable {K : PySem.W.Frag} {mg : Str → Option Value} {X : Cx} {E : XK} {e : Expr} {ta : TA} {ga : DEnv → Res (List D)} {p pos tpos : Pos} {elts : List Expr} {kk : Nat}
theorem id_enum (hg : Gl X "enumerate") (hm : X.mg "enumerate" = none) (ha : AD K mg X E [e] ta ga) (hs : starEach [e] X.env = [(false, eval e X.env)] := by rfl) (hK : X.K = K := by rfl) :
    ID K mg X E (.Tuple elts kk tpos) (.Call (.Name "enumerate" p) [e] [] pos) (iEnum K ta) (fRng gEnum ga) := ⟨hK ▸ pi_enum hg hm ha.pe hs, fun S H σ ρ R rl h => by
  refine ha.sd S H σ ρ _ rl (h.bind fun ds vs S1 H1 x1 d1 h1 => ?_)
  unfold gEnum at h1
  split at h1
  · obtain ⟨v, rfl, hv⟩ := dvs1 d1
    rw [DV] at hv
    obtain ⟨a, us, rfl, k1, k2⟩ := hv
    exact ⟨a, us, rfl, ls_sq (ls_mono x1.sh k1), h1.ok0 x1.sh (walks_enum k1 k2)⟩
  · exact h1.elim⟩
end
/-! ### x, y, z = a, [], [], where a target is captured: by a tuple -/
section
variable {K : PySem.W.Frag} {mg : Str → Option Value} {X : Cx} {E : XK} {ts es : List Expr} {t : TA} {gg : TGs} {is : List Nat} {g : DEnv → Res (List Slot)} {pos pt pt2 : Pos} {kt k2 : Nat} {n : Nat}
theorem sd_asgZ (hc : X.calm = true) (hz : ZD K mg X E es t g) (hg : GDs X ts gg is) (hn : (assignEach ts X.env).length = n := by rfl) (hst : (assignEach ts X.env).findIdx? (·.1) = none := by rfl) (hl : is.length = n := by rfl) (hz2 : is.length ≤ 100 := by decide) (hK : X.K = K := by rfl)
    (hs : swapsWithSole [.Tuple ts kt pt] (.Tuple es k2 pt2) pos.line X.env = pure false := by rfl) (hw : swappedStores [.Tuple ts kt pt] (.Tuple es k2 pt2) X.env = pure none := by rfl) (h1 : (assignEach [.Tuple ts kt pt] X.env).map (·.2) = [assign (.Tuple ts kt pt) X.env] := by rfl) :
    SD K mg X E (.Assign [.Tuple ts kt pt] (.Tuple es k2 pt2) pos) (tAsg (tTup t) (gTup K n gg)) (sPar g is) := ⟨ps_asg (pe_tup hz.pe) (hK ▸ pg_tup hc hg.pg hn hst) hs hw h1, fun S0 H0 S H σ ρ N r h => by
  refine hz.sd S H σ ρ _ r.relE (posts_of r h fun ss vs S' H' x' q h => ?_)
  split at h
  · rename_i hsl
    have lv : vs.length = is.length := q.length.trans hsl
    refine ⟨by rw [lv, sizeLine_eq]; omega, fun p hp => ?_⟩
    have sm : Same H' (upd H' p (.tup vs)) := same_upd hp
    refine ⟨p, vs, rfl, SqT.of upd_same, by rw [lv, hl], hg.sd _ vs σ _ lv ?_⟩
    exact h S' _ _ x'.s ((r.slots x' q is).grow sm)
  · exact h.elim⟩
end
end PD
namespace PD
open PySem L2
/-! ### dicts whose keys are ints or texts -/
def toKey : D → Option Key
  | .int i => some (.inl i)
  | .str x => some (.inr x)
  | _ => none
theorem toKey_kD (k : Key) : toKey (kD k) = some k := by cases k <;> rfl
theorem toKey_dv {K : PySem.W.Frag} {S : Hp} {v : V} {d : D} {k : Key} (h : DV K S v d) (e : toKey d = some k) : v = kV k := by
  cases d with
  | int i => cases e; exact h
  | str x => cases e; exact h
  | _ => cases e
/-- what stands at a key -/
def dAt : List (D × D) → Key → Option D
  | [], _ => none
  | (a, d) :: r, k => if toKey a = some k then some d else dAt r k
theorem dAt_val {K : PySem.W.Frag} {S : Hp} (k : Key) : ∀ {kvs : List (D × D)} {es : List (Key × V)}, kvs.map (·.1) = es.map (fun e => kD e.1) → DVp K S (es.map (·.2)) kvs → (dAt kvs k = none ∧ valV es k = none) ∨ ∃ d v, dAt kvs k = some d ∧ valV es k = some v ∧ DV K S v d
  | [], [], _, _ => .inl ⟨rfl, rfl⟩
  | (a, d) :: r, (e, v) :: es, hk, hd => by
    have h1 : a = kD e := (List.cons.inj hk).1
    have h2 : r.map (·.1) = es.map (fun e => kD e.1) := (List.cons.inj hk).2
    rw [List.map_cons, DVp] at hd
    by_cases he : e = k
    · refine .inr ⟨d, v, ?_, valV_pos he, hd.1⟩
      unfold dAt
      rw [h1, toKey_kD, he, if_pos rfl]
    · have e1 : dAt ((a, d) :: r) k = dAt r k := by
        conv => lhs; unfold dAt
        rw [h1, toKey_kD, if_neg (fun z => he (Option.some.inj z))]
      have e2 : valV ((e, v) :: es) k = valV es k := by
        unfold valV
        rw [List.find?_cons]
        have : decide ((e, v).1 = k) = false := decide_eq_false he
        rw [this]
      rw [e1, e2]
      exact dAt_val k h2 hd.2
  | [], _ :: _, hk, _ => by cases hk
  | _ :: _, [], hk, _ => by cases hk
theorem dv_dict {K : PySem.W.Frag} {S : Hp} {v : V} {kvs : List (D × D)} (h : DV K S v (.dict kvs)) : ∃ a, v = .ref a ∧ ((∃ es : List (Key × V), Rd S a (.dK es) ∧ kvs.map (·.1) = es.map (fun e => kD e.1) ∧ DVp K S (es.map (·.2)) kvs) ∨
      (∃ es : List (List Key × V), Rd S a (.dT es) ∧ kvs.map (·.1) = es.map (fun e => PyData.tuple (e.1.map kD)) ∧ DVp K S (es.map (·.2)) kvs)) := by
  rw [DV] at h
  exact h
/-- a dict with keys that are ints or texts -/
def plainK : List (D × D) → Bool
  | [] => true
  | (a, _) :: r => (toKey a).isSome && plainK r
theorem plain_of {K : PySem.W.Frag} {S : Hp} {a : Addr} {kvs : List (D × D)} (hp : plainK kvs = true) (hn : kvs ≠ []) (h : (∃ es : List (Key × V), Rd S a (.dK es) ∧ kvs.map (·.1) = es.map (fun e => kD e.1) ∧ DVp K S (es.map (·.2)) kvs) ∨
      (∃ es : List (List Key × V), Rd S a (.dT es) ∧ kvs.map (·.1) = es.map (fun e => PyData.tuple (e.1.map kD)) ∧ DVp K S (es.map (·.2)) kvs)) : ∃ es : List (Key × V), Rd S a (.dK es) ∧ kvs.map (·.1) = es.map (fun e => kD e.1) ∧ DVp K S (es.map (·.2)) kvs := by
  rcases h with h | ⟨es, h1, h2, h3⟩
  · exact h
  · cases kvs with
    | nil => exact absurd rfl hn
    | cons kv r =>
      obtain ⟨x, d⟩ := kv
      cases es with
      | nil => cases h2
      | cons e es =>
        have h4 : x = PyData.tuple (e.1.map kD) := (List.cons.inj h2).1
        subst h4
        unfold plainK at hp
        cases hp
theorem same_rd {S H : Hp} {a : Addr} {u : HO} (e : Same S H) (h : Rd S a u) : Rd H a u := rd_same e h
section
variable {K : PySem.W.Frag} {mg : Str → Option Value} {X : Cx} {E : XK} {o i e f : Expr} {td ty tx te : TE} {fd fk fx ff : DEnv → Res D} {pos : Pos}
/-! d[k] -/
def gDix : D → D → Res D
  | .dict kvs, kd => if (plainK kvs && !kvs.isEmpty) = true then (match toKey kd with
    | some k => (match dAt kvs k with
      | some d => .ok d
      | none => .bad)
    | none => .bad) else .bad
  | _, _ => .bad
theorem hu1 {A : Around} (h : A.units + 65 < cLine) : A.units + 1 < cLine := by omega
theorem ne_emp {kvs : List (D × D)} (h : (!kvs.isEmpty) = true) : kvs ≠ [] := fun z => by subst z; cases h
theorem pd_dget (hu : X.A.units + 65 < cLine) (hd : PD K mg X E o td fd) (hk : PD K mg X E i ty fk) (hs : NoSl i := by exact fun _ _ => rfl) : PD K mg X E (.Subscript o i pos) (tDGet td ty) (fBin gDix fd fk) := ⟨pe_dget (hu1 hu) hd.pe hk.pe hs, fun S H σ ρ Q rl h => by
  refine hd.sd S H σ ρ _ rl (h.bind fun d v S1 H1 x1 d1 h1 => ?_)
  refine hk.sd S1 H1 σ ρ _ (rl.mono x1) (h1.bind fun kd y S2 H2 x2 d2 h2 => ?_)
  unfold gDix at h2
  split at h2
  · rename_i kvs
    split at h2
    · rename_i c
      obtain ⟨c1, c2⟩ := and_split c
      cases ek : toKey kd with
      | none => rw [ek] at h2; exact h2.elim
      | some k =>
        rw [ek] at h2
        dsimp only at h2
        cases ed : dAt kvs k with
        | none => rw [ed] at h2; exact h2.elim
        | some dd =>
          rw [ed] at h2
          obtain ⟨a, rfl, q⟩ := dv_dict (d1.mono x2.s)
          obtain ⟨es, g1, g2, g3⟩ := plain_of c1 (ne_emp c2) q
          rcases dAt_val k g2 g3 with ⟨z, _⟩ | ⟨d', v', z1, z2, z3⟩
          · rw [z] at ed; cases ed
          · rw [z1] at ed
            cases ed
            exact ⟨a, v', rfl, .inl ⟨es, k, same_rd x2.sh g1, toKey_dv d2 ek, z2.symm⟩, h2.ok0 x2.sh z3⟩
    · exact h2.elim
  · exact h2.elim⟩
/-! k in d, k not in d -/
def gDin (neg : Bool) (kd d : D) : Res D := match d with
  | .dict kvs => if (plainK kvs && !kvs.isEmpty) = true then (match toKey kd with
    | some k => .ok (.bool (if neg then !(dAt kvs k).isSome else (dAt kvs k).isSome))
    | none => .bad) else .bad
  | _ => .bad
theorem din_sd (neg : Bool) (hk : PD K mg X E i ty fk) (hd : PD K mg X E o td fd) (S H : Hp) (σ : L2.St) (ρ : DEnv) (Q : VK) (rl : RelE K S H σ ρ) (h : PostG mg E S H (DV K) (fBin (gDin neg) fk fd ρ) Q) :
    ty σ H fun y H1 => td σ H1 fun x H2 => ∃ a o, x = .ref a ∧ DGet H2 a y o ∧ Q (.bl (if neg then !o.isSome else o.isSome)) H2 := by
  refine hk.sd S H σ ρ _ rl (h.bind fun kd y S1 H1 x1 d1 h1 => ?_)
  refine hd.sd S1 H1 σ ρ _ (rl.mono x1) (h1.bind fun d v S2 H2 x2 d2 h2 => ?_)
  unfold gDin at h2
  split at h2
  · rename_i kvs
    split at h2
    · rename_i c
      obtain ⟨c1, c2⟩ := and_split c
      cases ek : toKey kd with
      | none => rw [ek] at h2; exact h2.elim
      | some k =>
        rw [ek] at h2
        dsimp only at h2
        obtain ⟨a, rfl, q⟩ := dv_dict d2
        obtain ⟨es, g1, g2, g3⟩ := plain_of c1 (ne_emp c2) q
        refine ⟨a, valV es k, rfl, .inl ⟨es, k, same_rd x2.sh g1, toKey_dv (d1.mono x2.s) ek, rfl⟩, ?_⟩
        have e : (valV es k).isSome = (dAt kvs k).isSome := by
          rcases dAt_val k g2 g3 with ⟨z1, z2⟩ | ⟨d', v', z1, z2, z3⟩
          · rw [z1, z2]; rfl
          · rw [z1, z2]; rfl
        rw [e]
        exact h2.ok0 x2.sh rfl
    · exact h2.elim
  · exact h2.elim
theorem pd_din (hu : X.A.units + 65 < cLine) (hk : PD K mg X E i ty fk) (hd : PD K mg X E o td fd) (hm : behindInMarks .In o = false := by rfl) : PD K mg X E (.Compare i [.In] [o] pos) (tDIn ty td) (fBin (gDin false) fk fd) := ⟨pe_cmp (pc_din (hu1 hu) hk.pe hd.pe) hm, din_sd false hk hd⟩
theorem pd_dnotin (hu : X.A.units + 65 < cLine) (hk : PD K mg X E i ty fk) (hd : PD K mg X E o td fd) (hm : behindInMarks .NotIn o = false := by rfl) : PD K mg X E (.Compare i [.NotIn] [o] pos) (tDNotIn ty td) (fBin (gDin true) fk fd) := ⟨pe_cmp (pc_dnotin (hu1 hu) hk.pe hd.pe) hm, din_sd true hk hd⟩
theorem td_din (hu : X.A.units + 65 < cLine) (hk : PD K mg X E i ty fk) (hd : PD K mg X E o td fd) (hm : behindInMarks .In o = false := by rfl) : TD K mg X E (.Compare i [.In] [o] pos) (tTest (tDIn ty td)) (fTest (fBin (gDin false) fk fd)) := ⟨pt_cmp (pc_din (hu1 hu) hk.pe hd.pe) hm, fun S H σ ρ Q rl h => test_sd (pd_din (pos := pos) hu hk hd hm) S H σ ρ Q rl h⟩
theorem td_dnotin (hu : X.A.units + 65 < cLine) (hk : PD K mg X E i ty fk) (hd : PD K mg X E o td fd) (hm : behindInMarks .NotIn o = false := by rfl) : TD K mg X E (.Compare i [.NotIn] [o] pos) (tTest (tDNotIn ty td)) (fTest (fBin (gDin true) fk fd)) := ⟨pt_cmp (pc_dnotin (hu1 hu) hk.pe hd.pe) hm, fun S H σ ρ Q rl h => test_sd (pd_dnotin (pos := pos) hu hk hd hm) S H σ ρ Q rl h⟩
/-! d.get(k, x) -/
def asDict : D → Res (List (D × D))
  | .dict kvs => if plainK kvs = true then .ok kvs else .bad
  | _ => .bad
def gGet2 (kvs : List (D × D)) (kd x : D) : Res D := match toKey kd with
  | some k => .ok ((dAt kvs k).getD x)
  | none => .bad
def fGet2 (fd fk fx : DEnv → Res D) : DEnv → Res D := fun ρ => (fd ρ).bind fun d => (asDict d).bind fun kvs => (fk ρ).bind fun kd => (fx ρ).bind fun x => gGet2 kvs kd x
theorem dk_of_plain {S : Hp} {a : Addr} {kvs : List (D × D)} (hp : plainK kvs = true) (h : (∃ es : List (Key × V), Rd S a (.dK es) ∧ kvs.map (·.1) = es.map (fun e => kD e.1) ∧ DVp K S (es.map (·.2)) kvs) ∨
      (∃ es : List (List Key × V), Rd S a (.dT es) ∧ kvs.map (·.1) = es.map (fun e => PyData.tuple (e.1.map kD)) ∧ DVp K S (es.map (·.2)) kvs)) : (∃ es : List (Key × V), Rd S a (.dK es) ∧ kvs.map (·.1) = es.map (fun e => kD e.1) ∧ DVp K S (es.map (·.2)) kvs) ∨ (kvs = [] ∧ Rd S a (.dT [])) := by
  by_cases hn : kvs = []
  · subst hn
    rcases h with h | ⟨es, h1, h2, h3⟩
    · exact .inl h
    · cases es with
      | nil => exact .inr ⟨rfl, h1⟩
      | cons _ _ => cases h2
  · exact .inl (plain_of hp hn h)
end
end PD
namespace PD
open PySem L2
/-! ### expressions and tests that may read what a slot owns -/
structure PDO (K : PySem.W.Frag) (mg : Str → Option Value) (X : Cx) (E : XK) (e : Expr) (t : TE) (f : DEnv → Res D) : Prop where
  pe : PE X e t
  sd : ∀ (S0 H0 S H : Hp) (σ : L2.St) (ρ : DEnv) (Q : VK), Rel K S0 H0 S H σ ρ → PostG mg E S H (DV K) (f ρ) Q → t σ H Q
structure TDO (K : PySem.W.Frag) (mg : Str → Option Value) (X : Cx) (E : XK) (e : Expr) (t : TT) (f : DEnv → Res Bool) : Prop where
  pe : PT X e t
  sd : ∀ (S0 H0 S H : Hp) (σ : L2.St) (ρ : DEnv) (Q : Bool → Hp → Prop), Rel K S0 H0 S H σ ρ → PostG mg E S H EqB (f ρ) Q → t σ H Q
def kAt {κ : Type} [DecidableEq κ] : List (κ × D) → κ → Option D
  | [], _ => none
  | (a, d) :: r, k => if a = k then some d else kAt r k
theorem kAt_val {K : PySem.W.Frag} {S : Hp} {κ : Type} [DecidableEq κ] (k : κ) : ∀ {kvs : List (κ × D)} {es : List (κ × V)}, es.map (·.1) = kvs.map (·.1) → DVs K S (es.map (·.2)) (kvs.map (·.2)) → (kAt kvs k = none ∧ valV es k = none) ∨ ∃ d v, kAt kvs k = some d ∧ valV es k = some v ∧ DV K S v d
  | [], [], _, _ => .inl ⟨rfl, rfl⟩
  | (a, d) :: r, (e, v) :: es, hk, hd => by
    have h1 : e = a := (List.cons.inj hk).1
    have h2 : es.map (·.1) = r.map (·.1) := (List.cons.inj hk).2
    subst h1
    by_cases he : e = k
    · refine .inr ⟨d, v, ?_, valV_pos he, hd.1⟩
      unfold kAt
      rw [if_pos he]
    · have e1 : kAt ((e, d) :: r) k = kAt r k := by
        conv => lhs; unfold kAt
        rw [if_neg he]
      have e2 : valV ((e, v) :: es) k = valV es k := by
        unfold valV
        rw [List.find?_cons]
        have : decide ((e, v).1 = k) = false := decide_eq_false he
        rw [this]
      rw [e1, e2]
      exact kAt_val k h2 hd.2
  | [], _ :: _, hk, _ => by cases hk
  | _ :: _, [], hk, _ => by cases hk
/-- stored: in its place, or at the end -/
def kPut {κ : Type} [DecidableEq κ] (kvs : List (κ × D)) (k : κ) (d : D) : List (κ × D) := if (kvs.any fun kv => decide (kv.1 = k)) = true then kvs.map (fun kv => if kv.1 = k then (kv.1, d) else kv) else kvs ++ [(k, d)]
theorem keys_any {α β κ : Type} [DecidableEq κ] {es : List (κ × α)} {kvs : List (κ × β)} (k : κ) (h : es.map (·.1) = kvs.map (·.1)) : (es.any fun kv => decide (kv.1 = k)) = kvs.any fun kv => decide (kv.1 = k) := by
  have e1 : (es.any fun kv => decide (kv.1 = k)) = (es.map (·.1)).any fun a => decide (a = k) := by rw [List.any_map]; rfl
  have e2 : (kvs.any fun kv => decide (kv.1 = k)) = (kvs.map (·.1)).any fun a => decide (a = k) := by rw [List.any_map]; rfl
  rw [e1, e2, h]
theorem put_in {K : PySem.W.Frag} {S : Hp} {κ : Type} [DecidableEq κ] (k : κ) {v : V} {d : D} (hv : DV K S v d) : ∀ {es : List (κ × V)} {kvs : List (κ × D)}, es.map (·.1) = kvs.map (·.1) → DVs K S (es.map (·.2)) (kvs.map (·.2)) →
    (es.map (fun kv => if kv.1 = k then (kv.1, v) else kv)).map (·.1) = (kvs.map (fun kv => if kv.1 = k then (kv.1, d) else kv)).map (·.1) ∧ DVs K S ((es.map (fun kv => if kv.1 = k then (kv.1, v) else kv)).map (·.2)) ((kvs.map (fun kv => if kv.1 = k then (kv.1, d) else kv)).map (·.2))
  | [], [], _, _ => ⟨rfl, trivial⟩
  | (e, u) :: es, (a, b) :: kvs, hk, hd => by
    have h1 : e = a := (List.cons.inj hk).1
    subst h1
    obtain ⟨i1, i2⟩ := put_in k hv (es := es) (kvs := kvs) (List.cons.inj hk).2 hd.2
    simp only [List.map_cons]
    by_cases he : e = k
    · simp only [he, if_true]
      exact ⟨by rw [i1], hv, i2⟩
    · simp only [he, if_false]
      exact ⟨by rw [i1], hd.1, i2⟩
  | [], _ :: _, hk, _ => by cases hk
  | _ :: _, [], hk, _ => by cases hk
theorem kPut_ok {K : PySem.W.Frag} {S : Hp} {κ : Type} [DecidableEq κ] (k : κ) {v : V} {d : D} (hv : DV K S v d) {es : List (κ × V)} {kvs : List (κ × D)} (h1 : es.map (·.1) = kvs.map (·.1)) (h2 : DVs K S (es.map (·.2)) (kvs.map (·.2))) :
    (putK es k v).map (·.1) = (kPut kvs k d).map (·.1) ∧ DVs K S ((putK es k v).map (·.2)) ((kPut kvs k d).map (·.2)) := by
  unfold putK kPut
  rw [keys_any k h1]
  split
  · exact put_in k hv h1 h2
  · rw [List.map_append, List.map_append, List.map_append, List.map_append, h1]
    exact ⟨rfl, h2.append ⟨hv, trivial⟩⟩
/-- keys that are tuples of ints -/
def kOf : D → Key
  | .int i => Sum.inl i
  | _ => Sum.inl 0
def toKeyT : D → Option (List Key)
  | .tuple ds => if keyT ds = true then some (ds.map kOf) else none
  | _ => none
theorem dvs_keys {K : PySem.W.Frag} {S : Hp} : ∀ {vs : List V} {ds : List D}, allInt ds = true → DVs K S vs ds → vs = (ds.map kOf).map kV
  | [], [], _, _ => rfl
  | v :: vs, d :: ds, ha, h => by
    unfold allInt at ha
    rw [List.all_cons, Bool.and_eq_true] at ha
    rw [List.map_cons, List.map_cons, dvs_keys (vs := vs) (ds := ds) ha.2 h.2]
    cases d with
    | int i =>
      have : v = V.int i := h.1
      rw [this]
      rfl
    | _ => cases ha.1
  | [], _ :: _, _, h => h.elim
  | _ :: _, [], _, h => h.elim
theorem toKeyT_dv {K : PySem.W.Frag} {S : Hp} {v : V} {d : D} {k : List Key} (h : DV K S v d) (e : toKeyT d = some k) : ∃ b, v = .ref b ∧ S b = some (.tup (k.map kV)) := by
  cases d with
  | tuple ds =>
    unfold toKeyT at e
    dsimp only at e
    split at e
    · rename_i hk
      cases e
      rw [DV] at h
      obtain ⟨a, us, rfl, h1, h2⟩ := h
      have ha : allInt ds = true := (and_split hk).1
      refine ⟨a, rfl, ?_⟩
      rw [← dvs_keys ha h2]
      exact h1.2 hk
    · cases e
  | _ => cases e
/-- a slot's dict, read at a key: by the kind of the keys -/
def ownAt (s : Slot) (kd : D) : Option (Option D) := match s with
  | .ownK kvs => (toKey kd).map fun k => kAt kvs k
  | .ownT kvs => (toKeyT kd).map fun k => kAt kvs k
  | _ => none
theorem ownAt_get {K : PySem.W.Frag} {S H : Hp} {p : Addr} {s : Slot} {kd : D} {y : V} {o : Option D} (sh : Same S H) (hs : OwnOk K S H p s) (hy : DV K S y kd) (e : ownAt s kd = some o) : ∃ ov : Option V, DGet H p y ov ∧ ((o = none ∧ ov = none) ∨ ∃ d v, o = some d ∧ ov = some v ∧ DV K S v d) := by
  cases s with
  | ownK kvs =>
    obtain ⟨es, h1, h2, h3⟩ := hs
    unfold ownAt at e
    dsimp only at e
    cases ek : toKey kd with
    | none => rw [ek] at e; cases e
    | some k =>
      rw [ek] at e
      cases e
      refine ⟨valV es k, .inl ⟨es, k, .inl h1, toKey_dv hy ek, rfl⟩, kAt_val k h2 h3⟩
  | ownT kvs =>
    obtain ⟨es, h1, h2, h3⟩ := hs
    unfold ownAt at e
    dsimp only at e
    cases ek : toKeyT kd with
    | none => rw [ek] at e; cases e
    | some k =>
      rw [ek] at e
      cases e
      obtain ⟨b, rfl, hb⟩ := toKeyT_dv hy ek
      refine ⟨valV es k, .inr ⟨es, k, b, .inl h1, rfl, sh _ _ hb, rfl⟩, kAt_val k h2 h3⟩
  | _ => cases e
theorem ownOk_isD {K : PySem.W.Frag} {S H : Hp} {p : Addr} {s : Slot} {kd : D} {o : Option D} (hs : OwnOk K S H p s) (e : ownAt s kd = some o) : IsD H p := by
  cases s with
  | ownK kvs => obtain ⟨es, h1, _⟩ := hs; exact .inl ⟨es, .inl h1⟩
  | ownT kvs => obtain ⟨es, h1, _⟩ := hs; exact .inr ⟨es, .inl h1⟩
  | _ => cases e
theorem own_of {s : Slot} {kd : D} {o : Option D} (e : ownAt s kd = some o) : isOwn s = true := by
  cases s with
  | ownK kvs => rfl
  | ownT kvs => rfl
  | _ => cases e
section
variable {K : PySem.W.Frag} {mg : Str → Option Value} {X : Cx} {E : XK} {a b e o : Expr} {ta tb te ty tx : TE} {fa fb f fk fx : DEnv → Res D} {pos : Pos}
theorem pdo_of (h : PD K mg X E e te f) : PDO K mg X E e te f := ⟨h.pe, fun S0 H0 S H σ ρ Q r q => h.sd S H σ ρ Q r.relE q⟩
theorem pdo_op {op : Operator} {r : R2} {g : D → D → Res D} (ho : OpR X (binaryOp op) r) (hs : OpS K mg E r g) (ha : PDO K mg X E a ta fa) (hb : PDO K mg X E b tb fb) : PDO K mg X E (.BinOp a op b pos) (tOp r ta tb) (fBin g fa fb) :=
  ⟨pe_op ho ha.pe hb.pe, fun S0 H0 S H σ ρ Q rl h => by
    refine ha.sd S0 H0 S H σ ρ _ rl (h.bind fun x v S1 H1 x1 d1 h1 => ?_)
    refine hb.sd S0 H0 S1 H1 σ ρ _ (rl.ext x1) (h1.bind fun y u S2 H2 x2 d2 h2 => ?_)
    exact hs S2 H2 v u x y Q x2.sh (d1.mono x2.s) d2 h2⟩
theorem use_pdo (he : PDO K mg X E e te f) : Use K mg E te f := fun S0 H0 S H σ ρ N k Q r h hk =>
  he.sd S0 H0 S H σ ρ _ r (post_of r h fun a w S' H' _ x q h => hk a w S' H' (r.ext x) x.s x.h q h)
/-- a slot that owns a dict -/
def isDk : Slot → Bool
  | .ownK _ => true
  | .ownT _ => true
  | _ => false
theorem isDk_own {s : Slot} (h : isDk s = true) : isOwn s = true := by cases s <;> first | rfl | cases h
theorem isDk_isD {S H : Hp} {p : Addr} {s : Slot} (h : isDk s = true) (hs : OwnOk K S H p s) : IsD H p := by
  cases s with
  | ownK kvs => obtain ⟨es, h1, _⟩ := hs; exact .inl ⟨es, .inl h1⟩
  | ownT kvs => obtain ⟨es, h1, _⟩ := hs; exact .inr ⟨es, .inl h1⟩
  | _ => cases h
def onDk {α : Type} (i : Nat) (k : Slot → DEnv → Res α) : DEnv → Res α := fun ρ => match ρ[i]? with
  | some s => if isDk s = true then k s ρ else .bad
  | none => .bad
theorem onDk_of {α W : Type} {i : Nat} {k : Slot → DEnv → Res α} {S0 H0 S H : Hp} {σ : L2.St} {ρ : DEnv} {R : Hp → W → α → Prop} {Q : W → Hp → Prop} (rl : Rel K S0 H0 S H σ ρ) (h : PostG mg E S H R (onDk i k ρ) Q) : ∃ s q, ρ[i]? = some s ∧ isDk s = true ∧ σ[i]? = some (some (.ref q)) ∧ S q = none ∧ H0 q = none ∧ OwnOk K S H q s ∧ PostG mg E S H R (k s ρ) Q := by
  unfold onDk at h
  cases es : ρ[i]? with
  | none => rw [es] at h; exact h.elim
  | some s =>
    rw [es] at h
    dsimp only at h
    split at h
    · rename_i hd
      obtain ⟨q, g1, g2, g3, g4⟩ := rl.own i s es (isDk_own hd)
      exact ⟨s, q, rfl, hd, g1, g2, g3, g4, h⟩
    · exact h.elim
/-- x[k], x owned -/
def fOget (i : Nat) (fk : DEnv → Res D) : DEnv → Res D := onDk i fun s ρ => (fk ρ).bind fun kd => match ownAt s kd with
    | some (some d) => .ok d
    | _ => .bad
theorem pdo_get {i : Nat} {x : Str} {p : Pos} (hu : X.A.units + 65 < cLine) (hv : PE X (.Name x p) (tVar i)) (hk : PD K mg X E e ty fk) (hs : NoSl e := by exact fun _ _ => rfl) : PDO K mg X E (.Subscript (.Name x p) e pos) (tDGet (tVar i) ty) (fOget i fk) :=
  ⟨pe_dget (hu1 hu) hv hk.pe hs, fun S0 H0 S H σ ρ Q rl h => by
    obtain ⟨s, q, es, hd, g1, g2, g3, g4, h⟩ := onDk_of rl h
    refine ⟨_, g1, hk.sd S H σ ρ _ rl.relE (h.bind fun kd y S1 H1 x1 d1 h1 => ?_)⟩
    cases ea : ownAt s kd with
    | none => rw [ea] at h1; exact h1.elim
    | some od =>
      rw [ea] at h1
      cases od with
      | none => exact h1.elim
      | some d =>
        obtain ⟨ov, k1, k2⟩ := ownAt_get x1.sh (g4.mono x1.s fun _ z => x1.h _ _ z) d1 ea
        rcases k2 with ⟨z, _⟩ | ⟨d', v, z1, z2, z3⟩
        · cases z
        · cases z1
          subst z2
          exact ⟨q, v, rfl, k1, h1.ok0 x1.sh z3⟩⟩
/-- x.get(k, d), x owned -/
def fOget2 (i : Nat) (fk fx : DEnv → Res D) : DEnv → Res D := onDk i fun s ρ => (fk ρ).bind fun kd => (fx ρ).bind fun x => match ownAt s kd with
    | some o => .ok (o.getD x)
    | _ => .bad
theorem pdo_get2 {i : Nat} {x : Str} {p apos : Pos} (hu : X.A.units + 65 < cLine) (hv : PE X (.Name x p) (tVar i)) (hk : PD K mg X E a ty fk) (hx : PD K mg X E b tx fx)
    (h1 : attributeBase (.Name x p) "get" X.env (eval (.Name x p) X.env) = eval (.Name x p) X.env := by rfl)
    (h2 : ((backTo pos (starEach [a, b] X.env)).all (fun x => !x.1) && (backToKw pos (keywordEach [] X.env)).all (fun x => x.1.isSome) && decide (([a, b] : List Expr).length + ([] : List Keyword).length + (if ([] : List Keyword).isEmpty then 0 else 1) < 30)) = true := by rfl)
    (h3 : (apos.endLine == pos.line) = true := by rfl) (h4 : backTo pos (starEach [a, b] X.env) = [(false, eval a X.env), (false, eval b X.env)] := by rfl) :
    PDO K mg X E (.Call (.Attribute (.Name x p) "get" apos) [a, b] [] pos) (tDGet2 (tVar i) ty tx) (fOget2 i fk fx) :=
  ⟨pe_dget2 (hu1 hu) hv hk.pe hx.pe ⟨h1, h2, h3, h4⟩, fun S0 H0 S H σ ρ Q rl h => by
    obtain ⟨s, q, es, hd, g1, g2, g3, g4, h⟩ := onDk_of rl h
    refine ⟨_, g1, q, rfl, isDk_isD hd g4, hk.sd S H σ ρ _ rl.relE (h.bind fun kd y S1 H1 x1 d1 h1 => ?_)⟩
    refine hx.sd S1 H1 σ ρ _ (rl.relE.mono x1) (h1.bind fun dx z S2 H2 x2 d2 h2 => ?_)
    cases ea : ownAt s kd with
    | none => rw [ea] at h2; exact h2.elim
    | some o =>
      rw [ea] at h2
      obtain ⟨ov, k1, k2⟩ := ownAt_get x2.sh (g4.mono (x1.s.trans x2.s) fun _ z => x2.h _ _ (x1.h _ _ z)) (d1.mono x2.s) ea
      rcases k2 with ⟨z1, z2⟩ | ⟨d', v, z1, z2, z3⟩
      · subst z1 z2
        exact ⟨none, k1, h2.ok0 x2.sh d2⟩
      · subst z1 z2
        exact ⟨some v, k1, h2.ok0 x2.sh z3⟩⟩
/-- k in x, k not in x, x owned -/
def gOin (neg : Bool) (i : Nat) (fk : DEnv → Res D) : DEnv → Res Bool := fun ρ => (fk ρ).bind fun kd => onDk i (fun s _ => match ownAt s kd with
    | some o => .ok (if neg then !o.isSome else o.isSome)
    | _ => .bad) ρ
theorem oin_sd (neg : Bool) {i : Nat} (hk : PD K mg X E e ty fk) (S0 H0 S H : Hp) (σ : L2.St) (ρ : DEnv) (Q : Bool → Hp → Prop) (rl : Rel K S0 H0 S H σ ρ) (h : PostG mg E S H EqB (gOin neg i fk ρ) Q) :
    ty σ H fun y H1 => tVar i σ H1 fun x H2 => ∃ a o, x = .ref a ∧ DGet H2 a y o ∧ ∃ c, V.bl (if neg then !o.isSome else o.isSome) = .bl c ∧ Q c H2 := by
  refine hk.sd S H σ ρ _ rl.relE (h.bind fun kd y S1 H1 x1 d1 h1 => ?_)
  obtain ⟨s, q, es, hd, g1, g2, g3, g4, h1⟩ := onDk_of (rl.ext x1) h1
  cases ea : ownAt s kd with
  | none => rw [ea] at h1; exact h1.elim
  | some o =>
    rw [ea] at h1
    obtain ⟨ov, k1, k2⟩ := ownAt_get x1.sh g4 d1 ea
    refine ⟨_, g1, q, ov, rfl, k1, ?_⟩
    have e : ov.isSome = o.isSome := by
      rcases k2 with ⟨z1, z2⟩ | ⟨d', v, z1, z2, z3⟩
      · rw [z1, z2]; rfl
      · rw [z1, z2]; rfl
    rw [e]
    exact ⟨_, rfl, h1.ok0 x1.sh rfl⟩
theorem tdo_in {i : Nat} {x : Str} {p : Pos} (hu : X.A.units + 65 < cLine) (hv : PE X (.Name x p) (tVar i)) (hk : PD K mg X E e ty fk) (hm : behindInMarks .In (.Name x p) = false := by rfl) : TDO K mg X E (.Compare e [.In] [.Name x p] pos) (tB (tDIn ty (tVar i))) (gOin false i fk) :=
  ⟨pt_cmp (pc_din (hu1 hu) hk.pe hv) hm, fun S0 H0 S H σ ρ Q rl h => oin_sd false hk S0 H0 S H σ ρ Q rl h⟩
theorem tdo_notin {i : Nat} {x : Str} {p : Pos} (hu : X.A.units + 65 < cLine) (hv : PE X (.Name x p) (tVar i)) (hk : PD K mg X E e ty fk) (hm : behindInMarks .NotIn (.Name x p) = false := by rfl) : TDO K mg X E (.Compare e [.NotIn] [.Name x p] pos) (tB (tDNotIn ty (tVar i))) (gOin true i fk) :=
  ⟨pt_cmp (pc_dnotin (hu1 hu) hk.pe hv) hm, fun S0 H0 S H σ ρ Q rl h => oin_sd true hk S0 H0 S H σ ρ Q rl h⟩
theorem tdo_of {t : TT} {g : DEnv → Res Bool} (h : TD K mg X E e t g) : TDO K mg X E e t g := ⟨h.pe, fun S0 H0 S H σ ρ Q rl q => h.sd S H σ ρ Q rl.relE q⟩
/-- a and b, of two -/
theorem tdo_and {tA tB' : TT} {gA gB : DEnv → Res Bool} (ha : TDO K mg X E a tA gA) (hb : TDO K mg X E b tB' gB) : TDO K mg X E (.BoolOp .And [a, b] pos) (tAnd tA tB') (fAnd gA gB) :=
  ⟨(pw_and ha.pe (pw_and1 hb.pe)).pt, fun S0 H0 S H σ ρ Q rl h => ha.sd S0 H0 S H σ ρ _ rl (h.bind fun k w S1 H1 x1 e h1 => by
    cases e
    cases k with
    | true => exact hb.sd S0 H0 S1 H1 σ ρ Q (rl.ext x1) h1
    | false => exact h1.ok0 x1.sh rfl)⟩
def sIfO (g : DEnv → Res Bool) (F G : DEnv → SR) : DEnv → SR := fun ρ => ofRes (g ρ) fun b => if b = true then F ρ else G ρ
theorem sd_ifO {c : Expr} {as bs : List Stmt} {tc : TT} {t u : TS} {F G : DEnv → SR} {g : DEnv → Res Bool} (hc : TDO K mg X E c tc g) (ha : SDs K mg X E as t F) (hb : SDs K mg X E bs u G) : SD K mg X E (.If c as bs pos) (tIfS tc t u) (sIfO g F G) := ⟨ps_if hc.pe ha.ps hb.ps, fun S0 H0 S H σ ρ N r h =>
  hc.sd S0 H0 S H σ ρ _ r (post_of r h fun k w S' H' _ x q h => by
    cases q
    have r' := r.ext x
    cases k with
    | true => exact ha.sd S0 H0 S' H' σ ρ N r' (SPost.mono h x.s)
    | false => exact hb.sd S0 H0 S' H' σ ρ N r' (SPost.mono h x.s))⟩
/-- x = {} -/
def sOwnD (tk : Bool) (i : Nat) : DEnv → SR := fun ρ => .next (ρ.set i (if tk = true then .ownT [] else .ownK []))
theorem sd_ownK {i : Nat} {x : Str} {pos' p2 : Pos} (hN : X.N.Nodup) (hi : X.N[i]? = some x) (hx : Loc X.env.scope x := by first | exact Or.inl rfl | exact Or.inr rfl) (hs : swapsWith (.Dict [] [] p2) (some (.Name x pos')) pos.line X.env = pure false := by rfl) (hf : X.fn x = true ∨ X.env.scope.names.lookup x = some .local := by first | exact .inl rfl | exact .inr rfl | assumption) :
    SD K mg X E (.Assign [.Name x pos'] (.Dict [] [] p2) pos) (tAsg tDNewK (gName i)) (sOwnD false i) := ⟨ps_set hN hi hx pe_dnewK hs hf, fun S0 H0 S H σ ρ N r h p hp => by
  have sm : Same H (upd H p (.dK [])) := same_upd hp
  refine h S _ _ (Same.refl _) ((r.grow sm).setOwn (s := .ownK []) rfl (r.x.sh.free hp) (r.x.h.free hp) ⟨[], upd_same, rfl, trivial⟩ fun k s' e1 e2 e3 => ?_)
  obtain ⟨q, g1, _, _, g4⟩ := r.own k s' e1 e2
  obtain ⟨u, hu⟩ := g4.some
  rw [e3] at g1
  cases g1
  rw [hp] at hu
  cases hu⟩
theorem sd_ownT {i : Nat} {x : Str} {pos' p2 : Pos} (hN : X.N.Nodup) (hi : X.N[i]? = some x) (hx : Loc X.env.scope x := by first | exact Or.inl rfl | exact Or.inr rfl) (hs : swapsWith (.Dict [] [] p2) (some (.Name x pos')) pos.line X.env = pure false := by rfl) (hf : X.fn x = true ∨ X.env.scope.names.lookup x = some .local := by first | exact .inl rfl | exact .inr rfl | assumption) :
    SD K mg X E (.Assign [.Name x pos'] (.Dict [] [] p2) pos) (tAsg tDNewT (gName i)) (sOwnD true i) := ⟨ps_set hN hi hx pe_dnewT hs hf, fun S0 H0 S H σ ρ N r h p hp => by
  have sm : Same H (upd H p (.dT [])) := same_upd hp
  refine h S _ _ (Same.refl _) ((r.grow sm).setOwn (s := .ownT []) rfl (r.x.sh.free hp) (r.x.h.free hp) ⟨[], upd_same, rfl, trivial⟩ fun k s' e1 e2 e3 => ?_)
  obtain ⟨q, g1, _, _, g4⟩ := r.own k s' e1 e2
  obtain ⟨u, hu⟩ := g4.some
  rw [e3] at g1
  cases g1
  rw [hp] at hu
  cases hu⟩
/-- x[k] = e, x owned -/
def slotPut (s : Slot) (kd d : D) : Option Slot := match s with
  | .ownK kvs => if lenOk (kvs.length + 1) = true then (toKey kd).map fun k => .ownK (kPut kvs k d) else none
  | .ownT kvs => if lenOk (kvs.length + 1) = true then (toKeyT kd).map fun k => .ownT (kPut kvs k d) else none
  | _ => none
theorem slotPut_ok {S H : Hp} {p : Addr} {s s' : Slot} {kd d : D} {y v : V} (sh : Same S H) (hs : OwnOk K S H p s) (hy : DV K S y kd) (hv : DV K S v d) (e : slotPut s kd d = some s') : ∃ o, DPut H p y v (upd H p o) ∧ OwnOk K S (upd H p o) p s' ∧ isOwn s' = true := by
  cases s with
  | ownK kvs =>
    obtain ⟨es, h1, h2, h3⟩ := hs
    unfold slotPut at e
    dsimp only at e
    split at e
    · rename_i hz
      cases ek : toKey kd with
      | none => rw [ek] at e; cases e
      | some k =>
        rw [ek] at e
        cases e
        obtain ⟨q1, q2⟩ := kPut_ok k hv h2 h3
        refine ⟨.dK (putK es k v), .inl ⟨es, k, h1, toKey_dv hy ek, ?_, rfl⟩, ⟨_, upd_same, q1, q2⟩, rfl⟩
        have : es.length = kvs.length := by
          have := congrArg List.length h2
          rw [List.length_map, List.length_map] at this
          exact this
        rw [this]
        exact Nat.lt_of_lt_of_le (Nat.lt_succ_self _) (lenOk.le hz)
    · cases e
  | ownT kvs =>
    obtain ⟨es, h1, h2, h3⟩ := hs
    unfold slotPut at e
    dsimp only at e
    split at e
    · rename_i hz
      cases ek : toKeyT kd with
      | none => rw [ek] at e; cases e
      | some k =>
        rw [ek] at e
        cases e
        obtain ⟨q1, q2⟩ := kPut_ok k hv h2 h3
        obtain ⟨b, rfl, hb⟩ := toKeyT_dv hy ek
        refine ⟨.dT (putK es k v), .inr ⟨es, k, b, h1, rfl, sh _ _ hb, ?_, rfl⟩, ⟨_, upd_same, q1, q2⟩, rfl⟩
        have : es.length = kvs.length := by
          have := congrArg List.length h2
          rw [List.length_map, List.length_map] at this
          exact this
        rw [this]
        exact Nat.lt_of_lt_of_le (Nat.lt_succ_self _) (lenOk.le hz)
    · cases e
  | _ => cases e
def sDput (i : Nat) (fv fk : DEnv → Res D) : DEnv → SR := fun ρ => match ρ[i]? with
  | some s => if isDk s = true then ofRes (fv ρ) fun d => ofRes (fk ρ) fun kd => (match slotPut s kd d with
    | some s' => .next (ρ.set i s')
    | none => .bad) else .bad
  | none => .bad
theorem sd_dput {i : Nat} {x : Str} {p pos' : Pos} {k value : Expr} {tv : TE} {fv : DEnv → Res D} (hu : X.A.units + 65 < cLine) (hv : PE X (.Name x p) (tVar i)) (hk : PD K mg X E k ty fk) (he : PDO K mg X E value tv fv)
    (hs : swapsWith value (some (.Subscript (.Name x p) k pos')) pos.line X.env = pure false := by rfl) : SD K mg X E (.Assign [.Subscript (.Name x p) k pos'] value pos) (sDPut (tVar i) ty tv) (sDput i fv fk) := ⟨ps_dput (hu1 hu) hv hk.pe he.pe hs, fun S0 H0 S H σ ρ N r h => by
  unfold sDput at h
  cases es : ρ[i]? with
  | none => rw [es] at h; exact h.elim
  | some s =>
    rw [es] at h
    dsimp only at h
    split at h
    · rename_i hd
      obtain ⟨q, g1, g2, g3, g4⟩ := r.own i s es (isDk_own hd)
      refine use_pdo he S0 H0 S H σ ρ N _ _ r h fun d v S1 H1 r1 e1 e2 d1 h1 => ?_
      refine ⟨_, g1, hk.sd S1 H1 σ ρ _ r1.relE ?_⟩
      refine post_of r1 (SPost.mono h1 e1) fun kd y S2 H2 _ x2 d2 h2 => ?_
      cases ep : slotPut s kd d with
      | none => rw [ep] at h2; exact h2.elim
      | some s' =>
        rw [ep] at h2
        have r2 := r1.ext x2
        obtain ⟨q', k1, k2, k3, k4⟩ := r2.own i s es (isDk_own hd)
        rw [g1] at k1
        cases k1
        obtain ⟨o, w1, w2, w3⟩ := slotPut_ok x2.sh k4 d2 (d1.mono x2.s) ep
        exact ⟨q, _, rfl, w1, h2 S2 _ σ x2.s (r2.mut es (isDk_own hd) w3 g1 w2)⟩
    · exact h.elim⟩
end
end PD
namespace PD
open PySem L2
/-! ### shared dicts, of either kind of keys -/
def tupK : List (D × D) → Bool
  | [] => true
  | (a, _) :: r => (toKeyT a).isSome && tupK r
def dAtT : List (D × D) → List Key → Option D
  | [], _ => none
  | (a, d) :: r, k => if toKeyT a = some k then some d else dAtT r k
def dLook (kvs : List (D × D)) (kd : D) : Option (Option D) := if kvs.isEmpty = true then none else if plainK kvs = true then (toKey kd).map (dAt kvs) else if tupK kvs = true then (toKeyT kd).map (dAtT kvs) else none
theorem kOf_kD : ∀ {k : List Key}, allInt (k.map kD) = true → (k.map kD).map kOf = k
  | [], _ => rfl
  | x :: k, h => by
    unfold allInt at h
    rw [List.map_cons, List.all_cons, Bool.and_eq_true] at h
    rw [List.map_cons, List.map_cons, kOf_kD (k := k) h.2]
    cases x with
    | inl i => rfl
    | inr z => cases h.1
theorem toKeyT_tup {k : List Key} {k' : List Key} (h : toKeyT (.tuple (k.map kD)) = some k') : k = k' := by
  unfold toKeyT at h
  dsimp only at h
  split at h
  · rename_i hk
    cases h
    exact (kOf_kD (and_split hk).1).symm
  · cases h
theorem dAtT_val {K : PySem.W.Frag} {S : Hp} (k : List Key) : ∀ {kvs : List (D × D)} {es : List (List Key × V)}, tupK kvs = true → kvs.map (·.1) = es.map (fun e => PyData.tuple (e.1.map kD)) → DVp K S (es.map (·.2)) kvs → (dAtT kvs k = none ∧ valV es k = none) ∨ ∃ d v, dAtT kvs k = some d ∧ valV es k = some v ∧ DV K S v d
  | [], [], _, _, _ => .inl ⟨rfl, rfl⟩
  | (a, d) :: r, (e, v) :: es, ht, hk, hd => by
    have h1 : a = PyData.tuple (e.map kD) := (List.cons.inj hk).1
    have h2 : r.map (·.1) = es.map (fun e => PyData.tuple (e.1.map kD)) := (List.cons.inj hk).2
    rw [List.map_cons, DVp] at hd
    unfold tupK at ht
    rw [Bool.and_eq_true] at ht
    obtain ⟨k0, ek0⟩ := Option.isSome_iff_exists.mp ht.1
    have e0 : e = k0 := toKeyT_tup (by rw [← h1]; exact ek0)
    subst e0
    by_cases he : e = k
    · refine .inr ⟨d, v, ?_, valV_pos he, hd.1⟩
      unfold dAtT
      rw [ek0, he, if_pos rfl]
    · have e1 : dAtT ((a, d) :: r) k = dAtT r k := by
        conv => lhs; unfold dAtT
        rw [ek0, if_neg (fun z => he (Option.some.inj z))]
      have e2 : valV ((e, v) :: es) k = valV es k := by
        unfold valV
        rw [List.find?_cons]
        have : decide ((e, v).1 = k) = false := decide_eq_false he
        rw [this]
      rw [e1, e2]
      exact dAtT_val k ht.2 h2 hd.2
  | [], _ :: _, _, hk, _ => by cases hk
  | _ :: _, [], _, hk, _ => by cases hk
theorem tup_of {K : PySem.W.Frag} {S : Hp} {a : Addr} {kvs : List (D × D)} (hp : tupK kvs = true) (hn : kvs ≠ []) (h : (∃ es : List (Key × V), Rd S a (.dK es) ∧ kvs.map (·.1) = es.map (fun e => kD e.1) ∧ DVp K S (es.map (·.2)) kvs) ∨
      (∃ es : List (List Key × V), Rd S a (.dT es) ∧ kvs.map (·.1) = es.map (fun e => PyData.tuple (e.1.map kD)) ∧ DVp K S (es.map (·.2)) kvs)) : ∃ es : List (List Key × V), Rd S a (.dT es) ∧ kvs.map (·.1) = es.map (fun e => PyData.tuple (e.1.map kD)) ∧ DVp K S (es.map (·.2)) kvs := by
  rcases h with ⟨es, h1, h2, h3⟩ | h
  · cases kvs with
    | nil => exact absurd rfl hn
    | cons kv r =>
      obtain ⟨x, d⟩ := kv
      cases es with
      | nil => cases h2
      | cons e es =>
        obtain ⟨k, w⟩ := e
        have h4 : x = kD k := (List.cons.inj h2).1
        subst h4
        unfold tupK at hp
        cases k <;> cases hp
  · exact h
theorem look_get {K : PySem.W.Frag} {S H : Hp} {v y : V} {kvs : List (D × D)} {kd : D} {o : Option D} (sh : Same S H) (hd : DV K S v (.dict kvs)) (hy : DV K S y kd) (e : dLook kvs kd = some o) : ∃ a ov, v = .ref a ∧ IsD H a ∧ DGet H a y ov ∧ ((o = none ∧ ov = none) ∨ ∃ d w, o = some d ∧ ov = some w ∧ DV K S w d) := by
  unfold dLook at e
  split at e
  · cases e
  · rename_i hn
    have hn : kvs ≠ [] := fun z => hn (by rw [z]; rfl)
    obtain ⟨a, rfl, q⟩ := dv_dict hd
    split at e
    · rename_i hp
      obtain ⟨es, g1, g2, g3⟩ := plain_of hp hn q
      cases ek : toKey kd with
      | none => rw [ek] at e; cases e
      | some k =>
        rw [ek] at e
        cases e
        exact ⟨a, valV es k, rfl, .inl ⟨es, rd_same sh g1⟩, .inl ⟨es, k, rd_same sh g1, toKey_dv hy ek, rfl⟩, dAt_val k g2 g3⟩
    · split at e
      · rename_i hp
        obtain ⟨es, g1, g2, g3⟩ := tup_of hp hn q
        cases ek : toKeyT kd with
        | none => rw [ek] at e; cases e
        | some k =>
          rw [ek] at e
          cases e
          obtain ⟨b, rfl, hb⟩ := toKeyT_dv hy ek
          exact ⟨a, valV es k, rfl, .inr ⟨es, rd_same sh g1⟩, .inr ⟨es, k, b, rd_same sh g1, rfl, sh _ _ hb, rfl⟩, dAtT_val k hp g2 g3⟩
      · cases e
theorem look_isD {K : PySem.W.Frag} {S H : Hp} {v : V} {kvs : List (D × D)} (sh : Same S H) (hd : DV K S v (.dict kvs)) : ∃ a, v = .ref a ∧ IsD H a := by
  obtain ⟨a, rfl, q⟩ := dv_dict hd
  rcases q with ⟨es, g1, _⟩ | ⟨es, g1, _⟩
  · exact ⟨a, rfl, .inl ⟨es, rd_same sh g1⟩⟩
  · exact ⟨a, rfl, .inr ⟨es, rd_same sh g1⟩⟩
section
variable {K : PySem.W.Frag} {mg : Str → Option Value} {X : Cx} {E : XK} {o i a b : Expr} {td ty tx : TE} {fd fk fx : DEnv → Res D} {pos apos : Pos}
def asD : D → Res (List (D × D))
  | .dict kvs => .ok kvs
  | _ => .bad
/-! d[k] -/
def gSix (d kd : D) : Res D := (asD d).bind fun kvs => match dLook kvs kd with
  | some (some x) => .ok x
  | _ => .bad
theorem pd_sget (hu : X.A.units + 65 < cLine) (hd : PD K mg X E o td fd) (hk : PD K mg X E i ty fk) (hs : NoSl i := by exact fun _ _ => rfl) : PD K mg X E (.Subscript o i pos) (tDGet td ty) (fBin gSix fd fk) := ⟨pe_dget (hu1 hu) hd.pe hk.pe hs, fun S H σ ρ Q rl h => by
  refine hd.sd S H σ ρ _ rl (h.bind fun d v S1 H1 x1 d1 h1 => ?_)
  refine hk.sd S1 H1 σ ρ _ (rl.mono x1) (h1.bind fun kd y S2 H2 x2 d2 h2 => ?_)
  unfold gSix at h2
  cases d with
  | dict kvs =>
    have h2 : PostG mg E S2 H2 (DV K) (match dLook kvs kd with
      | some (some x) => .ok x
      | _ => .bad) Q := h2
    cases el : dLook kvs kd with
    | none => rw [el] at h2; exact h2.elim
    | some od =>
      rw [el] at h2
      cases od with
      | none => exact h2.elim
      | some dd =>
        obtain ⟨a, ov, rfl, _, k1, k2⟩ := look_get x2.sh (d1.mono x2.s) d2 el
        rcases k2 with ⟨z, _⟩ | ⟨d', w, z1, z2, z3⟩
        · cases z
        · cases z1
          subst z2
          exact ⟨a, w, rfl, k1, h2.ok0 x2.sh z3⟩
  | _ => exact h2.elim⟩
/-! k in d, k not in d -/
def gSin (neg : Bool) (kd d : D) : Res D := (asD d).bind fun kvs => match dLook kvs kd with
  | some o => .ok (.bool (if neg then !o.isSome else o.isSome))
  | _ => .bad
theorem sin_sd (neg : Bool) (hk : PD K mg X E i ty fk) (hd : PD K mg X E o td fd) (S H : Hp) (σ : L2.St) (ρ : DEnv) (Q : VK) (rl : RelE K S H σ ρ) (h : PostG mg E S H (DV K) (fBin (gSin neg) fk fd ρ) Q) :
    ty σ H fun y H1 => td σ H1 fun x H2 => ∃ a o, x = .ref a ∧ DGet H2 a y o ∧ Q (.bl (if neg then !o.isSome else o.isSome)) H2 := by
  refine hk.sd S H σ ρ _ rl (h.bind fun kd y S1 H1 x1 d1 h1 => ?_)
  refine hd.sd S1 H1 σ ρ _ (rl.mono x1) (h1.bind fun d v S2 H2 x2 d2 h2 => ?_)
  unfold gSin at h2
  cases d with
  | dict kvs =>
    have h2 : PostG mg E S2 H2 (DV K) (match dLook kvs kd with
      | some o => .ok (.bool (if neg then !o.isSome else o.isSome))
      | _ => .bad) Q := h2
    cases el : dLook kvs kd with
    | none => rw [el] at h2; exact h2.elim
    | some od =>
      rw [el] at h2
      obtain ⟨a, ov, rfl, _, k1, k2⟩ := look_get x2.sh d2 (d1.mono x2.s) el
      refine ⟨a, ov, rfl, k1, ?_⟩
      have e : ov.isSome = od.isSome := by
        rcases k2 with ⟨z1, z2⟩ | ⟨d', w, z1, z2, z3⟩
        · rw [z1, z2]; rfl
        · rw [z1, z2]; rfl
      rw [e]
      exact h2.ok0 x2.sh rfl
  | _ => exact h2.elim
theorem pd_sin (hu : X.A.units + 65 < cLine) (hk : PD K mg X E i ty fk) (hd : PD K mg X E o td fd) (hm : behindInMarks .In o = false := by rfl) : PD K mg X E (.Compare i [.In] [o] pos) (tDIn ty td) (fBin (gSin false) fk fd) := ⟨pe_cmp (pc_din (hu1 hu) hk.pe hd.pe) hm, sin_sd false hk hd⟩
theorem pd_snotin (hu : X.A.units + 65 < cLine) (hk : PD K mg X E i ty fk) (hd : PD K mg X E o td fd) (hm : behindInMarks .NotIn o = false := by rfl) : PD K mg X E (.Compare i [.NotIn] [o] pos) (tDNotIn ty td) (fBin (gSin true) fk fd) := ⟨pe_cmp (pc_dnotin (hu1 hu) hk.pe hd.pe) hm, sin_sd true hk hd⟩
theorem td_sin (hu : X.A.units + 65 < cLine) (hk : PD K mg X E i ty fk) (hd : PD K mg X E o td fd) (hm : behindInMarks .In o = false := by rfl) : TD K mg X E (.Compare i [.In] [o] pos) (tB (tDIn ty td)) (fTest (fBin (gSin false) fk fd)) := ⟨pt_cmp (pc_din (hu1 hu) hk.pe hd.pe) hm, fun S H σ ρ Q rl h => test_sd (pd_sin (pos := pos) hu hk hd hm) S H σ ρ Q rl h⟩
theorem td_snotin (hu : X.A.units + 65 < cLine) (hk : PD K mg X E i ty fk) (hd : PD K mg X E o td fd) (hm : behindInMarks .NotIn o = false := by rfl) : TD K mg X E (.Compare i [.NotIn] [o] pos) (tB (tDNotIn ty td)) (fTest (fBin (gSin true) fk fd)) := ⟨pt_cmp (pc_dnotin (hu1 hu) hk.pe hd.pe) hm, fun S H σ ρ Q rl h => test_sd (pd_snotin (pos := pos) hu hk hd hm) S H σ ρ Q rl h⟩
/-! d.get(k), d.get(k, x) -/
def fSget2 (fd fk fx : DEnv → Res D) : DEnv → Res D := fun ρ => (fd ρ).bind fun d => (asD d).bind fun kvs => (fk ρ).bind fun kd => (fx ρ).bind fun x => match dLook kvs kd with
  | some o => .ok (o.getD x)
  | _ => .bad
def fSget1 (fd fk : DEnv → Res D) : DEnv → Res D := fun ρ => (fd ρ).bind fun d => (asD d).bind fun kvs => (fk ρ).bind fun kd => match dLook kvs kd with
  | some o => .ok (o.getD .none)
  | _ => .bad
theorem pd_sget2 (hu : X.A.units + 65 < cLine) (hd : PD K mg X E o td fd) (hk : PD K mg X E a ty fk) (hx : PD K mg X E b tx fx)
    (h1 : attributeBase o "get" X.env (eval o X.env) = eval o X.env := by rfl)
    (h2 : ((backTo pos (starEach [a, b] X.env)).all (fun x => !x.1) && (backToKw pos (keywordEach [] X.env)).all (fun x => x.1.isSome) && decide (([a, b] : List Expr).length + ([] : List Keyword).length + (if ([] : List Keyword).isEmpty then 0 else 1) < 30)) = true := by rfl)
    (h3 : (apos.endLine == pos.line) = true := by rfl) (h4 : backTo pos (starEach [a, b] X.env) = [(false, eval a X.env), (false, eval b X.env)] := by rfl) :
    PD K mg X E (.Call (.Attribute o "get" apos) [a, b] [] pos) (tDGet2 td ty tx) (fSget2 fd fk fx) :=
  ⟨pe_dget2 (hu1 hu) hd.pe hk.pe hx.pe ⟨h1, h2, h3, h4⟩, fun S H σ ρ Q rl h => by
    refine hd.sd S H σ ρ _ rl (h.bind fun d v S1 H1 x1 d1 h1 => ?_)
    cases d with
    | dict kvs =>
      obtain ⟨q, rfl, g⟩ := look_isD x1.sh d1
      have h1 : PostG mg E S1 H1 (DV K) ((fk ρ).bind fun kd => (fx ρ).bind fun x => match dLook kvs kd with
        | some o => .ok (o.getD x)
        | _ => .bad) Q := h1
      refine ⟨q, rfl, g, hk.sd S1 H1 σ ρ _ (rl.mono x1) (h1.bind fun kd y S2 H2 x2 d2 h2 => ?_)⟩
      refine hx.sd S2 H2 σ ρ _ ((rl.mono x1).mono x2) (h2.bind fun dx z S3 H3 x3 d3 h3 => ?_)
      cases el : dLook kvs kd with
      | none => rw [el] at h3; exact h3.elim
      | some od =>
        rw [el] at h3
        obtain ⟨a', ov, e', _, k1, k2⟩ := look_get x3.sh ((d1.mono x2.s).mono x3.s) (d2.mono x3.s) el
        cases e'
        rcases k2 with ⟨z1, z2⟩ | ⟨d', w, z1, z2, z3⟩
        · subst z1 z2
          exact ⟨none, k1, h3.ok0 x3.sh d3⟩
        · subst z1 z2
          exact ⟨some w, k1, h3.ok0 x3.sh z3⟩
    | _ => exact h1.elim⟩
theorem pd_sget1 (hu : X.A.units + 65 < cLine) (hd : PD K mg X E o td fd) (hk : PD K mg X E a ty fk)
    (h1 : attributeBase o "get" X.env (eval o X.env) = eval o X.env := by rfl)
    (h2 : ((backTo pos (starEach [a] X.env)).all (fun x => !x.1) && (backToKw pos (keywordEach [] X.env)).all (fun x => x.1.isSome) && decide (([a] : List Expr).length + ([] : List Keyword).length + (if ([] : List Keyword).isEmpty then 0 else 1) < 30)) = true := by rfl)
    (h3 : (apos.endLine == pos.line) = true := by rfl) (h4 : backTo pos (starEach [a] X.env) = [(false, eval a X.env)] := by rfl) :
    PD K mg X E (.Call (.Attribute o "get" apos) [a] [] pos) (tDGet1 td ty) (fSget1 fd fk) :=
  ⟨pe_dget1 (hu1 hu) hd.pe hk.pe ⟨h1, h2, h3, h4⟩, fun S H σ ρ Q rl h => by
    refine hd.sd S H σ ρ _ rl (h.bind fun d v S1 H1 x1 d1 h1 => ?_)
    cases d with
    | dict kvs =>
      obtain ⟨q, rfl, g⟩ := look_isD x1.sh d1
      have h1 : PostG mg E S1 H1 (DV K) ((fk ρ).bind fun kd => match dLook kvs kd with
        | some o => .ok (o.getD .none)
        | _ => .bad) Q := h1
      refine ⟨q, rfl, g, hk.sd S1 H1 σ ρ _ (rl.mono x1) (h1.bind fun kd y S2 H2 x2 d2 h2 => ?_)⟩
      cases el : dLook kvs kd with
      | none => rw [el] at h2; exact h2.elim
      | some od =>
        rw [el] at h2
        obtain ⟨a', ov, e', _, k1, k2⟩ := look_get x2.sh (d1.mono x2.s) d2 el
        cases e'
        rcases k2 with ⟨z1, z2⟩ | ⟨d', w, z1, z2, z3⟩
        · subst z1 z2
          exact ⟨none, k1, h2.ok0 x2.sh rfl⟩
        · subst z1 z2
          exact ⟨some w, k1, h2.ok0 x2.sh z3⟩
    | _ => exact h1.elim⟩
/-! min(d), max(d), sorted(d), the keys ints -/
def keysI : List (D × D) → Option (List Int)
  | [] => some []
  | (.int i, _) :: r => (keysI r).map (i :: ·)
  | _ :: _ => none
theorem keysI_map : ∀ {kvs : List (D × D)} {is : List Int}, keysI kvs = some is → kvs.map (·.1) = is.map PyData.int
  | [], is, h => by cases h; rfl
  | (a, d) :: r, is, h => by
    cases a with
    | int i =>
      unfold keysI at h
      cases e : keysI r with
      | none => rw [e] at h; cases h
      | some js =>
        rw [e] at h
        cases h
        rw [List.map_cons, keysI_map e]
        rfl
    | _ => cases h
theorem kD_inl : ∀ {ks : List Key} {is : List Int}, is.map PyData.int = ks.map kD → ks = is.map Sum.inl
  | [], [], _ => rfl
  | k :: ks, i :: is, h => by
    have h1 : PyData.int i = kD k := (List.cons.inj h).1
    rw [List.map_cons, kD_inl (List.cons.inj h).2]
    cases k with
    | inl j => cases h1; rfl
    | inr z => cases h1
  | [], _ :: _, h => by cases h
  | _ :: _, [], h => by cases h
theorem keysI_of {S : Hp} {v : V} {kvs : List (D × D)} {is : List Int} (hk : keysI kvs = some is) (hn : is ≠ []) (h : DV K S v (.dict kvs)) : ∃ a es, v = .ref a ∧ Rd S a (.dK es) ∧ es.map (·.1) = is.map Sum.inl := by
  obtain ⟨a, rfl, q⟩ := dv_dict h
  have hm := keysI_map hk
  rcases q with ⟨es, g1, g2, _⟩ | ⟨es, g1, g2, _⟩
  · refine ⟨a, es, rfl, g1, kD_inl ?_⟩
    rw [← hm, g2, List.map_map]
    rfl
  · exfalso
    rw [hm] at g2
    cases is with
    | nil => exact hn rfl
    | cons i is =>
      cases es with
      | nil => cases g2
      | cons e es =>
        have := (List.cons.inj g2).1
        cases this
def rMinR : List V → Hp → VK → Prop := fun vs H Q => ∃ (a : Addr) (kvs : List (Key × V)) (is : List Int), vs = [V.ref a] ∧ Rd H a (.dK kvs) ∧ kvs.map (·.1) = is.map Sum.inl ∧ is ≠ [] ∧ ∀ m, m ∈ is → (∀ j ∈ is, m ≤ j) → Q (.int m) H
def rMaxR : List V → Hp → VK → Prop := fun vs H Q => ∃ (a : Addr) (kvs : List (Key × V)) (is : List Int), vs = [V.ref a] ∧ Rd H a (.dK kvs) ∧ kvs.map (·.1) = is.map Sum.inl ∧ is ≠ [] ∧ ∀ m, m ∈ is → (∀ j ∈ is, j ≤ m) → Q (.int m) H
theorem hval_of {vs : List (Key × Value)} {is : List Int} (hkeys : vs.map (·.1) = is.map Sum.inl) : ∀ (i : Nat) (v : Value), (∃ k x, vs[i]? = some (k, x) ∧ (mixKind X.prog X.w).is k v = true) → ∃ t, v = Value.int (is.getD i 0) t := fun i v ⟨k, x, hk, hkey⟩ => by
  have e1 : (vs.map (·.1))[i]? = some k := by rw [List.getElem?_map, hk] <;> rfl
  rw [hkeys, List.getElem?_map] at e1
  obtain ⟨j, hj, e2⟩ := Option.map_eq_some_iff.mp e1
  subst e2
  have hi : Value.isInt j v = true := hkey
  obtain ⟨t, e3⟩ := Value.isInt_shape (k := j) (v := v) hi
  refine ⟨t, ?_⟩
  rw [e3, List.getD_eq_getElem?_getD, hj] <;> rfl
theorem c_minR (hc : X.calm = true) : CallR X (.builtin "min") rMinR := by
  intro pins s σ H vs us Q I r h
  obtain ⟨a, kvs, is, rfl, ha, hv, hne, q⟩ := h
  rw [Vals.ref1 r]
  obtain ⟨_, hsys, vs, rel, dof⟩ := dk_rd I.hok ha
  obtain ⟨ep, dat⟩ := dof.dictAt
  obtain ⟨ob, es, ho, hex, hdat, hko, hpr, hnd⟩ := id dat
  have hlt : a < s.heap.objs.size := Heap.lt_size ho
  have hkeys : vs.map (·.1) = is.map Sum.inl := (KV.keys rel).symm.trans hv
  have hlv : vs.length = is.length := by
    have e1 := congrArg List.length hkeys
    rw [List.length_map, List.length_map] at e1
    exact e1
  have hlen : 0 < vs.length := by
    rw [hlv]
    exact List.length_pos_iff.mpr hne
  refine call_min_walk (wpAny_pyIter_dict (knd := mixKind X.prog X.w) hsys dat ?_)
  refine ⟨_, _, _, _, _, _, _, rfl, PySem.Walks.dictKeys (knd := mixKind X.prog X.w) (A := X.A.in1) (I.ok.hd hc) s.heap.objs.size a (Nat.ne_of_lt hlt) vs ep,
    ⟨⟨_, Heap.get?_push_size _ rfl, rfl, rfl⟩, dat.keep fun b u e => Heap.get?_push_of_some _ e⟩, fun b hb => ?_, hlen, CmpOf.ints_lt (fun i => is.getD i 0) (hval_of hkeys), fun v h' tk hP hk => ?_⟩
  · show b < (s.heap.push _).objs.size
    rw [Heap.size_push]
    rcases List.mem_cons.mp hb with e | hb
    · rw [e]
      exact Nat.lt_succ_self _
    · rw [List.mem_singleton.mp hb]
      exact Nat.lt_succ_of_lt hlt
  · obtain ⟨t, rfl⟩ := hval_of hkeys _ v hP
    obtain ⟨b1, b2⟩ := argBest_lt (fun i => is.getD i 0) (vs.length - 1)
    refine ⟨.int _, H, I.kept (t' := tk) fun b u e => hk b u (fun hmem => ?_) (Heap.get?_push_of_some _ e), ⟨t, rfl⟩, q _ ?_ fun j hj => ?_⟩
    · have e1 : b = s.heap.objs.size := List.mem_singleton.mp hmem
      have e2 := Heap.lt_size e
      rw [e1] at e2
      exact absurd e2 (Nat.lt_irrefl _)
    · have hb : argBest (fun i j => decide (is.getD i 0 < is.getD j 0)) (vs.length - 1) < is.length := by omega
      rw [List.getD_eq_getElem?_getD, List.getElem?_eq_getElem hb]
      exact List.getElem_mem hb
    · obtain ⟨i, hi, e⟩ := List.mem_iff_getElem.mp hj
      have e2 : is.getD i 0 = j := by rw [List.getD_eq_getElem?_getD, List.getElem?_eq_getElem hi, ← e] <;> rfl
      rw [← e2]
      exact b2 i (by omega)
theorem c_maxR (hc : X.calm = true) : CallR X (.builtin "max") rMaxR := by
  intro pins s σ H vs us Q I r h
  obtain ⟨a, kvs, is, rfl, ha, hv, hne, q⟩ := h
  rw [Vals.ref1 r]
  obtain ⟨_, hsys, vs, rel, dof⟩ := dk_rd I.hok ha
  obtain ⟨ep, dat⟩ := dof.dictAt
  obtain ⟨ob, es, ho, hex, hdat, hko, hpr, hnd⟩ := id dat
  have hlt : a < s.heap.objs.size := Heap.lt_size ho
  have hkeys : vs.map (·.1) = is.map Sum.inl := (KV.keys rel).symm.trans hv
  have hlv : vs.length = is.length := by
    have e1 := congrArg List.length hkeys
    rw [List.length_map, List.length_map] at e1
    exact e1
  have hlen : 0 < vs.length := by
    rw [hlv]
    exact List.length_pos_iff.mpr hne
  refine call_max_walk (wpAny_pyIter_dict (knd := mixKind X.prog X.w) hsys dat ?_)
  refine ⟨_, _, _, _, _, _, _, rfl, PySem.Walks.dictKeys (knd := mixKind X.prog X.w) (A := X.A.in1) (I.ok.hd hc) s.heap.objs.size a (Nat.ne_of_lt hlt) vs ep,
    ⟨⟨_, Heap.get?_push_size _ rfl, rfl, rfl⟩, dat.keep fun b u e => Heap.get?_push_of_some _ e⟩, fun b hb => ?_, hlen, CmpOf.ints_gt (fun i => is.getD i 0) (hval_of hkeys), fun v h' tk hP hk => ?_⟩
  · show b < (s.heap.push _).objs.size
    rw [Heap.size_push]
    rcases List.mem_cons.mp hb with e | hb
    · rw [e]
      exact Nat.lt_succ_self _
    · rw [List.mem_singleton.mp hb]
      exact Nat.lt_succ_of_lt hlt
  · obtain ⟨t, rfl⟩ := hval_of hkeys _ v hP
    obtain ⟨b1, b2⟩ := argBest_gt (fun i => is.getD i 0) (vs.length - 1)
    refine ⟨.int _, H, I.kept (t' := tk) fun b u e => hk b u (fun hmem => ?_) (Heap.get?_push_of_some _ e), ⟨t, rfl⟩, q _ ?_ fun j hj => ?_⟩
    · have e1 : b = s.heap.objs.size := List.mem_singleton.mp hmem
      have e2 := Heap.lt_size e
      rw [e1] at e2
      exact absurd e2 (Nat.lt_irrefl _)
    · have hb : argBest (fun i j => decide (is.getD i 0 > is.getD j 0)) (vs.length - 1) < is.length := by omega
      rw [List.getD_eq_getElem?_getD, List.getElem?_eq_getElem hb]
      exact List.getElem_mem hb
    · obtain ⟨i, hi, e⟩ := List.mem_iff_getElem.mp hj
      have e2 : is.getD i 0 = j := by rw [List.getD_eq_getElem?_getD, List.getElem?_eq_getElem hi, ← e] <;> rfl
      rw [← e2]
      exact b2 i (by omega)
def gMinK : List D → Res D
  | [.dict kvs] => match keysI kvs with
    | some (i :: is) => .ok (.int (minI (i :: is)))
    | _ => .bad
  | _ => .bad
def gMaxK : List D → Res D
  | [.dict kvs] => match keysI kvs with
    | some (i :: is) => .ok (.int (maxI (i :: is)))
    | _ => .bad
  | _ => .bad
theorem cs_minK : CaS K mg E rMinR gMinK := fun S H xs ds Q sh dv h => by
  unfold gMinK at h
  split at h
  · split at h
    · rename_i i is e
      obtain ⟨v, rfl, hv⟩ := dvs1 dv
      obtain ⟨a, es, rfl, g1, g2⟩ := keysI_of e (by simp) hv
      refine ⟨a, es, i :: is, rfl, rd_same sh g1, g2, by simp, fun m hm hle => ?_⟩
      obtain ⟨k1, k2⟩ := minI_spec (i :: is) (by simp)
      have e : m = minI (i :: is) := Int.le_antisymm (hle _ k1) (k2 m hm)
      rw [e]
      exact h.ok0 sh rfl
    · exact h.elim
  · exact h.elim
theorem cs_maxK : CaS K mg E rMaxR gMaxK := fun S H xs ds Q sh dv h => by
  unfold gMaxK at h
  split at h
  · split at h
    · rename_i i is e
      obtain ⟨v, rfl, hv⟩ := dvs1 dv
      obtain ⟨a, es, rfl, g1, g2⟩ := keysI_of e (by simp) hv
      refine ⟨a, es, i :: is, rfl, rd_same sh g1, g2, by simp, fun m hm hle => ?_⟩
      obtain ⟨k1, k2⟩ := maxI_spec (i :: is) (by simp)
      have e : m = maxI (i :: is) := Int.le_antisymm (k2 m hm) (hle _ k1)
      rw [e]
      exact h.ok0 sh rfl
    · exact h.elim
  · exact h.elim
def rSortR : List V → Hp → VK → Prop := fun xs H Q => ∃ (a : Addr) (kvs : List (Key × V)) (ks : List Int), xs = [.ref a] ∧ Rd H a (.dK kvs) ∧ kvs.map (·.1) = ks.map Sum.inl ∧ ks.length < 64 ∧
    ∀ (ys : List Int) (p : Addr), ys.Perm ks → ys.Pairwise (· ≤ ·) → H p = none → Q (.ref p) (upd H p (.lst (ys.map V.int)))
theorem c_sortR (hc : X.calm = true) : CallR X (.builtin "sorted") rSortR := call_sortedDI hc
def sortI (ns : List Int) : List Int := ns.mergeSort (fun a b => decide (a ≤ b))
theorem sortI_perm (ns : List Int) : (sortI ns).Perm ns := List.mergeSort_perm ns _
theorem sortI_sorted (ns : List Int) : (sortI ns).Pairwise (· ≤ ·) := by
  have := List.pairwise_mergeSort (le := fun a b : Int => decide (a ≤ b)) (fun a b c h1 h2 => by simp only [decide_eq_true_eq] at *; omega) (fun a b => by simp only [Bool.or_eq_true, decide_eq_true_eq]; omega) ns
  exact this.imp fun h => of_decide_eq_true h
theorem sort_unique {xs ys : List Int} (h1 : xs.Perm ys) (hx : xs.Pairwise (· ≤ ·)) (hy : ys.Pairwise (· ≤ ·)) : xs = ys := List.Perm.eq_of_pairwise (fun a b _ _ h1 h2 => Int.le_antisymm h1 h2) hx hy h1
def gSortK : List D → Res D
  | [.dict kvs] => match keysI kvs with
    | some (i :: is) => if (i :: is).length < 64 then .ok (.list ((sortI (i :: is)).map PyData.int)) else .bad
    | _ => .bad
  | _ => .bad
theorem cs_sortK : CaS K mg E rSortR gSortK := fun S H xs ds Q sh dv h => by
  unfold gSortK at h
  split at h
  · split at h
    · rename_i i is e
      split at h
      · rename_i hz
        obtain ⟨v, rfl, hv⟩ := dvs1 dv
        obtain ⟨a, es, rfl, g1, g2⟩ := keysI_of e (by simp) hv
        refine ⟨a, es, i :: is, rfl, rd_same sh g1, g2, hz, fun ys p hp hs hn => ?_⟩
        have e : ys = sortI (i :: is) := sort_unique (hp.trans (sortI_perm _).symm) hs (sortI_sorted _)
        subst e
        exact new_lst sh (dvs_ints _) h hn
      · exact h.elim
    · exact h.elim
  · exact h.elim
end
end PD
namespace PD
open PySem L2
/-! ### a dict that is walked is locked for the while -/
def noFz : HO → Bool
  | .frz _ _ => false
  | _ => true
structure RdMap (S T : Hp) : Prop where
  rd : ∀ (b : Addr) (u : HO), noFz u = true → Rd S b u → Rd T b u
  tp : ∀ (b : Addr) (xs : List V), S b = some (.tup xs) → T b = some (.tup xs)
mutual
theorem DV.rdm {K : PySem.W.Frag} {S T : Hp} (e : RdMap S T) : ∀ (d : D) (v : V), DV K S v d → DV K T v d
  | .none, v, h => by rw [DV] at h ⊢; exact h
  | .bool b, v, h => by rw [DV] at h ⊢; exact h
  | .int b, v, h => by rw [DV] at h ⊢; exact h
  | .str b, v, h => by rw [DV] at h ⊢; exact h
  | .list ds, v, h => by
    rw [DV] at h ⊢
    obtain ⟨a, xs, h1, h2, h3⟩ := h
    refine ⟨a, xs, h1, ?_, DVs.rdm e ds xs h3⟩
    rcases h2 with h | h
    · exact .inl (e.rd _ _ rfl h)
    · exact .inr h
  | .tuple ds, v, h => by
    rw [DV] at h ⊢
    obtain ⟨a, xs, h1, h2, h3⟩ := h
    refine ⟨a, xs, h1, ⟨?_, fun z => e.tp _ _ (h2.2 z)⟩, DVs.rdm e ds xs h3⟩
    rcases h2.1 with h | h
    · exact .inl (e.rd _ _ rfl h)
    · exact .inr h
  | .dict kvs, v, h => by
    rw [DV] at h ⊢
    obtain ⟨a, h1, h2⟩ := h
    refine ⟨a, h1, ?_⟩
    rcases h2 with ⟨es, h2, h3, h4⟩ | ⟨es, h2, h3, h4⟩
    · exact .inl ⟨es, e.rd _ _ rfl h2, h3, DVp.rdm e kvs _ h4⟩
    · exact .inr ⟨es, e.rd _ _ rfl h2, h3, DVp.rdm e kvs _ h4⟩
theorem DVs.rdm {K : PySem.W.Frag} {S T : Hp} (e : RdMap S T) : ∀ (ds : List D) (vs : List V), DVs K S vs ds → DVs K T vs ds
  | [], [], _ => by rw [DVs]; trivial
  | d :: ds, v :: vs, h => by
    rw [DVs] at h ⊢
    exact ⟨DV.rdm e d v h.1, DVs.rdm e ds vs h.2⟩
  | [], _ :: _, h => by rw [DVs] at h; exact h.elim
  | _ :: _, [], h => by rw [DVs] at h; exact h.elim
theorem DVp.rdm {K : PySem.W.Frag} {S T : Hp} (e : RdMap S T) : ∀ (ds : List (D × D)) (vs : List V), DVp K S vs ds → DVp K T vs ds
  | [], [], _ => by rw [DVp]; trivial
  | (_, d) :: ds, v :: vs, h => by
    rw [DVp] at h ⊢
    exact ⟨DV.rdm e d v h.1, DVp.rdm e ds vs h.2⟩
  | [], _ :: _, h => by rw [DVp] at h; exact h.elim
  | _ :: _, [], h => by rw [DVp] at h; exact h.elim
end
theorem rdm_lock {S : Hp} {a : Addr} {o : Obj} {es : List (Key × V)} (h : S a = some (.dK es)) : RdMap S (upd S a (.frz o (.dK es))) := by
  refine ⟨fun b u hz r => ?_, fun b xs e => ?_⟩
  · by_cases hb : b = a
    · subst hb
      rcases r with r | ⟨o', r⟩
      · rw [h] at r; cases r; exact .inr ⟨o, upd_same⟩
      · rw [h] at r; cases r
    · rcases r with r | ⟨o', r⟩
      · exact .inl (by rw [upd_ne hb]; exact r)
      · exact .inr ⟨o', by rw [upd_ne hb]; exact r⟩
  · have hb : b ≠ a := fun z => by subst z; rw [h] at e; cases e
    rw [upd_ne hb]
    exact e
theorem rdm_unlock {S : Hp} {a : Addr} {o : Obj} {es : List (Key × V)} (h : S a = some (.frz o (.dK es))) : RdMap S (upd S a (.dK es)) := by
  refine ⟨fun b u hz r => ?_, fun b xs e => ?_⟩
  · by_cases hb : b = a
    · subst hb
      rcases r with r | ⟨o', r⟩
      · rw [h] at r
        cases r
        cases hz
      · rw [h] at r; cases r; exact .inl upd_same
    · rcases r with r | ⟨o', r⟩
      · exact .inl (by rw [upd_ne hb]; exact r)
      · exact .inr ⟨o', by rw [upd_ne hb]; exact r⟩
  · have hb : b ≠ a := fun z => by subst z; rw [h] at e; cases e
    rw [upd_ne hb]
    exact e
/-- the keys, walked: the dict is locked -/
theorem walks_keys {K : PySem.W.Frag} {S : Hp} {a : Addr} {o : Obj} {es : List (Key × V)} {kvs : List (D × D)} (h1 : S a = some (.frz o (.dK es))) (h2 : kvs.map (·.1) = es.map (fun e => kD e.1)) : Walks K S (Itk a o es) (kvs.map (·.1)) := fun S' H' e1 e2 => by
  have q : H' a = some (.frz o (.dK es)) := e2 _ _ (e1 _ _ h1)
  have hl : (kvs.map (·.1)).length = es.length := by rw [h2, List.length_map]
  refine ⟨fun i d hi => ?_, q, by rw [hl]; exact Nat.le_refl _⟩
  have hin : i < es.length := by
    have := (List.getElem?_eq_some_iff.mp hi).1
    omega
  refine ⟨⟨q, hin⟩, fun x H'' hy => ?_⟩
  obtain ⟨rfl, k, v, hk, rfl⟩ := hy
  refine ⟨S', Ext.refl e2, ?_⟩
  rw [h2, List.getElem?_map, hk] at hi
  have hi : kD k = d := Option.some.inj hi
  rw [← hi]
  cases k with
  | inl j => exact rfl
  | inr z => exact rfl
def asKeys : D → Res (List D)
  | .dict kvs => if (plainK kvs && !kvs.isEmpty) = true then .ok (kvs.map (·.1)) else .bad
  | _ => .bad
def fKeys (i : Nat) : DEnv → Res (List D) := fun ρ => (fVar i ρ).bind asKeys
section
variable {K : PySem.W.Frag} {mg : Str → Option Value} {X : Cx} {E : XK} {tg : Expr} {p : Pos} {x : Str} {i : Nat}
/-- in an environment where the dict of slot i is locked -/
structure IDK (K : PySem.W.Frag) (mg : Str → Option Value) (X : Cx) (E : XK) (tg iter : Expr) (wi : TI) (f : DEnv → Res (List D)) (i : Nat) : Prop where
  pi : PI X tg iter wi
  sd : ∀ (S H : Hp) (σ : L2.St) (ρ : DEnv) (R : It → Hp → Prop), RelE K S H σ ρ → (∃ a o es, σ[i]? = some (some (.ref a)) ∧ S a = some (.frz o (.dK es))) → PostG mg E S H (fun S J ds => Walks K S J ds) (f ρ) R → wi σ H R
theorem idk_keys (hv : PE X (.Name x p) (tVar i)) : IDK K mg X E tg (.Name x p) (iKeys (tVar i)) (fKeys i) i := ⟨pi_keys hv, fun S H σ ρ R rl hz h => by
  obtain ⟨a, o, es, e1, e2⟩ := hz
  unfold fKeys fVar at h
  split at h
  · rename_i d ed
    obtain ⟨v, k1, k2⟩ := rl.dt i d ed
    rw [e1] at k1
    cases k1
    rw [bind_ok] at h
    unfold asKeys at h
    split at h
    · rename_i kvs
      split at h
      · rename_i c
        obtain ⟨c1, c2⟩ := and_split c
        obtain ⟨a', ea, q⟩ := dv_dict k2
        cases ea
        obtain ⟨es', g1, g2, g3⟩ := plain_of c1 (ne_emp c2) q
        have : es' = es := by
          rcases g1 with g | ⟨o', g⟩
          · rw [e2] at g; cases g
          · rw [e2] at g; cases g; rfl
        subst this
        exact ⟨.ref a, e1, a, o, rfl, .inl ⟨es', rl.sh _ _ e2, h.ok0 rl.sh (walks_keys e2 g2)⟩⟩
      · exact h.elim
    · exact h.elim
  · exact h.elim⟩
theorem relE_lock {S H : Hp} {σ : L2.St} {ρ : DEnv} {a : Addr} {o : Obj} {es : List (Key × V)} (rl : RelE K S H σ ρ) (h : S a = some (.dK es)) : RelE K (upd S a (.frz o (.dK es))) (upd H a (.frz o (.dK es))) σ ρ :=
  ⟨same_upd2 rl.sh, rl.len, fun i y e => let ⟨v, h1, h2⟩ := rl.dt i y e; ⟨v, h1, DV.rdm (rdm_lock h) _ _ h2⟩, rl.rw⟩
theorem ext_unlock {S H S2 H2 : Hp} {a : Addr} {o : Obj} {u : HO} (sh : Same S H) (h : S a = some u) (x : Ext (upd S a (.frz o u)) (upd H a (.frz o u)) S2 H2) : Ext S H (upd S2 a u) (upd H2 a u) := by
  refine ⟨fun b w e => ?_, fun b w e => ?_, same_upd2 x.sh, fun b hb => ?_⟩
  · by_cases q : b = a
    · subst q; rw [h] at e; cases e; exact upd_same
    · rw [upd_ne q]; exact x.s b w (by rw [upd_ne q]; exact e)
  · by_cases q : b = a
    · subst q; rw [sh _ _ h] at e; cases e; exact upd_same
    · rw [upd_ne q]; exact x.h b w (by rw [upd_ne q]; exact e)
  · by_cases q : b = a
    · subst q; rw [upd_same, h]
    · rw [upd_ne q, x.old b (by rw [upd_ne q]; exact hb), upd_ne q]
end
/-- the comprehension over a dict in slot i: locked for the while, or locked already -/
def tLcK (T : TE) : TE := fun σ H Q => tLockE T σ H Q ∨ T σ H Q
section
variable {K : PySem.W.Frag} {mg : Str → Option Value} {X : Cx} {E : XK} {elt tg iter : Expr} {ifs : List Expr} {scope : Scope} {own : List (Str × Nat)} {pos : Pos} {wi : TI} {g : TG} {tt : TT} {te : TE} {is : List Nat} {h : D → Option (List D)} {ft : DEnv → Res Bool} {fe : DEnv → Res D} {i : Nat} {src : DEnv → Res (List D)}
theorem pd_lcK {vs : List Nat} (hc : X.calm = true) (hN : X.N.Nodup) (hi : IDK K mg X E tg iter wi (fKeys i) i) (ok : BlkOk X.N X.env.scope scope own)
    (hg : ∀ (s : Shared) (H : Hp) (C : Addr) (cl : List (Str × Addr)) (fp : List Addr), GD K (Blk X scope s H C cl fp) tg g is h) (ht : ∀ (s : Shared) (H : Hp) (C : Addr) (cl : List (Str × Addr)) (fp : List Addr), TDs K mg (Blk X scope s H C cl fp) E0 ifs tt ft)
    (he : ∀ (s : Shared) (H : Hp) (C : Addr) (cl : List (Str × Addr)) (fp : List Addr), PD K mg (Blk X scope s H C cl fp) E0 elt te fe) (hvs : own.map (·.2) = vs := by rfl) (his : ∀ i ∈ is, i ∈ vs := by decide) (hs : ∀ x, foldedSetIterable iter X.env x = pure x := by intro _; rfl) :
    PD K mg X E (.ListComp elt [⟨tg, iter, ifs, 0⟩] scope pos) (tLcK (tLc wi g tt te vs)) (fLc (fKeys i) vs is h ft fe) := by
  have pe : PE X (.ListComp elt [⟨tg, iter, ifs, 0⟩] scope pos) (tLc wi g tt te vs) := hvs ▸ pe_lc hc hN hi.pi ok (fun s H C cl fp => (hg s H C cl fp).pg) (fun s H C cl fp => (ht s H C cl fp).pe) (fun s H C cl fp => (he s H C cl fp).pe) hs
  refine ⟨⟨fun pins s σ H Q I q => q.elim (fun q => (pe_lock pe).run pins s σ H Q I q) fun q => pe.run pins s σ H Q I q⟩, fun S H σ ρ Q rl hp => ?_⟩
  have key : ∀ (S H : Hp) (Q : VK), RelE K S H σ ρ → (∃ a o es, σ[i]? = some (some (.ref a)) ∧ S a = some (.frz o (.dK es))) → PostG mg E S H (DV K) (fLc (fKeys i) vs is h ft fe ρ) Q → tLc wi g tt te vs σ H Q := fun S H Q rl hz hp =>
    lc_sd' (X' := Blk X scope X.s_0 X.H_0 0 [] []) (fun R q => hi.sd S H σ ρ R rl hz q) (hg _ _ _ _ _) (ht _ _ _ _ _) (he _ _ _ _ _) his Q rl hp
  cases ev : ρ[i]? with
  | none =>
    unfold fLc fKeys fVar at hp
    rw [ev] at hp
    exact hp.elim
  | some sl =>
    cases sl with
    | d y =>
      obtain ⟨v, k1, k2⟩ := rl.dt i y ev
      cases y with
      | dict kvs =>
        by_cases c : (plainK kvs && !kvs.isEmpty) = true
        · obtain ⟨c1, c2⟩ := and_split c
          obtain ⟨a, rfl, q⟩ := dv_dict k2
          obtain ⟨es, g1, g2, g3⟩ := plain_of c1 (ne_emp c2) q
          rcases g1 with g1 | ⟨o, g1⟩
          · refine .inl ⟨a, .dK es, rl.sh _ _ g1, trivial, fun od => ?_⟩
            refine key _ _ _ (relE_lock rl g1) ⟨a, od, es, k1, upd_same⟩ ?_
            cases er : fLc (fKeys i) vs is h ft fe ρ with
            | ok dd =>
              rw [er] at hp
              intro w S2 H2 x2 dw
              have f2 : S2 a = some (.frz od (.dK es)) := x2.s _ _ upd_same
              exact ⟨x2.h _ _ upd_same, hp w _ _ (ext_unlock rl.sh g1 x2) (DV.rdm (rdm_unlock f2) _ _ dw)⟩
            | err cc =>
              exfalso
              unfold fLc fKeys fVar at er
              rw [ev, bind_ok] at er
              unfold asKeys at er
              dsimp only at er
              rw [if_pos c, bind_ok] at er
              unfold lcEnd at er
              cases eg : lcGo (lcStep ρ vs is h ft fe) (kvs.map (·.1)) with
              | ok ys => rw [eg, bind_ok] at er; split at er <;> cases er
              | err c2 => exact lcGo_noerr _ _ _ eg
              | bad => rw [eg] at er; cases er
            | bad => rw [er] at hp; exact hp.elim
          · exact .inr (key S H Q rl ⟨a, o, es, k1, g1⟩ hp)
        · exfalso
          unfold fLc fKeys fVar at hp
          rw [ev, bind_ok] at hp
          unfold asKeys at hp
          dsimp only at hp
          rw [if_neg c] at hp
          exact hp
      | _ =>
        exfalso
        unfold fLc fKeys fVar at hp
        rw [ev] at hp
        exact hp
    | _ =>
      exfalso
      unfold fLc fKeys fVar at hp
      rw [ev] at hp
      exact hp
end
end PD
namespace PD
open PySem L2
/-! ### evaluation -/
theorem v_nil : viewAll [] = [] := rfl
theorem v_cons (s : Slot) (ρ : DEnv) : viewAll (s :: ρ) = view s :: viewAll ρ := rfl
theorem w_d (x : D) : view (.d x) = .d x := rfl
theorem w_un : view .un = .un := rfl
theorem w_own (x : List D) : view (.own x) = .d (.list x) := rfl
theorem x_var0 (x : D) (ρ : DEnv) : fVar 0 (.d x :: ρ) = .ok x := rfl
theorem x_varS (i : Nat) (s : Slot) (ρ : DEnv) : fVar (i + 1) (s :: ρ) = fVar i ρ := rfl
theorem x_c (d : D) (ρ : DEnv) : fC d ρ = .ok d := rfl
theorem x_bin (g : D → D → Res D) (f1 f2 : DEnv → Res D) (ρ : DEnv) : fBin g f1 f2 ρ = (f1 ρ).bind fun a => (f2 ρ).bind fun b => g a b := rfl
theorem x_un (g : D → Res D) (f : DEnv → Res D) (ρ : DEnv) : fUn g f ρ = (f ρ).bind g := rfl
theorem x_b (g : List D → Res D) (f : DEnv → Res (List D)) (ρ : DEnv) : fB g f ρ = (f ρ).bind g := rfl
theorem x_nil (ρ : DEnv) : fNil ρ = .ok [] := rfl
theorem x_cons (f : DEnv → Res D) (g : DEnv → Res (List D)) (ρ : DEnv) : fCons f g ρ = (f ρ).bind fun x => (g ρ).bind fun xs => .ok (x :: xs) := rfl
theorem x_call1 (F : List D → Res D) (f : DEnv → Res D) (ρ : DEnv) : fCall 1 F (fCons f fNil) ρ = (f ρ).bind fun a => F [a] := by
  unfold fCall fCons fNil
  cases f ρ <;> rfl
theorem x_call2 (F : List D → Res D) (f g : DEnv → Res D) (ρ : DEnv) : fCall 2 F (fCons f (fCons g fNil)) ρ = (f ρ).bind fun a => (g ρ).bind fun b => F [a, b] := by
  unfold fCall fCons fNil
  cases f ρ <;> first | rfl | (cases g ρ <;> rfl)
theorem x_call3 (F : List D → Res D) (f g h : DEnv → Res D) (ρ : DEnv) : fCall 3 F (fCons f (fCons g (fCons h fNil))) ρ = (f ρ).bind fun a => (g ρ).bind fun b => (h ρ).bind fun c => F [a, b, c] := by
  unfold fCall fCons fNil
  cases f ρ <;> first | rfl | (cases g ρ <;> first | rfl | (cases h ρ <;> rfl))
theorem x_call0 (F : List D → Res D) (ρ : DEnv) : fCall 0 F fNil ρ = F [] := rfl
theorem x_test (f : DEnv → Res D) (ρ : DEnv) : fTest f ρ = (f ρ).bind asB := rfl
theorem x_asB (b : Bool) : asB (.bool b) = .ok b := rfl
theorem x_not (f : DEnv → Res Bool) (ρ : DEnv) : fNot f ρ = (f ρ).bind fun b => .ok (!b) := rfl
theorem x_and (f g : DEnv → Res Bool) (ρ : DEnv) : fAnd f g ρ = (f ρ).bind fun b => if b = true then g ρ else .ok false := rfl
theorem x_or (f g : DEnv → Res Bool) (ρ : DEnv) : fOr f g ρ = (f ρ).bind fun b => if b = true then .ok true else g ρ := rfl
theorem x_andV (f g : DEnv → Res D) (ρ : DEnv) : fAndV f g ρ = (fTest f ρ).bind fun b => if b = true then g ρ else .ok (.bool false) := rfl
theorem x_orV (f g : DEnv → Res D) (ρ : DEnv) : fOrV f g ρ = (fTest f ρ).bind fun b => if b = true then .ok (.bool true) else g ρ := rfl
theorem x_notV (f : DEnv → Res D) (ρ : DEnv) : fNotV f ρ = (fTest f ρ).bind fun b => .ok (.bool !b) := rfl
theorem x_if (g : DEnv → Res Bool) (f1 f2 : DEnv → Res D) (ρ : DEnv) : fIf g f1 f2 ρ = (g ρ).bind fun b => if b = true then f1 ρ else f2 ρ := rfl
theorem x_isi (T : String) (f : DEnv → Res D) (ρ : DEnv) : fIsi T f ρ = (f ρ).bind fun d => .ok (.bool (isiD T d)) := rfl
theorem x_chain (g g' : D → D → Res D) (f1 f2 f3 : DEnv → Res D) (ρ : DEnv) : fChain g g' f1 f2 f3 ρ = (f1 ρ).bind fun x => (f2 ρ).bind fun y => (g x y).bind fun z => (asB z).bind fun k => if k = true then (f3 ρ).bind fun w => g' y w else .ok (.bool false) := rfl
theorem x_tup (g : DEnv → Res (List D)) (ρ : DEnv) : fTup g ρ = (g ρ).bind mkT := rfl
theorem x_lst (g : DEnv → Res (List D)) (ρ : DEnv) : fLst g ρ = (g ρ).bind mkL := rfl
theorem x_mkT0 : mkT [] = .ok (.tuple []) := rfl
theorem x_mkT1 (a : D) : mkT [a] = .ok (.tuple [a]) := rfl
theorem x_mkT2 (a b : D) : mkT [a, b] = .ok (.tuple [a, b]) := rfl
theorem x_mkT3 (a b c : D) : mkT [a, b, c] = .ok (.tuple [a, b, c]) := rfl
theorem x_mkL0 : mkL [] = .ok (.list []) := rfl
theorem x_mkL1 (a : D) : mkL [a] = .ok (.list [a]) := rfl
theorem x_mkL2 (a b : D) : mkL [a, b] = .ok (.list [a, b]) := rfl
theorem x_mkL3 (a b c : D) : mkL [a, b, c] = .ok (.list [a, b, c]) := rfl
theorem x_mkL4 (a b c d : D) : mkL [a, b, c, d] = .ok (.list [a, b, c, d]) := rfl
/-! statements -/
theorem y_next (ρ : DEnv) (k : DEnv → SR) : (SR.next ρ).seq k = k ρ := rfl
theorem y_ret (d : D) (k : DEnv → SR) : (SR.ret d).seq k = .ret d := rfl
theorem y_err (d : Str) (k : DEnv → SR) : (SR.err d).seq k = .err d := rfl
theorem y_ok {α : Type} (a : α) (k : α → SR) : ofRes (Res.ok a) k = k a := rfl
theorem y_er {α : Type} (c : Str) (k : α → SR) : ofRes (Res.err c : Res α) k = .err c := rfl
theorem y_seq (F G : DEnv → SR) (ρ : DEnv) : sSeq F G ρ = (F ρ).seq G := rfl
theorem y_if (g : DEnv → Res Bool) (F G : DEnv → SR) (ρ : DEnv) : sIf g F G ρ = ofRes (g (viewAll ρ)) fun b => if b = true then F ρ else G ρ := rfl
theorem y_nx (ρ : DEnv) : sNext ρ = .next ρ := rfl
theorem y_rt (f : DEnv → Res D) (ρ : DEnv) : sRet f ρ = ofRes (f ρ) fun d => .ret d := rfl
theorem y_ex (f : DEnv → Res D) (ρ : DEnv) : sExpr f ρ = ofRes (f ρ) fun _ => .next ρ := rfl
theorem y_rs (c : Str) (ρ : DEnv) : sRaise c ρ = .err c := rfl
theorem y_as1 (f : DEnv → Res D) (i : Nat) (ρ : DEnv) : sAsg f [i] hOne ρ = ofRes (f ρ) fun d => .next (ρ.set i (.d d)) := rfl
theorem y_asT3 (f : DEnv → Res D) (i j k : Nat) (ρ : DEnv) : sAsg f [i, j, k] (hTup 3) ρ = ofRes (f ρ) fun d => match d with
  | .tuple [x, y, z] => .next (((ρ.set i (.d x)).set j (.d y)).set k (.d z))
  | _ => .bad := by
  unfold sAsg
  cases f ρ with
  | ok d =>
    rw [y_ok, y_ok]
    cases d with
    | tuple ds =>
      match ds with
      | [x, y, z] => rfl
      | [] => rfl
      | [_] => rfl
      | [_, _] => rfl
      | _ :: _ :: _ :: _ :: _ => rfl
    | _ => rfl
  | err c => rfl
  | bad => rfl
theorem y_fn (n : Nat) (B : DEnv → SR) (ds : List D) : fnF n B ds = toRes (B (startD n ds)) := rfl
theorem y_t1 (d : D) : toRes (.ret d) = .ok d := rfl
theorem y_t2 (ρ : DEnv) : toRes (.next ρ) = .ok .none := rfl
theorem y_t3 (c : Str) : toRes (.err c) = .err c := rfl
theorem set0 (s t : Slot) (ρ : DEnv) : (s :: ρ).set 0 t = t :: ρ := rfl
theorem setS' (i : Nat) (s t : Slot) (ρ : DEnv) : (s :: ρ).set (i + 1) t = s :: ρ.set i t := rfl
theorem b_or (g : DEnv → Res Bool) : g = g := rfl
/-! values -/
theorem sh_int (i : Int) : SeqAt.shaped (.int i) = true := rfl
theorem sh_bool (i : Bool) : SeqAt.shaped (.bool i) = true := rfl
theorem sh_none : SeqAt.shaped .none = true := rfl
theorem eq_int (i j : Int) : gEq (.int i) (.int j) = .ok (.bool (i == j)) := rfl
theorem ne_int (i j : Int) : gNe (.int i) (.int j) = .ok (.bool (!(i == j))) := rfl
theorem g_lt (i j : Int) : gLt (.int i) (.int j) = .ok (.bool (decide (i < j))) := rfl
theorem g_le (i j : Int) : gLe (.int i) (.int j) = .ok (.bool (decide (i ≤ j))) := rfl
theorem g_gt (i j : Int) : gGt (.int i) (.int j) = .ok (.bool (decide (j < i))) := rfl
theorem g_ge (i j : Int) : gGe (.int i) (.int j) = .ok (.bool (decide (j ≤ i))) := rfl
theorem g_sub (i j : Int) : gSub (.int i) (.int j) = .ok (.int (i - j)) := rfl
theorem g_add (i j : Int) : gAdd (.int i) (.int j) = .ok (.int (i + j)) := rfl
theorem g_div {i j : Int} (h : divOk i j = true) : gDiv (.int i) (.int j) = .ok (.int (i / j)) := by unfold gDiv gI; dsimp only; rw [if_pos h]
theorem g_mod {i j : Int} (h : 0 < j) : gMod (.int i) (.int j) = .ok (.int (i % j)) := by unfold gMod gI; dsimp only; rw [if_pos (decide_eq_true h)]
theorem g_mul {i j : Int} (h : mulOk i j = true) : gMulI (.int i) (.int j) = .ok (.int (i * j)) := by unfold gMulI gI; dsimp only; rw [if_pos h]
theorem g_lenL (xs : List D) : gLen [.list xs] = .ok (.int xs.length) := rfl
theorem g_lenT (xs : List D) : gLen [.tuple xs] = .ok (.int xs.length) := rfl
theorem g_ixT {xs : List D} {i : Int} {d : D} (h : ixD xs i = some d) : gIx (.tuple xs) (.int i) = .ok d := by unfold gIx; dsimp only; rw [h]
theorem g_ixL {xs : List D} {i : Int} {d : D} (h : ixD xs i = some d) : gIx (.list xs) (.int i) = .ok d := by unfold gIx; dsimp only; rw [h]
theorem g_ix30 (a b c : D) : gIx (.tuple [a, b, c]) (.int 0) = .ok a := rfl
theorem g_ix31 (a b c : D) : gIx (.tuple [a, b, c]) (.int 1) = .ok b := rfl
theorem g_ix32 (a b c : D) : gIx (.tuple [a, b, c]) (.int 2) = .ok c := rfl
theorem is_TT : gIs true (.bool true) (.bool true) = .ok (.bool false) := rfl
theorem is_TF (b c : Bool) : gIs true (.bool b) (.bool c) = .ok (.bool (!decide (b = c))) := rfl
theorem is_FF (b c : Bool) : gIs false (.bool b) (.bool c) = .ok (.bool (decide (b = c))) := rfl
theorem isi_TT (xs : List D) : isiD "tuple" (.tuple xs) = true := by simp [isiD, isiN, tyName]
theorem isi_TL (xs : List D) : isiD "tuple" (.list xs) = false := by simp [isiD, isiN, tyName]
theorem isi_LL (xs : List D) : isiD "list" (.list xs) = true := by simp [isiD, isiN, tyName]
theorem isi_SS (x : Str) : isiD "str" (.str x) = true := by simp [isiD, isiN, tyName]
/-! ### loops of comprehensions -/
theorem lcGo_ok {step : D → Res (List D)} {h : D → List D} : ∀ {xs : List D}, (∀ d ∈ xs, step d = .ok (h d)) → lcGo step xs = .ok (xs.flatMap h)
  | [], _ => rfl
  | x :: xs, hx => by
    show ((step x).strict.bind fun o => (lcGo step xs).bind fun r => .ok (o ++ r)) = _
    rw [hx x List.mem_cons_self, lcGo_ok fun d hd => hx d (List.mem_cons_of_mem _ hd)]
    rfl
theorem lcEnd_mk {ys : List D} (h : ys.length < 1000000) : lcEnd (.ok ys) = .ok (.list ys) := by
  unfold lcEnd
  rw [bind_ok, if_pos (show lenOk (ys.length + 1) = true from decide_eq_true (by omega))]
theorem x_lc {src : DEnv → Res (List D)} {own is : List Nat} {h : D → Option (List D)} {ft : DEnv → Res Bool} {fe : DEnv → Res D} {ρ : DEnv} {ds ys : List D} (h1 : src ρ = .ok ds) (h2 : lcGo (lcStep ρ own is h ft fe) ds = .ok ys) (h3 : ys.length < 1000000) : fLc src own is h ft fe ρ = .ok (.list ys) := by
  unfold fLc
  rw [h1, bind_ok, h2, lcEnd_mk h3]
theorem x_lc2 {src : DEnv → Res (List D)} {own is : List Nat} {h : D → Option (List D)} {ft : DEnv → Res Bool} {src1 : DEnv → Res (List D)} {own1 is1 : List Nat} {h1 : D → Option (List D)} {ft1 : DEnv → Res Bool} {fe : DEnv → Res D} {ρ : DEnv} {ds ys : List D} (e1 : src ρ = .ok ds) (e2 : lcGo (lc2Step ρ own is h ft src1 own1 is1 h1 ft1 fe) ds = .ok ys) (e3 : ys.length < 1000000) : fLc2 src own is h ft src1 own1 is1 h1 ft1 fe ρ = .ok (.list ys) := by
  unfold fLc2
  rw [e1, bind_ok, e2, lcEnd_mk e3]
theorem wp_nil (ρ : DEnv) : wipeD ρ [] = ρ := rfl
theorem wp_cons (ρ : DEnv) (v : Nat) (vs : List Nat) : wipeD ρ (v :: vs) = (wipeD ρ vs).set v .un := rfl
theorem l_1 (ρ : DEnv) (own : List Nat) (i : Nat) (fe : DEnv → Res D) (d : D) : lcStep ρ own [i] hOne fYes fe d = (fe ((wipeD ρ own).set i (.d d))).bind fun y => .ok [y] := rfl
theorem l_1t (ρ : DEnv) (own : List Nat) (i : Nat) (tt : DEnv → Res Bool) (fe : DEnv → Res D) (d : D) : lcStep ρ own [i] hOne tt fe d = (tt ((wipeD ρ own).set i (.d d))).bind fun b => if b = true then (fe ((wipeD ρ own).set i (.d d))).bind fun y => .ok [y] else .ok [] := rfl
theorem l_2 (ρ : DEnv) (own : List Nat) (i j : Nat) (fe : DEnv → Res D) (x y : D) : lcStep ρ own [i, j] (hTup 2) fYes fe (.tuple [x, y]) = (fe (((wipeD ρ own).set i (.d x)).set j (.d y))).bind fun y => .ok [y] := rfl
theorem l_2t (ρ : DEnv) (own : List Nat) (i j : Nat) (tt : DEnv → Res Bool) (fe : DEnv → Res D) (x y : D) : lcStep ρ own [i, j] (hTup 2) tt fe (.tuple [x, y]) = (tt (((wipeD ρ own).set i (.d x)).set j (.d y))).bind fun b => if b = true then (fe (((wipeD ρ own).set i (.d x)).set j (.d y))).bind fun y => .ok [y] else .ok [] := rfl
theorem l_3 (ρ : DEnv) (own : List Nat) (i j k : Nat) (fe : DEnv → Res D) (x y z : D) : lcStep ρ own [i, j, k] (hTup 3) fYes fe (.tuple [x, y, z]) = (fe ((((wipeD ρ own).set i (.d x)).set j (.d y)).set k (.d z))).bind fun y => .ok [y] := rfl
theorem l2_11 (ρ : DEnv) (own own1 : List Nat) (i j : Nat) (src1 : DEnv → Res (List D)) (fe : DEnv → Res D) (d : D) : lc2Step ρ own [i] hOne fYes src1 own1 [j] hOne fYes fe d = (src1 ((wipeD ρ own).set i (.d d))).bind fun es => lcGo (lcStep ((wipeD ρ own).set i (.d d)) own1 [j] hOne fYes fe) es := rfl
theorem x_seq (f : DEnv → Res D) (ρ : DEnv) : fSeq f ρ = (f ρ).bind asSeq := rfl
theorem x_asL (ds : List D) : asSeq (.list ds) = .ok ds := rfl
theorem x_asT (ds : List D) : asSeq (.tuple ds) = .ok ds := rfl
theorem x_rng (g : List D → Res (List D)) (f : DEnv → Res (List D)) (ρ : DEnv) : fRng g f ρ = (f ρ).bind g := rfl
theorem x_zipL (xs ys : List D) : gZip [.list xs, .list ys] = .ok (zipD xs ys) := rfl
theorem x_zipT (xs ys : List D) : gZip [.tuple xs, .tuple ys] = .ok (zipD xs ys) := rfl
theorem g_tupL (xs : List D) : gTupOf [.list xs] = .ok (.tuple xs) := rfl
theorem g_tupT (xs : List D) : gTupOf [.tuple xs] = .ok (.tuple xs) := rfl
theorem g_listL (xs : List D) : gListOf [.list xs] = .ok (.list xs) := rfl
theorem g_listT (xs : List D) : gListOf [.tuple xs] = .ok (.list xs) := rfl
/-! ### loops -/
theorem forGo_inv {asg : D → DEnv → Option DEnv} {body : DEnv → SR} (P : DEnv → Prop) : ∀ {ds : List D} {ρ : DEnv}, P ρ → (∀ d ∈ ds, ∀ ρ, P ρ → ∃ ρ1 ρ', asg d ρ = some ρ1 ∧ body ρ1 = .next ρ' ∧ P ρ') → ∃ ρ', forGo asg body ds ρ = .next ρ' ∧ P ρ'
  | [], ρ, h, _ => ⟨ρ, rfl, h⟩
  | d :: ds, ρ, h, hs => by
    obtain ⟨ρ1, ρ', e1, e2, h'⟩ := hs d List.mem_cons_self ρ h
    obtain ⟨ρ2, e3, h2⟩ := forGo_inv P (ds := ds) h' fun d hd => hs d (List.mem_cons_of_mem _ hd)
    refine ⟨ρ2, ?_, h2⟩
    unfold forGo
    rw [e1]
    dsimp only
    rw [e2]
    exact e3
/-- a loop with a state that is told by the items gone -/
theorem forGo_fold {asg : D → DEnv → Option DEnv} {body : DEnv → SR} {α : Type} (st : α → DEnv) (step : α → D → α) : ∀ {ds : List D} {a : α}, (∀ d ∈ ds, ∀ a, ∃ ρ1, asg d (st a) = some ρ1 ∧ body ρ1 = .next (st (step a d))) → forGo asg body ds (st a) = .next (st (ds.foldl step a))
  | [], _, _ => rfl
  | d :: ds, a, hs => by
    obtain ⟨ρ1, e1, e2⟩ := hs d List.mem_cons_self a
    unfold forGo
    rw [e1]
    dsimp only
    rw [e2]
    exact forGo_fold st step fun d hd => hs d (List.mem_cons_of_mem _ hd)
theorem y_for {src : DEnv → Res (List D)} {is : List Nat} {hh : D → Option (List D)} {body : DEnv → SR} {ρ : DEnv} {ds : List D} (h : src ρ = .ok ds) : sFor src is hh body ρ = forGo (asgOf is hh) body ds ρ := by
  unfold sFor
  rw [h]
  rfl
theorem f_cons {asg : D → DEnv → Option DEnv} {body : DEnv → SR} {d : D} {ds : List D} {ρ ρ1 ρ' : DEnv} (h1 : asg d ρ = some ρ1) (h2 : body ρ1 = .next ρ') : forGo asg body (d :: ds) ρ = forGo asg body ds ρ' := by
  conv => lhs; unfold forGo
  rw [h1]
  dsimp only
  rw [h2]
theorem f_nil {asg : D → DEnv → Option DEnv} {body : DEnv → SR} {ρ : DEnv} : forGo asg body [] ρ = .next ρ := rfl
end PD
namespace PD
open PySem L2
def retOf : SR → Res D
  | .ret d => .ok d
  | _ => .bad
theorem retOf_ret' {r : SR} {d : D} (h : retOf r = .ok d) : r = .ret d := by
  cases r with
  | ret x => cases h; rfl
  | _ => cases h
theorem retOf_ret {r : SR} {d : D} (h : retOf r = .ok d) : r = .ret d := retOf_ret' h
theorem w_raw (v : V) : view (.raw v) = .raw v := rfl
theorem x_isE0 (a : Addr) (b : Bool) (ρ : DEnv) : fIsE 0 a b (.raw (.ref a) :: ρ) = .ok (.bool b) := by unfold fIsE; simp
theorem x_isES (i : Nat) (a : Addr) (b : Bool) (s : Slot) (ρ : DEnv) : fIsE (i + 1) a b (s :: ρ) = fIsE i a b ρ := rfl
theorem x_st {α : Type} (f : DEnv → Res α) (ρ : DEnv) : fSt f ρ = (f ρ).strict := rfl
theorem s_ok {α : Type} (a : α) : (Res.ok a).strict = .ok a := rfl
theorem x_lm (g : List D → D → Res D) (fo f : DEnv → Res D) (ρ : DEnv) : fLM g fo f ρ = ((fo ρ).bind asList).bind fun ds => (f ρ).bind fun b => g ds b := rfl
theorem x_asList (ds : List D) : asList (.list ds) = .ok ds := rfl
theorem y_bex (f : DEnv → Res D) (ρ : DEnv) : bExpr f ρ = (f ρ).bind fun _ => .ok none := rfl
theorem y_bret (f : DEnv → Res D) (ρ : DEnv) : bRet f ρ = (f ρ).bind fun d => if flatD d = true then .ok (some d) else .bad := rfl
theorem y_bif (g : DEnv → Res Bool) (F G : DEnv → Res (Option D)) (ρ : DEnv) : bIf g F G ρ = (g ρ).strict.bind fun b => if b = true then F ρ else G ρ := rfl
theorem x_via (n : Nat) (Fs : List (List D → Res D)) (fi : DEnv → Res D) (g : DEnv → Res (List D)) (ρ : DEnv) : fVia n Fs fi g ρ = (fi ρ).strict.bind fun i => (ixF Fs i).bind fun F => (g ρ).bind fun ds => if ds.length = n then F ds else .bad := rfl
theorem y_try {B : DEnv → Res (Option D)} {Lx : List Str} {FS : Str → DEnv → Res D} {ρ : DEnv} {c : Str} {d : D} (h : B (viewAll ρ) = .err c) (hL : Lx.contains c = true) (hF : FS c ρ = .ok d) : sTry B Lx FS ρ = .ret d := by
  unfold sTry
  rw [h]
  dsimp only
  rw [if_pos hL, hF]
theorem y_try_ok {B : DEnv → Res (Option D)} {Lx : List Str} {FS : Str → DEnv → Res D} {ρ : DEnv} (h : B (viewAll ρ) = .ok none) : sTry B Lx FS ρ = .next ρ := by
  unfold sTry
  rw [h]
theorem y_try_ret {B : DEnv → Res (Option D)} {Lx : List Str} {FS : Str → DEnv → Res D} {ρ : DEnv} {d : D} (h : B (viewAll ρ) = .ok (some d)) : sTry B Lx FS ρ = .ret d := by
  unfold sTry
  rw [h]
theorem lx1 {c a1 : Str} (h : List.contains [a1] c = true) : c = a1 := by simpa using h
theorem lx2 {c a1 a2 : Str} (h : List.contains [a1, a2] c = true) : c = a1 ∨ c = a2 := by simpa using h
theorem lx3 {c a1 a2 a3 : Str} (h : List.contains [a1, a2, a3] c = true) : c = a1 ∨ c = a2 ∨ c = a3 := by simpa using h
theorem lx4 {c a1 a2 a3 a4 : Str} (h : List.contains [a1, a2, a3, a4] c = true) : c = a1 ∨ c = a2 ∨ c = a3 ∨ c = a4 := by simpa using h
theorem lx5 {c a1 a2 a3 a4 a5 : Str} (h : List.contains [a1, a2, a3, a4, a5] c = true) : c = a1 ∨ c = a2 ∨ c = a3 ∨ c = a4 ∨ c = a5 := by simpa using h
theorem lx6 {c a1 a2 a3 a4 a5 a6 : Str} (h : List.contains [a1, a2, a3, a4, a5, a6] c = true) : c = a1 ∨ c = a2 ∨ c = a3 ∨ c = a4 ∨ c = a5 ∨ c = a6 := by simpa using h
theorem lx7 {c a1 a2 a3 a4 a5 a6 a7 : Str} (h : List.contains [a1, a2, a3, a4, a5, a6, a7] c = true) : c = a1 ∨ c = a2 ∨ c = a3 ∨ c = a4 ∨ c = a5 ∨ c = a6 ∨ c = a7 := by simpa using h
theorem g_addL11 (a0 b0 : D) : gAdd (.list [a0]) (.list [b0]) = .ok (.list [a0, b0]) := rfl
theorem g_addL21 (a0 a1 b0 : D) : gAdd (.list [a0, a1]) (.list [b0]) = .ok (.list [a0, a1, b0]) := rfl
theorem g_addL31 (a0 a1 a2 b0 : D) : gAdd (.list [a0, a1, a2]) (.list [b0]) = .ok (.list [a0, a1, a2, b0]) := rfl
theorem g_addL32 (a0 a1 a2 b0 b1 : D) : gAdd (.list [a0, a1, a2]) (.list [b0, b1]) = .ok (.list [a0, a1, a2, b0, b1]) := rfl
theorem g_addL51 (a0 a1 a2 a3 a4 b0 : D) : gAdd (.list [a0, a1, a2, a3, a4]) (.list [b0]) = .ok (.list [a0, a1, a2, a3, a4, b0]) := rfl
theorem g_addL41 (a0 a1 a2 a3 b0 : D) : gAdd (.list [a0, a1, a2, a3]) (.list [b0]) = .ok (.list [a0, a1, a2, a3, b0]) := rfl
theorem g_addL22 (a0 a1 b0 b1 : D) : gAdd (.list [a0, a1]) (.list [b0, b1]) = .ok (.list [a0, a1, b0, b1]) := rfl
theorem x_sl (g : D → Option Int → Option Int → Res D) (f : DEnv → Res D) (fl fh : DEnv → Res (Option Int)) (ρ : DEnv) : fSl g f fl fh ρ = (f ρ).bind fun x => (fl ρ).bind fun lo => (fh ρ).bind fun hi => g x lo hi := rfl
theorem x_np (ρ : DEnv) : fNoPart ρ = .ok none := rfl
theorem x_pt (f : DEnv → Res D) (ρ : DEnv) : fPart f ρ = (f ρ).bind asI := rfl
theorem x_asI (i : Int) : asI (.int i) = .ok (some i) := rfl
theorem g_slTa (a b c : D) : gSl (.tuple [a, b, c]) none (some 2) = .ok (.tuple [a, b]) := rfl
theorem g_slTb (a b c : D) : gSl (.tuple [a, b, c]) (some 1) none = .ok (.tuple [b, c]) := rfl
theorem g_addT12 (a b c : D) : gAdd (.tuple [a]) (.tuple [b, c]) = .ok (.tuple [a, b, c]) := rfl
theorem g_addT21 (a b c : D) : gAdd (.tuple [a, b]) (.tuple [c]) = .ok (.tuple [a, b, c]) := rfl
theorem g_addT31 (a b c d : D) : gAdd (.tuple [a, b, c]) (.tuple [d]) = .ok (.tuple [a, b, c, d]) := rfl
theorem x_mkL5 (a b c d e : D) : mkL [a, b, c, d, e] = .ok (.list [a, b, c, d, e]) := rfl
theorem x_mkL6 (a b c d e f : D) : mkL [a, b, c, d, e, f] = .ok (.list [a, b, c, d, e, f]) := rfl
theorem g_addL52 (a b c d e f g : D) : gAdd (.list [a, b, c, d, e]) (.list [f, g]) = .ok (.list [a, b, c, d, e, f, g]) := rfl
theorem g_addL72 (a b c d e f g h i : D) : gAdd (.list [a, b, c, d, e, f, g]) (.list [h, i]) = .ok (.list [a, b, c, d, e, f, g, h, i]) := rfl
theorem x_neg (i : Int) : gNeg (.int i) = .ok (.int (-i)) := rfl
end PD
namespace PD
open PySem PySem.Spec PyProof.Rows L2
/-! ### set(xs), xs a list of ints -/
section
variable {P : Program} {w : World} {A : Around} {E : Value → Shared → Prop} {s : Shared}
theorem call_set_lstI {l : Addr} {items : Array Value} (ns : List Int) {Q : Value → Shared → Prop} (hh : A.handled = none) (hl : s.heap.IsList l items) (hit : IntsAre items.toList ns) (hb : ns.length + 1 < scanBound)
    (h : ∀ (h' : Heap) (tk c : Nat), SetR w h' s.heap.objs.size (fun j => decide (j ∈ ns)) c → c ≤ ns.length → (∀ b o, s.heap.get? b = some o → h'.get? b = some o) → Q (.ref s.heap.objs.size) { s with heap := h', toks := tk }) :
    wpAny (model P w) A (call (.type "set") [.ref l]) Q E s := by
  have hisz : items.size = ns.length := by
    have q := IntsAre.length hit
    rw [Array.length_toList] at q
    exact q
  obtain ⟨c, tl, hmro⟩ := F.called_set.mro
  have hmade := F.called_set.made
  have hsub := F.called_set.sub
  refine wpAny_call (codeAny_of_tree ?_)
  show wpAny _ _ (callAny (.type "set") _) _ _ _
  refine wpAny_pure ⟨Code.quiet_builtin _ (by decide +kernel), codeAny_builtin F.entry_type_call ?_⟩
  rw [Around.under_plain (weight_type_call_type "set" [.ref l] []) rfl]
  have h1 := F.called_set.notType
  have h2 := F.called_set.canCreate
  have hct := F.typeCall_set_1 (.ref l)
  repeat (any_goals (first | assumption | wp_step))
  refine codeAny_mono (code_set_led1 (.ref l) (E := E) (Q₁ := fun obj s₁ => obj = .ref s.heap.objs.size ∧ s₁ = { s with heap := s.heap.push { cls := .type "set", dict := none, data := .set #[] 0 (.fresh 0 0 (!w.params.followText "set-order")) } }) ⟨rfl, rfl⟩) fun r s₁ hr => ?_
  cases r with
  | error e => exact hr
  | ok fl =>
    cases fl with
    | ret obj =>
      obtain ⟨rfl, rfl⟩ := hr
      have hS : (s.heap.push { cls := .type "set", dict := none, data := .set #[] 0 (.fresh 0 0 (!w.params.followText "set-order")) }).get? s.heap.objs.size = some { cls := .type "set", dict := none, data := .set #[] 0 (.fresh 0 0 (!w.params.followText "set-order")) } := Heap.get?_push_size _ rfl
      have hT : Shared.TypeIs { s with heap := s.heap.push { cls := .type "set", dict := none, data := .set #[] 0 (.fresh 0 0 (!w.params.followText "set-order")) } } (.ref s.heap.objs.size) "set" := ⟨_, hS, rfl⟩
      have hli := F.called_set.init.lookup
      have hbi := F.called_set.init.bind (.ref s.heap.objs.size)
      repeat (any_goals (first | assumption | wp_step))
      refine codeAny_mono (codeAny_call_builtin (R := wants (fun r s₂ => r = .none ∧ ∃ h' tk c, s₂ = { s with heap := h', toks := tk } ∧ SetR w h' s.heap.objs.size (fun j => decide (j ∈ ns)) c ∧ c ≤ ns.length ∧
          (∀ b o, s.heap.get? b = some o → h'.get? b = some o)) E) F.called_set.init.plain F.entry_set_init (check_set_init_1 hT ?_)) fun r₂ s₂ hr₂ => ?_
      · obtain ⟨ol, hol, hcl, nl, hdl⟩ := hl
        obtain ⟨ocls, odict, odata, oslots⟩ := ol
        simp only at hcl hdl
        subst hcl; subst hdl
        have hol' : (s.heap.push { cls := .type "set", dict := none, data := .set #[] 0 (.fresh 0 0 (!w.params.followText "set-order")) }).get? l = some { cls := .type "list", dict := odict, data := .seq items nl, slots := oslots } := Heap.get?_push_of_some _ hol
        have hsls := F.sub_list_set
        have hslf := F.sub_list_frozenset
        have hne : (Value.type "list" == Value.type "dict") = false := by decide
        have hl1 : (s.heap.push { cls := .type "set", dict := none, data := .set #[] 0 (.fresh 0 0 (!w.params.followText "set-order")) }).IsList l items := ⟨_, hol', rfl, nl, rfl⟩
        unfold Builtin.«set.__init__» noKeywords Builtin.Frozenset.updateFrom
        generalize hPI : pyIter = PI
        wp_walk
        subst hPI
        refine wpAny_pyIter_list hl1 ?_
        refine wpAny_bind (wpAny_runValue ?_)
        have hlS : l < s.heap.objs.size := Heap.lt_size hol
        have hh3 : A.in1.in1.in1.handled = none := by simp [hh]
        have hz1 : (s.heap.push { cls := .type "set", dict := none, data := .set #[] 0 (.fresh 0 0 (!w.params.followText "set-order")) }).objs.size = s.heap.objs.size + 1 := Heap.size_push ..
        have hneI : l ≠ (s.heap.push { cls := .type "set", dict := none, data := .set #[] 0 (.fresh 0 0 (!w.params.followText "set-order")) }).objs.size := by
          rw [Heap.size_push]; exact Nat.ne_of_lt (Nat.lt_succ_of_lt hlS)
        have hSf : s.heap.objs.size ∉ [(s.heap.push { cls := .type "set", dict := none, data := .set #[] 0 (.fresh 0 0 (!w.params.followText "set-order")) }).objs.size, l] := by
          rw [Heap.size_push]; simp only [List.mem_cons, List.mem_singleton, List.not_mem_nil, or_false, not_or]
          exact ⟨Nat.ne_of_lt (Nat.lt_succ_self _), Nat.ne_of_gt hlS⟩
        have hval : ∀ (i : Nat) (v : Value), items[i]? = some v → ∃ k t, ns[i]? = some k ∧ v = .int k t := fun i v hv => by
          have hi : i < ns.length := by rw [← hisz]; exact (Array.getElem?_eq_some_iff.mp hv).1
          obtain ⟨t, e⟩ := PyProof.Rows.IntsAre.int_at hit i v (by rw [Array.getElem?_toList]; exact hv)
          refine ⟨ns[i], t, List.getElem?_eq_getElem hi, ?_⟩
          rw [e, List.getD_eq_getElem?_getD, List.getElem?_eq_getElem hi] <;> rfl
        refine set_update_ints ((Walks.list hh3 _ l hneI items).toS) s.heap.objs.size
          hSf ns hisz hb hval (items.size - 0) 0 _ (by omega) (Nat.zero_le _)
          ⟨⟨_, Heap.get?_push_size _ rfl, rfl, rfl⟩, (hl1.push _)⟩ ?hS0 ?hR
        case hS0 =>
          have hget : ((s.heap.push { cls := .type "set", dict := none, data := .set #[] 0 (.fresh 0 0 (!w.params.followText "set-order")) }).push { cls := .type "list_iterator", data := .fields #[.ref l, .int 0 0] }).get? s.heap.objs.size
              = some { cls := .type "set", dict := none, data := .set #[] 0 (.fresh 0 0 (!w.params.followText "set-order")) } := Heap.get?_push_of_some _ hS
          exact ⟨0, Nat.le_refl 0, setR_new_at hget⟩
        case hR =>
          intro s' c' hm hc' hS'
          obtain ⟨h', g2, d', tk', os'⟩ := s'
          have eg : g2 = s.gens := hm.gens
          have ed : d' = s.drawn := hm.drawn
          have eo : os' = s.os := hm.os
          subst eg; subst ed; subst eo
          show wpAny _ _ _ _ _ _
          refine wpAny_pure ?_
          show wpAny _ _ (ret Value.none) _ _ _
          rw [hisz] at hc'
          refine wpAny_pure ⟨rfl, h', tk', c', rfl, hS', hc', fun b o e => ?_⟩
          have hb0 : b < s.heap.objs.size := Heap.lt_size e
          have hb1 : b ≠ s.heap.objs.size := Nat.ne_of_lt hb0
          have hb2 : b ≠ (s.heap.push { cls := .type "set", dict := none, data := .set #[] 0 (.fresh 0 0 (!w.params.followText "set-order")) }).objs.size := by
            rw [Heap.size_push]; exact Nat.ne_of_lt (Nat.lt_succ_of_lt hb0)
          exact hm.heap b o (by simp only [List.mem_cons, List.mem_singleton, List.not_mem_nil, or_false, not_or]; exact ⟨hb1, hb2⟩) (Heap.get?_push_of_some _ (Heap.get?_push_of_some _ e))
      · cases r₂ with
        | error e => exact hr₂
        | ok fl₂ =>
          cases fl₂ with
          | ret r =>
            obtain ⟨rfl, h', tk, c', rfl, hS', hc', hk'⟩ := hr₂
            repeat (any_goals (first | assumption | wp_step))
            exact h _ _ _ hS' hc' hk'
          | _ => exact hr₂.elim
    | _ => exact hr.elim
theorem setR_keys {h : Heap} {a : Addr} {S : Int → Bool} {c : Nat} (R : SetR w h a S c) : ∃ ks : List Int, ks.Nodup ∧ ks.length = c ∧ ∀ k ∈ ks, S k = true := by
  obtain ⟨o, es, ep, t, ho, hx, hd, g, nd, hm, hb, hf, hn, _⟩ := R
  exact ⟨es.toList.map keyOf, nd, by rw [List.length_map, Array.length_toList]; exact hn, fun k hk => (hm k).mpr hk⟩
end
section
variable {K : PySem.W.Frag} {mg : Str → Option Value} {X : Cx} {E : XK}
def rSetL (K : PySem.W.Frag) (w : World) : List V → Hp → VK → Prop := fun xs H Q => ∃ (l : Addr) (ns : List Int), xs = [.ref l] ∧ SqL K H l (ns.map V.int) ∧ ns.length + 1 < scanBound ∧
  ∀ (p : Addr) (c : Nat), H p = none → (∃ ks : List Int, ks.Nodup ∧ ks.length = c ∧ ∀ k ∈ ks, k ∈ ns) → Q (.ref p) (upd H p (SetO w p (fun j => decide (j ∈ ns)) c))
theorem cr_setL (hc : X.calm = true) (hK : X.K = K := by rfl) : CallR X (.type "set") (rSetL K X.w) := by
  subst hK
  intro pins s σ H xs us Q I r h
  obtain ⟨l, ns, rfl, hq, hz, q⟩ := h
  rw [Vals.ref1 r]
  obtain ⟨its, rv, pl, hz2⟩ := I.list hq
  refine call_set_lstI ns (I.ok.hd hc) pl.isList (by simpa using RZ.intsAre_vals rv) hz fun h' tk c hS hc' hk => ?_
  obtain ⟨ks, k1, k2, k3⟩ := setR_keys hS
  refine ⟨.ref _, upd H s.heap.objs.size (SetO X.w s.heap.objs.size (fun j => decide (j ∈ ns)) c), I.laid (t' := tk) (fun b u e => hk b u e) (Nat.le_refl _) (setO_new hS), rfl, q _ _ (I.hok.fresh (Nat.le_refl _)) ⟨ks, k1, k2, fun k hk => of_decide_eq_true (k3 k hk)⟩⟩
end
end PD
namespace PD
open PySem L2
/-! ### sorted(set(xs)), xs a list of ints -/
def ddI : List Int → List Int
  | [] => []
  | x :: r => if x ∈ r then ddI r else x :: ddI r
theorem mem_ddI (k : Int) : ∀ ns : List Int, k ∈ ddI ns ↔ k ∈ ns
  | [] => Iff.rfl
  | x :: r => by
    have ih := mem_ddI k r
    unfold ddI
    split
    · rename_i h
      rw [ih, List.mem_cons]
      exact ⟨.inr, fun z => z.elim (fun e => by rw [e]; exact h) id⟩
    · rw [List.mem_cons, List.mem_cons, ih]
theorem nodup_ddI : ∀ ns : List Int, (ddI ns).Nodup
  | [] => List.nodup_nil
  | x :: r => by
    have ih := nodup_ddI r
    unfold ddI
    split
    · exact ih
    · rename_i h
      exact List.nodup_cons.mpr ⟨fun z => h ((mem_ddI x r).mp z), ih⟩
theorem nd_len {α : Type} [DecidableEq α] : ∀ {xs ys : List α}, xs.Nodup → (∀ x ∈ xs, x ∈ ys) → xs.length ≤ ys.length
  | [], _, _, _ => Nat.zero_le _
  | x :: xs, ys, hn, hs => by
    rw [List.nodup_cons] at hn
    have hx := hs x List.mem_cons_self
    have ih := nd_len (ys := ys.erase x) hn.2 fun y hy => (List.mem_erase_of_ne (fun (e : y = x) => hn.1 (by rw [← e]; exact hy))).mpr (hs y (List.mem_cons_of_mem _ hy))
    rw [List.length_erase_of_mem hx] at ih
    have : 0 < ys.length := List.length_pos_of_mem hx
    rw [List.length_cons]
    omega
theorem lt_unique : ∀ {xs ys : List Int}, xs.Pairwise (· < ·) → ys.Pairwise (· < ·) → (∀ k, k ∈ xs ↔ k ∈ ys) → xs = ys
  | [], [], _, _, _ => rfl
  | [], y :: ys, _, _, h => absurd ((h y).mpr List.mem_cons_self) List.not_mem_nil
  | x :: xs, [], _, _, h => absurd ((h x).mp List.mem_cons_self) List.not_mem_nil
  | x :: xs, y :: ys, hx, hy, h => by
    rw [List.pairwise_cons] at hx hy
    have e : x = y := by
      rcases List.mem_cons.mp ((h x).mp List.mem_cons_self) with q | q
      · exact q
      · rcases List.mem_cons.mp ((h y).mpr List.mem_cons_self) with q2 | q2
        · exact q2.symm
        · have a := hy.1 x q
          have b := hx.1 y q2
          omega
    subst e
    rw [lt_unique hx.2 hy.2 fun k => ⟨fun hk => ?_, fun hk => ?_⟩]
    · rcases List.mem_cons.mp ((h k).mp (List.mem_cons_of_mem _ hk)) with q | q
      · have := hx.1 k hk; omega
      · exact q
    · rcases List.mem_cons.mp ((h k).mpr (List.mem_cons_of_mem _ hk)) with q | q
      · have := hy.1 k hk; omega
      · exact q
theorem sortI_lt {ns : List Int} (h : ns.Nodup) : (sortI ns).Pairwise (· < ·) := by
  have h1 := sortI_sorted ns
  have h2 : (sortI ns).Nodup := (sortI_perm ns).nodup_iff.mpr h
  exact (List.Pairwise.and h1 h2).imp fun ⟨a, b⟩ => by omega
def gSortSet (d : D) : Res D := match d with
  | .list xs => match asIs xs with
    | some ns => if (decide (ns.length + 1 < 4096) && decide ((ddI ns).length < 64)) = true then .ok (.list ((sortI (ddI ns)).map PyData.int)) else .bad
    | none => .bad
  | _ => .bad
section
variable {K : PySem.W.Frag} {mg : Str → Option Value} {X : Cx} {E : XK}
theorem bt_sorted' : bootBuiltins "sorted" = some (.builtin "sorted") := by decide +kernel
theorem pd_sortSet {a : Expr} {ta : TE} {f : DEnv → Res D} {p p2 q pos : Pos} (hc : X.calm = true) (hg : Gl X "sorted") (hm : X.mg "sorted" = none) (hg2 : Gl X "set") (hm2 : X.mg "set" = none) (ha : PD K mg X E a ta f) (hK : X.K = K := by rfl)
    (na : starEach [a] X.env = (false, eval a X.env) :: starEach [] X.env := by rfl) : PD K mg X E (.Call (.Name "sorted" p) [.Call (.Name "set" p2) [a] [] q] [] pos) (tCB (rSortedSet X.w) (tCons (tCB (rSetL K X.w) (tCons ta tNil)) tNil)) (fUn gSortSet f) := by
  subst hK
  refine ⟨pe_callB (cr_sortedSet hc) hg hm bt_sorted' (pa_cons (pe_callTy (cr_setL hc) hg2 hm2 bt_set (pa_cons ha.pe pa_nil na) (by decide) (by decide) na) pa_nil), fun S H σ ρ Q rl h => ?_⟩
  refine ha.sd S H σ ρ _ rl (h.bind fun d v S1 H1 x1 d1 h1 => ?_)
  show rSetL _ _ [v] H1 (fun x H1 => rSortedSet X.w [x] H1 Q)
  unfold gSortSet at h1
  split at h1
  · rename_i ds
    split at h1
    · rename_i ns e
      split at h1
      · rename_i c
        obtain ⟨c1, c2⟩ := and_split c
        have c1 := of_decide_eq_true c1
        have c2 := of_decide_eq_true c2
        rw [DV] at d1
        obtain ⟨l, us, rfl, g1, g2⟩ := d1
        rw [asIs_dv e g2] at g1
        refine ⟨l, ns, rfl, ls_sq (ls_mono x1.sh g1), c1, fun p c hp hk => ?_⟩
        obtain ⟨ks, k1, k2, k3⟩ := hk
        have hle := nd_len k1 fun k hk => (mem_ddI k ns).mpr (k3 k hk)
        refine ⟨p, _, c, rfl, upd_same, by omega, fun ys p' y1 y2 y3 hp' => ?_⟩
        have ey : ys = sortI (ddI ns) := lt_unique y1 (sortI_lt (nodup_ddI ns)) fun k => by
          rw [y2 k, (sortI_perm _).mem_iff, mem_ddI]
          simp
        subst ey
        exact new_lst (Ext.new (o := SetO X.w p (fun j => decide (j ∈ ns)) c) x1.sh hp).sh (dvs_ints _) (PostG.mono (Ext.new x1.sh hp) h1) hp'
      · exact h1.elim
    · exact h1.elim
  · exact h1.elim
end
end PD
namespace PD
open PySem L2
/-! ### {k: v}, k a tuple of ints -/
def tDispT (tk tv : TE) : TE := fun σ H Q => ∀ p, H p = none → tPairs [(tk, tv)] σ (upd H p (.dT [])) fun ps H2 => ∃ x y, ps = [(x, y)] ∧ H2 p = some (.dT []) ∧ ∃ (ks : List Key) (b : Addr), x = .ref b ∧ H2 b = some (.tup (ks.map kV)) ∧ Q (.ref p) (upd H2 p (.dT [(ks, y)]))
theorem pe_dispT {X : Cx} {pos : Pos} {k v : Expr} {tk tv : TE} (hu : X.A.units + 1 < cLine) (hk : PE X k tk) (hv : PE X v tv) : PE X (.Dict [some k] [v] pos) (tDispT tk tv) := by
  refine ⟨fun pins s σ H Q I q => ?_⟩
  have hn := I.hok.fresh (Nat.le_refl s.heap.objs.size)
  have I1 := I.laid (a := s.heap.objs.size) (o := .dT []) (h' := s.heap.push { cls := .type "dict", data := .dict #[] }) (t' := s.toks) (fun _ _ q => Heap.get?_push_of_some _ q) (Nat.le_refl _) (dt_empty s.heap I.big)
  refine wpAny_Dict_any rfl rfl (by simp) (by simp) (thn ((pps_cons (pos := pos) hk hv pps_nil).run pins _ σ _ _ I1 (q _ hn)) fun ws s2 ⟨ps, H2, I2, rel, x, y, eps, e, ks, b, ex, eb, q2⟩ => ?_)
  subst eps ex
  cases rel with
  | @cons _ wv _ _ h t =>
  cases t
  obtain ⟨w1, w2⟩ := wv
  obtain ⟨r1, r2⟩ := h
  have r2 : RelV y w2 := r2
  cases (show w1 = Value.ref b from r1)
  obtain ⟨z, hd, xs, rl, dd⟩ := dt_of I2.hok e
  cases rl
  unfold storeAll
  rw [List.forIn_cons]
  refine wpAny_bind (wpAny_bind (wpAny_dictSet_heap (hsz := by rw [sizeLine_eq]; simp) (show X.A.units < cLine by omega) (key_of I2.hok eb) dd fun h' dd' hs => wpAny_pure ?_))
  dsimp only
  rw [List.forIn_nil]
  refine wpAny_pure ?_
  obtain ⟨q', es, ep, hq, h2, h3, h4, _, h5⟩ := dd'
  refine ⟨.ref s.heap.objs.size, _, ?_, rfl, q2⟩
  refine d_write I2 (by rw [e]; exact True.intro) hs ⟨q', hq⟩ ⟨by rw [sizeLine_eq]; simp, hd, _, ?_, q', es, ep, hq, h2, h3, h4, h5⟩
  have rp := KT.put (H := H2) (kvs := []) (xs := []) .nil ks eb r2
  refine rp.keeps fun c ys ec => ?_
  rw [upd_ne (ne_of ec e (fun z => nomatch z))]
  exact ec
/-- x, .. = {k: v}, .. -/
def zT (fk fv : DEnv → Res D) (g : DEnv → Res (List Slot)) : DEnv → Res (List Slot) := fun ρ => (fk ρ).bind fun kd => (fv ρ).bind fun d => match toKeyT kd with
  | some k => (g ρ).bind fun xs => .ok (.ownT [(k, d)] :: xs)
  | none => .bad
section
variable {K : PySem.W.Frag} {mg : Str → Option Value} {X : Cx} {E : XK} {k v : Expr} {es : List Expr} {tk tv : TE} {tr : TA} {fk fv : DEnv → Res D} {g : DEnv → Res (List Slot)} {pos : Pos}
theorem zd_dT (hu : X.A.units + 65 < cLine) (hk : PD K mg X E k tk fk) (hv : PD K mg X E v tv fv) (hr : ZD K mg X E es tr g) (hs : starEach (.Dict [some k] [v] pos :: es) X.env = (false, eval (.Dict [some k] [v] pos) X.env) :: starEach es X.env := by rfl) : ZD K mg X E (.Dict [some k] [v] pos :: es) (tCons (tDispT tk tv) tr) (zT fk fv g) := ⟨pa_cons (pe_dispT (hu1 hu) hk.pe hv.pe) hr.pe hs, fun S H σ ρ Q rl h => by
  intro p hp
  have sm : Same H (upd H p (.dT [])) := same_upd hp
  have rl1 : RelE K S (upd H p (.dT [])) σ ρ := ⟨rl.sh.trans sm, rl.len, rl.dt, rl.rw⟩
  refine hk.sd S _ σ ρ _ rl1 ?_
  unfold zT at h
  cases e1 : fk ρ with
  | err c => rw [e1] at h; exact fun u H' e sm' => h u H' e (sm.trans sm')
  | bad => rw [e1] at h; exact h
  | ok kd =>
  rw [e1, bind_ok] at h
  intro x S1 H1 x1 d1
  refine hv.sd S1 H1 σ ρ _ (rl1.mono x1) ?_
  cases e2 : fv ρ with
  | err c => rw [e2] at h; exact fun u H' e sm' => h u H' e ((sm.trans x1.h).trans sm')
  | bad => rw [e2] at h; exact h
  | ok d =>
  rw [e2, bind_ok] at h
  intro y S2 H2 x2 d2
  have x12 := x1.trans x2
  split at h
  · rename_i ks ek
    obtain ⟨b, rfl, hb⟩ := toKeyT_dv (d1.mono x2.s) ek
    have hp2 : H2 p = some (.dT []) := x12.h _ _ upd_same
    have hS2 : S2 p = none := by
      rw [x12.old p (Live.of upd_same (fun _ z => nomatch z))]
      exact rl.sh.free hp
    refine ⟨_, _, rfl, hp2, ks, b, rfl, x12.sh _ _ hb, ?_⟩
    have sh2 : Same S2 (upd H2 p (.dT [(ks, y)])) := fun a o e => by
      rw [upd_ne (fun z => by subst z; rw [hS2] at e; cases e)]
      exact x12.sh a o e
    have sH : Same H (upd H2 p (.dT [(ks, y)])) := fun a o e => by
      rw [upd_ne (ne_of_none e hp)]
      exact x12.h a o (sm a o e)
    have rl2 : RelE K S2 (upd H2 p (.dT [(ks, y)])) σ ρ := ⟨sh2, rl.len, (rl1.mono x12).dt, rl.rw⟩
    refine hr.sd S2 _ σ ρ _ rl2 ?_
    cases e3 : g ρ with
    | err c => rw [e3] at h; exact fun u H' e sm' => h u H' e (sH.trans sm')
    | bad => rw [e3] at h; exact h
    | ok ss =>
      rw [e3] at h
      refine fun vs S3 H3 x3 d3 => h (.ref p :: vs) S3 H3 ⟨x12.s.trans x3.s, sH.trans x3.h, x3.sh, fun a ha => ?_⟩ ⟨⟨p, rfl, ?_, hp, [(ks, y)], x3.h _ _ upd_same, rfl, ⟨d2.mono x3.s, trivial⟩⟩, d3.weak sH, fun q e _ hq => ?_⟩
      · exact (x3.old a (ha.same sH)).trans (x12.old a (ha.same sm))
      · rw [x3.old p (Live.of upd_same (fun _ z => nomatch z))]
        exact hS2
      · cases e
        have := refs_lt d3 hq
        rw [upd_same] at this
        cases this
  · exact h.elim⟩
end
end PD
namespace PD
open PySem L2
/-! ### dict(list of pairs), the keys different tuples of ints -/
theorem storedAll_new {κ : Type} [DecidableEq κ] : ∀ (ps acc : List (κ × Addr × Value)), ((acc ++ ps).map (·.1)).Nodup → storedAllH acc ps = acc ++ ps
  | [], acc, _ => by rw [List.append_nil]; rfl
  | p :: ps, acc, h => by
    have hn : atKey acc p.1 = none := by
      cases e : atKey acc p.1 with
      | none => rfl
      | some q =>
        have hm : p.1 ∈ acc.map (·.1) := by
          clear h
          induction acc with
          | nil => cases e
          | cons a acc ih =>
            by_cases z : a.1 = p.1
            · rw [List.map_cons, z]; exact List.mem_cons_self
            · refine List.mem_cons_of_mem _ (ih ?_)
              unfold atKey at e ⊢
              rw [List.find?_cons] at e
              have : decide (a.1 = p.1) = false := decide_eq_false z
              simpa [this, z] using e
        rw [List.map_append, List.map_cons, List.nodup_append] at h
        exact absurd rfl (h.2.2 _ hm _ List.mem_cons_self)
    show storedAllH (storedH acc p.1 p.2.1 p.2.2) ps = _
    rw [storedH_new hn, storedAll_new ps (acc ++ [(p.1, p.2.1, p.2.2)]) (by rw [List.append_assoc]; exact h), List.append_assoc]
    rfl
abbrev PT (K : PySem.W.Frag) (H : Hp) : Addr → List Key × V → Prop := fun p kv => ∃ b, SqT K H p [.ref b, kv.2] ∧ H b = some (.tup (kv.1.map kV))
def rDictT (K : PySem.W.Frag) : List V → Hp → VK → Prop := fun xs H Q => ∃ (a : Addr) (ps : List Addr) (kvs : List (List Key × V)), xs = [.ref a] ∧ SqL K H a (ps.map V.ref) ∧ Paired (PT K H) ps kvs ∧ (kvs.map (·.1)).Nodup ∧
    ∀ p, H p = none → Q (.ref p) (upd H p (.dT kvs))
section
variable {X : Cx}
theorem pairsT_of {pins : List (Addr × Obj)} {σ : L2.St} {H : Hp} {s : Shared} (I : Inv X pins σ H s) : ∀ {ps : List Addr} {kvs : List (List Key × V)}, Paired (PT X.K H) ps kvs →
    ∃ prs : List (List Key × Addr × Value), KT H kvs prs ∧ prs.length = ps.length ∧ ∀ (j : Nat) (q : List Key × Addr × Value), prs[j]? = some q → ∃ b : Addr, ps[j]? = some b ∧ s.heap.IsTuple b #[.ref q.2.1, q.2.2]
  | _, _, .nil => ⟨[], .nil, rfl, fun j q e => by simp at e⟩
  | _, _, .cons (a := p) (b := kv) h t => by
    obtain ⟨prs, r, hl, hp⟩ := pairsT_of I t
    obtain ⟨b, h1, h2⟩ := h
    obtain ⟨its, rv, ht, _⟩ := I.tuple h1
    obtain ⟨u, y, ei, ru, ry⟩ := vals2 rv
    subst ei
    obtain rfl : u = Value.ref b := ru
    refine ⟨(kv.1, b, y) :: prs, .cons ⟨rfl, h2, ry⟩ r, by rw [List.length_cons, List.length_cons, hl], fun j q e => ?_⟩
    cases j with
    | zero =>
      have e' : (kv.1, b, y) = q := Option.some.inj e
      subst e'
      exact ⟨p, rfl, ht⟩
    | succ j =>
      obtain ⟨b', e1, e2⟩ := hp j q (by simpa using e)
      exact ⟨b', by simpa using e1, e2⟩
theorem kt_keys {H : Hp} : ∀ {kvs : List (List Key × V)} {prs : List (List Key × Addr × Value)}, KT H kvs prs → prs.map (·.1) = kvs.map (·.1)
  | _, _, .nil => rfl
  | _, _, .cons h t => by rw [List.map_cons, List.map_cons, kt_keys t, h.1]
theorem kt_mem {H : Hp} : ∀ {kvs : List (List Key × V)} {prs : List (List Key × Addr × Value)}, KT H kvs prs → ∀ x ∈ prs, H x.2.1 = some (.tup (x.1.map kV))
  | _, _, .nil, x, hx => absurd hx List.not_mem_nil
  | _, _, .cons h t, x, hx => by
    rcases List.mem_cons.mp hx with e | hx
    · rw [e, ← h.1]
      exact h.2.1
    · exact kt_mem t x hx
theorem c_dictT (hcalm : X.calm = true) (hu : X.A.units + 65 < cLine) {K : PySem.W.Frag} (hK : X.K = K := by rfl) : CallR X (.type "dict") (rDictT K) := by
  subst hK
  intro pins s σ H xs us Q I r q
  obtain ⟨a, ps, kvs, ex, hq, hp, hnd, q⟩ := q
  subst ex
  obtain ⟨u, eu, rx⟩ := vals1 r
  subst eu
  cases rx
  obtain ⟨its, rv, pl, hz⟩ := I.list hq
  have ei := refs_at rv
  subst ei
  rw [List.length_map] at hz
  obtain ⟨prs, rel, hl, hpr⟩ := pairsT_of I hp
  have hkeys := kt_keys rel
  have pa := PairArg.list (prog := X.prog) (w := X.w) a (ps.map Value.ref).toArray (fun j => ps.getD j 0) (prs.map fun x => (Value.ref x.2.1, x.2.2))
  refine call_dict_pairsH (knd := tupleKind (mixKind X.prog X.w)) (ps := prs) pa (I.ok.hd hcalm) (show X.A.units + 1 + 1 < cLine by omega) ⟨pl, by simp [hl], fun j k v hj => ?_⟩ ⟨by simp, fun i key v hi => ?_⟩ (fun h' hk x hx => ?_) (by rw [List.length_map, hl]; exact hz) fun h' tk hd' hk => ?_
  · rw [List.getElem?_map] at hj
    cases e : prs[j]? with
    | none => rw [e] at hj; cases hj
    | some q' =>
      rw [e] at hj
      cases hj
      obtain ⟨b, e1, e2⟩ := hpr j q' e
      have eg : ps.getD j 0 = b := by rw [List.getD_eq_getElem?_getD, e1]; rfl
      refine ⟨?_, .inl ?_⟩
      · dsimp only
        rw [eg]
        simp [e1]
      · show s.heap.IsTuple (ps.getD j 0) _
        rw [eg]
        exact e2
  · have hi : (prs.map fun x => (Value.ref x.2.1, x.2.2))[i]? = some (key, v) := hi
    rw [List.getElem?_map] at hi
    cases e : prs[i]? with
    | none => rw [e] at hi; cases hi
    | some q' =>
      rw [e] at hi
      cases hi
      exact ⟨q'.1, q'.2.1, rfl, rfl⟩
  · obtain ⟨o, its, n, h1, h2, h3, h4⟩ := key_of I.hok (kt_mem rel x hx)
    exact ⟨o, its, n, hk _ o (Nat.ne_of_lt (Heap.lt_size h1)) List.not_mem_nil h1, h2, h3, h4⟩
  · have hm : (s.heap.objs.size == sysModules) = false := beq_eq_false_iff_ne.mpr (Nat.ne_of_gt I.big)
    rw [storedAll_new prs [] (by rw [List.nil_append, hkeys]; exact hnd), List.nil_append] at hd'
    obtain ⟨o, es, ep, g1, g2, g3, g4, _, g5⟩ := hd'
    have hlen : kvs.length ≤ sizeLine := by
      rw [Paired.length rel, hl]
      exact hz
    have fr := I.hok.fresh (Nat.le_refl s.heap.objs.size)
    have rel' : KT (upd H s.heap.objs.size (.dT kvs)) kvs prs := rel.keeps fun b ys eb => by
      rw [upd_ne (ne_of_none eb fr)]
      exact eb
    exact ⟨.ref s.heap.objs.size, upd H s.heap.objs.size (.dT kvs), I.laid (t' := tk) (fun b o e => hk b o List.not_mem_nil e) (Nat.le_refl _) (show ObjOk X.prog X.w _ _ _ (.dT kvs) from ⟨hlen, hm, prs, rel', o, es, ep, g1, g2, g3, g4, g5⟩), rfl, q _ fr⟩
end
def asPairs : List D → Option (List (List Key × D))
  | [] => some []
  | .tuple [kd, d] :: r => match toKeyT kd with
    | some k => (asPairs r).map fun l => (k, d) :: l
    | none => none
  | _ :: _ => none
def gDictT : List D → Res D
  | [.list ds] => match asPairs ds with
    | some kvs => if (kvs.map (·.1)).Nodup then .ok (.dict (kvs.map fun e => (.tuple (e.1.map kD), e.2))) else .bad
    | none => .bad
  | _ => .bad
theorem asPairs_dv {K : PySem.W.Frag} {S H : Hp} (sh : Same S H) : ∀ {ds : List D} {kvs : List (List Key × D)} {vs : List V}, asPairs ds = some kvs → DVs K S vs ds → ∃ (ps : List Addr) (es : List (List Key × V)), vs = ps.map V.ref ∧ Paired (PT K H) ps es ∧ es.map (·.1) = kvs.map (·.1) ∧ DVs K S (es.map (·.2)) (kvs.map (·.2))
  | [], kvs, vs, e, hv => by
    cases e
    cases vs with
    | nil => exact ⟨[], [], rfl, .nil, rfl, trivial⟩
    | cons v vs => exact hv.elim
  | d :: ds, kvs, vs, e, hv => by
    unfold asPairs at e
    split at e
    · exact absurd (by assumption : d :: ds = []) (List.cons_ne_nil _ _)
    · rename_i kd dd r he
      cases he
      split at e
      · rename_i k ek
        cases er : asPairs ds with
        | none => rw [er] at e; cases e
        | some l =>
          rw [er] at e
          cases e
          cases vs with
          | nil => exact hv.elim
          | cons v vs =>
            obtain ⟨hv1, hv2⟩ := hv
            obtain ⟨ps, es, e1, e2, e3, e4⟩ := asPairs_dv sh er hv2
            rw [DV_tuple] at hv1
            obtain ⟨p, xs, rfl, h1, h2⟩ := hv1
            match xs, h2 with
            | [x, y], h2 =>
              obtain ⟨b, rfl, hb⟩ := toKeyT_dv h2.1 ek
              refine ⟨p :: ps, (k, y) :: es, by rw [e1]; rfl, .cons ⟨b, same_t sh h1.1, sh _ _ hb⟩ e2, by rw [List.map_cons, List.map_cons, e3], ⟨h2.2.1, e4⟩⟩
      · cases e
    · cases e
theorem new_dictT {K : PySem.W.Frag} {mg : Str → Option Value} {E : XK} {S H : Hp} {kvs : List (List Key × D)} {es : List (List Key × V)} {Q : VK} {p : Addr} (sh : Same S H) (h1 : es.map (·.1) = kvs.map (·.1)) (h2 : DVs K S (es.map (·.2)) (kvs.map (·.2))) (h : PostG mg E S H (DV K) (.ok (.dict (kvs.map fun e => (.tuple (e.1.map kD), e.2)))) Q) (hn : H p = none) : Q (.ref p) (upd H p (.dT es)) := by
  refine h (.ref p) (upd S p (.dT es)) (upd H p (.dT es)) (Ext.new sh hn) ?_
  rw [DV]
  refine ⟨p, rfl, .inr ⟨es, .inl upd_same, ?_, ?_⟩⟩
  · rw [List.map_map]
    have : (kvs.map ((fun x => x.1) ∘ fun e => (PyData.tuple (e.1.map kD), e.2))) = (kvs.map (·.1)).map fun k => PyData.tuple (k.map kD) := by rw [List.map_map]; rfl
    rw [this, ← h1, List.map_map]
    rfl
  · exact DVp_of (fun k => PyData.tuple (k.map kD)) (h2.mono (same_upd (sh.free hn)))
section
variable {K : PySem.W.Frag} {mg : Str → Option Value} {E : XK}
theorem cs_dictT : CaS K mg E (rDictT K) gDictT := fun S H xs ds Q sh dv h => by
  unfold gDictT at h
  split at h
  · rename_i es
    split at h
    · rename_i kvs ek
      split at h
      · rename_i hn
        obtain ⟨v, rfl, hv⟩ := dvs1 dv
        rw [DV] at hv
        obtain ⟨a, us, rfl, h1, h2⟩ := hv
        obtain ⟨ps, es', e1, e2, e3, e4⟩ := asPairs_dv sh ek h2
        subst e1
        exact ⟨a, ps, es', rfl, ls_sq (ls_mono sh h1), e2, by rw [e3]; exact hn, fun p hp => new_dictT sh e3 e4 h hp⟩
      · exact h.elim
    · exact h.elim
  · exact h.elim
end
end PD
/-! ### ints and tuples of such: what a set asks of them -/
namespace PDs
open PySem PySem.Spec PyProof.Rows L2
mutual
def tiD : PyData → Bool
  | .int _ => true
  | .tuple xs => tiAll xs
  | .none | .bool _ | .str _ | .list _ | .dict _ => false
def tiAll : List PyData → Bool
  | [] => true
  | x :: xs => tiD x && tiAll xs
end
mutual
def hsD : PyData → Int
  | .int i => hashInt i
  | .tuple xs => reduceHash (Builtin.Tuple.tupleHashOf (hsAll xs))
  | .none | .bool _ | .str _ | .list _ | .dict _ => 0
def hsAll : List PyData → List Int
  | [] => []
  | x :: xs => hsD x :: hsAll xs
end
theorem hsAll_map : ∀ xs : List PyData, hsAll xs = xs.map hsD
  | [] => by rw [hsAll]; rfl
  | x :: xs => by rw [hsAll, hsAll_map xs]; rfl
theorem tiAll_mem : ∀ {xs : List PyData}, tiAll xs = true → ∀ x ∈ xs, tiD x = true
  | [], _, x, hx => by cases hx
  | y :: ys, h, x, hx => by
    rw [tiAll, Bool.and_eq_true] at h
    rcases List.mem_cons.mp hx with e | hx
    · rw [e]; exact h.1
    · exact tiAll_mem h.2 x hx
theorem depth_mem : ∀ {xs : List PyData} {x : PyData}, x ∈ xs → x.depth ≤ PyData.depthAll xs
  | [], x, hx => by cases hx
  | y :: ys, x, hx => by
    show x.depth ≤ max y.depth (PyData.depthAll ys)
    rcases List.mem_cons.mp hx with e | hx
    · rw [e]; omega
    · have := depth_mem hx; omega
theorem reads_at {h : Heap} : ∀ {vs : List Value} {ds : List PyData} {as : List Addr}, ReadsAll h vs ds as → ∀ {i : Nat} {v : Value}, vs[i]? = some v → ∃ d bs, ds[i]? = some d ∧ Reads h v d bs
  | _, _, _, .nil, i, v, e => by simp at e
  | _, _, _, .cons (d := d) r rs, i, v, e => by
    cases i with
    | zero => cases e; exact ⟨d, _, rfl, r⟩
    | succ i =>
      obtain ⟨d', bs, e1, e2⟩ := reads_at rs (i := i) (v := v) (by simpa using e)
      exact ⟨d', bs, by simpa using e1, e2⟩
theorem reads_len {h : Heap} : ∀ {vs : List Value} {ds : List PyData} {as : List Addr}, ReadsAll h vs ds as → vs.length = ds.length
  | _, _, _, .nil => rfl
  | _, _, _, .cons _ rs => by rw [List.length_cons, List.length_cons, reads_len rs]
/-- the loop's rest, told by a number -/
theorem drop_cons {α : Type} {l : List α} {n : Nat} {x : α} {rest : List α} (h : x :: rest = l.drop n) : l[n]? = some x ∧ rest = l.drop (n + 1) := by
  have hn : n < l.length := by
    rcases Nat.lt_or_ge n l.length with q | q
    · exact q
    · rw [List.drop_eq_nil_of_le q] at h; cases h
  rw [List.drop_eq_getElem_cons hn] at h
  injection h with h1 h2
  exact ⟨by rw [List.getElem?_eq_getElem hn, ← h1], h2⟩
section
variable {P : Program} {w : World}
mutual
theorem hash_d : ∀ (d : PyData), tiD d = true → ∀ (A : Around) (E : Value → Shared → Prop) (s : Shared) (v : Value) (as : List Addr) (Q : Int → Shared → Prop), Reads s.heap v d as → A.units + d.depth < cLine → (∀ tk, s.toks ≤ tk → Q (hsD d) { s with toks := tk }) → wpAny (model P w) A (pyHash v) Q E s
  | .int i, _, A, E, s, v, as, Q, r, hu, h => by
    cases r
    rw [hsD] at h
    exact wpAny_pyHash_int (h _ (by first | exact Nat.le_refl _ | exact Nat.le_add_right _ _ | omega))
  | .tuple xs, ht, A, E, s, v, as, Q, r, hu, h => by
    rw [tiD] at ht
    cases r with
    | @tuple a o vs n _ _ ho hc hd rs =>
      have hT : s.TypeIs (.ref a) "tuple" := ⟨o, ho, hc⟩
      have hu0 : A.units < cLine := by omega
      have hu1 : A.in1.units + PyData.depthAll xs < cLine := by
        have e : A.in1.units = A.units + 1 := rfl
        have e2 : (PyData.tuple xs).depth = PyData.depthAll xs + 1 := rfl
        omega
      unfold pyHash
      first | unfold pyHashByItsType | skip
      first | refine wpAny_bind (wpAny_cRoomFor_or (.inr hu0) ?_) | skip
      refine wpAny_bind (wpAny_specialOf hT F.slot_tuple_hash.lookup ?_)
      show wpAny _ _ (if (some (Value.builtin "tuple.__hash__") == some Value.none) = true then _ else _) Q E s
      rw [if_neg (by rw [beq_builtin_none]; exact Bool.false_ne_true)]
      refine wpAny_bind (wpAny_specialOf hT F.slot_tuple_hash.lookup ?_)
      show wpAny _ _ (callSpecialIfBoundUnlessNone? (.ref a) "__hash__" _ >>= _) Q E s
      refine wpAny_bind (wpAny_callSpecialIfBoundUnlessNone?_slot hT F.slot_tuple_hash (wpAny_call_entry F.slot_tuple_hash hT F.entry_tuple_hash ?_ (F.args_tuple_hash_1 _)))
      show wpAny _ _ (Builtin.Tuple.tupleItemsOf (.ref a) >>= _) _ _ s
      refine wpAny_bind (wpAny_tupleItemsOf ho hd ?_)
      refine wpAny_bind ?_
      rw [← Array.forIn_toList]
      have all := hash_all xs ht
      refine wpAny_forIn_list _ (fun rest (b : Array Int) s' => ∃ n tk, s.toks ≤ tk ∧ rest = vs.toList.drop n ∧ b.toList = (xs.map hsD).take n ∧ s' = { s with toks := tk }) _ ?_ ?_ _ _ ⟨0, s.toks, Nat.le_refl _, rfl, by simp, rfl⟩
      · rintro x rest b s' ⟨m, tk, htk, hrest, hb, rfl⟩
        obtain ⟨e1, e2⟩ := drop_cons hrest
        obtain ⟨d, bs, e3, e4⟩ := reads_at rs e1
        have hmem : d ∈ xs := List.mem_of_getElem? e3
        have hdep := depth_mem hmem
        refine wpAny_bind (all d hmem _ _ _ _ bs _ e4 (by omega) fun tk2 htk2 => ?_)
        have fin : (b.push (hsD d)).toList = (xs.map hsD).take (m + 1) := by
          rw [Array.toList_push, hb, List.take_succ, List.getElem?_map, e3]
          rfl
        first
          | exact wpAny_pure ⟨m + 1, tk2, Nat.le_trans htk htk2, e2, fin, rfl⟩
          | exact wpAny_bind (wpAny_pure (wpAny_pure ⟨m + 1, tk2, Nat.le_trans htk htk2, e2, fin, rfl⟩))
      · rintro b s' ⟨m, tk, htk, hrest, hb, rfl⟩
        have hlen : xs.length ≤ m := by
          have h1 : vs.toList.length ≤ m := List.drop_eq_nil_iff.mp hrest.symm
          have h2 := reads_len rs
          omega
        have hb2 : b.toList = hsAll xs := by rw [hb, hsAll_map, List.take_of_length_le (by rw [List.length_map]; exact hlen)]
        show wpAny _ _ (retInt (Builtin.Tuple.tupleHashOf b.toList)) _ _ _
        rw [hb2]
        refine wpAny_ret_mkInt ?_
        show wpAny _ _ (if (decide (-(2 : Int) ^ 63 ≤ Builtin.Tuple.tupleHashOf (hsAll xs)) && decide (Builtin.Tuple.tupleHashOf (hsAll xs) < 2 ^ 63)) = true then _ else _) Q E _
        rw [hsD] at h
        unfold reduceHash at h
        by_cases hr : (decide (-(2 : Int) ^ 63 ≤ Builtin.Tuple.tupleHashOf (hsAll xs)) && decide (Builtin.Tuple.tupleHashOf (hsAll xs) < 2 ^ 63)) = true
        · rw [if_pos hr]
          rw [if_pos hr] at h
          exact wpAny_pure (h _ (Nat.le_trans htk (Nat.le_add_right _ _)))
        · rw [if_neg hr]
          rw [if_neg hr] at h
          exact wpAny_bind (wpAny_rule (wpAny_pure (h _ (Nat.le_trans htk (Nat.le_add_right _ _)))))
  | .none, h, _, _, _, _, _, _, _, _, _ => by rw [tiD] at h; cases h
  | .bool _, h, _, _, _, _, _, _, _, _, _ => by rw [tiD] at h; cases h
  | .str _, h, _, _, _, _, _, _, _, _, _ => by rw [tiD] at h; cases h
  | .list _, h, _, _, _, _, _, _, _, _, _ => by rw [tiD] at h; cases h
  | .dict _, h, _, _, _, _, _, _, _, _, _ => by rw [tiD] at h; cases h
theorem hash_all : ∀ (xs : List PyData), tiAll xs = true → ∀ d ∈ xs, ∀ (A : Around) (E : Value → Shared → Prop) (s : Shared) (v : Value) (as : List Addr) (Q : Int → Shared → Prop), Reads s.heap v d as → A.units + d.depth < cLine → (∀ tk, s.toks ≤ tk → Q (hsD d) { s with toks := tk }) → wpAny (model P w) A (pyHash v) Q E s
  | [], _, d, hd => by cases hd
  | x :: xs, h, d, hd => by
    rw [tiAll, Bool.and_eq_true] at h
    by_cases e : d = x
    · rw [e]
      exact hash_d x h.1
    · exact hash_all xs h.2 d ((List.mem_cons.mp hd).resolve_left e)
end

/-! the three small questions -/
mutual
theorem quiet_d : ∀ (d : PyData), tiD d = true → ∀ (n : Nat), d.depth ≤ n → ∀ (A : Around) (E : Value → Shared → Prop) (s : Shared) (v : Value) (as : List Addr) (Q : Bool → Shared → Prop), Reads s.heap v d as → Q true s → wpAny (model P w) A (eqIsQuiet n v) Q E s
  | .int i, _, n, _, A, E, s, v, as, Q, r, h => by
    cases r
    rw [eqIsQuiet_byValue n (v := .int i _) rfl]
    exact wpAny_pure h
  | .tuple xs, ht, n, hn, A, E, s, v, as, Q, r, h => by
    rw [tiD] at ht
    have e2 : (PyData.tuple xs).depth = PyData.depthAll xs + 1 := rfl
    cases n with
    | zero => omega
    | succ n =>
      cases r with
      | @tuple a o vs m _ _ ho hc hd rs =>
        have hT : s.TypeIs (.ref a) "tuple" := ⟨o, ho, hc⟩
        have all := quiet_all xs ht
        unfold eqIsQuiet
        refine wpAny_bind (wpAny_specialOf hT F.slot_tuple_eq.lookup ?_)
        show wpAny _ _ (isInstance (.ref a) (.type "tuple") >>= _) _ _ s
        refine wpAny_bind (wpAny_isInstance hT isSubtype_tuple_tuple ?_)
        simp only [Bool.not_true, Bool.false_eq_true, if_false]
        refine wpAny_bind (wpAny_seqItems ho hd ?_)
        refine wpAny_bind ?_
        show wpAny _ _ (forIn vs _ _) _ _ s
        rw [← Array.forIn_toList]
        refine wpAny_forIn_list _ (fun rest r s' => r.1 = none ∧ s' = s ∧ ∃ j, rest = vs.toList.drop j) _ ?_ ?_ _ _ ⟨rfl, rfl, 0, rfl⟩
        · rintro x rest r s' ⟨hr, rfl, j, hj⟩
          obtain ⟨e1, e3⟩ := drop_cons hj
          obtain ⟨d, bs, e4, e5⟩ := reads_at rs e1
          have hmem : d ∈ xs := List.mem_of_getElem? e4
          have hdep := depth_mem hmem
          refine wpAny_bind (all d hmem n (by omega) _ _ _ _ bs _ e5 ?_)
          simp only [Bool.not_true, Bool.false_eq_true, if_false]
          exact wpAny_pure ⟨rfl, rfl, j + 1, e3⟩
        · rintro ⟨r1, r2⟩ s' ⟨hr, rfl, _⟩
          simp only at hr
          subst hr
          exact wpAny_pure h
  | .none, h, _, _, _, _, _, _, _, _, _, _ => by rw [tiD] at h; cases h
  | .bool _, h, _, _, _, _, _, _, _, _, _, _ => by rw [tiD] at h; cases h
  | .str _, h, _, _, _, _, _, _, _, _, _, _ => by rw [tiD] at h; cases h
  | .list _, h, _, _, _, _, _, _, _, _, _, _ => by rw [tiD] at h; cases h
  | .dict _, h, _, _, _, _, _, _, _, _, _, _ => by rw [tiD] at h; cases h
theorem quiet_all : ∀ (xs : List PyData), tiAll xs = true → ∀ d ∈ xs, ∀ (n : Nat), d.depth ≤ n → ∀ (A : Around) (E : Value → Shared → Prop) (s : Shared) (v : Value) (as : List Addr) (Q : Bool → Shared → Prop), Reads s.heap v d as → Q true s → wpAny (model P w) A (eqIsQuiet n v) Q E s
  | [], _, d, hd => by cases hd
  | x :: xs, h, d, hd => by
    rw [tiAll, Bool.and_eq_true] at h
    by_cases e : d = x
    · rw [e]
      exact quiet_d x h.1
    · exact quiet_all xs h.2 d ((List.mem_cons.mp hd).resolve_left e)
end
mutual
theorem class_d : ∀ (d : PyData), tiD d = true → ∀ (n : Nat), d.depth ≤ n → ∀ (A : Around) (E : Value → Shared → Prop) (s : Shared) (v : Value) (as : List Addr) (Q : Bool → Shared → Prop), Reads s.heap v d as → Q false s → wpAny (model P w) A (ofAClassStatement n v) Q E s
  | .int i, _, n, _, A, E, s, v, as, Q, r, h => by
    cases r
    rw [ofAClass_int]
    exact wpAny_pure h
  | .tuple xs, ht, n, hn, A, E, s, v, as, Q, r, h => by
    rw [tiD] at ht
    have e2 : (PyData.tuple xs).depth = PyData.depthAll xs + 1 := rfl
    cases n with
    | zero => omega
    | succ n =>
      cases r with
      | @tuple a o vs m _ _ ho hc hd rs =>
        have hT : s.TypeIs (.ref a) "tuple" := ⟨o, ho, hc⟩
        have all := class_all xs ht
        unfold ofAClassStatement
        refine wpAny_bind (wpAny_typeOf hT ?_)
        dsimp only
        have e : (("tuple" : String) == "tuple") = true := by decide
        simp only [e, if_true, Bool.not_true, Bool.false_eq_true, if_false]
        try refine wpAny_bind (wpAny_pure ?_)
        try simp only [Bool.not_true, Bool.false_eq_true, if_false]
        show wpAny _ _ (seqItems? (.ref a) >>= _) _ _ s
        refine wpAny_bind (wpAny_seqItems ho hd ?_)
        dsimp only
        refine wpAny_bind ?_
        show wpAny _ _ (forIn vs _ _) _ _ s
        rw [← Array.forIn_toList]
        refine wpAny_forIn_list _ (fun rest r s' => r.1 = none ∧ s' = s ∧ ∃ j, rest = vs.toList.drop j) _ ?_ ?_ _ _ ⟨rfl, rfl, 0, rfl⟩
        · rintro x rest r s' ⟨hr, rfl, j, hj⟩
          obtain ⟨e1, e3⟩ := drop_cons hj
          obtain ⟨d, bs, e4, e5⟩ := reads_at rs e1
          have hmem : d ∈ xs := List.mem_of_getElem? e4
          have hdep := depth_mem hmem
          refine wpAny_bind (all d hmem n (by omega) _ _ _ _ bs _ e5 ?_)
          simp only [Bool.false_eq_true, if_false]
          exact wpAny_pure ⟨rfl, rfl, j + 1, e3⟩
        · rintro ⟨r1, r2⟩ s' ⟨hr, rfl, _⟩
          simp only at hr
          subst hr
          exact wpAny_pure h
  | .none, h, _, _, _, _, _, _, _, _, _, _ => by rw [tiD] at h; cases h
  | .bool _, h, _, _, _, _, _, _, _, _, _, _ => by rw [tiD] at h; cases h
  | .str _, h, _, _, _, _, _, _, _, _, _, _ => by rw [tiD] at h; cases h
  | .list _, h, _, _, _, _, _, _, _, _, _, _ => by rw [tiD] at h; cases h
  | .dict _, h, _, _, _, _, _, _, _, _, _, _ => by rw [tiD] at h; cases h
theorem class_all : ∀ (xs : List PyData), tiAll xs = true → ∀ d ∈ xs, ∀ (n : Nat), d.depth ≤ n → ∀ (A : Around) (E : Value → Shared → Prop) (s : Shared) (v : Value) (as : List Addr) (Q : Bool → Shared → Prop), Reads s.heap v d as → Q false s → wpAny (model P w) A (ofAClassStatement n v) Q E s
  | [], _, d, hd => by cases hd
  | x :: xs, h, d, hd => by
    rw [tiAll, Bool.and_eq_true] at h
    by_cases e : d = x
    · rw [e]
      exact class_d x h.1
    · exact class_all xs h.2 d ((List.mem_cons.mp hd).resolve_left e)
end
mutual
theorem byv_d : ∀ (d : PyData), tiD d = true → ∀ (n : Nat), d.depth ≤ n → ∀ (A : Around) (E : Value → Shared → Prop) (s : Shared) (v : Value) (as : List Addr) (Q : Bool → Shared → Prop), Reads s.heap v d as → Q true s → wpAny (model P w) A (hashByValue n v) Q E s
  | .int i, _, n, _, A, E, s, v, as, Q, r, h => by
    cases r
    rw [hashBy_int]
    exact wpAny_pure h
  | .tuple xs, ht, n, hn, A, E, s, v, as, Q, r, h => by
    rw [tiD] at ht
    have e2 : (PyData.tuple xs).depth = PyData.depthAll xs + 1 := rfl
    cases n with
    | zero => omega
    | succ n =>
      cases r with
      | @tuple a o vs m _ _ ho hc hd rs =>
        have hT : s.TypeIs (.ref a) "tuple" := ⟨o, ho, hc⟩
        have all := byv_all xs ht
        unfold hashByValue
        refine wpAny_bind (wpAny_specialOf hT F.slot_tuple_hash.lookup ?_)
        show wpAny _ _ (seqItems? (.ref a) >>= _) _ _ s
        refine wpAny_bind (wpAny_seqItems ho hd ?_)
        refine wpAny_bind ?_
        show wpAny _ _ (forIn vs _ _) _ _ s
        rw [← Array.forIn_toList]
        refine wpAny_forIn_list _ (fun rest r s' => r.1 = none ∧ s' = s ∧ ∃ j, rest = vs.toList.drop j) _ ?_ ?_ _ _ ⟨rfl, rfl, 0, rfl⟩
        · rintro x rest r s' ⟨hr, rfl, j, hj⟩
          obtain ⟨e1, e3⟩ := drop_cons hj
          obtain ⟨d, bs, e4, e5⟩ := reads_at rs e1
          have hmem : d ∈ xs := List.mem_of_getElem? e4
          have hdep := depth_mem hmem
          refine wpAny_bind (all d hmem n (by omega) _ _ _ _ bs _ e5 ?_)
          simp only [Bool.not_true, Bool.false_eq_true, if_false]
          exact wpAny_pure ⟨rfl, rfl, j + 1, e3⟩
        · rintro ⟨r1, r2⟩ s' ⟨hr, rfl, _⟩
          simp only at hr
          subst hr
          exact wpAny_pure h
  | .none, h, _, _, _, _, _, _, _, _, _, _ => by rw [tiD] at h; cases h
  | .bool _, h, _, _, _, _, _, _, _, _, _, _ => by rw [tiD] at h; cases h
  | .str _, h, _, _, _, _, _, _, _, _, _, _ => by rw [tiD] at h; cases h
  | .list _, h, _, _, _, _, _, _, _, _, _, _ => by rw [tiD] at h; cases h
  | .dict _, h, _, _, _, _, _, _, _, _, _, _ => by rw [tiD] at h; cases h
theorem byv_all : ∀ (xs : List PyData), tiAll xs = true → ∀ d ∈ xs, ∀ (n : Nat), d.depth ≤ n → ∀ (A : Around) (E : Value → Shared → Prop) (s : Shared) (v : Value) (as : List Addr) (Q : Bool → Shared → Prop), Reads s.heap v d as → Q true s → wpAny (model P w) A (hashByValue n v) Q E s
  | [], _, d, hd => by cases hd
  | x :: xs, h, d, hd => by
    rw [tiAll, Bool.and_eq_true] at h
    by_cases e : d = x
    · rw [e]
      exact byv_d x h.1
    · exact byv_all xs h.2 d ((List.mem_cons.mp hd).resolve_left e)
end
mutual
theorem eqv_ti : ∀ (d e : PyData), tiD d = true → tiD e = true → (PyData.eqv d e = true ↔ d = e)
  | .int i, .int j, _, _ => by
    rw [PyData.eqv, beq_iff_eq]
    exact ⟨fun h => by rw [h], fun h => by injection h⟩
  | .int i, .tuple ys, _, _ => by rw [PyData.eqv]; exact ⟨(fun h => nomatch h), (fun h => nomatch h)⟩
  | .tuple xs, .int j, _, _ => by rw [PyData.eqv]; exact ⟨(fun h => nomatch h), (fun h => nomatch h)⟩
  | .tuple xs, .tuple ys, h1, h2 => by
    rw [tiD] at h1 h2
    rw [PyData.eqv, eqv_tiAll xs ys h1 h2]
    exact ⟨fun h => by rw [h], fun h => by injection h⟩
  | .none, _, h, _ => by rw [tiD] at h; cases h
  | .bool _, _, h, _ => by rw [tiD] at h; cases h
  | .str _, _, h, _ => by rw [tiD] at h; cases h
  | .list _, _, h, _ => by rw [tiD] at h; cases h
  | .dict _, _, h, _ => by rw [tiD] at h; cases h
  | .int _, .none, _, h => by rw [tiD] at h; cases h
  | .int _, .bool _, _, h => by rw [tiD] at h; cases h
  | .int _, .str _, _, h => by rw [tiD] at h; cases h
  | .int _, .list _, _, h => by rw [tiD] at h; cases h
  | .int _, .dict _, _, h => by rw [tiD] at h; cases h
  | .tuple _, .none, _, h => by rw [tiD] at h; cases h
  | .tuple _, .bool _, _, h => by rw [tiD] at h; cases h
  | .tuple _, .str _, _, h => by rw [tiD] at h; cases h
  | .tuple _, .list _, _, h => by rw [tiD] at h; cases h
  | .tuple _, .dict _, _, h => by rw [tiD] at h; cases h
theorem eqv_tiAll : ∀ (xs ys : List PyData), tiAll xs = true → tiAll ys = true → (PyData.eqvAll xs ys = true ↔ xs = ys)
  | [], [], _, _ => by rw [PyData.eqvAll]; exact ⟨fun _ => rfl, fun _ => rfl⟩
  | [], _ :: _, _, _ => by rw [PyData.eqvAll]; exact ⟨(fun h => nomatch h), (fun h => nomatch h)⟩
  | _ :: _, [], _, _ => by rw [PyData.eqvAll]; exact ⟨(fun h => nomatch h), (fun h => nomatch h)⟩
  | x :: xs, y :: ys, h1, h2 => by
    rw [tiAll, Bool.and_eq_true] at h1 h2
    rw [PyData.eqvAll, Bool.and_eq_true, eqv_ti x y h1.1 h2.1, eqv_tiAll xs ys h1.2 h2.2]
    exact ⟨fun ⟨a, b⟩ => by rw [a, b], fun h => by injection h with a b; exact ⟨a, b⟩⟩
end
mutual
theorem plain_ti : ∀ (d : PyData), tiD d = true → d.plain = true
  | .int i, _ => by rw [PyData.plain]
  | .tuple xs, h => by rw [tiD] at h; rw [PyData.plain]; exact plain_tiAll xs h
  | .none, h => by rw [tiD] at h; cases h
  | .bool _, h => by rw [tiD] at h; cases h
  | .str _, h => by rw [tiD] at h; cases h
  | .list _, h => by rw [tiD] at h; cases h
  | .dict _, h => by rw [tiD] at h; cases h
theorem plain_tiAll : ∀ (xs : List PyData), tiAll xs = true → PyData.plainAll xs = true
  | [], _ => by rw [PyData.plainAll]
  | x :: xs, h => by
    rw [tiAll, Bool.and_eq_true] at h
    rw [PyData.plainAll, plain_ti x h.1, plain_tiAll xs h.2]
    rfl
end
theorem eqb_d {d e : PyData} {A : Around} {E : Value → Shared → Prop} {s : Shared} {v u : Value} {as bs : List Addr} {Q : Bool → Shared → Prop} (h1 : tiD d = true) (h2 : tiD e = true) (r1 : Reads s.heap v d as) (r2 : Reads s.heap u e bs) (hu : A.units + min d.depth e.depth < cLine) (h : Q (PyData.eqv d e) s) : wpAny (model P w) A (eqBool v u) Q E s :=
  PySem.SeqAt.eqAt_plain d e A s v u as bs r1 r2 (plain_ti d h1) (plain_ti e h2) hu P w E Q h
end
end PDs
/-! ### a set of such data -/
namespace PDs
open PySem PySem.Spec PyProof.Rows L2
/-- the object at a reads as d, a thing that a set takes -/
structure El (h : Heap) (d : PyData) (a : Addr) : Prop where
  ti : tiD d = true
  dp : d.depth ≤ 8
  rd : ∃ as, Reads h (.ref a) d as
abbrev Row := Addr × PyData
def rows (L : List Row) : List (Int × Value) := L.map fun p => (hsD p.2, Value.ref p.1)
def hashes (L : List Row) : List Int := L.map fun p => hsD p.2
structure SetD (w : World) (h : Heap) (a : Addr) (L : List Row) (es : Array (Int × Value)) (ep : Nat) (t : SetTable) : Prop where
  ob : ∃ o, h.get? a = some o ∧ o.ExactSet ∧ o.data = .set es ep t
  rw' : es.toList = rows L
  tab : TabOk t (hashes L)
  nd : (L.map (·.2)).Nodup
  el : ∀ p ∈ L, El h p.2 p.1
  plain : t.plain = true
  led : w.params.followText "set-order" = true ∨ t.led = true
  room : L.length * 5 < t.mask * 3
  few : L.length < 64
section
variable {P : Program} {w : World} {A : Around} {E : Value → Shared → Prop} {s : Shared} {a : Addr} {L : List Row} {es : Array (Int × Value)} {ep : Nat} {t : SetTable}
theorem SetD.size (R : SetD w s.heap a L es ep t) : es.size = L.length := by
  have := congrArg List.length R.rw'
  simpa [rows] using this
theorem SetD.psize (R : SetD w s.heap a L es ep t) : t.place.toList.length = L.length := by
  have := R.tab.sz
  rw [hashes, List.length_map] at this
  rw [Array.length_toList]
  exact this
theorem SetD.fits (R : SetD w s.heap a L es ep t) : t.fits es.size = true := by
  have h1 := R.psize
  rw [Array.length_toList] at h1
  have h2 := R.size
  have h3 := R.room
  have h4 : t.dummies.size = 0 := by rw [R.tab.dm]; rfl
  unfold SetTable.fits SetTable.fill
  simp only [Bool.and_eq_true, beq_iff_eq, decide_eq_true_eq]
  omega
theorem SetD.entry (R : SetD w s.heap a L es ep t) {i : Nat} {p : Row} (h : L[i]? = some p) : es[i]? = some (hsD p.2, Value.ref p.1) := by
  have e : es.toList[i]? = some (hsD p.2, Value.ref p.1) := by rw [R.rw', rows, List.getElem?_map, h]; rfl
  rwa [Array.getElem?_toList] at e
/-- the c-th stand of the search for a hash -/
abbrev stand (t : SetTable) (h : Int) (c : Nat) : SetTable.Probe := nth t.mask (runAt t.mask (SetTable.bits h % (t.mask + 1)) (SetTable.bits h)) c
theorem stand_add (t : SetTable) (h : Int) (c q : Nat) : nth t.mask (stand t h c) q = stand t h (c + q) := (nth_add t.mask c _ q).symm
theorem stand_nodummy (t : SetTable) (h : Int) (c : Nat) : (stand t h c).dummy = none := by
  have key : ∀ (n : Nat) (p : SetTable.Probe), p.dummy = none → (nth t.mask p n).dummy = none := fun n => by
    induction n with
    | zero => exact fun p h => h
    | succ n ih => exact fun p h => ih (adv t.mask p) (by unfold adv; split <;> exact h)
  exact key c _ rfl
theorem El.eqb {d e : PyData} {x y : Addr} {Q : Bool → Shared → Prop} (h1 : El s.heap d x) (h2 : El s.heap e y) (hu : A.units + 8 < cLine) (h : Q (PyData.eqv d e) s) : wpAny (model P w) A (eqBool (.ref x) (.ref y)) Q E s := by
  obtain ⟨as, r1⟩ := h1.rd
  obtain ⟨bs, r2⟩ := h2.rd
  have := h1.dp
  exact eqb_d h1.ti h2.ti r1 r2 (by omega) h
theorem seen_d {d : PyData} {x : Addr} {Q : Bool → Shared → Prop} (hx : El s.heap d x) {ys : List Value} (hy : ∀ y ∈ ys, ∃ e c, y = Value.ref c ∧ El s.heap e c) (h : Q false s) : wpAny (model P w) A (searchCouldBeSeen (.ref x) ys) Q E s := by
  unfold searchCouldBeSeen
  refine wpAny_bind ?_
  refine wpAny_forIn_list _ (fun rest r s' => r.1 = none ∧ s' = s ∧ ∀ y ∈ rest, y ∈ ys) _ ?_ ?_ _ _ ⟨rfl, rfl, fun _ q => q⟩
  · rintro v rest r s' ⟨hr, rfl, hall⟩
    obtain ⟨e, c, rfl, hc⟩ := hy v (hall v List.mem_cons_self)
    obtain ⟨as, r1⟩ := hx.rd
    obtain ⟨bs, r2⟩ := hc.rd
    have next : ∀ y ∈ rest, y ∈ ys := fun u hu' => hall u (List.mem_cons_of_mem _ hu')
    dsimp only
    by_cases hv : (x == c || (carriedByValue (.ref x) && carriedByValue (.ref c))) = true
    · exact wp_if_pos hv (wpAny_pure ⟨rfl, rfl, next⟩)
    · refine wp_if_neg hv (wpAny_bind (quiet_d d hx.ti 8 hx.dp _ _ _ _ as _ r1 ?_))
      simp only [Bool.not_true, Bool.false_eq_true, if_false]
      refine wpAny_bind (quiet_d e hc.ti 8 hc.dp _ _ _ _ bs _ r2 ?_)
      simp only [Bool.not_true, Bool.false_eq_true, if_false]
      refine wpAny_bind (class_d d hx.ti 8 hx.dp _ _ _ _ as _ r1 ?_)
      simp only [Bool.false_eq_true, if_false]
      refine wpAny_bind (class_d e hc.ti 8 hc.dp _ _ _ _ bs _ r2 ?_)
      simp only [Bool.false_eq_true, if_false]
      exact wpAny_pure ⟨rfl, rfl, next⟩
  · rintro ⟨r1, r2⟩ s' ⟨hr, rfl, _⟩
    simp only at hr
    subst hr
    exact wpAny_pure h
/-- the search goes on from the c-th stand; what is equal lies ahead -/
theorem search_go (R : SetD w s.heap a L es ep t) {x : Addr} {d : PyData} (hx : El s.heap d x) (hu : A.units + 8 < cLine) {N : Nat} (hNf : N < 10 * SetTable.turns t.mask)
    (hN : way t.mask (hsD d) N ∉ t.place.toList) (hb : ∀ c, c < N → way t.mask (hsD d) c ∈ t.place.toList) {Q : SetFound → Shared → Prop} (hin : d ∈ L.map (·.2) → Q (.there none) s) (hout : d ∉ L.map (·.2) → Q (.free (way t.mask (hsD d) N) false) s) (f : Nat) :
    ∀ (c : Nat) (st : Option SetTable.Probe), st.getD (t.probeStart (hsD d)) = stand t (hsD d) c → c ≤ N → N - c < f → (∀ (i : Nat) (p : Row), L[i]? = some p → p.2 = d → ∃ c', c ≤ c' ∧ c' < N ∧ t.place.toList[i]? = some (way t.mask (hsD d) c')) →
      wpAny (model P w) A (setSearchFrom a (.ref x) (hsD d) true f st) Q E s := by
  obtain ⟨o, ho, hex, hdat⟩ := R.ob
  induction f with
  | zero => intro c st _ _ hf; exact absurd hf (Nat.not_lt_zero _)
  | succ f ih =>
    intro c st hst hc hf ahead
    have hgw : ¬ t.gaveWay = true := by
      unfold SetTable.gaveWay
      rw [mask_odd R.tab.mok]
      decide
    rw [setSearchFrom_succ]
    refine wpAny_bind (wpAny_setState_of ho hdat R.fits ?_)
    dsimp only
    refine wp_if_neg hgw ?_
    try refine wpAny_bind (wpAny_pure ?_)
    have ej : ∀ q, (nth t.mask (stand t (hsD d) c) q).j = way t.mask (hsD d) (c + q) := fun q => congrArg SetTable.Probe.j (stand_add t (hsD d) c q)
    have hAt : ∀ (i : Nat) (p : Row), L[i]? = some p → (es[i]?.map (·.1)).getD 0 = hsD p.2 := fun i p hp => by rw [R.entry hp]; rfl
    rcases go_spec t R.tab.ris R.tab.dm (fun i => (es[i]?.map (·.1)).getD 0) (hsD d) (10 * SetTable.turns t.mask) (N - c) _ (stand_nodummy t (hsD d) c) (by omega) (fun q hq => by rw [ej]; exact hb (c + q) (by omega)) (by rw [ej, show c + (N - c) = N by omega]; exact hN) with ⟨q, i, hq, hi, hh, hno, hpr⟩ | ⟨hno, hpr⟩
    · have hp1 : t.probe (fun i => (es[i]?.map (·.1)).getD 0) (hsD d) (st.getD (t.probeStart (hsD d))) = some (.candidate (way t.mask (hsD d) (c + q)) i (stand t (hsD d) (c + (q + 1)))) := by
        rw [hst, ← ej, ← stand_add]
        exact hpr
      rw [hp1]
      dsimp only
      rw [ej] at hi
      have hil : i < L.length := by
        have := (List.getElem?_eq_some_iff.mp hi).1
        rw [R.psize] at this
        exact this
      obtain ⟨p, hp⟩ : ∃ p, L[i]? = some p := ⟨_, List.getElem?_eq_getElem hil⟩
      have hmem : p ∈ L := List.mem_of_getElem? hp
      have hpe := R.el p hmem
      have go : wpAny (model P w) A (searchRest a (.ref x) (hsD d) true f es t (way t.mask (hsD d) (c + q)) i (stand t (hsD d) (c + (q + 1)))) Q E s := by
        unfold searchRest
        rw [R.entry hp]
        dsimp only
        refine wpAny_bind (wpAny_holding (hpe.eqb hx hu ?_))
        refine wpAny_bind (wpAny_setState_of ho hdat R.fits ?_)
        dsimp only
        by_cases hk : p.2 = d
        · have he : PyData.eqv p.2 d = true := (eqv_ti _ _ hpe.ti hx.ti).mpr hk
          refine wp_if_pos (by rw [he]; rfl) (wpAny_pure (hin (List.mem_map.mpr ⟨p, hmem, hk⟩)))
        · have he : PyData.eqv p.2 d = false := by
            cases q' : PyData.eqv p.2 d with
            | false => rfl
            | true => exact absurd ((eqv_ti _ _ hpe.ti hx.ti).mp q') hk
          refine wp_if_neg (by rw [he]; decide) ?_
          try refine wpAny_bind (wpAny_pure ?_)
          rw [sameMem]
          dsimp only
          have hsl : t.slot (way t.mask (hsD d) (c + q)) = .live i := slot_live R.tab.ris hi
          simp only [if_true, hsl, R.entry hp]
          refine wpAny_bind (wpAny_isSame_ref_self (wpAny_bind (wpAny_pure ?_)))
          simp only [if_true]
          refine wp_if_neg (by rw [he]; decide) ?_
          refine ih (c + (q + 1)) _ rfl (by omega) (by omega) fun i0 p0 h0 hk0 => ?_
          obtain ⟨c', a1, a2, a3⟩ := ahead i0 p0 h0 hk0
          refine ⟨c', ?_, a2, a3⟩
          by_cases z : c' < c + q
          · exact absurd ((hAt i0 p0 h0).trans (congrArg hsD hk0)) (hno (c' - c) i0 (by omega) (by rw [ej, show c + (c' - c) = c' by omega]; exact a3))
          · by_cases z2 : c' = c + q
            · rw [z2] at a3
              have := slot_live R.tab.ris a3
              rw [hsl] at this
              injection this with this
              rw [← this, hp] at h0
              exact absurd ((congrArg Prod.snd (Option.some.inj h0)).trans hk0) hk
            · omega
      by_cases hl : t.led = true
      · refine wp_if_neg (by simp [hl]) ?_
        try refine wpAny_bind (wpAny_pure ?_)
        exact go
      · refine wp_if_pos (by simp [hl]) (wpAny_bind (seen_d hx (fun y hy => ?_) ?_))
        · obtain ⟨e, he, ee⟩ := List.mem_map.mp hy
          have he1 : e ∈ es := by
            have := Array.mem_toList_iff.mp he
            exact (Array.mem_filter.mp this).1
          have he2 : e ∈ rows L := by
            rw [← R.rw']
            exact Array.mem_toList_iff.mpr he1
          obtain ⟨p2, hp2, e2⟩ := List.mem_map.mp he2
          exact ⟨p2.2, p2.1, by rw [← ee, ← e2], R.el p2 hp2⟩
        · refine wp_if_neg (by decide) ?_
          try refine wpAny_bind (wpAny_pure ?_)
          exact go
    · have hp1 : t.probe (fun i => (es[i]?.map (·.1)).getD 0) (hsD d) (st.getD (t.probeStart (hsD d))) = some (.empty (way t.mask (hsD d) N) none) := by
        have e2 : way t.mask (hsD d) N = (nth t.mask (stand t (hsD d) c) (N - c)).j := by rw [ej, show c + (N - c) = N by omega]
        rw [hst, e2]
        exact hpr
      rw [hp1]
      dsimp only
      refine wpAny_pure (hout fun hm => ?_)
      obtain ⟨p0, h0, hk0⟩ := List.mem_map.mp hm
      obtain ⟨i0, hi0⟩ := List.getElem?_of_mem h0
      obtain ⟨c', a1, a2, a3⟩ := ahead i0 p0 hi0 hk0
      exact hno (c' - c) i0 (by omega) (by rw [ej, show c + (c' - c) = c' by omega]; exact a3) ((hAt i0 p0 hi0).trans (congrArg hsD hk0))
theorem search_new (R : SetD w s.heap a L es ep t) {x : Addr} {d : PyData} (hx : El s.heap d x) (hu : A.units + 8 < cLine) {Q : SetFound → Shared → Prop} (hin : d ∈ L.map (·.2) → Q (.there none) s)
    (hout : ∀ N, d ∉ L.map (·.2) → way t.mask (hsD d) N ∉ t.place.toList → (∀ c, c < N → way t.mask (hsD d) c ∈ t.place.toList) → Q (.free (way t.mask (hsD d) N) false) s) : wpAny (model P w) A (setSearch a (.ref x) (hsD d) true) Q E s := by
  have hroom := R.room
  obtain ⟨N, hNf, hN, hb⟩ := R.tab.first (by rw [hashes, List.length_map]; omega) (hsD d)
  have big : 10 * SetTable.turns t.mask ≤ 1420 := by
    unfold SetTable.turns
    rcases R.tab.mok with e | e | e <;> omega
  unfold setSearch
  refine search_go R hx hu hNf hN hb hin (fun hn => hout N hn hN hb) 100000 0 none rfl (Nat.zero_le _) (by omega) fun i p hp hk => ?_
  have hi : (hashes L)[i]? = some (hsD d) := by rw [hashes, List.getElem?_map, hp, ← hk]; rfl
  have hil : i < t.place.toList.length := by rw [R.psize]; exact (List.getElem?_eq_some_iff.mp hp).1
  obtain ⟨c, hc, e⟩ := R.tab.before hN hi (List.getElem?_eq_getElem hil)
  exact ⟨c, Nat.zero_le _, hc, by rw [List.getElem?_eq_getElem hil, e]⟩
end
end PDs
/-! ### a set of such data grows -/
namespace PDs
open PySem PySem.Spec PyProof.Rows L2
theorem El.keep {h h' : Heap} {d : PyData} {x : Addr} (e : El h d x) (k : ∀ b o, h.get? b = some o → h'.get? b = some o) : El h' d x := by
  obtain ⟨as, r⟩ := e.rd
  exact ⟨e.ti, e.dp, as, PyProof.Rows.Reads.keeps k r⟩
/-- h holds all that h0 holds, and the set lies where h0 has nothing -/
structure Past (h0 h : Heap) (a : Addr) : Prop where
  all : ∀ b o, h0.get? b = some o → h.get? b = some o
  new : h0.get? a = none
theorem Past.next {h0 h h' : Heap} {a : Addr} (p : Past h0 h a) (s : Heap.SameBut a h h') : Past h0 h' a :=
  ⟨fun b o e => (s.2 b (fun z => by rw [z, p.new] at e; cases e)).trans (p.all b o e), p.new⟩
theorem pick_all (L : List Row) : (List.range L.length).filterMap (fun i => L[i]?) = L := by
  have key : ∀ n, n ≤ L.length → (List.range n).filterMap (fun i => L[i]?) = L.take n := fun n => by
    induction n with
    | zero => exact fun _ => rfl
    | succ n ih =>
      intro hn
      rw [List.range_succ, List.filterMap_append, ih (Nat.le_of_lt hn), List.take_succ, List.getElem?_eq_getElem hn]
      rw [List.filterMap_cons_some (List.getElem?_eq_getElem hn)] <;> rfl
  rw [key _ (Nat.le_refl _), List.take_length]
/-- the rows in the order of a list of places -/
theorem picked {L : List Row} {es : Array (Int × Value)} (hr : es.toList = rows L) : ∀ (l : List Nat), (∀ i ∈ l, i < L.length) →
    l.filterMap (fun i => es[i]?) = rows (l.filterMap fun i => L[i]?) ∧ hashes (l.filterMap fun i => L[i]?) = l.map fun i => (es.map (·.1)).getD i 0
  | [], _ => ⟨rfl, rfl⟩
  | i :: l, h => by
    have hi := h i List.mem_cons_self
    obtain ⟨i1, i2⟩ := picked hr l fun j hj => h j (List.mem_cons_of_mem _ hj)
    have e1 : es[i]? = some (hsD (L[i]).2, Value.ref (L[i]).1) := by
      rw [← Array.getElem?_toList, hr, rows, List.getElem?_map, List.getElem?_eq_getElem hi] <;> rfl
    have e2 : (es.map (·.1)).getD i 0 = hsD (L[i]).2 := by
      have e3 : (es.map (·.1))[i]? = some (hsD (L[i]).2) := by rw [Array.getElem?_map, e1] <;> rfl
      simp [Array.getD_eq_getD_getElem?, e3]
    rw [List.filterMap_cons_some e1, List.filterMap_cons_some (List.getElem?_eq_getElem hi), i1, List.map_cons, e2, ← i2]
    exact ⟨rfl, rfl⟩
section
variable {P : Program} {w : World} {A : Around} {E : Value → Shared → Prop} {s : Shared} {a : Addr} {L : List Row} {es : Array (Int × Value)} {ep : Nat} {t : SetTable}
theorem relay_d {o : Obj} {h0 : Heap} (ho : s.heap.get? a = some o) (hex : o.ExactSet) (hd : o.data = .set es ep t) (hr : es.toList = rows L) (hsz : t.place.size = es.size) (hdm : t.dummies = #[]) (hfl : es.size ≤ t.mask) (nd : (L.map (·.2)).Nodup)
    (pl : t.plain = true) (ld : w.params.followText "set-order" = true ∨ t.led = true) (few : L.length < 64) (past : Past h0 s.heap a) (el : ∀ p ∈ L, El h0 p.2 p.1) {wanted M : Nat} (hw : SetTable.sizeAbove wanted - 1 = M) (hM : MaskOk M) (hw2 : SetTable.sizeAbove wanted ≤ 128) (hn : L.length * 5 < M * 3)
    {Q : Unit → Shared → Prop} (hQ : ∀ h' L' es' ep' t', Heap.SameBut a s.heap h' → SetD w h' a L' es' ep' t' → L'.Perm L → Q () { s with heap := h' }) : wpAny (model P w) A (setRelay a wanted) Q E s := by
  have hl : es.size = L.length := by simpa [rows] using congrArg List.length hr
  have hfits : t.fits es.size = true := by
    unfold SetTable.fits SetTable.fill
    rw [hdm]
    simp only [Bool.and_eq_true, beq_iff_eq, decide_eq_true_eq]
    exact ⟨hsz, by show t.place.size + 0 ≤ t.mask; omega⟩
  obtain ⟨t', order, e, hp, T, em, el', ep', ed⟩ := relaid_ok t (hs := es.map (·.1)) (wanted := wanted) hw hM (by rw [Array.size_map, hl]; omega)
  rw [Array.size_map, hl] at hp
  obtain ⟨r1, r2⟩ := picked hr order.toList fun i hi => List.mem_range.mp (hp.mem_iff.mp hi)
  have pm : (order.toList.filterMap fun i => L[i]?).Perm L := by
    have := hp.filterMap fun i => L[i]?
    rwa [pick_all] at this
  rw [← r2] at T
  have r3 : (order.filterMap (es[·]?)).toList = rows (order.toList.filterMap fun i => L[i]?) := by
    rw [← r1]
    simp
  generalize (order.toList.filterMap fun i => L[i]?) = L2 at T pm r3
  have hs2 : (order.filterMap (es[·]?)).size = es.size := by
    have := congrArg List.length r3
    rw [Array.length_toList, rows, List.length_map, pm.length_eq] at this
    rw [this, hl]
  rw [setRelay_eq]
  refine wpAny_bind (wpAny_setState_of ho hd hfits ?_)
  dsimp only
  refine wp_if_neg (by rw [sizeLine_eq]; omega) ?_
  try refine wpAny_bind (wpAny_pure ?_)
  rw [e]
  dsimp only
  refine wpAny_bind ?_
  refine wp_if_neg (by rw [hs2]; simp) ?_
  try refine wpAny_bind (wpAny_pure ?_)
  refine wpAny_pure ?_
  dsimp only
  refine wpAny_storeSet_of ho hd ?_ (by rw [hs2, hl, sizeLine_eq]; omega)
  have sb : Heap.SameBut a s.heap (s.heap.update a (Obj.putSet (order.filterMap (es[·]?)) t')) := Heap.SameBut.update ..
  have past' := past.next sb
  refine hQ _ L2 (order.filterMap (es[·]?)) (ep + 1) t' sb ⟨⟨_, store_at ho hd, ⟨hex.1, hex.2.1, hex.2.2⟩, rfl⟩, r3, T, (pm.map (·.2)).nodup_iff.mpr nd, fun p hpm => (el p (pm.mem_iff.mp hpm)).keep past'.all, by rw [ep']; exact pl, by rw [el']; exact ld, by rw [pm.length_eq, em]; exact hn, by rw [pm.length_eq]; exact few⟩ pm
theorem add_d (R : SetD w s.heap a L es ep t) {x : Addr} {d : PyData} {h0 : Heap} (past : Past h0 s.heap a) (el : ∀ p ∈ L, El h0 p.2 p.1) (hx0 : El h0 d x) (hu : A.units + 8 < cLine) (hfew : L.length + 1 < 64) {Q : Bool → Shared → Prop}
    (hQ : ∀ b h' L' es' ep' t', Heap.SameBut a s.heap h' → SetD w h' a L' es' ep' t' → (d ∈ L.map (·.2) → L' = L) → (d ∉ L.map (·.2) → L'.Perm ((x, d) :: L)) → Q b { s with heap := h' }) : wpAny (model P w) A (setAddHashed a (.ref x) (hsD d)) Q E s := by
  have hx := hx0.keep past.all
  obtain ⟨o, ho, hex, hd⟩ := R.ob
  have hl := R.size
  have hroom := R.room
  unfold setAddHashed
  refine wpAny_holding ?_
  rw [show (100000 : Nat) = 99999 + 1 from rfl, setAddHashedIn_succ]
  refine wpAny_bind (wpAny_setState_of ho hd R.fits ?_)
  dsimp only
  refine wp_if_neg (by simp [byScan, Value.scannable]) ?_
  try refine wpAny_bind (wpAny_pure ?_)
  refine wpAny_bind (search_new R hx hu (fun hm => ?_) fun N hm hN hb => ?_)
  · dsimp only
    exact wpAny_pure (hQ false s.heap L es ep t (Heap.SameBut.refl a s.heap) R (fun _ => rfl) fun z => absurd hm z)
  · dsimp only
    refine wpAny_bind (wpAny_setState_of ho hd R.fits ?_)
    dsimp only
    obtain ⟨q1, q2, q3, q4, q5, q6, q7, q8, q9⟩ := R.tab.put hN hb
    have hp1 : (t.put (way t.mask (hsD d) N)).1.plain = true := by rw [q6]; exact R.plain
    generalize hpt : t.put (way t.mask (hsD d) N) = pt at q1 q3 q4 q5 q6 q7 q8 q9 hp1 ⊢
    obtain ⟨t1, p⟩ := pt
    dsimp only at q1 q3 q4 q5 q6 q7 q8 q9 hp1 ⊢
    subst q1
    obtain ⟨as, hrd⟩ := hx.rd
    first
      | (refine wpAny_bind ?_; refine wp_if_pos hp1 ?_; refine byv_d d hx.ti 8 hx.dp _ _ _ _ as _ hrd ?_)
      | refine wp_if_pos hp1 (wpAny_bind (byv_d d hx.ti 8 hx.dp _ _ _ _ as _ hrd ?_))
    simp only [if_true]
    generalize hpp : SetTable.below t.place (way t.mask (hsD d) N) = p at q2 q3 ⊢
    have pm : (L.take p ++ (x, d) :: L.drop p).Perm ((x, d) :: L) := by
      have := List.perm_middle (a := (x, d)) (l₁ := L.take p) (l₂ := L.drop p)
      rwa [List.take_append_drop] at this
    have hin : (SetTable.insertAt es p (hsD d, Value.ref x)).toList = rows (L.take p ++ (x, d) :: L.drop p) := by
      rw [SetTable.toList_insertAt, R.rw']
      unfold rows
      rw [List.map_append, List.map_cons, List.map_take, List.map_drop]
    have hhs : hashes (L.take p ++ (x, d) :: L.drop p) = (hashes L).take p ++ hsD d :: (hashes L).drop p := by
      unfold hashes
      rw [List.map_append, List.map_cons, List.map_take, List.map_drop]
    rw [← hhs] at q3
    generalize L.take p ++ (x, d) :: L.drop p = L1 at pm hin q3
    have hlen : L1.length = L.length + 1 := pm.length_eq
    have nd1 : (L1.map (·.2)).Nodup := (pm.map (·.2)).nodup_iff.mpr (List.nodup_cons.mpr ⟨hm, R.nd⟩)
    have hes : (SetTable.insertAt es p (hsD d, Value.ref x)).size = L.length + 1 := by
      have := congrArg List.length hin
      rw [Array.length_toList, rows, List.length_map, hlen] at this
      exact this
    generalize SetTable.insertAt es p (hsD d, Value.ref x) = es1 at hin hes ⊢
    refine wpAny_bind (wpAny_storeSet_of ho hd ?_ (by rw [hes, sizeLine_eq]; omega))
    have sb : Heap.SameBut a s.heap (s.heap.update a (Obj.putSet es1 t1)) := Heap.SameBut.update ..
    have ho1 := store_at (es' := es1) (t' := t1) ho hd
    generalize s.heap.update a (Obj.putSet es1 t1) = h1 at sb ho1 ⊢
    have past1 := past.next sb
    have el1 : ∀ p ∈ L1, El h0 p.2 p.1 := fun p hp => by
      rcases List.mem_cons.mp (pm.mem_iff.mp hp) with e | hp
      · rw [e]; exact hx0
      · exact el p hp
    have ld1 : w.params.followText "set-order" = true ∨ t1.led = true := by rw [q5]; exact R.led
    have hhl : (hashes L).length = L.length := List.length_map ..
    have full : t1.tooFull = decide ((L.length + 1) * 5 ≥ t1.mask * 3) := by
      unfold SetTable.tooFull
      rw [q9, hhl]
    by_cases hf : (L.length + 1) * 5 ≥ t1.mask * 3
    · have ht : t1.tooFull = true := by rw [full]; exact decide_eq_true hf
      first
        | (refine wpAny_bind ?_; refine wp_if_pos (by simp [ht]) ?_)
        | (refine wp_if_pos (by simp [ht]) ?_; refine wpAny_bind ?_)
      rw [hl]
      have hsz1 : t1.place.size = es1.size := by
        have := q3.sz
        rw [hashes, List.length_map, hlen] at this
        rw [this, hes]
      have two : (t.mask = 7 ∧ L.length = 4) ∨ (t.mask = 31 ∧ L.length = 18) := by
        rw [q4] at hf
        rcases R.tab.mok with e | e | e
        · left; exact ⟨e, by omega⟩
        · right; exact ⟨e, by omega⟩
        · exfalso; omega
      have go : ∀ M, SetTable.sizeAbove (SetTable.grown (L.length + 1)) - 1 = M → MaskOk M → SetTable.sizeAbove (SetTable.grown (L.length + 1)) ≤ 128 → (L.length + 1) * 5 < M * 3 →
          wpAny (model P w) A (setRelay a (SetTable.grown (L.length + 1))) (fun _ s' => wpAny (model P w) A (pure true) Q E s') E { s with heap := h1 } := fun M m1 m2 m3 m4 =>
        relay_d (s := { s with heap := h1 }) ho1 ⟨hex.1, hex.2.1, hex.2.2⟩ rfl hin hsz1 q3.dm (by rw [hes, q4]; rcases two with ⟨e, e2⟩ | ⟨e, e2⟩ <;> omega) nd1 hp1 ld1 (by omega) past1 el1 m1 m2 m3 (by rw [hlen]; exact m4)
          fun h2 L2 es2 ep2 t2 sb2 R2 pm2 => wpAny_pure (hQ true h2 L2 es2 ep2 t2 (sb.trans sb2) R2 (fun z => absurd z hm) fun _ => pm2.trans pm)
      rcases two with ⟨_, e2⟩ | ⟨_, e2⟩
      · exact go 31 (by rw [e2, size_20]) (.inr (.inl rfl)) (by rw [e2, size_20]; decide) (by omega)
      · exact go 127 (by rw [e2, size_76]) (.inr (.inr rfl)) (by rw [e2, size_76]; decide) (by omega)
    · have ht : t1.tooFull = false := by rw [full]; exact decide_eq_false hf
      first
        | refine wp_if_neg (by simp [ht]) ?_
        | (refine wpAny_bind ?_; refine wp_if_neg (by simp [ht]) ?_; refine wpAny_pure ?_)
      exact wpAny_pure (hQ true h1 L1 es1 (ep + 1) t1 sb ⟨⟨_, ho1, ⟨hex.1, hex.2.1, hex.2.2⟩, rfl⟩, hin, q3, nd1, fun p hp => (el1 p hp).keep past1.all, hp1, ld1, by omega, by omega⟩ (fun z => absurd z hm) fun _ => pm)
theorem setD_fresh {h : Heap} {a : Addr} (ho : h.get? a = some { cls := .type "set", dict := none, data := .set #[] 0 (.fresh 0 0 (!w.params.followText "set-order")) }) : SetD w h a [] #[] 0 (.fresh 0 0 (!w.params.followText "set-order")) where
  ob := ⟨_, ho, ⟨rfl, rfl, rfl⟩, rfl⟩
  rw' := rfl
  tab := ⟨List.Pairwise.nil, rfl, rfl, .inl rfl, fun x hx => (by cases hx), fun i h j hi => (by simp [hashes] at hi)⟩
  nd := List.nodup_nil
  el := fun p hp => (by cases hp)
  plain := rfl
  led := by
    show _ ∨ (!w.params.followText "set-order") = true
    cases w.params.followText "set-order"
    · exact .inr rfl
    · exact .inl rfl
  room := by
    show 0 * 5 < 7 * 3
    decide
  few := by
    show 0 < 64
    decide
theorem SetD.keep {h h' : Heap} (R : SetD w h a L es ep t) (k : ∀ b o, h.get? b = some o → h'.get? b = some o) : SetD w h' a L es ep t := by
  obtain ⟨o, ho, r⟩ := R.ob
  exact ⟨⟨o, k a o ho, r⟩, R.rw', R.tab, R.nd, fun p hp => (R.el p hp).keep k, R.plain, R.led, R.room, R.few⟩
end
end PDs
/-! ### set(xs), xs a list of such data -/
namespace PDs
open PySem PySem.Spec PyProof.Rows L2
/-- the set after the first i of the rows -/
structure Had (ks : List Row) (i : Nat) (L : List Row) : Prop where
  sub : ∀ p ∈ L, p ∈ ks
  all : ∀ p ∈ ks.take i, p.2 ∈ L.map (·.2)
  len : L.length ≤ i
theorem Had.next {ks L L' : List Row} {i : Nat} {x : Row} (g : Had ks i L) (h : ks[i]? = some x) (h1 : x.2 ∈ L.map (·.2) → L' = L) (h2 : x.2 ∉ L.map (·.2) → L'.Perm (x :: L)) : Had ks (i + 1) L' := by
  have ht : ks.take (i + 1) = ks.take i ++ [x] := by rw [List.take_succ, h] <;> rfl
  have hx : x ∈ ks := List.mem_of_getElem? h
  have all' : (∀ e ∈ L.map (·.2), e ∈ L'.map (·.2)) → x.2 ∈ L'.map (·.2) → ∀ p ∈ ks.take (i + 1), p.2 ∈ L'.map (·.2) := fun m1 m2 p hp => by
    rw [ht] at hp
    rcases List.mem_append.mp hp with z | z
    · exact m1 _ (g.all p z)
    · rw [List.mem_singleton.mp z]; exact m2
  have hl := g.len
  by_cases c : x.2 ∈ L.map (·.2)
  · rw [h1 c] at all' ⊢
    exact ⟨g.sub, all' (fun _ z => z) c, by omega⟩
  · have pm := h2 c
    refine ⟨fun p hp => ?_, all' (fun e he => ?_) ?_, by rw [pm.length_eq, List.length_cons]; omega⟩
    · rcases List.mem_cons.mp (pm.mem_iff.mp hp) with z | z
      · rw [z]; exact hx
      · exact g.sub p z
    · exact (pm.map (·.2)).mem_iff.mpr (List.mem_cons_of_mem _ he)
    · exact (pm.map (·.2)).mem_iff.mpr List.mem_cons_self
section
variable {P : Program} {w : World} {A : Around} {E : Value → Shared → Prop} {s : Shared}
theorem SetD.keep2 {h h' : Heap} {a : Addr} {L : List Row} {es : Array (Int × Value)} {ep : Nat} {t : SetTable} (R : SetD w h a L es ep t) (ha : ∀ o, h.get? a = some o → h'.get? a = some o) (el : ∀ p ∈ L, El h' p.2 p.1) : SetD w h' a L es ep t := by
  obtain ⟨o, ho, r⟩ := R.ob
  exact ⟨⟨o, ha o ho, r⟩, R.rw', R.tab, R.nd, el, R.plain, R.led, R.room, R.few⟩
theorem update_d {I : Addr} {fp wr : List Addr} {G : Array GenState → Array GenState → Prop} {n : Nat} {Pv : Nat → Value → Prop} {St : Nat → Shared → Prop} {R : Result → Shared → Prop}
    (W : WalksS P w A.in1 I fp wr G n Pv St) (S : Addr) (hSf : S ∉ fp) (ks : List Row) (hn : n = ks.length) (hfew : ks.length < 64) (hval : ∀ i v, Pv i v → ∃ p, ks[i]? = some p ∧ v = .ref p.1)
    (h0 : Heap) (hk : ∀ p ∈ ks, El h0 p.2 p.1) (hS0 : h0.get? S = none) (hw0 : ∀ b ∈ wr, h0.get? b = none) (hu : A.in1.units + 8 < cLine) :
    ∀ (k i : Nat) (s : Shared), n - i = k → i ≤ n → St i s → Past h0 s.heap S → (∃ L es ep t, SetD w s.heap S L es ep t ∧ Had ks i L) →
      (∀ s' L es ep t, Moved (S :: wr) G s s' → SetD w s'.heap S L es ep t → Had ks n L → R (.ok (.ret .none)) s') →
      codeAny (model P w) A (.builtin "set.update.loop" ⟨[.ref S, .ref I], []⟩) R s := by
  have hSw : S ∉ wr := fun h => hSf (W.sub _ h)
  have hsub : ∀ b ∈ wr, b ∈ S :: wr := fun b hb => List.mem_cons_of_mem _ hb
  have onward : ∀ {s s' : Shared}, Moved wr G s s' → Past h0 s.heap S → Past h0 s'.heap S := fun hm hp => ⟨fun b o e => hm.heap b o (fun hb => by rw [hw0 b hb] at e; cases e) (hp.all b o e), hS0⟩
  intro k
  induction k with
  | zero =>
    intro i s hk' hi hst past ⟨L, es, ep, t, hS, g⟩ hR
    obtain rfl : i = n := by omega
    refine codeAny_builtin F.entry_set_update_loop ?_
    rw [Around.under_plainId F.plain_set_update_loop _]
    show wpAny _ A.in1 (pyNext (.ref I) >>= _) _ _ s
    refine wpAny_bind (W.done s _ _ hst fun s' hm => ?_)
    show wpAny _ A.in1 (ret Value.none) _ _ s'
    exact wpAny_pure (hR s' L es ep t (hm.mono hsub) (hS.keep2 (fun o e => hm.heap S o hSw e) fun p hp => (hk p (g.sub p hp)).keep (onward hm past).all) g)
  | succ k ih =>
    intro i s hk' hi hst past ⟨L, es, ep, t, hS, g⟩ hR
    have hlt : i < n := by omega
    refine codeAny_builtin F.entry_set_update_loop ?_
    rw [Around.under_plainId F.plain_set_update_loop _]
    show wpAny _ A.in1 (pyNext (.ref I) >>= _) _ _ s
    refine wpAny_bind (W.item i s _ _ hlt hst fun v s' hP hst' hm => ?_)
    obtain ⟨p, hp, rfl⟩ := hval i v hP
    have past' := onward hm past
    have hS' : SetD w s'.heap S L es ep t := hS.keep2 (fun o e => hm.heap S o hSw e) fun q hq => (hk q (g.sub q hq)).keep past'.all
    have hx0 := hk p (List.mem_of_getElem? hp)
    obtain ⟨as, hrd⟩ := (hx0.keep past'.all).rd
    have hdp := hx0.dp
    show wpAny _ A.in1 (holding [Value.ref p.1] (setAdd S (.ref p.1)) >>= _) _ _ s'
    refine wpAny_bind (wpAny_holding ?_)
    unfold setAdd
    refine wpAny_holding ?_
    refine wpAny_bind (hash_d p.2 hx0.ti _ _ s' _ as _ hrd (by omega) fun tk htk => ?_)
    refine add_d (s := { s' with toks := tk }) hS' past' (fun q hq => hk q (g.sub q hq)) hx0 (by omega) (by have := g.len; omega) fun b h' L' es' ep' t' hsb hS2 c1 c2 => ?_
    refine wpAny_pure ⟨plainId_quiet F.plain_set_update_loop _, ih (i + 1) _ (by omega) hlt (W.frame _ s' _ _ hst' htk fun b hb o e => ?_) (past'.next hsb) ⟨L', es', ep', t', hS2, g.next hp c1 c2⟩ fun s'' L2 es2 ep2 t2 hm'' hS'' g'' => ?_⟩
    · rw [hsb.2 b (fun h : b = S => hSf (by rw [← h]; exact hb))]; exact e
    · refine hR s'' L2 es2 ep2 t2 (Moved.trans W.gtrans ((hm.mono hsub).then_heap htk fun b o hb e => ?_) hm'') hS'' g''
      rw [hsb.2 b (fun h : b = S => hb (by rw [h]; exact List.mem_cons_self))]; exact e
end
end PDs
/-! ### set(xs) and sorted(set(xs)), xs a list of such data -/
namespace PDs
open PySem PySem.Spec PyProof.Rows L2
section
variable {P : Program} {w : World} {A : Around} {E : Value → Shared → Prop} {s : Shared}
abbrev newSet (w : World) : Obj := { cls := .type "set", dict := none, data := .set #[] 0 (.fresh 0 0 (!w.params.followText "set-order")) }
theorem call_set_d {l : Addr} {items : Array Value} (ks : List Row) {Q : Value → Shared → Prop} (hh : A.handled = none) (hl : s.heap.IsList l items) (hit : items.toList = ks.map fun p => Value.ref p.1) (hk : ∀ p ∈ ks, El s.heap p.2 p.1) (hfew : ks.length < 64) (hu : A.units + 20 < cLine)
    (h : ∀ (h' : Heap) (tk : Nat) L es ep t, SetD w h' s.heap.objs.size L es ep t → Had ks ks.length L → (∀ b o, s.heap.get? b = some o → h'.get? b = some o) → Q (.ref s.heap.objs.size) { s with heap := h', toks := tk }) :
    wpAny (model P w) A (call (.type "set") [.ref l]) Q E s := by
  have hisz : items.size = ks.length := by
    have q := congrArg List.length hit
    rw [Array.length_toList, List.length_map] at q
    exact q
  obtain ⟨c, tl, hmro⟩ := F.called_set.mro
  have hmade := F.called_set.made
  have hsub := F.called_set.sub
  refine wpAny_call (codeAny_of_tree ?_)
  show wpAny _ _ (callAny (.type "set") _) _ _ _
  refine wpAny_pure ⟨Code.quiet_builtin _ (by decide +kernel), codeAny_builtin F.entry_type_call ?_⟩
  rw [Around.under_plain (weight_type_call_type "set" [.ref l] []) rfl]
  have h1 := F.called_set.notType
  have h2 := F.called_set.canCreate
  have hct := F.typeCall_set_1 (.ref l)
  repeat (any_goals (first | assumption | wp_step))
  refine codeAny_mono (code_set_led1 (.ref l) (E := E) (Q₁ := fun obj s₁ => obj = .ref s.heap.objs.size ∧ s₁ = { s with heap := s.heap.push (newSet w) }) ⟨rfl, rfl⟩) fun r s₁ hr => ?_
  cases r with
  | error e => exact hr
  | ok fl =>
    cases fl with
    | ret obj =>
      obtain ⟨rfl, rfl⟩ := hr
      have hS : (s.heap.push (newSet w)).get? s.heap.objs.size = some (newSet w) := Heap.get?_push_size _ rfl
      have hT : Shared.TypeIs { s with heap := s.heap.push (newSet w) } (.ref s.heap.objs.size) "set" := ⟨_, hS, rfl⟩
      have hli := F.called_set.init.lookup
      have hbi := F.called_set.init.bind (.ref s.heap.objs.size)
      repeat (any_goals (first | assumption | wp_step))
      refine codeAny_mono (codeAny_call_builtin (R := wants (fun r s₂ => r = .none ∧ ∃ h' tk L es ep t, s₂ = { s with heap := h', toks := tk } ∧ SetD w h' s.heap.objs.size L es ep t ∧ Had ks ks.length L ∧
          (∀ b o, s.heap.get? b = some o → h'.get? b = some o)) E) F.called_set.init.plain F.entry_set_init (check_set_init_1 hT ?_)) fun r₂ s₂ hr₂ => ?_
      · obtain ⟨ol, hol, hcl, nl, hdl⟩ := hl
        obtain ⟨ocls, odict, odata, oslots⟩ := ol
        simp only at hcl hdl
        subst hcl; subst hdl
        have hol' : (s.heap.push (newSet w)).get? l = some { cls := .type "list", dict := odict, data := .seq items nl, slots := oslots } := Heap.get?_push_of_some _ hol
        have hsls := F.sub_list_set
        have hslf := F.sub_list_frozenset
        have hne : (Value.type "list" == Value.type "dict") = false := by decide
        have hl1 : (s.heap.push (newSet w)).IsList l items := ⟨_, hol', rfl, nl, rfl⟩
        unfold Builtin.«set.__init__» noKeywords Builtin.Frozenset.updateFrom
        generalize hPI : pyIter = PI
        wp_walk
        subst hPI
        refine wpAny_pyIter_list hl1 ?_
        refine wpAny_bind (wpAny_runValue ?_)
        have hlS : l < s.heap.objs.size := Heap.lt_size hol
        have hh3 : A.in1.in1.in1.handled = none := by simp [hh]
        have hneI : l ≠ (s.heap.push (newSet w)).objs.size := by
          rw [Heap.size_push]; exact Nat.ne_of_lt (Nat.lt_succ_of_lt hlS)
        have hSf : s.heap.objs.size ∉ [(s.heap.push (newSet w)).objs.size, l] := by
          rw [Heap.size_push]; simp only [List.mem_cons, List.mem_singleton, List.not_mem_nil, or_false, not_or]
          exact ⟨Nat.ne_of_lt (Nat.lt_succ_self _), Nat.ne_of_gt hlS⟩
        have hval : ∀ (i : Nat) (v : Value), items[i]? = some v → ∃ p, ks[i]? = some p ∧ v = .ref p.1 := fun i v hv => by
          have q : items.toList[i]? = some v := by rw [Array.getElem?_toList]; exact hv
          rw [hit, List.getElem?_map] at q
          cases hq : ks[i]? with
          | none => rw [hq] at q; cases q
          | some p =>
            rw [hq] at q
            exact ⟨p, rfl, (Option.some.inj q).symm⟩
        have none_of : ∀ b, s.heap.objs.size ≤ b → s.heap.get? b = none := fun b hb => by
          cases q : s.heap.get? b with
          | none => rfl
          | some o => exact absurd (Nat.lt_of_lt_of_le (Heap.lt_size q) hb) (Nat.lt_irrefl _)
        have hu2 : A.in1.in1.in1.units + 8 < cLine := by
          have e : A.in1.in1.in1.units = A.units + 3 := rfl
          omega
        refine update_d ((Walks.list hh3 _ l hneI items).toS) s.heap.objs.size
          hSf ks hisz hfew hval s.heap hk (none_of _ (Nat.le_refl _)) (fun b hb => none_of b (by
            rw [List.mem_singleton.mp hb, Heap.size_push]
            exact Nat.le_succ _)) hu2 (items.size - 0) 0 _ (by omega) (Nat.zero_le _)
          ⟨⟨_, Heap.get?_push_size _ rfl, rfl, rfl⟩, (hl1.push _)⟩ ⟨fun b o e => Heap.get?_push_of_some _ (Heap.get?_push_of_some _ e), none_of _ (Nat.le_refl _)⟩ ?hS0 ?hR
        case hS0 => exact ⟨[], #[], 0, _, setD_fresh (Heap.get?_push_of_some _ hS), ⟨fun p hp => (by cases hp), fun p hp => (by simp at hp), Nat.le_refl _⟩⟩
        case hR =>
          intro s' L es ep t hm hS' g'
          obtain ⟨h', g2, d', tk', os'⟩ := s'
          have eg : g2 = s.gens := hm.gens
          have ed : d' = s.drawn := hm.drawn
          have eo : os' = s.os := hm.os
          subst eg; subst ed; subst eo
          show wpAny _ _ _ _ _ _
          refine wpAny_pure ?_
          show wpAny _ _ (ret Value.none) _ _ _
          rw [hisz] at g'
          refine wpAny_pure ⟨rfl, h', tk', L, es, ep, t, rfl, hS', g', fun b o e => ?_⟩
          have hb0 : b < s.heap.objs.size := Heap.lt_size e
          have hb2 : b ≠ (s.heap.push (newSet w)).objs.size := by
            rw [Heap.size_push]; exact Nat.ne_of_lt (Nat.lt_succ_of_lt hb0)
          exact hm.heap b o (by simp only [List.mem_cons, List.mem_singleton, List.not_mem_nil, or_false, not_or]; exact ⟨Nat.ne_of_lt hb0, hb2⟩) (Heap.get?_push_of_some _ (Heap.get?_push_of_some _ e))
      · cases r₂ with
        | error e => exact hr₂
        | ok fl₂ =>
          cases fl₂ with
          | ret r =>
            obtain ⟨rfl, h', tk, L, es, ep, t, rfl, hS', g', hk'⟩ := hr₂
            repeat (any_goals (first | assumption | wp_step))
            exact h _ _ _ _ _ _ hS' g' hk'
          | _ => exact hr₂.elim
    | _ => exact hr.elim
/-! sorted -/
mutual
theorem none_read {h : Heap} : ∀ (d : PyData), tiD d = true → ∀ (v : Value) (as : List Addr), Reads h v d as → as = []
  | .int i, _, v, as, r => by cases r; rfl
  | .tuple xs, ht, v, as, r => by
    rw [tiD] at ht
    cases r with
    | tuple _ _ _ rs => exact none_readAll xs ht _ as rs
  | .none, h, _, _, _ => by rw [tiD] at h; cases h
  | .bool _, h, _, _, _ => by rw [tiD] at h; cases h
  | .str _, h, _, _, _ => by rw [tiD] at h; cases h
  | .list _, h, _, _, _ => by rw [tiD] at h; cases h
  | .dict _, h, _, _, _ => by rw [tiD] at h; cases h
theorem none_readAll {h : Heap} : ∀ (ds : List PyData), tiAll ds = true → ∀ (vs : List Value) (as : List Addr), ReadsAll h vs ds as → as = []
  | [], _, _, _, r => by cases r; rfl
  | d :: ds, ht, _, _, r => by
    rw [tiAll, Bool.and_eq_true] at ht
    cases r with
    | cons h1 h2 => rw [none_read d ht.1 _ _ h1, none_readAll ds ht.2 _ _ h2]; rfl
end
theorem rows_back {L : List Row} : ∀ {vs : List Value}, (∀ v ∈ vs, ∃ q ∈ L, v = Value.ref q.1) → ∃ L1 : List Row, vs = L1.map (fun q => Value.ref q.1) ∧ ∀ q ∈ L1, q ∈ L
  | [], _ => ⟨[], rfl, fun q hq => (by cases hq)⟩
  | v :: vs, hv => by
    obtain ⟨q, hq, e⟩ := hv v List.mem_cons_self
    obtain ⟨L1, e1, hs⟩ := rows_back (vs := vs) fun u hu => hv u (List.mem_cons_of_mem _ hu)
    refine ⟨q :: L1, by rw [List.map_cons, e, e1], fun r hr => ?_⟩
    rcases List.mem_cons.mp hr with z | z
    · rw [z]; exact hq
    · exact hs r z
theorem each_rows {R : Value → Row → Prop} : ∀ {L : List Row}, (∀ q ∈ L, R (.ref q.1) q) → PySem.W.EachIs R (L.map fun q => Value.ref q.1) L
  | [], _ => .nil
  | q :: L, h => .cons (h q List.mem_cons_self) (each_rows fun r hr => h r (List.mem_cons_of_mem _ hr))
theorem rows_each : ∀ {L : List Row} {vs : List Value}, PySem.W.EachIs (fun v (q : Row) => v = .ref q.1) vs L → vs = L.map fun q => Value.ref q.1
  | _, _, .nil => rfl
  | _, _, .cons h1 h2 => by rw [h1, rows_each h2]; rfl
theorem sorted_d {a : Addr} {L : List Row} {es : Array (Int × Value)} {ep : Nat} {t : SetTable} {Q : Value → Shared → Prop} (R : SetD w s.heap a L es ep t) (hh : A.handled = none) (hu : A.units + 20 < cLine)
    (hal : PySem.W.AllAlike (L.map (·.2))) (hso : PySem.W.Sortable (L.map (·.2)))
    (hQ : ∀ s' p (c : Nat) (L' : List Row), (∀ b o, s.heap.get? b = some o → s'.heap.get? b = some o) → s'.gens = s.gens → s'.os = s.os → s.heap.objs.size ≤ p → L'.length < 64 → (L'.map fun q => Value.ref q.1).Perm (L.map fun q => Value.ref q.1) → (∀ q ∈ L', q ∈ L) →
      s'.heap.get? p = some (seqObj "list" ((L'.mergeSort (PySem.W.dataLe false (·.2))).map fun q => Value.ref q.1).toArray c) → Q (.ref p) s') :
    wpAny (model P w) A (call (.builtin "sorted") [.ref a]) Q E s := by
  obtain ⟨o, ho, hex, hd⟩ := R.ob
  have hsz := R.size
  have hfew := R.few
  refine Calls.call_function_entry kind_sorted plain_sorted entry_sorted (args_sorted1 _) ?_
  unfold Builtin.«sorted»
  refine wpAny_bind (m := checkCount "sorted" 1 1 _) (wpAny_pure ?_)
  refine wpAny_bind (collect_set (A := A.in1) hh ⟨o, ho, hex.1, hd⟩ R.fits (by unfold scanBound; omega) R.tab.ris R.led fun s1 vs k1 hz g1 o1 pm => ?_)
  have hes : es.toList.map (·.2) = L.map fun q => Value.ref q.1 := by
    rw [R.rw', rows, List.map_map]; rfl
  rw [hes] at pm
  obtain ⟨L', rfl, hs'⟩ := rows_back (L := L) (vs := vs) fun v hv => by
    obtain ⟨q, hq, e⟩ := List.mem_map.mp (pm.mem_iff.mp hv)
    exact ⟨q, hq, e.symm⟩
  have hl' : L'.length < 64 := by
    have := pm.length_eq
    rw [List.length_map, List.length_map] at this
    omega
  refine wpAny_bind (wpAny_newList ?_ (by rw [sizeLine_eq, List.length_map]; omega))
  have hoL : (s1.heap.push (seqObj "list" (L'.map fun q => Value.ref q.1).toArray 0)).get? s1.heap.objs.size = some (seqObj "list" (L'.map fun q => Value.ref q.1).toArray 0) := Heap.get?_push_size _ rfl
  have in2 : ∀ d ∈ L'.map (·.2), d ∈ L.map (·.2) := fun d hd' => by
    obtain ⟨q, hq, e⟩ := List.mem_map.mp hd'
    exact List.mem_map.mpr ⟨q, hs' q hq, e⟩
  have hso' : PySem.W.Sortable (L'.map (·.2)) := hso.elim (fun z => .inl fun d hd' => z d (in2 d hd')) fun z => .inr fun d hd' => z d (in2 d hd')
  refine wpAny_bind (wpAny_holding (PySem.W.list_sort_data (s := { s1 with heap := s1.heap.push (seqObj "list" (L'.map fun q => Value.ref q.1).toArray 0) }) (bs := L') (enc := (·.2)) (R := fun v (q : Row) => v = .ref q.1) hoL (each_rows fun q _ => rfl) (each_rows fun q hq => ?_)
    (fun d hd' e he' => hal d (in2 d hd') e (in2 e he')) hso' (by rw [sizeLine_eq]; omega) (fun q hq => ?_) fun out hlen eo => ?_))
  · have e1 := R.el q (hs' q hq)
    obtain ⟨as, r⟩ := (e1.keep fun b u e => Heap.get?_push_of_some _ (k1 b u e)).rd
    rw [none_read _ e1.ti _ _ r] at r
    exact ⟨[], r, List.not_mem_nil⟩
  · have e1 := (R.el q (hs' q hq)).dp
    have e : A.in1.units = A.units + 1 := rfl
    omega
  · rw [rows_each eo]
    obtain ⟨c, hc⟩ := sortedHeap_at (vs := L'.map fun q => Value.ref q.1) (out := ((L'.mergeSort (PySem.W.dataLe false (·.2))).map fun q => Value.ref q.1).toArray) hoL
    refine wpAny_pure ⟨_, rfl, hQ _ s1.heap.objs.size c L' (fun b u e => ?_) g1 o1 hz hl' pm hs' hc⟩
    have q := k1 b u e
    have hlt := Heap.lt_size q
    show (sortedHeap (s1.heap.push _) s1.heap.objs.size _ _).get? b = some u
    rw [sortedHeap_old (Nat.ne_of_lt hlt) (by rw [size_push']; exact Nat.lt_succ_of_lt hlt)]
    exact Heap.get?_push_of_some _ q
end
end PDs
namespace PDs
open PySem PySem.Spec PyProof.Rows L2 PD
/-! ### the order of data is one -/
theorem lt_both {d e : PyData} (ha : PySem.W.alike d e = true) (h1 : PySem.W.dataLt d e = false) (h2 : PySem.W.dataLt e d = false) : PyData.eqv d e = true := by
  have ek : PySem.W.keyToks d = PySem.W.keyToks e := PyProof.Rows.lex_total (O := PyProof.Rows.itemOrd) _ _ h1 h2
  cases q : PyData.eqv d e with
  | true => rfl
  | false =>
    have h := (PySem.W.toks_eqv d e ha).2 q [] [Sum.inl 0]
    rw [ek, PySem.W.lex_pre, PyProof.Rows.lex_irrefl] at h
    exact absurd h (by decide)
theorem le_total {β : Type} (k : β → PyData) : PySem.W.TotalLe (PySem.W.dataLe false k) := PySem.W.sortLe_total _ _ _
theorem sort_perm {xs ys : List PyData} (p : xs.Perm ys) (hal : ∀ x ∈ ys, ∀ y ∈ ys, PySem.W.alike x y = true) (ht : ∀ x ∈ ys, tiD x = true) : xs.mergeSort (PySem.W.dataLe false id) = ys.mergeSort (PySem.W.dataLe false id) := by
  refine List.Perm.eq_of_pairwise (le := fun a b => PySem.W.dataLe false id a b = true) (fun a b ha hb l1 l2 => ?_) (PySem.W.sort_pairwise (le_total _) _) (PySem.W.sort_pairwise (le_total _) _) (((List.mergeSort_perm _ _).trans p).trans (List.mergeSort_perm _ _).symm)
  have ma : a ∈ ys := p.mem_iff.mp (List.mem_mergeSort.mp ha)
  have mb : b ∈ ys := List.mem_mergeSort.mp hb
  rw [PySem.W.dataLe_eq] at l1 l2
  have l1' : (!PySem.W.dataLt b a) = true := l1
  have l2' : (!PySem.W.dataLt a b) = true := l2
  rw [Bool.not_eq_true'] at l1' l2'
  exact (eqv_ti a b (ht a ma) (ht b mb)).mp (lt_both (hal a ma b mb) l2' l1')
mutual
theorem lay_ti : ∀ (d : PyData), tiD d = true → d.canLay0 = true
  | .int i, _ => by rw [PyData.canLay0]
  | .tuple xs, h => by rw [tiD] at h; rw [PyData.canLay0]; exact lay_tiAll xs h
  | .none, h => by rw [tiD] at h; cases h
  | .bool _, h => by rw [tiD] at h; cases h
  | .str _, h => by rw [tiD] at h; cases h
  | .list _, h => by rw [tiD] at h; cases h
  | .dict _, h => by rw [tiD] at h; cases h
theorem lay_tiAll : ∀ (xs : List PyData), tiAll xs = true → PyData.canLayAll0 xs = true
  | [], _ => by rw [PyData.canLayAll0]
  | d :: ds, h => by
    rw [tiAll, Bool.and_eq_true] at h
    rw [PyData.canLayAll0, lay_ti d h.1, lay_tiAll ds h.2]; rfl
end
mutual
theorem reads_one {h : Heap} : ∀ (d e : PyData), tiD d = true → tiD e = true → ∀ (v : Value) (as bs : List Addr), Reads h v d as → Reads h v e bs → d = e
  | .int i, e, _, _, v, as, bs, r, q => by cases r; cases q; rfl
  | .tuple xs, e, hd, he, v, as, bs, r, q => by
    cases r with
    | tuple h1 h2 h3 h4 =>
      cases q with
      | tuple g1 g2 g3 g4 =>
        rw [h1] at g1
        cases g1
        rw [h3] at g3
        cases g3
        rw [tiD] at hd he
        rw [reads_oneAll xs _ hd he _ _ _ h4 g4]
      | list _ _ _ _ => rw [tiD] at he; cases he
      | dict _ _ _ _ _ => rw [tiD] at he; cases he
  | .none, _, h, _, _, _, _, _, _ => by rw [tiD] at h; cases h
  | .bool _, _, h, _, _, _, _, _, _ => by rw [tiD] at h; cases h
  | .str _, _, h, _, _, _, _, _, _ => by rw [tiD] at h; cases h
  | .list _, _, h, _, _, _, _, _, _ => by rw [tiD] at h; cases h
  | .dict _, _, h, _, _, _, _, _, _ => by rw [tiD] at h; cases h
theorem reads_oneAll {h : Heap} : ∀ (ds es : List PyData), tiAll ds = true → tiAll es = true → ∀ (vs : List Value) (as bs : List Addr), ReadsAll h vs ds as → ReadsAll h vs es bs → ds = es
  | [], _, _, _, _, _, _, r, q => by cases r; cases q; rfl
  | d :: ds, es, hd, he, _, _, _, r, q => by
    cases r with
    | cons h1 h2 =>
      cases q with
      | cons g1 g2 =>
        rw [tiAll, Bool.and_eq_true] at hd he
        rw [reads_one d _ hd.1 he.1 _ _ _ h1 g1, reads_oneAll ds _ hd.2 he.2 _ _ _ h2 g2]
end
/-! ### the set as an object of the walk -/
structure SetD0 (w : World) (h : Heap) (a : Addr) (L : List Row) : Prop where
  ex : ∃ (es : Array (Int × Value)) (ep : Nat) (t : SetTable), (∃ o, h.get? a = some o ∧ o.ExactSet ∧ o.data = .set es ep t) ∧ es.toList = rows L ∧ TabOk t (hashes L) ∧ t.plain = true ∧ (w.params.followText "set-order" = true ∨ t.led = true) ∧ L.length * 5 < t.mask * 3
def SetDO (w : World) (a : Addr) (L : List Row) : HO := .ext fun h => SetD0 w h a L
theorem setDO_new {P : Program} {w : World} {H : Hp} {h : Heap} {a : Addr} {L : List Row} {es : Array (Int × Value)} {ep : Nat} {t : SetTable} (R : SetD w h a L es ep t) : ObjOk P w H h a (SetDO w a L) := by
  obtain ⟨o, ho, r⟩ := R.ob
  refine ⟨⟨es, ep, t, R.ob, R.rw', R.tab, R.plain, R.led, R.room⟩, ⟨o, ho⟩, fun h1 h2 p k => ?_⟩
  have ⟨es', ep', t', ⟨o', ho', r'⟩, q'⟩ := SetD0.ex p
  exact ⟨es', ep', t', ⟨o', k o' ho', r'⟩, q'⟩
theorem vals_rows : ∀ {ks : List Row} {us : List Value}, Vals (ks.map fun p => V.ref p.1) us → us = ks.map fun p => Value.ref p.1
  | [], _, .nil => rfl
  | p :: ks, _, .cons r t => by
    cases r
    rw [vals_rows t] <;> rfl
theorem rows_vals : ∀ (ks : List Row), Vals (ks.map fun p => V.ref p.1) (ks.map fun p => Value.ref p.1)
  | [] => .nil
  | p :: ks => .cons rfl (rows_vals ks)
section
variable {K : PySem.W.Frag} {mg : Str → Option Value} {X : Cx} {E : XK}
/-- what the walk knows of a set's element -/
structure ElV (K : PySem.W.Frag) (H : Hp) (p : Row) : Prop where
  ti : tiD p.2 = true
  dp : p.2.depth ≤ 8
  at' : Dp K H (.ref p.1) p.2
theorem ElV.el {pins : List (Addr × Obj)} {σ : L2.St} {H : Hp} {s : Shared} {p : Row} (I : L2.Inv X pins σ H s) (e : ElV X.K H p) : El s.heap p.2 p.1 := ⟨e.ti, e.dp, Dp.reads I p.2 _ _ e.at' rfl⟩
def rSetD (K : PySem.W.Frag) (w : World) : List V → Hp → VK → Prop := fun xs H Q => ∃ (l : Addr) (ks : List Row), xs = [V.ref l] ∧ SqL K H l (ks.map fun p => V.ref p.1) ∧ (∀ p ∈ ks, ElV K H p) ∧ ks.length < 64 ∧
  ∀ a L, H a = none → (∀ p ∈ L, p ∈ ks) → (∀ p ∈ ks, p.2 ∈ L.map (·.2)) → (L.map (·.2)).Nodup → L.length < 64 → Q (.ref a) (upd H a (SetDO w a L))
theorem cr_setD (hc : X.calm = true) (hu : X.A.units + 70 < cLine) (hK : X.K = K := by rfl) : CallR X (.type "set") (rSetD K X.w) := by
  subst hK
  intro pins s σ H xs us Q I r h
  obtain ⟨l, ks, rfl, hl, hk, hf, q⟩ := h
  rw [Vals.ref1 r]
  obtain ⟨its, rv, pl, hz⟩ := I.list hl
  refine call_set_d (P := X.prog) (w := X.w) ks (I.ok.hd hc) pl.isList (by simpa using vals_rows rv) (fun p hp => (hk p hp).el I) hf (by omega) fun h' tk L es ep t R g k => ?_
  exact ⟨.ref s.heap.objs.size, upd H s.heap.objs.size (SetDO X.w s.heap.objs.size L), I.laid (t' := tk) k (Nat.le_refl _) (setDO_new R), rfl, q _ L (I.hok.fresh (Nat.le_refl _)) g.sub (fun p hp => g.all p (by rw [List.take_length]; exact hp)) R.nd R.few⟩
def rSortedD (K : PySem.W.Frag) (w : World) : List V → Hp → VK → Prop := fun vs H Q => ∃ (a : Addr) (L : List Row), vs = [V.ref a] ∧ H a = some (SetDO w a L) ∧ (∀ p ∈ L, ElV K H p) ∧ (L.map (·.2)).Nodup ∧ L.length < 64 ∧ PySem.W.AllAlike (L.map (·.2)) ∧ PySem.W.Sortable (L.map (·.2)) ∧
  ∀ (L' : List Row) (p : Addr), L'.Perm L → H p = none → Q (.ref p) (upd H p (.lst ((L'.mergeSort (PySem.W.dataLe false (·.2))).map fun q => V.ref q.1)))
theorem cr_sortedD (hc : X.calm = true) (hu : X.A.units + 70 < cLine) (hK : X.K = K := by rfl) : CallR X (.builtin "sorted") (rSortedD K X.w) := by
  subst hK
  intro pins s σ H vs us Q I r h
  obtain ⟨a, L, rfl, ha, hk, nd, few, hal, hso, q⟩ := h
  have R0 : SetD0 X.w s.heap a L := (I.hok a _ ha).1
  obtain ⟨es, ep, t, h1, h2, h3, h4, h5, h6⟩ := R0.ex
  have R : SetD X.w s.heap a L es ep t := ⟨h1, h2, h3, nd, fun p hp => (hk p hp).el I, h4, h5, h6, few⟩
  rw [Vals.ref1 r]
  refine sorted_d R (I.ok.hd hc) (by omega) hal hso fun s' p c L' k g o hp hl' pm hs' hg => ?_
  have hlen : ((L'.mergeSort (PySem.W.dataLe false (·.2))).map fun q => V.ref q.1).length ≤ sizeLine := by rw [List.length_map, List.length_mergeSort, sizeLine_eq]; omega
  have hn : H p = none := I.hok.fresh hp
  have J : Inv X pins σ (upd H p (.lst ((L'.mergeSort (PySem.W.dataLe false (·.2))).map fun q => V.ref q.1))) { s with heap := s'.heap, gens := s'.gens, drawn := s'.drawn, toks := s'.toks } :=
    I.call (ch := []) (Un.laid k hp hn) (I.hok.laid k hp ⟨hlen, _, c, rows_vals _, hg⟩) (by rw [g]; exact I.bare) (fun _ z => nomatch z)
  have e : s' = { s with heap := s'.heap, gens := s'.gens, drawn := s'.drawn, toks := s'.toks } := by
    cases s'
    cases s
    cases o
    rfl
  rw [e]
  have one : ∀ q ∈ L, ∀ r ∈ L, q.1 = r.1 → q = r := fun q hq r hr e => by
    obtain ⟨as, a1⟩ := (R.el q hq).rd
    obtain ⟨bs, a2⟩ := (R.el r hr).rd
    rw [e] at a1
    exact Prod.ext e (reads_one _ _ (R.el q hq).ti (R.el r hr).ti _ _ _ a1 a2)
  have nL : L.Nodup := List.Pairwise.of_map (·.2) (fun _ _ hne e => hne (congrArg _ e)) nd
  have nref : (L.map fun q => Value.ref q.1).Nodup := List.pairwise_map.mpr (List.Pairwise.imp_of_mem (fun {q r} hq hr hne e => hne (one q hq r hr (by injection e))) nL)
  have n1 : L'.Nodup := List.Pairwise.of_map (fun q => Value.ref q.1) (fun _ _ hne e => hne (congrArg (fun q : Row => Value.ref q.1) e)) (pm.nodup_iff.mpr nref)
  have pL : L'.Perm L := (List.perm_ext_iff_of_nodup n1 nL).mpr fun q => ⟨hs' q, fun hq => by
    obtain ⟨r, hr, e⟩ := List.mem_map.mp (pm.mem_iff.mpr (List.mem_map.mpr ⟨q, hq, rfl⟩))
    injection e with e
    rw [← one r (hs' r hr) q hq e]
    exact hr⟩
  exact ⟨.ref p, _, J, rfl, q L' p pL hn⟩
/-! ### sorted(set(xs)) -/
def ddD : List D → List D
  | [] => []
  | x :: r => if (r.any fun y => PyData.eqv x y) = true then ddD r else x :: ddD r
theorem any_ti {x : D} (hx : tiD x = true) {r : List D} (hr : ∀ y ∈ r, tiD y = true) : (r.any fun y => PyData.eqv x y) = true ↔ x ∈ r := by
  rw [List.any_eq_true]
  exact ⟨fun ⟨y, hy, e⟩ => by rw [(eqv_ti x y hx (hr y hy)).mp e]; exact hy, fun h => ⟨x, h, (eqv_ti x x hx hx).mpr rfl⟩⟩
theorem mem_ddD (k : D) : ∀ ns : List D, (∀ x ∈ ns, tiD x = true) → (k ∈ ddD ns ↔ k ∈ ns)
  | [], _ => Iff.rfl
  | x :: r, ht => by
    have hr : ∀ y ∈ r, tiD y = true := fun y hy => ht y (List.mem_cons_of_mem _ hy)
    have ih := mem_ddD k r hr
    rw [ddD]
    split
    · rename_i h
      rw [any_ti (ht x List.mem_cons_self) hr] at h
      rw [ih, List.mem_cons]
      exact ⟨.inr, fun z => z.elim (fun e => by rw [e]; exact h) id⟩
    · rw [List.mem_cons, List.mem_cons, ih]
theorem nodup_ddD : ∀ ns : List D, (∀ x ∈ ns, tiD x = true) → (ddD ns).Nodup
  | [], _ => List.nodup_nil
  | x :: r, ht => by
    have hr : ∀ y ∈ r, tiD y = true := fun y hy => ht y (List.mem_cons_of_mem _ hy)
    have ih := nodup_ddD r hr
    rw [ddD]
    split
    · exact ih
    · rename_i h
      rw [any_ti (ht x List.mem_cons_self) hr] at h
      exact List.nodup_cons.mpr ⟨fun z => h ((mem_ddD x r hr).mp z), ih⟩
def setOk (ds : List D) : Bool := ds.all (fun d => tiD d && decide (d.depth ≤ 8) && (match d with | .tuple (_ :: _) => true | _ => false)) && decide (ds.length < 64) && allAl ds
def gSortSetD (d : D) : Res D := match d with
  | .list ds => if setOk ds = true then .ok (.list ((ddD ds).mergeSort (PySem.W.dataLe false id))) else .bad
  | _ => .bad
theorem rows_of {S H : Hp} (sh : Same S H) : ∀ {vs : List V} {ds : List D}, DVs K S vs ds → (∀ d ∈ ds, tiD d = true ∧ d.depth ≤ 8 ∧ ∃ x r, d = PyData.tuple (x :: r)) → ∃ ks : List Row, vs = ks.map (fun p => V.ref p.1) ∧ ds = ks.map (·.2) ∧ ∀ p ∈ ks, ElV K H p ∧ DV K S (.ref p.1) p.2
  | [], [], _, _ => ⟨[], rfl, rfl, fun p hp => (by cases hp)⟩
  | v :: vs, d :: ds, h, hd => by
    obtain ⟨ks, e1, e2, e3⟩ := rows_of sh (vs := vs) (ds := ds) h.2 fun d' hd' => hd d' (List.mem_cons_of_mem _ hd')
    obtain ⟨t1, t2, x, r, rfl⟩ := hd d List.mem_cons_self
    have h1 := h.1
    have h1' := h1
    rw [DV] at h1'
    obtain ⟨a, xs, rfl, _⟩ := h1'
    refine ⟨(a, .tuple (x :: r)) :: ks, by rw [e1]; rfl, by rw [e2]; rfl, fun p hp => ?_⟩
    rcases List.mem_cons.mp hp with z | z
    · rw [z]
      exact ⟨⟨t1, t2, DV.dp sh _ _ (lay_ti _ t1) h1⟩, h1⟩
    · exact e3 p z
  | [], _ :: _, h, _ => h.elim
  | _ :: _, [], h, _ => h.elim
theorem ElV.up {H : Hp} {p : Row} {a : Addr} {o : HO} {K : PySem.W.Frag} {S : Hp} (e : ElV K H p) (sh : Same S (upd H a o)) (d : DV K S (.ref p.1) p.2) : ElV K (upd H a o) p := ⟨e.ti, e.dp, DV.dp sh _ _ (lay_ti _ e.ti) d⟩
theorem pd_sortSetD {a : Expr} {ta : TE} {f : DEnv → Res D} {p p2 q pos : Pos} (hc : X.calm = true) (hu : X.A.units + 70 < cLine) (hg : Gl X "sorted") (hm : X.mg "sorted" = none) (hg2 : Gl X "set") (hm2 : X.mg "set" = none) (ha : PD K mg X E a ta f) (hK : X.K = K := by rfl)
    (na : starEach [a] X.env = (false, eval a X.env) :: starEach [] X.env := by rfl) : PD K mg X E (.Call (.Name "sorted" p) [.Call (.Name "set" p2) [a] [] q] [] pos) (tCB (rSortedD K X.w) (tCons (tCB (rSetD K X.w) (tCons ta tNil)) tNil)) (fUn gSortSetD f) := by
  subst hK
  refine ⟨pe_callB (cr_sortedD hc hu) hg hm bt_sorted' (pa_cons (pe_callTy (cr_setD hc hu) hg2 hm2 bt_set (pa_cons ha.pe pa_nil na) (by decide) (by decide) na) pa_nil), fun S H σ ρ Q rl h => ?_⟩
  refine ha.sd S H σ ρ _ rl (h.bind fun d v S1 H1 x1 d1 h1 => ?_)
  show rSetD _ _ [v] H1 (fun x H1 => rSortedD _ X.w [x] H1 Q)
  unfold gSortSetD at h1
  split at h1
  · rename_i ds
    split at h1
    · rename_i c
      unfold setOk at c
      obtain ⟨c, c3⟩ := and_split c
      obtain ⟨c1, c2⟩ := and_split c
      have c2 := of_decide_eq_true c2
      have c3 := allAl_iff.mp c3
      have all : ∀ d ∈ ds, tiD d = true ∧ d.depth ≤ 8 ∧ ∃ x r, d = PyData.tuple (x :: r) := fun d hd => by
        have := List.all_eq_true.mp c1 d hd
        obtain ⟨t, t3⟩ := and_split this
        obtain ⟨t1, t2⟩ := and_split t
        refine ⟨t1, of_decide_eq_true t2, ?_⟩
        match d, t3 with
        | .tuple (x :: r), _ => exact ⟨x, r, rfl⟩
      rw [DV] at d1
      obtain ⟨l, us, rfl, g1, g2⟩ := d1
      obtain ⟨ks, rfl, rfl, hks⟩ := rows_of x1.sh g2 all
      rw [List.length_map] at c2
      refine ⟨l, ks, rfl, ls_sq (ls_mono x1.sh g1), fun p hp => (hks p hp).1, c2, fun a L hn s1 s2 nd few => ?_⟩
      have x2 := Ext.new (o := SetDO X.w a L) x1.sh hn
      have inK : ∀ d ∈ L.map (·.2), d ∈ ks.map (·.2) := fun d hd => by
        obtain ⟨p, hp, e⟩ := List.mem_map.mp hd
        exact List.mem_map.mpr ⟨p, s1 p hp, e⟩
      refine ⟨a, L, rfl, upd_same, fun p hp => (hks p (s1 p hp)).1.up x2.sh ((hks p (s1 p hp)).2.mono x2.s), nd, few, fun d hd e he => c3 d (inK d hd) e (inK e he), .inl fun d hd => (all d (inK d hd)).2.2, fun L' p pL hp => ?_⟩
      have tis : ∀ x ∈ ks.map (·.2), tiD x = true := fun x hx => (all x hx).1
      have pD : (L'.map (·.2)).Perm (ddD (ks.map (·.2))) := (pL.map _).trans ((List.perm_ext_iff_of_nodup nd (nodup_ddD _ tis)).mpr fun d => by
        rw [mem_ddD _ _ tis]
        refine ⟨inK d, fun hd => ?_⟩
        obtain ⟨p, hp, e⟩ := List.mem_map.mp hd
        rw [← e]
        exact s2 p hp)
      have em : (L'.mergeSort (PySem.W.dataLe false (·.2))).map (·.2) = (ddD (ks.map (·.2))).mergeSort (PySem.W.dataLe false id) := by
        rw [List.map_mergeSort (r := PySem.W.dataLe false fun q : Row => q.2) (s := PySem.W.dataLe false id) (f := fun q : Row => q.2) (fun a _ b _ => rfl)]
        exact sort_perm pD (fun x hx y hy => c3 x ((mem_ddD _ _ tis).mp hx) y ((mem_ddD _ _ tis).mp hy)) fun x hx => (all x ((mem_ddD _ _ tis).mp hx)).1
      rw [← em] at h1
      have dv : ∀ M : List Row, (∀ q ∈ M, q ∈ L) → DVs X.K (upd S1 a (SetDO X.w a L)) (M.map fun q => V.ref q.1) (M.map (·.2)) := fun M => by
        induction M with
        | nil => exact fun _ => trivial
        | cons q M ih => exact fun hM => ⟨(hks q (s1 q (hM q List.mem_cons_self))).2.mono x2.s, ih fun r hr => hM r (List.mem_cons_of_mem _ hr)⟩
      exact new_lst x2.sh (dv _ fun q hq => pL.mem_iff.mp (List.mem_mergeSort.mp hq)) (PostG.mono x2 h1) hp
    · exact h1.elim
  · exact h1.elim
end
end PDs
namespace PDs
open PySem PySem.Spec PyProof.Rows L2 PD
/-! ### sorted(d), d a dict with tuple keys -/
abbrev KRow := List Key × Addr
def kd (k : List Key) : D := .tuple (k.map kD)
theorem dv_keyS {K : PySem.W.Frag} {S : Hp} {b : Addr} {k : List Key} (h : S b = some (.tup (k.map kV))) : DV K S (.ref b) (kd k) := by
  unfold kd
  rw [DV]
  refine ⟨b, _, rfl, tp_of h, ?_⟩
  induction k generalizing b with
  | nil => trivial
  | cons x k ih =>
    have key : ∀ k : List Key, DVs K S (k.map kV) (k.map kD) := fun k => by
      induction k with
      | nil => trivial
      | cons y k ih => exact ⟨by cases y <;> rfl, ih⟩
    exact key (x :: k)
/-- tuples that are tracked become shared -/
theorem adopt_all {S H : Hp} (sh : Same S H) : ∀ (ks : List KRow), (∀ q ∈ ks, H q.2 = some (.tup (q.1.map kV))) → ∃ S', Ext S H S' H ∧ ∀ q ∈ ks, S' q.2 = some (.tup (q.1.map kV))
  | [], _ => ⟨S, Ext.refl sh, fun q hq => (by cases hq)⟩
  | q :: ks, h => by
    obtain ⟨S1, x1, h1⟩ := adopt_all sh ks fun r hr => h r (List.mem_cons_of_mem _ hr)
    have hq := h q List.mem_cons_self
    cases e : S1 q.2 with
    | none =>
      have x2 := Ext.adopt x1.sh hq e
      refine ⟨_, x1.trans x2, fun r hr => ?_⟩
      rcases List.mem_cons.mp hr with z | z
      · rw [z]; exact upd_same
      · exact x2.s _ _ (h1 r z)
    | some u =>
      refine ⟨S1, x1, fun r hr => ?_⟩
      rcases List.mem_cons.mp hr with z | z
      · rw [z, e, ← x1.sh _ _ e, hq]
      · exact h1 r z
theorem paired_rows {H : Hp} : ∀ {kvs : List (List Key × V)} {xs : List (List Key × Addr × Value)}, Paired (fun (p : List Key × V) (q : List Key × Addr × Value) => p.1 = q.1 ∧ H q.2.1 = some (.tup (p.1.map kV)) ∧ RelV p.2 q.2.2) kvs xs →
    ∃ ks : List KRow, ks.map (·.1) = kvs.map (·.1) ∧ ks.map (·.2) = xs.map (fun q => q.2.1) ∧ ∀ q ∈ ks, H q.2 = some (.tup (q.1.map kV))
  | _, _, .nil => ⟨[], rfl, rfl, fun q hq => (by cases hq)⟩
  | _, _, .cons (a := p) (b := q) h t => by
    obtain ⟨ks, e1, e2, e3⟩ := paired_rows t
    refine ⟨(p.1, q.2.1) :: ks, by rw [List.map_cons, e1]; rfl, by rw [List.map_cons, e2]; rfl, fun r hr => ?_⟩
    rcases List.mem_cons.mp hr with z | z
    · rw [z]; exact h.2.1
    · exact e3 r z
theorem each_krows {R : Value → KRow → Prop} : ∀ {L : List KRow}, (∀ q ∈ L, R (.ref q.2) q) → PySem.W.EachIs R (L.map fun q => Value.ref q.2) L
  | [], _ => .nil
  | q :: L, h => .cons (h q List.mem_cons_self) (each_krows fun r hr => h r (List.mem_cons_of_mem _ hr))
theorem krows_each : ∀ {L : List KRow} {vs : List Value}, PySem.W.EachIs (fun v (q : KRow) => v = .ref q.2) vs L → vs = L.map fun q => Value.ref q.2
  | _, _, .nil => rfl
  | _, _, .cons h1 h2 => by rw [h1, krows_each h2]; rfl
theorem krows_vals : ∀ (ks : List KRow), Vals (ks.map fun p => V.ref p.2) (ks.map fun p => Value.ref p.2)
  | [] => .nil
  | p :: ks => .cons rfl (krows_vals ks)
/-- the keys of a dict with tuple keys, as they are collected -/
theorem raw_keys {P : Program} {w : World} {es : Array DictEntry} {xs : List (List Key × Addr × Value)} {acc : Array Value} (he : es.toList = xs.map (entryOfKey (tupleKind (mixKind P w)))) (it : ItemsOf (fun i v => ∃ en : DictEntry, es[i]? = some en ∧ v = en.key) acc es.size) :
    acc.toList = xs.map fun x => Value.ref x.2.1 := by
  have l1 : es.size = xs.length := size_of_entries he
  have hl : acc.toList.length = xs.length := by rw [Array.length_toList, it.1]; exact l1
  apply List.ext_getElem?
  intro j
  rw [List.getElem?_map]
  cases hj : acc.toList[j]? with
  | none =>
    have h1 := List.getElem?_eq_none_iff.mp hj
    rw [List.getElem?_eq_none (by omega)]
    all_goals rfl
  | some v =>
    obtain ⟨en, hen, hv⟩ := it.2 j v (by rw [← Array.getElem?_toList]; exact hj)
    have qe := entry_at he j
    rw [hen] at qe
    cases hb : xs[j]? with
    | none =>
      rw [hb] at qe
      exact nomatch (show some en = none from qe)
    | some b =>
      rw [hb] at qe
      have e2 : en = entryOfKey (tupleKind (mixKind P w)) b := Option.some.inj qe
      rw [hv, e2]
      all_goals rfl
section
variable {K : PySem.W.Frag} {mg : Str → Option Value} {X : Cx} {E : XK}
def rSortKT : List V → Hp → VK → Prop := fun xs H Q => ∃ (a : Addr) (kvs : List (List Key × V)), xs = [.ref a] ∧ Rd H a (.dT kvs) ∧ setOk (kvs.map fun e => kd e.1) = true ∧
  ∀ (p : Addr) (ks : List KRow), H p = none → ks.map (·.1) = kvs.map (·.1) → (∀ q ∈ ks, H q.2 = some (.tup (q.1.map kV))) → Q (.ref p) (upd H p (.lst ((ks.mergeSort (PySem.W.dataLe false fun q => kd q.1)).map fun q => V.ref q.2)))
theorem c_sortKT (hc : X.calm = true) (hu : X.A.units + 70 < cLine) : CallR X (.builtin "sorted") rSortKT := by
  intro pins s σ H xs us Q I r h
  obtain ⟨a, kvs, rfl, hd, hok, q⟩ := h
  rw [Vals.ref1 r]
  obtain ⟨z, lo, xs, pr, o, es, ep, ho, hx, hdt, he, hn⟩ := (show ObjOk X.prog X.w H s.heap a (.dT kvs) from hd.ok I.hok)
  obtain ⟨ks, e1, e2, e3⟩ := paired_rows pr
  have l1 : es.size = xs.length := size_of_entries he
  have l2 : kvs.length = xs.length := Paired.length pr
  have l3 : ks.length = kvs.length := by simpa using congrArg List.length e1
  unfold setOk at hok
  obtain ⟨c, c3⟩ := and_split hok
  obtain ⟨c1, c2⟩ := and_split c
  have c2 := of_decide_eq_true c2
  rw [List.length_map] at c2
  have c3 := allAl_iff.mp c3
  have em : ks.map (fun q => kd q.1) = kvs.map fun e => kd e.1 := by
    have := congrArg (List.map kd) e1
    rw [List.map_map, List.map_map] at this
    exact this
  have all : ∀ d ∈ ks.map (fun q => kd q.1), tiD d = true ∧ d.depth ≤ 8 ∧ ∃ x r, d = PyData.tuple (x :: r) := fun d hd => by
    rw [em] at hd
    have := List.all_eq_true.mp c1 d hd
    obtain ⟨t, t3⟩ := and_split this
    obtain ⟨t1, t2⟩ := and_split t
    refine ⟨t1, of_decide_eq_true t2, ?_⟩
    match d, t3 with
    | .tuple (x :: r), _ => exact ⟨x, r, rfl⟩
  refine Calls.call_function_entry PyProof.Rows.kind_sorted PyProof.Rows.plain_sorted PyProof.Rows.entry_sorted (PyProof.Rows.args_sorted1 _) ?_
  unfold Builtin.«sorted»
  refine wpAny_bind (m := checkCount "sorted" 1 1 _) (wpAny_pure ?_)
  refine wpAny_bind (PySem.W.kdu_collect (A := X.A.in1) (kdl_raw lo hx hdt) (I.ok.hd hc) ho (by rw [sizeLine_eq]; omega) fun h' tk acc hk hacc => ?_)
  have ea : acc.toList = ks.map fun q => Value.ref q.2 := by
    rw [raw_keys he hacc]
    have := congrArg (List.map Value.ref) e2
    rw [List.map_map, List.map_map] at this
    exact this.symm
  have I1 : L2.Inv X pins σ H { s with heap := h', toks := tk } := I.kept hk
  rw [ea]
  refine wpAny_bind (wpAny_newList ?_ (by rw [sizeLine_eq, List.length_map]; omega))
  have hoL : (h'.push (seqObj "list" (ks.map fun q => Value.ref q.2).toArray 0)).get? h'.objs.size = some (seqObj "list" (ks.map fun q => Value.ref q.2).toArray 0) := Heap.get?_push_size _ rfl
  show wpAny _ _ _ _ _ { s with heap := h'.push (seqObj "list" (ks.map fun q => Value.ref q.2).toArray 0), toks := tk }
  refine wpAny_bind (wpAny_holding (PySem.W.list_sort_data (s := { s with heap := h'.push (seqObj "list" (ks.map fun q => Value.ref q.2).toArray 0), toks := tk }) (bs := ks) (enc := fun q => kd q.1) (R := fun v (q : KRow) => v = .ref q.2) hoL (each_krows fun q _ => rfl) (each_krows fun q hq => ?_)
    (by rw [em]; exact c3) (.inl fun d hd => (all d hd).2.2) (by rw [sizeLine_eq]; omega) (fun q hq => ?_) fun out hlen eo => ?_))
  · have ti := (all _ (List.mem_map.mpr ⟨q, hq, rfl⟩)).1
    have dv : DV X.K H (.ref q.2) (kd q.1) := dv_keyS (e3 q hq)
    obtain ⟨as, r⟩ := Dp.reads I1 (kd q.1) (.ref q.2) (.ref q.2) (DV.dp (Same.refl H) _ _ (lay_ti _ ti) dv) rfl
    have r' := PyProof.Rows.Reads.keeps (h' := h'.push (seqObj "list" (ks.map fun q => Value.ref q.2).toArray 0)) (fun b u e => Heap.get?_push_of_some _ e) r
    rw [none_read _ ti _ _ r'] at r'
    exact ⟨[], r', List.not_mem_nil⟩
  · have e1 := (all _ (List.mem_map.mpr ⟨q, hq, rfl⟩)).2.1
    have e : X.A.in1.units = X.A.units + 1 := rfl
    omega
  · rw [krows_each eo]
    obtain ⟨c, hc'⟩ := sortedHeap_at (vs := ks.map fun q => Value.ref q.2) (out := ((ks.mergeSort (PySem.W.dataLe false fun q => kd q.1)).map fun q => Value.ref q.2).toArray) hoL
    have hlen' : ((ks.mergeSort (PySem.W.dataLe false fun q => kd q.1)).map fun q => V.ref q.2).length ≤ sizeLine := by rw [List.length_map, List.length_mergeSort, sizeLine_eq]; omega
    refine wpAny_pure ⟨_, rfl, .ref h'.objs.size, upd H h'.objs.size (.lst _), I1.laid (t' := tk) (fun b u e => ?_) (Nat.le_refl _) ⟨hlen', _, c, krows_vals _, hc'⟩, rfl, q h'.objs.size ks (I1.hok.fresh (Nat.le_refl _)) e1 e3⟩
    have hb : b < h'.objs.size := Heap.lt_size e
    show (sortedHeap (h'.push _) h'.objs.size _ _).get? b = some u
    rw [sortedHeap_old (Nat.ne_of_lt hb) (by rw [size_push']; exact Nat.lt_succ_of_lt hb)]
    exact Heap.get?_push_of_some _ e
def gSortKT : List D → Res D
  | [.dict kvs] => if (tupK kvs && !kvs.isEmpty && setOk (kvs.map (·.1))) = true then .ok (.list ((kvs.map (·.1)).mergeSort (PySem.W.dataLe false id))) else .bad
  | _ => .bad
theorem cs_sortKT : CaS K mg E rSortKT gSortKT := fun S H xs ds Q sh dv h => by
  unfold gSortKT at h
  split at h
  · rename_i kvs
    split at h
    · rename_i c
      obtain ⟨c, c3⟩ := and_split c
      obtain ⟨c1, c2⟩ := and_split c
      obtain ⟨v, rfl, hv⟩ := dvs1 dv
      obtain ⟨a, rfl, q⟩ := dv_dict hv
      obtain ⟨es, g1, g2, g3⟩ := tup_of c1 (ne_emp c2) q
      have g2' : kvs.map (·.1) = es.map fun e => kd e.1 := g2
      rw [g2'] at c3 h
      refine ⟨a, es, rfl, rd_same sh g1, c3, fun p ks hp e1 e3 => ?_⟩
      obtain ⟨S1, x1, h1⟩ := adopt_all sh ks e3
      have em : (ks.mergeSort (PySem.W.dataLe false fun q => kd q.1)).map (fun q => kd q.1) = (es.map fun e => kd e.1).mergeSort (PySem.W.dataLe false id) := by
        rw [List.map_mergeSort (r := PySem.W.dataLe false fun q : KRow => kd q.1) (s := PySem.W.dataLe false id) (f := fun q : KRow => kd q.1) (fun a _ b _ => rfl)]
        have := congrArg (List.map kd) e1
        rw [List.map_map, List.map_map] at this
        exact congrArg (fun l => List.mergeSort l (PySem.W.dataLe false id)) this
      rw [← em] at h
      have dvl : ∀ M : List KRow, (∀ q ∈ M, q ∈ ks) → DVs K S1 (M.map fun q => V.ref q.2) (M.map fun q => kd q.1) := fun M => by
        induction M with
        | nil => exact fun _ => trivial
        | cons q M ih => exact fun hM => ⟨dv_keyS (h1 q (hM q List.mem_cons_self)), ih fun r hr => hM r (List.mem_cons_of_mem _ hr)⟩
      exact new_lst x1.sh (dvl _ fun q hq => List.mem_mergeSort.mp hq) (PostG.mono x1 h) hp
    · exact h.elim
  · exact h.elim
end
end PDs
namespace PDs
open PySem L2 PD
/-! ### for k in d: .., d a dict with tuple keys: it is locked for the while -/
/-- the thing x at a is y instead -/
noncomputable def sw (a : Addr) (x y : HO) (S : Hp) : Hp := fun b => open Classical in if b = a ∧ S b = some x then some y else S b
section
variable {a : Addr} {x y : HO} {S S' H H' S0 H0 : Hp}
theorem sw_at (h : S a = some x) : sw a x y S a = some y := by unfold sw; rw [if_pos ⟨rfl, h⟩]
theorem sw_no {b : Addr} (h : ¬ (b = a ∧ S b = some x)) : sw a x y S b = S b := by unfold sw; rw [if_neg h]
theorem sw_ne {b : Addr} (h : b ≠ a) : sw a x y S b = S b := sw_no fun z => h z.1
theorem sw_none {b : Addr} : sw a x y S b = none ↔ S b = none := by
  by_cases c : b = a ∧ S b = some x
  · obtain ⟨rfl, c⟩ := c
    rw [sw_at c, c]
    exact ⟨(fun z => nomatch z), (fun z => nomatch z)⟩
  · rw [sw_no c]
theorem sw_eq (h : S a = some x) : sw a x y S = upd S a y := funext fun b => by
  by_cases c : b = a
  · subst c; rw [sw_at h, upd_same]
  · rw [sw_ne c, upd_ne c]
theorem sw_same (e : Same S S') : Same (sw a x y S) (sw a x y S') := fun b u h => by
  by_cases c : b = a ∧ S b = some x
  · obtain ⟨rfl, c⟩ := c
    rw [sw_at c] at h
    rw [sw_at (e _ _ c)]
    exact h
  · rw [sw_no c] at h
    rw [sw_no (fun z => c ⟨z.1, by have := e _ _ h; rw [z.2] at this; rw [h, this]⟩)]
    exact e _ _ h
/-- there and back -/
theorem sw_back (hy : S a ≠ some y) : sw a y x (sw a x y S) = S := funext fun b => by
  by_cases c : b = a
  · subst c
    by_cases d : S b = some x
    · rw [sw_at (sw_at d), d]
    · have e1 : sw b x y S b = S b := sw_no fun z => d z.2
      have e2 : sw b y x (sw b x y S) b = sw b x y S b := sw_no fun z => hy (by rw [← e1]; exact z.2)
      rw [e2, e1]
  · rw [sw_ne c, sw_ne c]
theorem sw_live (hx : ∀ xs, x ≠ .tup xs) (hy : ∀ xs, y ≠ .tup xs) {b : Addr} : Live (sw a x y S b) ↔ Live (S b) := by
  by_cases c : b = a ∧ S b = some x
  · obtain ⟨rfl, c⟩ := c
    exact ⟨fun _ => Live.of c hx, fun _ => Live.of (sw_at c) hy⟩
  · rw [sw_no c]
theorem sw_ext (hx : ∀ xs, x ≠ .tup xs) (hy : ∀ xs, y ≠ .tup xs) (e : Ext S H S' H') : Ext (sw a x y S) (sw a x y H) (sw a x y S') (sw a x y H') :=
  ⟨sw_same e.s, sw_same e.h, sw_same e.sh, fun b hb => by
    have := e.old b ((sw_live hx hy).mp hb)
    unfold sw
    rw [this]⟩
end
section
variable {K : PySem.W.Frag} {a : Addr} {o : Obj} {es : List (List Key × V)} {S H S0 H0 S2 H2 : Hp} {σ : L2.St} {ρ : DEnv}
noncomputable abbrev LK (a : Addr) (o : Obj) (es : List (List Key × V)) : Hp → Hp := sw a (.dT es) (.frz o (.dT es))
noncomputable abbrev UL (a : Addr) (o : Obj) (es : List (List Key × V)) : Hp → Hp := sw a (.frz o (.dT es)) (.dT es)
theorem rdm_lk : RdMap S (LK a o es S) := by
  refine ⟨fun b u hz r => ?_, fun b xs e => ?_⟩
  · by_cases c : b = a ∧ S b = some (.dT es)
    · obtain ⟨rfl, c⟩ := c
      rcases r with r | ⟨o', r⟩
      · rw [c] at r; cases r; exact .inr ⟨o, sw_at c⟩
      · rw [c] at r; cases r
    · rcases r with r | ⟨o', r⟩
      · exact .inl ((sw_no c).trans r)
      · exact .inr ⟨o', (sw_no c).trans r⟩
  · exact (sw_no (fun z => by have := z.2.symm.trans e; cases this)).trans e
theorem rdm_ul : RdMap S (UL a o es S) := by
  refine ⟨fun b u hz r => ?_, fun b xs e => ?_⟩
  · by_cases c : b = a ∧ S b = some (.frz o (.dT es))
    · obtain ⟨rfl, c⟩ := c
      rcases r with r | ⟨o', r⟩
      · rw [c] at r; cases r; cases hz
      · rw [c] at r; cases r; exact .inl (sw_at c)
    · rcases r with r | ⟨o', r⟩
      · exact .inl ((sw_no c).trans r)
      · exact .inr ⟨o', (sw_no c).trans r⟩
  · exact (sw_no (fun z => by have := z.2.symm.trans e; cases this)).trans e
theorem own_sw {x y : HO} {s : Slot} {q : Addr} (hq : q ≠ a) (rd : RdMap S (sw a x y S)) (h : OwnOk K S H q s) : OwnOk K (sw a x y S) (sw a x y H) q s := by
  cases s with
  | own xs => obtain ⟨vs, h1, h2⟩ := h; exact ⟨vs, by rw [sw_ne hq]; exact h1, DVs.rdm rd _ _ h2⟩
  | ownK kvs => obtain ⟨vs, h1, h2, h3⟩ := h; exact ⟨vs, by rw [sw_ne hq]; exact h1, h2, DVs.rdm rd _ _ h3⟩
  | ownT kvs => obtain ⟨vs, h1, h2, h3⟩ := h; exact ⟨vs, by rw [sw_ne hq]; exact h1, h2, DVs.rdm rd _ _ h3⟩
  | _ => exact h.elim
theorem rel_lk (r : Rel K S0 H0 S H σ ρ) (ha : S a = some (.dT es)) : Rel K (LK a o es S0) (LK a o es H0) (LK a o es S) (LK a o es H) σ ρ :=
  ⟨sw_ext (fun _ z => nomatch z) (fun _ z => nomatch z) r.x, r.len, fun i y e => let ⟨v, h1, h2⟩ := r.dt i y e; ⟨v, h1, DV.rdm rdm_lk _ _ h2⟩, r.rw, fun i s e hs => by
    obtain ⟨q, g1, g2, g3, g4⟩ := r.own i s e hs
    have hq : q ≠ a := fun z => by rw [z, ha] at g2; cases g2
    exact ⟨q, g1, sw_none.mpr g2, sw_none.mpr g3, own_sw hq rdm_lk g4⟩, r.dis⟩
theorem rel_ul (r : Rel K (LK a o es S0) (LK a o es H0) S2 H2 σ ρ) (ha : S2 a = some (.frz o (.dT es))) (h0 : S0 a ≠ some (.frz o (.dT es))) (h1 : H0 a ≠ some (.frz o (.dT es))) : Rel K S0 H0 (UL a o es S2) (UL a o es H2) σ ρ :=
  ⟨by
    have := sw_ext (a := a) (x := .frz o (.dT es)) (y := .dT es) (fun _ z => nomatch z) (fun _ z => nomatch z) r.x
    rwa [sw_back h0, sw_back h1] at this, r.len, fun i y e => let ⟨v, h1, h2⟩ := r.dt i y e; ⟨v, h1, DV.rdm rdm_ul _ _ h2⟩, r.rw, fun i s e hs => by
    obtain ⟨q, g1, g2, g3, g4⟩ := r.own i s e hs
    have hq : q ≠ a := fun z => by rw [z, ha] at g2; cases g2
    exact ⟨q, g1, sw_none.mpr g2, (sw_ne hq).symm.trans g3, own_sw hq rdm_ul g4⟩, r.dis⟩
/-- the keys, walked: the dict is locked -/
theorem walks_keysT {kvs : List (D × D)} (h1 : S a = some (.frz o (.dT es))) (h2 : kvs.map (·.1) = es.map fun e => kd e.1) : Walks K S (Itkt a o es) (kvs.map (·.1)) := fun S' H' e1 e2 => by
  have q : H' a = some (.frz o (.dT es)) := e2 _ _ (e1 _ _ h1)
  have hl : (kvs.map (·.1)).length = es.length := by rw [h2, List.length_map]
  refine ⟨fun i d hi => ?_, q, by rw [hl]; exact Nat.le_refl _⟩
  have hin : i < es.length := by
    have := (List.getElem?_eq_some_iff.mp hi).1
    omega
  refine ⟨⟨q, hin⟩, fun x H'' hy => ?_⟩
  obtain ⟨rfl, k, v, b, hk, rfl, hb⟩ := hy
  obtain ⟨S'', x'', g⟩ := adopt_all e2 [(k, b)] fun q hq => by rw [List.mem_singleton.mp hq]; exact hb
  refine ⟨S'', x'', ?_⟩
  rw [h2, List.getElem?_map, hk] at hi
  have hi : kd k = d := Option.some.inj hi
  rw [← hi]
  exact dv_keyS (g (k, b) List.mem_cons_self)
end
def asKeysT : D → Res (List D)
  | .dict kvs => if (tupK kvs && !kvs.isEmpty) = true then .ok (kvs.map (·.1)) else .bad
  | _ => .bad
def fKeysT (i : Nat) : DEnv → Res (List D) := fun ρ => (fVar i ρ).bind asKeysT
section
variable {K : PySem.W.Frag} {mg : Str → Option Value} {X : Cx} {E : XK} {pos p : Pos} {x : Str} {i : Nat}
theorem for_sd {tg : Expr} {body : List Stmt} {wi : TI} {g : TG} {tb : TS} {src : DEnv → Res (List D)} {is : List Nat} {hh : D → Option (List D)} {B : DEnv → SR} (hg : GD K X tg g is hh) (hb : SDs K mg X E body tb B) {S0 H0 S H : Hp} {σ : L2.St} {ρ : DEnv} {N : Ends} (r : Rel K S0 H0 S H σ ρ)
    (hi : ∀ R, PostG mg E S H (fun S J ds => Walks K S J ds) (src ρ) R → wi σ H R) (h : SPost K mg E S0 H0 S (sFor src is hh B ρ) N) : tFor wi g tb N σ H := by
  refine hi _ (post_of r h fun ds J S1 H1 _ x1 wk h => ?_)
  refine ⟨fun i m σ' H' => i + m = ds.length ∧ ∃ S' ρ', Same S1 S' ∧ Rel K S0 H0 S' H' σ' ρ' ∧ SPost K mg E S0 H0 S' (forGo (asgOf is hh) B (ds.drop i) ρ') N, ⟨ds.length, by omega, S1, ρ, Same.refl _, r.ext x1, SPost.mono h x1.s⟩, ?_⟩
  rintro i m σ2 H2 ⟨him, S2, ρ2, e2, r2, h2⟩
  have wk2 := wk S2 H2 e2 r2.x.sh
  by_cases hil : i < ds.length
  · obtain ⟨go, yl⟩ := wk2.1 i ds[i] (List.getElem?_eq_getElem hil)
    have ed : ds.drop i = ds[i] :: ds.drop (i + 1) := (List.drop_eq_getElem_cons hil)
    rw [ed] at h2
    unfold forGo at h2
    refine .inr ⟨go, fun σ' H' => ∃ S' ρ', Same S1 S' ∧ Rel K S0 H0 S' H' σ' ρ' ∧ SPost K mg E S0 H0 S' (forGo (asgOf is hh) B (ds.drop (i + 1)) ρ') N, fun σ' H' ⟨S', ρ', a1, a2, a3⟩ => ⟨m - 1, by omega, by omega, S', ρ', a1, a2, a3⟩, fun x H3 hy => ?_⟩
    obtain ⟨S3, x3, dx⟩ := yl x H3 hy
    cases e1 : hh ds[i] with
    | none =>
      unfold asgOf at h2
      rw [e1] at h2
      exact h2.elim
    | some xs =>
      have ea : asgOf is hh ds[i] ρ2 = some (setD ρ2 is xs) := by unfold asgOf; rw [e1]; rfl
      rw [ea] at h2
      dsimp only at h2
      refine hg.sd S3 H3 x σ2 ds[i] xs _ x3.sh dx e1 fun vs hv => ?_
      have r3 := (r2.ext x3).setAll is vs xs hv
      refine hb.sd S0 H0 S3 H3 _ _ _ r3 ?_
      have h3 := SPost.mono h2 x3.s
      cases eb : B (setD ρ2 is xs) with
      | next ρ' =>
        rw [eb] at h3
        exact fun S' H' σ' e' r' => ⟨S', ρ', (e2.trans x3.s).trans e', r', SPost.mono h3 e'⟩
      | cont ρ' =>
        rw [eb] at h3
        exact fun S' H' σ' e' r' => ⟨S', ρ', (e2.trans x3.s).trans e', r', SPost.mono h3 e'⟩
      | brk ρ' => rw [eb] at h3; exact h3
      | ret d => rw [eb] at h3; exact h3
      | err c => rw [eb] at h3; exact h3
      | bad => rw [eb] at h3; exact h3
  · have ed : ds.drop i = [] := List.drop_eq_nil_of_le (by omega)
    have e3 : i = ds.length := by omega
    rw [ed] at h2
    refine .inl ⟨by rw [e3]; exact wk2.2, ?_⟩
    exact h2 S2 H2 σ2 (Same.refl _) r2
theorem keysT_sd {S H : Hp} {σ : L2.St} {ρ : DEnv} (rl : RelE K S H σ ρ) {a : Addr} {o : Obj} {es : List (List Key × V)} (e1 : σ[i]? = some (some (.ref a))) (e2 : S a = some (.frz o (.dT es))) (R : It → Hp → Prop) (h : PostG mg E S H (fun S J ds => Walks K S J ds) (fKeysT i ρ) R) : iKeys (tVar i) σ H R := by
  unfold fKeysT fVar at h
  split at h
  · rename_i d ed
    obtain ⟨v, k1, k2⟩ := rl.dt i d ed
    rw [e1] at k1
    cases k1
    rw [bind_ok] at h
    unfold asKeysT at h
    split at h
    · rename_i kvs
      split at h
      · rename_i c
        obtain ⟨c1, c2⟩ := and_split c
        obtain ⟨a', ea, q⟩ := dv_dict k2
        cases ea
        obtain ⟨es', g1, g2, g3⟩ := tup_of c1 (ne_emp c2) q
        have : es' = es := by
          rcases g1 with g | ⟨o', g⟩
          · rw [e2] at g; cases g
          · rw [e2] at g; cases g; rfl
        subst this
        exact ⟨.ref a, e1, a, o, rfl, .inr ⟨es', rl.sh _ _ e2, h.ok0 rl.sh (walks_keysT e2 g2)⟩⟩
      · exact h.elim
    · exact h.elim
  · exact h.elim
/-- only a loop that runs to its end -/
def sForK (i : Nat) (is : List Nat) (hh : D → Option (List D)) (B : DEnv → SR) : DEnv → SR := fun ρ => match sFor (fKeysT i) is hh B ρ with
  | .next ρ' => .next ρ'
  | _ => .bad
def tForK (t : TS) : TS := fun N σ H => tLock t N σ H ∨ t N σ H
theorem sd_forK {tg : Expr} {body : List Stmt} {g : TG} {tb : TS} {is : List Nat} {hh : D → Option (List D)} {B : DEnv → SR} (hp : PassesOwn (model X.prog X.w) X.A X.env X.xe) (hc : X.calm = true) (hv : PE X (.Name x p) (tVar i)) (hg : GD K X tg g is hh) (hb : SDs K mg X E body tb B)
    (hs : ∀ y, foldedSetIterable (.Name x p) X.env y = pure y := by intro _; rfl) : SD K mg X E (.For tg (.Name x p) body [] pos) (tForK (tFor (iKeys (tVar i)) g tb)) (sForK i is hh B) := by
  have ps : PS X (.For tg (.Name x p) body [] pos) (tFor (iKeys (tVar i)) g tb) := ps_for hp hc (pi_keys hv) hg.pg hb.ps hs
  refine ⟨⟨fun pins s σ H D I q => q.elim (fun q => (ps_lock ps).run pins s σ H D I q) fun q => ps.run pins s σ H D I q⟩, fun S0 H0 S H σ ρ N r h => ?_⟩
  unfold sForK at h
  cases ef : sFor (fKeysT i) is hh B ρ with
  | next ρ' =>
    rw [ef] at h
    dsimp only at h
    -- what lies in slot i
    have hk : ∃ kvs, ρ[i]? = some (.d (.dict kvs)) ∧ (tupK kvs && !kvs.isEmpty) = true := by
      unfold sFor fKeysT fVar at ef
      split at ef
      · rename_i d ed
        rw [bind_ok] at ef
        unfold asKeysT at ef
        split at ef
        · rename_i kvs
          split at ef
          · rename_i c; exact ⟨kvs, ed, c⟩
          · cases ef
        · cases ef
      · cases ef
    obtain ⟨kvs, ed, c⟩ := hk
    obtain ⟨c1, c2⟩ := and_split c
    obtain ⟨v, k1, k2⟩ := r.dt i _ ed
    obtain ⟨a, rfl, q⟩ := dv_dict k2
    obtain ⟨es, g1, g2, g3⟩ := tup_of c1 (ne_emp c2) q
    rcases g1 with g1 | ⟨o, g1⟩
    · refine .inl ⟨a, .dT es, r.x.sh _ _ g1, trivial, fun od => ?_⟩
      have eH : upd H a (.frz od (.dT es)) = LK a od es H := (sw_eq (r.x.sh _ _ g1)).symm
      rw [eH]
      have rk := rel_lk (o := od) r g1
      refine for_sd hg hb rk (fun R hR => keysT_sd rk.relE k1 (sw_at g1) R hR) ?_
      rw [ef]
      intro S' H' σ' e' r'
      have f1 : S' a = some (.frz od (.dT es)) := e' _ _ (sw_at g1)
      have f2 : H' a = some (.frz od (.dT es)) := r'.x.sh _ _ f1
      refine ⟨f2, ?_⟩
      have n0 : S0 a ≠ some (.frz od (.dT es)) := fun z => by have := r.x.s _ _ z; rw [g1] at this; cases this
      have n1 : H0 a ≠ some (.frz od (.dT es)) := fun z => by have := r.x.h _ _ z; rw [r.x.sh _ _ g1] at this; cases this
      have ru := rel_ul r' f1 n0 n1
      have eu : UL a od es H' = upd H' a (.dT es) := sw_eq f2
      rw [eu] at ru
      refine h (UL a od es S') _ σ' ?_ ru
      have := sw_same (a := a) (x := .frz od (.dT es)) (y := .dT es) e'
      rwa [sw_back (fun z => by rw [g1] at z; cases z)] at this
    · exact .inr (for_sd hg hb r (fun R hR => keysT_sd r.relE k1 g1 R hR) (by rw [ef]; exact h))
  | _ => rw [ef] at h; exact h.elim
end
end PDs
namespace PDs
open PySem PySem.Spec PyProof.Rows L2 PD
/-! ### xs.count(y) -/
section
variable {K : PySem.W.Frag} {mg : Str → Option Value} {X : Cx} {E : XK} {pos : Pos} {o e : Expr} {to te : TE} {fo f : DEnv → Res D}
def rCountD (K : PySem.W.Frag) : V → List V → Hp → VK → Prop := fun x xs H Q => ∃ (a : Addr) (y : V) (d : PyData) (ds : List PyData), x = V.ref a ∧ xs = [y] ∧ Dp K H (V.ref a) (.list ds) ∧ Dp K H y d ∧ PyData.plainAll ds = true ∧ d.plain = true ∧ d.depth ≤ 8 ∧
  Q (.int ((ds.countP fun z => PyData.eqv z d : Nat) : Int)) H
theorem mt_countD (hu : X.A.units + 65 < cLine) : MtR X "list.count" (rCountD X.K) := by
  intro pins s σ H x xs v us Q I rx rxs h
  obtain ⟨a, y, d, ds, rfl, rfl, hl, hy, sl, sd, dp, q⟩ := h
  cases rx
  cases rxs with
  | cons ry rt =>
    rename_i uy ut
    cases rt
    obtain ⟨bs, r1⟩ := Dp.reads I d y uy hy ry
    cases hl with
    | lst hs ha =>
      obtain ⟨its, rv, pl, hlen⟩ := I.list hs
      obtain ⟨as, h4⟩ := Dp.readsAll I ds _ its ha rv
      have h4' : ReadsAll s.heap its.toArray.toList ds as := by simpa using h4
      have := Nat.min_le_right (PyData.depthAll ds) d.depth
      exact SeqAt.count_list_data (prog := X.prog) pl.isList h4' r1 sl sd (by omega) ⟨.int ((ds.countP fun z => PyData.eqv z d : Nat) : Int), H, I.tok _, ⟨_, rfl⟩, q⟩
def gCount (ds : List D) (b : D) : Res D := if (SeqAt.shaped (.list ds) && SeqAt.shaped b && PyData.plainAll ds && b.plain && decide (b.depth ≤ 8)) = true then .ok (.int ((ds.countP fun z => PyData.eqv z b : Nat) : Int)) else .bad
theorem pd_count {apos : Pos} (hu : X.A.units + 65 < cLine) (ho : PD K mg X E o to fo) (he : PD K mg X E e te f)
    (hbase : attributeBase o "count" X.env (eval o X.env) = eval o X.env := by rfl)
    (hfew : ((backTo pos (starEach [e] X.env)).all (fun x => !x.1) && (backToKw pos (keywordEach [] X.env)).all (fun x => x.1.isSome) && decide ([e].length + ([] : List Keyword).length + (if ([] : List Keyword).isEmpty then 0 else 1) < 30)) = true := by rfl)
    (hline : (apos.endLine == pos.line) = true := by rfl) (hs : starEach [e] X.env = (false, eval e X.env) :: starEach [] X.env := by rfl) (hplain : (backTo pos (starEach [] X.env)).any (·.1) = false := by rfl) (hK : X.K = K := by rfl) :
    PD K mg X E (.Call (.Attribute o "count" apos) [e] [] pos) (tBM K "list" (rCountD K) to (tCons te tNil)) (fLM gCount fo f) :=
  ⟨hK ▸ pe_bm PySem.F.plainAttrs_list PySem.F.slot_list_count PySem.F.type_list_count (mt_countD hu) ho.pe (pa_cons he.pe pa_nil hs) hbase hfew hline hs hplain, fun S H σ ρ Q rl h => by
    have h : PostG mg E S H (DV K) ((fo ρ).bind fun d => (asList d).bind fun ds => (f ρ).bind fun b => gCount ds b) Q := by
      unfold fLM at h
      cases eo : fo ρ <;> (rw [eo] at h; exact h)
    refine ho.sd S H σ ρ _ rl (h.bind fun d v S1 H1 x1 d1 h1 => ?_)
    cases d with
    | list ds =>
      have d1' := d1
      rw [DV] at d1
      obtain ⟨a, us, rfl, g1, g2⟩ := d1
      refine ⟨.inl ⟨rfl, us, ls_sq (ls_mono x1.sh g1)⟩, ?_⟩
      have h1 : PostG mg E S1 H1 (DV K) ((f ρ).bind fun b => gCount ds b) Q := h1
      refine he.sd S1 H1 σ ρ _ (rl.mono x1) (h1.bind fun b w S2 H2 x2 d2 h2 => ?_)
      unfold gCount at h2
      split at h2
      · rename_i c
        obtain ⟨c, c5⟩ := and_split c
        obtain ⟨c, c4⟩ := and_split c
        obtain ⟨c, c3⟩ := and_split c
        obtain ⟨c1, c2⟩ := and_split c
        exact ⟨a, w, b, ds, rfl, rfl, dp_of x2.sh c1 (d1'.mono x2.s), dp_of x2.sh c2 d2, c3, c4, of_decide_eq_true c5, h2.ok0 x2.sh rfl⟩
      · exact h2.elim
    | _ => exact h1.elim⟩
/-! ### len(set(xs)), xs a list of ints -/
def rLenSet (w : World) : List V → Hp → VK → Prop := fun vs H Q => ∃ (a : Addr) (S : Int → Bool) (n : Nat), vs = [V.ref a] ∧ H a = some (SetO w a S n) ∧ ∀ ks : List Int, ks.Nodup → (∀ k, S k = true ↔ k ∈ ks) → Q (.int (ks.length : Nat)) H
theorem cr_lenSet : CallR X (.builtin "len") (rLenSet X.w) := by
  intro pins s σ H vs us Q I r h
  obtain ⟨a, S, n, rfl, ha, q⟩ := h
  rw [Vals.ref1 r]
  obtain ⟨o, es, ep, t, ho, hex, hd, _, nd, hm, hb, hf, hn, _⟩ := setO_get I ha
  have hl : (es.toList.map keyOf).length = es.size := by rw [List.length_map, Array.length_toList]
  have q' := q _ nd hm
  rw [hl] at q'
  unfold scanBound at hb
  exact call_len_set ho hex hd hf (by omega) ⟨.int ((es.size : Nat) : Int), H, I.tok _, ⟨_, rfl⟩, q'⟩
def gLenSet (d : D) : Res D := match d with
  | .list xs => match asIs xs with
    | some ns => if ns.length + 1 < 4096 then .ok (.int (((ddI ns).length : Nat) : Int)) else .bad
    | none => .bad
  | _ => .bad
theorem pd_lenSet {a : Expr} {ta : TE} {f : DEnv → Res D} {p p2 q pos : Pos} (hc : X.calm = true) (hg : Gl X "len") (hm : X.mg "len" = none) (hg2 : Gl X "set") (hm2 : X.mg "set" = none) (ha : PD K mg X E a ta f) (hK : X.K = K := by rfl)
    (na : starEach [a] X.env = (false, eval a X.env) :: starEach [] X.env := by rfl) : PD K mg X E (.Call (.Name "len" p) [.Call (.Name "set" p2) [a] [] q] [] pos) (tCB (rLenSet X.w) (tCons (tCB (rSetL K X.w) (tCons ta tNil)) tNil)) (fUn gLenSet f) := by
  subst hK
  refine ⟨pe_callB cr_lenSet hg hm bt_len (pa_cons (pe_callTy (cr_setL hc) hg2 hm2 bt_set (pa_cons ha.pe pa_nil na) (by decide) (by decide) na) pa_nil), fun S H σ ρ Q rl h => ?_⟩
  refine ha.sd S H σ ρ _ rl (h.bind fun d v S1 H1 x1 d1 h1 => ?_)
  show rSetL _ _ [v] H1 (fun x H1 => rLenSet X.w [x] H1 Q)
  unfold gLenSet at h1
  split at h1
  · rename_i ds
    split at h1
    · rename_i ns e
      split at h1
      · rename_i c1
        rw [DV] at d1
        obtain ⟨l, us, rfl, g1, g2⟩ := d1
        rw [asIs_dv e g2] at g1
        refine ⟨l, ns, rfl, ls_sq (ls_mono x1.sh g1), c1, fun p c hp hk => ?_⟩
        refine ⟨p, _, c, rfl, upd_same, fun ks k1 k2 => ?_⟩
        have x2 := Ext.new (o := SetO X.w p (fun j => decide (j ∈ ns)) c) x1.sh hp
        have hlen : ks.length = (ddI ns).length := by
          have m : ∀ k, k ∈ ks ↔ k ∈ ddI ns := fun k => by rw [← k2 k, mem_ddI]; simp
          exact Nat.le_antisymm (nd_len k1 fun k hk => (m k).mp hk) (nd_len (nodup_ddI ns) fun k hk => (m k).mpr hk)
        rw [hlen]
        exact (PostG.mono x2 h1).ok0 x2.sh rfl
      · exact h1.elim
    · exact h1.elim
  · exact h1.elim
/-! ### x, .. = {}, .. -/
def zE (g : DEnv → Res (List Slot)) : DEnv → Res (List Slot) := fun ρ => (g ρ).bind fun xs => .ok (.ownT [] :: xs)
theorem zd_dE {es : List Expr} {tr : TA} {g : DEnv → Res (List Slot)} (hr : ZD K mg X E es tr g) (hs : starEach (.Dict [] [] pos :: es) X.env = (false, eval (.Dict [] [] pos) X.env) :: starEach es X.env := by rfl) : ZD K mg X E (.Dict [] [] pos :: es) (tCons tDNewT tr) (zE g) := ⟨pa_cons pe_dnewT hr.pe hs, fun S H σ ρ Q rl h => by
  intro p hp
  have sm : Same H (upd H p (.dT [])) := same_upd hp
  have rl1 : RelE K S (upd H p (.dT [])) σ ρ := ⟨rl.sh.trans sm, rl.len, rl.dt, rl.rw⟩
  refine hr.sd S _ σ ρ _ rl1 ?_
  unfold zE at h
  cases e2 : g ρ with
  | err c => rw [e2] at h; exact fun u H' e sm' => h u H' e (sm.trans sm')
  | bad => rw [e2] at h; exact h
  | ok ss =>
    rw [e2] at h
    refine fun vs S2 H2 x2 d2 => h (.ref p :: vs) S2 H2 ⟨x2.s, sm.trans x2.h, x2.sh, fun a ha => x2.old a (ha.same sm)⟩ ⟨⟨p, rfl, ?_, hp, [], x2.h _ _ upd_same, rfl, trivial⟩, d2.weak sm, fun q e _ hq => ?_⟩
    · rw [x2.old p (Live.of upd_same (fun _ z => nomatch z))]
      exact rl.sh.free hp
    · cases e
      have := refs_lt d2 hq
      rw [upd_same] at this
      cases this⟩
end
end PDs
local macro_rules | `(tactic| walk_at "ev") => `(tactic| try simp -implicitDefEqProofs only [PD.startD, List.map_cons, List.map_nil, List.length_cons, List.length_nil, List.cons_append, List.nil_append, Nat.reduceAdd, Nat.reduceSub, List.replicate_succ, List.replicate_zero, PD.v_nil, PD.v_cons, PD.w_d, PD.w_un, PD.w_own, PD.w_raw, PD.x_isE0, PD.x_isES, PD.x_st, PD.s_ok, PD.x_lm, PD.x_asList, PD.y_bex, PD.y_bret, PD.y_bif, PD.x_via, PD.x_var0, PD.x_varS, PD.x_c, PD.x_bin, PD.x_un, PD.x_call1, PD.x_call2, PD.x_call3, PD.x_call0, PD.x_b, PD.x_nil, PD.x_cons, PD.x_test, PD.x_asB, PD.x_not, PD.x_and, PD.x_or, PD.x_andV, PD.x_orV, PD.x_notV, PD.x_if, PD.x_isi, PD.x_chain, PD.x_tup, PD.x_lst, PD.x_mkT0, PD.x_mkT1, PD.x_mkT2, PD.x_mkT3, PD.x_mkL0, PD.x_mkL1, PD.x_mkL2, PD.x_mkL3, PD.x_mkL4, PD.x_mkL5, PD.x_mkL6, PD.x_sl, PD.x_np, PD.x_pt, PD.x_asI, PD.g_slTa, PD.g_slTb, PD.g_addT12, PD.g_addT21, PD.g_addT31, PD.g_addL52, PD.g_addL72, PD.x_neg, PD.g_addL11, PD.g_addL21, PD.g_addL31, PD.g_addL32, PD.g_addL51, PD.g_addL41, PD.g_addL22, PD.bind_ok, PD.bind_err, PD.bind_bad, PD.y_next, PD.y_ret, PD.y_err, PD.y_ok, PD.y_er, PD.y_seq, PD.y_if, PD.y_nx, PD.y_rt, PD.y_ex, PD.y_rs, PD.y_as1, PD.y_asT3, PD.wp_nil, PD.wp_cons, PD.l_1, PD.l_2, PD.l_3, PD.l2_11, PD.x_seq, PD.x_asL, PD.x_asT, PD.x_rng, PD.x_zipL, PD.x_zipT, PD.g_tupL, PD.g_tupT, PD.g_listL, PD.g_listT, PD.y_fn, PD.y_t1, PD.y_t2, PD.y_t3, PD.set0, PD.setS', PD.eq_int, PD.ne_int, PD.g_lt, PD.g_le, PD.g_gt, PD.g_ge, PD.g_sub, PD.g_add, PD.g_lenL, PD.g_lenT, PD.g_ix30, PD.g_ix31, PD.g_ix32, PD.isi_TT, PD.isi_TL, PD.isi_LL, PD.isi_SS, PD.is_TF, PD.is_FF, reduceIte, Bool.false_eq_true, Bool.not_true, Bool.not_false, Int.cast_ofNat_Int, beq_self_eq_true, Int.reduceBEq, decide_true, decide_false])
local macro_rules | `(tactic| simp_arith [$xs,*]) => `(tactic| simp -implicitDefEqProofs only [$xs,*, PD.startD, List.map_cons, List.map_nil, List.length_cons, List.length_nil, List.cons_append, List.nil_append, Nat.reduceAdd, Nat.reduceSub, List.replicate_succ, List.replicate_zero, PD.v_nil, PD.v_cons, PD.w_d, PD.w_un, PD.w_own, PD.w_raw, PD.x_isE0, PD.x_isES, PD.x_st, PD.s_ok, PD.x_lm, PD.x_asList, PD.y_bex, PD.y_bret, PD.y_bif, PD.x_via, PD.x_var0, PD.x_varS, PD.x_c, PD.x_bin, PD.x_un, PD.x_call1, PD.x_call2, PD.x_call3, PD.x_call0, PD.x_b, PD.x_nil, PD.x_cons, PD.x_test, PD.x_asB, PD.x_not, PD.x_and, PD.x_or, PD.x_andV, PD.x_orV, PD.x_notV, PD.x_if, PD.x_isi, PD.x_chain, PD.x_tup, PD.x_lst, PD.x_mkT0, PD.x_mkT1, PD.x_mkT2, PD.x_mkT3, PD.x_mkL0, PD.x_mkL1, PD.x_mkL2, PD.x_mkL3, PD.x_mkL4, PD.x_mkL5, PD.x_mkL6, PD.x_sl, PD.x_np, PD.x_pt, PD.x_asI, PD.g_slTa, PD.g_slTb, PD.g_addT12, PD.g_addT21, PD.g_addT31, PD.g_addL52, PD.g_addL72, PD.x_neg, PD.g_addL11, PD.g_addL21, PD.g_addL31, PD.g_addL32, PD.g_addL51, PD.g_addL41, PD.g_addL22, PD.bind_ok, PD.bind_err, PD.bind_bad, PD.y_next, PD.y_ret, PD.y_err, PD.y_ok, PD.y_er, PD.y_seq, PD.y_if, PD.y_nx, PD.y_rt, PD.y_ex, PD.y_rs, PD.y_as1, PD.y_asT3, PD.wp_nil, PD.wp_cons, PD.l_1, PD.l_2, PD.l_3, PD.l2_11, PD.x_seq, PD.x_asL, PD.x_asT, PD.x_rng, PD.x_zipL, PD.x_zipT, PD.g_tupL, PD.g_tupT, PD.g_listL, PD.g_listT, PD.y_fn, PD.y_t1, PD.y_t2, PD.y_t3, PD.set0, PD.setS', PD.eq_int, PD.ne_int, PD.g_lt, PD.g_le, PD.g_gt, PD.g_ge, PD.g_sub, PD.g_add, PD.g_lenL, PD.g_lenT, PD.g_ix30, PD.g_ix31, PD.g_ix32, PD.isi_TT, PD.isi_TL, PD.isi_LL, PD.isi_SS, PD.is_TF, PD.is_FF, reduceIte, Bool.false_eq_true, Bool.not_true, Bool.not_false, Int.cast_ofNat_Int, beq_self_eq_true, Int.reduceBEq, decide_true, decide_false])
namespace Lw
open PySem L2 PD PDs
-- is_int: 0 value, 1 least, 2 most
def B_is_int : DEnv → SR := sRet (fAndV (fIsi "int" (fVar 0)) (fAndV (fNotV (fIsi "bool" (fVar 0))) (fChain gLe gLe (fVar 1) (fVar 0) (fVar 2))))
def F_is_int : List D → Res D := fnF 3 B_is_int
-- is_wheel: 0 value, 1 least, 2 most, 3 step
def B_is_wheel : DEnv → SR := sSeq (sIf (fOr (fNot (fTest (fIsi "tuple" (fVar 0)))) (fOr (fTest (fBin gNe (fB gLen (fCons (fVar 0) fNil)) (fC (.int 3)))) (fNot (fTest (fCall 3 F_is_int (fCons (fBin gIx (fVar 0) (fC (.int 0))) (fCons (fC (.int 0)) (fCons (fC (.int 40)) fNil)))))))) (sRet (fC (.bool false))) sNext) (sSeq (sAsg (fVar 0) [1, 2, 3] (hTup 3)) (sSeq (sIf (fOr (fNot (fTest (fCall 3 F_is_int (fCons (fVar 2) (fCons (fVar 1) (fCons (fC (.int 60)) fNil)))))) (fNot (fTest (fCall 3 F_is_int (fCons (fVar 3) (fCons (fC (.int 1)) (fCons (fC (.int 3)) fNil))))))) (sRet (fC (.bool false))) sNext) (sRet (fBin gLe (fBin gAdd (fBin gDiv (fBin gSub (fVar 2) (fVar 1)) (fVar 3)) (fC (.int 1))) (fC (.int 13))))))
def F_is_wheel : List D → Res D := fnF 4 B_is_wheel
-- is_camera: 0 candidate, 1 wheel
def B_is_camera : DEnv → SR := sSeq (sIf (fOr (fNot (fTest (fIsi "tuple" (fVar 0)))) (fTest (fBin gNe (fB gLen (fCons (fVar 0) fNil)) (fB gLen (fCons (fC (.tuple [(.str "aperture"), (.str "time"), (.str "sensitivity")])) fNil))))) (sRet (fC (.bool false))) sNext) (sRet (fB gAll (fCons (fLc (fSeq (fVar 0)) [1] [1] hOne fYes (fCall 1 F_is_wheel (fCons (fVar 1) fNil))) fNil)))
def F_is_camera : List D → Res D := fnF 2 B_is_camera
-- wheel_values: 0 wheel, 1 least, 2 most, 3 step
def B_wheel_values : DEnv → SR := sSeq (sAsg (fVar 0) [1, 2, 3] (hTup 3)) (sRet (fB gLR3 (fCons (fVar 1) (fCons (fBin gAdd (fVar 2) (fC (.int 1))) (fCons (fVar 3) fNil)))))
def F_wheel_values : List D → Res D := fnF 4 B_wheel_values
-- has_setting: 0 camera, 1 candidate, 2 known, 3 value, 4 wheel
def B_has_setting : DEnv → SR := sSeq (sIf (fOr (fNot (fTest (fIsi "tuple" (fVar 1)))) (fTest (fBin gNe (fB gLen (fCons (fVar 1) fNil)) (fB gLen (fCons (fC (.tuple [(.str "aperture"), (.str "time"), (.str "sensitivity")])) fNil))))) (sRet (fC (.bool false))) sNext) (sSeq (sAsg (fLc (fRng gZip (fCons (fVar 1) (fCons (fVar 0) fNil))) [3, 4] [3, 4] (hTup 2) fYes (fAndV (fCall 3 F_is_int (fCons (fVar 3) (fCons (fC (.int 0)) (fCons (fC (.int 60)) fNil)))) (fBin (gIn false) (fVar 3) (fCall 1 F_wheel_values (fCons (fVar 4) fNil))))) [2] hOne) (sRet (fB gAll (fCons (fVar 2) fNil))))
def F_has_setting : List D → Res D := fnF 5 B_has_setting
-- check_camera: 0 value
def B_check_camera : DEnv → SR := sIf (fNot (fTest (fCall 1 F_is_camera (fCons (fVar 0) fNil)))) (sRaise "InvalidCamera") sNext
def F_check_camera : List D → Res D := fnF 1 B_check_camera
-- check_setting: 0 camera, 1 value
def B_check_setting : DEnv → SR := sIf (fNot (fTest (fCall 2 F_has_setting (fCons (fVar 0) (fCons (fVar 1) fNil))))) (sRaise "InvalidSetting") sNext
def F_check_setting : List D → Res D := fnF 2 B_check_setting
-- check_light: 0 value
def B_check_light : DEnv → SR := sIf (fNot (fTest (fCall 3 F_is_int (fCons (fVar 0) (fCons (fC (.int (-60))) (fCons (fC (.int 120)) fNil)))))) (sRaise "InvalidBrightness") sNext
def F_check_light : List D → Res D := fnF 1 B_check_light
-- all_settings: 0 camera, 1 found, 2 wheel, 3 begun, 4 value
abbrev L_all_settings_0 : DEnv → SR := sAsg (fLc2 (fSeq (fVar 1)) [3, 4] [3] hOne fYes (fSeq (fCall 1 F_wheel_values (fCons (fVar 2) fNil))) [4] [4] hOne fYes (fBin gAdd (fVar 3) (fTup (fCons (fVar 4) fNil)))) [1] hOne
def B_all_settings : DEnv → SR := sSeq (sAsg (fLst (fCons (fTup fNil) fNil)) [1] hOne) (sSeq (sFor (fSeq (fVar 0)) [2] hOne L_all_settings_0) (sRet (fVar 1)))
def F_all_settings : List D → Res D := fnF 5 B_all_settings
-- find_exposure: 0 setting
def B_find_exposure : DEnv → SR := sRet (fBin gSub (fBin gAdd (fBin gIx (fVar 0) (fC (.int 0))) (fBin gIx (fVar 0) (fC (.int 1)))) (fBin gIx (fVar 0) (fC (.int 2))))
def F_find_exposure : List D → Res D := fnF 1 B_find_exposure
-- find_right: 0 camera, 1 brightness, 2 setting
def B_find_right : DEnv → SR := sRet (fLc (fSeq (fCall 1 F_all_settings (fCons (fVar 0) fNil))) [2] [2] hOne (fTest (fBin gEq (fCall 1 F_find_exposure (fCons (fVar 2) fNil)) (fVar 1))) (fVar 2))
def F_find_right : List D → Res D := fnF 3 B_find_right
-- check_both: 0 camera, 1 brightness
def B_check_both : DEnv → SR := sSeq (sExpr (fCall 1 F_check_camera (fCons (fVar 0) fNil))) (sExpr (fCall 1 F_check_light (fCons (fVar 1) fNil)))
def F_check_both : List D → Res D := fnF 2 B_check_both
-- count_changed: 0 one, 1 other, 2 left, 3 right
def B_count_changed : DEnv → SR := sRet (fB gLen (fCons (fLc (fRng gZip (fCons (fVar 0) (fCons (fVar 1) fNil))) [2, 3] [2, 3] (hTup 2) (fTest (fBin gNe (fVar 2) (fVar 3))) (fC (.int 1))) fNil))
def F_count_changed : List D → Res D := fnF 4 B_count_changed
-- find_shifts: 0 known, 1 setting, 2 other
def B_find_shifts : DEnv → SR := sRet (fLc (fSeq (fVar 0)) [2] [2] hOne (fTest (fBin gEq (fCall 2 F_count_changed (fCons (fVar 1) (fCons (fVar 2) fNil))) (fC (.int 2)))) (fVar 2))
def F_find_shifts : List D → Res D := fnF 3 B_find_shifts
-- shifts: 0 camera, 1 setting
def B_shifts : DEnv → SR := sSeq (sExpr (fCall 1 F_check_camera (fCons (fVar 0) fNil))) (sSeq (sExpr (fCall 2 F_check_setting (fCons (fVar 0) (fCons (fVar 1) fNil)))) (sRet (fCall 2 F_find_shifts (fCons (fCall 2 F_find_right (fCons (fVar 0) (fCons (fCall 1 F_find_exposure (fCons (fVar 1) fNil)) fNil))) (fCons (fVar 1) fNil)))))
def F_shifts : List D → Res D := fnF 2 B_shifts
-- spread: 0 known, 1 start, 2 found, 3 last, 4 later, 5 setting, 6 other
abbrev L_spread_0 : DEnv → SR := sIfO (gOin true 2 (fVar 6)) (sSeq (sDput 2 (fBin gAdd (fOget 2 (fVar 5)) (fC (.int 1))) (fVar 6)) (sApp (fVar 6) 4)) sNext
abbrev L_spread_1 : DEnv → SR := sFor (fSeq (fCall 2 F_find_shifts (fCons (fVar 0) (fCons (fVar 5) fNil)))) [6] hOne L_spread_0
abbrev L_spread_2 : DEnv → SR := sSeq (sOwnL fNil 4) (sSeq (sFor (fSeq (fVar 3)) [5] hOne L_spread_1) (sFrz [4] (sAsg (fVar 4) [3] hOne)))
def B_spread : DEnv → SR := sSeq (sPar (zT (fVar 1) (fC (.int 0)) (zD (fLst (fCons (fVar 1) fNil)) zNil)) [2, 3]) (sSeq (whileGo (fTest (fBin gNe (fVar 3) (fLst fNil))) L_spread_2 100000) (sFrz [2] (sRet (fVar 2))))
def F_spread : List D → Res D := fnF 7 B_spread
-- fewest_shifts: 0 camera, 1 one, 2 other
def B_fewest_shifts : DEnv → SR := sSeq (sExpr (fCall 1 F_check_camera (fCons (fVar 0) fNil))) (sSeq (sExpr (fCall 2 F_check_setting (fCons (fVar 0) (fCons (fVar 1) fNil)))) (sSeq (sExpr (fCall 2 F_check_setting (fCons (fVar 0) (fCons (fVar 2) fNil)))) (sRet (fSget1 (fCall 2 F_spread (fCons (fCall 2 F_find_right (fCons (fVar 0) (fCons (fCall 1 F_find_exposure (fCons (fVar 1) fNil)) fNil))) (fCons (fVar 1) fNil))) (fVar 2)))))
def F_fewest_shifts : List D → Res D := fnF 3 B_fewest_shifts
-- shift_groups: 0 camera, 1 brightness, 2 known, 3 found, 4 seen, 5 setting, 6 group, 7 other
abbrev L_shift_groups_0 : DEnv → SR := sDput 4 (fC (.bool true)) (fVar 7)
abbrev L_shift_groups_1 : DEnv → SR := sIfO (gOin true 4 (fVar 5)) (sSeq (sAsg (fCall 2 F_spread (fCons (fVar 2) (fCons (fVar 5) fNil))) [6] hOne) (sSeq (sApp (fB gTupOf (fCons (fB gSortKT (fCons (fVar 6) fNil)) fNil)) 3) (sForK 6 [7] hOne L_shift_groups_0))) sNext
def B_shift_groups : DEnv → SR := sSeq (sExpr (fCall 2 F_check_both (fCons (fVar 0) (fCons (fVar 1) fNil)))) (sSeq (sPar (zD (fCall 2 F_find_right (fCons (fVar 0) (fCons (fVar 1) fNil))) (zL fNil (zE zNil))) [2, 3, 4]) (sSeq (sFor (fSeq (fVar 2)) [5] hOne L_shift_groups_1) (sFrz [3] (sRet (fB gSortD (fCons (fVar 3) fNil))))))
def F_shift_groups : List D → Res D := fnF 8 B_shift_groups
-- _law_pick: 0 script, 1 k, 2 many, 3 cell, 4 rest, 5 again, 6 drawn
abbrev L_law_pick_0 : DEnv → SR := sPar (zD (fBin gDiv (fVar 4) (fC (.int 840))) (zD (fBin gSub (fVar 5) (fC (.int 1))) zNil)) [4, 5]
def B_law_pick : DEnv → SR := sSeq (sAsg (fIf (fTest (fBin gNe (fVar 0) (fLst fNil))) (fBin gIx (fVar 0) (fBin gMod (fVar 1) (fB gLen (fCons (fVar 0) fNil)))) (fC (.int 0))) [3] hOne) (sSeq (sPar (zD (fBin gDiv (fVar 3) (fBin gPow (fC (.int 10)) (fC (.int 18)))) (zD (fBin gDiv (fVar 1) (fB gMax2 (fCons (fB gLen (fCons (fVar 0) fNil)) (fCons (fC (.int 1)) fNil)))) zNil)) [4, 5]) (sSeq (whileGo (fAnd (fTest (fBin gGt (fVar 4) (fC (.int 0)))) (fTest (fBin gGt (fVar 5) (fC (.int 0))))) L_law_pick_0 100000) (sSeq (sIf (fTest (fBin gGt (fVar 4) (fC (.int 0)))) (sRet (fBin gMod (fBin gMod (fVar 4) (fC (.int 840))) (fVar 2))) sNext) (sSeq (sAsg (fBin gMod (fBin gMulI (fBin gAdd (fBin gMulI (fVar 3) (fC (.int 31))) (fBin gMulI (fC (.int 6151)) (fBin gAdd (fVar 1) (fC (.int 1))))) (fC (.int 40692))) (fC (.int 2147483399))) [6] hOne) (sRet (fBin gMod (fBin gMod (fBin gAdd (fBin gMulI (fVar 6) (fVar 6)) (fBin gDiv (fVar 6) (fC (.int 31)))) (fC (.int 2147483629))) (fVar 2)))))))
def F_law_pick : List D → Res D := fnF 7 B_law_pick
-- _law_box: 0 script, 1 at, 2 most, 3 found, 4 k, 5 least, 6 step, 7 many, 8 rest
abbrev L_law_box_0 : DEnv → SR := sSeq (sPar (zD (fCall 3 F_law_pick (fCons (fVar 0) (fCons (fBin gAdd (fVar 1) (fBin gMulI (fC (.int 4)) (fVar 4))) (fCons (fC (.int 23)) fNil)))) (zD (fBin gAdd (fC (.int 1)) (fCall 3 F_law_pick (fCons (fVar 0) (fCons (fBin gAdd (fBin gAdd (fVar 1) (fBin gMulI (fC (.int 4)) (fVar 4))) (fC (.int 1))) (fCons (fC (.int 3)) fNil))))) zNil)) [5, 6]) (sSeq (sAsg (fCall 3 F_law_pick (fCons (fVar 0) (fCons (fBin gAdd (fBin gAdd (fVar 1) (fBin gMulI (fC (.int 4)) (fVar 4))) (fC (.int 2))) (fCons (fVar 2) fNil)))) [7] hOne) (sSeq (sAsg (fCall 3 F_law_pick (fCons (fVar 0) (fCons (fBin gAdd (fBin gAdd (fVar 1) (fBin gMulI (fC (.int 4)) (fVar 4))) (fC (.int 3))) (fCons (fVar 6) fNil)))) [8] hOne) (sApp (fTup (fCons (fVar 5) (fCons (fBin gAdd (fBin gAdd (fVar 5) (fBin gMulI (fVar 6) (fVar 7))) (fVar 8)) (fCons (fVar 6) fNil)))) 3)))
def B_law_box : DEnv → SR := sSeq (sOwnL fNil 3) (sSeq (sFor (fRng gRng1 (fCons (fC (.int 3)) fNil)) [4] hOne L_law_box_0) (sFrz [3] (sRet (fB gTupOf (fCons (fVar 3) fNil)))))
def F_law_box : List D → Res D := fnF 9 B_law_box
-- _law_every: 0 box, 1 found, 2 least, 3 most, 4 step, 5 longer, 6 begun, 7 k
abbrev L_law_every_0 : DEnv → SR := sExt (fLc (fRng gRng1 (fCons (fBin gAdd (fBin gSub (fVar 3) (fVar 2)) (fC (.int 1))) fNil)) [7] [7] hOne (fTest (fBin gEq (fBin gMod (fVar 7) (fVar 4)) (fC (.int 0)))) (fBin gAdd (fVar 6) (fTup (fCons (fBin gAdd (fVar 2) (fVar 7)) fNil)))) 5
abbrev L_law_every_1 : DEnv → SR := sSeq (sOwnL fNil 5) (sSeq (sFor (fSeq (fVar 1)) [6] hOne L_law_every_0) (sFrz [5] (sAsg (fVar 5) [1] hOne)))
def B_law_every : DEnv → SR := sSeq (sAsg (fLst (fCons (fTup fNil) fNil)) [1] hOne) (sSeq (sFor (fSeq (fVar 0)) [2, 3, 4] (hTup 3) L_law_every_1) (sRet (fVar 1)))
def F_law_every : List D → Res D := fnF 8 B_law_every
-- _law_number: 0 one
def B_law_number : DEnv → SR := sRet (fBin gSub (fBin gAdd (fBin gIx (fVar 0) (fC (.int 0))) (fBin gIx (fVar 0) (fC (.int 1)))) (fBin gIx (fVar 0) (fC (.int 2))))
def F_law_number : List D → Res D := fnF 1 B_law_number
-- _law_light: 0 script, 1 at, 2 box, 3 every, 4 one
def B_law_light : DEnv → SR := sSeq (sAsg (fCall 1 F_law_every (fCons (fVar 2) fNil)) [3] hOne) (sSeq (sAsg (fBin gIx (fVar 3) (fCall 3 F_law_pick (fCons (fVar 0) (fCons (fVar 1) (fCons (fB gLen (fCons (fVar 3) fNil)) fNil))))) [4] hOne) (sRet (fBin gAdd (fCall 1 F_law_number (fCons (fVar 4) fNil)) (fBin gIx (fTup (fCons (fC (.int 0)) (fCons (fC (.int 0)) (fCons (fC (.int 0)) (fCons (fC (.int 1)) (fCons (fUn gNeg (fC (.int 1))) (fCons (fC (.int 9)) fNil))))))) (fCall 3 F_law_pick (fCons (fVar 0) (fCons (fBin gAdd (fVar 1) (fC (.int 1))) (fCons (fC (.int 6)) fNil))))))))
def F_law_light : List D → Res D := fnF 5 B_law_light
-- _law_reached: 0 near, 1 one, 2 found, 3 level, 4 longer, 5 some, 6 other
abbrev L_law_reached_0 : DEnv → SR := sIfO (gOin true 2 (fVar 6)) (sSeq (sDput 2 (fBin gAdd (fOget 2 (fVar 5)) (fC (.int 1))) (fVar 6)) (sApp (fVar 6) 4)) sNext
abbrev L_law_reached_1 : DEnv → SR := sFor (fSeq (fBin gSix (fVar 0) (fVar 5))) [6] hOne L_law_reached_0
abbrev L_law_reached_2 : DEnv → SR := sSeq (sOwnL fNil 4) (sSeq (sFor (fSeq (fVar 3)) [5] hOne L_law_reached_1) (sFrz [4] (sAsg (fVar 4) [3] hOne)))
def B_law_reached : DEnv → SR := sSeq (sPar (zT (fVar 1) (fC (.int 0)) (zD (fLst (fCons (fVar 1) fNil)) zNil)) [2, 3]) (sSeq (whileGo (fTest (fBin gNe (fVar 3) (fLst fNil))) L_law_reached_2 100000) (sFrz [2] (sRet (fVar 2))))
def F_law_reached : List D → Res D := fnF 7 B_law_reached
-- law: 0 script, 1 i, 2 box, 3 same, 4 every, 5 light, 6 good, 7 near, 8 one, 9 groups, 10 found, 11 some, 12 least, 13 most, 14 step, 15 other, 16 a, 17 b
abbrev L_law_0 : DEnv → SR := sSeq (sDput 7 (fLc (fSeq (fVar 6)) [15] [15] hOne (fTest (fBin gEq (fLM gCount (fLc (fRng gZip (fCons (fVar 8) (fCons (fVar 15) fNil))) [16, 17] [16, 17] (hTup 2) fYes (fBin gEq (fVar 16) (fVar 17))) (fC (.bool false))) (fC (.int 2)))) (fVar 15)) (fVar 8)) (sIf (fTest (fBin gNe (fCall 2 F_shifts (fCons (fVar 2) (fCons (fVar 8) fNil))) (fBin gSix (fVar 7) (fVar 8)))) (sRet (fC (.bool false))) sNext)
abbrev L_law_1 : DEnv → SR := sSeq (sFrz [7] (sAsg (fCall 2 F_law_reached (fCons (fVar 7) (fCons (fVar 8) fNil))) [10] hOne)) (sSeq (sAsg (fIf (fTest (fBin (gIn false) (fVar 8) (fSl gSl (fVar 6) fNoPart (fPart (fC (.int 2)))))) (fVar 6) (fSl gSl (fVar 6) (fPart (fUn gNeg (fC (.int 1)))) fNoPart)) [11] hOne) (sSeq (sIf (fTest (fBin gNe (fLc (fSeq (fVar 11)) [15] [15] hOne fYes (fCall 3 F_fewest_shifts (fCons (fVar 2) (fCons (fVar 8) (fCons (fVar 15) fNil))))) (fLc (fSeq (fVar 11)) [15] [15] hOne fYes (fSget1 (fVar 10) (fVar 15))))) (sRet (fC (.bool false))) sNext) (sSeq (sIf (fAnd (fTest (fBin gEq (fUn gLenSet (fLc (fSeq (fVar 2)) [12, 13, 14] [12, 13, 14] (hTup 3) fYes (fVar 14))) (fC (.int 1)))) (fTest (fBin gGt (fB gMaxL (fCons (fLc (fSeq (fVar 6)) [15] [15] hOne fYes (fSget2 (fVar 10) (fVar 15) (fC (.int 9)))) fNil)) (fC (.int 2))))) (sRet (fC (.bool false))) sNext) (sApp (fB gTupOf (fCons (fB gSortKT (fCons (fVar 10) fNil)) fNil)) 9))))
abbrev L_law_2 : DEnv → SR := sSeq (sAsg (fCall 3 F_law_box (fCons (fVar 0) (fCons (fBin gMulI (fC (.int 40)) (fVar 1)) (fCons (fC (.int 5)) fNil)))) [2] hOne) (sSeq (sIf (fTest (fBin gEq (fVar 1) (fC (.int 2)))) (sSeq (sAsg (fBin gIx (fBin gIx (fVar 2) (fC (.int 0))) (fC (.int 2))) [3] hOne) (sAsg (fB gTupOf (fCons (fLc (fSeq (fVar 2)) [12, 13, 14] [12, 13, 14] (hTup 3) fYes (fTup (fCons (fVar 12) (fCons (fBin gAdd (fVar 12) (fBin gMod (fBin gSub (fVar 13) (fVar 12)) (fC (.int 5)))) (fCons (fVar 3) fNil))))) fNil)) [2] hOne)) sNext) (sSeq (sAsg (fCall 1 F_law_every (fCons (fVar 2) fNil)) [4] hOne) (sSeq (sAsg (fCall 3 F_law_light (fCons (fVar 0) (fCons (fBin gAdd (fBin gMulI (fC (.int 40)) (fVar 1)) (fC (.int 13))) (fCons (fVar 2) fNil)))) [5] hOne) (sSeq (sAsg (fLc (fSeq (fVar 4)) [8] [8] hOne (fTest (fBin gEq (fCall 1 F_law_number (fCons (fVar 8) fNil)) (fVar 5))) (fVar 8)) [6] hOne) (sSeq (sOwnD true 7) (sSeq (sFor (fSeq (fVar 6)) [8] hOne L_law_0) (sSeq (sOwnL fNil 9) (sSeq (sFor (fSeq (fVar 6)) [8] hOne L_law_1) (sSeq (sIf (fTest (fBin gNe (fCall 2 F_shift_groups (fCons (fVar 2) (fCons (fVar 5) fNil))) (fUn gSortSetD (fVar 9)))) (sRet (fC (.bool false))) sNext) (sIf (fAnd (fTest (fBin (gIn true) (fBin gIx (fVar 4) (fC (.int 0))) (fVar 6))) (fAnd (fTest (fBin gNe (fVar 6) (fLst fNil))) (fTest (fBin (gIs true) (fCall 3 F_fewest_shifts (fCons (fVar 2) (fCons (fBin gIx (fVar 6) (fC (.int 0))) (fCons (fBin gIx (fVar 4) (fC (.int 0))) fNil)))) (fC .none))))) (sRet (fC (.bool false))) sNext))))))))))
def B_law : DEnv → SR := sSeq (sFor (fRng gRng1 (fCons (fC (.int 3)) fNil)) [1] hOne L_law_2) (sRet (fBin gEq (fCall 2 F_shifts (fCons (fTup (fCons (fTup (fCons (fC (.int 9)) (fCons (fC (.int 15)) (fCons (fC (.int 3)) fNil)))) (fCons (fTup (fCons (fC (.int 12)) (fCons (fC (.int 14)) (fCons (fC (.int 1)) fNil)))) (fCons (fTup (fCons (fC (.int 0)) (fCons (fC (.int 6)) (fCons (fC (.int 3)) fNil)))) fNil)))) (fCons (fTup (fCons (fC (.int 9)) (fCons (fC (.int 12)) (fCons (fC (.int 0)) fNil)))) fNil))) (fLst (fCons (fTup (fCons (fC (.int 12)) (fCons (fC (.int 12)) (fCons (fC (.int 3)) fNil)))) (fCons (fTup (fCons (fC (.int 15)) (fCons (fC (.int 12)) (fCons (fC (.int 6)) fNil)))) fNil)))))
def F_law : List D → Res D := fnF 18 B_law
end Lw
namespace Lw
open PySem L2 PD PDs
def isIntD (d : D) (lo hi : Int) : Bool := match d with
  | .int i => decide (lo ≤ i) && decide (i ≤ hi)
  | _ => false
theorem is_int_eq (d : D) (lo hi : Int) : F_is_int [d, .int lo, .int hi] = .ok (.bool (isIntD d lo hi)) := by
  cases d with
  | int i =>
    show toRes (ofRes ((Res.ok (decide (lo ≤ i))).bind fun k => if k = true then (Res.ok (.bool (decide (i ≤ hi)))) else .ok (.bool false)) fun d => .ret d) = .ok (.bool (decide (lo ≤ i) && decide (i ≤ hi)))
    cases decide (lo ≤ i) <;> rfl
  | _ => rfl
theorem isIntD_int (i lo hi : Int) : isIntD (.int i) lo hi = (decide (lo ≤ i) && decide (i ≤ hi)) := rfl
structure GoodW (l m s : Int) : Prop where
  l0 : 0 ≤ l
  l1 : l ≤ 40
  m0 : l ≤ m
  m1 : m ≤ 60
  s0 : 1 ≤ s
  s1 : s ≤ 3
  n : (m - l) / s + 1 ≤ 13
abbrev wD (l m s : Int) : D := .tuple [.int l, .int m, .int s]
theorem is_wheel_good {l m s : Int} (g : GoodW l m s) : F_is_wheel [wD l m s] = .ok (.bool true) := by
  unfold F_is_wheel B_is_wheel
  have h1 : isIntD (.int l) 0 40 = true := by rw [isIntD_int]; simp [g.l0, g.l1]
  have h2 : isIntD (.int m) l 60 = true := by rw [isIntD_int]; simp [g.m0, g.m1]
  have h3 : isIntD (.int s) 1 3 = true := by rw [isIntD_int]; simp [g.s0, g.s1]
  have h4 : divOk (m - l) s = true := by
    have := g.s0
    have := g.s1
    unfold divOk
    simp only [Bool.and_eq_true, decide_eq_true_eq]
    omega
  walk_at "ev"
  simp only [is_int_eq, h1]
  walk_at "ev"
  simp only [is_int_eq, h2, h3]
  walk_at "ev"
  simp only [g_div h4]
  walk_at "ev"
  simp only [decide_eq_true g.n]

abbrev camD (w1 w2 w3 : D) : D := .tuple [w1, w2, w3]
theorem is_camera_of {w1 w2 w3 : D} {b1 b2 b3 : Bool} (h1 : F_is_wheel [w1] = .ok (.bool b1)) (h2 : F_is_wheel [w2] = .ok (.bool b2)) (h3 : F_is_wheel [w3] = .ok (.bool b3)) : F_is_camera [camD w1 w2 w3] = .ok (.bool (b1 && (b2 && b3))) := by
  unfold F_is_camera B_is_camera
  have e : fLc (fSeq (fVar 0)) [1] [1] hOne fYes (fCall 1 F_is_wheel (fCons (fVar 1) fNil)) [.d (camD w1 w2 w3), .un] = .ok (.list [.bool b1, .bool b2, .bool b3]) := by
    refine x_lc (ds := [w1, w2, w3]) rfl ?_ (by show 3 < 1000000; decide)
    unfold lcGo lcGo lcGo lcGo
    walk_at "ev"
    simp only [h1, h2, h3]
    rfl
  walk_at "ev"
  rw [e]
  walk_at "ev"
  show toRes (ofRes (Res.ok (PyData.bool ([b1, b2, b3].all id))) _) = _
  cases b1 <;> cases b2 <;> cases b3 <;> rfl
structure Cam where
  l1 : Int
  m1 : Int
  s1 : Int
  l2 : Int
  m2 : Int
  s2 : Int
  l3 : Int
  m3 : Int
  s3 : Int
structure GoodC (c : Cam) : Prop where
  w1 : GoodW c.l1 c.m1 c.s1
  w2 : GoodW c.l2 c.m2 c.s2
  w3 : GoodW c.l3 c.m3 c.s3
abbrev cD (c : Cam) : D := .tuple [wD c.l1 c.m1 c.s1, wD c.l2 c.m2 c.s2, wD c.l3 c.m3 c.s3]
theorem is_camera_good {c : Cam} (g : GoodC c) : F_is_camera [cD c] = .ok (.bool true) := is_camera_of (is_wheel_good g.w1) (is_wheel_good g.w2) (is_wheel_good g.w3)
theorem check_camera_good {c : Cam} (g : GoodC c) : F_check_camera [cD c] = .ok .none := by
  unfold F_check_camera B_check_camera
  walk_at "ev"
  simp only [is_camera_good g]
  walk_at "ev"
/-- the values of a wheel -/
def wv (l m s : Int) : List Int := (List.range (rngN l (m + 1) s)).map fun (i : Nat) => l + (i : Int) * s
abbrev iL (ns : List Int) : List D := ns.map PyData.int
theorem wv_D (l m s : Int) : rngS l s (rngN l (m + 1) s) = iL (wv l m s) := by
  unfold rngS iL wv
  rw [List.map_map]
  rfl
theorem wheel_values_good {l m s : Int} (g : GoodW l m s) : F_wheel_values [wD l m s] = .ok (.list (iL (wv l m s))) := by
  have h : rng3Ok l (m + 1) s = true := by
    unfold rng3Ok
    have := g.l0
    have := g.l1
    have := g.m0
    have := g.m1
    have := g.s0
    have := g.s1
    simp only [Bool.and_eq_true, decide_eq_true_eq]
    omega
  unfold F_wheel_values B_wheel_values
  walk_at "ev"
  unfold gLR3
  dsimp only
  rw [if_pos h, wv_D]
  rfl
theorem wv_len {l m s : Int} (g : GoodW l m s) : (wv l m s).length ≤ 13 := by
  unfold wv
  rw [List.length_map, List.length_range]
  unfold rngN
  have := g.m0
  have := g.n
  have := g.s0
  rw [if_pos (by omega), show m + 1 - l - 1 = m - l by omega]
  omega
/-- a value: from least to most, in steps -/
theorem mem_wv {l m s x : Int} (h : l ≤ m) (hs : 0 < s) : x ∈ wv l m s ↔ l ≤ x ∧ x ≤ m ∧ (x - l) % s = 0 := by
  unfold wv rngN
  rw [if_pos (by omega), show m + 1 - l - 1 = m - l by omega]
  have hd : 0 ≤ (m - l) / s := Int.ediv_nonneg (by omega) (by omega)
  have e1 := Int.mul_ediv_add_emod (m - l) s
  have e2 := Int.emod_nonneg (m - l) (show s ≠ 0 by omega)
  have e3 := Int.emod_lt_of_pos (m - l) hs
  simp only [List.mem_map, List.mem_range]
  constructor
  · rintro ⟨i, hi, rfl⟩
    have hi' : (i : Int) ≤ (m - l) / s := by omega
    have h1 : (i : Int) * s ≤ (m - l) / s * s := Int.mul_le_mul_of_nonneg_right hi' (by omega)
    have h2 : 0 ≤ (i : Int) * s := Int.mul_nonneg (by omega) (by omega)
    have h3 : (m - l) / s * s = s * ((m - l) / s) := Int.mul_comm _ _
    refine ⟨by omega, by omega, ?_⟩
    rw [show l + (i : Int) * s - l = (i : Int) * s by omega, Int.mul_emod_left]
  · rintro ⟨h1, h2, h3⟩
    have e4 := Int.mul_ediv_add_emod (x - l) s
    have hq : 0 ≤ (x - l) / s := Int.ediv_nonneg (by omega) (by omega)
    have hle : (x - l) / s ≤ (m - l) / s := Int.ediv_le_ediv hs (by omega)
    refine ⟨((x - l) / s).toNat, by omega, ?_⟩
    rw [Int.toNat_of_nonneg hq, Int.mul_comm]
    omega

theorem canLay_ints : ∀ ns : List Int, PyData.canLayAll0 (iL ns) = true
  | [] => rfl
  | _ :: ns => by show (PyData.canLay0 (.int _) && PyData.canLayAll0 (iL ns)) = true; rw [canLay_ints ns]; rfl
theorem depth_ints : ∀ ns : List Int, PyData.depthAll (iL ns) = 0
  | [] => rfl
  | _ :: ns => by show max 0 (PyData.depthAll (iL ns)) = 0; rw [depth_ints ns]; rfl
theorem sh_ints (ns : List Int) : SeqAt.shaped (.list (iL ns)) = true := by
  show (PyData.canLayAll0 (iL ns) && decide (PyData.depthAll (iL ns) + 1 ≤ 64)) = true
  rw [canLay_ints, depth_ints]
  rfl
theorem inD_int (v : Int) : ∀ ns : List Int, inD (.int v) (iL ns) = decide (v ∈ ns)
  | [] => rfl
  | n :: ns => by
    have ih := inD_int v ns
    unfold inD at ih ⊢
    show (PyData.eqv (.int n) (.int v) || (iL ns).any fun z => PyData.eqv z (.int v)) = _
    rw [ih]
    show ((n == v) || decide (v ∈ ns)) = _
    by_cases h : n = v
    · subst h
      simp
    · have : (n == v) = false := by simpa using h
      rw [this, Bool.false_or]
      by_cases h2 : v ∈ ns
      · simp [h2]
      · simp [h2, Ne.symm h]
def valB (ns : List Int) (x : D) : Bool := match x with
  | .int v => decide (v ∈ ns)
  | _ => false
theorem val_step {l m s : Int} (g : GoodW l m s) (x : D) (ρ : DEnv) (i j : Nat) (h1 : fVar i ρ = .ok x) (h2 : fVar j ρ = .ok (wD l m s)) :
    fAndV (fCall 3 F_is_int (fCons (fVar i) (fCons (fC (.int 0)) (fCons (fC (.int 60)) fNil)))) (fBin (gIn false) (fVar i) (fCall 1 F_wheel_values (fCons (fVar j) fNil))) ρ = .ok (.bool (valB (wv l m s) x)) := by
  walk_at "ev"
  simp only [h1, h2]
  walk_at "ev"
  simp only [is_int_eq, wheel_values_good g]
  walk_at "ev"
  cases x with
  | int v =>
    rw [isIntD_int]
    have hs : 0 < s := by have := g.s0; omega
    by_cases hv : v ∈ wv l m s
    · obtain ⟨a1, a2, _⟩ := (mem_wv g.m0 hs).mp hv
      have := g.l0
      have := g.m1
      rw [decide_eq_true (show 0 ≤ v by omega), decide_eq_true (show v ≤ 60 by omega)]
      show gIn false (.int v) (.list (iL (wv l m s))) = _
      unfold gIn
      dsimp only
      rw [sh_ints, sh_int]
      show Res.ok (PyData.bool (inD (.int v) (iL (wv l m s)))) = _
      rw [inD_int]
      rfl
    · have hb : valB (wv l m s) (.int v) = false := decide_eq_false hv
      rw [hb]
      have e : gIn false (.int v) (.list (iL (wv l m s))) = .ok (.bool false) := by
        unfold gIn
        dsimp only
        rw [sh_ints, sh_int]
        show Res.ok (PyData.bool (inD (.int v) (iL (wv l m s)))) = _
        rw [inD_int, decide_eq_false hv]
      cases (decide (0 ≤ v) && decide (v ≤ 60)) with
      | true => exact e
      | false => rfl
  | _ => rfl
theorem sorted_ext : ∀ {xs ys : List Int}, xs.Pairwise (· < ·) → ys.Pairwise (· < ·) → (∀ x, x ∈ xs ↔ x ∈ ys) → xs = ys
  | [], [], _, _, _ => rfl
  | [], y :: ys, _, _, h => by simpa using (h y).mpr List.mem_cons_self
  | x :: xs, [], _, _, h => by simpa using (h x).mp List.mem_cons_self
  | x :: xs, y :: ys, h1, h2, h => by
    obtain ⟨a1, a2⟩ := List.pairwise_cons.mp h1
    obtain ⟨b1, b2⟩ := List.pairwise_cons.mp h2
    have e : x = y := by
      rcases List.mem_cons.mp ((h x).mp List.mem_cons_self) with q | q
      · exact q
      · rcases List.mem_cons.mp ((h y).mpr List.mem_cons_self) with q' | q'
        · exact q'.symm
        · have := a1 y q'
          have := b1 x q
          omega
    subst e
    rw [sorted_ext a2 b2 fun z => ?_]
    constructor
    · intro hz
      rcases List.mem_cons.mp ((h z).mp (List.mem_cons_of_mem _ hz)) with q | q
      · have := a1 z hz
        omega
      · exact q
    · intro hz
      rcases List.mem_cons.mp ((h z).mpr (List.mem_cons_of_mem _ hz)) with q | q
      · have := b1 z hz
        omega
      · exact q
theorem wv_sorted (l m : Int) {s : Int} (hs : 0 < s) : (wv l m s).Pairwise (· < ·) := by
  unfold wv
  refine List.Pairwise.map _ (fun a b hab => ?_) List.pairwise_lt_range
  have : (a : Int) * s < (b : Int) * s := Int.mul_lt_mul_of_pos_right (by omega) hs
  omega
/-- the ints from lo, n of them -/
def up (lo : Int) (n : Nat) : List Int := (List.range n).map fun (i : Nat) => lo + (i : Int)
theorem up_D (lo : Int) (n : Nat) : rngD lo n = iL (up lo n) := by
  unfold rngD iL up
  rw [List.map_map]
  rfl
theorem up_sorted (lo : Int) (n : Nat) : (up lo n).Pairwise (· < ·) := by
  unfold up
  exact List.Pairwise.map _ (fun a b hab => by omega) List.pairwise_lt_range
theorem mem_up {lo x : Int} {n : Nat} : x ∈ up lo n ↔ lo ≤ x ∧ x < lo + n := by
  unfold up
  simp only [List.mem_map, List.mem_range]
  constructor
  · rintro ⟨i, hi, rfl⟩
    omega
  · intro h
    exact ⟨(x - lo).toNat, by omega, by omega⟩
/-- value by value -/
theorem due_eq {l m s : Int} (h : l ≤ m) (hs : 0 < s) : (up l (m + 1 - l).toNat).filter (fun x => (x - l) % s == 0) = wv l m s := by
  refine sorted_ext (List.Pairwise.filter _ (up_sorted _ _)) (wv_sorted l m hs) fun x => ?_
  rw [List.mem_filter, mem_up, mem_wv h hs]
  simp only [beq_iff_eq]
  omega
theorem ev_eq {l m s : Int} (h : l ≤ m) (hs : 0 < s) : ((up 0 (m - l + 1).toNat).filter (fun k => k % s == 0)).map (fun k => l + k) = wv l m s := by
  refine sorted_ext (List.Pairwise.map _ (fun a b hab => by omega) (List.Pairwise.filter _ (up_sorted _ _))) (wv_sorted l m hs) fun x => ?_
  rw [List.mem_map, mem_wv h hs]
  constructor
  · rintro ⟨k, hk, rfl⟩
    rw [List.mem_filter, mem_up] at hk
    simp only [beq_iff_eq] at hk
    refine ⟨by omega, by omega, ?_⟩
    rw [show l + k - l = k by omega]
    exact hk.2
  · rintro ⟨h1, h2, h3⟩
    refine ⟨x - l, ?_, by omega⟩
    rw [List.mem_filter, mem_up]
    simp only [beq_iff_eq]
    omega
theorem lcGo_enc {α : Type} {step : D → Res (List D)} (enc : α → D) (h : α → List D) : ∀ {xs : List α}, (∀ a ∈ xs, step (enc a) = .ok (h a)) → lcGo step (xs.map enc) = .ok (xs.flatMap h)
  | [], _ => rfl
  | x :: xs, hx => by
    show ((step (enc x)).strict.bind fun o => (lcGo step (xs.map enc)).bind fun r => .ok (o ++ r)) = _
    rw [hx x List.mem_cons_self, lcGo_enc enc h fun d hd => hx d (List.mem_cons_of_mem _ hd)]
    rfl
theorem flatMap_one {α β : Type} (f : α → β) : ∀ xs : List α, (xs.flatMap fun x => [f x]) = xs.map f
  | [] => rfl
  | x :: xs => by rw [List.flatMap_cons, flatMap_one f xs]; rfl
theorem flatMap_if {α β : Type} (p : α → Bool) (f : α → β) : ∀ xs : List α, (xs.flatMap fun x => if p x = true then [f x] else []) = (xs.filter p).map f
  | [] => rfl
  | x :: xs => by
    rw [List.flatMap_cons, flatMap_if p f xs]
    cases h : p x with
    | true => rw [List.filter_cons_of_pos h]; rfl
    | false => rw [List.filter_cons_of_neg (by rw [h]; exact Bool.false_ne_true)]; rfl
def ext (fs : List (List D)) (vs : List Int) : List (List D) := fs.flatMap fun xs => vs.map fun v => xs ++ [PyData.int v]
abbrev tL (fs : List (List D)) : List D := fs.map PyData.tuple
theorem ext_cons (f : List D) (fs : List (List D)) (vs : List Int) : ext (f :: fs) vs = (vs.map fun v => f ++ [PyData.int v]) ++ ext fs vs := by
  unfold ext
  rw [List.flatMap_cons]
theorem tL_ext (fs : List (List D)) (vs : List Int) : (fs.flatMap fun xs => vs.map fun v => PyData.tuple (xs ++ [PyData.int v])) = tL (ext fs vs) := by
  unfold tL ext
  rw [List.map_flatMap]
  congr 1
  funext xs
  rw [List.map_map]
  rfl
theorem ext_len (vs : List Int) : ∀ fs : List (List D), (ext fs vs).length = fs.length * vs.length
  | [] => by simp [ext]
  | f :: fs => by
    rw [ext_cons, List.length_append, List.length_map, ext_len vs fs, List.length_cons, Nat.succ_mul]
    omega
theorem mem_ext {fs : List (List D)} {vs : List Int} {x : List D} : x ∈ ext fs vs ↔ ∃ f ∈ fs, ∃ v ∈ vs, x = f ++ [PyData.int v] := by
  unfold ext
  simp only [List.mem_flatMap, List.mem_map]
  constructor
  · rintro ⟨f, hf, v, hv, rfl⟩
    exact ⟨f, hf, v, hv, rfl⟩
  · rintro ⟨f, hf, v, hv, rfl⟩
    exact ⟨f, hf, v, hv, rfl⟩
theorem g_addT {xs ys : List D} (h : xs.length + ys.length ≤ 1000) : gAdd (.tuple xs) (.tuple ys) = .ok (.tuple (xs ++ ys)) := by
  unfold gAdd
  dsimp only
  rw [if_pos (show lenOk (xs.length + ys.length) = true from decide_eq_true (by omega))]
def sets (c : Cam) : List (List D) := ext (ext (ext [[]] (wv c.l1 c.m1 c.s1)) (wv c.l2 c.m2 c.s2)) (wv c.l3 c.m3 c.s3)
theorem ext1_len (vs : List Int) : (ext [[]] vs).length = vs.length := by rw [ext_len]; simp
theorem len_ext {fs : List (List D)} {vs : List Int} {k : Nat} (h : ∀ f ∈ fs, f.length ≤ k) : ∀ f ∈ ext fs vs, f.length ≤ k + 1 := fun f hf => by
  obtain ⟨f', h1, v, _, rfl⟩ := mem_ext.mp hf
  have := h f' h1
  rw [List.length_append]
  simp only [List.length_cons, List.length_nil]
  omega
theorem y_par2 (f g : DEnv → Res D) (i j : Nat) (ρ : DEnv) : sPar (zD f (zD g zNil)) [i, j] ρ = ofRes (f ρ) fun a => ofRes (g ρ) fun b => .next ((ρ.set i (.d a)).set j (.d b)) := by
  unfold sPar zD zNil
  cases f ρ <;> first | rfl | (cases g ρ <;> rfl)
theorem y_own0 (i : Nat) (ρ : DEnv) : sOwnL fNil i ρ = .next (ρ.set i (.own [])) := rfl
theorem y_frz (is : List Nat) (F : DEnv → SR) (ρ : DEnv) : sFrz is F ρ = F (frz ρ is) := rfl
theorem y_app {f : DEnv → Res D} {i : Nat} {ρ : DEnv} {xs : List D} {d : D} (h1 : ρ[i]? = some (.own xs)) (h2 : f ρ = .ok d) (h3 : xs.length < 1000000) : sApp f i ρ = .next (ρ.set i (.own (xs ++ [d]))) := by
  unfold sApp
  rw [h1]
  dsimp only
  rw [h2, y_ok, if_pos (show lenOk (xs.length + 1) = true from decide_eq_true (by omega))]
theorem y_extL {f : DEnv → Res D} {i : Nat} {ρ : DEnv} {xs ys : List D} (h1 : ρ[i]? = some (.own xs)) (h2 : f ρ = .ok (.list ys)) (h3 : xs.length + ys.length ≤ 1000000) : sExt f i ρ = .next (ρ.set i (.own (xs ++ ys))) := by
  unfold sExt
  rw [h1]
  dsimp only
  rw [h2, y_ok]
  dsimp only
  rw [if_pos (show lenOk (xs.length + ys.length) = true from decide_eq_true h3)]
theorem mul_l {i j : Int} (h1 : -1000000000000000000 ≤ i) (h2 : i ≤ 1000000000000000000) : mulOk i j = true := by
  unfold mulOk
  rw [decide_eq_true h1, decide_eq_true h2]
  rfl
theorem mul_r {i j : Int} (h1 : -1000000000000000000 ≤ j) (h2 : j ≤ 1000000000000000000) : mulOk i j = true := by
  unfold mulOk
  rw [decide_eq_true h1, decide_eq_true h2, Bool.or_eq_true]
  exact .inr rfl
theorem div_ok {i j : Int} (h1 : 0 < j) (h2 : j ≤ 1000000000000000000) : divOk i j = true := by
  unfold divOk
  rw [decide_eq_true h1, decide_eq_true h2]
  rfl
theorem g_mulc {i j : Int} (h1 : -1000000 ≤ i) (h2 : i ≤ 1000000) : gMulI (.int i) (.int j) = .ok (.int (i * j)) := g_mul (mul_l (by omega) (by omega))
structure InS (c : Cam) (x y z : Int) : Prop where
  a : x ∈ wv c.l1 c.m1 c.s1
  b : y ∈ wv c.l2 c.m2 c.s2
  d : z ∈ wv c.l3 c.m3 c.s3
abbrev i3 (x y z : Int) : D := .tuple [.int x, .int y, .int z]
theorem mem_sets {c : Cam} {ds : List D} : ds ∈ sets c ↔ ∃ x y z, ds = [.int x, .int y, .int z] ∧ InS c x y z := by
  unfold sets
  rw [mem_ext]
  constructor
  · rintro ⟨f, hf, z, hz, rfl⟩
    obtain ⟨f2, hf2, y, hy, rfl⟩ := mem_ext.mp hf
    obtain ⟨f3, hf3, x, hx, rfl⟩ := mem_ext.mp hf2
    rw [List.mem_singleton] at hf3
    subst hf3
    exact ⟨x, y, z, rfl, hx, hy, hz⟩
  · rintro ⟨x, y, z, rfl, hx, hy, hz⟩
    exact ⟨[.int x, .int y], mem_ext.mpr ⟨[.int x], mem_ext.mpr ⟨[], List.mem_singleton.mpr rfl, x, hx, rfl⟩, y, hy, rfl⟩, z, hz, rfl⟩
theorem inS_val {c : Cam} {x y z : Int} (h : InS c x y z) : (valB (wv c.l1 c.m1 c.s1) (.int x) && (valB (wv c.l2 c.m2 c.s2) (.int y) && valB (wv c.l3 c.m3 c.s3) (.int z))) = true := by
  unfold valB
  dsimp only
  rw [decide_eq_true h.a, decide_eq_true h.b, decide_eq_true h.d]
  rfl
theorem ne_self {d : D} (h : SeqAt.shaped d = true) (h2 : PyData.eqv d d = true) : gNe d d = .ok (.bool false) := by
  unfold gNe
  rw [h, h2]
  rfl
theorem eqv_ints : ∀ ns : List Int, PyData.eqvAll (iL ns) (iL ns) = true
  | [] => by rw [show iL [] = [] from rfl, PyData.eqvAll]
  | n :: ns => by
    show PyData.eqvAll (.int n :: iL ns) (.int n :: iL ns) = true
    rw [PyData.eqvAll, eqv_ints ns, PyData.eqv]
    simp
theorem eqv_i3 (a b c x y z : Int) : PyData.eqv (i3 a b c) (i3 x y z) = (decide (a = x) && (decide (b = y) && decide (c = z))) := by
  simp only [PyData.eqv, PyData.eqvAll]
  simp only [Bool.and_true]
  rfl
theorem ne_bool (a b : Bool) : gNe (.bool a) (.bool b) = .ok (.bool (!(a == b))) := by
  cases a <;> cases b <;> rfl
theorem sh_i3s : ∀ {ds : List D}, (∀ d ∈ ds, ∃ x y z, d = i3 x y z) → PyData.canLayAll0 ds = true ∧ PyData.depthAll ds ≤ 1
  | [], _ => ⟨rfl, by decide⟩
  | d :: ds, h => by
    obtain ⟨x, y, z, rfl⟩ := h d List.mem_cons_self
    obtain ⟨h1, h2⟩ := sh_i3s fun d' hd => h d' (List.mem_cons_of_mem _ hd)
    refine ⟨?_, ?_⟩
    · show (PyData.canLay0 (i3 x y z) && PyData.canLayAll0 ds) = true
      rw [h1]
      rfl
    · show max (PyData.depth (i3 x y z)) (PyData.depthAll ds) ≤ 1
      have : PyData.depth (i3 x y z) = 1 := rfl
      omega
theorem sets_i3 {c : Cam} : ∀ d ∈ tL (sets c), ∃ x y z, d = i3 x y z ∧ InS c x y z := fun d hd => by
  obtain ⟨ds, h1, rfl⟩ := List.mem_map.mp hd
  obtain ⟨x, y, z, rfl, h⟩ := mem_sets.mp h1
  exact ⟨x, y, z, rfl, h⟩
theorem sh_sets (c : Cam) : SeqAt.shaped (.list (tL (sets c))) = true := by
  obtain ⟨h1, h2⟩ := sh_i3s (ds := tL (sets c)) fun d hd => by obtain ⟨x, y, z, e, _⟩ := sets_i3 d hd; exact ⟨x, y, z, e⟩
  show (PyData.canLayAll0 (tL (sets c)) && decide (PyData.depthAll (tL (sets c)) + 1 ≤ 64)) = true
  rw [h1, decide_eq_true (by omega)]
  rfl
theorem in_sets (c : Cam) (x y z : Int) : gIn false (i3 x y z) (.list (tL (sets c))) = .ok (.bool (valB (wv c.l1 c.m1 c.s1) (.int x) && (valB (wv c.l2 c.m2 c.s2) (.int y) && valB (wv c.l3 c.m3 c.s3) (.int z)))) := by
  unfold gIn
  dsimp only
  rw [sh_sets, if_pos (show (SeqAt.shaped (i3 x y z) && true) = true from rfl)]
  have e : inD (i3 x y z) (tL (sets c)) = (valB (wv c.l1 c.m1 c.s1) (.int x) && (valB (wv c.l2 c.m2 c.s2) (.int y) && valB (wv c.l3 c.m3 c.s3) (.int z))) := by
    rw [Bool.eq_iff_iff]
    unfold inD
    rw [List.any_eq_true]
    constructor
    · rintro ⟨d, hd, he⟩
      obtain ⟨a, b, e, rfl, hi⟩ := sets_i3 d hd
      rw [eqv_i3] at he
      simp only [Bool.and_eq_true, decide_eq_true_eq] at he
      obtain ⟨rfl, rfl, rfl⟩ := he
      exact inS_val hi
    · intro h
      unfold valB at h
      simp only [Bool.and_eq_true, decide_eq_true_eq] at h
      refine ⟨i3 x y z, List.mem_map.mpr ⟨[.int x, .int y, .int z], mem_sets.mpr ⟨x, y, z, rfl, h.1, h.2.1, h.2.2⟩, rfl⟩, ?_⟩
      rw [eqv_i3]
      simp
  rw [e]
  rfl
theorem sets_len (c : Cam) : (sets c).length = (wv c.l1 c.m1 c.s1).length * (wv c.l2 c.m2 c.s2).length * (wv c.l3 c.m3 c.s3).length := by
  unfold sets
  rw [ext_len, ext_len, ext1_len]
theorem wv_pos {l m s : Int} (g : GoodW l m s) : 0 < (wv l m s).length := by
  refine List.length_pos_of_mem (a := l) ((mem_wv g.m0 (by have := g.s0; omega)).mpr ⟨by omega, g.m0, ?_⟩)
  rw [Int.sub_self, Int.zero_emod]
theorem sets_pos {c : Cam} (g : GoodC c) : 0 < (sets c).length := by
  rw [sets_len]
  exact Nat.mul_pos (Nat.mul_pos (wv_pos g.w1) (wv_pos g.w2)) (wv_pos g.w3)
theorem ix_sets {c : Cam} {p : Int} (h0 : 0 ≤ p) (h1 : p < ((tL (sets c)).length : Nat)) : ∃ x y z, gIx (.list (tL (sets c))) (.int p) = .ok (i3 x y z) ∧ InS c x y z := by
  have h3 : p.toNat < (tL (sets c)).length := by omega
  obtain ⟨x, y, z, e, h⟩ := sets_i3 ((tL (sets c))[p.toNat]) (List.getElem_mem h3)
  refine ⟨x, y, z, ?_, h⟩
  refine g_ixL ?_
  unfold ixD
  rw [if_pos h0, List.getElem?_eq_getElem h3, e]
end Lw
namespace Lw
open PySem L2 PD PDs
theorem has_setting_3 {c : Cam} (g : GoodC c) (x y z : D) : F_has_setting [cD c, .tuple [x, y, z]] = .ok (.bool (valB (wv c.l1 c.m1 c.s1) x && (valB (wv c.l2 c.m2 c.s2) y && valB (wv c.l3 c.m3 c.s3) z))) := by
  unfold F_has_setting B_has_setting
  have e : fLc (fRng gZip (fCons (fVar 1) (fCons (fVar 0) fNil))) [3, 4] [3, 4] (hTup 2) fYes (fAndV (fCall 3 F_is_int (fCons (fVar 3) (fCons (fC (.int 0)) (fCons (fC (.int 60)) fNil)))) (fBin (gIn false) (fVar 3) (fCall 1 F_wheel_values (fCons (fVar 4) fNil)))) [.d (cD c), .d (.tuple [x, y, z]), .un, .un, .un] =
      .ok (.list [.bool (valB (wv c.l1 c.m1 c.s1) x), .bool (valB (wv c.l2 c.m2 c.s2) y), .bool (valB (wv c.l3 c.m3 c.s3) z)]) := by
    refine x_lc (ds := [.tuple [x, wD c.l1 c.m1 c.s1], .tuple [y, wD c.l2 c.m2 c.s2], .tuple [z, wD c.l3 c.m3 c.s3]]) rfl ?_ (by show 3 < 1000000; decide)
    unfold lcGo lcGo lcGo lcGo
    simp only [l_2, wp_nil, wp_cons, set0, setS']
    rw [val_step g.w1 x _ 3 4 rfl rfl, val_step g.w2 y _ 3 4 rfl rfl, val_step g.w3 z _ 3 4 rfl rfl]
    rfl
  walk_at "ev"
  rw [e]
  walk_at "ev"
  show toRes (ofRes (Res.ok (PyData.bool ([valB (wv c.l1 c.m1 c.s1) x, valB (wv c.l2 c.m2 c.s2) y, valB (wv c.l3 c.m3 c.s3) z].all id))) _) = _
  cases valB (wv c.l1 c.m1 c.s1) x <;> cases valB (wv c.l2 c.m2 c.s2) y <;> cases valB (wv c.l3 c.m3 c.s3) z <;> rfl
theorem has_setting_no {c : Cam} {d : D} (h : isiD "tuple" d = false) : F_has_setting [cD c, d] = .ok (.bool false) := by
  unfold F_has_setting B_has_setting
  walk_at "ev"
  simp only [h]
  walk_at "ev"
theorem has_setting_len {c : Cam} {ds : List D} (h : ds.length ≠ 3) : F_has_setting [cD c, .tuple ds] = .ok (.bool false) := by
  unfold F_has_setting B_has_setting
  have h' : (((ds.length : Nat) : Int) == 3) = false := by simpa using (show ¬ ((ds.length : Nat) : Int) = 3 by omega)
  walk_at "ev"
  simp only [h']
  walk_at "ev"
theorem check_setting_3 {c : Cam} (g : GoodC c) {x y z : D} (h : (valB (wv c.l1 c.m1 c.s1) x && (valB (wv c.l2 c.m2 c.s2) y && valB (wv c.l3 c.m3 c.s3) z)) = true) : F_check_setting [cD c, .tuple [x, y, z]] = .ok .none := by
  unfold F_check_setting B_check_setting
  walk_at "ev"
  simp only [has_setting_3 g, h]
  walk_at "ev"

end Lw
namespace Lw
open PySem L2 PD PDs
/-! ### more of the shared: calls of four and five, tests over bools, filters -/
theorem x_call4 (F : List D → Res D) (f g h i : DEnv → Res D) (ρ : DEnv) : fCall 4 F (fCons f (fCons g (fCons h (fCons i fNil)))) ρ = (f ρ).bind fun a => (g ρ).bind fun b => (h ρ).bind fun c => (i ρ).bind fun d => F [a, b, c, d] := by
  unfold fCall fCons fNil
  cases f ρ <;> first | rfl | (cases g ρ <;> first | rfl | (cases h ρ <;> first | rfl | (cases i ρ <;> rfl)))
theorem x_call5 (F : List D → Res D) (f g h i j : DEnv → Res D) (ρ : DEnv) : fCall 5 F (fCons f (fCons g (fCons h (fCons i (fCons j fNil))))) ρ = (f ρ).bind fun a => (g ρ).bind fun b => (h ρ).bind fun c => (i ρ).bind fun d => (j ρ).bind fun e => F [a, b, c, d, e] := by
  unfold fCall fCons fNil
  cases f ρ <;> first | rfl | (cases g ρ <;> first | rfl | (cases h ρ <;> first | rfl | (cases i ρ <;> first | rfl | (cases j ρ <;> rfl))))
theorem all_bools (bs : List Bool) : gAll [.list (bs.map PyData.bool)] = .ok (.bool (bs.all id)) := by
  unfold gAll gBs
  dsimp only
  rw [asBs_map]
theorem any_bools (bs : List Bool) : gAny [.list (bs.map PyData.bool)] = .ok (.bool (bs.any id)) := by
  unfold gAny gBs
  dsimp only
  rw [asBs_map]
theorem in_ints (v : Int) (ns : List Int) : gIn false (.int v) (.list (iL ns)) = .ok (.bool (decide (v ∈ ns))) := by
  unfold gIn
  dsimp only
  rw [sh_ints, sh_int]
  show Res.ok (PyData.bool (inD (.int v) (iL ns))) = _
  rw [inD_int]
theorem g_addL {xs ys : List D} (h : xs.length + ys.length ≤ 1000) : gAdd (.list xs) (.list ys) = .ok (.list (xs ++ ys)) := by
  unfold gAdd
  dsimp only
  rw [if_pos (show lenOk (xs.length + ys.length) = true from decide_eq_true (by omega))]
theorem filt_none {α : Type} {P : α → Bool} {a : α} : ∀ {xs : List α}, (∀ d ∈ xs, P d = true ↔ d = a) → a ∉ xs → xs.filter P = []
  | [], _, _ => rfl
  | x :: xs, h, hn => by
    rw [List.filter_cons_of_neg fun hp => hn (by rw [← (h x List.mem_cons_self).mp hp]; exact List.mem_cons_self)]
    exact filt_none (fun d hd => h d (List.mem_cons_of_mem _ hd)) fun hm => hn (List.mem_cons_of_mem _ hm)
theorem filt_one {α : Type} {P : α → Bool} {a : α} : ∀ {xs : List α}, xs.Nodup → (∀ d ∈ xs, P d = true ↔ d = a) → a ∈ xs → xs.filter P = [a]
  | [], _, _, hm => absurd hm List.not_mem_nil
  | x :: xs, hd, h, hm => by
    obtain ⟨h1, h2⟩ := List.nodup_cons.mp hd
    by_cases e : x = a
    · subst e
      rw [List.filter_cons_of_pos ((h x List.mem_cons_self).mpr rfl), filt_none (fun d hd => h d (List.mem_cons_of_mem _ hd)) h1]
    · rw [List.filter_cons_of_neg fun hp => e ((h x List.mem_cons_self).mp hp)]
      refine filt_one h2 (fun d hd => h d (List.mem_cons_of_mem _ hd)) ?_
      rcases List.mem_cons.mp hm with q | q
      · exact absurd q.symm e
      · exact q
theorem ext_nodup {fs : List (List D)} {vs : List Int} (h1 : fs.Nodup) (h2 : vs.Nodup) : (ext fs vs).Nodup := by
  unfold ext List.Nodup
  rw [List.pairwise_flatMap]
  refine ⟨fun f _ => ?_, ?_⟩
  · refine List.Pairwise.map _ (fun a b hab e => hab ?_) h2
    have := List.append_cancel_left e
    cases this
    rfl
  · refine List.Pairwise.imp (fun {a b} hab x hx y hy e => hab ?_) h1
    obtain ⟨v, _, rfl⟩ := List.mem_map.mp hx
    obtain ⟨w, _, rfl⟩ := List.mem_map.mp hy
    exact (List.append_inj' e rfl).1
theorem lt_nodup {vs : List Int} (h : vs.Pairwise (· < ·)) : vs.Nodup := List.Pairwise.imp (fun {a b} (hab : a < b) (e : a = b) => by omega) h
theorem sets_nodup {c : Cam} (g : GoodC c) : (tL (sets c)).Nodup := by
  have p1 : 0 < c.s1 := by have := g.w1.s0; omega
  have p2 : 0 < c.s2 := by have := g.w2.s0; omega
  have p3 : 0 < c.s3 := by have := g.w3.s0; omega
  have h : (sets c).Nodup := ext_nodup (ext_nodup (ext_nodup (List.nodup_cons.mpr ⟨List.not_mem_nil, List.nodup_nil⟩) (lt_nodup (wv_sorted c.l1 c.m1 p1))) (lt_nodup (wv_sorted c.l2 c.m2 p2))) (lt_nodup (wv_sorted c.l3 c.m3 p3))
  exact List.Pairwise.map _ (fun a b hab e => hab (by cases e; rfl)) h
theorem is_noneT (d : D) : gIs true d .none = .ok (.bool (!isNone d)) := rfl
theorem g_addL' {xs ys : List D} (h : xs.length + ys.length ≤ 1000000) : gAdd (.list xs) (.list ys) = .ok (.list (xs ++ ys)) := by
  unfold gAdd
  dsimp only
  rw [if_pos (show lenOk (xs.length + ys.length) = true from decide_eq_true (by omega))]
end Lw
namespace Lw
open PySem L2 PD PDs
theorem number_eq (a b c : Int) : F_law_number [.tuple [.int a, .int b, .int c]] = .ok (.int (a + b - c)) := by rfl
end Lw
namespace Lw
open PySem L2 PD PDs
theorem exposure_eq (a b c : Int) : F_find_exposure [.tuple [.int a, .int b, .int c]] = .ok (.int (a + b - c)) := by rfl
end Lw
namespace Lw
open PySem L2 PD PDs
/-- one wheel of all_settings -/
theorem all_step {l m s : Int} (g : GoodW l m s) {fs : List (List D)} (hf : ∀ f ∈ fs, f.length ≤ 10) (hn : fs.length ≤ 200) (cam : D) (s3 s4 : Slot) :
    sAsg (fLc2 (fSeq (fVar 1)) [3, 4] [3] hOne fYes (fSeq (fCall 1 F_wheel_values (fCons (fVar 2) fNil))) [4] [4] hOne fYes (fBin gAdd (fVar 3) (fTup (fCons (fVar 4) fNil)))) [1] hOne [.d cam, .d (.list (tL fs)), .d (wD l m s), s3, s4] =
      .next [.d cam, .d (.list (tL (ext fs (wv l m s)))), .d (wD l m s), s3, s4] := by
  have hw := wv_len g
  have e : fLc2 (fSeq (fVar 1)) [3, 4] [3] hOne fYes (fSeq (fCall 1 F_wheel_values (fCons (fVar 2) fNil))) [4] [4] hOne fYes (fBin gAdd (fVar 3) (fTup (fCons (fVar 4) fNil))) [.d cam, .d (.list (tL fs)), .d (wD l m s), s3, s4] = .ok (.list (tL (ext fs (wv l m s)))) := by
    refine x_lc2 (ds := tL fs) rfl ?_ ?_
    · rw [← tL_ext]
      refine lcGo_enc PyData.tuple (fun xs => (wv l m s).map fun v => PyData.tuple (xs ++ [PyData.int v])) fun f hff => ?_
      walk_at "ev"
      simp only [wheel_values_good g]
      walk_at "ev"
      rw [← flatMap_one]
      refine lcGo_enc PyData.int (fun v => [PyData.tuple (f ++ [PyData.int v])]) fun v hv => ?_
      walk_at "ev"
      rw [g_addT (by have := hf f hff; simp only [List.length_cons, List.length_nil]; omega)]
      rfl
    · rw [List.length_map, ext_len]
      have : fs.length * (wv l m s).length ≤ 200 * 13 := Nat.mul_le_mul hn hw
      omega
  rw [y_as1, e]
  rfl
theorem all_settings_good {c : Cam} (g : GoodC c) : F_all_settings [cD c] = .ok (.list (tL (sets c))) := by
  have n1 := wv_len g.w1
  have n2 := wv_len g.w2
  have a0 : ∀ f ∈ ([[]] : List (List D)), f.length ≤ 0 := fun f hf => by rw [List.mem_singleton.mp hf]; exact Nat.le_refl _
  have a1 := len_ext (vs := wv c.l1 c.m1 c.s1) a0
  have a2 := len_ext (vs := wv c.l2 c.m2 c.s2) a1
  have c1 : (ext [[]] (wv c.l1 c.m1 c.s1)).length ≤ 200 := by rw [ext1_len]; omega
  have c2 : (ext (ext [[]] (wv c.l1 c.m1 c.s1)) (wv c.l2 c.m2 c.s2)).length ≤ 200 := by
    rw [ext_len, ext1_len]
    have : (wv c.l1 c.m1 c.s1).length * (wv c.l2 c.m2 c.s2).length ≤ 13 * 13 := Nat.mul_le_mul n1 n2
    omega
  unfold F_all_settings B_all_settings
  walk_at "ev"
  rw [y_for (ds := [wD c.l1 c.m1 c.s1, wD c.l2 c.m2 c.s2, wD c.l3 c.m3 c.s3]) rfl]
  rw [f_cons rfl (all_step g.w1 (fs := [[]]) (fun f hf => by have := a0 f hf; omega) (by show 1 ≤ 200; decide) _ _ _)]
  rw [f_cons rfl (all_step g.w2 (fun f hf => by have := a1 f hf; omega) c1 _ _ _)]
  rw [f_cons rfl (all_step g.w3 (fun f hf => by have := a2 f hf; omega) c2 _ _ _), f_nil]
  walk_at "ev"
  rfl

end Lw
namespace Lw
open PySem L2 PD PDs
theorem check_light_ok {b : Int} (h1 : -60 ≤ b) (h2 : b ≤ 120) : F_check_light [.int b] = .ok .none := by
  unfold F_check_light B_check_light
  walk_at "ev"
  simp only [is_int_eq, isIntD_int, decide_eq_true h1, decide_eq_true h2]
  rfl
end Lw
namespace Lw
open PySem L2 PD PDs
theorem ne_nil (n : Int) (ns : List Int) : gNe (.list (iL (n :: ns))) (.list []) = .ok (.bool true) := by
  unfold gNe
  rw [sh_ints]
  rfl
theorem pick_cell (ns : List Int) (hl : ns.length ≤ 63) (k : Int) (hk : 0 ≤ k) (ρ : DEnv) : ∃ cell : Int, fIf (fTest (fBin gNe (fVar 0) (fLst fNil))) (fBin gIx (fVar 0) (fBin gMod (fVar 1) (fB gLen (fCons (fVar 0) fNil)))) (fC (.int 0)) (.d (.list (iL ns)) :: .d (.int k) :: ρ) = .ok (.int cell) := by
  cases ns with
  | nil => exact ⟨0, rfl⟩
  | cons n ns =>
    have hp : (0 : Int) < ((iL (n :: ns)).length : Nat) := by rw [List.length_map, List.length_cons]; omega
    have h1 := Int.emod_nonneg k (show (((iL (n :: ns)).length : Nat) : Int) ≠ 0 by omega)
    have h2 := Int.emod_lt_of_pos k hp
    have e1 : iL (n :: ns) = .int n :: iL ns := rfl
    have hi : ∃ c : Int, ixD (iL (n :: ns)) (k % ((iL (n :: ns)).length : Nat)) = some (.int c) := by
      unfold ixD
      rw [if_pos h1]
      have h3 : (k % ((iL (n :: ns)).length : Nat)).toNat < (iL (n :: ns)).length := by omega
      rw [List.getElem?_eq_getElem h3]
      exact ⟨(n :: ns)[(k % ((iL (n :: ns)).length : Nat)).toNat]'(by rw [List.length_map] at h3; rw [List.length_map]; exact h3), by rw [List.getElem_map]⟩
    obtain ⟨c, hc⟩ := hi
    refine ⟨c, ?_⟩
    simp only [x_if, x_test, x_bin, x_var0, x_varS, x_lst, x_nil, x_mkL0, bind_ok, ne_nil, x_asB, x_b, x_cons, x_nil, g_lenL, if_true]
    rw [g_mod hp, bind_ok, g_ixL hc]
theorem pick_while (scr kk mm cc s6 : Slot) (N : Nat) : ∀ (n : Nat) (rest again : Int), 0 ≤ again → again.toNat < n → ∃ r a : Int, whileGo (fAnd (fTest (fBin gGt (fVar 4) (fC (.int 0)))) (fTest (fBin gGt (fVar 5) (fC (.int 0))))) (sPar (zD (fBin gDiv (fVar 4) (fC (.int 840))) (zD (fBin gSub (fVar 5) (fC (.int 1))) zNil)) [4, 5]) n [scr, kk, mm, cc, .d (.int rest), .d (.int again), s6] = .next [scr, kk, mm, cc, .d (.int r), .d (.int a), s6]
  | 0, _, _, _, h => absurd h (Nat.not_lt_zero _)
  | n + 1, rest, again, h0, h => by
    unfold whileGo
    simp only [v_cons, v_nil, w_d, x_and, x_test, x_bin, x_var0, x_varS, x_c, bind_ok, g_gt, x_asB]
    by_cases h1 : 0 < rest
    · by_cases h2 : 0 < again
      · simp only [decide_eq_true h1, decide_eq_true h2, if_true]
        simp only [y_par2, x_bin, x_varS, x_var0, x_c, bind_ok, g_sub, g_div (div_ok (i := rest) (show (0 : Int) < 840 by decide) (by decide)), y_ok, set0, setS']
        exact pick_while scr kk mm cc s6 N n (rest / 840) (again - 1) (by omega) (by omega)
      · simp only [decide_eq_true h1, decide_eq_false h2, if_true]
        exact ⟨rest, again, rfl⟩
    · simp only [decide_eq_false h1]
      exact ⟨rest, again, rfl⟩
theorem pick_ok (ns : List Int) (hl : ns.length ≤ 63) (k many : Int) (hk : 0 ≤ k) (hk2 : k ≤ 90000) (hm : 0 < many) : ∃ p : Int, F_law_pick [.list (iL ns), .int k, .int many] = .ok (.int p) ∧ 0 ≤ p ∧ p < many := by
  unfold F_law_pick B_law_pick
  obtain ⟨cell, hc⟩ := pick_cell ns hl k hk [.d (.int many), .un, .un, .un, .un]
  have st : startD 7 [PyData.list (iL ns), PyData.int k, PyData.int many] = [Slot.d (PyData.list (iL ns)), Slot.d (PyData.int k), Slot.d (PyData.int many), Slot.un, Slot.un, Slot.un, Slot.un] := rfl
  simp only [y_fn, y_seq, y_as1, st, hc, y_ok, y_next, y_par2]
  have hp : gPow (PyData.int 10) (PyData.int 18) = .ok (.int 1000000000000000000) := rfl
  walk_at "ev"
  simp only [hp, bind_ok, g_div (div_ok (i := cell) (show (0 : Int) < 1000000000000000000 by decide) (by decide)), y_ok]
  have hmx : ∃ w : Int, gMax2 [PyData.int ((iL ns).length : Nat), PyData.int 1] = .ok (.int w) ∧ 0 < w ∧ w ≤ 100 := by
    refine ⟨_, rfl, ?_, ?_⟩
    · split <;> omega
    · rw [List.length_map]; split <;> omega
  obtain ⟨w, hw, w1, w2⟩ := hmx
  simp only [hw, bind_ok, g_div (div_ok (i := k) w1 (by omega)), y_ok, y_next, y_seq]
  have ha : 0 ≤ k / w := Int.ediv_nonneg hk (by omega)
  have ha2 : k / w ≤ k := Int.ediv_le_self _ hk
  obtain ⟨r, a, hwl⟩ := pick_while (.d (.list (iL ns))) (.d (.int k)) (.d (.int many)) (.d (.int cell)) .un 0 100000 (cell / 1000000000000000000) (k / w) ha (by omega)
  rw [hwl]
  walk_at "ev"
  by_cases hr : 0 < r
  · simp only [decide_eq_true hr, if_true, g_mod (show (0 : Int) < 840 by decide), bind_ok, g_mod hm, y_ok]
    exact ⟨_, rfl, Int.emod_nonneg _ (by omega), Int.emod_lt_of_pos _ hm⟩
  · simp only [decide_eq_false hr]
    walk_at "ev"
    simp only [g_mul (mul_r (i := cell) (show (-1000000000000000000 : Int) ≤ 31 by decide) (by decide)), bind_ok, g_mul (mul_l (j := k + 1) (show (-1000000000000000000 : Int) ≤ 6151 by decide) (by decide))]
    walk_at "ev"
    simp only [g_mul (mul_r (i := cell * 31 + 6151 * (k + 1)) (show (-1000000000000000000 : Int) ≤ 40692 by decide) (by decide)), bind_ok, g_mod (show (0 : Int) < 2147483399 by decide)]
    walk_at "ev"
    have b1 := Int.emod_nonneg ((cell * 31 + 6151 * (k + 1)) * 40692) (show (2147483399 : Int) ≠ 0 by decide)
    have b2 := Int.emod_lt_of_pos ((cell * 31 + 6151 * (k + 1)) * 40692) (show (0 : Int) < 2147483399 by decide)
    generalize (cell * 31 + 6151 * (k + 1)) * 40692 % 2147483399 = z at b1 b2 ⊢
    simp only [g_mul (mul_r (i := z) (show (-1000000000000000000 : Int) ≤ z by omega) (by omega)), bind_ok, g_div (div_ok (i := z) (show (0 : Int) < 31 by decide) (by decide)), g_add, g_mod (show (0 : Int) < 2147483629 by decide), g_mod hm]
    walk_at "ev"
    exact ⟨_, rfl, Int.emod_nonneg _ (by omega), Int.emod_lt_of_pos _ hm⟩

theorem good_of {l s n r mx : Int} (l0 : 0 ≤ l) (l1 : l < 23) (s0 : 0 ≤ s) (s1 : s < 3) (n0 : 0 ≤ n) (n1 : n < mx) (hx : mx ≤ 13) (r0 : 0 ≤ r) (r1 : r < 1 + s) : GoodW l (l + (1 + s) * n + r) (1 + s) := by
  have e : s = 0 ∨ s = 1 ∨ s = 2 := by omega
  refine ⟨l0, by omega, ?_, ?_, by omega, by omega, ?_⟩
  · rcases e with rfl | rfl | rfl <;> omega
  · rcases e with rfl | rfl | rfl <;> omega
  · rcases e with rfl | rfl | rfl <;> omega
theorem box_step (ns : List Int) (hl : ns.length ≤ 63) (at_ most k : Int) (h0 : 0 ≤ at_) (h1 : at_ ≤ 80000) (hm : 0 < most) (hm2 : most ≤ 13) (k0 : 0 ≤ k) (k1 : k ≤ 2) (found : List D) (hf : found.length ≤ 100) (s5 s6 s7 s8 : Slot) :
    ∃ l m s t5 t6 t7 t8, GoodW l m s ∧ L_law_box_0 [.d (.list (iL ns)), .d (.int at_), .d (.int most), .own found, .d (.int k), s5, s6, s7, s8] = .next [.d (.list (iL ns)), .d (.int at_), .d (.int most), .own (found ++ [wD l m s]), .d (.int k), t5, t6, t7, t8] := by
  obtain ⟨l, e1, a1, b1⟩ := pick_ok ns hl (at_ + 4 * k) 23 (by omega) (by omega) (by omega)
  obtain ⟨s, e2, a2, b2⟩ := pick_ok ns hl (at_ + 4 * k + 1) 3 (by omega) (by omega) (by omega)
  obtain ⟨n, e3, a3, b3⟩ := pick_ok ns hl (at_ + 4 * k + 2) most (by omega) (by omega) hm
  obtain ⟨r, e4, a4, b4⟩ := pick_ok ns hl (at_ + 4 * k + 3) (1 + s) (by omega) (by omega) (by omega)
  refine ⟨l, l + (1 + s) * n + r, 1 + s, .d (.int l), .d (.int (1 + s)), .d (.int n), .d (.int r), good_of a1 b1 a2 b2 a3 b3 hm2 a4 b4, ?_⟩
  · unfold L_law_box_0
    simp only [y_seq, y_par2]
    walk_at "ev"
    simp only [g_mulc (i := 4) (j := k) (by decide) (by decide), bind_ok, g_add, e1, e2, y_ok, y_next, y_seq, y_as1, set0, setS', x_call3, x_varS, x_var0, x_bin, x_c]
    simp only [e3, y_ok, y_next, y_seq, y_as1, set0, setS', x_call3, x_varS, x_var0, x_bin, x_c, g_mulc (i := 4) (j := k) (by decide) (by decide), bind_ok, g_add, e4]
    refine y_app rfl ?_ (by omega)
    walk_at "ev"
    rw [g_mulc (i := 1 + s) (by omega) (by omega)]
    rfl
theorem box_ok (ns : List Int) (hl : ns.length ≤ 63) (at_ most : Int) (h0 : 0 ≤ at_) (h1 : at_ ≤ 80000) (hm : 0 < most) (hm2 : most ≤ 13) : ∃ c, GoodC c ∧ F_law_box [.list (iL ns), .int at_, .int most] = .ok (cD c) := by
  obtain ⟨l1, m1, s1, t5, t6, t7, t8, g1, e1⟩ := box_step ns hl at_ most 0 h0 h1 hm hm2 (by decide) (by decide) [] (by decide) .un .un .un .un
  obtain ⟨l2, m2, s2, u5, u6, u7, u8, g2, e2⟩ := box_step ns hl at_ most 1 h0 h1 hm hm2 (by decide) (by decide) ([] ++ [wD l1 m1 s1]) (by show 1 ≤ 100; decide) t5 t6 t7 t8
  obtain ⟨l3, m3, s3, v5, v6, v7, v8, g3, e3⟩ := box_step ns hl at_ most 2 h0 h1 hm hm2 (by decide) (by decide) ([] ++ [wD l1 m1 s1] ++ [wD l2 m2 s2]) (by show 2 ≤ 100; decide) u5 u6 u7 u8
  refine ⟨⟨l1, m1, s1, l2, m2, s2, l3, m3, s3⟩, ⟨g1, g2, g3⟩, ?_⟩
  unfold F_law_box B_law_box
  have st : startD 9 [PyData.list (iL ns), PyData.int at_, PyData.int most] = [Slot.d (PyData.list (iL ns)), Slot.d (PyData.int at_), Slot.d (PyData.int most), Slot.un, Slot.un, Slot.un, Slot.un, Slot.un, Slot.un] := rfl
  simp only [y_fn, y_seq, st, y_own0, y_next, set0, setS']
  rw [y_for (ds := [.int 0, .int 1, .int 2]) rfl]
  rw [f_cons rfl e1, f_cons rfl e2, f_cons rfl e3, f_nil]
  rfl
end Lw
namespace Lw
open PySem L2 PD PDs
theorem every_in {l m s : Int} (g : GoodW l m s) (cam fnd : D) (s7 : Slot) : ∀ (fs : List (List D)) (acc : List D) (s6 : Slot), (∀ f ∈ fs, f.length ≤ 10) → acc.length + fs.length * 13 ≤ 100000 →
    ∃ t6, forGo (asgOf [6] hOne) L_law_every_0 (tL fs) [.d cam, .d fnd, .d (.int l), .d (.int m), .d (.int s), .own acc, s6, s7] = .next [.d cam, .d fnd, .d (.int l), .d (.int m), .d (.int s), .own (acc ++ tL (ext fs (wv l m s))), t6, s7]
  | [], acc, s6, _, _ => ⟨s6, by rw [show tL (ext [] (wv l m s)) = [] from rfl, List.append_nil]; rfl⟩
  | f :: fs, acc, s6, hf, hn => by
    have hw := wv_len g
    have hs : 0 < s := by have := g.s0; omega
    rw [List.length_cons] at hn
    have one : L_law_every_0 [.d cam, .d fnd, .d (.int l), .d (.int m), .d (.int s), .own acc, .d (.tuple f), s7] = .next [.d cam, .d fnd, .d (.int l), .d (.int m), .d (.int s), .own (acc ++ (wv l m s).map fun v => PyData.tuple (f ++ [PyData.int v])), .d (.tuple f), s7] := by
      refine y_extL rfl ?_ (by rw [List.length_map]; omega)
      have hr : rngOk (m - l + 1) = true := by
        have := g.m0
        have := g.m1
        have := g.l0
        unfold rngOk
        simp only [Bool.and_eq_true, decide_eq_true_eq]
        omega
      refine x_lc (ds := iL (up 0 (m - l + 1).toNat)) ?_ ?_ (by rw [List.length_map]; omega)
      · walk_at "ev"
        unfold gRng1
        dsimp only
        rw [if_pos hr, up_D]
      · rw [← ev_eq g.m0 hs, List.map_map, ← flatMap_if (fun k => k % s == 0)]
        refine lcGo_enc PyData.int (fun k => if (k % s == 0) = true then [PyData.tuple (f ++ [PyData.int (l + k)])] else []) fun k _ => ?_
        rw [l_1t]
        walk_at "ev"
        simp only [g_mod hs, bind_ok, eq_int, x_asB]
        rw [g_addT (by have := hf f List.mem_cons_self; simp only [List.length_cons, List.length_nil]; omega)]
        cases (k % s == 0) <;> rfl
    obtain ⟨t6, e⟩ := every_in g cam fnd s7 fs (acc ++ (wv l m s).map fun v => PyData.tuple (f ++ [PyData.int v])) (.d (.tuple f)) (fun f' h => hf f' (List.mem_cons_of_mem _ h)) (by rw [List.length_append, List.length_map]; omega)
    refine ⟨t6, ?_⟩
    show forGo _ _ (PyData.tuple f :: tL fs) _ = _
    rw [f_cons rfl one, e, ext_cons]
    unfold tL
    rw [List.map_append, List.map_map, List.append_assoc]
    rfl
theorem every_step {l m s : Int} (g : GoodW l m s) (cam : D) (fs : List (List D)) (hf : ∀ f ∈ fs, f.length ≤ 10) (hn : fs.length ≤ 200) (s5 s6 s7 : Slot) :
    ∃ t5 t6, L_law_every_1 [.d cam, .d (.list (tL fs)), .d (.int l), .d (.int m), .d (.int s), s5, s6, s7] = .next [.d cam, .d (.list (tL (ext fs (wv l m s)))), .d (.int l), .d (.int m), .d (.int s), t5, t6, s7] := by
  obtain ⟨t6, e⟩ := every_in g cam (.list (tL fs)) s7 fs [] s6 hf (by rw [List.length_nil]; omega)
  refine ⟨.d (.list (tL (ext fs (wv l m s)))), t6, ?_⟩
  unfold L_law_every_1
  simp only [y_seq, y_own0, y_next, set0, setS']
  rw [y_for (ds := tL fs) rfl, e]
  rfl
theorem every_good {c : Cam} (g : GoodC c) : F_law_every [cD c] = .ok (.list (tL (sets c))) := by
  have n1 := wv_len g.w1
  have n2 := wv_len g.w2
  have a0 : ∀ f ∈ ([[]] : List (List D)), f.length ≤ 0 := fun f hf => by rw [List.mem_singleton.mp hf]; exact Nat.le_refl _
  have a1 := len_ext (vs := wv c.l1 c.m1 c.s1) a0
  have a2 := len_ext (vs := wv c.l2 c.m2 c.s2) a1
  have c1 : (ext [[]] (wv c.l1 c.m1 c.s1)).length ≤ 200 := by rw [ext1_len]; omega
  have c2 : (ext (ext [[]] (wv c.l1 c.m1 c.s1)) (wv c.l2 c.m2 c.s2)).length ≤ 200 := by
    rw [ext_len, ext1_len]
    have : (wv c.l1 c.m1 c.s1).length * (wv c.l2 c.m2 c.s2).length ≤ 13 * 13 := Nat.mul_le_mul n1 n2
    omega
  obtain ⟨t5, t6, e1⟩ := every_step g.w1 (cD c) [[]] (fun f hf => by have := a0 f hf; omega) (by show 1 ≤ 200; decide) .un .un .un
  obtain ⟨u5, u6, e2⟩ := every_step g.w2 (cD c) _ (fun f hf => by have := a1 f hf; omega) c1 t5 t6 .un
  obtain ⟨v5, v6, e3⟩ := every_step g.w3 (cD c) _ (fun f hf => by have := a2 f hf; omega) c2 u5 u6 .un
  unfold F_law_every B_law_every
  walk_at "ev"
  rw [y_for (ds := [wD c.l1 c.m1 c.s1, wD c.l2 c.m2 c.s2, wD c.l3 c.m3 c.s3]) rfl]
  rw [f_cons rfl e1, f_cons rfl e2, f_cons rfl e3, f_nil]
  rfl
end Lw
namespace Lw
open PySem L2 PD PDs
/-! ### drawn cameras, with what is known of their wheels -/
def BW (l m s mx : Int) : Prop := ∃ n r : Int, l < 23 ∧ 0 ≤ n ∧ n < mx ∧ 0 ≤ r ∧ r < s ∧ m = l + s * n + r
structure BoxB (c : Cam) (mx : Int) : Prop where
  w1 : BW c.l1 c.m1 c.s1 mx
  w2 : BW c.l2 c.m2 c.s2 mx
  w3 : BW c.l3 c.m3 c.s3 mx
theorem box_step2 (ns : List Int) (hl : ns.length ≤ 63) (at_ most k : Int) (h0 : 0 ≤ at_) (h1 : at_ ≤ 80000) (hm : 0 < most) (hm2 : most ≤ 13) (k0 : 0 ≤ k) (k1 : k ≤ 2) (found : List D) (hf : found.length ≤ 100) (s5 s6 s7 s8 : Slot) :
    ∃ l m s t5 t6 t7 t8, GoodW l m s ∧ BW l m s most ∧ L_law_box_0 [.d (.list (iL ns)), .d (.int at_), .d (.int most), .own found, .d (.int k), s5, s6, s7, s8] = .next [.d (.list (iL ns)), .d (.int at_), .d (.int most), .own (found ++ [wD l m s]), .d (.int k), t5, t6, t7, t8] := by
  obtain ⟨l, e1, a1, b1⟩ := pick_ok ns hl (at_ + 4 * k) 23 (by omega) (by omega) (by omega)
  obtain ⟨s, e2, a2, b2⟩ := pick_ok ns hl (at_ + 4 * k + 1) 3 (by omega) (by omega) (by omega)
  obtain ⟨n, e3, a3, b3⟩ := pick_ok ns hl (at_ + 4 * k + 2) most (by omega) (by omega) hm
  obtain ⟨r, e4, a4, b4⟩ := pick_ok ns hl (at_ + 4 * k + 3) (1 + s) (by omega) (by omega) (by omega)
  refine ⟨l, l + (1 + s) * n + r, 1 + s, .d (.int l), .d (.int (1 + s)), .d (.int n), .d (.int r), good_of a1 b1 a2 b2 a3 b3 hm2 a4 b4, ⟨n, r, b1, a3, b3, a4, b4, rfl⟩, ?_⟩
  · unfold L_law_box_0
    simp only [y_seq, y_par2]
    walk_at "ev"
    simp only [g_mulc (i := 4) (j := k) (by decide) (by decide), bind_ok, g_add, e1, e2, y_ok, y_next, y_seq, y_as1, set0, setS', x_call3, x_varS, x_var0, x_bin, x_c]
    simp only [e3, y_ok, y_next, y_seq, y_as1, set0, setS', x_call3, x_varS, x_var0, x_bin, x_c, g_mulc (i := 4) (j := k) (by decide) (by decide), bind_ok, g_add, e4]
    refine y_app rfl ?_ (by omega)
    walk_at "ev"
    rw [g_mulc (i := 1 + s) (by omega) (by omega)]
    rfl
theorem box_ok2 (ns : List Int) (hl : ns.length ≤ 63) (at_ most : Int) (h0 : 0 ≤ at_) (h1 : at_ ≤ 80000) (hm : 0 < most) (hm2 : most ≤ 13) : ∃ c, GoodC c ∧ BoxB c most ∧ F_law_box [.list (iL ns), .int at_, .int most] = .ok (cD c) := by
  obtain ⟨l1, m1, s1, t5, t6, t7, t8, g1, w1, e1⟩ := box_step2 ns hl at_ most 0 h0 h1 hm hm2 (by decide) (by decide) [] (by decide) .un .un .un .un
  obtain ⟨l2, m2, s2, u5, u6, u7, u8, g2, w2, e2⟩ := box_step2 ns hl at_ most 1 h0 h1 hm hm2 (by decide) (by decide) ([] ++ [wD l1 m1 s1]) (by show 1 ≤ 100; decide) t5 t6 t7 t8
  obtain ⟨l3, m3, s3, v5, v6, v7, v8, g3, w3, e3⟩ := box_step2 ns hl at_ most 2 h0 h1 hm hm2 (by decide) (by decide) ([] ++ [wD l1 m1 s1] ++ [wD l2 m2 s2]) (by show 2 ≤ 100; decide) u5 u6 u7 u8
  refine ⟨⟨l1, m1, s1, l2, m2, s2, l3, m3, s3⟩, ⟨g1, g2, g3⟩, ⟨w1, w2, w3⟩, ?_⟩
  unfold F_law_box B_law_box
  have st : startD 9 [PyData.list (iL ns), PyData.int at_, PyData.int most] = [Slot.d (PyData.list (iL ns)), Slot.d (PyData.int at_), Slot.d (PyData.int most), Slot.un, Slot.un, Slot.un, Slot.un, Slot.un, Slot.un] := rfl
  simp only [y_fn, y_seq, st, y_own0, y_next, set0, setS']
  rw [y_for (ds := [.int 0, .int 1, .int 2]) rfl]
  rw [f_cons rfl e1, f_cons rfl e2, f_cons rfl e3, f_nil]
  rfl
end Lw
namespace Lw
open PySem L2 PD PDs
/-! ### settings as triples of ints -/
abbrev T3 := Int × Int × Int
def e3 (t : T3) : D := i3 t.1 t.2.1 t.2.2
def tri (c : Cam) : List T3 := (wv c.l1 c.m1 c.s1).flatMap fun x => (wv c.l2 c.m2 c.s2).flatMap fun y => (wv c.l3 c.m3 c.s3).map fun z => (x, y, z)
theorem flatMap_map' {α β γ : Type} (f : α → β) (g : β → List γ) (xs : List α) : (xs.map f).flatMap g = xs.flatMap fun x => g (f x) := by
  rw [List.flatMap_map]
theorem tri_eq (c : Cam) : tL (sets c) = (tri c).map e3 := by
  unfold tL sets ext tri
  simp only [List.flatMap_cons, List.flatMap_nil, List.append_nil, List.nil_append, List.map_flatMap, List.flatMap_map, List.flatMap_assoc, List.map_map, List.cons_append]
  rfl
def In3 (c : Cam) (t : T3) : Prop := InS c t.1 t.2.1 t.2.2
theorem mem_tri {c : Cam} {t : T3} : t ∈ tri c ↔ In3 c t := by
  obtain ⟨x, y, z⟩ := t
  unfold tri In3
  simp only [List.mem_flatMap, List.mem_map, Prod.mk.injEq]
  constructor
  · rintro ⟨x', hx, y', hy, z', hz, rfl, rfl, rfl⟩
    exact ⟨hx, hy, hz⟩
  · intro h
    exact ⟨x, h.a, y, h.b, z, h.d, rfl, rfl, rfl⟩
def lt3 (t u : T3) : Bool := decide (t.1 < u.1 ∨ t.1 = u.1 ∧ (t.2.1 < u.2.1 ∨ t.2.1 = u.2.1 ∧ t.2.2 < u.2.2))
theorem tri_sorted {c : Cam} (g : GoodC c) : (tri c).Pairwise fun t u => lt3 t u = true := by
  have p1 : 0 < c.s1 := by have := g.w1.s0; omega
  have p2 : 0 < c.s2 := by have := g.w2.s0; omega
  have p3 : 0 < c.s3 := by have := g.w3.s0; omega
  unfold tri
  rw [List.pairwise_flatMap]
  refine ⟨fun x _ => ?_, ?_⟩
  · rw [List.pairwise_flatMap]
    refine ⟨fun y _ => ?_, ?_⟩
    · refine List.Pairwise.map _ (fun a b hab => ?_) (wv_sorted c.l3 c.m3 p3)
      exact decide_eq_true (.inr ⟨rfl, .inr ⟨rfl, hab⟩⟩)
    · refine List.Pairwise.imp (fun {a b} hab t ht u hu => ?_) (wv_sorted c.l2 c.m2 p2)
      obtain ⟨z, _, rfl⟩ := List.mem_map.mp ht
      obtain ⟨z', _, rfl⟩ := List.mem_map.mp hu
      exact decide_eq_true (.inr ⟨rfl, .inl hab⟩)
  · refine List.Pairwise.imp (fun {a b} hab t ht u hu => ?_) (wv_sorted c.l1 c.m1 p1)
    obtain ⟨y, _, ht⟩ := List.mem_flatMap.mp ht
    obtain ⟨z, _, rfl⟩ := List.mem_map.mp ht
    obtain ⟨y', _, hu⟩ := List.mem_flatMap.mp hu
    obtain ⟨z', _, rfl⟩ := List.mem_map.mp hu
    exact decide_eq_true (.inl hab)
def num (t : T3) : Int := t.1 + t.2.1 - t.2.2
theorem tri_len {c : Cam} : (tri c).length = (sets c).length := by
  have := congrArg List.length (tri_eq c)
  rw [List.length_map, List.length_map] at this
  omega
theorem tri_pos {c : Cam} (g : GoodC c) : 0 < (tri c).length := by rw [tri_len]; exact sets_pos g
theorem tri_le {c : Cam} (g : GoodC c) : (tri c).length ≤ 2197 := by
  rw [tri_len, sets_len]
  exact Nat.mul_le_mul (Nat.mul_le_mul (wv_len g.w1) (wv_len g.w2)) (wv_len g.w3)
theorem in3_b {c : Cam} (g : GoodC c) {t : T3} (h : In3 c t) : 0 ≤ t.1 ∧ t.1 ≤ 60 ∧ 0 ≤ t.2.1 ∧ t.2.1 ≤ 60 ∧ 0 ≤ t.2.2 ∧ t.2.2 ≤ 60 := by
  have aux : ∀ {l m s x : Int}, GoodW l m s → x ∈ wv l m s → 0 ≤ x ∧ x ≤ 60 := fun {l m s x} gw h => by
    obtain ⟨h1, h2, _⟩ := (mem_wv gw.m0 (by have := gw.s0; omega)).mp h
    have := gw.l0
    have := gw.m1
    omega
  have a1 := aux g.w1 h.a
  have a2 := aux g.w2 h.b
  have a3 := aux g.w3 h.d
  exact ⟨a1.1, a1.2, a2.1, a2.2, a3.1, a3.2⟩
theorem sh_e3s {α : Type} (f : α → T3) (ts : List α) : SeqAt.shaped (.list (ts.map fun a => e3 (f a))) = true := by
  obtain ⟨h1, h2⟩ := sh_i3s (ds := ts.map fun a => e3 (f a)) fun d hd => by
    obtain ⟨t, _, rfl⟩ := List.mem_map.mp hd
    exact ⟨_, _, _, rfl⟩
  show (PyData.canLayAll0 (ts.map fun a => e3 (f a)) && decide (PyData.depthAll (ts.map fun a => e3 (f a)) + 1 ≤ 64)) = true
  rw [h1, decide_eq_true (by omega)]
  rfl
theorem sh_t3 (ts : List T3) : SeqAt.shaped (.list (ts.map e3)) = true := sh_e3s id ts
theorem ne_same {d : D} (h : SeqAt.shaped d = true) : gNe d d = .ok (.bool false) := ne_self h (SeqAt.eqv_refl d (by
  unfold SeqAt.shaped at h
  rw [Bool.and_eq_true] at h
  exact h.1))
theorem eq_same {d : D} (h : SeqAt.shaped d = true) : gEq d d = .ok (.bool true) := by
  unfold gEq
  rw [h, SeqAt.eqv_refl d (by
    unfold SeqAt.shaped at h
    rw [Bool.and_eq_true] at h
    exact h.1)]
  rfl
theorem eqv_nil (ts : List D) : PyData.eqv (.list ts) (.list []) = ts.isEmpty := by
  cases ts <;> rfl
theorem ne_nilD {ts : List D} (h : SeqAt.shaped (.list ts) = true) : gNe (.list ts) (.list []) = .ok (.bool (!ts.isEmpty)) := by
  unfold gNe
  rw [h, eqv_nil]
  rfl
theorem eq_nilD {ts : List D} (h : SeqAt.shaped (.list ts) = true) : gEq (.list ts) (.list []) = .ok (.bool ts.isEmpty) := by
  unfold gEq
  rw [h, eqv_nil]
  rfl
theorem ix_tri {c : Cam} {p : Int} (h0 : 0 ≤ p) (h1 : p < ((tri c).length : Nat)) : ∃ t, gIx (.list ((tri c).map e3)) (.int p) = .ok (e3 t) ∧ In3 c t := by
  have h3 : p.toNat < (tri c).length := by omega
  refine ⟨(tri c)[p.toNat], ?_, mem_tri.mp (List.getElem_mem h3)⟩
  refine g_ixL ?_
  unfold ixD
  rw [if_pos h0, List.getElem?_eq_getElem (by rw [List.length_map]; exact h3), List.getElem_map]
end Lw
namespace Lw
open PySem L2 PD PDs
/-! ### right settings -/
def rt (c : Cam) (L : Int) : List T3 := (tri c).filter fun t => num t == L
theorem rt_in {c : Cam} {L : Int} {t : T3} (h : t ∈ rt c L) : In3 c t := mem_tri.mp (List.mem_filter.mp h).1
theorem rt_le {c : Cam} (g : GoodC c) (L : Int) : (rt c L).length ≤ 2197 := Nat.le_trans (List.length_filter_le _ _) (tri_le g)
theorem check_both_ok {c : Cam} (g : GoodC c) {L : Int} (h1 : -60 ≤ L) (h2 : L ≤ 120) : F_check_both [cD c, .int L] = .ok .none := by
  unfold F_check_both B_check_both
  walk_at "ev"
  simp only [check_camera_good g]
  walk_at "ev"
  simp only [check_light_ok h1 h2]
  walk_at "ev"
end Lw
namespace Lw
open PySem L2 PD PDs
/-! ### order of pairs (number, setting) -/
theorem alike_e3 (t u : T3) : PySem.W.alike (e3 t) (e3 u) = true := by
  simp [e3, PySem.W.alike, PySem.W.alikeAll]
theorem eqv_e3 (t u : T3) : PyData.eqv (e3 t) (e3 u) = decide (t = u) := by
  obtain ⟨x, y, z⟩ := t
  obtain ⟨a, b, c⟩ := u
  unfold e3
  rw [eqv_i3, Bool.eq_iff_iff]
  simp only [Bool.and_eq_true, decide_eq_true_eq, Prod.mk.injEq]
theorem lexNil : PyProof.Rows.lexLt PyProof.Rows.itemOrd (PySem.W.keyToksAll []) (PySem.W.keyToksAll []) = false := by decide +kernel
theorem dataLt_e3 (t u : T3) : PySem.W.dataLt (e3 t) (e3 u) = lt3 t u := by
  obtain ⟨x, y, z⟩ := t
  obtain ⟨a, b, c⟩ := u
  have ai : ∀ i j : Int, PySem.W.alike (.int i) (.int j) = true := fun i j => by simp [PySem.W.alike]
  have ei : ∀ i j : Int, PyData.eqv (.int i) (.int j) = decide (i = j) := fun i j => rfl
  unfold e3 lt3
  dsimp only
  rw [PySem.W.dataLt_tuple, PySem.W.dataLt_cons (ai _ _), PySem.W.dataLt_cons (ai _ _), PySem.W.dataLt_cons (ai _ _), lexNil]
  rw [ei, ei, ei, PySem.W.dataLt_int, PySem.W.dataLt_int, PySem.W.dataLt_int]
  rw [Bool.eq_iff_iff]
  simp only [decide_eq_true_eq]
  by_cases h1 : x = a
  · by_cases h2 : y = b
    · by_cases h3 : z = c
      · simp [h1, h2, h3]
      · simp [h1, h2, h3]
    · simp [h1, h2]
  · simp [h1]
def pr (l : Int) (t : T3) : D := .tuple [.int l, e3 t]
def ltQ (k : T3 → Int) (t u : T3) : Bool := decide (k t < k u ∨ k t = k u ∧ lt3 t u = true)
theorem dataLt_pr (k : T3 → Int) (t u : T3) : PySem.W.dataLt (pr (k t) t) (pr (k u) u) = ltQ k t u := by
  have ai : PySem.W.alike (.int (k t)) (.int (k u)) = true := by simp [PySem.W.alike]
  have ei : PyData.eqv (.int (k t)) (.int (k u)) = decide (k t = k u) := rfl
  unfold pr ltQ
  rw [PySem.W.dataLt_pair ai (alike_e3 t u), ei, eqv_e3, PySem.W.dataLt_int, dataLt_e3, Bool.eq_iff_iff]
  simp only [decide_eq_true_eq]
  by_cases h1 : k t = k u
  · by_cases h2 : t = u
    · subst h2
      have : lt3 t t = false := decide_eq_false (by omega)
      simp [this]
    · simp [h1, h2]
  · simp [h1]
/-- the least of a row -/
def bst (k : T3 → Int) (r : T3) (rs : List T3) : T3 := rs.foldl (fun a t => if ltQ k t a = true then t else a) r
theorem minD_pr (k : T3 → Int) : ∀ (rs : List T3) (r : T3), PySem.W.minD (pr (k r) r) (rs.map fun t => pr (k t) t) = pr (k (bst k r rs)) (bst k r rs)
  | [], r => rfl
  | e :: rs, r => by
    show PySem.W.minD (if PySem.W.dataLt (pr (k e) e) (pr (k r) r) = true then pr (k e) e else pr (k r) r) (rs.map fun t => pr (k t) t) = pr (k (bst k (if ltQ k e r = true then e else r) rs)) (bst k (if ltQ k e r = true then e else r) rs)
    rw [dataLt_pr]
    cases ltQ k e r with
    | true => exact minD_pr k rs e
    | false => exact minD_pr k rs r
theorem bst_spec (k : T3 → Int) : ∀ (rs : List T3) (r : T3), bst k r rs ∈ r :: rs ∧ ∀ t ∈ r :: rs, ltQ k t (bst k r rs) = false
  | [], r => ⟨List.mem_cons_self, fun t ht => by
    rw [List.mem_singleton.mp ht]
    show ltQ k r r = false
    unfold ltQ lt3
    exact decide_eq_false (by simp only [decide_eq_true_eq]; omega)⟩
  | e :: rs, r => by
    have trans : ∀ a b c : T3, ltQ k a b = false → ltQ k b c = false → ltQ k a c = false := fun a b c h1 h2 => by
      unfold ltQ lt3 at *
      simp only [decide_eq_true_eq, decide_eq_false_iff_not] at *
      omega
    have asym : ∀ a b : T3, ltQ k a b = true → ltQ k b a = false := fun a b h1 => by
      unfold ltQ lt3 at *
      simp only [decide_eq_true_eq, decide_eq_false_iff_not] at *
      omega
    have e1 : bst k r (e :: rs) = bst k (if ltQ k e r = true then e else r) rs := rfl
    rw [e1]
    cases h : ltQ k e r with
    | true =>
      obtain ⟨i1, i2⟩ := bst_spec k rs e
      refine ⟨List.mem_cons_of_mem _ i1, fun t ht => ?_⟩
      rcases List.mem_cons.mp ht with q | q
      · subst q
        exact trans _ _ _ (asym _ _ h) (i2 e List.mem_cons_self)
      · exact i2 t q
    | false =>
      obtain ⟨i1, i2⟩ := bst_spec k rs r
      refine ⟨?_, fun t ht => ?_⟩
      · rcases List.mem_cons.mp i1 with q | q
        · show bst k r rs ∈ _
          rw [q]
          exact List.mem_cons_self
        · exact List.mem_cons_of_mem _ (List.mem_cons_of_mem _ q)
      · rcases List.mem_cons.mp ht with q | q
        · subst q
          exact i2 _ List.mem_cons_self
        · rcases List.mem_cons.mp q with q | q
          · subst q
            exact trans _ _ _ h (i2 r List.mem_cons_self)
          · exact i2 t (List.mem_cons_of_mem _ q)
theorem bst_le {k : T3 → Int} {r : T3} {rs : List T3} {t : T3} (h : t ∈ r :: rs) : k (bst k r rs) ≤ k t := by
  have := (bst_spec k rs r).2 t h
  unfold ltQ at this
  simp only [decide_eq_false_iff_not] at this
  omega
theorem canLay_prs (k : T3 → Int) : ∀ ts : List T3, PyData.canLayAll0 (ts.map fun t => pr (k t) t) = true ∧ PyData.depthAll (ts.map fun t => pr (k t) t) ≤ 2
  | [] => ⟨rfl, Nat.zero_le _⟩
  | t :: ts => by
    obtain ⟨h1, h2⟩ := canLay_prs k ts
    refine ⟨?_, ?_⟩
    · show (PyData.canLay0 (pr (k t) t) && PyData.canLayAll0 (ts.map fun t => pr (k t) t)) = true
      rw [h1]
      rfl
    · show max (PyData.depth (pr (k t) t)) (PyData.depthAll (ts.map fun t => pr (k t) t)) ≤ 2
      have : PyData.depth (pr (k t) t) = 2 := rfl
      omega
theorem sh_prs (k : T3 → Int) (ts : List T3) : SeqAt.shaped (.list (ts.map fun t => pr (k t) t)) = true := by
  obtain ⟨h1, h2⟩ := canLay_prs k ts
  show (PyData.canLayAll0 (ts.map fun t => pr (k t) t) && decide (PyData.depthAll (ts.map fun t => pr (k t) t) + 1 ≤ 64)) = true
  rw [h1, decide_eq_true (by omega)]
  rfl
theorem ord_prs (k : T3 → Int) (ts : List T3) : ordOk (ts.map fun t => pr (k t) t) = true := by
  unfold ordOk
  rw [sh_prs]
  have h1 : allAl (ts.map fun t => pr (k t) t) = true := allAl_iff.mpr fun x hx y hy => by
    obtain ⟨t, _, rfl⟩ := List.mem_map.mp hx
    obtain ⟨u, _, rfl⟩ := List.mem_map.mp hy
    simp [pr, PySem.W.alike, PySem.W.alikeAll, alike_e3]
  have h2 : noNone (ts.map fun t => pr (k t) t) = true := List.all_eq_true.mpr fun x hx => by
    obtain ⟨t, _, rfl⟩ := List.mem_map.mp hx
    rfl
  rw [h1, h2]
  rfl
theorem min_prs (k : T3 → Int) (r : T3) (rs : List T3) : gMinD [.list ((r :: rs).map fun t => pr (k t) t)] = .ok (pr (k (bst k r rs)) (bst k r rs)) := by
  have h := ord_prs k (r :: rs)
  rw [List.map_cons] at h ⊢
  unfold gMinD
  dsimp only
  rw [if_pos h, minD_pr]
theorem lt_e3 (t u : T3) : gLtD (e3 t) (e3 u) = .ok (.bool (lt3 t u)) := by
  unfold gLtD
  rw [alike_e3, dataLt_e3]
  rfl
theorem lt_int (i j : Int) : gLtD (.int i) (.int j) = .ok (.bool (decide (i < j))) := by
  unfold gLtD
  rw [show PySem.W.alike (.int i) (.int j) = true by simp [PySem.W.alike], PySem.W.dataLt_int]
  rfl
end Lw
namespace Lw
open PySem L2 PD PDs
/-! ### comprehensions and loops, evaluated -/
theorem lc_fm {α : Type} (enc : α → D) (xs : List α) (P : α → Bool) (h : α → D) {src : DEnv → Res (List D)} {own is : List Nat} {hh : D → Option (List D)} {ft : DEnv → Res Bool} {fe : DEnv → Res D} {ρ : DEnv} (h1 : src ρ = .ok (xs.map enc))
    (h2 : ∀ a ∈ xs, lcStep ρ own is hh ft fe (enc a) = .ok (if P a = true then [h a] else [])) (h3 : xs.length < 1000000) : fLc src own is hh ft fe ρ = .ok (.list ((xs.filter P).map h)) := by
  refine x_lc h1 ?_ (by rw [List.length_map]; exact Nat.lt_of_le_of_lt (List.length_filter_le _ _) h3)
  rw [← flatMap_if P h]
  exact lcGo_enc enc (fun a => if P a = true then [h a] else []) h2
theorem lc_m {α : Type} (enc : α → D) (xs : List α) (h : α → D) {src : DEnv → Res (List D)} {own is : List Nat} {hh : D → Option (List D)} {ft : DEnv → Res Bool} {fe : DEnv → Res D} {ρ : DEnv} (h1 : src ρ = .ok (xs.map enc))
    (h2 : ∀ a ∈ xs, lcStep ρ own is hh ft fe (enc a) = .ok [h a]) (h3 : xs.length < 1000000) : fLc src own is hh ft fe ρ = .ok (.list (xs.map h)) := by
  refine x_lc h1 ?_ (by rw [List.length_map]; exact h3)
  rw [← flatMap_one h]
  exact lcGo_enc enc (fun a => [h a]) h2
end Lw
namespace Lw
open PySem L2 PD PDs
theorem iL_app (a b : List Int) : iL (a ++ b) = iL a ++ iL b := List.map_append
theorem iL_map {α : Type} (f : α → Int) (xs : List α) : xs.map (fun x => PyData.int (f x)) = iL (xs.map f) := (List.map_map).symm
theorem iL_len (ns : List Int) : (iL ns).length = ns.length := List.length_map _
theorem maxL_ints {ns : List Int} (h : ns ≠ []) : gMaxL [.list (iL ns)] = .ok (.int (maxI ns)) := by
  unfold gMaxL gIsL
  dsimp only
  rw [asIs_map]
  dsimp only
  cases ns with
  | nil => exact absurd rfl h
  | cons a b => rfl
theorem minL_ints {ns : List Int} (h : ns ≠ []) : gMinL [.list (iL ns)] = .ok (.int (minI ns)) := by
  unfold gMinL gIsL
  dsimp only
  rw [asIs_map]
  dsimp only
  cases ns with
  | nil => exact absurd rfl h
  | cons a b => rfl
end Lw
namespace Lw
open PySem L2 PD PDs
theorem nodup_sub_len {α : Type} [DecidableEq α] : ∀ {xs ys : List α}, xs.Nodup → (∀ x ∈ xs, x ∈ ys) → xs.length ≤ ys.length
  | [], _, _, _ => Nat.zero_le _
  | x :: xs, ys, hn, hs => by
    rw [List.nodup_cons] at hn
    have hx := hs x List.mem_cons_self
    have ih := nodup_sub_len (ys := ys.erase x) hn.2 fun y hy => (List.mem_erase_of_ne (fun (e : y = x) => hn.1 (by rw [← e]; exact hy))).mpr (hs y (List.mem_cons_of_mem _ hy))
    rw [List.length_erase_of_mem hx] at ih
    have : 0 < ys.length := List.length_pos_of_mem hx
    rw [List.length_cons]
    omega
end Lw
namespace Lw
open PySem L2 PD PDs
/-! ### the least of data -/
def best {α : Type} (lt : α → α → Bool) (r : α) (rs : List α) : α := rs.foldl (fun a t => if lt t a = true then t else a) r
theorem best_inv {α : Type} {lt : α → α → Bool} (hi : ∀ x, lt x x = false) (ht : ∀ x y z, lt x y = true → lt y z = true → lt x z = true) : ∀ (rs : List α) (r : α) (seen : List α), (∀ t ∈ seen, lt t r = false) → (best lt r rs = r ∨ best lt r rs ∈ rs) ∧ (∀ t ∈ seen, lt t (best lt r rs) = false) ∧ lt r (best lt r rs) = false ∧ ∀ t ∈ rs, lt t (best lt r rs) = false
  | [], r, seen, hs => ⟨.inl rfl, hs, hi r, fun t h => absurd h List.not_mem_nil⟩
  | e :: rs, r, seen, hs => by
    have hn : ∀ t ∈ e :: r :: seen, lt t (if lt e r = true then e else r) = false := fun t h => by
      split
      · rename_i he
        rcases List.mem_cons.mp h with q | q
        · rw [q]; exact hi e
        · have hr : lt t r = false := by
            rcases List.mem_cons.mp q with z | z
            · rw [z]; exact hi r
            · exact hs t z
          cases hx : lt t e with
          | false => rfl
          | true => rw [ht t e r hx he] at hr; cases hr
      · rename_i he
        rcases List.mem_cons.mp h with q | q
        · rw [q]
          cases hx : lt e r with
          | false => rfl
          | true => exact absurd hx he
        · rcases List.mem_cons.mp q with z | z
          · rw [z]; exact hi r
          · exact hs t z
    obtain ⟨h1, h2, h3, h4⟩ := best_inv hi ht rs (if lt e r = true then e else r) (e :: r :: seen) hn
    show (best lt (if lt e r = true then e else r) rs = r ∨ best lt (if lt e r = true then e else r) rs ∈ e :: rs) ∧ (∀ t ∈ seen, lt t (best lt (if lt e r = true then e else r) rs) = false) ∧ lt r (best lt (if lt e r = true then e else r) rs) = false ∧ ∀ t ∈ e :: rs, lt t (best lt (if lt e r = true then e else r) rs) = false
    refine ⟨?_, fun t h => h2 t (List.mem_cons_of_mem _ (List.mem_cons_of_mem _ h)), h2 r (List.mem_cons_of_mem _ List.mem_cons_self), fun t h => ?_⟩
    · rcases h1 with q | q
      · by_cases he : lt e r = true
        · rw [if_pos he] at q ⊢
          exact .inr (by rw [q]; exact List.mem_cons_self)
        · rw [if_neg he] at q ⊢
          exact .inl q
      · exact .inr (List.mem_cons_of_mem _ q)
    · rcases List.mem_cons.mp h with q | q
      · rw [q]; exact h2 e List.mem_cons_self
      · exact h4 t q
theorem best_spec {α : Type} {lt : α → α → Bool} (hi : ∀ x, lt x x = false) (ht : ∀ x y z, lt x y = true → lt y z = true → lt x z = true) (rs : List α) (r : α) : best lt r rs ∈ r :: rs ∧ ∀ t ∈ r :: rs, lt t (best lt r rs) = false := by
  obtain ⟨h1, _, h3, h4⟩ := best_inv hi ht rs r [] (fun t h => absurd h List.not_mem_nil)
  refine ⟨?_, fun t h => ?_⟩
  · rcases h1 with q | q
    · rw [q]; exact List.mem_cons_self
    · exact List.mem_cons_of_mem _ q
  · rcases List.mem_cons.mp h with q | q
    · rw [q]; exact h3
    · exact h4 t q
theorem minD_gen {α : Type} {enc : α → D} {lt : α → α → Bool} (h : ∀ x y, PySem.W.dataLt (enc x) (enc y) = lt x y) : ∀ (rs : List α) (r : α), PySem.W.minD (enc r) (rs.map enc) = enc (best lt r rs)
  | [], r => rfl
  | e :: rs, r => by
    show PySem.W.minD (if PySem.W.dataLt (enc e) (enc r) = true then enc e else enc r) (rs.map enc) = enc (best lt (if lt e r = true then e else r) rs)
    rw [h]
    cases lt e r with
    | true => exact minD_gen h rs e
    | false => exact minD_gen h rs r
theorem gMinD_gen {α : Type} {enc : α → D} {lt : α → α → Bool} (h : ∀ x y, PySem.W.dataLt (enc x) (enc y) = lt x y) (r : α) (rs : List α) (ho : ordOk ((r :: rs).map enc) = true) : gMinD [.list ((r :: rs).map enc)] = .ok (enc (best lt r rs)) := by
  rw [List.map_cons] at ho ⊢
  unfold gMinD
  dsimp only
  rw [if_pos ho, minD_gen h]
/-- pairs of ints -/
def p2 (k : Int → Int) (n : Int) : D := .tuple [.int (k n), .int n]
def lt2 (k : Int → Int) (n m : Int) : Bool := decide (k n < k m ∨ k n = k m ∧ n < m)
theorem dataLt_p2 (k : Int → Int) (n m : Int) : PySem.W.dataLt (p2 k n) (p2 k m) = lt2 k n m := by
  have ai : ∀ i j : Int, PySem.W.alike (.int i) (.int j) = true := fun i j => by simp [PySem.W.alike]
  have ei : ∀ i j : Int, PyData.eqv (.int i) (.int j) = decide (i = j) := fun i j => rfl
  unfold p2 lt2
  rw [PySem.W.dataLt_pair (ai _ _) (ai _ _), ei, ei, PySem.W.dataLt_int, PySem.W.dataLt_int, Bool.eq_iff_iff]
  simp only [decide_eq_true_eq]
  by_cases h1 : k n = k m
  · by_cases h2 : n = m
    · subst h2
      simp
    · simp [h1, h2]
  · simp [h1]
theorem ord_p2 (k : Int → Int) (ns : List Int) : ordOk (ns.map (p2 k)) = true := by
  unfold ordOk
  have hs : SeqAt.shaped (.list (ns.map (p2 k))) = true := by
    have q : PyData.canLayAll0 (ns.map (p2 k)) = true ∧ PyData.depthAll (ns.map (p2 k)) ≤ 1 := by
      induction ns with
      | nil => exact ⟨rfl, Nat.zero_le _⟩
      | cons n ns ih =>
        refine ⟨?_, ?_⟩
        · show (PyData.canLay0 (p2 k n) && PyData.canLayAll0 (ns.map (p2 k))) = true
          rw [ih.1]
          rfl
        · show max (PyData.depth (p2 k n)) (PyData.depthAll (ns.map (p2 k))) ≤ 1
          have : PyData.depth (p2 k n) = 1 := rfl
          omega
    show (PyData.canLayAll0 (ns.map (p2 k)) && decide (PyData.depthAll (ns.map (p2 k)) + 1 ≤ 64)) = true
    rw [q.1, decide_eq_true (by omega)]
    rfl
  have h1 : allAl (ns.map (p2 k)) = true := allAl_iff.mpr fun x hx y hy => by
    obtain ⟨t, _, rfl⟩ := List.mem_map.mp hx
    obtain ⟨u, _, rfl⟩ := List.mem_map.mp hy
    simp [p2, PySem.W.alike, PySem.W.alikeAll]
  have h2 : noNone (ns.map (p2 k)) = true := List.all_eq_true.mpr fun x hx => by
    obtain ⟨t, _, rfl⟩ := List.mem_map.mp hx
    rfl
  rw [h1, h2, hs]
  rfl
theorem best2_spec (k : Int → Int) (rs : List Int) (r : Int) : best (lt2 k) r rs ∈ r :: rs ∧ ∀ t ∈ r :: rs, lt2 k t (best (lt2 k) r rs) = false := best_spec (lt := lt2 k) (fun x => decide_eq_false (by omega)) (fun x y z h1 h2 => by
  unfold lt2 at *
  simp only [decide_eq_true_eq] at *
  omega) rs r
end Lw
namespace Lw
open PySem L2 PD PDs
theorem find_right_good {c : Cam} (g : GoodC c) (L : Int) : F_find_right [cD c, .int L] = .ok (.list ((rt c L).map e3)) := by
  have hl := rt_le g L
  unfold F_find_right B_find_right
  have st : startD 3 [cD c, PyData.int L] = [.d (cD c), .d (.int L), .un] := rfl
  have e : fLc (fSeq (fCall 1 F_all_settings (fCons (fVar 0) fNil))) [2] [2] hOne (fTest (fBin gEq (fCall 1 F_find_exposure (fCons (fVar 2) fNil)) (fVar 1))) (fVar 2) [.d (cD c), .d (.int L), .un] = .ok (.list ((rt c L).map e3)) := by
    refine x_lc (ds := (tri c).map e3) ?_ ?_ (by rw [List.length_map]; omega)
    · walk_at "ev"
      rw [all_settings_good g, tri_eq]
      rfl
    · unfold rt
      rw [← flatMap_if (fun t => num t == L) e3]
      refine lcGo_enc e3 (fun t => if (num t == L) = true then [e3 t] else []) fun t _ => ?_
      rw [l_1t]
      walk_at "ev"
      rw [show F_find_exposure [e3 t] = .ok (.int (num t)) from exposure_eq _ _ _]
      walk_at "ev"
      cases (num t == L) <;> rfl
  rw [y_fn, st, y_rt, e]
  rfl
end Lw
namespace Lw
open PySem L2 PD PDs

end Lw
namespace Lw
open PySem L2 PD PDs

end Lw
namespace Lw
open PySem L2 PD PDs
/-! ### parts that are drawn -/
theorem lcGo_ex {step : D → Res (List D)} {P : Int → Prop} : ∀ (ks : List Int), (∀ k ∈ ks, ∃ p, step (.int k) = .ok [.int p] ∧ P p) → ∃ ps : List Int, lcGo step (iL ks) = .ok (iL ps) ∧ ps.length = ks.length ∧ ∀ p ∈ ps, P p
  | [], _ => ⟨[], rfl, rfl, fun _ h => absurd h List.not_mem_nil⟩
  | k :: ks, h => by
    obtain ⟨p, e1, h1⟩ := h k List.mem_cons_self
    obtain ⟨ps, e2, h2, h3⟩ := lcGo_ex ks fun k' hk => h k' (List.mem_cons_of_mem _ hk)
    refine ⟨p :: ps, ?_, by simp [h2], fun q hq => ?_⟩
    · show ((step (.int k)).strict.bind fun o => (lcGo step (iL ks)).bind fun r => .ok (o ++ r)) = _
      rw [e1, e2]
      rfl
    · rcases List.mem_cons.mp hq with e | e
      · rw [e]; exact h1
      · exact h3 q e
theorem cut_to {xs : List D} {k : Nat} (h : k ≤ 1000) : cutD xs none (some (k : Int)) = xs.take k := by
  have e : HT.sIx xs.length xs.length (some (k : Int)) = min k xs.length := by
    unfold HT.sIx
    dsimp only
    rw [if_neg (by omega)]
    simp
  have e0 : HT.sIx xs.length 0 none = 0 := rfl
  unfold cutD
  rw [e, e0, List.drop_zero, Nat.sub_zero]
  rcases Nat.le_total k xs.length with q | q
  · rw [Nat.min_eq_left q]
  · rw [Nat.min_eq_right q, List.take_length, List.take_of_length_le q]
theorem y_parZ (f : DEnv → Res D) (i j k : Nat) (ρ : DEnv) : sPar (zD f (zL fNil (zL fNil zNil))) [i, j, k] ρ = ofRes (f ρ) fun a => .next (((ρ.set i (.d a)).set j (.own [])).set k (.own [])) := by
  unfold sPar zD
  cases f ρ <;> rfl
theorem rng1_D {n : Nat} (h : n ≤ 1000) : gRng1 [.int (n : Int)] = .ok (rngD 0 n) := by
  unfold gRng1
  dsimp only
  rw [if_pos (show rngOk (n : Int) = true from by unfold rngOk; simp only [Bool.and_eq_true, decide_eq_true_eq]; omega)]
  rfl
theorem rngD_succ (lo : Int) (n : Nat) : rngD lo (n + 1) = .int lo :: rngD (lo + 1) n := by
  unfold rngD
  rw [List.range_succ_eq_map, List.map_cons, List.map_map]
  congr 1
  · show PyData.int (lo + (0 : Nat)) = .int lo
    rw [show (lo + (0 : Nat) : Int) = lo by omega]
  · refine List.map_congr_left fun i _ => ?_
    show PyData.int (lo + ((i + 1 : Nat) : Int)) = .int (lo + 1 + (i : Int))
    congr 1
    omega
end Lw
namespace Lw
open PySem L2 PD PDs
theorem x_callSt (n : Nat) (F : List D → Res D) (g : DEnv → Res (List D)) (ρ : DEnv) : fCall n F (fSt g) ρ = ((g ρ).strict).bind fun ds => if ds.length = n then F ds else .bad := rfl
theorem lc4 {i : Nat} {fe : DEnv → Res D} {ρ : DEnv} {d : D} (h0 : fe ((wipeD ρ [i]).set i (.d (.int 0))) = .ok d) (h1 : fe ((wipeD ρ [i]).set i (.d (.int 1))) = .ok d) (h2 : fe ((wipeD ρ [i]).set i (.d (.int 2))) = .ok d) (h3 : fe ((wipeD ρ [i]).set i (.d (.int 3))) = .ok d) :
    fLc (fRng gRng1 (fCons (fC (.int 4)) fNil)) [i] [i] hOne fYes fe ρ = .ok (.list [d, d, d, d]) := by
  refine x_lc (ds := [.int 0, .int 1, .int 2, .int 3]) rfl ?_ (by show 4 < 1000000; decide)
  unfold lcGo lcGo lcGo lcGo lcGo
  rw [l_1, l_1, l_1, l_1, h0, h1, h2, h3]
  rfl
end Lw
namespace Lw
open PySem L2 PD PDs
/-! ### dicts whose keys are settings -/
def key3 (t : T3) : List Key := [Sum.inl t.1, Sum.inl t.2.1, Sum.inl t.2.2]
theorem key3_inj {t u : T3} : key3 t = key3 u ↔ t = u := by
  obtain ⟨x, y, z⟩ := t
  obtain ⟨a, b, c⟩ := u
  constructor
  · intro h
    unfold key3 at h
    simp only [List.cons.injEq, Sum.inl.injEq, and_true] at h
    obtain ⟨h1, h2, h3⟩ := h
    rw [h1, h2, h3]
  · intro h
    rw [h]
theorem toKeyT_e3 {t : T3} (h : 0 ≤ t.2.2) : toKeyT (e3 t) = some (key3 t) := by
  obtain ⟨x, y, z⟩ := t
  have hz : decide (z = -1) = false := decide_eq_false (by have : 0 ≤ z := h; omega)
  have hs : isSigns [.int x, .int y, .int z] = false := by
    first
      | rfl
      | (show (decide (x = 1) && decide (y = 1) && decide (z = -1)) = false
         rw [hz, Bool.and_false])
  have hk : keyT [.int x, .int y, .int z] = true := by
    unfold keyT
    rw [hs]
    rfl
  show (if keyT [.int x, .int y, .int z] = true then some ([PyData.int x, .int y, .int z].map kOf) else none) = _
  rw [if_pos hk]
  rfl
abbrev Kok (t : T3) : Prop := toKeyT (e3 t) = some (key3 t)
theorem kok_in {c : Cam} (g : GoodC c) {t : T3} (h : In3 c t) : Kok t := toKeyT_e3 (in3_b g h).2.2.2.2.1
abbrev E3 := List (T3 × D)
def k3s (es : E3) : List (List Key × D) := es.map fun e => (key3 e.1, e.2)
def at3 (es : E3) (t : T3) : Option D := (es.find? fun e => decide (e.1 = t)).map (·.2)
theorem at3_nil (t : T3) : at3 [] t = none := rfl
theorem at3_cons (e : T3 × D) (es : E3) (t : T3) : at3 (e :: es) t = if e.1 = t then some e.2 else at3 es t := by
  unfold at3
  rw [List.find?_cons]
  by_cases h : e.1 = t
  · rw [if_pos h]
    simp [h]
  · rw [if_neg h]
    simp [h]
theorem at3_none {es : E3} {t : T3} : at3 es t = none ↔ t ∉ es.map (·.1) := by
  induction es with
  | nil => simp [at3_nil]
  | cons e es ih =>
    rw [at3_cons, List.map_cons, List.mem_cons]
    by_cases h : e.1 = t
    · rw [if_pos h]
      simp [h]
    · rw [if_neg h, ih]
      have : ¬ t = e.1 := fun z => h z.symm
      simp [this]
theorem at3_some {es : E3} {t : T3} (h : t ∈ es.map (·.1)) : ∃ d, at3 es t = some d := by
  cases e : at3 es t with
  | none => exact absurd h (at3_none.mp e)
  | some d => exact ⟨d, rfl⟩
theorem at3_isSome (es : E3) (t : T3) : (at3 es t).isSome = decide (t ∈ es.map (·.1)) := by
  by_cases h : t ∈ es.map (·.1)
  · obtain ⟨d, e⟩ := at3_some h
    rw [e, decide_eq_true h]
    rfl
  · rw [at3_none.mpr h, decide_eq_false h]
    rfl
theorem at3_mem {es : E3} {t : T3} {d : D} (h : at3 es t = some d) : (t, d) ∈ es := by
  induction es with
  | nil => cases h
  | cons e es ih =>
    rw [at3_cons] at h
    split at h
    · rename_i q
      cases h
      rw [← q]
      exact List.mem_cons_self
    · exact List.mem_cons_of_mem _ (ih h)
theorem at3_app {es fs : E3} {t : T3} : at3 (es ++ fs) t = if t ∈ es.map (·.1) then at3 es t else at3 fs t := by
  induction es with
  | nil => simp
  | cons e es ih =>
    rw [List.cons_append, at3_cons, at3_cons, ih]
    by_cases h : e.1 = t
    · rw [if_pos h, if_pos h, if_pos (by rw [List.map_cons, h]; exact List.mem_cons_self)]
    · rw [if_neg h, if_neg h]
      have : ¬ t = e.1 := fun z => h z.symm
      simp only [List.map_cons, List.mem_cons, this, false_or]
theorem kAt_k3s (es : E3) (t : T3) : kAt (k3s es) (key3 t) = at3 es t := by
  induction es with
  | nil => rfl
  | cons e es ih =>
    rw [at3_cons]
    show (if key3 e.1 = key3 t then some e.2 else kAt (k3s es) (key3 t)) = _
    rw [ih]
    by_cases h : e.1 = t
    · rw [if_pos (key3_inj.mpr h), if_pos h]
    · rw [if_neg (fun z => h (key3_inj.mp z)), if_neg h]
theorem kPut_k3s {es : E3} {t : T3} {d : D} (h : t ∉ es.map (·.1)) : kPut (k3s es) (key3 t) d = k3s (es ++ [(t, d)]) := by
  unfold kPut
  rw [if_neg]
  · unfold k3s
    rw [List.map_append]
    rfl
  · intro z
    rw [List.any_eq_true] at z
    obtain ⟨e, he, q⟩ := z
    obtain ⟨e', he', rfl⟩ := List.mem_map.mp he
    have := key3_inj.mp (of_decide_eq_true q)
    exact h (List.mem_map.mpr ⟨e', he', this⟩)
/-- in an owned dict -/
theorem oin_3 {es : E3} {t : T3} (ht : Kok t) {neg : Bool} {i j : Nat} {ρ : DEnv} (h1 : ρ[i]? = some (.ownT (k3s es))) (h2 : fVar j ρ = .ok (e3 t)) : gOin neg i (fVar j) ρ = .ok (if neg = true then !decide (t ∈ es.map (·.1)) else decide (t ∈ es.map (·.1))) := by
  unfold gOin onDk
  rw [h2, bind_ok, h1]
  show (match ownAt (.ownT (k3s es)) (e3 t) with
    | some o => Res.ok (if neg = true then !o.isSome else o.isSome)
    | _ => .bad) = _
  unfold ownAt
  dsimp only
  rw [ht]
  show Res.ok (if neg = true then !(kAt (k3s es) (key3 t)).isSome else (kAt (k3s es) (key3 t)).isSome) = _
  rw [kAt_k3s, at3_isSome]
theorem oget_3 {es : E3} {t : T3} (ht : Kok t) {i j : Nat} {ρ : DEnv} {d : D} (h1 : ρ[i]? = some (.ownT (k3s es))) (h2 : fVar j ρ = .ok (e3 t)) (h3 : at3 es t = some d) : fOget i (fVar j) ρ = .ok d := by
  unfold fOget onDk
  rw [h1]
  dsimp only
  rw [if_pos (show isDk (.ownT (k3s es)) = true from rfl), h2, bind_ok]
  unfold ownAt
  dsimp only
  rw [ht]
  show (match some (kAt (k3s es) (key3 t)) with | some (some d) => Res.ok d | _ => .bad) = _
  rw [kAt_k3s, h3]
theorem dput_3 {es : E3} {t : T3} (ht : Kok t) {i j : Nat} {ρ : DEnv} {d : D} {fv : DEnv → Res D} (h1 : ρ[i]? = some (.ownT (k3s es))) (h2 : fVar j ρ = .ok (e3 t)) (h3 : fv ρ = .ok d) (hn : t ∉ es.map (·.1)) (hl : es.length < 100000) :
    sDput i fv (fVar j) ρ = .next (ρ.set i (.ownT (k3s (es ++ [(t, d)])))) := by
  unfold sDput
  rw [h1]
  dsimp only
  rw [if_pos (show isDk (.ownT (k3s es)) = true from rfl), h3, y_ok, h2, y_ok]
  have e : slotPut (.ownT (k3s es)) (e3 t) d = some (.ownT (k3s (es ++ [(t, d)]))) := by
    unfold slotPut
    dsimp only
    rw [if_pos (show lenOk ((k3s es).length + 1) = true from decide_eq_true (by unfold k3s; rw [List.length_map]; omega)), ht]
    show some (Slot.ownT (kPut (k3s es) (key3 t) d)) = _
    rw [kPut_k3s hn]
  rw [e]
/-- the dict as data -/
def dict3 (es : E3) : D := .dict (es.map fun e => (e3 e.1, e.2))
theorem view_3 (es : E3) : view (.ownT (k3s es)) = .d (dict3 es) := by
  show Slot.d (.dict ((k3s es).map fun e => (.tuple (e.1.map kD), e.2))) = _
  unfold dict3 k3s
  rw [List.map_map]
  rfl
theorem look_3 {es : E3} (hn : es ≠ []) (hk : ∀ e ∈ es, Kok e.1) {t : T3} (ht : Kok t) : dLook (es.map fun e => (e3 e.1, e.2)) (e3 t) = some (at3 es t) := by
  have h1 : (es.map fun e => (e3 e.1, e.2)).isEmpty = false := by
    cases es with
    | nil => exact absurd rfl hn
    | cons e es => rfl
  have h2 : plainK (es.map fun e => (e3 e.1, e.2)) = false := by
    cases es with
    | nil => exact absurd rfl hn
    | cons e es => rfl
  have h3 : tupK (es.map fun e => (e3 e.1, e.2)) = true := by
    clear hn h1 h2
    induction es with
    | nil => rfl
    | cons e es ih =>
      show ((toKeyT (e3 e.1)).isSome && tupK (es.map fun e => (e3 e.1, e.2))) = true
      rw [hk e List.mem_cons_self, ih fun e' h => hk e' (List.mem_cons_of_mem _ h)]
      rfl
  have h4 : dAtT (es.map fun e => (e3 e.1, e.2)) (key3 t) = at3 es t := by
    clear hn h1 h2 h3
    induction es with
    | nil => rfl
    | cons e es ih =>
      rw [at3_cons]
      show (if toKeyT (e3 e.1) = some (key3 t) then some e.2 else dAtT (es.map fun e => (e3 e.1, e.2)) (key3 t)) = _
      rw [hk e List.mem_cons_self, ih fun e' h => hk e' (List.mem_cons_of_mem _ h)]
      by_cases h : e.1 = t
      · rw [if_pos (by rw [key3_inj.mpr h]), if_pos h]
      · rw [if_neg (fun z => h (key3_inj.mp (Option.some.inj z))), if_neg h]
  unfold dLook
  rw [h1, h2, h3, ht]
  show some (dAtT (es.map fun e => (e3 e.1, e.2)) (key3 t)) = _
  rw [h4]
theorem sin_3 {es : E3} (hn : es ≠ []) (hk : ∀ e ∈ es, Kok e.1) {t : T3} (ht : Kok t) (neg : Bool) : gSin neg (e3 t) (dict3 es) = .ok (.bool (if neg = true then !decide (t ∈ es.map (·.1)) else decide (t ∈ es.map (·.1)))) := by
  unfold gSin dict3
  show (match dLook (es.map fun e => (e3 e.1, e.2)) (e3 t) with
    | some o => Res.ok (PyData.bool (if neg = true then !o.isSome else o.isSome))
    | _ => .bad) = _
  rw [look_3 hn hk ht]
  dsimp only
  rw [at3_isSome]
theorem six_3 {es : E3} (hk : ∀ e ∈ es, Kok e.1) {t : T3} (ht : Kok t) {d : D} (h : at3 es t = some d) : gSix (dict3 es) (e3 t) = .ok d := by
  have hn : es ≠ [] := fun z => by rw [z] at h; cases h
  unfold gSix dict3
  show (match dLook (es.map fun e => (e3 e.1, e.2)) (e3 t) with | some (some x) => Res.ok x | _ => .bad) = _
  rw [look_3 hn hk ht, h]
/-! ### what a walk finds anew -/
def nw (ks : List T3) : List T3 → List T3
  | [] => []
  | u :: us => if u ∈ ks then nw ks us else u :: nw (ks ++ [u]) us
theorem nw_cons (ks : List T3) (u : T3) (us : List T3) : nw ks (u :: us) = if u ∈ ks then nw ks us else u :: nw (ks ++ [u]) us := rfl
theorem nw_app (ks us vs : List T3) : nw ks (us ++ vs) = nw ks us ++ nw (ks ++ nw ks us) vs := by
  induction us generalizing ks with
  | nil => simp [nw]
  | cons u us ih =>
    rw [List.cons_append, nw_cons, nw_cons]
    by_cases h : u ∈ ks
    · rw [if_pos h, if_pos h, ih]
    · rw [if_neg h, if_neg h, ih, List.cons_append, List.append_assoc]
      rfl
theorem mem_nw {ks us : List T3} {t : T3} : t ∈ nw ks us ↔ t ∈ us ∧ t ∉ ks := by
  induction us generalizing ks with
  | nil => simp [nw]
  | cons u us ih =>
    unfold nw
    by_cases h : u ∈ ks
    · rw [if_pos h, ih]
      constructor
      · rintro ⟨a, b⟩
        exact ⟨List.mem_cons_of_mem _ a, b⟩
      · rintro ⟨a, b⟩
        rcases List.mem_cons.mp a with q | q
        · rw [q] at b
          exact absurd h b
        · exact ⟨q, b⟩
    · rw [if_neg h, List.mem_cons, ih]
      constructor
      · rintro (q | ⟨a, b⟩)
        · rw [q]
          exact ⟨List.mem_cons_self, h⟩
        · exact ⟨List.mem_cons_of_mem _ a, fun z => b (List.mem_append_left _ z)⟩
      · rintro ⟨a, b⟩
        by_cases q : t = u
        · exact .inl q
        · rcases List.mem_cons.mp a with z | z
          · exact absurd z q
          · refine .inr ⟨z, fun w => ?_⟩
            rcases List.mem_append.mp w with w | w
            · exact b w
            · exact q (List.mem_singleton.mp w)
theorem nw_nodup {ks us : List T3} (h : ks.Nodup) : (ks ++ nw ks us).Nodup := by
  induction us generalizing ks with
  | nil => simpa [nw] using h
  | cons u us ih =>
    unfold nw
    by_cases q : u ∈ ks
    · rw [if_pos q]
      exact ih h
    · rw [if_neg q]
      have : (ks ++ [u]).Nodup := by
        rw [List.nodup_append]
        exact ⟨h, by simp, fun a ha b hb z => by rw [List.mem_singleton.mp hb] at z; rw [z] at ha; exact q ha⟩
      have := ih this
      rw [List.append_assoc] at this
      exact this
theorem w_stop {g : DEnv → Res Bool} {B : DEnv → SR} {n : Nat} {ρ : DEnv} (h : g (viewAll ρ) = .ok false) : whileGo g B (n + 1) ρ = .next ρ := by
  conv => lhs; unfold whileGo
  rw [h]
  rfl
theorem w_go {g : DEnv → Res Bool} {B : DEnv → SR} {n : Nat} {ρ ρ' : DEnv} (h : g (viewAll ρ) = .ok true) (hb : B ρ = .next ρ') : whileGo g B (n + 1) ρ = whileGo g B n ρ' := by
  conv => lhs; unfold whileGo
  rw [h]
  dsimp only
  rw [if_pos rfl, hb]
end Lw
namespace Lw
open PySem L2 PD PDs
theorem light2_ok (ns : List Int) (hl : ns.length ≤ 63) {c : Cam} (g : GoodC c) (at_ : Int) (h0 : 0 ≤ at_) (h1 : at_ ≤ 80000) : ∃ t v, In3 c t ∧ -1 ≤ v ∧ v ≤ 9 ∧ F_law_light [.list (iL ns), .int at_, cD c] = .ok (.int (num t + v)) := by
  have hp := tri_pos g
  obtain ⟨p, e1, a1, b1⟩ := pick_ok ns hl at_ ((tri c).length : Nat) h0 (by omega) (by omega)
  obtain ⟨q, e2, a2, b2⟩ := pick_ok ns hl (at_ + 1) 6 (by omega) (by omega) (by omega)
  obtain ⟨t, e5, hi⟩ := ix_tri (c := c) a1 b1
  have e7 : ∃ v : Int, gIx (.tuple [.int 0, .int 0, .int 0, .int 1, .int (-1), .int 9]) (.int q) = .ok (.int v) ∧ -1 ≤ v ∧ v ≤ 9 := by
    have hq : q = 0 ∨ q = 1 ∨ q = 2 ∨ q = 3 ∨ q = 4 ∨ q = 5 := by omega
    rcases hq with rfl | rfl | rfl | rfl | rfl | rfl
    · exact ⟨0, rfl, by decide, by decide⟩
    · exact ⟨0, rfl, by decide, by decide⟩
    · exact ⟨0, rfl, by decide, by decide⟩
    · exact ⟨1, rfl, by decide, by decide⟩
    · exact ⟨-1, rfl, by decide, by decide⟩
    · exact ⟨9, rfl, by decide, by decide⟩
  obtain ⟨v, e8, v0, v1⟩ := e7
  refine ⟨t, v, hi, v0, v1, ?_⟩
  unfold F_law_light B_law_light
  walk_at "ev"
  rw [every_good g, tri_eq]
  walk_at "ev"
  rw [List.length_map, e1]
  walk_at "ev"
  rw [e5]
  walk_at "ev"
  rw [show F_law_number [e3 t] = .ok (.int (num t)) from number_eq _ _ _]
  walk_at "ev"
  rw [e2]
  walk_at "ev"
  rw [show mkT [PyData.int 0, .int 0, .int 0, .int 1, .int (-1), .int 9] = .ok (.tuple [.int 0, .int 0, .int 0, .int 1, .int (-1), .int 9]) from rfl, bind_ok, e8]
  rfl
end Lw
namespace Lw
open PySem L2 PD PDs
/-! ### drawn cameras are small -/
theorem bw_len {l m s mx : Int} (g : GoodW l m s) (h : BW l m s mx) (hx : mx ≤ 5) : (wv l m s).length ≤ mx.toNat ∧ m ≤ 39 := by
  obtain ⟨n, r, h1, h2, h3, h4, h5, e⟩ := h
  have := g.s0
  have := g.s1
  have hdiv : (m - l) / s = n := by
    rw [e, show l + s * n + r - l = r + s * n by omega, Int.add_mul_ediv_left _ _ (by omega), Int.ediv_eq_zero_of_lt h4 h5]
    omega
  constructor
  · unfold wv
    rw [List.length_map, List.length_range]
    unfold rngN
    have := g.m0
    rw [if_pos (by omega), show m + 1 - l - 1 = m - l by omega, hdiv]
    omega
  · have : s * n ≤ 3 * n := Int.mul_le_mul_of_nonneg_right (by omega) h2
    omega
theorem box_tri {c : Cam} {mx : Int} (g : GoodC c) (h : BoxB c mx) (hx : mx ≤ 5) : (tri c).length ≤ 125 := by
  rw [tri_len, sets_len]
  have a := (bw_len g.w1 h.w1 hx).1
  have b := (bw_len g.w2 h.w2 hx).1
  have d := (bw_len g.w3 h.w3 hx).1
  exact Nat.mul_le_mul (Nat.mul_le_mul (Nat.le_trans a (show mx.toNat ≤ 5 by omega)) (Nat.le_trans b (show mx.toNat ≤ 5 by omega))) (Nat.le_trans d (show mx.toNat ≤ 5 by omega))
theorem box_num {c : Cam} {mx : Int} (g : GoodC c) (h : BoxB c mx) (hx : mx ≤ 5) {t : T3} (ht : In3 c t) : -40 ≤ num t ∧ num t ≤ 80 := by
  have aux : ∀ {l m s x : Int}, GoodW l m s → m ≤ 39 → x ∈ wv l m s → 0 ≤ x ∧ x ≤ 39 := fun {l m s x} gw hm h => by
    obtain ⟨h1, h2, _⟩ := (mem_wv gw.m0 (by have := gw.s0; omega)).mp h
    have := gw.l0
    omega
  have a := aux g.w1 (bw_len g.w1 h.w1 hx).2 ht.a
  have b := aux g.w2 (bw_len g.w2 h.w2 hx).2 ht.b
  have d := aux g.w3 (bw_len g.w3 h.w3 hx).2 ht.d
  unfold num
  omega
end Lw
namespace Lw
open PySem L2 PD PDs
/-! ### sorted(list of ints), slices from the end -/
theorem sortD_ints (ns : List Int) (h : ns.length ≤ 1000) : ∃ ms : List Int, gSortD [.list (iL ns)] = .ok (.list (iL ms)) ∧ ms.Perm ns := by
  refine ⟨ns.mergeSort fun a b => PySem.W.dataLe false id (PyData.int a) (PyData.int b), ?_, List.mergeSort_perm _ _⟩
  have h1 : allAl (iL ns) = true := allAl_iff.mpr fun x hx y hy => by
    obtain ⟨t, _, rfl⟩ := List.mem_map.mp hx
    obtain ⟨u, _, rfl⟩ := List.mem_map.mp hy
    simp [PySem.W.alike]
  have h2 : noNone (iL ns) = true := List.all_eq_true.mpr fun x hx => by
    obtain ⟨t, _, rfl⟩ := List.mem_map.mp hx
    rfl
  have ho : ordOk (iL ns) = true := by
    unfold ordOk
    rw [h1, h2, sh_ints]
    rfl
  have hs : sortOk (iL ns) = true := by
    unfold sortOk
    simp only [Bool.and_eq_true, Bool.or_eq_true]
    refine ⟨⟨ho, .inr (List.all_eq_true.mpr fun x hx => ?_)⟩, ?_⟩
    · obtain ⟨t, _, rfl⟩ := List.mem_map.mp hx
      rfl
    · rw [iL_len]
      exact decide_eq_true (by omega)
  unfold gSortD
  dsimp only
  rw [if_pos hs]
  congr 2
  exact (List.map_mergeSort (f := PyData.int) (r := fun a b => PySem.W.dataLe false id (PyData.int a) (PyData.int b)) (fun a _ b _ => rfl)).symm
theorem cut_last (xs : List D) (l : D) : gSl (.list (xs ++ [l])) (some (-1)) none = .ok (.list [l]) := by
  show Res.ok (PyData.list (cutD (xs ++ [l]) (some (-1)) none)) = _
  have e : HT.sIx (xs ++ [l]).length 0 (some (-1)) = xs.length := by
    unfold HT.sIx
    dsimp only
    rw [if_pos (by decide), List.length_append]
    simp only [List.length_cons, List.length_nil]
    omega
  unfold cutD
  rw [e, HT.sIx_none, List.drop_left, List.length_append, Nat.add_sub_cancel_left]
  rfl
theorem cut_init (xs : List D) (l : D) : gSl (.list (xs ++ [l])) none (some (-1)) = .ok (.list xs) := by
  show Res.ok (PyData.list (cutD (xs ++ [l]) none (some (-1)))) = _
  have e : HT.sIx (xs ++ [l]).length (xs ++ [l]).length (some (-1)) = xs.length := by
    unfold HT.sIx
    dsimp only
    rw [if_pos (by decide), List.length_append]
    simp only [List.length_cons, List.length_nil]
    omega
  unfold cutD
  rw [e, HT.sIx_none, List.drop_zero, Nat.sub_zero, List.take_left]
theorem lr1_D {n : Nat} (h : n ≤ 1000) : gLR (.int 0) (.int (n : Nat)) = .ok (.list (iL (up 0 n))) := by
  unfold gLR
  dsimp only
  rw [if_pos (by unfold rng2Ok; simp only [Bool.and_eq_true, decide_eq_true_eq]; omega), show ((n : Int) - 0).toNat = n by omega, up_D]
theorem x_call7 (F : List D → Res D) (f1 f2 f3 f4 f5 f6 f7 : DEnv → Res D) (ρ : DEnv) : fCall 7 F (fCons f1 (fCons f2 (fCons f3 (fCons f4 (fCons f5 (fCons f6 (fCons f7 fNil))))))) ρ = (f1 ρ).bind fun a1 => (f2 ρ).bind fun a2 => (f3 ρ).bind fun a3 => (f4 ρ).bind fun a4 => (f5 ρ).bind fun a5 => (f6 ρ).bind fun a6 => (f7 ρ).bind fun a7 => F [a1, a2, a3, a4, a5, a6, a7] := by
  unfold fCall fCons fNil
  cases f1 ρ <;> first | rfl | (cases f2 ρ <;> first | rfl | (cases f3 ρ <;> first | rfl | (cases f4 ρ <;> first | rfl | (cases f5 ρ <;> first | rfl | (cases f6 ρ <;> first | rfl | (cases f7 ρ <;> rfl))))))
theorem x_lr1 (f : DEnv → Res D) (ρ : DEnv) : fLR1 f ρ = (f ρ).bind fun x => gLR (.int 0) x := rfl
end Lw
namespace Lw
open PySem L2 PD PDs
/-! ### shifts, and what is reached by them -/
def chg (t u : T3) : Nat := (if t.1 = u.1 then 0 else 1) + (if t.2.1 = u.2.1 then 0 else 1) + (if t.2.2 = u.2.2 then 0 else 1)
theorem chg_symm (t u : T3) : chg t u = chg u t := by
  unfold chg
  simp only [eq_comm]
def shf (gd : List T3) (t : T3) : List T3 := gd.filter fun u => decide (chg t u = 2)
theorem mem_shf {gd : List T3} {t u : T3} : u ∈ shf gd t ↔ u ∈ gd ∧ chg t u = 2 := by
  unfold shf
  rw [List.mem_filter, decide_eq_true_iff]
inductive Rch (N : T3 → List T3) (s : T3) : T3 → Prop
  | self : Rch N s s
  | more {t u : T3} : Rch N s t → u ∈ N t → Rch N s u
theorem Rch.trans {N : T3 → List T3} {s t u : T3} (h1 : Rch N s t) (h2 : Rch N t u) : Rch N s u := by
  induction h2 with
  | self => exact h1
  | more _ hn ih => exact .more ih hn
/-- from s, within gd, by shifts -/
theorem Rch.in {gd : List T3} {s t : T3} (hs : s ∈ gd) (h : Rch (shf gd) s t) : t ∈ gd := by
  induction h with
  | self => exact hs
  | more _ hn _ => exact (mem_shf.mp hn).1
theorem Rch.symm {gd : List T3} {s t : T3} (hs : s ∈ gd) (h : Rch (shf gd) s t) : Rch (shf gd) t s := by
  induction h with
  | self => exact .self
  | @more t u h1 hn ih => exact Rch.trans (.more .self (mem_shf.mpr ⟨h1.in hs, by rw [chg_symm]; exact (mem_shf.mp hn).2⟩)) ih
abbrev keys3 (es : E3) : List T3 := es.map (·.1)
def lvl (k : Nat) (us : List T3) : E3 := us.map fun t => (t, PyData.int (k : Nat))
theorem lvl_keys (k : Nat) (us : List T3) : keys3 (lvl k us) = us := by
  unfold keys3 lvl
  rw [List.map_map]
  exact List.map_id _
theorem lvl_at (k : Nat) {us : List T3} {t : T3} (h : t ∈ us) : at3 (lvl k us) t = some (.int (k : Nat)) := by
  obtain ⟨d, hd⟩ := at3_some (es := lvl k us) (t := t) (by show t ∈ keys3 (lvl k us); rw [lvl_keys]; exact h)
  obtain ⟨u, _, e⟩ := List.mem_map.mp (at3_mem hd)
  cases e
  exact hd
/-- level by level -/
def bfs (N : T3 → List T3) : Nat → Nat → E3 → List T3 → E3
  | 0, _, es, _ => es
  | n + 1, k, es, last => if last = [] then es else bfs N n (k + 1) (es ++ lvl (k + 1) (nw (keys3 es) (last.flatMap N))) (nw (keys3 es) (last.flatMap N))
structure Bst (gd : List T3) (s : T3) (k : Nat) (es : E3) (last : List T3) : Prop where
  nd : (keys3 es).Nodup
  sub : ∀ t ∈ keys3 es, t ∈ gd
  ini : s ∈ keys3 es
  lst : ∀ t ∈ last, at3 es t = some (.int (k : Nat))
  cls : ∀ t ∈ keys3 es, t ∉ last → ∀ u ∈ shf gd t, u ∈ keys3 es
  rch : ∀ t ∈ keys3 es, Rch (shf gd) s t
theorem Bst.mem {gd : List T3} {s : T3} {k : Nat} {es : E3} {last : List T3} (b : Bst gd s k es last) {t : T3} (h : t ∈ last) : t ∈ keys3 es := List.mem_map.mpr ⟨_, at3_mem (b.lst t h), rfl⟩
theorem Bst.start {gd : List T3} {s : T3} (hs : s ∈ gd) : Bst gd s 0 [(s, .int 0)] [s] := by
  refine ⟨by simp, fun t h => ?_, by simp, fun t h => ?_, fun t h1 h2 => absurd (by simpa using h1) (by simpa using h2), fun t h => ?_⟩
  · have : t = s := by simpa using h
    rw [this]; exact hs
  · have : t = s := by simpa using h
    rw [this, at3_cons, if_pos rfl]; rfl
  · have : t = s := by simpa using h
    rw [this]; exact .self
theorem Bst.next {gd : List T3} {s : T3} {k : Nat} {es : E3} {last : List T3} (b : Bst gd s k es last) : Bst gd s (k + 1) (es ++ lvl (k + 1) (nw (keys3 es) (last.flatMap (shf gd)))) (nw (keys3 es) (last.flatMap (shf gd))) := by
  have ek : keys3 (es ++ lvl (k + 1) (nw (keys3 es) (last.flatMap (shf gd)))) = keys3 es ++ nw (keys3 es) (last.flatMap (shf gd)) := by
    show (es ++ _).map (·.1) = _
    rw [List.map_append]
    exact congrArg _ (lvl_keys _ _)
  have new : ∀ t ∈ nw (keys3 es) (last.flatMap (shf gd)), (∃ u ∈ last, t ∈ shf gd u) ∧ t ∉ keys3 es := fun t h => by
    obtain ⟨h1, h2⟩ := mem_nw.mp h
    exact ⟨List.mem_flatMap.mp h1, h2⟩
  refine ⟨by rw [ek]; exact nw_nodup b.nd, fun t h => ?_, by rw [ek]; exact List.mem_append_left _ b.ini, fun t h => ?_, fun t h1 h2 u hu => ?_, fun t h => ?_⟩
  · rw [ek] at h
    rcases List.mem_append.mp h with z | z
    · exact b.sub t z
    · obtain ⟨⟨u, _, q⟩, _⟩ := new t z
      exact (mem_shf.mp q).1
  · rw [at3_app, if_neg (new t h).2]
    exact lvl_at (k + 1) h
  · rw [ek] at h1 ⊢
    rcases List.mem_append.mp h1 with z | z
    · by_cases hl : t ∈ last
      · by_cases hk : u ∈ keys3 es
        · exact List.mem_append_left _ hk
        · exact List.mem_append_right _ (mem_nw.mpr ⟨List.mem_flatMap.mpr ⟨t, hl, hu⟩, hk⟩)
      · exact List.mem_append_left _ (b.cls t z hl u hu)
    · exact absurd z h2
  · rw [ek] at h
    rcases List.mem_append.mp h with z | z
    · exact b.rch t z
    · obtain ⟨⟨u, q1, q2⟩, _⟩ := new t z
      exact .more (b.rch u (b.mem q1)) q2
/-- how many levels are left at most -/
def needB (gd : List T3) (es : E3) (last : List T3) : Nat := if last = [] then 1 else gd.length - es.length + 2
theorem Bst.len {gd : List T3} {s : T3} {k : Nat} {es : E3} {last : List T3} (b : Bst gd s k es last) : es.length ≤ gd.length := by
  have := nodup_sub_len b.nd b.sub
  rwa [List.length_map] at this
theorem Bst.need {gd : List T3} {s : T3} {k : Nat} {es : E3} {last : List T3} (b : Bst gd s k es last) (hl : last ≠ []) {n : Nat} (h : needB gd es last ≤ n + 1) : needB gd (es ++ lvl (k + 1) (nw (keys3 es) (last.flatMap (shf gd)))) (nw (keys3 es) (last.flatMap (shf gd))) ≤ n := by
  have h2 := b.next.len
  have h3 := b.len
  unfold needB at h ⊢
  rw [if_neg hl] at h
  have e : (lvl (k + 1) (nw (keys3 es) (last.flatMap (shf gd)))).length = (nw (keys3 es) (last.flatMap (shf gd))).length := by unfold lvl; rw [List.length_map]
  rw [List.length_append, e] at h2
  split
  · omega
  · rename_i hn
    have : 0 < (nw (keys3 es) (last.flatMap (shf gd))).length := List.length_pos_iff.mpr hn
    rw [List.length_append, e]
    omega
/-- what is found at the end -/
structure Fnd (gd : List T3) (s : T3) (es : E3) : Prop where
  nd : (keys3 es).Nodup
  key : ∀ t, t ∈ keys3 es ↔ Rch (shf gd) s t
  sub : ∀ t ∈ keys3 es, t ∈ gd
theorem bfs_fnd {gd : List T3} {s : T3} : ∀ (n k : Nat) (es : E3) (last : List T3), Bst gd s k es last → needB gd es last ≤ n → Fnd gd s (bfs (shf gd) n k es last)
  | 0, k, es, last, b, h => by
    unfold needB at h
    split at h <;> omega
  | n + 1, k, es, last, b, h => by
    unfold bfs
    split
    · rename_i hl
      refine ⟨b.nd, fun t => ⟨b.rch t, fun hr => ?_⟩, b.sub⟩
      induction hr with
      | self => exact b.ini
      | more _ hn ih => exact b.cls _ ih (by rw [hl]; exact List.not_mem_nil) _ hn
    · rename_i hl
      exact bfs_fnd n (k + 1) _ _ b.next (b.need hl h)
/-- the least numbers of shifts from s -/
def RR (gd : List T3) (s : T3) : E3 := bfs (shf gd) 100000 0 [(s, .int 0)] [s]
theorem RR_fnd {gd : List T3} {s : T3} (hs : s ∈ gd) (hl : gd.length < 99000) : Fnd gd s (RR gd s) := bfs_fnd _ _ _ _ (Bst.start hs) (by unfold needB; rw [if_neg (by simp)]; show gd.length - 1 + 2 ≤ _; omega)
end Lw
namespace Lw
open PySem L2 PD PDs
/-! ### find_shifts, spread, _law_reached -/
theorem pairs3 (t u : T3) : (([(t.1, u.1), (t.2.1, u.2.1), (t.2.2, u.2.2)] : List (Int × Int)).filter fun p => !(p.1 == p.2)).length = chg t u := by
  obtain ⟨x, y, z⟩ := t
  obtain ⟨a, b, c⟩ := u
  unfold chg
  by_cases h1 : x = a <;> by_cases h2 : y = b <;> by_cases h3 : z = c <;> simp [h1, h2, h3]
theorem count_changed_eq (t u : T3) : F_count_changed [e3 t, e3 u] = .ok (.int (chg t u : Nat)) := by
  obtain ⟨x, y, z⟩ := t
  obtain ⟨a, b, c⟩ := u
  have e : fLc (fRng gZip (fCons (fVar 0) (fCons (fVar 1) fNil))) [2, 3] [2, 3] (hTup 2) (fTest (fBin gNe (fVar 2) (fVar 3))) (fC (.int 1)) [.d (i3 x y z), .d (i3 a b c), .un, .un] = .ok (.list ((([(x, a), (y, b), (z, c)] : List (Int × Int)).filter fun p => !(p.1 == p.2)).map fun _ => PyData.int 1)) := by
    refine lc_fm (fun p : Int × Int => PyData.tuple [.int p.1, .int p.2]) _ _ _ rfl (fun p _ => ?_) (by show 3 < 1000000; decide)
    obtain ⟨i, j⟩ := p
    unfold lcStep
    show (fTest (fBin gNe (fVar 2) (fVar 3)) [.d (i3 x y z), .d (i3 a b c), .d (.int i), .d (.int j)]).bind _ = _
    walk_at "ev"
    cases (i == j) <;> rfl
  unfold F_count_changed B_count_changed
  rw [y_fn, show startD 4 [e3 (x, y, z), e3 (a, b, c)] = [.d (i3 x y z), .d (i3 a b c), .un, .un] from rfl, y_rt]
  have h := pairs3 (x, y, z) (a, b, c)
  simp_arith [e, List.length_map, h]
theorem find_shifts_eq {gd : List T3} (hl : gd.length < 1000) (t : T3) : F_find_shifts [.list (gd.map e3), e3 t] = .ok (.list ((shf gd t).map e3)) := by
  have e : fLc (fSeq (fVar 0)) [2] [2] hOne (fTest (fBin gEq (fCall 2 F_count_changed (fCons (fVar 1) (fCons (fVar 2) fNil))) (fC (.int 2)))) (fVar 2) [.d (.list (gd.map e3)), .d (e3 t), .un] = .ok (.list ((shf gd t).map e3)) := by
    refine lc_fm e3 gd (fun u => decide (chg t u = 2)) e3 rfl (fun u _ => ?_) (by omega)
    rw [l_1t]
    walk_at "ev"
    rw [count_changed_eq]
    walk_at "ev"
    have : (((chg t u : Nat) : Int) == 2) = decide (chg t u = 2) := by
      rw [Bool.eq_iff_iff, beq_iff_eq, decide_eq_true_iff]
      omega
    rw [this]
    cases decide (chg t u = 2) <;> rfl
  unfold F_find_shifts B_find_shifts
  rw [y_fn, show startD 3 [.list (gd.map e3), e3 t] = [.d (.list (gd.map e3)), .d (e3 t), .un] from rfl, y_rt, e]
  rfl
end Lw
namespace Lw
open PySem L2 PD PDs
/-! ### spread, _law_reached: the loops -/
theorem at3_keep {es fs : E3} {t : T3} {d : D} (h : at3 es t = some d) : at3 (es ++ fs) t = some d := by
  have : t ∈ es.map (·.1) := List.mem_map.mpr ⟨_, at3_mem h, rfl⟩
  rw [at3_app, if_pos this, h]
theorem lvl_snoc (k : Nat) (us vs : List T3) : lvl k (us ++ vs) = lvl k us ++ lvl k vs := List.map_append
theorem keys_app (es : E3) (k : Nat) (us : List T3) : keys3 (es ++ lvl k us) = keys3 es ++ us := by
  show (es ++ _).map (·.1) = _
  rw [List.map_append]
  exact congrArg _ (lvl_keys _ _)
theorem sp_in {k : Nat} {t : T3} (ht : Kok t) (s0 s1 s3 : Slot) : ∀ (us : List T3) (es : E3) (lt : List T3) (s6 : Slot), (∀ u ∈ us, Kok u) → at3 es t = some (.int (k : Nat)) → es.length + us.length < 90000 → lt.length + us.length < 90000 →
    ∃ t6, forGo (asgOf [6] hOne) L_spread_0 (us.map e3) [s0, s1, .ownT (k3s es), s3, .own (lt.map e3), .d (e3 t), s6] = .next [s0, s1, .ownT (k3s (es ++ lvl (k + 1) (nw (keys3 es) us))), s3, .own ((lt ++ nw (keys3 es) us).map e3), .d (e3 t), t6]
  | [], es, lt, s6, _, _, _, _ => ⟨s6, by simp only [nw, lvl, List.map_nil, List.append_nil]; rfl⟩
  | u :: us, es, lt, s6, h, ha, hk, hl => by
    rw [List.length_cons] at hk hl
    have hu := h u List.mem_cons_self
    have eo : gOin true 2 (fVar 6) [s0, s1, .ownT (k3s es), s3, .own (lt.map e3), .d (e3 t), .d (e3 u)] = .ok (!decide (u ∈ keys3 es)) := by
      rw [oin_3 hu rfl rfl]
      rfl
    by_cases hm : u ∈ keys3 es
    · obtain ⟨t6, ih⟩ := sp_in ht s0 s1 s3 us es lt (.d (e3 u)) (fun v hv => h v (List.mem_cons_of_mem _ hv)) ha (by omega) (by omega)
      refine ⟨t6, ?_⟩
      have e : L_spread_0 [s0, s1, .ownT (k3s es), s3, .own (lt.map e3), .d (e3 t), .d (e3 u)] = .next [s0, s1, .ownT (k3s es), s3, .own (lt.map e3), .d (e3 t), .d (e3 u)] := by
        unfold L_spread_0 sIfO
        rw [eo, y_ok, decide_eq_true hm]
        rfl
      rw [List.map_cons, f_cons rfl e, ih, nw_cons, if_pos hm]
    · obtain ⟨t6, ih⟩ := sp_in ht s0 s1 s3 us (es ++ lvl (k + 1) [u]) (lt ++ [u]) (.d (e3 u)) (fun v hv => h v (List.mem_cons_of_mem _ hv)) (at3_keep ha) (by rw [List.length_append]; show es.length + 1 + _ < _; omega) (by rw [List.length_append]; simp only [List.length_cons, List.length_nil]; omega)
      refine ⟨t6, ?_⟩
      have e : L_spread_0 [s0, s1, .ownT (k3s es), s3, .own (lt.map e3), .d (e3 t), .d (e3 u)] = .next [s0, s1, .ownT (k3s (es ++ lvl (k + 1) [u])), s3, .own ((lt ++ [u]).map e3), .d (e3 t), .d (e3 u)] := by
        unfold L_spread_0 sIfO
        rw [eo, y_ok, decide_eq_false hm]
        show (sSeq (sDput 2 (fBin gAdd (fOget 2 (fVar 5)) (fC (.int 1))) (fVar 6)) (sApp (fVar 6) 4)) _ = _
        have ev : fBin gAdd (fOget 2 (fVar 5)) (fC (.int 1)) [s0, s1, .ownT (k3s es), s3, .own (lt.map e3), .d (e3 t), .d (e3 u)] = .ok (.int ((k + 1 : Nat) : Int)) := by
          unfold fBin
          rw [oget_3 ht rfl rfl ha, bind_ok]
          rfl
        rw [y_seq, dput_3 (d := .int ((k + 1 : Nat) : Int)) hu rfl rfl ev hm (by omega), y_next]
        simp only [set0, setS']
        rw [y_app (xs := lt.map e3) (d := e3 u) rfl rfl (by rw [List.length_map]; omega)]
        simp only [set0, setS']
        rw [List.map_append]
        rfl
      rw [keys_app] at ih
      rw [List.map_cons, f_cons rfl e, ih, nw_cons, if_neg hm, List.append_assoc, List.append_assoc, ← lvl_snoc]
      rfl
end Lw
namespace Lw
open PySem L2 PD PDs
theorem nw_len3 : ∀ (us ks : List T3), (nw ks us).length ≤ us.length
  | [], _ => Nat.le_refl _
  | u :: us, ks => by
    rw [nw_cons, List.length_cons]
    split
    · have := nw_len3 us ks; omega
    · rw [List.length_cons]; have := nw_len3 us (ks ++ [u]); omega
/-- a body that walks the neighbours of slot 5 -/
def Walks1 (gd : List T3) (s0 s1 : Slot) (L1 : DEnv → SR) : Prop := ∀ t ∈ gd, ∀ s2 s3 s4 s6 : Slot, L1 [s0, s1, s2, s3, s4, .d (e3 t), s6] = forGo (asgOf [6] hOne) L_spread_0 ((shf gd t).map e3) [s0, s1, s2, s3, s4, .d (e3 t), s6]
theorem shf_len (gd : List T3) (t : T3) : (shf gd t).length ≤ gd.length := List.length_filter_le _ _
theorem sp_level {gd : List T3} (hk : ∀ t ∈ gd, Kok t) (hg : gd.length < 200) {s0 s1 : Slot} {L1 : DEnv → SR} (w : Walks1 gd s0 s1 L1) {k : Nat} (s3 : Slot) : ∀ (ts : List T3) (es : E3) (lt : List T3) (s5 s6 : Slot), (∀ t ∈ ts, t ∈ gd ∧ at3 es t = some (.int (k : Nat))) → es.length + 200 * ts.length < 90000 → lt.length + 200 * ts.length < 90000 →
    ∃ t5 t6, forGo (asgOf [5] hOne) L1 (ts.map e3) [s0, s1, .ownT (k3s es), s3, .own (lt.map e3), s5, s6] = .next [s0, s1, .ownT (k3s (es ++ lvl (k + 1) (nw (keys3 es) (ts.flatMap (shf gd))))), s3, .own ((lt ++ nw (keys3 es) (ts.flatMap (shf gd))).map e3), t5, t6]
  | [], es, lt, s5, s6, _, _, _ => ⟨s5, s6, by simp only [List.flatMap_nil, nw, lvl, List.map_nil, List.append_nil]; rfl⟩
  | t :: ts, es, lt, s5, s6, h, h1, h2 => by
    rw [List.length_cons] at h1 h2
    obtain ⟨ht, ha⟩ := h t List.mem_cons_self
    have hs := shf_len gd t
    have hn := nw_len3 (shf gd t) (keys3 es)
    have hlv : (lvl (k + 1) (nw (keys3 es) (shf gd t))).length = (nw (keys3 es) (shf gd t)).length := by unfold lvl; rw [List.length_map]
    obtain ⟨u6, e1⟩ := sp_in (hk t ht) s0 s1 s3 (shf gd t) es lt s6 (fun u hu => hk u (mem_shf.mp hu).1) ha (by omega) (by omega)
    have e := (w t ht (.ownT (k3s es)) s3 (.own (lt.map e3)) s6).trans e1
    obtain ⟨t5, t6, ih⟩ := sp_level hk hg w s3 ts (es ++ lvl (k + 1) (nw (keys3 es) (shf gd t))) (lt ++ nw (keys3 es) (shf gd t)) (.d (e3 t)) u6 (fun v hv => ⟨(h v (List.mem_cons_of_mem _ hv)).1, at3_keep (h v (List.mem_cons_of_mem _ hv)).2⟩) (by rw [List.length_append, hlv]; omega) (by rw [List.length_append]; omega)
    refine ⟨t5, t6, ?_⟩
    rw [keys_app] at ih
    rw [List.map_cons, f_cons rfl e, ih, List.flatMap_cons, nw_app, lvl_snoc, List.append_assoc, List.append_assoc]
abbrev L2of (L1 : DEnv → SR) : DEnv → SR := sSeq (sOwnL fNil 4) (sSeq (sFor (fSeq (fVar 3)) [5] hOne L1) (sFrz [4] (sAsg (fVar 4) [3] hOne)))
theorem Bst.lln {gd : List T3} {s : T3} {k : Nat} {es : E3} {last : List T3} (b : Bst gd s k es last) (hn : last.Nodup) : last.length ≤ gd.length := nodup_sub_len hn fun t ht => b.sub t (b.mem ht)
theorem sp_while {gd : List T3} (hk : ∀ t ∈ gd, Kok t) (hg : gd.length < 200) {s0 s1 : Slot} {L1 : DEnv → SR} (w : Walks1 gd s0 s1 L1) {s : T3} : ∀ (n k : Nat) (es : E3) (last : List T3) (s4 s5 s6 : Slot), Bst gd s k es last → last.Nodup → needB gd es last ≤ n →
    ∃ t3 t4 t5 t6, whileGo (fTest (fBin gNe (fVar 3) (fLst fNil))) (L2of L1) n [s0, s1, .ownT (k3s es), .d (.list (last.map e3)), s4, s5, s6] = .next [s0, s1, .ownT (k3s (bfs (shf gd) n k es last)), t3, t4, t5, t6]
  | 0, k, es, last, s4, s5, s6, b, _, h => by
    unfold needB at h
    split at h <;> omega
  | n + 1, k, es, last, s4, s5, s6, b, hnd, h => by
    have hll := b.lln hnd
    have hel := b.len
    have et : fTest (fBin gNe (fVar 3) (fLst fNil)) (viewAll [s0, s1, .ownT (k3s es), .d (.list (last.map e3)), s4, s5, s6]) = .ok (!(last.map e3).isEmpty) := by
      rw [v_cons, v_cons, v_cons, v_cons]
      simp_arith [ne_nilD (sh_t3 last)]
    unfold bfs
    by_cases hm : last = []
    · subst hm
      rw [w_stop (by rw [et]; rfl), if_pos rfl]
      exact ⟨_, _, _, _, rfl⟩
    · rw [if_neg hm]
      obtain ⟨t5, t6, e1⟩ := sp_level hk hg w (k := k) (.d (.list (last.map e3))) last es [] s5 s6 (fun t ht => ⟨b.sub t (b.mem ht), b.lst t ht⟩) (by omega) (by simp only [List.length_nil]; omega)
      rw [List.nil_append, List.map_nil] at e1
      have e : L2of L1 [s0, s1, .ownT (k3s es), .d (.list (last.map e3)), s4, s5, s6] = .next [s0, s1, .ownT (k3s (es ++ lvl (k + 1) (nw (keys3 es) (last.flatMap (shf gd))))), .d (.list ((nw (keys3 es) (last.flatMap (shf gd))).map e3)), .d (.list ((nw (keys3 es) (last.flatMap (shf gd))).map e3)), t5, t6] := by
        unfold L2of
        rw [y_seq, y_own0, y_next, y_seq]
        simp only [set0, setS']
        rw [y_for (ds := last.map e3) rfl, e1]
        rfl
      have hne : (!(last.map e3).isEmpty) = true := by
        cases last with
        | nil => exact absurd rfl hm
        | cons a b => rfl
      rw [w_go (by rw [et, hne]) e]
      exact sp_while hk hg w n (k + 1) _ _ _ _ _ b.next (List.nodup_append.mp (nw_nodup b.nd)).2.1 (b.need hm h)
end Lw
namespace Lw
open PySem L2 PD PDs
theorem sp_par {s0 : Slot} {s : T3} (hs : Kok s) : sPar (zT (fVar 1) (fC (.int 0)) (zD (fLst (fCons (fVar 1) fNil)) zNil)) [2, 3] [s0, .d (e3 s), .un, .un, .un, .un, .un] = .next [s0, .d (e3 s), .ownT (k3s [(s, .int 0)]), .d (.list ([s].map e3)), .un, .un, .un] := by
  unfold sPar zT
  rw [show fVar 1 [s0, .d (e3 s), .un, .un, .un, .un, .un] = .ok (e3 s) from rfl, bind_ok, show fC (.int 0) [s0, .d (e3 s), .un, .un, .un, .un, .un] = .ok (.int 0) from rfl, bind_ok, hs]
  rfl
theorem sp_end {gd : List T3} (hk : ∀ t ∈ gd, Kok t) (hg : gd.length < 200) {d0 : D} {L1 : DEnv → SR} {s : T3} (hs : s ∈ gd) (w : Walks1 gd (.d d0) (.d (e3 s)) L1) :
    fnF 7 (sSeq (sPar (zT (fVar 1) (fC (.int 0)) (zD (fLst (fCons (fVar 1) fNil)) zNil)) [2, 3]) (sSeq (whileGo (fTest (fBin gNe (fVar 3) (fLst fNil))) (L2of L1) 100000) (sFrz [2] (sRet (fVar 2))))) [d0, e3 s] = .ok (dict3 (RR gd s)) := by
  obtain ⟨t3, t4, t5, t6, e⟩ := sp_while hk hg w 100000 0 [(s, .int 0)] [s] .un .un .un (Bst.start hs) (by simp) (by unfold needB; rw [if_neg (by simp)]; show gd.length - 1 + 2 ≤ _; omega)
  rw [y_fn, show startD 7 [d0, e3 s] = [.d d0, .d (e3 s), .un, .un, .un, .un, .un] from rfl, y_seq, sp_par (hk s hs), y_next, y_seq]
  refine Eq.trans (congrArg (fun r => toRes (SR.seq r _)) e) ?_
  rw [y_next, y_frz]
  show toRes (sRet (fVar 2) (frz [.d d0, .d (e3 s), .ownT (k3s (RR gd s)), t3, t4, t5, t6] [2])) = _
  have ef : frz [.d d0, .d (e3 s), .ownT (k3s (RR gd s)), t3, t4, t5, t6] [2] = [.d d0, .d (e3 s), view (.ownT (k3s (RR gd s))), t3, t4, t5, t6] := rfl
  rw [ef, view_3]
  rfl
theorem spread_eq {gd : List T3} (hk : ∀ t ∈ gd, Kok t) (hg : gd.length < 200) {s : T3} (hs : s ∈ gd) : F_spread [.list (gd.map e3), e3 s] = .ok (dict3 (RR gd s)) := by
  refine sp_end (L1 := L_spread_1) hk hg hs fun t ht s2 s3 s4 s6 => ?_
  unfold L_spread_1
  rw [y_for (ds := (shf gd t).map e3) (by simp_arith [find_shifts_eq (by omega : gd.length < 1000) t])]
/-- near -/
def nrs (gd : List T3) (ts : List T3) : E3 := ts.map fun t => (t, PyData.list ((shf gd t).map e3))
theorem nrs_keys (gd ts : List T3) : (nrs gd ts).map (·.1) = ts := by
  unfold nrs
  rw [List.map_map]
  exact List.map_id _
theorem nrs_at {gd ts : List T3} {t : T3} (h : t ∈ ts) : at3 (nrs gd ts) t = some (.list ((shf gd t).map e3)) := by
  obtain ⟨d, hd⟩ := at3_some (es := nrs gd ts) (t := t) (by rw [nrs_keys]; exact h)
  obtain ⟨u, _, e⟩ := List.mem_map.mp (at3_mem hd)
  cases e
  exact hd
theorem reached_eq {gd : List T3} (hk : ∀ t ∈ gd, Kok t) (hg : gd.length < 200) {s : T3} (hs : s ∈ gd) : F_law_reached [dict3 (nrs gd gd), e3 s] = .ok (dict3 (RR gd s)) := by
  refine sp_end (L1 := L_law_reached_1) hk hg hs fun t ht s2 s3 s4 s6 => ?_
  have h6 : gSix (dict3 (nrs gd gd)) (e3 t) = .ok (.list ((shf gd t).map e3)) := six_3 (fun e he => hk e.1 (by
    obtain ⟨u, hu, z⟩ := List.mem_map.mp he
    rw [← z]; exact hu)) (hk t ht) (nrs_at ht)
  unfold L_law_reached_1
  rw [y_for (ds := (shf gd t).map e3) (by simp_arith [h6])]
end Lw
namespace Lw
open PySem L2 PD PDs
/-! ### shifts, fewest_shifts -/
theorem check_setting_in {c : Cam} (g : GoodC c) {t : T3} (hi : In3 c t) : F_check_setting [cD c, e3 t] = .ok .none := check_setting_3 g (inS_val hi)
theorem rt_num {c : Cam} {L : Int} {t : T3} (h : t ∈ rt c L) : num t = L := by
  have := (List.mem_filter.mp h).2
  simpa using this
theorem rt_kok {c : Cam} (g : GoodC c) (L : Int) : ∀ t ∈ rt c L, Kok t := fun t h => kok_in g (rt_in h)
theorem shifts_eq {c : Cam} (g : GoodC c) {L : Int} (hl : (rt c L).length < 200) {t : T3} (h : t ∈ rt c L) : F_shifts [cD c, e3 t] = .ok (.list ((shf (rt c L) t).map e3)) := by
  have hx : F_find_exposure [e3 t] = .ok (.int L) := by
    rw [← rt_num h]
    exact exposure_eq _ _ _
  unfold F_shifts B_shifts
  simp_arith [check_camera_good g, check_setting_in g (rt_in h), hx, find_right_good g L, find_shifts_eq (by omega : (rt c L).length < 1000) t]
def oD (o : Option D) : D := o.getD .none
theorem fewest_shifts_eq {c : Cam} (g : GoodC c) {L : Int} (hl : (rt c L).length < 200) {s t : T3} (h : s ∈ rt c L) (ht : In3 c t) : F_fewest_shifts [cD c, e3 s, e3 t] = .ok (oD (at3 (RR (rt c L) s) t)) := by
  have hx : F_find_exposure [e3 s] = .ok (.int L) := by
    rw [← rt_num h]
    exact exposure_eq _ _ _
  have f := RR_fnd h (by omega : (rt c L).length < 99000)
  have hne : RR (rt c L) s ≠ [] := fun z => by
    have := (f.key s).mpr .self
    rw [z] at this
    exact absurd this List.not_mem_nil
  have hlk := look_3 hne (fun e he => rt_kok g L e.1 (f.sub _ (List.mem_map.mpr ⟨e, he, rfl⟩))) (kok_in g ht)
  unfold F_fewest_shifts B_fewest_shifts
  simp_arith [check_camera_good g, check_setting_in g (rt_in h), check_setting_in g ht]
  unfold fSget1
  simp_arith [hx, find_right_good g L, spread_eq (rt_kok g L) hl h]
  unfold dict3
  rw [show asD (.dict ((RR (rt c L) s).map fun e => (e3 e.1, e.2))) = .ok ((RR (rt c L) s).map fun e => (e3 e.1, e.2)) from rfl, bind_ok, hlk]
  rfl
end Lw
namespace Lw
open PySem L2 PD PDs
/-! ### equal steps: two shifts are enough -/
theorem wv_move {l m s l' m' s' x x' v w : Int} (g : GoodW l m s) (g' : GoodW l' m' s') (hs : s = s') (h1 : x ∈ wv l m s) (h2 : x' ∈ wv l m s) (h3 : v ∈ wv l' m' s') (hw : w = v + (x' - x) ∨ w = v - (x' - x)) (hlo : l' ≤ w) (hhi : w ≤ m') : w ∈ wv l' m' s' := by
  subst hs
  have s0 := g.s0
  obtain ⟨_, _, a⟩ := (mem_wv g.m0 (by omega)).mp h1
  obtain ⟨_, _, b⟩ := (mem_wv g.m0 (by omega)).mp h2
  obtain ⟨_, _, d⟩ := (mem_wv g'.m0 (by omega)).mp h3
  refine (mem_wv g'.m0 (by omega)).mpr ⟨hlo, hhi, ?_⟩
  have da := Int.dvd_of_emod_eq_zero a
  have db := Int.dvd_of_emod_eq_zero b
  have dd := Int.dvd_of_emod_eq_zero d
  have dx : s ∣ x' - x := by
    have := Int.dvd_sub db da
    rwa [show x' - l - (x - l) = x' - x by omega] at this
  refine Int.emod_eq_zero_of_dvd ?_
  rcases hw with e | e
  · have := Int.dvd_add dd dx
    rwa [show v - l' + (x' - x) = w - l' by omega] at this
  · have := Int.dvd_sub dd dx
    rwa [show v - l' - (x' - x) = w - l' by omega] at this
theorem mem_rt' {c : Cam} {L : Int} {t : T3} : t ∈ rt c L ↔ In3 c t ∧ num t = L := by
  unfold rt
  rw [List.mem_filter, mem_tri]
  simp
theorem wv_rng {l m s x : Int} (g : GoodW l m s) (h : x ∈ wv l m s) : l ≤ x ∧ x ≤ m := by
  have := g.s0
  obtain ⟨a, b, _⟩ := (mem_wv g.m0 (by omega)).mp h
  exact ⟨a, b⟩
theorem two_shifts {c : Cam} (g : GoodC c) (e1 : c.s1 = c.s2) (e2 : c.s2 = c.s3) {L : Int} {s t : T3} (hs : s ∈ rt c L) (ht : t ∈ rt c L) : t = s ∨ t ∈ shf (rt c L) s ∨ ∃ u ∈ shf (rt c L) s, t ∈ shf (rt c L) u := by
  obtain ⟨x, y, z⟩ := s
  obtain ⟨a, b, d⟩ := t
  obtain ⟨⟨sx, sy, sz⟩, ns⟩ := mem_rt'.mp hs
  obtain ⟨⟨tx, ty, tz⟩, nt⟩ := mem_rt'.mp ht
  simp only at sx sy sz tx ty tz
  have ns' : x + y - z = L := ns
  have nt' : a + b - d = L := nt
  have rx := wv_rng g.w1 sx
  have ry := wv_rng g.w2 sy
  have rz := wv_rng g.w3 sz
  have ra := wv_rng g.w1 tx
  have rb := wv_rng g.w2 ty
  have rd := wv_rng g.w3 tz
  have via : ∀ u : T3, In3 c u → num u = L → chg (x, y, z) u = 2 → chg u (a, b, d) = 2 → ∃ u ∈ shf (rt c L) (x, y, z), (a, b, d) ∈ shf (rt c L) u := fun u h1 h2 h3 h4 => ⟨u, mem_shf.mpr ⟨mem_rt'.mpr ⟨h1, h2⟩, h3⟩, mem_shf.mpr ⟨ht, h4⟩⟩
  by_cases hx : x = a
  · by_cases hy : y = b
    · left
      have : z = d := by omega
      rw [hx, hy, this]
    · right; left
      refine mem_shf.mpr ⟨ht, ?_⟩
      have : z ≠ d := by omega
      unfold chg
      simp [hx, hy, this]
  · by_cases hy : y = b
    · right; left
      refine mem_shf.mpr ⟨ht, ?_⟩
      have : z ≠ d := by omega
      unfold chg
      simp [hx, hy, this]
    · by_cases hz : z = d
      · right; left
        refine mem_shf.mpr ⟨ht, ?_⟩
        unfold chg
        simp [hx, hy, hz]
      · right; right
        by_cases sg : (x < a ∧ y < b) ∨ (a < x ∧ b < y)
        · refine via (a, y, z + (a - x)) ⟨tx, sy, wv_move g.w1 g.w3 (e1.trans e2) sx tx sz (.inl rfl) (by dsimp only; omega) (by dsimp only; omega)⟩ (by show a + y - (z + (a - x)) = L; omega) ?_ ?_
          · have h1 : ¬ z = z + (a - x) := by omega
            unfold chg
            simp only [if_neg hx, if_neg h1, if_true]
          · have h1 : ¬ z + (a - x) = d := by omega
            unfold chg
            simp only [if_neg hy, if_neg h1, if_true]
        · by_cases le : (x < a ∧ a - x < y - b) ∨ (a < x ∧ x - a < b - y)
          · refine via (a, y - (a - x), z) ⟨tx, wv_move g.w1 g.w2 e1 sx tx sy (.inr rfl) (by dsimp only; omega) (by dsimp only; omega), sz⟩ (by show a + (y - (a - x)) - z = L; omega) ?_ ?_
            · have h1 : ¬ y = y - (a - x) := by omega
              unfold chg
              simp only [if_neg hx, if_neg h1, if_true]
            · have h1 : ¬ y - (a - x) = b := by omega
              unfold chg
              simp only [if_neg hz, if_neg h1, if_true]
          · refine via (x - (b - y), b, z) ⟨wv_move g.w2 g.w1 e1.symm sy ty sx (.inr rfl) (by dsimp only; omega) (by dsimp only; omega), ty, sz⟩ (by show x - (b - y) + b - z = L; omega) ?_ ?_
            · have h1 : ¬ x = x - (b - y) := by omega
              unfold chg
              simp only [if_neg hy, if_neg h1, if_true]
            · have h1 : ¬ x - (b - y) = a := by omega
              unfold chg
              simp only [if_neg hz, if_neg h1, if_true]
end Lw
namespace Lw
open PySem L2 PD PDs
/-! ### what stands in the dict of the shifts -/
def Vb (m : Nat) (es : E3) : Prop := ∀ e ∈ es, ∃ n : Nat, n ≤ m ∧ e.2 = .int (n : Nat)
theorem lvl_vb (k : Nat) (us : List T3) : Vb k (lvl k us) := fun e he => by
  obtain ⟨u, _, rfl⟩ := List.mem_map.mp he
  exact ⟨k, Nat.le_refl _, rfl⟩
theorem Vb.app {m : Nat} {es fs : E3} (h1 : Vb m es) (h2 : Vb m fs) : Vb m (es ++ fs) := fun e he => (List.mem_append.mp he).elim (h1 e) (h2 e)
theorem Vb.up {m n : Nat} {es : E3} (h : Vb m es) (hn : m ≤ n) : Vb n es := fun e he => by
  obtain ⟨k, h1, h2⟩ := h e he
  exact ⟨k, by omega, h2⟩
theorem Vb.ini (s : T3) : Vb 0 [(s, .int 0)] := fun e he => by
  rw [List.mem_singleton.mp he]
  exact ⟨0, Nat.le_refl _, rfl⟩
theorem bfs_vb (N : T3 → List T3) : ∀ (n k : Nat) (es : E3) (last : List T3), Vb k es → ∃ m, Vb m (bfs N n k es last)
  | 0, k, es, last, h => ⟨k, h⟩
  | n + 1, k, es, last, h => by
    unfold bfs
    split
    · exact ⟨k, h⟩
    · exact bfs_vb N n (k + 1) _ _ ((h.up (Nat.le_succ k)).app (lvl_vb _ _))
theorem RR_vb (gd : List T3) (s : T3) : ∃ m, Vb m (RR gd s) := bfs_vb _ _ _ _ _ (Vb.ini s)
theorem bfs_stop (N : T3 → List T3) (n k : Nat) (es : E3) : bfs N n k es [] = es := by
  cases n with
  | zero => rfl
  | succ n => unfold bfs; rw [if_pos rfl]
theorem bfs_full {gd : List T3} {es : E3} (h : ∀ t ∈ gd, t ∈ keys3 es) (n k : Nat) (last : List T3) : bfs (shf gd) n k es last = es := by
  cases n with
  | zero => rfl
  | succ n =>
    have e : nw (keys3 es) (last.flatMap (shf gd)) = [] := List.eq_nil_iff_forall_not_mem.mpr fun t ht => by
      obtain ⟨h1, h2⟩ := mem_nw.mp ht
      obtain ⟨u, _, hu⟩ := List.mem_flatMap.mp h1
      exact h2 (h t (mem_shf.mp hu).1)
    unfold bfs
    split
    · rfl
    · rw [e, show lvl (k + 1) [] = [] from rfl, List.append_nil, bfs_stop]
theorem bfs_two {gd : List T3} {s : T3} (h2 : ∀ t ∈ gd, t = s ∨ t ∈ shf gd s ∨ ∃ u ∈ shf gd s, t ∈ shf gd u) (n : Nat) : Vb 2 (bfs (shf gd) (n + 2) 0 [(s, .int 0)] [s]) := by
  have ek := keys_app [(s, PyData.int 0)] (0 + 1) (nw (keys3 [(s, PyData.int 0)]) ([s].flatMap (shf gd)))
  have v1 : Vb 1 ([(s, PyData.int 0)] ++ lvl (0 + 1) (nw (keys3 [(s, PyData.int 0)]) ([s].flatMap (shf gd)))) := ((Vb.ini s).up (by omega)).app (lvl_vb _ _)
  have m1 : ∀ u ∈ shf gd s, u ∈ keys3 ([(s, PyData.int 0)] ++ lvl (0 + 1) (nw (keys3 [(s, PyData.int 0)]) ([s].flatMap (shf gd)))) := fun u hu => by
    rw [ek]
    by_cases hk : u ∈ keys3 [(s, PyData.int 0)]
    · exact List.mem_append_left _ hk
    · exact List.mem_append_right _ (mem_nw.mpr ⟨List.mem_flatMap.mpr ⟨s, List.mem_cons_self, hu⟩, hk⟩)
  have ms : s ∈ keys3 ([(s, PyData.int 0)] ++ lvl (0 + 1) (nw (keys3 [(s, PyData.int 0)]) ([s].flatMap (shf gd)))) := by
    rw [ek]
    exact List.mem_append_left _ List.mem_cons_self
  have l1 : ∀ u ∈ shf gd s, u = s ∨ u ∈ nw (keys3 [(s, PyData.int 0)]) ([s].flatMap (shf gd)) := fun u hu => by
    by_cases hk : u = s
    · exact .inl hk
    · exact .inr (mem_nw.mpr ⟨List.mem_flatMap.mpr ⟨s, List.mem_cons_self, hu⟩, fun z => hk (List.mem_singleton.mp z)⟩)
  have e1 : bfs (shf gd) (n + 2) 0 [(s, .int 0)] [s] = bfs (shf gd) (n + 1) 1 ([(s, PyData.int 0)] ++ lvl (0 + 1) (nw (keys3 [(s, PyData.int 0)]) ([s].flatMap (shf gd)))) (nw (keys3 [(s, PyData.int 0)]) ([s].flatMap (shf gd))) := by
    conv => lhs; unfold bfs
    rw [if_neg (by simp)]
  rw [e1]
  generalize [(s, PyData.int 0)] ++ lvl (0 + 1) (nw (keys3 [(s, PyData.int 0)]) ([s].flatMap (shf gd))) = es1 at *
  generalize nw (keys3 [(s, PyData.int 0)]) ([s].flatMap (shf gd)) = la at *
  unfold bfs
  split
  · exact v1.up (by omega)
  · rw [bfs_full]
    · exact (v1.up (by omega)).app (lvl_vb _ _)
    · intro t ht
      rw [keys_app]
      by_cases hk : t ∈ keys3 es1
      · exact List.mem_append_left _ hk
      · refine List.mem_append_right _ (mem_nw.mpr ⟨?_, hk⟩)
        rcases h2 t ht with z | z | ⟨u, hu, z⟩
        · rw [z] at hk; exact absurd ms hk
        · exact absurd (m1 t z) hk
        · rcases l1 u hu with w | w
          · rw [w] at z; exact absurd (m1 t z) hk
          · exact List.mem_flatMap.mpr ⟨u, w, z⟩
theorem RR_two {gd : List T3} {s : T3} (h2 : ∀ t ∈ gd, t = s ∨ t ∈ shf gd s ∨ ∃ u ∈ shf gd s, t ∈ shf gd u) : Vb 2 (RR gd s) := bfs_two h2 99998
/-! ### groups -/
theorem e3_inj {t u : T3} (h : e3 t = e3 u) : t = u := by
  obtain ⟨x, y, z⟩ := t
  obtain ⟨a, b, c⟩ := u
  unfold e3 at h
  simp only [PyData.tuple.injEq, List.cons.injEq, PyData.int.injEq, and_true] at h
  obtain ⟨h1, h2, h3⟩ := h
  rw [h1, h2, h3]
theorem ti_e3 (t : T3) : tiD (e3 t) = true := by
  unfold e3
  simp [tiD, tiAll]
abbrev srt (ds : List D) : List D := ds.mergeSort (PySem.W.dataLe false id)
def GL (gd : List T3) (s : T3) : List D := srt ((keys3 (RR gd s)).map e3)
def GG (gd : List T3) (s : T3) : D := .tuple (GL gd s)
theorem GL_e3 {gd : List T3} {s : T3} : ∀ d ∈ GL gd s, ∃ t ∈ keys3 (RR gd s), e3 t = d := fun d hd => List.mem_map.mp (List.mem_mergeSort.mp hd)
theorem mem_GL {gd : List T3} {s t : T3} : e3 t ∈ GL gd s ↔ t ∈ keys3 (RR gd s) := by
  constructor
  · intro h
    obtain ⟨u, hu, e⟩ := GL_e3 _ h
    rw [← e3_inj e]
    exact hu
  · intro h
    exact List.mem_mergeSort.mpr (List.mem_map.mpr ⟨t, h, rfl⟩)
theorem GG_iff {gd : List T3} {s t : T3} (hl : gd.length < 99000) (hs : s ∈ gd) (ht : t ∈ gd) : GG gd s = GG gd t ↔ Rch (shf gd) s t := by
  have f1 := RR_fnd hs hl
  have f2 := RR_fnd ht hl
  constructor
  · intro h
    unfold GG at h
    injection h with h
    rw [← f1.key, ← mem_GL, h, mem_GL, f2.key]
    exact .self
  · intro h
    refine congrArg PyData.tuple (sort_perm (List.Perm.map e3 ((List.perm_ext_iff_of_nodup f1.nd f2.nd).mpr fun u => ?_)) ?_ ?_)
    · rw [f1.key, f2.key]
      exact ⟨fun z => (h.symm hs).trans z, fun z => h.trans z⟩
    · intro x hx y hy
      obtain ⟨a, _, rfl⟩ := List.mem_map.mp hx
      obtain ⟨b, _, rfl⟩ := List.mem_map.mp hy
      exact alike_e3 a b
    · intro x hx
      obtain ⟨a, _, rfl⟩ := List.mem_map.mp hx
      exact ti_e3 a
theorem tiAll_of : ∀ {xs : List D}, (∀ x ∈ xs, tiD x = true) → tiAll xs = true
  | [], _ => by rw [tiAll]
  | x :: xs, h => by
    rw [tiAll, h x List.mem_cons_self, tiAll_of fun y hy => h y (List.mem_cons_of_mem _ hy)]
    rfl
theorem ti_GG (gd : List T3) (s : T3) : tiD (GG gd s) = true := by
  unfold GG
  rw [tiD]
  exact tiAll_of fun x hx => by
    obtain ⟨t, _, rfl⟩ := GL_e3 x hx
    exact ti_e3 t
theorem al_e3s : ∀ {xs ys : List D}, (∀ x ∈ xs, ∃ t, e3 t = x) → (∀ y ∈ ys, ∃ t, e3 t = y) → PySem.W.alikeAll xs ys = true
  | [], _, _, _ => by rw [PySem.W.alikeAll]
  | _ :: _, [], _, _ => by rw [PySem.W.alikeAll]
  | x :: xs, y :: ys, h1, h2 => by
    obtain ⟨t, rfl⟩ := h1 x List.mem_cons_self
    obtain ⟨u, rfl⟩ := h2 y List.mem_cons_self
    rw [PySem.W.alikeAll, alike_e3, al_e3s (fun z hz => h1 z (List.mem_cons_of_mem _ hz)) (fun z hz => h2 z (List.mem_cons_of_mem _ hz))]
    rfl
theorem al_GG (gd : List T3) (s t : T3) : PySem.W.alike (GG gd s) (GG gd t) = true := by
  unfold GG
  rw [PySem.W.alike]
  exact al_e3s (fun x hx => (GL_e3 x hx).imp fun _ h => h.2) (fun x hx => (GL_e3 x hx).imp fun _ h => h.2)
theorem GL_sh (gd : List T3) (s : T3) : PyData.canLayAll0 (GL gd s) = true ∧ PyData.depthAll (GL gd s) ≤ 1 := sh_i3s fun d hd => by
  obtain ⟨t, _, rfl⟩ := GL_e3 d hd
  exact ⟨_, _, _, rfl⟩
theorem depth_GG (gd : List T3) (s : T3) : PyData.depth (GG gd s) ≤ 2 := by
  have := (GL_sh gd s).2
  show PyData.depthAll (GL gd s) + 1 ≤ 2
  omega
theorem GL_ne {gd : List T3} {s : T3} (hs : s ∈ gd) (hl : gd.length < 99000) : ∃ x r, GL gd s = x :: r := by
  have h : e3 s ∈ GL gd s := mem_GL.mpr (((RR_fnd hs hl).key s).mpr .self)
  cases e : GL gd s with
  | nil => rw [e] at h; cases h
  | cons x r => exact ⟨x, r, rfl⟩
theorem lay_GGs (gd : List T3) : ∀ ts : List T3, PyData.canLayAll0 (ts.map (GG gd)) = true ∧ PyData.depthAll (ts.map (GG gd)) ≤ 2
  | [] => ⟨rfl, Nat.zero_le _⟩
  | t :: ts => by
    obtain ⟨h1, h2⟩ := lay_GGs gd ts
    have h3 := depth_GG gd t
    refine ⟨?_, ?_⟩
    · show (PyData.canLayAll0 (GL gd t) && PyData.canLayAll0 (ts.map (GG gd))) = true
      rw [h1, (GL_sh gd t).1]
      rfl
    · show max (PyData.depth (GG gd t)) (PyData.depthAll (ts.map (GG gd))) ≤ 2
      omega
theorem sh_GGs (gd : List T3) (ts : List T3) : SeqAt.shaped (.list (ts.map (GG gd))) = true := by
  obtain ⟨h1, h2⟩ := lay_GGs gd ts
  show (PyData.canLayAll0 (ts.map (GG gd)) && decide (PyData.depthAll (ts.map (GG gd)) + 1 ≤ 64)) = true
  rw [h1, decide_eq_true (by omega)]
  rfl
theorem allAl_GGs (gd ts : List T3) : allAl (ts.map (GG gd)) = true := allAl_iff.mpr fun x hx y hy => by
  obtain ⟨t, _, rfl⟩ := List.mem_map.mp hx
  obtain ⟨u, _, rfl⟩ := List.mem_map.mp hy
  exact al_GG gd t u
theorem setOk_GGs {gd ts : List T3} (hs : ∀ t ∈ ts, t ∈ gd) (hl : gd.length < 99000) (h : ts.length < 64) : setOk (ts.map (GG gd)) = true := by
  unfold setOk
  rw [allAl_GGs, List.length_map, decide_eq_true h]
  simp only [Bool.and_true]
  refine List.all_eq_true.mpr fun d hd => ?_
  obtain ⟨t, ht, rfl⟩ := List.mem_map.mp hd
  obtain ⟨x, r, e⟩ := GL_ne (hs t ht) hl
  have h3 := depth_GG gd t
  rw [ti_GG, decide_eq_true (by omega)]
  unfold GG
  rw [e]
  rfl
theorem sort_GGs {gd ts : List T3} (hs : ∀ t ∈ ts, t ∈ gd) (hl : gd.length < 99000) (h : ts.length ≤ 1000) : gSortD [.list (ts.map (GG gd))] = .ok (.list (srt (ts.map (GG gd)))) := by
  have h2 : noNone (ts.map (GG gd)) = true := List.all_eq_true.mpr fun x hx => by
    obtain ⟨t, _, rfl⟩ := List.mem_map.mp hx
    rfl
  have ho : ordOk (ts.map (GG gd)) = true := by
    unfold ordOk
    rw [allAl_GGs, h2, sh_GGs]
    rfl
  have hs : sortOk (ts.map (GG gd)) = true := by
    unfold sortOk
    simp only [Bool.and_eq_true, Bool.or_eq_true]
    refine ⟨⟨ho, .inl (List.all_eq_true.mpr fun x hx => ?_)⟩, ?_⟩
    · obtain ⟨t, ht, rfl⟩ := List.mem_map.mp hx
      obtain ⟨x, r, e⟩ := GL_ne (hs t ht) hl
      unfold GG
      rw [e]
    · rw [List.length_map]
      exact decide_eq_true (by omega)
  unfold gSortD
  dsimp only
  rw [if_pos hs]
theorem tupK_3 : ∀ {es : E3}, (∀ e ∈ es, Kok e.1) → tupK (es.map fun e => (e3 e.1, e.2)) = true
  | [], _ => rfl
  | e :: es, hk => by
    show ((toKeyT (e3 e.1)).isSome && tupK (es.map fun e => (e3 e.1, e.2))) = true
    rw [hk e List.mem_cons_self, tupK_3 fun e' h => hk e' (List.mem_cons_of_mem _ h)]
    rfl
theorem keys_3 (es : E3) : (es.map fun e => (e3 e.1, e.2)).map (·.1) = (keys3 es).map e3 := by
  rw [List.map_map, List.map_map]
  rfl
theorem notEmp_3 {es : E3} (hn : es ≠ []) : (!(es.map fun e => (e3 e.1, e.2)).isEmpty) = true := by
  cases es with
  | nil => exact absurd rfl hn
  | cons e es => rfl
theorem setOk_3 {ts : List T3} (h : ts.length < 64) : setOk (ts.map e3) = true := by
  have ha : allAl (ts.map e3) = true := allAl_iff.mpr fun x hx y hy => by
    obtain ⟨t, _, rfl⟩ := List.mem_map.mp hx
    obtain ⟨u, _, rfl⟩ := List.mem_map.mp hy
    exact alike_e3 t u
  unfold setOk
  rw [ha, List.length_map, decide_eq_true h]
  simp only [Bool.and_true]
  refine List.all_eq_true.mpr fun d hd => ?_
  obtain ⟨t, ht, rfl⟩ := List.mem_map.mp hd
  rw [ti_e3, decide_eq_true (show PyData.depth (e3 t) ≤ 8 from by show 1 ≤ 8; decide)]
  rfl
theorem RR_ne {gd : List T3} {s : T3} (hs : s ∈ gd) (hl : gd.length < 99000) : RR gd s ≠ [] := fun z => by
  have := ((RR_fnd hs hl).key s).mpr .self
  rw [z] at this
  exact absurd this List.not_mem_nil
theorem RR_kok {gd : List T3} {s : T3} (hk : ∀ t ∈ gd, Kok t) (hs : s ∈ gd) (hl : gd.length < 99000) : ∀ e ∈ RR gd s, Kok e.1 := fun e he => hk e.1 ((RR_fnd hs hl).sub _ (List.mem_map.mpr ⟨e, he, rfl⟩))
theorem sortKT_RR {gd : List T3} {s : T3} (hk : ∀ t ∈ gd, Kok t) (hs : s ∈ gd) (hl : gd.length < 64) : gSortKT [dict3 (RR gd s)] = .ok (.list (GL gd s)) := by
  have f := RR_fnd hs (by omega)
  have h1 := nodup_sub_len f.nd f.sub
  unfold gSortKT dict3
  dsimp only
  rw [tupK_3 (RR_kok hk hs (by omega)), notEmp_3 (RR_ne hs (by omega)), keys_3, setOk_3 (by omega)]
  rfl
end Lw
namespace Lw
open PySem L2 PD PDs
/-! ### shift_groups -/
theorem forK_3 {es : E3} (hn : es ≠ []) (hk : ∀ e ∈ es, Kok e.1) {i : Nat} {is : List Nat} {B : DEnv → SR} {ρ ρ' : DEnv} (h1 : fVar i ρ = .ok (dict3 es)) (h2 : forGo (asgOf is hOne) B ((keys3 es).map e3) ρ = .next ρ') : sForK i is hOne B ρ = .next ρ' := by
  have e : fKeysT i ρ = .ok ((keys3 es).map e3) := by
    unfold fKeysT
    rw [h1, bind_ok]
    unfold asKeysT dict3
    dsimp only
    rw [tupK_3 hk, notEmp_3 hn, keys_3]
    rfl
  unfold sForK
  rw [y_for (ds := (keys3 es).map e3) e, h2]
def tru (us : List T3) : E3 := us.map fun u => (u, PyData.bool true)
theorem tru_keys (us : List T3) : keys3 (tru us) = us := by
  unfold keys3 tru
  rw [List.map_map]
  exact List.map_id _
theorem sg_in (s0 s1 s2 s3 s5 s6 : Slot) : ∀ (us : List T3) (sn : E3) (s7 : Slot), (∀ u ∈ us, Kok u) → us.Nodup → (∀ u ∈ us, u ∉ keys3 sn) → sn.length + us.length < 90000 →
    ∃ t7, forGo (asgOf [7] hOne) L_shift_groups_0 (us.map e3) [s0, s1, s2, s3, .ownT (k3s sn), s5, s6, s7] = .next [s0, s1, s2, s3, .ownT (k3s (sn ++ tru us)), s5, s6, t7]
  | [], sn, s7, _, _, _, _ => ⟨s7, by simp only [tru, List.map_nil, List.append_nil]; rfl⟩
  | u :: us, sn, s7, hk, nd, hn, hl => by
    rw [List.length_cons] at hl
    obtain ⟨n1, n2⟩ := List.nodup_cons.mp nd
    have e : L_shift_groups_0 [s0, s1, s2, s3, .ownT (k3s sn), s5, s6, .d (e3 u)] = .next [s0, s1, s2, s3, .ownT (k3s (sn ++ tru [u])), s5, s6, .d (e3 u)] := by
      unfold L_shift_groups_0
      rw [dput_3 (d := .bool true) (hk u List.mem_cons_self) rfl rfl rfl (hn u List.mem_cons_self) (by omega)]
      rfl
    obtain ⟨t7, ih⟩ := sg_in s0 s1 s2 s3 s5 s6 us (sn ++ tru [u]) (.d (e3 u)) (fun v hv => hk v (List.mem_cons_of_mem _ hv)) n2 (fun v hv z => by
      have z : v ∈ (sn ++ tru [u]).map (·.1) := z
      rw [List.map_append] at z
      rcases List.mem_append.mp z with z | z
      · exact hn v (List.mem_cons_of_mem _ hv) z
      · have : v = u := by simpa [tru] using z
        rw [this] at hv
        exact n1 hv) (by rw [List.length_append]; show sn.length + 1 + _ < _; omega)
    refine ⟨t7, ?_⟩
    rw [List.map_cons, f_cons rfl e, ih, List.append_assoc]
    rfl
structure SgI (gd reps : List T3) (sn : E3) : Prop where
  nd : (keys3 sn).Nodup
  key : ∀ t, t ∈ keys3 sn ↔ ∃ r ∈ reps, Rch (shf gd) r t
  sub : ∀ r ∈ reps, r ∈ gd
  gnd : (reps.map (GG gd)).Nodup
theorem SgI.len {gd reps : List T3} {sn : E3} (h : SgI gd reps sn) : sn.length ≤ gd.length := by
  have := nodup_sub_len h.nd fun t ht => by
    obtain ⟨r, hr, q⟩ := (h.key t).mp ht
    exact q.in (h.sub r hr)
  rwa [List.length_map] at this
theorem SgI.next {gd reps : List T3} {sn : E3} (hl : gd.length < 99000) (h : SgI gd reps sn) {t : T3} (ht : t ∈ gd) (hn : t ∉ keys3 sn) : SgI gd (reps ++ [t]) (sn ++ tru (keys3 (RR gd t))) ∧ ∀ u ∈ keys3 (RR gd t), u ∉ keys3 sn := by
  have f := RR_fnd ht hl
  have dis : ∀ u ∈ keys3 (RR gd t), u ∉ keys3 sn := fun u hu z => by
    obtain ⟨r, hr, q⟩ := (h.key u).mp z
    exact hn ((h.key t).mpr ⟨r, hr, q.trans (((f.key u).mp hu).symm ht)⟩)
  have ek : keys3 (sn ++ tru (keys3 (RR gd t))) = keys3 sn ++ keys3 (RR gd t) := by
    show (sn ++ _).map (·.1) = _
    rw [List.map_append]
    exact congrArg _ (tru_keys _)
  refine ⟨⟨?_, fun u => ?_, fun r hr => ?_, ?_⟩, dis⟩
  · rw [ek, List.nodup_append]
    exact ⟨h.nd, f.nd, fun a ha b hb e => dis b hb (by rw [← e]; exact ha)⟩
  · rw [ek, List.mem_append, h.key, f.key]
    constructor
    · rintro (⟨r, hr, q⟩ | q)
      · exact ⟨r, List.mem_append_left _ hr, q⟩
      · exact ⟨t, List.mem_append_right _ List.mem_cons_self, q⟩
    · rintro ⟨r, hr, q⟩
      rcases List.mem_append.mp hr with z | z
      · exact .inl ⟨r, z, q⟩
      · rw [List.mem_singleton.mp z] at q
        exact .inr q
  · rcases List.mem_append.mp hr with z | z
    · exact h.sub r z
    · rw [List.mem_singleton.mp z]; exact ht
  · rw [List.map_append, List.nodup_append]
    refine ⟨h.gnd, by simp, fun a ha b hb e => ?_⟩
    obtain ⟨r, hr, e1⟩ := List.mem_map.mp ha
    have e2 : b = GG gd t := by simpa using hb
    rw [e2, ← e1] at e
    exact hn ((h.key t).mpr ⟨r, hr, (GG_iff hl (h.sub r hr) ht).mp e⟩)
theorem sg_out {gd : List T3} (hk : ∀ t ∈ gd, Kok t) (hg : gd.length < 64) (s0 s1 : Slot) : ∀ (ts reps : List T3) (sn : E3) (s5 s6 s7 : Slot), (∀ t ∈ ts, t ∈ gd) → SgI gd reps sn → reps.length + ts.length ≤ 1000 →
    ∃ reps' sn' t5 t6 t7, forGo (asgOf [5] hOne) L_shift_groups_1 (ts.map e3) [s0, s1, .d (.list (gd.map e3)), .own (reps.map (GG gd)), .ownT (k3s sn), s5, s6, s7] = .next [s0, s1, .d (.list (gd.map e3)), .own (reps'.map (GG gd)), .ownT (k3s sn'), t5, t6, t7] ∧ SgI gd reps' sn' ∧ (∀ t ∈ ts, t ∈ keys3 sn') ∧ (∀ t ∈ keys3 sn, t ∈ keys3 sn') ∧ reps'.length ≤ 1000
  | [], reps, sn, s5, s6, s7, _, h, hl => ⟨reps, sn, s5, s6, s7, rfl, h, fun t ht => (by cases ht), fun t ht => ht, by simp at hl; omega⟩
  | t :: ts, reps, sn, s5, s6, s7, hs, h, hl => by
    rw [List.length_cons] at hl
    have ht := hs t List.mem_cons_self
    have eo : gOin true 4 (fVar 5) [s0, s1, .d (.list (gd.map e3)), .own (reps.map (GG gd)), .ownT (k3s sn), .d (e3 t), s6, s7] = .ok (!decide (t ∈ keys3 sn)) := by
      rw [oin_3 (hk t ht) rfl rfl]
      rfl
    by_cases hm : t ∈ keys3 sn
    · have e : L_shift_groups_1 [s0, s1, .d (.list (gd.map e3)), .own (reps.map (GG gd)), .ownT (k3s sn), .d (e3 t), s6, s7] = .next [s0, s1, .d (.list (gd.map e3)), .own (reps.map (GG gd)), .ownT (k3s sn), .d (e3 t), s6, s7] := by
        unfold L_shift_groups_1 sIfO
        rw [eo, y_ok, decide_eq_true hm]
        rfl
      obtain ⟨reps', sn', t5, t6, t7, e1, a, b, d, l⟩ := sg_out hk hg s0 s1 ts reps sn (.d (e3 t)) s6 s7 (fun v hv => hs v (List.mem_cons_of_mem _ hv)) h (by omega)
      refine ⟨reps', sn', t5, t6, t7, by rw [List.map_cons, f_cons rfl e, e1], a, fun v hv => ?_, d, l⟩
      rcases List.mem_cons.mp hv with z | z
      · rw [z]; exact d t hm
      · exact b v z
    · obtain ⟨hx, dis⟩ := h.next (by omega) ht hm
      have f := RR_fnd ht (by omega : gd.length < 99000)
      have lf := nodup_sub_len f.nd f.sub
      have ls := h.len
      obtain ⟨u7, ein⟩ := sg_in s0 s1 (.d (.list (gd.map e3))) (.own ((reps ++ [t]).map (GG gd))) (.d (e3 t)) (.d (dict3 (RR gd t))) (keys3 (RR gd t)) sn s7 (fun u hu => hk u (f.sub u hu)) f.nd dis (by omega)
      have e : L_shift_groups_1 [s0, s1, .d (.list (gd.map e3)), .own (reps.map (GG gd)), .ownT (k3s sn), .d (e3 t), s6, s7] = .next [s0, s1, .d (.list (gd.map e3)), .own ((reps ++ [t]).map (GG gd)), .ownT (k3s (sn ++ tru (keys3 (RR gd t)))), .d (e3 t), .d (dict3 (RR gd t)), u7] := by
        unfold L_shift_groups_1 sIfO
        rw [eo, y_ok, decide_eq_false hm]
        show (sSeq (sAsg (fCall 2 F_spread (fCons (fVar 2) (fCons (fVar 5) fNil))) [6] hOne) (sSeq (sApp (fB gTupOf (fCons (fB gSortKT (fCons (fVar 6) fNil)) fNil)) 3) (sForK 6 [7] hOne L_shift_groups_0))) _ = _
        have es : F_spread [.list (gd.map e3), e3 t] = .ok (dict3 (RR gd t)) := spread_eq hk (by omega) ht
        rw [y_seq, y_as1, x_call2]
        simp_arith [es]
        rw [y_app (xs := reps.map (GG gd)) (d := GG gd t) rfl (by simp_arith [sortKT_RR hk ht hg]; rfl) (by rw [List.length_map]; omega), y_next]
        simp only [set0, setS']
        refine forK_3 (RR_ne ht (by omega)) (RR_kok hk ht (by omega)) rfl ?_
        rw [show reps.map (GG gd) ++ [GG gd t] = (reps ++ [t]).map (GG gd) by rw [List.map_append]; rfl]
        exact ein
      obtain ⟨reps', sn', t5, t6, t7, e1, a, b, d, l⟩ := sg_out hk hg s0 s1 ts (reps ++ [t]) (sn ++ tru (keys3 (RR gd t))) (.d (e3 t)) (.d (dict3 (RR gd t))) u7 (fun v hv => hs v (List.mem_cons_of_mem _ hv)) hx (by rw [List.length_append]; simp only [List.length_cons, List.length_nil]; omega)
      refine ⟨reps', sn', t5, t6, t7, by rw [List.map_cons, f_cons rfl e, e1], a, fun v hv => ?_, fun v hv => d v ?_, l⟩
      · rcases List.mem_cons.mp hv with z | z
        · rw [z]
          exact d t ((hx.key t).mpr ⟨t, List.mem_append_right _ List.mem_cons_self, .self⟩)
        · exact b v z
      · show v ∈ (sn ++ _).map (·.1)
        rw [List.map_append]
        exact List.mem_append_left _ hv
theorem y_parE (f : DEnv → Res D) (i j k : Nat) (ρ : DEnv) : sPar (zD f (zL fNil (zE zNil))) [i, j, k] ρ = ofRes (f ρ) fun a => .next (((ρ.set i (.d a)).set j (.own [])).set k (.ownT [])) := by
  unfold sPar zD
  cases f ρ <;> rfl
theorem shift_groups_eq {c : Cam} (g : GoodC c) {L : Int} (h1 : -60 ≤ L) (h2 : L ≤ 120) (hl : (rt c L).length < 64) : F_shift_groups [cD c, .int L] = .ok (.list (srt (ddD ((rt c L).map (GG (rt c L)))))) := by
  obtain ⟨reps, sn, t5, t6, t7, e, a, b, _, l⟩ := sg_out (rt_kok g L) hl (.d (cD c)) (.d (.int L)) (rt c L) [] [] .un .un .un (fun t ht => ht) ⟨by simp, fun t => by simp, fun r hr => (by cases hr), by simp⟩ (by simp only [List.length_nil]; omega)
  have ti : ∀ x ∈ (rt c L).map (GG (rt c L)), tiD x = true := fun x hx => by
    obtain ⟨t, _, rfl⟩ := List.mem_map.mp hx
    exact ti_GG _ t
  have pm : (reps.map (GG (rt c L))).Perm (ddD ((rt c L).map (GG (rt c L)))) := (List.perm_ext_iff_of_nodup a.gnd (nodup_ddD _ ti)).mpr fun d => by
    rw [mem_ddD _ _ ti]
    constructor
    · intro h
      obtain ⟨r, hr, q⟩ := List.mem_map.mp h
      exact List.mem_map.mpr ⟨r, a.sub r hr, q⟩
    · intro h
      obtain ⟨t, ht, q⟩ := List.mem_map.mp h
      obtain ⟨r, hr, w⟩ := (a.key t).mp (b t ht)
      refine List.mem_map.mpr ⟨r, hr, ?_⟩
      rw [← q]
      exact (GG_iff (by omega) (a.sub r hr) ht).mpr w
  have es : srt (reps.map (GG (rt c L))) = srt (ddD ((rt c L).map (GG (rt c L)))) := sort_perm pm (fun x hx y hy => by
    rw [mem_ddD _ _ ti] at hx hy
    obtain ⟨t, _, rfl⟩ := List.mem_map.mp hx
    obtain ⟨u, _, rfl⟩ := List.mem_map.mp hy
    exact al_GG _ t u) (fun x hx => by
    rw [mem_ddD _ _ ti] at hx
    exact ti x hx)
  unfold F_shift_groups B_shift_groups
  rw [y_fn, show startD 8 [cD c, PyData.int L] = [.d (cD c), .d (.int L), .un, .un, .un, .un, .un, .un] from rfl]
  simp_arith [check_both_ok g h1 h2, y_parE, find_right_good g]
  rw [y_for (ds := (rt c L).map e3) rfl]
  refine Eq.trans (congrArg (fun r => toRes (SR.seq r _)) e) ?_
  rw [y_next, y_frz]
  show toRes (sRet (fB gSortD (fCons (fVar 3) fNil)) [.d (cD c), .d (.int L), .d (.list ((rt c L).map e3)), .d (.list (reps.map (GG (rt c L)))), .ownT (k3s sn), t5, t6, t7]) = _
  simp_arith [sort_GGs a.sub (by omega : (rt c L).length < 99000) l]
  rw [es]
end Lw
namespace Lw
open PySem L2 PD PDs
/-! ### the law's loops -/
theorem count_3 (t u : T3) : gCount [.bool (t.1 == u.1), .bool (t.2.1 == u.2.1), .bool (t.2.2 == u.2.2)] (.bool false) = .ok (.int (chg t u : Nat)) := by
  have key : ∀ a b d : Bool, gCount [.bool a, .bool b, .bool d] (.bool false) = .ok (.int (((if a = true then 0 else 1) + (if b = true then 0 else 1) + (if d = true then 0 else 1) : Nat) : Int)) := fun a b d => by
    unfold gCount
    cases a <;> cases b <;> cases d <;> (rw [if_pos (by decide +kernel)]; rfl)
  rw [key]
  unfold chg
  simp only [beq_iff_eq]
theorem near_lc {gd : List T3} (hg : gd.length < 1000) (t : T3) (s0 s1 s2 s3 s4 s5 s7 s9 s10 s11 s12 s13 s14 s15 s16 s17 : Slot) : fLc (fSeq (fVar 6)) [15] [15] hOne (fTest (fBin gEq (fLM gCount (fLc (fRng gZip (fCons (fVar 8) (fCons (fVar 15) fNil))) [16, 17] [16, 17] (hTup 2) fYes (fBin gEq (fVar 16) (fVar 17))) (fC (.bool false))) (fC (.int 2)))) (fVar 15) [s0, s1, s2, s3, s4, s5, .d (.list (gd.map e3)), s7, .d (e3 t), s9, s10, s11, s12, s13, s14, s15, s16, s17] = .ok (.list ((shf gd t).map e3)) := by
  refine lc_fm e3 gd (fun u => decide (chg t u = 2)) e3 rfl (fun u _ => ?_) (by omega)
  rw [l_1t]
  have ez : fLc (fRng gZip (fCons (fVar 8) (fCons (fVar 15) fNil))) [16, 17] [16, 17] (hTup 2) fYes (fBin gEq (fVar 16) (fVar 17)) [s0, s1, s2, s3, s4, s5, .d (.list (gd.map e3)), s7, .d (e3 t), s9, s10, s11, s12, s13, s14, .d (e3 u), s16, s17] = .ok (.list [.bool (t.1 == u.1), .bool (t.2.1 == u.2.1), .bool (t.2.2 == u.2.2)]) := by
    obtain ⟨x, y, z⟩ := t
    obtain ⟨a, b, c⟩ := u
    refine lc_m (fun p : Int × Int => PyData.tuple [.int p.1, .int p.2]) [(x, a), (y, b), (z, c)] (fun p => .bool (p.1 == p.2)) rfl (fun p _ => ?_) (by show 3 < 1000000; decide)
    obtain ⟨i, j⟩ := p
    rw [l_2]
    walk_at "ev"
  have hb : (((chg t u : Nat) : Int) == 2) = decide (chg t u = 2) := by
    rw [Bool.eq_iff_iff, beq_iff_eq, decide_eq_true_iff]
    omega
  walk_at "ev"
  rw [ez]
  walk_at "ev"
  rw [count_3]
  walk_at "ev"
  rw [hb]
  cases decide (chg t u = 2) <;> rfl
theorem nrs_snoc (gd pre : List T3) (t : T3) : nrs gd (pre ++ [t]) = nrs gd pre ++ [(t, PyData.list ((shf gd t).map e3))] := List.map_append
theorem near_loop {c : Cam} (g : GoodC c) {L : Int} (hl : (rt c L).length < 64) (s0 s1 s3 s4 s5 s9 s10 s11 s12 s13 s14 s15 s16 s17 : Slot) : ∀ (ts pre : List T3) (s8 : Slot), rt c L = pre ++ ts → (rt c L).Nodup →
    ∃ t8, forGo (asgOf [8] hOne) L_law_0 (ts.map e3) [s0, s1, .d (cD c), s3, s4, s5, .d (.list ((rt c L).map e3)), .ownT (k3s (nrs (rt c L) pre)), s8, s9, s10, s11, s12, s13, s14, s15, s16, s17] = .next [s0, s1, .d (cD c), s3, s4, s5, .d (.list ((rt c L).map e3)), .ownT (k3s (nrs (rt c L) (rt c L))), t8, s9, s10, s11, s12, s13, s14, s15, s16, s17]
  | [], pre, s8, h, _ => ⟨s8, by rw [List.append_nil] at h; rw [← h]; rfl⟩
  | t :: ts, pre, s8, h, nd => by
    have ht : t ∈ rt c L := by rw [h]; exact List.mem_append_right _ List.mem_cons_self
    have hp : pre.length ≤ (rt c L).length := by rw [h, List.length_append]; omega
    have hn : t ∉ (nrs (rt c L) pre).map (·.1) := by
      rw [nrs_keys]
      intro z
      rw [h, List.nodup_append] at nd
      exact nd.2.2 t z t List.mem_cons_self rfl
    have hln : (nrs (rt c L) pre).length = pre.length := List.length_map _
    have h6 : gSix (dict3 (nrs (rt c L) (pre ++ [t]))) (e3 t) = .ok (.list ((shf (rt c L) t).map e3)) := six_3 (fun e he => rt_kok g L e.1 (by
      obtain ⟨u, hu, z⟩ := List.mem_map.mp he
      rw [← z, h]
      show u ∈ _
      rcases List.mem_append.mp hu with w | w
      · exact List.mem_append_left _ w
      · rw [List.mem_singleton.mp w]; exact List.mem_append_right _ List.mem_cons_self)) (rt_kok g L t ht) (nrs_at (List.mem_append_right _ List.mem_cons_self))
    have e : L_law_0 [s0, s1, .d (cD c), s3, s4, s5, .d (.list ((rt c L).map e3)), .ownT (k3s (nrs (rt c L) pre)), .d (e3 t), s9, s10, s11, s12, s13, s14, s15, s16, s17] = .next [s0, s1, .d (cD c), s3, s4, s5, .d (.list ((rt c L).map e3)), .ownT (k3s (nrs (rt c L) (pre ++ [t]))), .d (e3 t), s9, s10, s11, s12, s13, s14, s15, s16, s17] := by
      unfold L_law_0
      rw [y_seq, dput_3 (d := .list ((shf (rt c L) t).map e3)) (rt_kok g L t ht) rfl rfl (near_lc (by omega) t _ _ _ _ _ _ _ _ _ _ _ _ _ _ _ _) hn (by omega), y_next, ← nrs_snoc]
      simp only [set0, setS']
      simp_arith [view_3, shifts_eq g (by omega : (rt c L).length < 200) ht, h6, ne_same (sh_t3 (shf (rt c L) t))]
    obtain ⟨t8, ih⟩ := near_loop g hl s0 s1 s3 s4 s5 s9 s10 s11 s12 s13 s14 s15 s16 s17 ts (pre ++ [t]) (.d (e3 t)) (by rw [h, List.append_assoc]; rfl) nd
    exact ⟨t8, by rw [List.map_cons, f_cons rfl e, ih]⟩
theorem lay_nis : ∀ {ds : List D}, (∀ d ∈ ds, d = .none ∨ ∃ n, d = .int n) → PyData.canLayAll0 ds = true ∧ PyData.depthAll ds = 0
  | [], _ => ⟨rfl, rfl⟩
  | d :: ds, h => by
    obtain ⟨h1, h2⟩ := lay_nis (ds := ds) fun x hx => h x (List.mem_cons_of_mem _ hx)
    have hd : PyData.canLay0 d = true ∧ PyData.depth d = 0 := by
      rcases h d List.mem_cons_self with rfl | ⟨n, rfl⟩ <;> exact ⟨rfl, rfl⟩
    refine ⟨?_, ?_⟩
    · show (PyData.canLay0 d && PyData.canLayAll0 ds) = true
      rw [h1, hd.1]; rfl
    · show max (PyData.depth d) (PyData.depthAll ds) = 0
      rw [h2, hd.2]; rfl
theorem sh_nis {ds : List D} (h : ∀ d ∈ ds, d = .none ∨ ∃ n, d = .int n) : SeqAt.shaped (.list ds) = true := by
  obtain ⟨h1, h2⟩ := lay_nis h
  show (PyData.canLayAll0 ds && decide (PyData.depthAll ds + 1 ≤ 64)) = true
  rw [h1, h2]
  rfl
theorem RR_oD (gd : List T3) (s t : T3) : oD (at3 (RR gd s) t) = .none ∨ ∃ n, oD (at3 (RR gd s) t) = .int n := by
  cases e : at3 (RR gd s) t with
  | none => exact .inl rfl
  | some d =>
    obtain ⟨m, hv⟩ := RR_vb gd s
    obtain ⟨n, _, q⟩ := hv _ (at3_mem e)
    exact .inr ⟨_, q⟩
theorem in_t3' (neg : Bool) (t : T3) (ts : List T3) : gIn neg (e3 t) (.list (ts.map e3)) = .ok (.bool (if neg = true then !decide (t ∈ ts) else decide (t ∈ ts))) := by
  have e : inD (e3 t) (ts.map e3) = decide (t ∈ ts) := by
    unfold inD
    rw [List.any_map, Bool.eq_iff_iff, List.any_eq_true, decide_eq_true_iff]
    constructor
    · rintro ⟨u, hu, q⟩
      have : decide (u = t) = true := by rw [← eqv_e3]; exact q
      rw [← of_decide_eq_true this]
      exact hu
    · intro h
      refine ⟨t, h, ?_⟩
      show PyData.eqv (e3 t) (e3 t) = true
      rw [eqv_e3]
      exact decide_eq_true rfl
  unfold gIn
  dsimp only
  rw [if_pos (by rw [sh_t3]; rfl), e]
theorem cut_end {α : Type} (f : α → D) (xs : List α) (h : xs ≠ []) : ∃ l ∈ xs, gSl (.list (xs.map f)) (some (-1)) none = .ok (.list [f l]) := by
  refine ⟨xs.getLast h, List.getLast_mem h, ?_⟩
  have e : xs.map f = (xs.dropLast).map f ++ [f (xs.getLast h)] := by
    conv => lhs; rw [← List.dropLast_concat_getLast h]
    rw [List.map_append]
    rfl
  rw [e]
  exact cut_last _ _
theorem some_ok {gd : List T3} {t : T3} (ht : t ∈ gd) : ∃ us : List T3, (∀ u ∈ us, u ∈ gd) ∧ us.length ≤ gd.length ∧ ((((gSl (.list (gd.map e3)) none (some 2)).bind fun b => gIn false (e3 t) b).bind asB).bind fun b => if b = true then Res.ok (PyData.list (gd.map e3)) else gSl (.list (gd.map e3)) (some (-1)) none) = .ok (.list (us.map e3)) := by
  have hne : gd ≠ [] := fun z => by rw [z] at ht; cases ht
  obtain ⟨l, hl, el⟩ := cut_end e3 gd hne
  have e2 : gSl (.list (gd.map e3)) none (some 2) = .ok (.list ((gd.take 2).map e3)) := by
    show Res.ok (PyData.list (cutD (gd.map e3) none (some ((2 : Nat) : Int)))) = _
    rw [cut_to (by decide), List.map_take]
  have pos : 1 ≤ gd.length := List.length_pos_iff.mpr hne
  by_cases hm : t ∈ gd.take 2
  · refine ⟨gd, fun u hu => hu, Nat.le_refl _, ?_⟩
    simp_arith [e2, in_t3', decide_eq_true hm]
  · refine ⟨[l], fun u hu => by rw [List.mem_singleton.mp hu]; exact hl, pos, ?_⟩
    simp_arith [e2, in_t3', decide_eq_false hm, el]
theorem x_get1 {es : E3} (hn : es ≠ []) (hk : ∀ e ∈ es, Kok e.1) {t : T3} (ht : Kok t) {fd fk : DEnv → Res D} {ρ : DEnv} (h1 : fd ρ = .ok (dict3 es)) (h2 : fk ρ = .ok (e3 t)) : fSget1 fd fk ρ = .ok (oD (at3 es t)) := by
  unfold fSget1
  rw [h1, bind_ok, show asD (dict3 es) = .ok (es.map fun e => (e3 e.1, e.2)) from rfl, bind_ok, h2, bind_ok, look_3 hn hk ht]
  rfl
theorem x_get2 {es : E3} (hn : es ≠ []) (hk : ∀ e ∈ es, Kok e.1) {t : T3} (ht : Kok t) {fd fk fx : DEnv → Res D} {ρ : DEnv} {x d : D} (h1 : fd ρ = .ok (dict3 es)) (h2 : fk ρ = .ok (e3 t)) (h3 : fx ρ = .ok x) (h4 : at3 es t = some d) : fSget2 fd fk fx ρ = .ok d := by
  unfold fSget2
  rw [h1, bind_ok, show asD (dict3 es) = .ok (es.map fun e => (e3 e.1, e.2)) from rfl, bind_ok, h2, bind_ok, h3, bind_ok, look_3 hn hk ht, h4]
  rfl
end Lw
namespace Lw
open PySem L2 PD PDs
/-! ### the second loop -/
theorem lenSet_3 (a b d : Int) : gLenSet (.list [.int a, .int b, .int d]) = .ok (.int (((ddI [a, b, d]).length : Nat) : Int)) := by
  unfold gLenSet
  exact if_pos (show ([a, b, d] : List Int).length + 1 < 4096 by show 3 + 1 < 4096; decide)
theorem ddI_one {a b d : Int} (h : (ddI [a, b, d]).length = 1) : a = b ∧ b = d := by
  obtain ⟨x, e⟩ : ∃ x, ddI [a, b, d] = [x] := by
    cases e : ddI [a, b, d] with
    | nil => rw [e] at h; cases h
    | cons x r =>
      rw [e, List.length_cons] at h
      cases r with
      | nil => exact ⟨x, rfl⟩
      | cons y r => rw [List.length_cons] at h; omega
  have key : ∀ k ∈ [a, b, d], k = x := fun k hk => by
    rw [← mem_ddI, e] at hk
    exact List.mem_singleton.mp hk
  rw [key a (by simp), key b (by simp), key d (by simp)]
  exact ⟨rfl, rfl⟩
theorem lc_few {c : Cam} (g : GoodC c) {L : Int} (hl : (rt c L).length < 64) {t : T3} (ht : t ∈ rt c L) {us : List T3} (hu : ∀ u ∈ us, u ∈ rt c L) (hul : us.length ≤ (rt c L).length) (s0 s1 s3 s4 s5 s6 s7 s9 s10 s12 s13 s14 s15 s16 s17 : Slot) : fLc (fSeq (fVar 11)) [15] [15] hOne fYes (fCall 3 F_fewest_shifts (fCons (fVar 2) (fCons (fVar 8) (fCons (fVar 15) fNil)))) [s0, s1, .d (cD c), s3, s4, s5, s6, s7, .d (e3 t), s9, s10, .d (.list (us.map e3)), s12, s13, s14, s15, s16, s17] = .ok (.list (us.map fun u => oD (at3 (RR (rt c L) t) u))) := by
  refine lc_m e3 us (fun u => oD (at3 (RR (rt c L) t) u)) rfl (fun u h => ?_) (by omega)
  rw [l_1]
  simp_arith [fewest_shifts_eq g (by omega : (rt c L).length < 200) ht (rt_in (hu u h))]
theorem lc_get {c : Cam} (g : GoodC c) {L : Int} (hl : (rt c L).length < 64) {t : T3} (ht : t ∈ rt c L) {us : List T3} (hu : ∀ u ∈ us, u ∈ rt c L) (hul : us.length ≤ (rt c L).length) (s0 s1 s2 s3 s4 s5 s6 s7 s8 s9 s12 s13 s14 s15 s16 s17 : Slot) : fLc (fSeq (fVar 11)) [15] [15] hOne fYes (fSget1 (fVar 10) (fVar 15)) [s0, s1, s2, s3, s4, s5, s6, s7, s8, s9, .d (dict3 (RR (rt c L) t)), .d (.list (us.map e3)), s12, s13, s14, s15, s16, s17] = .ok (.list (us.map fun u => oD (at3 (RR (rt c L) t) u))) := by
  refine lc_m e3 us (fun u => oD (at3 (RR (rt c L) t) u)) rfl (fun u h => ?_) (by omega)
  rw [l_1, x_get1 (es := RR (rt c L) t) (t := u) (RR_ne ht (by omega)) (RR_kok (rt_kok g L) ht (by omega)) (rt_kok g L u (hu u h)) rfl rfl]
  rfl
theorem lc_steps (c : Cam) (s0 s1 s3 s4 s5 s6 s7 s8 s9 s10 s11 s12 s13 s14 s15 s16 s17 : Slot) : fLc (fSeq (fVar 2)) [12, 13, 14] [12, 13, 14] (hTup 3) fYes (fVar 14) [s0, s1, .d (cD c), s3, s4, s5, s6, s7, s8, s9, s10, s11, s12, s13, s14, s15, s16, s17] = .ok (.list [.int c.s1, .int c.s2, .int c.s3]) := by
  refine x_lc (ds := [wD c.l1 c.m1 c.s1, wD c.l2 c.m2 c.s2, wD c.l3 c.m3 c.s3]) rfl ?_ (by show 3 < 1000000; decide)
  unfold lcGo lcGo lcGo lcGo
  rw [l_3, l_3, l_3]
  rfl
def vOf : Option D → Int
  | some (.int n) => n
  | _ => 0
theorem lc_two {c : Cam} (g : GoodC c) (e1 : c.s1 = c.s2) (e2 : c.s2 = c.s3) {L : Int} (hl : (rt c L).length < 64) {t : T3} (ht : t ∈ rt c L) (s0 s1 s2 s3 s4 s5 s7 s8 s9 s11 s12 s13 s14 s15 s16 s17 : Slot) : ∃ ns : List Int, ns ≠ [] ∧ (∀ n ∈ ns, n ≤ 2) ∧ fLc (fSeq (fVar 6)) [15] [15] hOne fYes (fSget2 (fVar 10) (fVar 15) (fC (.int 9))) [s0, s1, s2, s3, s4, s5, .d (.list ((rt c L).map e3)), s7, s8, s9, .d (dict3 (RR (rt c L) t)), s11, s12, s13, s14, s15, s16, s17] = .ok (.list (iL ns)) := by
  have v : ∀ u ∈ rt c L, ∃ n : Nat, n ≤ 2 ∧ at3 (RR (rt c L) t) u = some (.int (n : Nat)) := fun u hu => by
    have h2 : ∀ w ∈ rt c L, w = t ∨ w ∈ shf (rt c L) t ∨ ∃ x ∈ shf (rt c L) t, w ∈ shf (rt c L) x := fun w hw => two_shifts g e1 e2 ht hw
    have hr : Rch (shf (rt c L)) t u := by
      rcases h2 u hu with z | z | ⟨x, hx, z⟩
      · rw [z]; exact .self
      · exact .more .self z
      · exact .more (.more .self hx) z
    obtain ⟨d, hd⟩ := at3_some (((RR_fnd ht (by omega : (rt c L).length < 99000)).key u).mpr hr)
    obtain ⟨n, hn, q⟩ := RR_two h2 _ (at3_mem hd)
    have q : d = .int (n : Nat) := q
    exact ⟨n, hn, by rw [hd, q]⟩
  have F : ∃ f : T3 → Int, ∀ u ∈ rt c L, f u ≤ 2 ∧ at3 (RR (rt c L) t) u = some (.int (f u)) := by
    refine ⟨fun u => vOf (at3 (RR (rt c L) t) u), fun u hu => ?_⟩
    obtain ⟨n, hn, q⟩ := v u hu
    show vOf (at3 (RR (rt c L) t) u) ≤ 2 ∧ at3 (RR (rt c L) t) u = some (.int (vOf (at3 (RR (rt c L) t) u)))
    rw [q]
    exact ⟨by show (n : Int) ≤ 2; omega, rfl⟩
  obtain ⟨f, hf⟩ := F
  refine ⟨(rt c L).map f, fun z => ?_, fun n hn => ?_, ?_⟩
  · rw [List.map_eq_nil_iff.mp z] at ht
    cases ht
  · obtain ⟨u, hu, rfl⟩ := List.mem_map.mp hn
    exact (hf u hu).1
  · rw [← iL_map]
    refine lc_m e3 (rt c L) (fun u => PyData.int (f u)) rfl (fun u h => ?_) (by omega)
    rw [l_1, x_get2 (es := RR (rt c L) t) (t := u) (RR_ne ht (by omega)) (RR_kok (rt_kok g L) ht (by omega)) (rt_kok g L u h) rfl rfl rfl (hf u h).2]
    rfl
theorem and_two {c : Cam} (g : GoodC c) {L : Int} (hl : (rt c L).length < 64) {t : T3} (ht : t ∈ rt c L) (s0 s1 s3 s4 s5 s7 s8 s9 s11 s12 s13 s14 s15 s16 s17 : Slot) : fAnd (fTest (fBin gEq (fUn gLenSet (fLc (fSeq (fVar 2)) [12, 13, 14] [12, 13, 14] (hTup 3) fYes (fVar 14))) (fC (.int 1)))) (fTest (fBin gGt (fB gMaxL (fCons (fLc (fSeq (fVar 6)) [15] [15] hOne fYes (fSget2 (fVar 10) (fVar 15) (fC (.int 9)))) fNil)) (fC (.int 2)))) [s0, s1, .d (cD c), s3, s4, s5, .d (.list ((rt c L).map e3)), s7, s8, s9, .d (dict3 (RR (rt c L) t)), s11, s12, s13, s14, s15, s16, s17] = .ok false := by
  rw [x_and, x_test, x_bin, x_un, lc_steps, bind_ok, lenSet_3, bind_ok, x_c, bind_ok, eq_int]
  by_cases h : (ddI [c.s1, c.s2, c.s3]).length = 1
  · obtain ⟨e1, e2⟩ := ddI_one h
    obtain ⟨ns, n0, n2, e⟩ := lc_two g e1 e2 hl ht s0 s1 (.d (cD c)) s3 s4 s5 s7 s8 s9 s11 s12 s13 s14 s15 s16 s17
    have hm := n2 _ (maxI_spec ns n0).1
    rw [h]
    simp_arith [e, maxL_ints n0]
    rw [decide_eq_false (by omega)]
  · rw [show ((((ddI [c.s1, c.s2, c.s3]).length : Nat) : Int) == 1) = false from by rw [beq_eq_false_iff_ne]; omega]
    rfl
theorem grp_step {c : Cam} (g : GoodC c) {L : Int} (hl : (rt c L).length < 64) {t : T3} (ht : t ∈ rt c L) {acc : List T3} (ha : acc.length ≤ 1000) (s0 s1 s3 s4 s5 s7 s10 s11 s12 s13 s14 s15 s16 s17 : Slot) (h7 : view s7 = .d (dict3 (nrs (rt c L) (rt c L)))) : ∃ us : List T3, L_law_1 [s0, s1, .d (cD c), s3, s4, s5, .d (.list ((rt c L).map e3)), s7, .d (e3 t), .own (acc.map (GG (rt c L))), s10, s11, s12, s13, s14, s15, s16, s17] = .next [s0, s1, .d (cD c), s3, s4, s5, .d (.list ((rt c L).map e3)), .d (dict3 (nrs (rt c L) (rt c L))), .d (e3 t), .own ((acc ++ [t]).map (GG (rt c L))), .d (dict3 (RR (rt c L) t)), .d (.list (us.map e3)), s12, s13, s14, s15, s16, s17] := by
  obtain ⟨us, hu, hul, es⟩ := some_ok ht
  have er : F_law_reached [dict3 (nrs (rt c L) (rt c L)), e3 t] = .ok (dict3 (RR (rt c L) t)) := reached_eq (rt_kok g L) (by omega) ht
  have sh : SeqAt.shaped (.list (us.map fun u => oD (at3 (RR (rt c L) t) u))) = true := sh_nis fun d hd => by
    obtain ⟨u, _, rfl⟩ := List.mem_map.mp hd
    exact RR_oD _ _ _
  refine ⟨us, ?_⟩
  unfold L_law_1
  rw [y_seq, y_frz, show frz [s0, s1, .d (cD c), s3, s4, s5, .d (.list ((rt c L).map e3)), s7, .d (e3 t), .own (acc.map (GG (rt c L))), s10, s11, s12, s13, s14, s15, s16, s17] [7] = [s0, s1, .d (cD c), s3, s4, s5, .d (.list ((rt c L).map e3)), .d (dict3 (nrs (rt c L) (rt c L))), .d (e3 t), .own (acc.map (GG (rt c L))), s10, s11, s12, s13, s14, s15, s16, s17] from by rw [← h7]; rfl, y_as1, x_call2]
  walk_at "ev"
  rw [er]
  walk_at "ev"
  rw [es]
  simp_arith [lc_few g hl ht hu hul, lc_get g hl ht hu hul, ne_same sh]
  refine Eq.trans (congrArg (fun r => (ofRes r _).seq _) (and_two g hl ht (view s0) (view s1) (view s3) (view s4) (view s5) (.d (dict3 (nrs (rt c L) (rt c L)))) (.d (e3 t)) (.d (.list (acc.map (GG (rt c L))))) (.d (.list (us.map e3))) (view s12) (view s13) (view s14) (view s15) (view s16) (view s17))) ?_
  walk_at "ev"
  rw [y_app (xs := acc.map (GG (rt c L))) (d := GG (rt c L) t) rfl (by simp_arith [sortKT_RR (rt_kok g L) ht hl]; rfl) (by rw [List.length_map]; omega)]
  simp only [set0, setS']
  rw [List.map_append]
  rfl
theorem grp_loop {c : Cam} (g : GoodC c) {L : Int} (hl : (rt c L).length < 64) (s0 s1 s3 s4 s5 s12 s13 s14 s15 s16 s17 : Slot) : ∀ (ts acc : List T3) (s7 s8 s10 s11 : Slot), (∀ t ∈ ts, t ∈ rt c L) → acc.length + ts.length ≤ 1000 → view s7 = .d (dict3 (nrs (rt c L) (rt c L))) →
    ∃ t7 t8 t10 t11, forGo (asgOf [8] hOne) L_law_1 (ts.map e3) [s0, s1, .d (cD c), s3, s4, s5, .d (.list ((rt c L).map e3)), s7, s8, .own (acc.map (GG (rt c L))), s10, s11, s12, s13, s14, s15, s16, s17] = .next [s0, s1, .d (cD c), s3, s4, s5, .d (.list ((rt c L).map e3)), t7, t8, .own ((acc ++ ts).map (GG (rt c L))), t10, t11, s12, s13, s14, s15, s16, s17]
  | [], acc, s7, s8, s10, s11, _, _, _ => ⟨s7, s8, s10, s11, by rw [List.append_nil]; rfl⟩
  | t :: ts, acc, s7, s8, s10, s11, h, ha, h7 => by
    rw [List.length_cons] at ha
    obtain ⟨us, e⟩ := grp_step g hl (h t List.mem_cons_self) (acc := acc) (by omega) s0 s1 s3 s4 s5 s7 s10 s11 s12 s13 s14 s15 s16 s17 h7
    obtain ⟨t7, t8, t10, t11, ih⟩ := grp_loop g hl s0 s1 s3 s4 s5 s12 s13 s14 s15 s16 s17 ts (acc ++ [t]) (.d (dict3 (nrs (rt c L) (rt c L)))) (.d (e3 t)) (.d (dict3 (RR (rt c L) t))) (.d (.list (us.map e3))) (fun v hv => h v (List.mem_cons_of_mem _ hv)) (by rw [List.length_append]; simp only [List.length_cons, List.length_nil]; omega) rfl
    refine ⟨t7, t8, t10, t11, ?_⟩
    rw [List.map_cons, f_cons rfl e, ih, List.append_assoc]
    rfl
end Lw
namespace Lw
open PySem L2 PD PDs
/-! ### the law -/
theorem rt_nodup {c : Cam} (g : GoodC c) (L : Int) : (rt c L).Nodup := List.Pairwise.imp (fun {t u} (h : lt3 t u = true) e => by
  rw [e] at h
  unfold lt3 at h
  have := of_decide_eq_true h
  omega) (List.Pairwise.filter _ (tri_sorted g))
theorem prod_len (ys : List Int) : ∀ xs : List Int, (xs.flatMap fun x => ys.map fun y => (x, y)).length = xs.length * ys.length
  | [] => by simp
  | x :: xs => by
    rw [List.flatMap_cons, List.length_append, List.length_map, prod_len ys xs, List.length_cons, Nat.succ_mul]
    omega
structure SmC (c : Cam) : Prop where
  g : GoodC c
  a : (wv c.l1 c.m1 c.s1).length ≤ 5
  b : (wv c.l2 c.m2 c.s2).length ≤ 5
  d : (wv c.l3 c.m3 c.s3).length ≤ 5
  ma : c.m1 ≤ 39
  mb : c.m2 ≤ 39
  md : c.m3 ≤ 39
theorem sm_rt {c : Cam} (h : SmC c) (L : Int) : (rt c L).length < 64 := by
  have nd : ((rt c L).map fun t => (t.1, t.2.1)).Nodup := List.pairwise_map.mpr (List.Pairwise.imp_of_mem (fun {t u} ht hu hne e => hne (by
    have n1 := rt_num ht
    have n2 := rt_num hu
    obtain ⟨x, y, z⟩ := t
    obtain ⟨a, b, d⟩ := u
    unfold num at n1 n2
    simp only [Prod.mk.injEq] at e ⊢
    simp only at n1 n2
    exact ⟨e.1, e.2, by omega⟩)) (rt_nodup h.g L))
  have := nodup_sub_len nd (ys := (wv c.l1 c.m1 c.s1).flatMap fun x => (wv c.l2 c.m2 c.s2).map fun y => (x, y)) fun p hp => by
    obtain ⟨t, ht, rfl⟩ := List.mem_map.mp hp
    have hi := rt_in ht
    exact List.mem_flatMap.mpr ⟨t.1, hi.a, List.mem_map.mpr ⟨t.2.1, hi.b, rfl⟩⟩
  rw [List.length_map, prod_len] at this
  have := Nat.mul_le_mul h.a h.b
  omega
theorem sm_num {c : Cam} (h : SmC c) {t : T3} (ht : In3 c t) : -40 ≤ num t ∧ num t ≤ 80 := by
  have a := wv_rng h.g.w1 ht.a
  have b := wv_rng h.g.w2 ht.b
  have d := wv_rng h.g.w3 ht.d
  have := h.ma
  have := h.mb
  have := h.md
  have := h.g.w1.l0
  have := h.g.w2.l0
  have := h.g.w3.l0
  unfold num
  omega
theorem sm_tri {c : Cam} (h : SmC c) : (tri c).length ≤ 125 := by
  rw [tri_len, sets_len]
  exact Nat.mul_le_mul (Nat.mul_le_mul h.a h.b) h.d
theorem box_sm {c : Cam} (g : GoodC c) (h : BoxB c 5) : SmC c := ⟨g, (bw_len g.w1 h.w1 (by decide)).1, (bw_len g.w2 h.w2 (by decide)).1, (bw_len g.w3 h.w3 (by decide)).1, (bw_len g.w1 h.w1 (by decide)).2, (bw_len g.w2 h.w2 (by decide)).2, (bw_len g.w3 h.w3 (by decide)).2⟩
theorem wheel5 {l m s s' : Int} (g : GoodW l m s) (l2 : l < 23) (h1 : 1 ≤ s') (h2 : s' ≤ 3) : GoodW l (l + (m - l) % 5) s' ∧ (wv l (l + (m - l) % 5) s').length ≤ 5 ∧ l + (m - l) % 5 ≤ 39 := by
  have a := Int.emod_nonneg (m - l) (show (5 : Int) ≠ 0 by decide)
  have b := Int.emod_lt_of_pos (m - l) (show (0 : Int) < 5 by decide)
  generalize (m - l) % 5 = r at *
  have l0 := g.l0
  have q : (l + r - l) / s' ≤ 4 := by
    rw [show l + r - l = r by omega]
    have : r / s' ≤ r := Int.ediv_le_self _ a
    omega
  have q0 : 0 ≤ (l + r - l) / s' := Int.ediv_nonneg (by omega) (by omega)
  refine ⟨⟨l0, by omega, by omega, by omega, h1, h2, by omega⟩, ?_, by omega⟩
  unfold wv
  rw [List.length_map, List.length_range]
  unfold rngN
  rw [if_pos (by omega), show l + r + 1 - l - 1 = l + r - l by omega]
  omega
def c5 (c : Cam) : Cam := ⟨c.l1, c.l1 + (c.m1 - c.l1) % 5, c.s1, c.l2, c.l2 + (c.m2 - c.l2) % 5, c.s1, c.l3, c.l3 + (c.m3 - c.l3) % 5, c.s1⟩
theorem bw_l {l m s mx : Int} (h : BW l m s mx) : l < 23 := by
  obtain ⟨n, r, h1, _⟩ := h
  exact h1
theorem c5_sm {c : Cam} (g : GoodC c) (h : BoxB c 5) : SmC (c5 c) := by
  obtain ⟨a1, a2, a3⟩ := wheel5 (s' := c.s1) g.w1 (bw_l h.w1) g.w1.s0 g.w1.s1
  obtain ⟨b1, b2, b3⟩ := wheel5 (s' := c.s1) g.w2 (bw_l h.w2) g.w1.s0 g.w1.s1
  obtain ⟨d1, d2, d3⟩ := wheel5 (s' := c.s1) g.w3 (bw_l h.w3) g.w1.s0 g.w1.s1
  exact ⟨⟨a1, b1, d1⟩, a2, b2, d2, a3, b3, d3⟩
abbrev T_law : DEnv → SR := sSeq (sAsg (fCall 1 F_law_every (fCons (fVar 2) fNil)) [4] hOne) (sSeq (sAsg (fCall 3 F_law_light (fCons (fVar 0) (fCons (fBin gAdd (fBin gMulI (fC (.int 40)) (fVar 1)) (fC (.int 13))) (fCons (fVar 2) fNil)))) [5] hOne) (sSeq (sAsg (fLc (fSeq (fVar 4)) [8] [8] hOne (fTest (fBin gEq (fCall 1 F_law_number (fCons (fVar 8) fNil)) (fVar 5))) (fVar 8)) [6] hOne) (sSeq (sOwnD true 7) (sSeq (sFor (fSeq (fVar 6)) [8] hOne L_law_0) (sSeq (sOwnL fNil 9) (sSeq (sFor (fSeq (fVar 6)) [8] hOne L_law_1) (sSeq (sIf (fTest (fBin gNe (fCall 2 F_shift_groups (fCons (fVar 2) (fCons (fVar 5) fNil))) (fUn gSortSetD (fVar 9)))) (sRet (fC (.bool false))) sNext) (sIf (fAnd (fTest (fBin (gIn true) (fBin gIx (fVar 4) (fC (.int 0))) (fVar 6))) (fAnd (fTest (fBin gNe (fVar 6) (fLst fNil))) (fTest (fBin (gIs true) (fCall 3 F_fewest_shifts (fCons (fVar 2) (fCons (fBin gIx (fVar 6) (fC (.int 0))) (fCons (fBin gIx (fVar 4) (fC (.int 0))) fNil)))) (fC .none))))) (sRet (fC (.bool false))) sNext))))))))
theorem last_no {c : Cam} (h : SmC c) (L : Int) : ((((gIx (.list ((tri c).map e3)) (.int 0)).bind fun a => gIn true a (.list ((rt c L).map e3))).bind asB).bind fun b => if b = true then ((gNe (.list ((rt c L).map e3)) (.list [])).bind asB).bind fun b => if b = true then (((gIx (.list ((rt c L).map e3)) (.int 0)).bind fun b => (gIx (.list ((tri c).map e3)) (.int 0)).bind fun d => F_fewest_shifts [cD c, b, d]).bind fun a => gIs true a .none).bind asB else Res.ok false else Res.ok false) = .ok false := by
  have hl := sm_rt h L
  have hp := tri_pos h.g
  obtain ⟨t0, e0, i0⟩ := ix_tri (c := c) (p := 0) (by decide) (by omega)
  by_cases hm : t0 ∈ rt c L
  · simp_arith [e0, in_t3', decide_eq_true hm]
  · have e1 : gIn true (e3 t0) (.list ((rt c L).map e3)) = .ok (.bool true) := by rw [in_t3', decide_eq_false hm]; rfl
    cases hr : rt c L with
    | nil =>
      rw [hr] at e1
      have e2 : gNe (.list (([] : List T3).map e3)) (.list []) = .ok (.bool false) := by rw [ne_nilD (sh_t3 [])]; rfl
      generalize ([] : List T3).map e3 = z at *
      simp_arith [e0, e1, e2]
    | cons r rs =>
      have hr' : r ∈ rt c L := by rw [hr]; exact List.mem_cons_self
      have e2 : gNe (.list ((rt c L).map e3)) (.list []) = .ok (.bool true) := by rw [ne_nilD (sh_t3 _), hr]; rfl
      have e3' : gIx (.list ((rt c L).map e3)) (.int 0) = .ok (e3 r) := by rw [hr]; rfl
      have e4 := fewest_shifts_eq h.g (by omega : (rt c L).length < 200) hr' i0
      have e5 : at3 (RR (rt c L) r) t0 = none := at3_none.mpr fun z => hm ((RR_fnd hr' (by omega : (rt c L).length < 99000)).sub _ z)
      rw [e5] at e4
      have e4 : F_fewest_shifts [cD c, e3 r, e3 t0] = .ok .none := e4
      rw [← hr]
      simp_arith [e0, e1, e2, e3', e4, is_noneT]
      rfl
theorem lc_good {c : Cam} (h : SmC c) (L : Int) (s0 s1 s2 s3 s6 s7 s8 s9 s10 s11 s12 s13 s14 s15 s16 s17 : Slot) : fLc (fSeq (fVar 4)) [8] [8] hOne (fTest (fBin gEq (fCall 1 F_law_number (fCons (fVar 8) fNil)) (fVar 5))) (fVar 8) [s0, s1, s2, s3, .d (.list ((tri c).map e3)), .d (.int L), s6, s7, s8, s9, s10, s11, s12, s13, s14, s15, s16, s17] = .ok (.list ((rt c L).map e3)) := by
  have := sm_tri h
  refine lc_fm e3 (tri c) (fun t => num t == L) e3 rfl (fun u _ => ?_) (by omega)
  rw [l_1t]
  simp_arith [show F_law_number [e3 u] = .ok (.int (num u)) from number_eq _ _ _]
  cases (num u == L) <;> rfl
theorem sh_srt (gd ts : List T3) : SeqAt.shaped (.list (srt (ddD (ts.map (GG gd))))) = true := by
  have ti : ∀ x ∈ ts.map (GG gd), tiD x = true := fun x hx => by
    obtain ⟨t, _, rfl⟩ := List.mem_map.mp hx
    exact ti_GG _ t
  have hm : ∀ d ∈ srt (ddD (ts.map (GG gd))), ∃ t, GG gd t = d := fun d hd => by
    have := List.mem_mergeSort.mp hd
    rw [mem_ddD _ _ ti] at this
    exact (List.mem_map.mp this).imp fun _ h => h.2
  generalize srt (ddD (ts.map (GG gd))) = ds at *
  obtain ⟨us, e⟩ : ∃ us : List T3, ds = us.map (GG gd) := by
    induction ds with
    | nil => exact ⟨[], rfl⟩
    | cons d ds ih =>
      obtain ⟨us, e⟩ := ih fun x hx => hm x (List.mem_cons_of_mem _ hx)
      obtain ⟨t, q⟩ := hm d List.mem_cons_self
      exact ⟨t :: us, by rw [List.map_cons, q, e]⟩
  rw [e]
  exact sh_GGs _ _
theorem k16_tail (ns : List Int) (hl : ns.length ≤ 63) {c : Cam} (h : SmC c) (i : Int) (i0 : 0 ≤ i) (i1 : i ≤ 2) (s3 s4 s5 s6 s7 s8 s9 s10 s11 s12 s13 s14 s15 s16 s17 : Slot) : ∃ t4 t5 t6 t7 t8 t9 t10 t11 : Slot, T_law [.d (.list (iL ns)), .d (.int i), .d (cD c), s3, s4, s5, s6, s7, s8, s9, s10, s11, s12, s13, s14, s15, s16, s17] = .next [.d (.list (iL ns)), .d (.int i), .d (cD c), s3, t4, t5, t6, t7, t8, t9, t10, t11, s12, s13, s14, s15, s16, s17] := by
  obtain ⟨t, v, ht, v0, v1, e1⟩ := light2_ok ns hl h.g (40 * i + 13) (by omega) (by omega)
  have hn := sm_num h ht
  have h1 : -60 ≤ num t + v := by omega
  have h2 : num t + v ≤ 120 := by omega
  generalize hL : num t + v = L at *
  have hrl := sm_rt h L
  obtain ⟨t8, en⟩ := near_loop h.g hrl (.d (.list (iL ns))) (.d (.int i)) s3 (.d (.list ((tri c).map e3))) (.d (.int L)) s9 s10 s11 s12 s13 s14 s15 s16 s17 (rt c L) [] s8 rfl (rt_nodup h.g L)
  obtain ⟨u7, u8, u10, u11, eg⟩ := grp_loop h.g hrl (.d (.list (iL ns))) (.d (.int i)) s3 (.d (.list ((tri c).map e3))) (.d (.int L)) s12 s13 s14 s15 s16 s17 (rt c L) [] (.ownT (k3s (nrs (rt c L) (rt c L)))) t8 s10 s11 (fun t ht => ht) (by simp only [List.length_nil]; omega) (view_3 _)
  rw [List.nil_append] at eg
  have ess : gSortSetD (.list ((rt c L).map (GG (rt c L)))) = .ok (.list (srt (ddD ((rt c L).map (GG (rt c L)))))) := by
    unfold gSortSetD
    dsimp only
    rw [if_pos (setOk_GGs (fun t ht => ht) (by omega) hrl)]
  refine ⟨.d (.list ((tri c).map e3)), .d (.int L), .d (.list ((rt c L).map e3)), u7, u8, .own ((rt c L).map (GG (rt c L))), u10, u11, ?_⟩
  unfold T_law
  rw [y_seq, y_as1, x_call1]
  simp_arith [g_mulc (i := 40) (j := i) (by decide) (by decide), every_good h.g, tri_eq, e1, lc_good h L]
  rw [show ∀ ρ : DEnv, sOwnD true 7 ρ = .next (ρ.set 7 (.ownT (k3s (nrs (rt c L) [])))) from fun _ => rfl, y_next, y_seq]
  simp only [set0, setS']
  rw [y_for (ds := (rt c L).map e3) rfl, en, y_next, y_seq, y_own0, y_next, y_seq]
  simp only [set0, setS']
  rw [y_for (ds := (rt c L).map e3) rfl]
  refine Eq.trans (congrArg (fun r => SR.seq r _) eg) ?_
  simp_arith [shift_groups_eq h.g h1 h2 hrl, ess, ne_same (sh_srt (rt c L) (rt c L))]
  rw [last_no h L]
  rfl
theorem k16_step (ns : List Int) (hl : ns.length ≤ 63) (i : Int) (i0 : 0 ≤ i) (i1 : i ≤ 2) (s2 s3 s4 s5 s6 s7 s8 s9 s10 s11 s12 s13 s14 s15 s16 s17 : Slot) : ∃ t2 t3 t4 t5 t6 t7 t8 t9 t10 t11 : Slot, L_law_2 [.d (.list (iL ns)), .d (.int i), s2, s3, s4, s5, s6, s7, s8, s9, s10, s11, s12, s13, s14, s15, s16, s17] = .next [.d (.list (iL ns)), .d (.int i), t2, t3, t4, t5, t6, t7, t8, t9, t10, t11, s12, s13, s14, s15, s16, s17] := by
  obtain ⟨c, g, hb, ec⟩ := box_ok2 ns hl (40 * i) 5 (by omega) (by omega) (by decide) (by decide)
  by_cases hi : i = 2
  · subst hi
    obtain ⟨t4, t5, t6, t7, t8, t9, t10, t11, e⟩ := k16_tail ns hl (c5_sm g hb) 2 (by decide) (by decide) (.d (.int c.s1)) s4 s5 s6 s7 s8 s9 s10 s11 s12 s13 s14 s15 s16 s17
    refine ⟨.d (cD (c5 c)), .d (.int c.s1), t4, t5, t6, t7, t8, t9, t10, t11, ?_⟩
    rw [← e]
    have elc : fLc (fSeq (fVar 2)) [12, 13, 14] [12, 13, 14] (hTup 3) fYes (fTup (fCons (fVar 12) (fCons (fBin gAdd (fVar 12) (fBin gMod (fBin gSub (fVar 13) (fVar 12)) (fC (.int 5)))) (fCons (fVar 3) fNil)))) [.d (.list (iL ns)), .d (.int 2), .d (cD c), .d (.int c.s1), s4, s5, s6, s7, s8, s9, s10, s11, s12, s13, s14, s15, s16, s17] = .ok (.list [wD c.l1 (c.l1 + (c.m1 - c.l1) % 5) c.s1, wD c.l2 (c.l2 + (c.m2 - c.l2) % 5) c.s1, wD c.l3 (c.l3 + (c.m3 - c.l3) % 5) c.s1]) := by
      refine x_lc (ds := [wD c.l1 c.m1 c.s1, wD c.l2 c.m2 c.s2, wD c.l3 c.m3 c.s3]) rfl ?_ (by show 3 < 1000000; decide)
      unfold lcGo lcGo lcGo lcGo
      rw [l_3, l_3, l_3]
      simp_arith [g_mod (j := 5) (by decide)]
    unfold L_law_2
    rw [y_seq, y_as1, x_call3]
    simp_arith [g_mulc (i := 40) (j := 2) (by decide) (by decide), ec]
    rw [elc]
    walk_at "ev"
    rfl
  · obtain ⟨t4, t5, t6, t7, t8, t9, t10, t11, e⟩ := k16_tail ns hl (box_sm g hb) i i0 i1 s3 s4 s5 s6 s7 s8 s9 s10 s11 s12 s13 s14 s15 s16 s17
    refine ⟨.d (cD c), s3, t4, t5, t6, t7, t8, t9, t10, t11, ?_⟩
    rw [← e]
    have hb2 : (i == 2) = false := by rw [beq_eq_false_iff_ne]; exact hi
    unfold L_law_2
    rw [y_seq, y_as1, x_call3]
    simp_arith [g_mulc (i := 40) (j := i) (by decide) (by decide), ec, hb2]
def c9 : Cam := ⟨9, 15, 3, 12, 14, 1, 0, 6, 3⟩
theorem c9_good : GoodC c9 := ⟨⟨by decide, by decide, by decide, by decide, by decide, by decide, by decide⟩, ⟨by decide, by decide, by decide, by decide, by decide, by decide, by decide⟩, ⟨by decide, by decide, by decide, by decide, by decide, by decide, by decide⟩⟩
theorem c9_shifts : F_shifts [cD c9, e3 (9, 12, 0)] = .ok (.list ([(12, 12, 3), (15, 12, 6)].map e3)) := by
  rw [shifts_eq c9_good (L := 21) (by decide +kernel) (by decide +kernel)]
  rw [show shf (rt c9 21) (9, 12, 0) = [(12, 12, 3), (15, 12, 6)] from by decide +kernel]
theorem law_true : ∀ ns : List Int, ns.length ≤ 63 → F_law [.list (ns.map PyData.int)] = .ok (.bool true) := fun ns hl => by
  obtain ⟨t2, t3, t4, t5, t6, t7, t8, t9, t10, t11, e0⟩ := k16_step ns hl 0 (by decide) (by decide) .un .un .un .un .un .un .un .un .un .un .un .un .un .un .un .un
  obtain ⟨u2, u3, u4, u5, u6, u7, u8, u9, u10, u11, e1⟩ := k16_step ns hl 1 (by decide) (by decide) t2 t3 t4 t5 t6 t7 t8 t9 t10 t11 .un .un .un .un .un .un
  obtain ⟨v2, v3, v4, v5, v6, v7, v8, v9, v10, v11, e2⟩ := k16_step ns hl 2 (by decide) (by decide) u2 u3 u4 u5 u6 u7 u8 u9 u10 u11 .un .un .un .un .un .un
  have ec : F_shifts [.tuple [.tuple [.int 9, .int 15, .int 3], .tuple [.int 12, .int 14, .int 1], .tuple [.int 0, .int 6, .int 3]], .tuple [.int 9, .int 12, .int 0]] = .ok (.list [.tuple [.int 12, .int 12, .int 3], .tuple [.int 15, .int 12, .int 6]]) := c9_shifts
  have eq : gEq (.list [.tuple [.int 12, .int 12, .int 3], .tuple [.int 15, .int 12, .int 6]]) (.list [.tuple [.int 12, .int 12, .int 3], .tuple [.int 15, .int 12, .int 6]]) = .ok (.bool true) := eq_same (by decide +kernel)
  unfold F_law B_law
  rw [y_fn, show startD 18 [PyData.list (ns.map PyData.int)] = [.d (.list (iL ns)), .un, .un, .un, .un, .un, .un, .un, .un, .un, .un, .un, .un, .un, .un, .un, .un, .un] from rfl, y_seq, y_for (ds := [.int 0, .int 1, .int 2]) rfl, f_cons rfl e0, f_cons rfl e1, f_cons rfl e2, f_nil, y_next]
  simp_arith [ec, eq]
end Lw
namespace Lw
open PySem L2 PD PDs
def topS (i : Nat) : Stmt := PySem.Challenge.pw_lightsteps_k16_whole_shifting.main.body.getD i (.Pass ⟨0, 0, 0, 0⟩)
abbrev s_is_int : Stmt := topS 13
abbrev N_is_int : List Str := ["value", "least", "most"]
theorem sc_is_int : FnScope N_is_int ["value", "least", "most"] (defScope s_is_int) := ⟨rfl, rfl, rfl, by decide +kernel, rfl, by decide +kernel, by decide +kernel⟩
abbrev s_is_wheel : Stmt := topS 14
abbrev N_is_wheel : List Str := ["value", "least", "most", "step"]
theorem sc_is_wheel : FnScope N_is_wheel ["value"] (defScope s_is_wheel) := ⟨rfl, rfl, rfl, by decide +kernel, rfl, by decide +kernel, by decide +kernel⟩
abbrev s_is_camera : Stmt := topS 15
abbrev N_is_camera : List Str := ["candidate", "wheel"]
theorem sc_is_camera : FnScope N_is_camera ["candidate"] (defScope s_is_camera) := ⟨rfl, rfl, rfl, by decide +kernel, rfl, by decide +kernel, by decide +kernel⟩
abbrev s_wheel_values : Stmt := topS 16
abbrev N_wheel_values : List Str := ["wheel", "least", "most", "step"]
theorem sc_wheel_values : FnScope N_wheel_values ["wheel"] (defScope s_wheel_values) := ⟨rfl, rfl, rfl, by decide +kernel, rfl, by decide +kernel, by decide +kernel⟩
abbrev s_has_setting : Stmt := topS 17
abbrev N_has_setting : List Str := ["camera", "candidate", "known", "value", "wheel"]
theorem sc_has_setting : FnScope N_has_setting ["camera", "candidate"] (defScope s_has_setting) := ⟨rfl, rfl, rfl, by decide +kernel, rfl, by decide +kernel, by decide +kernel⟩
abbrev s_check_camera : Stmt := topS 18
abbrev N_check_camera : List Str := ["value"]
theorem sc_check_camera : FnScope N_check_camera ["value"] (defScope s_check_camera) := ⟨rfl, rfl, rfl, by decide +kernel, rfl, by decide +kernel, by decide +kernel⟩
abbrev s_check_setting : Stmt := topS 19
abbrev N_check_setting : List Str := ["camera", "value"]
theorem sc_check_setting : FnScope N_check_setting ["camera", "value"] (defScope s_check_setting) := ⟨rfl, rfl, rfl, by decide +kernel, rfl, by decide +kernel, by decide +kernel⟩
abbrev s_check_light : Stmt := topS 20
abbrev N_check_light : List Str := ["value"]
theorem sc_check_light : FnScope N_check_light ["value"] (defScope s_check_light) := ⟨rfl, rfl, rfl, by decide +kernel, rfl, by decide +kernel, by decide +kernel⟩
abbrev s_all_settings : Stmt := topS 21
abbrev N_all_settings : List Str := ["camera", "found", "wheel", "begun", "value"]
theorem sc_all_settings : FnScope N_all_settings ["camera"] (defScope s_all_settings) := ⟨rfl, rfl, rfl, by decide +kernel, rfl, by decide +kernel, by decide +kernel⟩
abbrev s_find_exposure : Stmt := topS 22
abbrev N_find_exposure : List Str := ["setting"]
theorem sc_find_exposure : FnScope N_find_exposure ["setting"] (defScope s_find_exposure) := ⟨rfl, rfl, rfl, by decide +kernel, rfl, by decide +kernel, by decide +kernel⟩
abbrev s_find_right : Stmt := topS 24
abbrev N_find_right : List Str := ["camera", "brightness", "setting"]
theorem sc_find_right : FnScope N_find_right ["camera", "brightness"] (defScope s_find_right) := ⟨rfl, rfl, rfl, by decide +kernel, rfl, by decide +kernel, by decide +kernel⟩
abbrev s_check_both : Stmt := topS 25
abbrev N_check_both : List Str := ["camera", "brightness"]
theorem sc_check_both : FnScope N_check_both ["camera", "brightness"] (defScope s_check_both) := ⟨rfl, rfl, rfl, by decide +kernel, rfl, by decide +kernel, by decide +kernel⟩
abbrev s_count_changed : Stmt := topS 27
abbrev N_count_changed : List Str := ["one", "other", "left", "right"]
theorem sc_count_changed : FnScope N_count_changed ["one", "other"] (defScope s_count_changed) := ⟨rfl, rfl, rfl, by decide +kernel, rfl, by decide +kernel, by decide +kernel⟩
abbrev s_find_shifts : Stmt := topS 28
abbrev N_find_shifts : List Str := ["known", "setting", "other"]
theorem sc_find_shifts : FnScope N_find_shifts ["known", "setting"] (defScope s_find_shifts) := ⟨rfl, rfl, rfl, by decide +kernel, rfl, by decide +kernel, by decide +kernel⟩
abbrev s_shifts : Stmt := topS 29
abbrev N_shifts : List Str := ["camera", "setting"]
theorem sc_shifts : FnScope N_shifts ["camera", "setting"] (defScope s_shifts) := ⟨rfl, rfl, rfl, by decide +kernel, rfl, by decide +kernel, by decide +kernel⟩
abbrev s_spread : Stmt := topS 30
abbrev N_spread : List Str := ["known", "start", "found", "last", "later", "setting", "other"]
theorem sc_spread : FnScope N_spread ["known", "start"] (defScope s_spread) := ⟨rfl, rfl, rfl, by decide +kernel, rfl, by decide +kernel, by decide +kernel⟩
abbrev s_fewest_shifts : Stmt := topS 31
abbrev N_fewest_shifts : List Str := ["camera", "one", "other"]
theorem sc_fewest_shifts : FnScope N_fewest_shifts ["camera", "one", "other"] (defScope s_fewest_shifts) := ⟨rfl, rfl, rfl, by decide +kernel, rfl, by decide +kernel, by decide +kernel⟩
abbrev s_shift_groups : Stmt := topS 32
abbrev N_shift_groups : List Str := ["camera", "brightness", "known", "found", "seen", "setting", "group", "other"]
theorem sc_shift_groups : FnScope N_shift_groups ["camera", "brightness"] (defScope s_shift_groups) := ⟨rfl, rfl, rfl, by decide +kernel, rfl, by decide +kernel, by decide +kernel⟩
abbrev s_law_pick : Stmt := topS 34
abbrev N_law_pick : List Str := ["script", "k", "many", "cell", "rest", "again", "drawn"]
theorem sc_law_pick : FnScope N_law_pick ["script", "k", "many"] (defScope s_law_pick) := ⟨rfl, rfl, rfl, by decide +kernel, rfl, by decide +kernel, by decide +kernel⟩
abbrev s_law_box : Stmt := topS 35
abbrev N_law_box : List Str := ["script", "at", "most", "found", "k", "least", "step", "many", "rest"]
theorem sc_law_box : FnScope N_law_box ["script", "at", "most"] (defScope s_law_box) := ⟨rfl, rfl, rfl, by decide +kernel, rfl, by decide +kernel, by decide +kernel⟩
abbrev s_law_every : Stmt := topS 36
abbrev N_law_every : List Str := ["box", "found", "least", "most", "step", "longer", "begun", "k"]
theorem sc_law_every : FnScope N_law_every ["box"] (defScope s_law_every) := ⟨rfl, rfl, rfl, by decide +kernel, rfl, by decide +kernel, by decide +kernel⟩
abbrev s_law_number : Stmt := topS 37
abbrev N_law_number : List Str := ["one"]
theorem sc_law_number : FnScope N_law_number ["one"] (defScope s_law_number) := ⟨rfl, rfl, rfl, by decide +kernel, rfl, by decide +kernel, by decide +kernel⟩
abbrev s_law_light : Stmt := topS 38
abbrev N_law_light : List Str := ["script", "at", "box", "every", "one"]
theorem sc_law_light : FnScope N_law_light ["script", "at", "box"] (defScope s_law_light) := ⟨rfl, rfl, rfl, by decide +kernel, rfl, by decide +kernel, by decide +kernel⟩
abbrev s_law_reached : Stmt := topS 39
abbrev N_law_reached : List Str := ["near", "one", "found", "level", "longer", "some", "other"]
theorem sc_law_reached : FnScope N_law_reached ["near", "one"] (defScope s_law_reached) := ⟨rfl, rfl, rfl, by decide +kernel, rfl, by decide +kernel, by decide +kernel⟩
abbrev s_law : Stmt := topS 40
abbrev N_law : List Str := ["script", "i", "box", "same", "every", "light", "good", "near", "one", "groups", "found", "some", "least", "most", "step", "other", "a", "b"]
theorem sc_law : FnScope N_law ["script"] (defScope s_law) := ⟨rfl, rfl, rfl, by decide +kernel, rfl, by decide +kernel, by decide +kernel⟩
structure Ad where
  f_is_int : Addr
  fd_is_int : FuncData
  f_is_wheel : Addr
  fd_is_wheel : FuncData
  f_is_camera : Addr
  fd_is_camera : FuncData
  f_wheel_values : Addr
  fd_wheel_values : FuncData
  f_has_setting : Addr
  fd_has_setting : FuncData
  f_check_camera : Addr
  fd_check_camera : FuncData
  f_check_setting : Addr
  fd_check_setting : FuncData
  f_check_light : Addr
  fd_check_light : FuncData
  f_all_settings : Addr
  fd_all_settings : FuncData
  f_find_exposure : Addr
  fd_find_exposure : FuncData
  f_find_right : Addr
  fd_find_right : FuncData
  f_check_both : Addr
  fd_check_both : FuncData
  f_count_changed : Addr
  fd_count_changed : FuncData
  f_find_shifts : Addr
  fd_find_shifts : FuncData
  f_shifts : Addr
  fd_shifts : FuncData
  f_spread : Addr
  fd_spread : FuncData
  f_fewest_shifts : Addr
  fd_fewest_shifts : FuncData
  f_shift_groups : Addr
  fd_shift_groups : FuncData
  f_law_pick : Addr
  fd_law_pick : FuncData
  f_law_box : Addr
  fd_law_box : FuncData
  f_law_every : Addr
  fd_law_every : FuncData
  f_law_number : Addr
  fd_law_number : FuncData
  f_law_light : Addr
  fd_law_light : FuncData
  f_law_reached : Addr
  fd_law_reached : FuncData
  f_law : Addr
  fd_law : FuncData
  C_InvalidBrightness : Addr
  C_InvalidCamera : Addr
  C_InvalidSetting : Addr
  a_NAMES : Addr
structure Txt (K : PySem.W.Frag) (mg : Str → Option Value) (a : Ad) : Prop where
  F_is_int : Fun K "is_int" "is_int" s_is_int a.f_is_int a.fd_is_int
  b_is_int : Binds K a.fd_is_int ["value", "least", "most"] []
  g_is_int : mg "is_int" = some (.ref a.f_is_int)
  F_is_wheel : Fun K "is_wheel" "is_wheel" s_is_wheel a.f_is_wheel a.fd_is_wheel
  b_is_wheel : Binds K a.fd_is_wheel ["value"] []
  g_is_wheel : mg "is_wheel" = some (.ref a.f_is_wheel)
  F_is_camera : Fun K "is_camera" "is_camera" s_is_camera a.f_is_camera a.fd_is_camera
  b_is_camera : Binds K a.fd_is_camera ["candidate"] []
  g_is_camera : mg "is_camera" = some (.ref a.f_is_camera)
  F_wheel_values : Fun K "wheel_values" "wheel_values" s_wheel_values a.f_wheel_values a.fd_wheel_values
  b_wheel_values : Binds K a.fd_wheel_values ["wheel"] []
  g_wheel_values : mg "wheel_values" = some (.ref a.f_wheel_values)
  F_has_setting : Fun K "has_setting" "has_setting" s_has_setting a.f_has_setting a.fd_has_setting
  b_has_setting : Binds K a.fd_has_setting ["camera", "candidate"] []
  g_has_setting : mg "has_setting" = some (.ref a.f_has_setting)
  F_check_camera : Fun K "check_camera" "check_camera" s_check_camera a.f_check_camera a.fd_check_camera
  b_check_camera : Binds K a.fd_check_camera ["value"] []
  g_check_camera : mg "check_camera" = some (.ref a.f_check_camera)
  F_check_setting : Fun K "check_setting" "check_setting" s_check_setting a.f_check_setting a.fd_check_setting
  b_check_setting : Binds K a.fd_check_setting ["camera", "value"] []
  g_check_setting : mg "check_setting" = some (.ref a.f_check_setting)
  F_check_light : Fun K "check_light" "check_light" s_check_light a.f_check_light a.fd_check_light
  b_check_light : Binds K a.fd_check_light ["value"] []
  g_check_light : mg "check_light" = some (.ref a.f_check_light)
  F_all_settings : Fun K "all_settings" "all_settings" s_all_settings a.f_all_settings a.fd_all_settings
  b_all_settings : Binds K a.fd_all_settings ["camera"] []
  g_all_settings : mg "all_settings" = some (.ref a.f_all_settings)
  F_find_exposure : Fun K "find_exposure" "find_exposure" s_find_exposure a.f_find_exposure a.fd_find_exposure
  b_find_exposure : Binds K a.fd_find_exposure ["setting"] []
  g_find_exposure : mg "find_exposure" = some (.ref a.f_find_exposure)
  F_find_right : Fun K "find_right" "find_right" s_find_right a.f_find_right a.fd_find_right
  b_find_right : Binds K a.fd_find_right ["camera", "brightness"] []
  g_find_right : mg "find_right" = some (.ref a.f_find_right)
  F_check_both : Fun K "check_both" "check_both" s_check_both a.f_check_both a.fd_check_both
  b_check_both : Binds K a.fd_check_both ["camera", "brightness"] []
  g_check_both : mg "check_both" = some (.ref a.f_check_both)
  F_count_changed : Fun K "count_changed" "count_changed" s_count_changed a.f_count_changed a.fd_count_changed
  b_count_changed : Binds K a.fd_count_changed ["one", "other"] []
  g_count_changed : mg "count_changed" = some (.ref a.f_count_changed)
  F_find_shifts : Fun K "find_shifts" "find_shifts" s_find_shifts a.f_find_shifts a.fd_find_shifts
  b_find_shifts : Binds K a.fd_find_shifts ["known", "setting"] []
  g_find_shifts : mg "find_shifts" = some (.ref a.f_find_shifts)
  F_shifts : Fun K "shifts" "shifts" s_shifts a.f_shifts a.fd_shifts
  b_shifts : Binds K a.fd_shifts ["camera", "setting"] []
  g_shifts : mg "shifts" = some (.ref a.f_shifts)
  F_spread : Fun K "spread" "spread" s_spread a.f_spread a.fd_spread
  b_spread : Binds K a.fd_spread ["known", "start"] []
  g_spread : mg "spread" = some (.ref a.f_spread)
  F_fewest_shifts : Fun K "fewest_shifts" "fewest_shifts" s_fewest_shifts a.f_fewest_shifts a.fd_fewest_shifts
  b_fewest_shifts : Binds K a.fd_fewest_shifts ["camera", "one", "other"] []
  g_fewest_shifts : mg "fewest_shifts" = some (.ref a.f_fewest_shifts)
  F_shift_groups : Fun K "shift_groups" "shift_groups" s_shift_groups a.f_shift_groups a.fd_shift_groups
  b_shift_groups : Binds K a.fd_shift_groups ["camera", "brightness"] []
  g_shift_groups : mg "shift_groups" = some (.ref a.f_shift_groups)
  F_law_pick : Fun K "_law_pick" "_law_pick" s_law_pick a.f_law_pick a.fd_law_pick
  b_law_pick : Binds K a.fd_law_pick ["script", "k", "many"] []
  g_law_pick : mg "_law_pick" = some (.ref a.f_law_pick)
  F_law_box : Fun K "_law_box" "_law_box" s_law_box a.f_law_box a.fd_law_box
  b_law_box : Binds K a.fd_law_box ["script", "at", "most"] []
  g_law_box : mg "_law_box" = some (.ref a.f_law_box)
  F_law_every : Fun K "_law_every" "_law_every" s_law_every a.f_law_every a.fd_law_every
  b_law_every : Binds K a.fd_law_every ["box"] []
  g_law_every : mg "_law_every" = some (.ref a.f_law_every)
  F_law_number : Fun K "_law_number" "_law_number" s_law_number a.f_law_number a.fd_law_number
  b_law_number : Binds K a.fd_law_number ["one"] []
  g_law_number : mg "_law_number" = some (.ref a.f_law_number)
  F_law_light : Fun K "_law_light" "_law_light" s_law_light a.f_law_light a.fd_law_light
  b_law_light : Binds K a.fd_law_light ["script", "at", "box"] []
  g_law_light : mg "_law_light" = some (.ref a.f_law_light)
  F_law_reached : Fun K "_law_reached" "_law_reached" s_law_reached a.f_law_reached a.fd_law_reached
  b_law_reached : Binds K a.fd_law_reached ["near", "one"] []
  g_law_reached : mg "_law_reached" = some (.ref a.f_law_reached)
  F_law : Fun K "law" "law" s_law a.f_law a.fd_law
  b_law : Binds K a.fd_law ["script"] []
  g_law : mg "law" = some (.ref a.f_law)
  x_InvalidBrightness : PySem.W.excIn K a.C_InvalidBrightness [.type "ValueError", .type "Exception", .type "BaseException", .type "object"] "ValueError.__new__" = true
  g_InvalidBrightness : mg "InvalidBrightness" = some (.ref a.C_InvalidBrightness)
  k_InvalidBrightness : PySem.W.keepIn K (.ref a.C_InvalidBrightness) = true
  bx_InvalidBrightness : PySem.W.subIn K (.ref a.C_InvalidBrightness) (.type "BaseException") = some true
  t_InvalidBrightness : PySem.W.typeIn K (.ref a.C_InvalidBrightness) = some (.type "type")
  x_InvalidCamera : PySem.W.excIn K a.C_InvalidCamera [.type "ValueError", .type "Exception", .type "BaseException", .type "object"] "ValueError.__new__" = true
  g_InvalidCamera : mg "InvalidCamera" = some (.ref a.C_InvalidCamera)
  k_InvalidCamera : PySem.W.keepIn K (.ref a.C_InvalidCamera) = true
  bx_InvalidCamera : PySem.W.subIn K (.ref a.C_InvalidCamera) (.type "BaseException") = some true
  t_InvalidCamera : PySem.W.typeIn K (.ref a.C_InvalidCamera) = some (.type "type")
  x_InvalidSetting : PySem.W.excIn K a.C_InvalidSetting [.type "ValueError", .type "Exception", .type "BaseException", .type "object"] "ValueError.__new__" = true
  g_InvalidSetting : mg "InvalidSetting" = some (.ref a.C_InvalidSetting)
  k_InvalidSetting : PySem.W.keepIn K (.ref a.C_InvalidSetting) = true
  bx_InvalidSetting : PySem.W.subIn K (.ref a.C_InvalidSetting) (.type "BaseException") = some true
  t_InvalidSetting : PySem.W.typeIn K (.ref a.C_InvalidSetting) = some (.type "type")
  c_MAX_LEAST : ∃ t, mg "MAX_LEAST" = some (.int (40) t)
  c_MAX_LIGHT : ∃ t, mg "MAX_LIGHT" = some (.int (120) t)
  c_MAX_MOST : ∃ t, mg "MAX_MOST" = some (.int (60) t)
  c_MAX_STEP : ∃ t, mg "MAX_STEP" = some (.int (3) t)
  c_MAX_VALUES : ∃ t, mg "MAX_VALUES" = some (.int (13) t)
  c_MIN_LIGHT : ∃ t, mg "MIN_LIGHT" = some (.int (-60) t)
  c_NAMES : mg "NAMES" = some (.ref a.a_NAMES)
  d_NAMES : ∀ S, DV K S (.ref a.a_NAMES) (.tuple [(.str "aperture"), (.str "time"), (.str "sensitivity")])
  m_all : mg "all" = none
  m_bool : mg "bool" = none
  m_int : mg "int" = none
  m_isinstance : mg "isinstance" = none
  m_len : mg "len" = none
  m_list : mg "list" = none
  m_max : mg "max" = none
  m_range : mg "range" = none
  m_set : mg "set" = none
  m_sorted : mg "sorted" = none
  m_tuple : mg "tuple" = none
  m_zip : mg "zip" = none
section
variable {P : Program} {w : World} {K : PySem.W.Frag} {mg : Str → Option Value} {base : Heap} {a : Ad}
theorem ok_is_int (T : Txt K mg a) : FnOk P w K mg base (L2.CX P w) 1 a.f_is_int a.fd_is_int ["value", "least", "most"] (spD K mg 3 F_is_int) :=
  fnD (N := N_is_int) (B := B_is_int) T.F_is_int sc_is_int rfl fun cdv A outer s H E hr => ⟨_, sds_one (sd_ret (pd_and (pd_isi (T := "int") (by decide) (pdv 0) rfl T.m_isinstance bt_isinstance rfl T.m_int bt_int) (pd_and (pd_not (pd_isi (T := "bool") (by decide) (pdv 0) rfl T.m_isinstance bt_isinstance rfl T.m_bool bt_bool)) (pd_one (pd_chain op_le op_le os_le os_le (pdv 1) (pdv 0) (pdv 2))))))⟩
theorem ok_wheel_values (T : Txt K mg a) : FnOk P w K mg base (L2.CX P w) 1 a.f_wheel_values a.fd_wheel_values ["wheel"] (spD K mg 1 F_wheel_values) :=
  fnD (N := N_wheel_values) (B := B_wheel_values) T.F_wheel_values sc_wheel_values rfl fun cdv A outer s H E hr => ⟨_, sds_cons (sd_asg (pdv 0) (gd_tup rfl (gds_cons (gn 1 sc_wheel_values.nd) (gds_cons (gn 2 sc_wheel_values.nd) (gds_cons (gn 3 sc_wheel_values.nd) gds_nil))))) (sds_one (sd_ret (pd_listR3 rfl rfl T.m_list rfl T.m_range (ad_cons (pdv 1) (ad_cons (pd_op op_addA os_add (pdv 2) pd_int) (ad_cons (pdv 3) ad_nil))))))⟩
theorem ok_find_exposure (T : Txt K mg a) : FnOk P w K mg base (L2.CX P w) 1 a.f_find_exposure a.fd_find_exposure ["setting"] (spD K mg 1 F_find_exposure) :=
  fnD (N := N_find_exposure) (B := B_find_exposure) T.F_find_exposure sc_find_exposure rfl fun cdv A outer s H E hr => ⟨_, sds_one (sd_ret (pd_op op_sub os_sub (pd_op op_addA os_add (pd_ix ix_A os_ix (pdv 0) pd_int) (pd_ix ix_A os_ix (pdv 0) pd_int)) (pd_ix ix_A os_ix (pdv 0) pd_int)))⟩
theorem ok_count_changed (T : Txt K mg a) : FnOk P w K mg base (L2.CX P w) 1 a.f_count_changed a.fd_count_changed ["one", "other"] (spD K mg 2 F_count_changed) :=
  fnD (N := N_count_changed) (B := B_count_changed) T.F_count_changed sc_count_changed rfl fun cdv A outer s H E hr => ⟨_, sds_one (sd_ret (pd_callB c_len cs_len rfl T.m_len bt_len (ad_cons (pd_lc rfl sc_count_changed.nd (id_zip rfl T.m_zip (ad_cons (pdv 0) (ad_cons (pdv 1) ad_nil))) (blkOk_by (own := [("left", 2), ("right", 3)]) (N := N_count_changed) (sc := defScope s_count_changed) (by decide +kernel)) (fun _ _ _ _ _ => gd_tup rfl (gds_cons (gn 2 sc_count_changed.nd) (gds_cons (gn 3 sc_count_changed.nd) gds_nil))) (fun _ _ _ _ _ => tds_one (td_cmp (op_neK (hU hr)) os_ne (pdv 2) (pdv 3))) (fun _ _ _ _ _ => pd_int)) ad_nil)))⟩
theorem ok_law_pick (T : Txt K mg a) : FnOk P w K mg base (L2.CX P w) 1 a.f_law_pick a.fd_law_pick ["script", "k", "many"] (spD K mg 3 F_law_pick) :=
  fnD (N := N_law_pick) (B := B_law_pick) T.F_law_pick sc_law_pick rfl fun cdv A outer s H E hr => ⟨_, sds_cons (sd_set (pd_if (td_cmp (op_neK (hU hr)) os_ne (pdv 0) (pd_lst ad_nil)) (pd_ix ix_A os_ix (pdv 0) (pd_op op_mod os_mod (pdv 1) (pd_callB c_len cs_len rfl T.m_len bt_len (ad_cons (pdv 0) ad_nil)))) pd_int) sc_law_pick.nd rfl) (sds_cons (sd_p2 (i := 4) (j := 5) sc_law_pick.nd (zd_d (pd_op op_fdivW os_div (pdv 3) (pd_op op_pow os_pow pd_int pd_int)) (zd_d (pd_op op_fdivW os_div (pdv 1) (pd_callB (call_max2 rfl) cs_max2 rfl T.m_max bt_max (ad_cons (pd_callB c_len cs_len rfl T.m_len bt_len (ad_cons (pdv 0) ad_nil)) (ad_cons pd_int ad_nil)))) zd_nil))) (sds_cons (sd_while 100000 poX (WD.td (wd_and (td_cmp op_gt os_gt (pdv 4) pd_int) (wd_and1 (td_cmp op_gt os_gt (pdv 5) pd_int)))) (sds_one (sd_p2 (i := 4) (j := 5) sc_law_pick.nd (zd_d (pd_op op_fdivW os_div (pdv 4) pd_int) (zd_d (pd_op op_sub os_sub (pdv 5) pd_int) zd_nil))))) (sds_cons (sd_if (td_cmp op_gt os_gt (pdv 4) pd_int) (sds_one (sd_ret (pd_op op_mod os_mod (pd_op op_mod os_mod (pdv 4) pd_int) (pdv 2)))) sds_nil) (sds_cons (sd_set (pd_op op_mod os_mod (pd_op op_mul os_mulI (pd_op op_addA os_add (pd_op op_mul os_mulI (pdv 3) pd_int) (pd_op op_mul os_mulI pd_int (pd_op op_addA os_add (pdv 1) pd_int))) pd_int) pd_int) sc_law_pick.nd rfl) (sds_one (sd_ret (pd_op op_mod os_mod (pd_op op_mod os_mod (pd_op op_addA os_add (pd_op op_mul os_mulI (pdv 6) (pdv 6)) (pd_op op_fdivW os_div (pdv 6) pd_int)) pd_int) (pdv 2))))))))⟩
theorem ok_law_every (T : Txt K mg a) : FnOk P w K mg base (L2.CX P w) 1 a.f_law_every a.fd_law_every ["box"] (spD K mg 1 F_law_every) :=
  fnD (N := N_law_every) (B := B_law_every) T.F_law_every sc_law_every rfl fun cdv A outer s H E hr => ⟨_, sds_cons (sd_set (pd_lst (ad_cons (pd_tup ad_nil) ad_nil)) sc_law_every.nd rfl) (sds_cons (sd_forI poX rfl (id_seq (pdv 0)) (gd_tup rfl (gds_cons (gn 2 sc_law_every.nd) (gds_cons (gn 3 sc_law_every.nd) (gds_cons (gn 4 sc_law_every.nd) gds_nil)))) (sds_cons (sd_ownL ad_nil sc_law_every.nd rfl) (sds_cons (sd_forI poX rfl (id_seq (pdv 1)) (gd_name (gn 6 sc_law_every.nd)) (sds_one (sd_ext' false (pv 5) (pd_lc rfl sc_law_every.nd (id_range1 rfl T.m_range (ad_cons (pd_op op_addA os_add (pd_op op_sub os_sub (pdv 3) (pdv 2)) pd_int) ad_nil)) (blkOk_by (own := [("k", 7)]) (N := N_law_every) (sc := defScope s_law_every) (by decide +kernel)) (fun _ _ _ _ _ => gd_name (gn 7 sc_law_every.nd)) (fun _ _ _ _ _ => tds_one (td_cmp (op_eqK (hU hr)) os_eq (pd_op op_mod os_mod (pdv 7) (pdv 4)) pd_int)) (fun _ _ _ _ _ => pd_op op_addA os_add (pdv 6) (pd_tup (ad_cons (pd_op op_addA os_add (pdv 2) (pdv 7)) ad_nil))))))) (sds_one (sd_frz [5] (sd_set (pdv 5) sc_law_every.nd rfl)))))) (sds_one (sd_ret (pdv 1))))⟩
theorem ok_law_number (T : Txt K mg a) : FnOk P w K mg base (L2.CX P w) 1 a.f_law_number a.fd_law_number ["one"] (spD K mg 1 F_law_number) :=
  fnD (N := N_law_number) (B := B_law_number) T.F_law_number sc_law_number rfl fun cdv A outer s H E hr => ⟨_, sds_one (sd_ret (pd_op op_sub os_sub (pd_op op_addA os_add (pd_ix ix_A os_ix (pdv 0) pd_int) (pd_ix ix_A os_ix (pdv 0) pd_int)) (pd_ix ix_A os_ix (pdv 0) pd_int)))⟩
theorem ok_law_reached (T : Txt K mg a) : FnOk P w K mg base (L2.CX P w) 1 a.f_law_reached a.fd_law_reached ["near", "one"] (spD K mg 2 F_law_reached) :=
  fnD (N := N_law_reached) (B := B_law_reached) T.F_law_reached sc_law_reached rfl fun cdv A outer s H E hr => ⟨_, sds_cons (sd_p2 (i := 2) (j := 3) sc_law_reached.nd (zd_dT (hU hr) (pdv 1) pd_int (zd_d (pd_lst (ad_cons (pdv 1) ad_nil)) zd_nil))) (sds_cons (sd_while 100000 poX (td_cmp (op_neK (hU hr)) os_ne (pdv 3) (pd_lst ad_nil)) (sds_cons (sd_ownL ad_nil sc_law_reached.nd rfl) (sds_cons (sd_forI poX rfl (id_seq (pdv 3)) (gd_name (gn 5 sc_law_reached.nd)) (sds_one (sd_forI poX rfl (id_seq (pd_sget (hU hr) (pdv 0) (pdv 5))) (gd_name (gn 6 sc_law_reached.nd)) (sds_one (sd_ifO (tdo_notin (hU hr) (pv 2) (pdv 6)) (sds_cons (sd_dput (hU hr) (pv 2) (pdv 6) (pdo_op op_addA os_add (pdo_get (hU hr) (pv 2) (pdv 5)) (pdo_of pd_int))) (sds_one (sd_app' false (pv 4) (pdv 6)))) sds_nil))))) (sds_one (sd_frz [4] (sd_set (pdv 4) sc_law_reached.nd rfl)))))) (sds_one (sd_frz [2] (sd_ret (pdv 2)))))⟩
theorem ok_is_wheel (T : Txt K mg a) : FnOk P w K mg base (L2.CX P w) 2 a.f_is_wheel a.fd_is_wheel ["value"] (spD K mg 1 F_is_wheel) :=
  fnD (N := N_is_wheel) (B := B_is_wheel) T.F_is_wheel sc_is_wheel rfl fun cdv A outer s H E hr => ⟨_, sds_cons (sd_if (WD.td (wd_or (td_not (td_val (pd_isi (T := "tuple") (by decide) (pdv 0) rfl T.m_isinstance bt_isinstance rfl T.m_tuple bt_tuple))) (wd_or (td_cmp (op_neK (hU hr)) os_ne (pd_callB c_len cs_len rfl T.m_len bt_len (ad_cons (pdv 0) ad_nil)) pd_int) (wd_or1 (td_not (td_val (pd_call (ok_is_int T) (hr.mono (by decide)) rfl T.g_is_int T.F_is_int.kp T.b_is_int pX (ad_cons (pd_ix ix_A os_ix (pdv 0) pd_int) (ad_cons pd_int (ad_cons (pd_gint T.c_MAX_LEAST) ad_nil)))))))))) (sds_one (sd_ret pd_bl)) sds_nil) (sds_cons (sd_asg (pdv 0) (gd_tup rfl (gds_cons (gn 1 sc_is_wheel.nd) (gds_cons (gn 2 sc_is_wheel.nd) (gds_cons (gn 3 sc_is_wheel.nd) gds_nil))))) (sds_cons (sd_if (WD.td (wd_or (td_not (td_val (pd_call (ok_is_int T) (hr.mono (by decide)) rfl T.g_is_int T.F_is_int.kp T.b_is_int pX (ad_cons (pdv 2) (ad_cons (pdv 1) (ad_cons (pd_gint T.c_MAX_MOST) ad_nil)))))) (wd_or1 (td_not (td_val (pd_call (ok_is_int T) (hr.mono (by decide)) rfl T.g_is_int T.F_is_int.kp T.b_is_int pX (ad_cons (pdv 3) (ad_cons pd_int (ad_cons (pd_gint T.c_MAX_STEP) ad_nil))))))))) (sds_one (sd_ret pd_bl)) sds_nil) (sds_one (sd_ret (pd_cmp op_le os_le (pd_op op_addA os_add (pd_op op_fdivW os_div (pd_op op_sub os_sub (pdv 2) (pdv 1)) (pdv 3)) pd_int) (pd_gint T.c_MAX_VALUES))))))⟩
theorem ok_has_setting (T : Txt K mg a) : FnOk P w K mg base (L2.CX P w) 2 a.f_has_setting a.fd_has_setting ["camera", "candidate"] (spD K mg 2 F_has_setting) :=
  fnD (N := N_has_setting) (B := B_has_setting) T.F_has_setting sc_has_setting rfl fun cdv A outer s H E hr => ⟨_, sds_cons (sd_if (WD.td (wd_or (td_not (td_val (pd_isi (T := "tuple") (by decide) (pdv 1) rfl T.m_isinstance bt_isinstance rfl T.m_tuple bt_tuple))) (wd_or1 (td_cmp (op_neK (hU hr)) os_ne (pd_callB c_len cs_len rfl T.m_len bt_len (ad_cons (pdv 1) ad_nil)) (pd_callB c_len cs_len rfl T.m_len bt_len (ad_cons (pd_gref T.c_NAMES T.d_NAMES) ad_nil)))))) (sds_one (sd_ret pd_bl)) sds_nil) (sds_cons (sd_setLc rfl sc_has_setting.nd rfl rfl (sw_true rfl rfl rfl (by decide +kernel)) (id_zip rfl T.m_zip (ad_cons (pdv 1) (ad_cons (pdv 0) ad_nil))) (blkOk_by (own := [("value", 3), ("wheel", 4)]) (N := N_has_setting) (sc := defScope s_has_setting) (by decide +kernel)) (fun _ _ _ _ _ => gd_tup rfl (gds_cons (gn 3 sc_has_setting.nd) (gds_cons (gn 4 sc_has_setting.nd) gds_nil))) (fun _ _ _ _ _ => tds_nil) (fun _ _ _ _ _ => pd_and (pd_call (ok_is_int T) (hr.mono (by decide)) rfl T.g_is_int T.F_is_int.kp T.b_is_int passL (ad_cons (pdv 3) (ad_cons pd_int (ad_cons (pd_gint T.c_MAX_MOST) ad_nil)))) (pd_one (pd_cmp (op_inK (hU hr)) os_in (pdv 3) (pd_call (ok_wheel_values T) (hr.mono (by decide)) rfl T.g_wheel_values T.F_wheel_values.kp T.b_wheel_values passL (ad_cons (pdv 4) ad_nil)))))) (sds_one (sd_ret (pd_callB (c_all rfl) cs_all rfl T.m_all bt_all (ad_cons (pdv 2) ad_nil)))))⟩
theorem ok_check_light (T : Txt K mg a) : FnOk P w K mg base (L2.CX P w) 2 a.f_check_light a.fd_check_light ["value"] (spD K mg 1 F_check_light) :=
  fnD (N := N_check_light) (B := B_check_light) T.F_check_light sc_check_light rfl fun cdv A outer s H E hr => ⟨_, sds_one (sd_if (td_not (td_val (pd_call (ok_is_int T) (hr.mono (by decide)) rfl T.g_is_int T.F_is_int.kp T.b_is_int pX (ad_cons (pdv 0) (ad_cons (pd_gint T.c_MIN_LIGHT) (ad_cons (pd_gint T.c_MAX_LIGHT) ad_nil)))))) (sds_one (sd_raise rfl tkX T.x_InvalidBrightness T.g_InvalidBrightness T.k_InvalidBrightness T.bx_InvalidBrightness T.t_InvalidBrightness rfl)) sds_nil)⟩
theorem ok_all_settings (T : Txt K mg a) : FnOk P w K mg base (L2.CX P w) 2 a.f_all_settings a.fd_all_settings ["camera"] (spD K mg 1 F_all_settings) :=
  fnD (N := N_all_settings) (B := B_all_settings) T.F_all_settings sc_all_settings rfl fun cdv A outer s H E hr => ⟨_, sds_cons (sd_set (pd_lst (ad_cons (pd_tup ad_nil) ad_nil)) sc_all_settings.nd rfl) (sds_cons (sd_forI poX rfl (id_seq (pdv 0)) (gd_name (gn 2 sc_all_settings.nd)) (sds_one (sd_setLc2 (vs1 := [4]) rfl sc_all_settings.nd rfl rfl (sw_true rfl rfl rfl (by decide +kernel)) (id_seq (pdv 1)) (blkOk_by (own := [("begun", 3), ("value", 4)]) (N := N_all_settings) (sc := defScope s_all_settings) (by decide +kernel)) (by decide) (fun _ _ _ _ _ => gd_name (gn 3 sc_all_settings.nd)) (fun _ _ _ _ _ => tds_nil) (fun _ _ _ _ _ => id_seq (pd_call (ok_wheel_values T) (hr.mono (by decide)) rfl T.g_wheel_values T.F_wheel_values.kp T.b_wheel_values passL (ad_cons (pdv 2) ad_nil))) (fun _ _ _ _ _ => gd_name (gn 4 sc_all_settings.nd)) (fun _ _ _ _ _ => tds_nil) (fun _ _ _ _ _ => pd_op op_addA os_add (pdv 3) (pd_tup (ad_cons (pdv 4) ad_nil)))))) (sds_one (sd_ret (pdv 1))))⟩
theorem ok_find_shifts (T : Txt K mg a) : FnOk P w K mg base (L2.CX P w) 2 a.f_find_shifts a.fd_find_shifts ["known", "setting"] (spD K mg 2 F_find_shifts) :=
  fnD (N := N_find_shifts) (B := B_find_shifts) T.F_find_shifts sc_find_shifts rfl fun cdv A outer s H E hr => ⟨_, sds_one (sd_ret (pd_lc rfl sc_find_shifts.nd (id_seq (pdv 0)) (blkOk_by (own := [("other", 2)]) (N := N_find_shifts) (sc := defScope s_find_shifts) (by decide +kernel)) (fun _ _ _ _ _ => gd_name (gn 2 sc_find_shifts.nd)) (fun _ _ _ _ _ => tds_one (td_cmp (op_eqK (hU hr)) os_eq (pd_call (ok_count_changed T) (hr.mono (by decide)) rfl T.g_count_changed T.F_count_changed.kp T.b_count_changed passL (ad_cons (pdv 1) (ad_cons (pdv 2) ad_nil))) pd_int)) (fun _ _ _ _ _ => pdv 2)))⟩
theorem ok_law_box (T : Txt K mg a) : FnOk P w K mg base (L2.CX P w) 2 a.f_law_box a.fd_law_box ["script", "at", "most"] (spD K mg 3 F_law_box) :=
  fnD (N := N_law_box) (B := B_law_box) T.F_law_box sc_law_box rfl fun cdv A outer s H E hr => ⟨_, sds_cons (sd_ownL ad_nil sc_law_box.nd rfl) (sds_cons (sd_forI poX rfl (id_range1 rfl T.m_range (ad_cons pd_int ad_nil)) (gd_name (gn 4 sc_law_box.nd)) (sds_cons (sd_p2 (i := 5) (j := 6) sc_law_box.nd (zd_d (pd_call (ok_law_pick T) (hr.mono (by decide)) rfl T.g_law_pick T.F_law_pick.kp T.b_law_pick pX (ad_cons (pdv 0) (ad_cons (pd_op op_addA os_add (pdv 1) (pd_op op_mul os_mulI pd_int (pdv 4))) (ad_cons pd_int ad_nil)))) (zd_d (pd_op op_addA os_add pd_int (pd_call (ok_law_pick T) (hr.mono (by decide)) rfl T.g_law_pick T.F_law_pick.kp T.b_law_pick pX (ad_cons (pdv 0) (ad_cons (pd_op op_addA os_add (pd_op op_addA os_add (pdv 1) (pd_op op_mul os_mulI pd_int (pdv 4))) pd_int) (ad_cons pd_int ad_nil))))) zd_nil))) (sds_cons (sd_set (pd_call (ok_law_pick T) (hr.mono (by decide)) rfl T.g_law_pick T.F_law_pick.kp T.b_law_pick pX (ad_cons (pdv 0) (ad_cons (pd_op op_addA os_add (pd_op op_addA os_add (pdv 1) (pd_op op_mul os_mulI pd_int (pdv 4))) pd_int) (ad_cons (pdv 2) ad_nil)))) sc_law_box.nd rfl) (sds_cons (sd_set (pd_call (ok_law_pick T) (hr.mono (by decide)) rfl T.g_law_pick T.F_law_pick.kp T.b_law_pick pX (ad_cons (pdv 0) (ad_cons (pd_op op_addA os_add (pd_op op_addA os_add (pdv 1) (pd_op op_mul os_mulI pd_int (pdv 4))) pd_int) (ad_cons (pdv 6) ad_nil)))) sc_law_box.nd rfl) (sds_one (sd_app' false (pv 3) (pd_tup (ad_cons (pdv 5) (ad_cons (pd_op op_addA os_add (pd_op op_addA os_add (pdv 5) (pd_op op_mul os_mulI (pdv 6) (pdv 7))) (pdv 8)) (ad_cons (pdv 6) ad_nil)))))))))) (sds_one (sd_frz [3] (sd_ret (pd_callTy c_tup cs_tupOf rfl T.m_tuple bt_tuple (ad_cons (pdv 3) ad_nil))))))⟩
theorem ok_law_light (T : Txt K mg a) : FnOk P w K mg base (L2.CX P w) 2 a.f_law_light a.fd_law_light ["script", "at", "box"] (spD K mg 3 F_law_light) :=
  fnD (N := N_law_light) (B := B_law_light) T.F_law_light sc_law_light rfl fun cdv A outer s H E hr => ⟨_, sds_cons (sd_set (pd_call (ok_law_every T) (hr.mono (by decide)) rfl T.g_law_every T.F_law_every.kp T.b_law_every pX (ad_cons (pdv 2) ad_nil)) sc_law_light.nd rfl) (sds_cons (sd_set (pd_ix ix_A os_ix (pdv 3) (pd_call (ok_law_pick T) (hr.mono (by decide)) rfl T.g_law_pick T.F_law_pick.kp T.b_law_pick pX (ad_cons (pdv 0) (ad_cons (pdv 1) (ad_cons (pd_callB c_len cs_len rfl T.m_len bt_len (ad_cons (pdv 3) ad_nil)) ad_nil))))) sc_law_light.nd rfl) (sds_one (sd_ret (pd_op op_addA os_add (pd_call (ok_law_number T) (hr.mono (by decide)) rfl T.g_law_number T.F_law_number.kp T.b_law_number pX (ad_cons (pdv 4) ad_nil)) (pd_ix ix_A os_ix (pd_tup (ad_cons pd_int (ad_cons pd_int (ad_cons pd_int (ad_cons pd_int (ad_cons (pd_neg pd_int) (ad_cons pd_int ad_nil))))))) (pd_call (ok_law_pick T) (hr.mono (by decide)) rfl T.g_law_pick T.F_law_pick.kp T.b_law_pick pX (ad_cons (pdv 0) (ad_cons (pd_op op_addA os_add (pdv 1) pd_int) (ad_cons pd_int ad_nil)))))))))⟩
theorem ok_is_camera (T : Txt K mg a) : FnOk P w K mg base (L2.CX P w) 3 a.f_is_camera a.fd_is_camera ["candidate"] (spD K mg 1 F_is_camera) :=
  fnD (N := N_is_camera) (B := B_is_camera) T.F_is_camera sc_is_camera rfl fun cdv A outer s H E hr => ⟨_, sds_cons (sd_if (WD.td (wd_or (td_not (td_val (pd_isi (T := "tuple") (by decide) (pdv 0) rfl T.m_isinstance bt_isinstance rfl T.m_tuple bt_tuple))) (wd_or1 (td_cmp (op_neK (hU hr)) os_ne (pd_callB c_len cs_len rfl T.m_len bt_len (ad_cons (pdv 0) ad_nil)) (pd_callB c_len cs_len rfl T.m_len bt_len (ad_cons (pd_gref T.c_NAMES T.d_NAMES) ad_nil)))))) (sds_one (sd_ret pd_bl)) sds_nil) (sds_one (sd_ret (pd_callB (c_all rfl) cs_all rfl T.m_all bt_all (ad_cons (pd_lc rfl sc_is_camera.nd (id_seq (pdv 0)) (blkOk_by (own := [("wheel", 1)]) (N := N_is_camera) (sc := defScope s_is_camera) (by decide +kernel)) (fun _ _ _ _ _ => gd_name (gn 1 sc_is_camera.nd)) (fun _ _ _ _ _ => tds_nil) (fun _ _ _ _ _ => pd_call (ok_is_wheel T) (hr.mono (by decide)) rfl T.g_is_wheel T.F_is_wheel.kp T.b_is_wheel passL (ad_cons (pdv 1) ad_nil))) ad_nil))))⟩
theorem ok_check_setting (T : Txt K mg a) : FnOk P w K mg base (L2.CX P w) 3 a.f_check_setting a.fd_check_setting ["camera", "value"] (spD K mg 2 F_check_setting) :=
  fnD (N := N_check_setting) (B := B_check_setting) T.F_check_setting sc_check_setting rfl fun cdv A outer s H E hr => ⟨_, sds_one (sd_if (td_not (td_val (pd_call (ok_has_setting T) (hr.mono (by decide)) rfl T.g_has_setting T.F_has_setting.kp T.b_has_setting pX (ad_cons (pdv 0) (ad_cons (pdv 1) ad_nil))))) (sds_one (sd_raise rfl tkX T.x_InvalidSetting T.g_InvalidSetting T.k_InvalidSetting T.bx_InvalidSetting T.t_InvalidSetting rfl)) sds_nil)⟩
theorem ok_find_right (T : Txt K mg a) : FnOk P w K mg base (L2.CX P w) 3 a.f_find_right a.fd_find_right ["camera", "brightness"] (spD K mg 2 F_find_right) :=
  fnD (N := N_find_right) (B := B_find_right) T.F_find_right sc_find_right rfl fun cdv A outer s H E hr => ⟨_, sds_one (sd_ret (pd_lc rfl sc_find_right.nd (id_seq (pd_call (ok_all_settings T) (hr.mono (by decide)) rfl T.g_all_settings T.F_all_settings.kp T.b_all_settings pX (ad_cons (pdv 0) ad_nil))) (blkOk_by (own := [("setting", 2)]) (N := N_find_right) (sc := defScope s_find_right) (by decide +kernel)) (fun _ _ _ _ _ => gd_name (gn 2 sc_find_right.nd)) (fun _ _ _ _ _ => tds_one (td_cmp (op_eqK (hU hr)) os_eq (pd_call (ok_find_exposure T) (hr.mono (by decide)) rfl T.g_find_exposure T.F_find_exposure.kp T.b_find_exposure passL (ad_cons (pdv 2) ad_nil)) (pdv 1))) (fun _ _ _ _ _ => pdv 2)))⟩
theorem ok_spread (T : Txt K mg a) : FnOk P w K mg base (L2.CX P w) 3 a.f_spread a.fd_spread ["known", "start"] (spD K mg 2 F_spread) :=
  fnD (N := N_spread) (B := B_spread) T.F_spread sc_spread rfl fun cdv A outer s H E hr => ⟨_, sds_cons (sd_p2 (i := 2) (j := 3) sc_spread.nd (zd_dT (hU hr) (pdv 1) pd_int (zd_d (pd_lst (ad_cons (pdv 1) ad_nil)) zd_nil))) (sds_cons (sd_while 100000 poX (td_cmp (op_neK (hU hr)) os_ne (pdv 3) (pd_lst ad_nil)) (sds_cons (sd_ownL ad_nil sc_spread.nd rfl) (sds_cons (sd_forI poX rfl (id_seq (pdv 3)) (gd_name (gn 5 sc_spread.nd)) (sds_one (sd_forI poX rfl (id_seq (pd_call (ok_find_shifts T) (hr.mono (by decide)) rfl T.g_find_shifts T.F_find_shifts.kp T.b_find_shifts pX (ad_cons (pdv 0) (ad_cons (pdv 5) ad_nil)))) (gd_name (gn 6 sc_spread.nd)) (sds_one (sd_ifO (tdo_notin (hU hr) (pv 2) (pdv 6)) (sds_cons (sd_dput (hU hr) (pv 2) (pdv 6) (pdo_op op_addA os_add (pdo_get (hU hr) (pv 2) (pdv 5)) (pdo_of pd_int))) (sds_one (sd_app' false (pv 4) (pdv 6)))) sds_nil))))) (sds_one (sd_frz [4] (sd_set (pdv 4) sc_spread.nd rfl)))))) (sds_one (sd_frz [2] (sd_ret (pdv 2)))))⟩
theorem ok_check_camera (T : Txt K mg a) : FnOk P w K mg base (L2.CX P w) 4 a.f_check_camera a.fd_check_camera ["value"] (spD K mg 1 F_check_camera) :=
  fnD (N := N_check_camera) (B := B_check_camera) T.F_check_camera sc_check_camera rfl fun cdv A outer s H E hr => ⟨_, sds_one (sd_if (td_not (td_val (pd_call (ok_is_camera T) (hr.mono (by decide)) rfl T.g_is_camera T.F_is_camera.kp T.b_is_camera pX (ad_cons (pdv 0) ad_nil)))) (sds_one (sd_raise rfl tkX T.x_InvalidCamera T.g_InvalidCamera T.k_InvalidCamera T.bx_InvalidCamera T.t_InvalidCamera rfl)) sds_nil)⟩
theorem ok_check_both (T : Txt K mg a) : FnOk P w K mg base (L2.CX P w) 5 a.f_check_both a.fd_check_both ["camera", "brightness"] (spD K mg 2 F_check_both) :=
  fnD (N := N_check_both) (B := B_check_both) T.F_check_both sc_check_both rfl fun cdv A outer s H E hr => ⟨_, sds_cons (sd_expr (pd_call (ok_check_camera T) (hr.mono (by decide)) rfl T.g_check_camera T.F_check_camera.kp T.b_check_camera pX (ad_cons (pdv 0) ad_nil))) (sds_one (sd_expr (pd_call (ok_check_light T) (hr.mono (by decide)) rfl T.g_check_light T.F_check_light.kp T.b_check_light pX (ad_cons (pdv 1) ad_nil))))⟩
theorem ok_shifts (T : Txt K mg a) : FnOk P w K mg base (L2.CX P w) 5 a.f_shifts a.fd_shifts ["camera", "setting"] (spD K mg 2 F_shifts) :=
  fnD (N := N_shifts) (B := B_shifts) T.F_shifts sc_shifts rfl fun cdv A outer s H E hr => ⟨_, sds_cons (sd_expr (pd_call (ok_check_camera T) (hr.mono (by decide)) rfl T.g_check_camera T.F_check_camera.kp T.b_check_camera pX (ad_cons (pdv 0) ad_nil))) (sds_cons (sd_expr (pd_call (ok_check_setting T) (hr.mono (by decide)) rfl T.g_check_setting T.F_check_setting.kp T.b_check_setting pX (ad_cons (pdv 0) (ad_cons (pdv 1) ad_nil)))) (sds_one (sd_ret (pd_call (ok_find_shifts T) (hr.mono (by decide)) rfl T.g_find_shifts T.F_find_shifts.kp T.b_find_shifts pX (ad_cons (pd_call (ok_find_right T) (hr.mono (by decide)) rfl T.g_find_right T.F_find_right.kp T.b_find_right pX (ad_cons (pdv 0) (ad_cons (pd_call (ok_find_exposure T) (hr.mono (by decide)) rfl T.g_find_exposure T.F_find_exposure.kp T.b_find_exposure pX (ad_cons (pdv 1) ad_nil)) ad_nil))) (ad_cons (pdv 1) ad_nil))))))⟩
theorem ok_fewest_shifts (T : Txt K mg a) : FnOk P w K mg base (L2.CX P w) 5 a.f_fewest_shifts a.fd_fewest_shifts ["camera", "one", "other"] (spD K mg 3 F_fewest_shifts) :=
  fnD (N := N_fewest_shifts) (B := B_fewest_shifts) T.F_fewest_shifts sc_fewest_shifts rfl fun cdv A outer s H E hr => ⟨_, sds_cons (sd_expr (pd_call (ok_check_camera T) (hr.mono (by decide)) rfl T.g_check_camera T.F_check_camera.kp T.b_check_camera pX (ad_cons (pdv 0) ad_nil))) (sds_cons (sd_expr (pd_call (ok_check_setting T) (hr.mono (by decide)) rfl T.g_check_setting T.F_check_setting.kp T.b_check_setting pX (ad_cons (pdv 0) (ad_cons (pdv 1) ad_nil)))) (sds_cons (sd_expr (pd_call (ok_check_setting T) (hr.mono (by decide)) rfl T.g_check_setting T.F_check_setting.kp T.b_check_setting pX (ad_cons (pdv 0) (ad_cons (pdv 2) ad_nil)))) (sds_one (sd_ret (pd_sget1 (hU hr) (pd_call (ok_spread T) (hr.mono (by decide)) rfl T.g_spread T.F_spread.kp T.b_spread pX (ad_cons (pd_call (ok_find_right T) (hr.mono (by decide)) rfl T.g_find_right T.F_find_right.kp T.b_find_right pX (ad_cons (pdv 0) (ad_cons (pd_call (ok_find_exposure T) (hr.mono (by decide)) rfl T.g_find_exposure T.F_find_exposure.kp T.b_find_exposure pX (ad_cons (pdv 1) ad_nil)) ad_nil))) (ad_cons (pdv 1) ad_nil))) (pdv 2))))))⟩
theorem ok_shift_groups (T : Txt K mg a) : FnOk P w K mg base (L2.CX P w) 6 a.f_shift_groups a.fd_shift_groups ["camera", "brightness"] (spD K mg 2 F_shift_groups) :=
  fnD (N := N_shift_groups) (B := B_shift_groups) T.F_shift_groups sc_shift_groups rfl fun cdv A outer s H E hr => ⟨_, sds_cons (sd_expr (pd_call (ok_check_both T) (hr.mono (by decide)) rfl T.g_check_both T.F_check_both.kp T.b_check_both pX (ad_cons (pdv 0) (ad_cons (pdv 1) ad_nil)))) (sds_cons (sd_p3 (i := 2) (j := 3) (l := 4) sc_shift_groups.nd (zd_d (pd_call (ok_find_right T) (hr.mono (by decide)) rfl T.g_find_right T.F_find_right.kp T.b_find_right pX (ad_cons (pdv 0) (ad_cons (pdv 1) ad_nil))) (zd_lst ad_nil (zd_dE zd_nil)))) (sds_cons (sd_forI poX rfl (id_seq (pdv 2)) (gd_name (gn 5 sc_shift_groups.nd)) (sds_one (sd_ifO (tdo_notin (hU hr) (pv 4) (pdv 5)) (sds_cons (sd_set (pd_call (ok_spread T) (hr.mono (by decide)) rfl T.g_spread T.F_spread.kp T.b_spread pX (ad_cons (pdv 2) (ad_cons (pdv 5) ad_nil))) sc_shift_groups.nd rfl) (sds_cons (sd_app' false (pv 3) (pd_callTy c_tup cs_tupOf rfl T.m_tuple bt_tuple (ad_cons (pd_callB (c_sortKT rfl (hV hr)) cs_sortKT rfl T.m_sorted bt_sorted (ad_cons (pdv 6) ad_nil)) ad_nil))) (sds_one (sd_forK poX rfl (pv 6) (gd_name (gn 7 sc_shift_groups.nd)) (sds_one (sd_dput (hU hr) (pv 4) (pdv 7) (pdo_of pd_bl))))))) sds_nil))) (sds_one (sd_frz [3] (sd_ret (pd_callB (c_sortD (hV hr)) cs_sortD rfl T.m_sorted bt_sorted (ad_cons (pdv 3) ad_nil)))))))⟩
theorem ok_law (T : Txt K mg a) : FnOk P w K mg base (L2.CX P w) 7 a.f_law a.fd_law ["script"] (spD K mg 1 F_law) :=
  fnD (N := N_law) (B := B_law) T.F_law sc_law rfl fun cdv A outer s H E hr => ⟨_, sds_cons (sd_forI poX rfl (id_range1 rfl T.m_range (ad_cons pd_int ad_nil)) (gd_name (gn 1 sc_law.nd)) (sds_cons (sd_set (pd_call (ok_law_box T) (hr.mono (by decide)) rfl T.g_law_box T.F_law_box.kp T.b_law_box pX (ad_cons (pdv 0) (ad_cons (pd_op op_mul os_mulI pd_int (pdv 1)) (ad_cons pd_int ad_nil)))) sc_law.nd rfl) (sds_cons (sd_if (td_cmp (op_eqK (hU hr)) os_eq (pdv 1) pd_int) (sds_cons (sd_set (pd_ix ix_A os_ix (pd_ix ix_A os_ix (pdv 2) pd_int) pd_int) sc_law.nd rfl) (sds_one (sd_set (pd_callTy c_tup cs_tupOf rfl T.m_tuple bt_tuple (ad_cons (pd_lc rfl sc_law.nd (id_seq (pdv 2)) (blkOk_by (own := [("least", 12), ("most", 13), ("step", 14)]) (N := N_law) (sc := defScope s_law) (by decide +kernel)) (fun _ _ _ _ _ => gd_tup rfl (gds_cons (gn 12 sc_law.nd) (gds_cons (gn 13 sc_law.nd) (gds_cons (gn 14 sc_law.nd) gds_nil)))) (fun _ _ _ _ _ => tds_nil) (fun _ _ _ _ _ => pd_tup (ad_cons (pdv 12) (ad_cons (pd_op op_addA os_add (pdv 12) (pd_op op_mod os_mod (pd_op op_sub os_sub (pdv 13) (pdv 12)) pd_int)) (ad_cons (pdv 3) ad_nil))))) ad_nil)) sc_law.nd rfl))) sds_nil) (sds_cons (sd_set (pd_call (ok_law_every T) (hr.mono (by decide)) rfl T.g_law_every T.F_law_every.kp T.b_law_every pX (ad_cons (pdv 2) ad_nil)) sc_law.nd rfl) (sds_cons (sd_set (pd_call (ok_law_light T) (hr.mono (by decide)) rfl T.g_law_light T.F_law_light.kp T.b_law_light pX (ad_cons (pdv 0) (ad_cons (pd_op op_addA os_add (pd_op op_mul os_mulI pd_int (pdv 1)) pd_int) (ad_cons (pdv 2) ad_nil)))) sc_law.nd rfl) (sds_cons (sd_setLc rfl sc_law.nd rfl rfl (sw_true rfl rfl rfl (by decide +kernel)) (id_seq (pdv 4)) (blkOk_by (own := [("one", 8)]) (N := N_law) (sc := defScope s_law) (by decide +kernel)) (fun _ _ _ _ _ => gd_name (gn 8 sc_law.nd)) (fun _ _ _ _ _ => tds_one (td_cmp (op_eqK (hU hr)) os_eq (pd_call (ok_law_number T) (hr.mono (by decide)) rfl T.g_law_number T.F_law_number.kp T.b_law_number passL (ad_cons (pdv 8) ad_nil)) (pdv 5))) (fun _ _ _ _ _ => pdv 8)) (sds_cons (sd_ownT sc_law.nd rfl) (sds_cons (sd_forI poX rfl (id_seq (pdv 6)) (gd_name (gn 8 sc_law.nd)) (sds_cons (sd_dput (hU hr) (pv 7) (pdv 8) (pdo_of (pd_lc rfl sc_law.nd (id_seq (pdv 6)) (blkOk_by (own := [("other", 15)]) (N := N_law) (sc := defScope s_law) (by decide +kernel)) (fun _ _ _ _ _ => gd_name (gn 15 sc_law.nd)) (fun _ _ _ _ _ => tds_one (td_cmp (op_eqK (hU hr)) os_eq (pd_count (hU hr) (pd_lc rfl sc_law.nd (id_zip rfl T.m_zip (ad_cons (pdv 8) (ad_cons (pdv 15) ad_nil))) (blkOk_by (own := [("a", 16), ("b", 17)]) (N := N_law) (sc := relS _ (defScope s_law)) (by decide +kernel)) (fun _ _ _ _ _ => gd_tup rfl (gds_cons (gn 16 sc_law.nd) (gds_cons (gn 17 sc_law.nd) gds_nil))) (fun _ _ _ _ _ => tds_nil) (fun _ _ _ _ _ => pd_cmp (op_eqK (hU hr)) os_eq (pdv 16) (pdv 17))) pd_bl) pd_int)) (fun _ _ _ _ _ => pdv 15)))) (sds_one (sd_if (td_cmp (op_neK (hU hr)) os_ne (pd_call (ok_shifts T) (hr.mono (by decide)) rfl T.g_shifts T.F_shifts.kp T.b_shifts pX (ad_cons (pdv 2) (ad_cons (pdv 8) ad_nil))) (pd_sget (hU hr) (pdv 7) (pdv 8))) (sds_one (sd_ret pd_bl)) sds_nil)))) (sds_cons (sd_ownL ad_nil sc_law.nd rfl) (sds_cons (sd_forI poX rfl (id_seq (pdv 6)) (gd_name (gn 8 sc_law.nd)) (sds_cons (sd_frz [7] (sd_set (pd_call (ok_law_reached T) (hr.mono (by decide)) rfl T.g_law_reached T.F_law_reached.kp T.b_law_reached pX (ad_cons (pdv 7) (ad_cons (pdv 8) ad_nil))) sc_law.nd rfl)) (sds_cons (sd_set (pd_if (td_cmp (op_inK (hU hr)) os_in (pdv 8) (pd_slice sl_D ss_sl (pdv 6) od_none (od_some pd_int))) (pdv 6) (pd_slice sl_D ss_sl (pdv 6) (od_some (pd_neg pd_int)) od_none)) sc_law.nd rfl) (sds_cons (sd_if (td_cmp (op_neK (hU hr)) os_ne (pd_lc rfl sc_law.nd (id_seq (pdv 11)) (blkOk_by (own := [("other", 15)]) (N := N_law) (sc := defScope s_law) (by decide +kernel)) (fun _ _ _ _ _ => gd_name (gn 15 sc_law.nd)) (fun _ _ _ _ _ => tds_nil) (fun _ _ _ _ _ => pd_call (ok_fewest_shifts T) (hr.mono (by decide)) rfl T.g_fewest_shifts T.F_fewest_shifts.kp T.b_fewest_shifts passL (ad_cons (pdv 2) (ad_cons (pdv 8) (ad_cons (pdv 15) ad_nil))))) (pd_lc rfl sc_law.nd (id_seq (pdv 11)) (blkOk_by (own := [("other", 15)]) (N := N_law) (sc := defScope s_law) (by decide +kernel)) (fun _ _ _ _ _ => gd_name (gn 15 sc_law.nd)) (fun _ _ _ _ _ => tds_nil) (fun _ _ _ _ _ => pd_sget1 (hU hr) (pdv 10) (pdv 15)))) (sds_one (sd_ret pd_bl)) sds_nil) (sds_cons (sd_if (WD.td (wd_and (td_cmp (op_eqK (hU hr)) os_eq (pd_lenSet rfl rfl T.m_len rfl T.m_set (pd_lc rfl sc_law.nd (id_seq (pdv 2)) (blkOk_by (own := [("least", 12), ("most", 13), ("step", 14)]) (N := N_law) (sc := defScope s_law) (by decide +kernel)) (fun _ _ _ _ _ => gd_tup rfl (gds_cons (gn 12 sc_law.nd) (gds_cons (gn 13 sc_law.nd) (gds_cons (gn 14 sc_law.nd) gds_nil)))) (fun _ _ _ _ _ => tds_nil) (fun _ _ _ _ _ => pdv 14))) pd_int) (wd_and1 (td_cmp op_gt os_gt (pd_callB (c_max rfl) cs_maxL rfl T.m_max bt_max (ad_cons (pd_lc rfl sc_law.nd (id_seq (pdv 6)) (blkOk_by (own := [("other", 15)]) (N := N_law) (sc := defScope s_law) (by decide +kernel)) (fun _ _ _ _ _ => gd_name (gn 15 sc_law.nd)) (fun _ _ _ _ _ => tds_nil) (fun _ _ _ _ _ => pd_sget2 (hU hr) (pdv 10) (pdv 15) pd_int)) ad_nil)) pd_int)))) (sds_one (sd_ret pd_bl)) sds_nil) (sds_one (sd_app' false (pv 9) (pd_callTy c_tup cs_tupOf rfl T.m_tuple bt_tuple (ad_cons (pd_callB (c_sortKT rfl (hV hr)) cs_sortKT rfl T.m_sorted bt_sorted (ad_cons (pdv 10) ad_nil)) ad_nil))))))))) (sds_cons (sd_if (td_cmp (op_neK (hU hr)) os_ne (pd_call (ok_shift_groups T) (hr.mono (by decide)) rfl T.g_shift_groups T.F_shift_groups.kp T.b_shift_groups pX (ad_cons (pdv 2) (ad_cons (pdv 5) ad_nil))) (pd_sortSetD rfl (hV hr) rfl T.m_sorted rfl T.m_set (pdv 9))) (sds_one (sd_ret pd_bl)) sds_nil) (sds_one (sd_if (WD.td (wd_and (td_cmp (op_notInK (hU hr)) os_notin (pd_ix ix_A os_ix (pdv 4) pd_int) (pdv 6)) (wd_and (td_cmp (op_neK (hU hr)) os_ne (pdv 6) (pd_lst ad_nil)) (wd_and1 (td_cmp op_isNotA os_isnot (pd_call (ok_fewest_shifts T) (hr.mono (by decide)) rfl T.g_fewest_shifts T.F_fewest_shifts.kp T.b_fewest_shifts pX (ad_cons (pdv 2) (ad_cons (pd_ix ix_A os_ix (pdv 6) pd_int) (ad_cons (pd_ix ix_A os_ix (pdv 4) pd_int) ad_nil)))) pd_non))))) (sds_one (sd_ret pd_bl)) sds_nil))))))))))))) (sds_one (sd_ret (pd_cmp (op_eqK (hU hr)) os_eq (pd_call (ok_shifts T) (hr.mono (by decide)) rfl T.g_shifts T.F_shifts.kp T.b_shifts pX (ad_cons (pd_tup (ad_cons (pd_tup (ad_cons pd_int (ad_cons pd_int (ad_cons pd_int ad_nil)))) (ad_cons (pd_tup (ad_cons pd_int (ad_cons pd_int (ad_cons pd_int ad_nil)))) (ad_cons (pd_tup (ad_cons pd_int (ad_cons pd_int (ad_cons pd_int ad_nil)))) ad_nil)))) (ad_cons (pd_tup (ad_cons pd_int (ad_cons pd_int (ad_cons pd_int ad_nil)))) ad_nil))) (pd_lst (ad_cons (pd_tup (ad_cons pd_int (ad_cons pd_int (ad_cons pd_int ad_nil)))) (ad_cons (pd_tup (ad_cons pd_int (ad_cons pd_int (ad_cons pd_int ad_nil)))) ad_nil))))))⟩
end
end Lw
namespace Lw
open PySem L2 PD PDs
theorem all_mk {l : PySem.W.OpenLaw} {w : World} {K : PySem.W.Frag} {h : Heap} {mg : Str → Option Value} {fa : Addr} (X : K.In h) (G : h.Ns mainGlobals mg) (hfa : mg "law" = some (.ref fa))
    {f_is_int : Addr} {od_is_int an_is_int : Option Addr} {sl_is_int : Array (Option Value)} {oc_is_int kV_is_int dc_is_int pm_is_int cd_is_int ct_is_int : Value}
    {f_is_wheel : Addr} {od_is_wheel an_is_wheel : Option Addr} {sl_is_wheel : Array (Option Value)} {oc_is_wheel kV_is_wheel dc_is_wheel pm_is_wheel cd_is_wheel ct_is_wheel : Value}
    {f_is_camera : Addr} {od_is_camera an_is_camera : Option Addr} {sl_is_camera : Array (Option Value)} {oc_is_camera kV_is_camera dc_is_camera pm_is_camera cd_is_camera ct_is_camera : Value}
    {f_wheel_values : Addr} {od_wheel_values an_wheel_values : Option Addr} {sl_wheel_values : Array (Option Value)} {oc_wheel_values kV_wheel_values dc_wheel_values pm_wheel_values cd_wheel_values ct_wheel_values : Value}
    {f_has_setting : Addr} {od_has_setting an_has_setting : Option Addr} {sl_has_setting : Array (Option Value)} {oc_has_setting kV_has_setting dc_has_setting pm_has_setting cd_has_setting ct_has_setting : Value}
    {f_check_camera : Addr} {od_check_camera an_check_camera : Option Addr} {sl_check_camera : Array (Option Value)} {oc_check_camera kV_check_camera dc_check_camera pm_check_camera cd_check_camera ct_check_camera : Value}
    {f_check_setting : Addr} {od_check_setting an_check_setting : Option Addr} {sl_check_setting : Array (Option Value)} {oc_check_setting kV_check_setting dc_check_setting pm_check_setting cd_check_setting ct_check_setting : Value}
    {f_check_light : Addr} {od_check_light an_check_light : Option Addr} {sl_check_light : Array (Option Value)} {oc_check_light kV_check_light dc_check_light pm_check_light cd_check_light ct_check_light : Value}
    {f_all_settings : Addr} {od_all_settings an_all_settings : Option Addr} {sl_all_settings : Array (Option Value)} {oc_all_settings kV_all_settings dc_all_settings pm_all_settings cd_all_settings ct_all_settings : Value}
    {f_find_exposure : Addr} {od_find_exposure an_find_exposure : Option Addr} {sl_find_exposure : Array (Option Value)} {oc_find_exposure kV_find_exposure dc_find_exposure pm_find_exposure cd_find_exposure ct_find_exposure : Value}
    {f_find_right : Addr} {od_find_right an_find_right : Option Addr} {sl_find_right : Array (Option Value)} {oc_find_right kV_find_right dc_find_right pm_find_right cd_find_right ct_find_right : Value}
    {f_check_both : Addr} {od_check_both an_check_both : Option Addr} {sl_check_both : Array (Option Value)} {oc_check_both kV_check_both dc_check_both pm_check_both cd_check_both ct_check_both : Value}
    {f_count_changed : Addr} {od_count_changed an_count_changed : Option Addr} {sl_count_changed : Array (Option Value)} {oc_count_changed kV_count_changed dc_count_changed pm_count_changed cd_count_changed ct_count_changed : Value}
    {f_find_shifts : Addr} {od_find_shifts an_find_shifts : Option Addr} {sl_find_shifts : Array (Option Value)} {oc_find_shifts kV_find_shifts dc_find_shifts pm_find_shifts cd_find_shifts ct_find_shifts : Value}
    {f_shifts : Addr} {od_shifts an_shifts : Option Addr} {sl_shifts : Array (Option Value)} {oc_shifts kV_shifts dc_shifts pm_shifts cd_shifts ct_shifts : Value}
    {f_spread : Addr} {od_spread an_spread : Option Addr} {sl_spread : Array (Option Value)} {oc_spread kV_spread dc_spread pm_spread cd_spread ct_spread : Value}
    {f_fewest_shifts : Addr} {od_fewest_shifts an_fewest_shifts : Option Addr} {sl_fewest_shifts : Array (Option Value)} {oc_fewest_shifts kV_fewest_shifts dc_fewest_shifts pm_fewest_shifts cd_fewest_shifts ct_fewest_shifts : Value}
    {f_shift_groups : Addr} {od_shift_groups an_shift_groups : Option Addr} {sl_shift_groups : Array (Option Value)} {oc_shift_groups kV_shift_groups dc_shift_groups pm_shift_groups cd_shift_groups ct_shift_groups : Value}
    {f_law_pick : Addr} {od_law_pick an_law_pick : Option Addr} {sl_law_pick : Array (Option Value)} {oc_law_pick kV_law_pick dc_law_pick pm_law_pick cd_law_pick ct_law_pick : Value}
    {f_law_box : Addr} {od_law_box an_law_box : Option Addr} {sl_law_box : Array (Option Value)} {oc_law_box kV_law_box dc_law_box pm_law_box cd_law_box ct_law_box : Value}
    {f_law_every : Addr} {od_law_every an_law_every : Option Addr} {sl_law_every : Array (Option Value)} {oc_law_every kV_law_every dc_law_every pm_law_every cd_law_every ct_law_every : Value}
    {f_law_number : Addr} {od_law_number an_law_number : Option Addr} {sl_law_number : Array (Option Value)} {oc_law_number kV_law_number dc_law_number pm_law_number cd_law_number ct_law_number : Value}
    {f_law_light : Addr} {od_law_light an_law_light : Option Addr} {sl_law_light : Array (Option Value)} {oc_law_light kV_law_light dc_law_light pm_law_light cd_law_light ct_law_light : Value}
    {f_law_reached : Addr} {od_law_reached an_law_reached : Option Addr} {sl_law_reached : Array (Option Value)} {oc_law_reached kV_law_reached dc_law_reached pm_law_reached cd_law_reached ct_law_reached : Value}
    {f_law : Addr} {od_law an_law : Option Addr} {sl_law : Array (Option Value)} {oc_law kV_law dc_law pm_law cd_law ct_law : Value}
    {C_InvalidBrightness : Addr}
    {C_InvalidCamera : Addr}
    {C_InvalidSetting : Addr}
    {t_MAX_LEAST : Tok}
    {t_MAX_LIGHT : Tok}
    {t_MAX_MOST : Tok}
    {t_MAX_STEP : Tok}
    {t_MAX_VALUES : Tok}
    {t_MIN_LIGHT : Tok}
    {a_NAMES : Addr} {t_NAMES0 t_NAMES1 t_NAMES2 : Tok} {n_NAMES : Nat} {sl_NAMES : Array (Option Value)}
    (a_is_int : PySem.W.nsIn K mainGlobals "is_int" = some (some (.ref f_is_int)))
    (l_is_int : K.lookup f_is_int = some ⟨oc_is_int, od_is_int, .func (PySem.W.fnOf "is_int" "is_int" (defArgs s_is_int) (defBody s_is_int) (defScope s_is_int) .none kV_is_int dc_is_int pm_is_int an_is_int cd_is_int ct_is_int), sl_is_int⟩)
    (c_is_int : PySem.W.codeIn K cd_is_int "is_int" = true)
    (k_is_int : PySem.W.keepIn K (.ref f_is_int) = true)
    (a_is_wheel : PySem.W.nsIn K mainGlobals "is_wheel" = some (some (.ref f_is_wheel)))
    (l_is_wheel : K.lookup f_is_wheel = some ⟨oc_is_wheel, od_is_wheel, .func (PySem.W.fnOf "is_wheel" "is_wheel" (defArgs s_is_wheel) (defBody s_is_wheel) (defScope s_is_wheel) .none kV_is_wheel dc_is_wheel pm_is_wheel an_is_wheel cd_is_wheel ct_is_wheel), sl_is_wheel⟩)
    (c_is_wheel : PySem.W.codeIn K cd_is_wheel "is_wheel" = true)
    (k_is_wheel : PySem.W.keepIn K (.ref f_is_wheel) = true)
    (a_is_camera : PySem.W.nsIn K mainGlobals "is_camera" = some (some (.ref f_is_camera)))
    (l_is_camera : K.lookup f_is_camera = some ⟨oc_is_camera, od_is_camera, .func (PySem.W.fnOf "is_camera" "is_camera" (defArgs s_is_camera) (defBody s_is_camera) (defScope s_is_camera) .none kV_is_camera dc_is_camera pm_is_camera an_is_camera cd_is_camera ct_is_camera), sl_is_camera⟩)
    (c_is_camera : PySem.W.codeIn K cd_is_camera "is_camera" = true)
    (k_is_camera : PySem.W.keepIn K (.ref f_is_camera) = true)
    (a_wheel_values : PySem.W.nsIn K mainGlobals "wheel_values" = some (some (.ref f_wheel_values)))
    (l_wheel_values : K.lookup f_wheel_values = some ⟨oc_wheel_values, od_wheel_values, .func (PySem.W.fnOf "wheel_values" "wheel_values" (defArgs s_wheel_values) (defBody s_wheel_values) (defScope s_wheel_values) .none kV_wheel_values dc_wheel_values pm_wheel_values an_wheel_values cd_wheel_values ct_wheel_values), sl_wheel_values⟩)
    (c_wheel_values : PySem.W.codeIn K cd_wheel_values "wheel_values" = true)
    (k_wheel_values : PySem.W.keepIn K (.ref f_wheel_values) = true)
    (a_has_setting : PySem.W.nsIn K mainGlobals "has_setting" = some (some (.ref f_has_setting)))
    (l_has_setting : K.lookup f_has_setting = some ⟨oc_has_setting, od_has_setting, .func (PySem.W.fnOf "has_setting" "has_setting" (defArgs s_has_setting) (defBody s_has_setting) (defScope s_has_setting) .none kV_has_setting dc_has_setting pm_has_setting an_has_setting cd_has_setting ct_has_setting), sl_has_setting⟩)
    (c_has_setting : PySem.W.codeIn K cd_has_setting "has_setting" = true)
    (k_has_setting : PySem.W.keepIn K (.ref f_has_setting) = true)
    (a_check_camera : PySem.W.nsIn K mainGlobals "check_camera" = some (some (.ref f_check_camera)))
    (l_check_camera : K.lookup f_check_camera = some ⟨oc_check_camera, od_check_camera, .func (PySem.W.fnOf "check_camera" "check_camera" (defArgs s_check_camera) (defBody s_check_camera) (defScope s_check_camera) .none kV_check_camera dc_check_camera pm_check_camera an_check_camera cd_check_camera ct_check_camera), sl_check_camera⟩)
    (c_check_camera : PySem.W.codeIn K cd_check_camera "check_camera" = true)
    (k_check_camera : PySem.W.keepIn K (.ref f_check_camera) = true)
    (a_check_setting : PySem.W.nsIn K mainGlobals "check_setting" = some (some (.ref f_check_setting)))
    (l_check_setting : K.lookup f_check_setting = some ⟨oc_check_setting, od_check_setting, .func (PySem.W.fnOf "check_setting" "check_setting" (defArgs s_check_setting) (defBody s_check_setting) (defScope s_check_setting) .none kV_check_setting dc_check_setting pm_check_setting an_check_setting cd_check_setting ct_check_setting), sl_check_setting⟩)
    (c_check_setting : PySem.W.codeIn K cd_check_setting "check_setting" = true)
    (k_check_setting : PySem.W.keepIn K (.ref f_check_setting) = true)
    (a_check_light : PySem.W.nsIn K mainGlobals "check_light" = some (some (.ref f_check_light)))
    (l_check_light : K.lookup f_check_light = some ⟨oc_check_light, od_check_light, .func (PySem.W.fnOf "check_light" "check_light" (defArgs s_check_light) (defBody s_check_light) (defScope s_check_light) .none kV_check_light dc_check_light pm_check_light an_check_light cd_check_light ct_check_light), sl_check_light⟩)
    (c_check_light : PySem.W.codeIn K cd_check_light "check_light" = true)
    (k_check_light : PySem.W.keepIn K (.ref f_check_light) = true)
    (a_all_settings : PySem.W.nsIn K mainGlobals "all_settings" = some (some (.ref f_all_settings)))
    (l_all_settings : K.lookup f_all_settings = some ⟨oc_all_settings, od_all_settings, .func (PySem.W.fnOf "all_settings" "all_settings" (defArgs s_all_settings) (defBody s_all_settings) (defScope s_all_settings) .none kV_all_settings dc_all_settings pm_all_settings an_all_settings cd_all_settings ct_all_settings), sl_all_settings⟩)
    (c_all_settings : PySem.W.codeIn K cd_all_settings "all_settings" = true)
    (k_all_settings : PySem.W.keepIn K (.ref f_all_settings) = true)
    (a_find_exposure : PySem.W.nsIn K mainGlobals "find_exposure" = some (some (.ref f_find_exposure)))
    (l_find_exposure : K.lookup f_find_exposure = some ⟨oc_find_exposure, od_find_exposure, .func (PySem.W.fnOf "find_exposure" "find_exposure" (defArgs s_find_exposure) (defBody s_find_exposure) (defScope s_find_exposure) .none kV_find_exposure dc_find_exposure pm_find_exposure an_find_exposure cd_find_exposure ct_find_exposure), sl_find_exposure⟩)
    (c_find_exposure : PySem.W.codeIn K cd_find_exposure "find_exposure" = true)
    (k_find_exposure : PySem.W.keepIn K (.ref f_find_exposure) = true)
    (a_find_right : PySem.W.nsIn K mainGlobals "find_right" = some (some (.ref f_find_right)))
    (l_find_right : K.lookup f_find_right = some ⟨oc_find_right, od_find_right, .func (PySem.W.fnOf "find_right" "find_right" (defArgs s_find_right) (defBody s_find_right) (defScope s_find_right) .none kV_find_right dc_find_right pm_find_right an_find_right cd_find_right ct_find_right), sl_find_right⟩)
    (c_find_right : PySem.W.codeIn K cd_find_right "find_right" = true)
    (k_find_right : PySem.W.keepIn K (.ref f_find_right) = true)
    (a_check_both : PySem.W.nsIn K mainGlobals "check_both" = some (some (.ref f_check_both)))
    (l_check_both : K.lookup f_check_both = some ⟨oc_check_both, od_check_both, .func (PySem.W.fnOf "check_both" "check_both" (defArgs s_check_both) (defBody s_check_both) (defScope s_check_both) .none kV_check_both dc_check_both pm_check_both an_check_both cd_check_both ct_check_both), sl_check_both⟩)
    (c_check_both : PySem.W.codeIn K cd_check_both "check_both" = true)
    (k_check_both : PySem.W.keepIn K (.ref f_check_both) = true)
    (a_count_changed : PySem.W.nsIn K mainGlobals "count_changed" = some (some (.ref f_count_changed)))
    (l_count_changed : K.lookup f_count_changed = some ⟨oc_count_changed, od_count_changed, .func (PySem.W.fnOf "count_changed" "count_changed" (defArgs s_count_changed) (defBody s_count_changed) (defScope s_count_changed) .none kV_count_changed dc_count_changed pm_count_changed an_count_changed cd_count_changed ct_count_changed), sl_count_changed⟩)
    (c_count_changed : PySem.W.codeIn K cd_count_changed "count_changed" = true)
    (k_count_changed : PySem.W.keepIn K (.ref f_count_changed) = true)
    (a_find_shifts : PySem.W.nsIn K mainGlobals "find_shifts" = some (some (.ref f_find_shifts)))
    (l_find_shifts : K.lookup f_find_shifts = some ⟨oc_find_shifts, od_find_shifts, .func (PySem.W.fnOf "find_shifts" "find_shifts" (defArgs s_find_shifts) (defBody s_find_shifts) (defScope s_find_shifts) .none kV_find_shifts dc_find_shifts pm_find_shifts an_find_shifts cd_find_shifts ct_find_shifts), sl_find_shifts⟩)
    (c_find_shifts : PySem.W.codeIn K cd_find_shifts "find_shifts" = true)
    (k_find_shifts : PySem.W.keepIn K (.ref f_find_shifts) = true)
    (a_shifts : PySem.W.nsIn K mainGlobals "shifts" = some (some (.ref f_shifts)))
    (l_shifts : K.lookup f_shifts = some ⟨oc_shifts, od_shifts, .func (PySem.W.fnOf "shifts" "shifts" (defArgs s_shifts) (defBody s_shifts) (defScope s_shifts) .none kV_shifts dc_shifts pm_shifts an_shifts cd_shifts ct_shifts), sl_shifts⟩)
    (c_shifts : PySem.W.codeIn K cd_shifts "shifts" = true)
    (k_shifts : PySem.W.keepIn K (.ref f_shifts) = true)
    (a_spread : PySem.W.nsIn K mainGlobals "spread" = some (some (.ref f_spread)))
    (l_spread : K.lookup f_spread = some ⟨oc_spread, od_spread, .func (PySem.W.fnOf "spread" "spread" (defArgs s_spread) (defBody s_spread) (defScope s_spread) .none kV_spread dc_spread pm_spread an_spread cd_spread ct_spread), sl_spread⟩)
    (c_spread : PySem.W.codeIn K cd_spread "spread" = true)
    (k_spread : PySem.W.keepIn K (.ref f_spread) = true)
    (a_fewest_shifts : PySem.W.nsIn K mainGlobals "fewest_shifts" = some (some (.ref f_fewest_shifts)))
    (l_fewest_shifts : K.lookup f_fewest_shifts = some ⟨oc_fewest_shifts, od_fewest_shifts, .func (PySem.W.fnOf "fewest_shifts" "fewest_shifts" (defArgs s_fewest_shifts) (defBody s_fewest_shifts) (defScope s_fewest_shifts) .none kV_fewest_shifts dc_fewest_shifts pm_fewest_shifts an_fewest_shifts cd_fewest_shifts ct_fewest_shifts), sl_fewest_shifts⟩)
    (c_fewest_shifts : PySem.W.codeIn K cd_fewest_shifts "fewest_shifts" = true)
    (k_fewest_shifts : PySem.W.keepIn K (.ref f_fewest_shifts) = true)
    (a_shift_groups : PySem.W.nsIn K mainGlobals "shift_groups" = some (some (.ref f_shift_groups)))
    (l_shift_groups : K.lookup f_shift_groups = some ⟨oc_shift_groups, od_shift_groups, .func (PySem.W.fnOf "shift_groups" "shift_groups" (defArgs s_shift_groups) (defBody s_shift_groups) (defScope s_shift_groups) .none kV_shift_groups dc_shift_groups pm_shift_groups an_shift_groups cd_shift_groups ct_shift_groups), sl_shift_groups⟩)
    (c_shift_groups : PySem.W.codeIn K cd_shift_groups "shift_groups" = true)
    (k_shift_groups : PySem.W.keepIn K (.ref f_shift_groups) = true)
    (a_law_pick : PySem.W.nsIn K mainGlobals "_law_pick" = some (some (.ref f_law_pick)))
    (l_law_pick : K.lookup f_law_pick = some ⟨oc_law_pick, od_law_pick, .func (PySem.W.fnOf "_law_pick" "_law_pick" (defArgs s_law_pick) (defBody s_law_pick) (defScope s_law_pick) .none kV_law_pick dc_law_pick pm_law_pick an_law_pick cd_law_pick ct_law_pick), sl_law_pick⟩)
    (c_law_pick : PySem.W.codeIn K cd_law_pick "_law_pick" = true)
    (k_law_pick : PySem.W.keepIn K (.ref f_law_pick) = true)
    (a_law_box : PySem.W.nsIn K mainGlobals "_law_box" = some (some (.ref f_law_box)))
    (l_law_box : K.lookup f_law_box = some ⟨oc_law_box, od_law_box, .func (PySem.W.fnOf "_law_box" "_law_box" (defArgs s_law_box) (defBody s_law_box) (defScope s_law_box) .none kV_law_box dc_law_box pm_law_box an_law_box cd_law_box ct_law_box), sl_law_box⟩)
    (c_law_box : PySem.W.codeIn K cd_law_box "_law_box" = true)
    (k_law_box : PySem.W.keepIn K (.ref f_law_box) = true)
    (a_law_every : PySem.W.nsIn K mainGlobals "_law_every" = some (some (.ref f_law_every)))
    (l_law_every : K.lookup f_law_every = some ⟨oc_law_every, od_law_every, .func (PySem.W.fnOf "_law_every" "_law_every" (defArgs s_law_every) (defBody s_law_every) (defScope s_law_every) .none kV_law_every dc_law_every pm_law_every an_law_every cd_law_every ct_law_every), sl_law_every⟩)
    (c_law_every : PySem.W.codeIn K cd_law_every "_law_every" = true)
    (k_law_every : PySem.W.keepIn K (.ref f_law_every) = true)
    (a_law_number : PySem.W.nsIn K mainGlobals "_law_number" = some (some (.ref f_law_number)))
    (l_law_number : K.lookup f_law_number = some ⟨oc_law_number, od_law_number, .func (PySem.W.fnOf "_law_number" "_law_number" (defArgs s_law_number) (defBody s_law_number) (defScope s_law_number) .none kV_law_number dc_law_number pm_law_number an_law_number cd_law_number ct_law_number), sl_law_number⟩)
    (c_law_number : PySem.W.codeIn K cd_law_number "_law_number" = true)
    (k_law_number : PySem.W.keepIn K (.ref f_law_number) = true)
    (a_law_light : PySem.W.nsIn K mainGlobals "_law_light" = some (some (.ref f_law_light)))
    (l_law_light : K.lookup f_law_light = some ⟨oc_law_light, od_law_light, .func (PySem.W.fnOf "_law_light" "_law_light" (defArgs s_law_light) (defBody s_law_light) (defScope s_law_light) .none kV_law_light dc_law_light pm_law_light an_law_light cd_law_light ct_law_light), sl_law_light⟩)
    (c_law_light : PySem.W.codeIn K cd_law_light "_law_light" = true)
    (k_law_light : PySem.W.keepIn K (.ref f_law_light) = true)
    (a_law_reached : PySem.W.nsIn K mainGlobals "_law_reached" = some (some (.ref f_law_reached)))
    (l_law_reached : K.lookup f_law_reached = some ⟨oc_law_reached, od_law_reached, .func (PySem.W.fnOf "_law_reached" "_law_reached" (defArgs s_law_reached) (defBody s_law_reached) (defScope s_law_reached) .none kV_law_reached dc_law_reached pm_law_reached an_law_reached cd_law_reached ct_law_reached), sl_law_reached⟩)
    (c_law_reached : PySem.W.codeIn K cd_law_reached "_law_reached" = true)
    (k_law_reached : PySem.W.keepIn K (.ref f_law_reached) = true)
    (a_law : PySem.W.nsIn K mainGlobals "law" = some (some (.ref f_law)))
    (l_law : K.lookup f_law = some ⟨oc_law, od_law, .func (PySem.W.fnOf "law" "law" (defArgs s_law) (defBody s_law) (defScope s_law) .none kV_law dc_law pm_law an_law cd_law ct_law), sl_law⟩)
    (c_law : PySem.W.codeIn K cd_law "law" = true)
    (k_law : PySem.W.keepIn K (.ref f_law) = true)
    (ax_InvalidBrightness : PySem.W.nsIn K mainGlobals "InvalidBrightness" = some (some (.ref C_InvalidBrightness)))
    (x_InvalidBrightness : PySem.W.excIn K C_InvalidBrightness [.type "ValueError", .type "Exception", .type "BaseException", .type "object"] "ValueError.__new__" = true)
    (kx_InvalidBrightness : PySem.W.keepIn K (.ref C_InvalidBrightness) = true)
    (bx_InvalidBrightness : PySem.W.subIn K (.ref C_InvalidBrightness) (.type "BaseException") = some true)
    (t_InvalidBrightness : PySem.W.typeIn K (.ref C_InvalidBrightness) = some (.type "type"))
    (ax_InvalidCamera : PySem.W.nsIn K mainGlobals "InvalidCamera" = some (some (.ref C_InvalidCamera)))
    (x_InvalidCamera : PySem.W.excIn K C_InvalidCamera [.type "ValueError", .type "Exception", .type "BaseException", .type "object"] "ValueError.__new__" = true)
    (kx_InvalidCamera : PySem.W.keepIn K (.ref C_InvalidCamera) = true)
    (bx_InvalidCamera : PySem.W.subIn K (.ref C_InvalidCamera) (.type "BaseException") = some true)
    (t_InvalidCamera : PySem.W.typeIn K (.ref C_InvalidCamera) = some (.type "type"))
    (ax_InvalidSetting : PySem.W.nsIn K mainGlobals "InvalidSetting" = some (some (.ref C_InvalidSetting)))
    (x_InvalidSetting : PySem.W.excIn K C_InvalidSetting [.type "ValueError", .type "Exception", .type "BaseException", .type "object"] "ValueError.__new__" = true)
    (kx_InvalidSetting : PySem.W.keepIn K (.ref C_InvalidSetting) = true)
    (bx_InvalidSetting : PySem.W.subIn K (.ref C_InvalidSetting) (.type "BaseException") = some true)
    (t_InvalidSetting : PySem.W.typeIn K (.ref C_InvalidSetting) = some (.type "type"))
    (co_MAX_LEAST : PySem.W.nsIn K mainGlobals "MAX_LEAST" = some (some (.int (40) t_MAX_LEAST)))
    (co_MAX_LIGHT : PySem.W.nsIn K mainGlobals "MAX_LIGHT" = some (some (.int (120) t_MAX_LIGHT)))
    (co_MAX_MOST : PySem.W.nsIn K mainGlobals "MAX_MOST" = some (some (.int (60) t_MAX_MOST)))
    (co_MAX_STEP : PySem.W.nsIn K mainGlobals "MAX_STEP" = some (some (.int (3) t_MAX_STEP)))
    (co_MAX_VALUES : PySem.W.nsIn K mainGlobals "MAX_VALUES" = some (some (.int (13) t_MAX_VALUES)))
    (co_MIN_LIGHT : PySem.W.nsIn K mainGlobals "MIN_LIGHT" = some (some (.int (-60) t_MIN_LIGHT)))
    (co_NAMES : PySem.W.nsIn K mainGlobals "NAMES" = some (some (.ref a_NAMES)))
    (cl_NAMES : K.lookup a_NAMES = some ⟨.type "tuple", none, .seq #[.str "aperture" t_NAMES0, .str "time" t_NAMES1, .str "sensitivity" t_NAMES2] n_NAMES, sl_NAMES⟩)
    (z_all : PySem.W.nsIn K mainGlobals "all" = some none)
    (z_bool : PySem.W.nsIn K mainGlobals "bool" = some none)
    (z_int : PySem.W.nsIn K mainGlobals "int" = some none)
    (z_isinstance : PySem.W.nsIn K mainGlobals "isinstance" = some none)
    (z_len : PySem.W.nsIn K mainGlobals "len" = some none)
    (z_list : PySem.W.nsIn K mainGlobals "list" = some none)
    (z_max : PySem.W.nsIn K mainGlobals "max" = some none)
    (z_range : PySem.W.nsIn K mainGlobals "range" = some none)
    (z_set : PySem.W.nsIn K mainGlobals "set" = some none)
    (z_sorted : PySem.W.nsIn K mainGlobals "sorted" = some none)
    (z_tuple : PySem.W.nsIn K mainGlobals "tuple" = some none)
    (z_zip : PySem.W.nsIn K mainGlobals "zip" = some none)
    : ∃ fd : FuncData, (∀ (s : Shared) (u : Value), BindsTo s fd ⟨[u], []⟩ [("script", u)]) ∧ ∀ base : Heap, K.In base → base.Ns mainGlobals mg → FnOk l.prog w K mg base (L2.CX l.prog w) 7 fa fd ["script"] (spD K mg 1 F_law) := by
  have e := hfa.symm.trans (PySem.W.mg_of X G a_law)
  cases e
  have T : Txt K mg { f_is_int := f_is_int, fd_is_int := _, f_is_wheel := f_is_wheel, fd_is_wheel := _, f_is_camera := f_is_camera, fd_is_camera := _, f_wheel_values := f_wheel_values, fd_wheel_values := _, f_has_setting := f_has_setting, fd_has_setting := _, f_check_camera := f_check_camera, fd_check_camera := _, f_check_setting := f_check_setting, fd_check_setting := _, f_check_light := f_check_light, fd_check_light := _, f_all_settings := f_all_settings, fd_all_settings := _, f_find_exposure := f_find_exposure, fd_find_exposure := _, f_find_right := f_find_right, fd_find_right := _, f_check_both := f_check_both, fd_check_both := _, f_count_changed := f_count_changed, fd_count_changed := _, f_find_shifts := f_find_shifts, fd_find_shifts := _, f_shifts := f_shifts, fd_shifts := _, f_spread := f_spread, fd_spread := _, f_fewest_shifts := f_fewest_shifts, fd_fewest_shifts := _, f_shift_groups := f_shift_groups, fd_shift_groups := _, f_law_pick := f_law_pick, fd_law_pick := _, f_law_box := f_law_box, fd_law_box := _, f_law_every := f_law_every, fd_law_every := _, f_law_number := f_law_number, fd_law_number := _, f_law_light := f_law_light, fd_law_light := _, f_law_reached := f_law_reached, fd_law_reached := _, f_law := fa, fd_law := _, C_InvalidBrightness := C_InvalidBrightness, C_InvalidCamera := C_InvalidCamera, C_InvalidSetting := C_InvalidSetting, a_NAMES := a_NAMES } := {
    F_is_int := fun_mk (st := s_is_int) l_is_int c_is_int k_is_int,
    b_is_int := (fun_mk (st := s_is_int) l_is_int c_is_int k_is_int).binds (ps := ["value", "least", "most"]) fun _ _ _ _ _ _ us hl => match us, hl with | [_, _, _], _ => rfl,
    g_is_int := PySem.W.mg_of X G a_is_int,
    F_is_wheel := fun_mk (st := s_is_wheel) l_is_wheel c_is_wheel k_is_wheel,
    b_is_wheel := (fun_mk (st := s_is_wheel) l_is_wheel c_is_wheel k_is_wheel).binds (ps := ["value"]) fun _ _ _ _ _ _ us hl => match us, hl with | [_], _ => rfl,
    g_is_wheel := PySem.W.mg_of X G a_is_wheel,
    F_is_camera := fun_mk (st := s_is_camera) l_is_camera c_is_camera k_is_camera,
    b_is_camera := (fun_mk (st := s_is_camera) l_is_camera c_is_camera k_is_camera).binds (ps := ["candidate"]) fun _ _ _ _ _ _ us hl => match us, hl with | [_], _ => rfl,
    g_is_camera := PySem.W.mg_of X G a_is_camera,
    F_wheel_values := fun_mk (st := s_wheel_values) l_wheel_values c_wheel_values k_wheel_values,
    b_wheel_values := (fun_mk (st := s_wheel_values) l_wheel_values c_wheel_values k_wheel_values).binds (ps := ["wheel"]) fun _ _ _ _ _ _ us hl => match us, hl with | [_], _ => rfl,
    g_wheel_values := PySem.W.mg_of X G a_wheel_values,
    F_has_setting := fun_mk (st := s_has_setting) l_has_setting c_has_setting k_has_setting,
    b_has_setting := (fun_mk (st := s_has_setting) l_has_setting c_has_setting k_has_setting).binds (ps := ["camera", "candidate"]) fun _ _ _ _ _ _ us hl => match us, hl with | [_, _], _ => rfl,
    g_has_setting := PySem.W.mg_of X G a_has_setting,
    F_check_camera := fun_mk (st := s_check_camera) l_check_camera c_check_camera k_check_camera,
    b_check_camera := (fun_mk (st := s_check_camera) l_check_camera c_check_camera k_check_camera).binds (ps := ["value"]) fun _ _ _ _ _ _ us hl => match us, hl with | [_], _ => rfl,
    g_check_camera := PySem.W.mg_of X G a_check_camera,
    F_check_setting := fun_mk (st := s_check_setting) l_check_setting c_check_setting k_check_setting,
    b_check_setting := (fun_mk (st := s_check_setting) l_check_setting c_check_setting k_check_setting).binds (ps := ["camera", "value"]) fun _ _ _ _ _ _ us hl => match us, hl with | [_, _], _ => rfl,
    g_check_setting := PySem.W.mg_of X G a_check_setting,
    F_check_light := fun_mk (st := s_check_light) l_check_light c_check_light k_check_light,
    b_check_light := (fun_mk (st := s_check_light) l_check_light c_check_light k_check_light).binds (ps := ["value"]) fun _ _ _ _ _ _ us hl => match us, hl with | [_], _ => rfl,
    g_check_light := PySem.W.mg_of X G a_check_light,
    F_all_settings := fun_mk (st := s_all_settings) l_all_settings c_all_settings k_all_settings,
    b_all_settings := (fun_mk (st := s_all_settings) l_all_settings c_all_settings k_all_settings).binds (ps := ["camera"]) fun _ _ _ _ _ _ us hl => match us, hl with | [_], _ => rfl,
    g_all_settings := PySem.W.mg_of X G a_all_settings,
    F_find_exposure := fun_mk (st := s_find_exposure) l_find_exposure c_find_exposure k_find_exposure,
    b_find_exposure := (fun_mk (st := s_find_exposure) l_find_exposure c_find_exposure k_find_exposure).binds (ps := ["setting"]) fun _ _ _ _ _ _ us hl => match us, hl with | [_], _ => rfl,
    g_find_exposure := PySem.W.mg_of X G a_find_exposure,
    F_find_right := fun_mk (st := s_find_right) l_find_right c_find_right k_find_right,
    b_find_right := (fun_mk (st := s_find_right) l_find_right c_find_right k_find_right).binds (ps := ["camera", "brightness"]) fun _ _ _ _ _ _ us hl => match us, hl with | [_, _], _ => rfl,
    g_find_right := PySem.W.mg_of X G a_find_right,
    F_check_both := fun_mk (st := s_check_both) l_check_both c_check_both k_check_both,
    b_check_both := (fun_mk (st := s_check_both) l_check_both c_check_both k_check_both).binds (ps := ["camera", "brightness"]) fun _ _ _ _ _ _ us hl => match us, hl with | [_, _], _ => rfl,
    g_check_both := PySem.W.mg_of X G a_check_both,
    F_count_changed := fun_mk (st := s_count_changed) l_count_changed c_count_changed k_count_changed,
    b_count_changed := (fun_mk (st := s_count_changed) l_count_changed c_count_changed k_count_changed).binds (ps := ["one", "other"]) fun _ _ _ _ _ _ us hl => match us, hl with | [_, _], _ => rfl,
    g_count_changed := PySem.W.mg_of X G a_count_changed,
    F_find_shifts := fun_mk (st := s_find_shifts) l_find_shifts c_find_shifts k_find_shifts,
    b_find_shifts := (fun_mk (st := s_find_shifts) l_find_shifts c_find_shifts k_find_shifts).binds (ps := ["known", "setting"]) fun _ _ _ _ _ _ us hl => match us, hl with | [_, _], _ => rfl,
    g_find_shifts := PySem.W.mg_of X G a_find_shifts,
    F_shifts := fun_mk (st := s_shifts) l_shifts c_shifts k_shifts,
    b_shifts := (fun_mk (st := s_shifts) l_shifts c_shifts k_shifts).binds (ps := ["camera", "setting"]) fun _ _ _ _ _ _ us hl => match us, hl with | [_, _], _ => rfl,
    g_shifts := PySem.W.mg_of X G a_shifts,
    F_spread := fun_mk (st := s_spread) l_spread c_spread k_spread,
    b_spread := (fun_mk (st := s_spread) l_spread c_spread k_spread).binds (ps := ["known", "start"]) fun _ _ _ _ _ _ us hl => match us, hl with | [_, _], _ => rfl,
    g_spread := PySem.W.mg_of X G a_spread,
    F_fewest_shifts := fun_mk (st := s_fewest_shifts) l_fewest_shifts c_fewest_shifts k_fewest_shifts,
    b_fewest_shifts := (fun_mk (st := s_fewest_shifts) l_fewest_shifts c_fewest_shifts k_fewest_shifts).binds (ps := ["camera", "one", "other"]) fun _ _ _ _ _ _ us hl => match us, hl with | [_, _, _], _ => rfl,
    g_fewest_shifts := PySem.W.mg_of X G a_fewest_shifts,
    F_shift_groups := fun_mk (st := s_shift_groups) l_shift_groups c_shift_groups k_shift_groups,
    b_shift_groups := (fun_mk (st := s_shift_groups) l_shift_groups c_shift_groups k_shift_groups).binds (ps := ["camera", "brightness"]) fun _ _ _ _ _ _ us hl => match us, hl with | [_, _], _ => rfl,
    g_shift_groups := PySem.W.mg_of X G a_shift_groups,
    F_law_pick := fun_mk (st := s_law_pick) l_law_pick c_law_pick k_law_pick,
    b_law_pick := (fun_mk (st := s_law_pick) l_law_pick c_law_pick k_law_pick).binds (ps := ["script", "k", "many"]) fun _ _ _ _ _ _ us hl => match us, hl with | [_, _, _], _ => rfl,
    g_law_pick := PySem.W.mg_of X G a_law_pick,
    F_law_box := fun_mk (st := s_law_box) l_law_box c_law_box k_law_box,
    b_law_box := (fun_mk (st := s_law_box) l_law_box c_law_box k_law_box).binds (ps := ["script", "at", "most"]) fun _ _ _ _ _ _ us hl => match us, hl with | [_, _, _], _ => rfl,
    g_law_box := PySem.W.mg_of X G a_law_box,
    F_law_every := fun_mk (st := s_law_every) l_law_every c_law_every k_law_every,
    b_law_every := (fun_mk (st := s_law_every) l_law_every c_law_every k_law_every).binds (ps := ["box"]) fun _ _ _ _ _ _ us hl => match us, hl with | [_], _ => rfl,
    g_law_every := PySem.W.mg_of X G a_law_every,
    F_law_number := fun_mk (st := s_law_number) l_law_number c_law_number k_law_number,
    b_law_number := (fun_mk (st := s_law_number) l_law_number c_law_number k_law_number).binds (ps := ["one"]) fun _ _ _ _ _ _ us hl => match us, hl with | [_], _ => rfl,
    g_law_number := PySem.W.mg_of X G a_law_number,
    F_law_light := fun_mk (st := s_law_light) l_law_light c_law_light k_law_light,
    b_law_light := (fun_mk (st := s_law_light) l_law_light c_law_light k_law_light).binds (ps := ["script", "at", "box"]) fun _ _ _ _ _ _ us hl => match us, hl with | [_, _, _], _ => rfl,
    g_law_light := PySem.W.mg_of X G a_law_light,
    F_law_reached := fun_mk (st := s_law_reached) l_law_reached c_law_reached k_law_reached,
    b_law_reached := (fun_mk (st := s_law_reached) l_law_reached c_law_reached k_law_reached).binds (ps := ["near", "one"]) fun _ _ _ _ _ _ us hl => match us, hl with | [_, _], _ => rfl,
    g_law_reached := PySem.W.mg_of X G a_law_reached,
    F_law := fun_mk (st := s_law) l_law c_law k_law,
    b_law := (fun_mk (st := s_law) l_law c_law k_law).binds (ps := ["script"]) fun _ _ _ _ _ _ us hl => match us, hl with | [_], _ => rfl,
    g_law := PySem.W.mg_of X G a_law,
    x_InvalidBrightness := x_InvalidBrightness,
    g_InvalidBrightness := PySem.W.mg_of X G ax_InvalidBrightness,
    k_InvalidBrightness := kx_InvalidBrightness,
    bx_InvalidBrightness := bx_InvalidBrightness,
    t_InvalidBrightness := t_InvalidBrightness,
    x_InvalidCamera := x_InvalidCamera,
    g_InvalidCamera := PySem.W.mg_of X G ax_InvalidCamera,
    k_InvalidCamera := kx_InvalidCamera,
    bx_InvalidCamera := bx_InvalidCamera,
    t_InvalidCamera := t_InvalidCamera,
    x_InvalidSetting := x_InvalidSetting,
    g_InvalidSetting := PySem.W.mg_of X G ax_InvalidSetting,
    k_InvalidSetting := kx_InvalidSetting,
    bx_InvalidSetting := bx_InvalidSetting,
    t_InvalidSetting := t_InvalidSetting,
    c_MAX_LEAST := ⟨_, PySem.W.mg_of X G co_MAX_LEAST⟩,
    c_MAX_LIGHT := ⟨_, PySem.W.mg_of X G co_MAX_LIGHT⟩,
    c_MAX_MOST := ⟨_, PySem.W.mg_of X G co_MAX_MOST⟩,
    c_MAX_STEP := ⟨_, PySem.W.mg_of X G co_MAX_STEP⟩,
    c_MAX_VALUES := ⟨_, PySem.W.mg_of X G co_MAX_VALUES⟩,
    c_MIN_LIGHT := ⟨_, PySem.W.mg_of X G co_MIN_LIGHT⟩,
    c_NAMES := PySem.W.mg_of X G co_NAMES,
    d_NAMES := fun S => dv_written (vs := [.str "aperture", .str "time", .str "sensitivity"]) cl_NAMES rfl rfl (by show 3 ≤ sizeLine; decide) (.cons ⟨_, rfl⟩ (.cons ⟨_, rfl⟩ (.cons ⟨_, rfl⟩ (.nil)))) (⟨rfl, ⟨rfl, ⟨rfl, trivial⟩⟩⟩),
    m_all := PySem.W.mg_none_of X G z_all,
    m_bool := PySem.W.mg_none_of X G z_bool,
    m_int := PySem.W.mg_none_of X G z_int,
    m_isinstance := PySem.W.mg_none_of X G z_isinstance,
    m_len := PySem.W.mg_none_of X G z_len,
    m_list := PySem.W.mg_none_of X G z_list,
    m_max := PySem.W.mg_none_of X G z_max,
    m_range := PySem.W.mg_none_of X G z_range,
    m_set := PySem.W.mg_none_of X G z_set,
    m_sorted := PySem.W.mg_none_of X G z_sorted,
    m_tuple := PySem.W.mg_none_of X G z_tuple,
    m_zip := PySem.W.mg_none_of X G z_zip }
  exact ⟨_, fun s v => .of_eq rfl, fun base _ _ => ok_law T⟩
end Lw
open PySem PySem.W PyProof.Rows
theorem PySem.Challenge.cw_lightsteps_k16_whole_shifting_holds : PySem.Challenge.rw_lightsteps_k16_whole_shifting.Holds := by
  w_on; o_law; k_head; (case hw => w_witness2)
  k_fill
  refine PD.walkD (l := PySem.Challenge.rw_lightsteps_k16_whole_shifting) (k := 7) (F := Lw.F_law) rfl rfl ⟨rfl, by decide, by decide⟩ (fun w h Y => PySem.W.kIn_of Y) ?F Lw.law_true
  case F =>
    intro w mg fa h KX G hmg
    refine' Lw.all_mk KX G hmg ?a_is_int ?l_is_int ?c_is_int ?k_is_int ?a_is_wheel ?l_is_wheel ?c_is_wheel ?k_is_wheel ?a_is_camera ?l_is_camera ?c_is_camera ?k_is_camera ?a_wheel_values ?l_wheel_values ?c_wheel_values ?k_wheel_values ?a_has_setting ?l_has_setting ?c_has_setting ?k_has_setting ?a_check_camera ?l_check_camera ?c_check_camera ?k_check_camera ?a_check_setting ?l_check_setting ?c_check_setting ?k_check_setting ?a_check_light ?l_check_light ?c_check_light ?k_check_light ?a_all_settings ?l_all_settings ?c_all_settings ?k_all_settings ?a_find_exposure ?l_find_exposure ?c_find_exposure ?k_find_exposure ?a_find_right ?l_find_right ?c_find_right ?k_find_right ?a_check_both ?l_check_both ?c_check_both ?k_check_both ?a_count_changed ?l_count_changed ?c_count_changed ?k_count_changed ?a_find_shifts ?l_find_shifts ?c_find_shifts ?k_find_shifts ?a_shifts ?l_shifts ?c_shifts ?k_shifts ?a_spread ?l_spread ?c_spread ?k_spread ?a_fewest_shifts ?l_fewest_shifts ?c_fewest_shifts ?k_fewest_shifts ?a_shift_groups ?l_shift_groups ?c_shift_groups ?k_shift_groups ?a_law_pick ?l_law_pick ?c_law_pick ?k_law_pick ?a_law_box ?l_law_box ?c_law_box ?k_law_box ?a_law_every ?l_law_every ?c_law_every ?k_law_every ?a_law_number ?l_law_number ?c_law_number ?k_law_number ?a_law_light ?l_law_light ?c_law_light ?k_law_light ?a_law_reached ?l_law_reached ?c_law_reached ?k_law_reached ?a_law ?l_law ?c_law ?k_law ?ax_InvalidBrightness ?x_InvalidBrightness ?kx_InvalidBrightness ?bx_InvalidBrightness ?t_InvalidBrightness ?ax_InvalidCamera ?x_InvalidCamera ?kx_InvalidCamera ?bx_InvalidCamera ?t_InvalidCamera ?ax_InvalidSetting ?x_InvalidSetting ?kx_InvalidSetting ?bx_InvalidSetting ?t_InvalidSetting ?co_MAX_LEAST ?co_MAX_LIGHT ?co_MAX_MOST ?co_MAX_STEP ?co_MAX_VALUES ?co_MIN_LIGHT ?co_NAMES ?cl_NAMES ?z_all ?z_bool ?z_int ?z_isinstance ?z_len ?z_list ?z_max ?z_range ?z_set ?z_sorted ?z_tuple ?z_zip
    (case a_is_int => k_is)
    (case l_is_int => k_is)
    (case c_is_int => k_is)
    (case k_is_int => k_is)
    (case a_is_wheel => k_is)
    (case l_is_wheel => k_is)
    (case c_is_wheel => k_is)
    (case k_is_wheel => k_is)
    (case a_is_camera => k_is)
    (case l_is_camera => k_is)
    (case c_is_camera => k_is)
    (case k_is_camera => k_is)
    (case a_wheel_values => k_is)
    (case l_wheel_values => k_is)
    (case c_wheel_values => k_is)
    (case k_wheel_values => k_is)
    (case a_has_setting => k_is)
    (case l_has_setting => k_is)
    (case c_has_setting => k_is)
    (case k_has_setting => k_is)
    (case a_check_camera => k_is)
    (case l_check_camera => k_is)
    (case c_check_camera => k_is)
    (case k_check_camera => k_is)
    (case a_check_setting => k_is)
    (case l_check_setting => k_is)
    (case c_check_setting => k_is)
    (case k_check_setting => k_is)
    (case a_check_light => k_is)
    (case l_check_light => k_is)
    (case c_check_light => k_is)
    (case k_check_light => k_is)
    (case a_all_settings => k_is)
    (case l_all_settings => k_is)
    (case c_all_settings => k_is)
    (case k_all_settings => k_is)
    (case a_find_exposure => k_is)
    (case l_find_exposure => k_is)
    (case c_find_exposure => k_is)
    (case k_find_exposure => k_is)
    (case a_find_right => k_is)
    (case l_find_right => k_is)
    (case c_find_right => k_is)
    (case k_find_right => k_is)
    (case a_check_both => k_is)
    (case l_check_both => k_is)
    (case c_check_both => k_is)
    (case k_check_both => k_is)
    (case a_count_changed => k_is)
    (case l_count_changed => k_is)
    (case c_count_changed => k_is)
    (case k_count_changed => k_is)
    (case a_find_shifts => k_is)
    (case l_find_shifts => k_is)
    (case c_find_shifts => k_is)
    (case k_find_shifts => k_is)
    (case a_shifts => k_is)
    (case l_shifts => k_is)
    (case c_shifts => k_is)
    (case k_shifts => k_is)
    (case a_spread => k_is)
    (case l_spread => k_is)
    (case c_spread => k_is)
    (case k_spread => k_is)
    (case a_fewest_shifts => k_is)
    (case l_fewest_shifts => k_is)
    (case c_fewest_shifts => k_is)
    (case k_fewest_shifts => k_is)
    (case a_shift_groups => k_is)
    (case l_shift_groups => k_is)
    (case c_shift_groups => k_is)
    (case k_shift_groups => k_is)
    (case a_law_pick => k_is)
    (case l_law_pick => k_is)
    (case c_law_pick => k_is)
    (case k_law_pick => k_is)
    (case a_law_box => k_is)
    (case l_law_box => k_is)
    (case c_law_box => k_is)
    (case k_law_box => k_is)
    (case a_law_every => k_is)
    (case l_law_every => k_is)
    (case c_law_every => k_is)
    (case k_law_every => k_is)
    (case a_law_number => k_is)
    (case l_law_number => k_is)
    (case c_law_number => k_is)
    (case k_law_number => k_is)
    (case a_law_light => k_is)
    (case l_law_light => k_is)
    (case c_law_light => k_is)
    (case k_law_light => k_is)
    (case a_law_reached => k_is)
    (case l_law_reached => k_is)
    (case c_law_reached => k_is)
    (case k_law_reached => k_is)
    (case a_law => k_is)
    (case l_law => k_is)
    (case c_law => k_is)
    (case k_law => k_is)
    (case ax_InvalidBrightness => k_is)
    (case x_InvalidBrightness => k_exc)
    (case kx_InvalidBrightness => k_is)
    (case bx_InvalidBrightness => k_is)
    (case t_InvalidBrightness => k_is)
    (case ax_InvalidCamera => k_is)
    (case x_InvalidCamera => k_exc)
    (case kx_InvalidCamera => k_is)
    (case bx_InvalidCamera => k_is)
    (case t_InvalidCamera => k_is)
    (case ax_InvalidSetting => k_is)
    (case x_InvalidSetting => k_exc)
    (case kx_InvalidSetting => k_is)
    (case bx_InvalidSetting => k_is)
    (case t_InvalidSetting => k_is)
    (case co_MAX_LEAST => k_is)
    (case co_MAX_LIGHT => k_is)
    (case co_MAX_MOST => k_is)
    (case co_MAX_STEP => k_is)
    (case co_MAX_VALUES => k_is)
    (case co_MIN_LIGHT => k_is)
    (case co_NAMES => k_is)
    (case cl_NAMES => k_is)
    (case z_all => k_is)
    (case z_bool => k_is)
    (case z_int => k_is)
    (case z_isinstance => k_is)
    (case z_len => k_is)
    (case z_list => k_is)
    (case z_max => k_is)
    (case z_range => k_is)
    (case z_set => k_is)
    (case z_sorted => k_is)
    (case z_tuple => k_is)
    (case z_zip => k_is)
