import PyProof.Rows.All
import Wide.All
import OpenK.AllK
import Wide.FinOn
import HandS.ForMost
import HandS.ForExc
import HandS.Gcd
import HandS.IsInst
import HandS.Flow
import HandS.SortInts
import HandS.ExcInit
import HandS.ExcField
import HandS.ExcIs
import HandS.TryMany
import HandS.Wide
import HandS.NoneIn
import HandS.Style
import HandS.RevRange
import HandS.Conv
import KE.KExcIs
import HandS.Deep
import PySem.Challenge.RW_slotwork_k55_forecasts
set_option Elab.async false
set_option linter.all false
set_option maxRecDepth 100000
set_option maxHeartbeats 4000000
/-! Mr1: a typed, compositional layer over the hand layer: what a Python text computes as a plain function (its mirror), by rules without side conditions. -/
namespace Mr
open PySem PySem.Spec PyProof.Rows L2
universe u v

/-! ### results -/
inductive Res (α : Type u) where
  | ok (a : α) | err (c : Str) (w : V) | bad
def Res.bind {α : Type u} {β : Type v} : Res α → (α → Res β) → Res β
  | .ok a, f => f a
  | .err c w, _ => .err c w
  | .bad, _ => .bad
/-- a value with a name -/
@[reducible] def lt {α : Type u} {β : Type v} (a : α) (f : α → β) : β := f a
theorem Res.bind_ok {α : Type u} {β : Type v} (a : α) (f : α → Res β) : (Res.ok a).bind f = f a := rfl
theorem Res.bind_bad {α : Type u} {β : Type v} (f : α → Res β) : (Res.bad : Res α).bind f = .bad := rfl
theorem Res.bind_err {α : Type u} {β : Type v} (c : Str) (w : V) (f : α → Res β) : (Res.err c w : Res α).bind f = .err c w := rfl
theorem Res.bind_assoc {α β γ : Type} (o : Res α) (f : α → Res β) (g : β → Res γ) : (o.bind f).bind g = o.bind fun a => (f a).bind g := by
  cases o <;> rfl
/-- an error is no answer here -/
def Res.hard {α : Type u} : Res α → Res α
  | .ok a => .ok a
  | _ => .bad

/-! ### values that stand in the heap -/
class Rep (α : Type) where
  rep : PySem.W.Frag → Hp → V → α → Prop
  mono : ∀ {K : PySem.W.Frag} {H H' : Hp} {v : V} {a : α}, Same H H' → rep K H v a → rep K H' v a
open Rep (rep)
theorem same_seqT {K : PySem.W.Frag} {H H' : Hp} {a : Addr} {xs : List V} (e : Same H H') (h : SqT K H a xs) : SqT K H' a xs := by
  rcases h with (h | ⟨o, h⟩) | h
  · exact .inl (.inl (e _ _ h))
  · exact .inl (.inr ⟨o, e _ _ h⟩)
  · exact .inr h
theorem paired_imp {α β : Type} {F G : α → β → Prop} (h : ∀ a b, F a b → G a b) : ∀ {l : List α} {m : List β}, Paired F l m → Paired G l m
  | _, _, .nil => .nil
  | _, _, .cons r t => .cons (h _ _ r) (paired_imp h t)
theorem paired_append {α β : Type} {F : α → β → Prop} : ∀ {l l' : List α} {m m' : List β}, Paired F l m → Paired F l' m' → Paired F (l ++ l') (m ++ m')
  | _, _, _, _, .nil, s => s
  | _, _, _, _, .cons r t, s => .cons r (paired_append t s)
theorem paired_get {α β : Type} {F : α → β → Prop} : ∀ {l : List α} {m : List β} {i : Nat} {y : β}, Paired F l m → m[i]? = some y → ∃ x, l[i]? = some x ∧ F x y
  | _, _, i, y, .nil, e => by simp at e
  | _, _, 0, y, .cons r _, e => by simp at e; subst e; exact ⟨_, rfl, r⟩
  | _, _, i + 1, y, .cons _ t, e => by
    obtain ⟨x, h1, h2⟩ := paired_get (i := i) (y := y) t (by simpa using e)
    exact ⟨x, by simpa using h1, h2⟩
theorem paired_getV {α β : Type} {F : α → β → Prop} : ∀ {l : List α} {m : List β} {i : Nat} {x : α}, Paired F l m → l[i]? = some x → ∃ y, m[i]? = some y ∧ F x y
  | _, _, i, y, .nil, e => by simp at e
  | _, _, 0, y, .cons r _, e => by simp at e; subst e; exact ⟨_, rfl, r⟩
  | _, _, i + 1, y, .cons _ t, e => by
    obtain ⟨x, h1, h2⟩ := paired_getV (i := i) (x := y) t (by simpa using e)
    exact ⟨x, by simpa using h1, h2⟩
theorem paired_len {α β : Type} {F : α → β → Prop} : ∀ {l : List α} {m : List β}, Paired F l m → l.length = m.length
  | _, _, .nil => rfl
  | _, _, .cons _ t => congrArg (· + 1) (paired_len t)
instance instInt : Rep Int := ⟨fun _ _ v i => v = .int i, fun _ h => h⟩
instance instBool : Rep Bool := ⟨fun _ _ v b => v = .bl b, fun _ h => h⟩
instance instStr : Rep Str := ⟨fun _ _ v x => v = .str x, fun _ h => h⟩
instance instUnit : Rep Unit := ⟨fun _ _ v _ => v = .non, fun _ h => h⟩
instance instOpt {α : Type} [Rep α] : Rep (Option α) := ⟨fun K H v o => match o with | none => v = .non | some a => rep K H v a, fun {_ _ _ _ o} e h => by
  cases o with
  | none => exact h
  | some a => exact Rep.mono e h⟩
instance instList {α : Type} [Rep α] : Rep (List α) := ⟨fun K H v xs => ∃ p vs, v = .ref p ∧ H p = some (.lst vs) ∧ Paired (rep K H) vs xs, fun e h => by
  obtain ⟨p, vs, h1, h2, h3⟩ := h
  exact ⟨p, vs, h1, e _ _ h2, paired_imp (fun _ _ q => Rep.mono e q) h3⟩⟩
/-- the script -/
structure Scr where
  ns : List Int
instance instScr : Rep Scr := ⟨fun K H v s => ∃ p, v = .ref p ∧ SqL K H p (s.ns.map V.int), fun e h => by
  obtain ⟨p, h1, h2⟩ := h
  exact ⟨p, h1, e.seq h2⟩⟩
/-- a tuple of any length -/
structure VT (α : Type) where
  xs : List α
deriving DecidableEq
instance instVT {α : Type} [Rep α] : Rep (VT α) := ⟨fun K H v q => ∃ p vs, v = .ref p ∧ SqT K H p vs ∧ Paired (rep K H) vs q.xs, fun e h => by
  obtain ⟨p, vs, h1, h2, h3⟩ := h
  exact ⟨p, vs, h1, same_seqT e h2, paired_imp (fun _ _ q => Rep.mono e q) h3⟩⟩
theorem lsq {K : PySem.W.Frag} {G H : Hp} {p : Addr} {vs : List V} (s : Same G H) (h : G p = some (.lst vs)) : SqL K H p vs := .inl (.inl (s _ _ h))
instance instPair {α β : Type} [Rep α] [Rep β] : Rep (α × β) := ⟨fun K H v q => ∃ p x y, v = .ref p ∧ SqT K H p [x, y] ∧ rep K H x q.1 ∧ rep K H y q.2, fun e h => by
  obtain ⟨p, x, y, h1, h2, h3, h4⟩ := h
  exact ⟨p, x, y, h1, same_seqT e h2, Rep.mono e h3, Rep.mono e h4⟩⟩
/-- tuples of one, three, four items -/
structure T1 (α : Type) where
  a : α
deriving DecidableEq
structure T3 (α β γ : Type) where
  a : α
  b : β
  c : γ
deriving DecidableEq
structure T4 (α β γ δ : Type) where
  a : α
  b : β
  c : γ
  d : δ
deriving DecidableEq
instance instT1 {α : Type} [Rep α] : Rep (T1 α) := ⟨fun K H v q => ∃ p x, v = .ref p ∧ SqT K H p [x] ∧ rep K H x q.a, fun e h => by
  obtain ⟨p, x, h1, h2, h3⟩ := h
  exact ⟨p, x, h1, same_seqT e h2, Rep.mono e h3⟩⟩
instance instT3 {α β γ : Type} [Rep α] [Rep β] [Rep γ] : Rep (T3 α β γ) := ⟨fun K H v q => ∃ p x y z, v = .ref p ∧ SqT K H p [x, y, z] ∧ rep K H x q.a ∧ rep K H y q.b ∧ rep K H z q.c, fun e h => by
  obtain ⟨p, x, y, z, h1, h2, h3, h4, h5⟩ := h
  exact ⟨p, x, y, z, h1, same_seqT e h2, Rep.mono e h3, Rep.mono e h4, Rep.mono e h5⟩⟩
instance instT4 {α β γ δ : Type} [Rep α] [Rep β] [Rep γ] [Rep δ] : Rep (T4 α β γ δ) := ⟨fun K H v q => ∃ p x y z u, v = .ref p ∧ SqT K H p [x, y, z, u] ∧ rep K H x q.a ∧ rep K H y q.b ∧ rep K H z q.c ∧ rep K H u q.d, fun e h => by
  obtain ⟨p, x, y, z, u, h1, h2, h3, h4, h5, h6⟩ := h
  exact ⟨p, x, y, z, u, h1, same_seqT e h2, Rep.mono e h3, Rep.mono e h4, Rep.mono e h5, Rep.mono e h6⟩⟩
/-- the place of an object that is written in turn -/
structure CRef where
  p : Addr
instance instCRef : Rep CRef := ⟨fun _ _ v r => v = .ref r.p, fun _ h => h⟩
/-- a value of no type -/
structure AnyV where
  v : V
instance instAnyV : Rep AnyV := ⟨fun _ _ v r => v = r.v, fun _ h => h⟩
mutual
theorem dp_mono {K : PySem.W.Frag} {H H' : Hp} (e : Same H H') : ∀ {v : V} {d : PyData}, Dp K H v d → Dp K H' v d
  | _, _, .non => .non
  | _, _, .bl b => .bl b
  | _, _, .int i => .int i
  | _, _, .str x => .str x
  | _, _, .lst h t => .lst (e.seq h) (dpAll_mono e t)
  | _, _, .tup h t => .tup (same_seqT e h) (dpAll_mono e t)
theorem dpAll_mono {K : PySem.W.Frag} {H H' : Hp} (e : Same H H') : ∀ {vs : List V} {ds : List PyData}, DpAll K H vs ds → DpAll K H' vs ds
  | _, _, .nil => .nil
  | _, _, .cons h t => .cons (dp_mono e h) (dpAll_mono e t)
end
instance instData : Rep PyData := ⟨fun K H v d => Dp K H v d, fun e h => dp_mono e h⟩

/-! ### data for == -/
class ToD (α : Type) [Rep α] where
  toD : α → PyData
  dp : ∀ {K : PySem.W.Frag} {H : Hp} {v : V} {a : α}, rep K H v a → Dp K H v (toD a)
open ToD (toD)
theorem paired_dp {α : Type} [Rep α] [ToD α] {K : PySem.W.Frag} {H : Hp} : ∀ {vs : List V} {xs : List α}, Paired (rep K H) vs xs → DpAll K H vs (xs.map toD)
  | _, _, .nil => .nil
  | _, _, .cons r t => .cons (ToD.dp r) (paired_dp t)
instance : ToD Int := ⟨fun i => .int i, fun h => by cases h; exact .int _⟩
instance : ToD Bool := ⟨fun i => .bool i, fun h => by cases h; exact .bl _⟩
instance : ToD Str := ⟨fun i => .str i, fun h => by cases h; exact .str _⟩
instance : ToD Unit := ⟨fun _ => .none, fun h => by cases h; exact .non⟩
instance : ToD PyData := ⟨fun i => i, fun h => h⟩
instance {α : Type} [Rep α] [ToD α] : ToD (Option α) := ⟨fun o => match o with | none => .none | some a => toD a, fun {K H v o} h => by
  cases o with
  | none => cases h; exact .non
  | some a => exact ToD.dp (α := α) h⟩
instance {α : Type} [Rep α] [ToD α] : ToD (List α) := ⟨fun xs => .list (xs.map toD), fun h => by
  obtain ⟨p, vs, rfl, h2, h3⟩ := h
  exact .lst (.inl (.inl h2)) (paired_dp h3)⟩
instance {α : Type} [Rep α] [ToD α] : ToD (VT α) := ⟨fun q => .tuple (q.xs.map toD), fun h => by
  obtain ⟨p, vs, rfl, h2, h3⟩ := h
  exact .tup h2 (paired_dp h3)⟩
instance {α β : Type} [Rep α] [ToD α] [Rep β] [ToD β] : ToD (α × β) := ⟨fun q => .tuple [toD q.1, toD q.2], fun h => by
  obtain ⟨p, x, y, rfl, h2, h3, h4⟩ := h
  exact .tup h2 (.cons (ToD.dp h3) (.cons (ToD.dp h4) .nil))⟩
instance {α : Type} [Rep α] [ToD α] : ToD (T1 α) := ⟨fun q => .tuple [toD q.a], fun h => by
  obtain ⟨p, x, rfl, h2, h3⟩ := h
  exact .tup h2 (.cons (ToD.dp h3) .nil)⟩
instance {α β γ : Type} [Rep α] [ToD α] [Rep β] [ToD β] [Rep γ] [ToD γ] : ToD (T3 α β γ) := ⟨fun q => .tuple [toD q.a, toD q.b, toD q.c], fun h => by
  obtain ⟨p, x, y, z, rfl, h2, h3, h4, h5⟩ := h
  exact .tup h2 (.cons (ToD.dp h3) (.cons (ToD.dp h4) (.cons (ToD.dp h5) .nil)))⟩
instance {α β γ δ : Type} [Rep α] [ToD α] [Rep β] [ToD β] [Rep γ] [ToD γ] [Rep δ] [ToD δ] : ToD (T4 α β γ δ) := ⟨fun q => .tuple [toD q.a, toD q.b, toD q.c, toD q.d], fun h => by
  obtain ⟨p, x, y, z, u, rfl, h2, h3, h4, h5, h6⟩ := h
  exact .tup h2 (.cons (ToD.dp h3) (.cons (ToD.dp h4) (.cons (ToD.dp h5) (.cons (ToD.dp h6) .nil))))⟩

/-! ### heaps that grow -/
structure Ext (G H G' H' : Hp) : Prop where
  hh : Same H H'
  gg : Same G G'
  gh : Same G' H'
  fr : ∀ p, H p ≠ none → G p = none → G' p = none
theorem Ext.refl {G H : Hp} (h : Same G H) : Ext G H G H := ⟨Same.refl _, Same.refl _, h, fun _ _ e => e⟩
theorem same_ne {H H' : Hp} (e : Same H H') {p : Addr} (h : H p ≠ none) : H' p ≠ none := by
  cases q : H p with
  | none => exact absurd q h
  | some o => rw [e p o q]; simp
theorem Ext.trans {G H G1 H1 G2 H2 : Hp} (a : Ext G H G1 H1) (b : Ext G1 H1 G2 H2) : Ext G H G2 H2 :=
  ⟨a.hh.trans b.hh, a.gg.trans b.gg, b.gh, fun p h g => b.fr p (same_ne a.hh h) (a.fr p h g)⟩
theorem same_upd {H : Hp} {p : Addr} {o : HO} (h : H p = none) : Same H (upd H p o) := fun b x e => by
  rw [upd_ne (ne_of_none e h)]; exact e
theorem same_upd2 {G H : Hp} {p : Addr} {o : HO} (s : Same G H) : Same (upd G p o) (upd H p o) := fun b x e => by
  by_cases hb : b = p
  · subst hb; rw [upd_same] at e ⊢; exact e
  · rw [upd_ne hb] at e ⊢; exact s b x e
/-- a new object, never written -/
theorem Ext.new {G H : Hp} (s : Same G H) {p : Addr} (o : HO) (h : H p = none) : Ext G H (upd G p o) (upd H p o) :=
  ⟨same_upd h, same_upd (s.free h), same_upd2 s, fun q hq gq => by
    rw [upd_ne (fun e => hq (by rw [e]; exact h))]; exact gq⟩
/-- .. but for the object at p -/
structure ExtP (p : Addr) (G H G' H' : Hp) : Prop where
  hh : ∀ b u, b ≠ p → H b = some u → H' b = some u
  gg : Same G G'
  gh : Same G' H'
  fr : ∀ b, H b ≠ none → G b = none → G' b = none
theorem Ext.toP {p : Addr} {G H G' H' : Hp} (e : Ext G H G' H') : ExtP p G H G' H' := ⟨fun b u _ h => e.hh b u h, e.gg, e.gh, e.fr⟩
theorem ExtP.trans {p : Addr} {G H G1 H1 G2 H2 : Hp} (a : ExtP p G H G1 H1) (b : ExtP p G1 H1 G2 H2) (hp : H1 p ≠ none) : ExtP p G H G2 H2 :=
  ⟨fun c u hc h => b.hh c u hc (a.hh c u hc h), a.gg.trans b.gg, b.gh, fun c h g => b.fr c (by
    by_cases hc : c = p
    · subst hc; exact hp
    · cases q : H c with
      | none => exact absurd q h
      | some o => rw [a.hh c o hc q]; simp) (a.fr c h g)⟩

/-! ### objects that are written -/
class CRep (μ : Type) where
  crep : PySem.W.Frag → Hp → HO → μ → Prop
  mono : ∀ {K : PySem.W.Frag} {H H' : Hp} {o : HO} {m : μ}, Same H H' → crep K H o m → crep K H' o m
open CRep (crep)
instance instCList {α : Type} [Rep α] : CRep (List α) := ⟨fun K H o xs => ∃ vs, o = .lst vs ∧ Paired (rep K H) vs xs, fun e h => by
  obtain ⟨vs, h1, h2⟩ := h
  exact ⟨vs, h1, paired_imp (fun _ _ q => Rep.mono e q) h2⟩⟩

/-! ### names -/
structure Slot : Type 1 where
  i : Nat
  α : Type
  [inst : Rep α]
  x : α
def getS : List Slot → Nat → Option Slot
  | [], _ => none
  | s :: r, i => cond (Nat.beq s.i i) (some s) (getS r i)
def EnvOk (K : PySem.W.Frag) (G : Hp) (σ : L2.St) (Γ : List Slot) : Prop := ∀ i s, getS Γ i = some s → ∃ v, σ[i]? = some (some v) ∧ s.inst.rep K G v s.x
theorem EnvOk.mono {K : PySem.W.Frag} {G G' : Hp} {σ : L2.St} {Γ : List Slot} (h : EnvOk K G σ Γ) (e : Same G G') : EnvOk K G' σ Γ := fun i s q => by
  obtain ⟨v, h1, h2⟩ := h i s q
  exact ⟨v, h1, s.inst.mono e h2⟩
theorem EnvOk.nil {K : PySem.W.Frag} {G : Hp} {σ : L2.St} : EnvOk K G σ [] := fun i s q => by cases q
theorem EnvOk.set {K : PySem.W.Frag} {G : Hp} {σ : L2.St} {Γ : List Slot} (h : EnvOk K G σ Γ) {i : Nat} {α : Type} [Rep α] {x : α} {v : V} (hi : i < σ.length) (r : rep K G v x) : EnvOk K G (σ.set i (some v)) (⟨i, α, x⟩ :: Γ) := fun j s q => by
  unfold getS at q
  by_cases e : i = j
  · subst e
    rw [Nat.beq_refl] at q
    cases q
    exact ⟨v, List.getElem?_set_self hi, r⟩
  · have hb : Nat.beq i j = false := by
      cases z : Nat.beq i j with
      | false => rfl
      | true => exact absurd (Nat.eq_of_beq_eq_true z) e
    rw [show Nat.beq (⟨i, α, x⟩ : Slot).i j = Nat.beq i j from rfl, hb] at q
    obtain ⟨u, h1, h2⟩ := h j s q
    exact ⟨u, by rw [List.getElem?_set_ne e]; exact h1, h2⟩
/-- Γ tells all that Γ' tells -/
def Sub (Γ Γ' : List Slot) : Prop := ∀ i s, getS Γ' i = some s → getS Γ i = some s
theorem Sub.nil {Γ : List Slot} : Sub Γ [] := fun i s q => by cases q
theorem Sub.cons {Γ Γ' : List Slot} {s : Slot} (h : getS Γ s.i = some s) (t : Sub Γ Γ') : Sub Γ (s :: Γ') := fun i s' q => by
  unfold getS at q
  cases z : Nat.beq s.i i with
  | true =>
    rw [z] at q
    cases q
    rw [← Nat.eq_of_beq_eq_true z]; exact h
  | false => rw [z] at q; exact t i s' q
theorem EnvOk.sub {K : PySem.W.Frag} {G : Hp} {σ : L2.St} {Γ Γ' : List Slot} (h : EnvOk K G σ Γ) (e : Sub Γ Γ') : EnvOk K G σ Γ' := fun i s q => h i s (e i s q)
end Mr

/-! Mr2: judgements and rules for expressions. -/
namespace Mr
open PySem PySem.Spec PyProof.Rows L2
open Rep (rep)
open ToD (toD)
open CRep (crep)
universe u v

/-! ### the widest readings -/
def EV (X : Cx) (e : Expr) : TE := fun σ H Q => ∀ pins s, Inv X pins σ H s → wpAny (model X.prog X.w) X.A (eval e X.env) (EP X pins σ Q) X.xe s
theorem ev (X : Cx) (e : Expr) : PE X e (EV X e) := ⟨fun pins s σ H Q I h => h pins s I⟩
def TV (X : Cx) (e : Expr) : TT := fun σ H Q => ∀ pins s, Inv X pins σ H s → wpAny (model X.prog X.w) X.A (isTrue e X.env (eval e X.env)) (TP X pins σ Q) X.xe s
theorem tv (X : Cx) (e : Expr) : PT X e (TV X e) := ⟨fun pins s σ H Q I h => h pins s I⟩
def WV (X : Cx) (e : Expr) : TT := fun σ H Q => ∀ whole pins s, Inv X pins σ H s → wpAny (model X.prog X.w) X.A (isTrue e X.env whole) (TP X pins σ Q) X.xe s
theorem wv (X : Cx) (e : Expr) : PW X e (WV X e) := ⟨fun whole pins s σ H Q I h => h whole pins s I⟩
def AV (X : Cx) (es : List Expr) : TA := fun σ H Q => ∀ pos pins s, Inv X pins σ H s → wpAny (model X.prog X.w) X.A (spliced (backTo pos (starEach es X.env))) (AP X pins σ Q) X.xe s
theorem av (X : Cx) (es : List Expr) : PA X es (AV X es) := ⟨fun pos pins s σ H Q I h => h pos pins s I⟩
def SV (X : Cx) (st : List Stmt) : TS := fun D σ H => ∀ pins s, Inv X pins σ H s → wpAny (model X.prog X.w) X.A (execs st X.env) (SP X pins D) X.xe s
theorem sv (X : Cx) (st : List Stmt) : PSs X st (SV X st) := ⟨fun pins s σ H D I h => h pins s I⟩
def GV (X : Cx) (e : Expr) : TG := fun v σ H Q => ∀ pins s u, Inv X pins σ H s → RelV v u → wpAny (model X.prog X.w) X.A (assign e X.env u) (fun _ s' => ∃ σ' H', Inv X pins σ' H' s' ∧ Q σ' H') X.xe s
theorem gv (X : Cx) (e : Expr) : PG X e (GV X e) := ⟨fun pins s σ H v u Q I r h => h pins s u I r⟩
theorem EV.of {X : Cx} {e : Expr} {t : TE} (h : PE X e t) {σ : L2.St} {H : Hp} {Q : VK} (q : t σ H Q) : EV X e σ H Q := fun pins s I => h.run pins s σ H Q I q
theorem TV.of {X : Cx} {e : Expr} {t : TT} (h : PT X e t) {σ : L2.St} {H : Hp} {Q : Bool → Hp → Prop} (q : t σ H Q) : TV X e σ H Q := fun pins s I => h.run pins s σ H Q I q
theorem WV.of {X : Cx} {e : Expr} {t : TT} (h : PW X e t) {σ : L2.St} {H : Hp} {Q : Bool → Hp → Prop} (q : t σ H Q) : WV X e σ H Q := fun wh pins s I => h.run wh pins s σ H Q I q
theorem AV.of {X : Cx} {es : List Expr} {t : TA} (h : PA X es t) {σ : L2.St} {H : Hp} {Q : List V → Hp → Prop} (q : t σ H Q) : AV X es σ H Q := fun pos pins s I => h.run pos pins s σ H Q I q
theorem SV.of {X : Cx} {st : List Stmt} {t : TS} (h : PSs X st t) {D : Ends} {σ : L2.St} {H : Hp} (q : t D σ H) : SV X st D σ H := fun pins s I => h.run pins s σ H D I q
theorem GV.of {X : Cx} {e : Expr} {t : TG} (h : PG X e t) {v : V} {σ : L2.St} {H : Hp} {Q : L2.St → Hp → Prop} (q : t v σ H Q) : GV X e v σ H Q := fun pins s u I r => h.run pins s σ H v u Q I r q
theorem EV.inv {X : Cx} {e : Expr} {σ : L2.St} {H : Hp} {Q : VK} (h : ∀ pins s, Inv X pins σ H s → EV X e σ H Q) : EV X e σ H Q := fun pins s I => h pins s I pins s I
theorem EV.mono {X : Cx} {e : Expr} {σ : L2.St} {H : Hp} {Q Q' : VK} (h : EV X e σ H Q) (k : ∀ v H', Q v H' → Q' v H') : EV X e σ H Q' := fun pins s I =>
  thn (h pins s I) fun u s' ⟨v, H', I', r, q⟩ => ⟨v, H', I', r, k v H' q⟩

/-! ### an exception that is wished for -/
/-- the field of an error class -/
def fieldOf (c : Str) : Str := if c = "InvalidLine" then "line" else "what"
def Wish (X : Cx) (σ : L2.St) (H : Hp) (c : Str) (x : V) : Prop :=
  ∃ W : WX, Takes X W ∧ ∃ C : Addr, X.mg c = some (.ref C) ∧ ∀ (H' : Hp) (d : Addr), Same H H' → H d = none → H' d = some (.xd [(fieldOf c, x)]) → W (.ref C) (some d) σ H'
theorem Wish.mono {X : Cx} {σ : L2.St} {H H1 : Hp} {c : Str} {x : V} (h : Wish X σ H c x) (e : Same H H1) : Wish X σ H1 c x := by
  obtain ⟨W, t, C, g, q⟩ := h
  exact ⟨W, t, C, g, fun H' d s n => q H' d (e.trans s) (e.free n)⟩
section
variable {α : Type} [Rep α]
def PostR (X : Cx) (σ : L2.St) (G H : Hp) (Q : VK) : Res α → Prop
  | .ok a => ∀ G' H' v, Ext G H G' H' → rep X.K G' v a → Q v H'
  | .err c x => Wish X σ H c x
  | .bad => False
theorem PostR.ext {X : Cx} {σ : L2.St} {G H G1 H1 : Hp} {Q : VK} {o : Res α} (h : PostR X σ G H Q o) (e : Ext G H G1 H1) : PostR X σ G1 H1 Q o := by
  cases o with
  | ok a => exact fun G' H' v e' r => h G' H' v (e.trans e') r
  | err c x => exact Wish.mono h e.hh
  | bad => exact h
theorem PostR.bind {β : Type} [Rep β] {X : Cx} {σ : L2.St} {G H : Hp} {Q Q1 : VK} {o : Res α} {f : α → Res β} (h : PostR X σ G H Q (o.bind f))
    (k : ∀ a G1 H1 v, Ext G H G1 H1 → rep X.K G1 v a → PostR X σ G1 H1 Q (f a) → Q1 v H1) : PostR X σ G H Q1 o := by
  cases o with
  | ok a => exact fun G1 H1 v e r => k a G1 H1 v e r (PostR.ext (o := f a) h e)
  | err c x => exact h
  | bad => exact h
/-- total: a value, new objects alone -/
def AE (X : Cx) (Γ : List Slot) (e : Expr) (a : α) : Prop := ∀ (σ : L2.St) (G H : Hp) (Q : VK), EnvOk X.K G σ Γ → Same G H → (∀ G' H' v, Ext G H G' H' → rep X.K G' v a → Q v H') → EV X e σ H Q
/-- .. or an exception, or nothing said -/
def RE (X : Cx) (Γ : List Slot) (e : Expr) (o : Res α) : Prop := ∀ (σ : L2.St) (G H : Hp) (Q : VK), EnvOk X.K G σ Γ → Same G H → PostR X σ G H Q o → EV X e σ H Q
/-- .. with one object that is written -/
def PostS {μ : Type} [CRep μ] (X : Cx) (p : Addr) (G H : Hp) (Q : VK) : Res (α × μ) → Prop
  | .ok q => ∀ G' H' v o', ExtP p G H G' H' → H' p = some o' → crep X.K G' o' q.2 → rep X.K G' v q.1 → Q v H'
  | _ => False
def SE {μ : Type} [CRep μ] (X : Cx) (Γ : List Slot) (p : Addr) (m : μ) (e : Expr) (o : Res (α × μ)) : Prop := ∀ (σ : L2.St) (G H : Hp) (Q : VK) (u : HO), EnvOk X.K G σ Γ → Same G H → G p = none → H p = some u → crep X.K G u m → PostS X p G H Q o → EV X e σ H Q
end
theorem RE.ofA {α : Type} [Rep α] {X : Cx} {Γ : List Slot} {e : Expr} {a : α} (h : AE X Γ e a) : RE X Γ e (.ok a) := fun σ G H Q hΓ hG k => h σ G H Q hΓ hG k
theorem SE.ofR {α μ : Type} [Rep α] [CRep μ] {X : Cx} {Γ : List Slot} {p : Addr} {m : μ} {e : Expr} {o : Res α} (h : RE X Γ e o) : SE X Γ p m e (o.bind fun a => .ok (a, m)) := fun σ G H Q u hΓ hG gp hp cm k => by
  refine h σ G H Q hΓ hG ?_
  cases o with
  | ok a => exact fun G' H' v e r => k G' H' v u e.toP (e.hh _ _ hp) (CRep.mono e.gg cm) r
  | err c x => exact k.elim
  | bad => exact k
theorem SE.ofA {α μ : Type} [Rep α] [CRep μ] {X : Cx} {Γ : List Slot} {p : Addr} {m : μ} {e : Expr} {a : α} (h : AE X Γ e a) : SE X Γ p m e (.ok (a, m)) := fun σ G H Q u hΓ hG gp hp cm k =>
  h σ G H Q hΓ hG fun G' H' v e r => k G' H' v u e.toP (e.hh _ _ hp) (CRep.mono e.gg cm) r
/-- values told otherwise -/
theorem AE.conv {α β : Type} [Rep α] [Rep β] {X : Cx} {Γ : List Slot} {e : Expr} {a : α} {b : β} (h : AE X Γ e a) (c : ∀ K H v, rep K H v a → rep K H v b) : AE X Γ e b := fun σ G H Q hΓ hG k =>
  h σ G H Q hΓ hG fun G' H' v e r => k G' H' v e (c _ _ _ r)
theorem RE.conv {α β : Type} [Rep α] [Rep β] {X : Cx} {Γ : List Slot} {e : Expr} {o : Res α} (f : α → β) (h : RE X Γ e o) (c : ∀ a K H v, rep K H v a → rep K H v (f a)) : RE X Γ e (o.bind fun a => .ok (f a)) := fun σ G H Q hΓ hG k => by
  refine h σ G H Q hΓ hG ?_
  cases o with
  | ok a => exact fun G' H' v e r => k G' H' v e (c _ _ _ _ r)
  | err _ _ => exact k
  | bad => exact k
theorem SE.conv {α β μ : Type} [Rep α] [Rep β] [CRep μ] {X : Cx} {Γ : List Slot} {p : Addr} {m : μ} {e : Expr} {o : Res (α × μ)} (f : α → β) (h : SE X Γ p m e o) (c : ∀ a K H v, rep K H v a → rep K H v (f a)) : SE X Γ p m e (o.bind fun q => .ok (f q.1, q.2)) := fun σ G H Q u hΓ hG gp hp cm k => by
  refine h σ G H Q u hΓ hG gp hp cm ?_
  cases o with
  | ok a => exact fun G' H' v u' e1 e2 e3 r => k G' H' v u' e1 e2 e3 (c _ _ _ _ r)
  | err _ _ => exact k
  | bad => exact k
theorem AE.toD {α : Type} [Rep α] [ToD α] {X : Cx} {Γ : List Slot} {e : Expr} {a : α} (h : AE X Γ e a) : AE X Γ e (toD a) := h.conv fun _ _ _ r => ToD.dp r
theorem RE.toD {α : Type} [Rep α] [ToD α] {X : Cx} {Γ : List Slot} {e : Expr} {o : Res α} (h : RE X Γ e o) : RE X Γ e (o.bind fun a => .ok (toD a)) := h.conv _ fun _ _ _ _ r => ToD.dp r
theorem AE.someO {α : Type} [Rep α] {X : Cx} {Γ : List Slot} {e : Expr} {a : α} (h : AE X Γ e a) : AE X Γ e (Option.some a) := h.conv fun _ _ _ r => r
theorem RE.someO {α : Type} [Rep α] {X : Cx} {Γ : List Slot} {e : Expr} {o : Res α} (h : RE X Γ e o) : RE X Γ e (o.bind fun a => .ok (Option.some a)) := h.conv _ fun _ _ _ _ r => r

section
variable {X : Cx} {Γ : List Slot} {pos : Pos}
/-! ### names, constants -/
theorem AE.var {α : Type} {inst : Rep α} {a : α} (i : Nat) {x : Str} (h : getS Γ i = some (@Slot.mk i α inst a)) (hN : X.N[i]? = some x := by rfl) (hv : Vis X.env.scope x := by first | exact Or.inl rfl | exact Or.inr (Or.inl rfl) | exact Or.inr (Or.inr rfl))
    (hd : (x == ("__debug__" : Str)) = false := by decide) (hcd : (x == ("__classdict__" : Str)) = false := by decide) : AE X Γ (.Name x pos) a := fun σ G H Q hΓ hG k => by
  obtain ⟨v, h1, h2⟩ := hΓ _ _ h
  exact EV.of (pe_var hN hv hd hcd) ⟨v, h1, k G H v (Ext.refl hG) h2⟩
theorem AE.int {i : Int} {j} : AE X Γ (.Constant (.int i) j pos) i := fun σ G H Q hΓ hG k => EV.of pe_int (k G H _ (Ext.refl hG) rfl)
theorem AE.bl {i : Bool} {j} : AE X Γ (.Constant (.bool i) j pos) i := fun σ G H Q hΓ hG k => EV.of pe_bl (k G H _ (Ext.refl hG) rfl)
theorem AE.str {i : Str} {j} : AE X Γ (.Constant (.str i) j pos) i := fun σ G H Q hΓ hG k => EV.of pe_str (k G H _ (Ext.refl hG) rfl)
theorem AE.non {j} : AE X Γ (.Constant .none j pos) () := fun σ G H Q hΓ hG k => EV.of pe_non (k G H _ (Ext.refl hG) rfl)
theorem AE.noneO {α : Type} [Rep α] {j} : AE X Γ (.Constant .none j pos) (Option.none : Option α) := fun σ G H Q hΓ hG k => EV.of pe_non (k G H _ (Ext.refl hG) rfl)
theorem AE.noneD {j} : AE X Γ (.Constant .none j pos) PyData.none := fun σ G H Q hΓ hG k => EV.of pe_non (k G H _ (Ext.refl hG) .non)

/-! ### two operands -/
def BinR (X : Cx) (E a b : Expr) (R : V → V → Hp → VK → Prop) : Prop := ∀ (σ : L2.St) (H : Hp) (Q : VK), EV X a σ H (fun x H1 => EV X b σ H1 fun y H2 => R x y H2 Q) → EV X E σ H Q
def Op2 {β γ δ : Type} [Rep β] [Rep γ] [Rep δ] (X : Cx) (R : V → V → Hp → VK → Prop) (g : β → γ → δ) : Prop :=
  ∀ (G H : Hp) (x y : V) (b : β) (c : γ) (Q : VK), Same G H → rep X.K G x b → rep X.K G y c → (∀ G' H' v, Ext G H G' H' → rep X.K G' v (g b c) → Q v H') → R x y H Q
def Op2P {β γ δ : Type} [Rep β] [Rep γ] [Rep δ] (X : Cx) (R : V → V → Hp → VK → Prop) (g : β → γ → Res δ) : Prop :=
  ∀ (G H : Hp) (x y : V) (b : β) (c : γ) (Q : VK) (d : δ), g b c = .ok d → Same G H → rep X.K G x b → rep X.K G y c → (∀ G' H' v, Ext G H G' H' → rep X.K G' v d → Q v H') → R x y H Q
variable {β γ δ : Type} [Rep β] [Rep γ] [Rep δ] {E a b : Expr} {R : V → V → Hp → VK → Prop}
theorem AE.bin {g : β → γ → δ} (hb : BinR X E a b R) (ho : Op2 X R g) {x : β} {y : γ} (h1 : AE X Γ a x) (h2 : AE X Γ b y) : AE X Γ E (g x y) := fun σ G H Q hΓ hG k => by
  refine hb σ H Q (h1 σ G H _ hΓ hG fun G1 H1 v1 e1 r1 => h2 σ G1 H1 _ (hΓ.mono e1.gg) e1.gh fun G2 H2 v2 e2 r2 => ?_)
  exact ho G2 H2 v1 v2 x y Q e2.gh (Rep.mono e2.gg r1) r2 fun G3 H3 v e3 r => k G3 H3 v (e1.trans (e2.trans e3)) r
theorem RE.bin {g : β → γ → δ} (hb : BinR X E a b R) (ho : Op2 X R g) {x : Res β} {y : Res γ} (h1 : RE X Γ a x) (h2 : RE X Γ b y) : RE X Γ E (x.bind fun x => y.bind fun y => .ok (g x y)) := fun σ G H Q hΓ hG k => by
  refine hb σ H Q (h1 σ G H _ hΓ hG (PostR.bind k fun x G1 H1 v1 e1 r1 k1 => h2 σ G1 H1 _ (hΓ.mono e1.gg) e1.gh (PostR.bind k1 fun y G2 H2 v2 e2 r2 k2 => ?_)))
  exact ho G2 H2 v1 v2 x y Q e2.gh (Rep.mono e2.gg r1) r2 fun G3 H3 v e3 r => k2 G3 H3 v e3 r
theorem RE.binP {g : β → γ → Res δ} (hb : BinR X E a b R) (ho : Op2P X R g) (hg : ∀ b c e w, g b c ≠ .err e w) {x : Res β} {y : Res γ} (h1 : RE X Γ a x) (h2 : RE X Γ b y) : RE X Γ E (x.bind fun x => y.bind fun y => g x y) := fun σ G H Q hΓ hG k => by
  refine hb σ H Q (h1 σ G H _ hΓ hG (PostR.bind k fun x G1 H1 v1 e1 r1 k1 => h2 σ G1 H1 _ (hΓ.mono e1.gg) e1.gh (PostR.bind k1 fun y G2 H2 v2 e2 r2 k2 => ?_)))
  cases q : g x y with
  | ok d => rw [q] at k2; exact ho G2 H2 v1 v2 x y Q d q e2.gh (Rep.mono e2.gg r1) r2 fun G3 H3 v e3 r => k2 G3 H3 v e3 r
  | err c w => exact absurd q (hg _ _ _ _)
  | bad => rw [q] at k2; exact k2.elim
variable {μ : Type} [CRep μ] {p : Addr}
theorem PostS.ext {α : Type} [Rep α] {G H G1 H1 : Hp} {Q : VK} {o : Res (α × μ)} (h : PostS X p G H Q o) (e : ExtP p G H G1 H1) (hp : H1 p ≠ Option.none) : PostS X p G1 H1 Q o := by
  cases o with
  | ok a => exact fun G' H' v o' e' q1 q2 r => h G' H' v o' (e.trans e' hp) q1 q2 r
  | err c x => exact h
  | bad => exact h
theorem PostS.bind {α : Type} [Rep α] {G H : Hp} {Q Q1 : VK} {o : Res (β × μ)} {f : β × μ → Res (α × μ)} (h : PostS X p G H Q (o.bind f))
    (k : ∀ (a : β) (m : μ) G1 H1 v u, ExtP p G H G1 H1 → H1 p = Option.some u → crep X.K G1 u m → rep X.K G1 v a → PostS X p G1 H1 Q (f (a, m)) → Q1 v H1) : PostS X p G H Q1 o := by
  cases o with
  | ok a => exact fun G1 H1 v u e hp c r => k a.1 a.2 G1 H1 v u e hp c r (PostS.ext (o := f a) h e (by rw [hp]; simp))
  | err c x => exact h
  | bad => exact h
theorem SE.bin {g : β → γ → Res δ} (hb : BinR X E a b R) (ho : Op2P X R g) {m : μ} {x : Res (β × μ)} {y : β × μ → Res (γ × μ)} (h1 : SE X Γ p m a x) (h2 : ∀ q : β × μ, SE X Γ p q.2 b (y q)) :
    SE X Γ p m E (x.bind fun q => (y q).bind fun q' => (g q.1 q'.1).bind fun d => .ok (d, q'.2)) := fun σ G H Q u hΓ hG gp hp cm k => by
  refine hb σ H Q (h1 σ G H _ u hΓ hG gp hp cm (PostS.bind k fun x1 m1 G1 H1 v1 u1 e1 hp1 c1 r1 k1 => ?_))
  have gp1 : G1 p = Option.none := e1.fr p (by rw [hp]; simp) gp
  refine h2 (x1, m1) σ G1 H1 _ u1 (hΓ.mono e1.gg) e1.gh gp1 hp1 c1 (PostS.bind k1 fun y2 m2 G2 H2 v2 u2 e2 hp2 c2 r2 k2 => ?_)
  cases q : g x1 y2 with
  | ok d =>
    rw [show (g (x1, m1).1 (y2, m2).1) = Res.ok d from q] at k2
    exact ho G2 H2 v1 v2 x1 y2 Q d q e2.gh (Rep.mono e2.gg r1) r2 fun G3 H3 v e3 r => k2 G3 H3 v u2 e3.toP (e3.hh _ _ hp2) (CRep.mono e3.gg c2) r
  | err c w =>
    rw [show (g (x1, m1).1 (y2, m2).1) = Res.err c w from q] at k2
    exact k2.elim
  | bad =>
    rw [show (g (x1, m1).1 (y2, m2).1) = Res.bad from q] at k2
    exact k2.elim
theorem Op2.par {g : β → γ → δ} (h : Op2 X R g) : Op2P X R (fun b c => .ok (g b c)) := fun G H x y b c Q d e => by
  cases e
  exact h G H x y b c Q
theorem BinR.op {op : Operator} {r : R2} (ho : OpR X (binaryOp op) r) : BinR X (.BinOp a op b pos) a b r := fun σ H Q h => EV.of (pe_op ho (ev X a) (ev X b)) h
theorem BinR.cmp {op : CmpOp} {r : R2} (ho : OpR X (compareOp op) r) (hm : behindInMarks op b = false) : BinR X (.Compare a [op] [b] pos) a b r := fun σ H Q h => EV.of (pe_cmpR ho (ev X a) (ev X b) hm) h
theorem BinR.ix {r : R2} (hr : IxR X r) (hs : PlainIx b) : BinR X (.Subscript a b pos) a b r := fun σ H Q h => EV.of (pe_ix hr (ev X a) (ev X b) hs) h
end
end Mr

/-! Mr3: operators, tests, calls, displays. -/
namespace Mr
open PySem PySem.Spec PyProof.Rows L2
open Rep (rep)
open ToD (toD)
open CRep (crep)
universe u v
section
variable {X : Cx} {Γ : List Slot} {pos : Pos}
variable {β γ δ ζ : Type} [Rep β] [Rep γ] [Rep δ] [Rep ζ] {E a b c : Expr}
/-! ### one operand -/
def UnRd (X : Cx) (E a : Expr) (R : V → Hp → VK → Prop) : Prop := ∀ (σ : L2.St) (H : Hp) (Q : VK), EV X a σ H (fun x H1 => R x H1 Q) → EV X E σ H Q
def Op1 (X : Cx) (R : V → Hp → VK → Prop) (g : β → δ) : Prop :=
  ∀ (G H : Hp) (x : V) (b : β) (Q : VK), Same G H → rep X.K G x b → (∀ G' H' v, Ext G H G' H' → rep X.K G' v (g b) → Q v H') → R x H Q
def Op1P (X : Cx) (R : V → Hp → VK → Prop) (g : β → Res δ) : Prop :=
  ∀ (G H : Hp) (x : V) (b : β) (Q : VK) (d : δ), g b = .ok d → Same G H → rep X.K G x b → (∀ G' H' v, Ext G H G' H' → rep X.K G' v d → Q v H') → R x H Q
theorem Op1.par {R : V → Hp → VK → Prop} {g : β → δ} (h : Op1 X R g) : Op1P X R (fun b => .ok (g b)) := fun G H x b Q d e => by
  cases e
  exact h G H x b Q
variable {R : V → Hp → VK → Prop}
theorem AE.un {g : β → δ} (hb : UnRd X E a R) (ho : Op1 X R g) {x : β} (h1 : AE X Γ a x) : AE X Γ E (g x) := fun σ G H Q hΓ hG k => by
  refine hb σ H Q (h1 σ G H _ hΓ hG fun G1 H1 v1 e1 r1 => ?_)
  exact ho G1 H1 v1 x Q e1.gh r1 fun G3 H3 v e3 r => k G3 H3 v (e1.trans e3) r
theorem RE.unP {g : β → Res δ} (hb : UnRd X E a R) (ho : Op1P X R g) (hg : ∀ b e w, g b ≠ .err e w) {x : Res β} (h1 : RE X Γ a x) : RE X Γ E (x.bind g) := fun σ G H Q hΓ hG k => by
  refine hb σ H Q (h1 σ G H _ hΓ hG (PostR.bind k fun x G1 H1 v1 e1 r1 k1 => ?_))
  cases q : g x with
  | ok d => rw [q] at k1; exact ho G1 H1 v1 x Q d q e1.gh r1 fun G3 H3 v e3 r => k1 G3 H3 v e3 r
  | err c w => exact absurd q (hg _ _ _)
  | bad => rw [q] at k1; exact k1.elim
variable {μ : Type} [CRep μ] {p : Addr}
theorem SE.unP {g : β → Res δ} (hb : UnRd X E a R) (ho : Op1P X R g) {m : μ} {x : Res (β × μ)} (h1 : SE X Γ p m a x) : SE X Γ p m E (x.bind fun q => (g q.1).bind fun d => .ok (d, q.2)) := fun σ G H Q u hΓ hG gp hp cm k => by
  refine hb σ H Q (h1 σ G H _ u hΓ hG gp hp cm (PostS.bind k fun x1 m1 G1 H1 v1 u1 e1 hp1 c1 r1 k1 => ?_))
  cases q : g x1 with
  | ok d =>
    rw [show (g (x1, m1).1) = Res.ok d from q] at k1
    exact ho G1 H1 v1 x1 Q d q e1.gh r1 fun G3 H3 v e3 r => k1 G3 H3 v u1 e3.toP (e3.hh _ _ hp1) (CRep.mono e3.gg c1) r
  | err c w =>
    rw [show (g (x1, m1).1) = Res.err c w from q] at k1
    exact k1.elim
  | bad =>
    rw [show (g (x1, m1).1) = Res.bad from q] at k1
    exact k1.elim
/-! ### three operands -/
def TerR (X : Cx) (E a b c : Expr) (R : V → V → V → Hp → VK → Prop) : Prop := ∀ (σ : L2.St) (H : Hp) (Q : VK), EV X a σ H (fun x H1 => EV X b σ H1 fun y H2 => EV X c σ H2 fun z H3 => R x y z H3 Q) → EV X E σ H Q
def Op3P (X : Cx) (R : V → V → V → Hp → VK → Prop) (g : β → γ → ζ → Res δ) : Prop :=
  ∀ (G H : Hp) (x y z : V) (b : β) (c : γ) (d : ζ) (Q : VK) (r : δ), g b c d = .ok r → Same G H → rep X.K G x b → rep X.K G y c → rep X.K G z d → (∀ G' H' v, Ext G H G' H' → rep X.K G' v r → Q v H') → R x y z H Q
theorem AE.ter {R3 : V → V → V → Hp → VK → Prop} {g : β → γ → ζ → δ} (hb : TerR X E a b c R3) (ho : Op3P X R3 (fun x y z => .ok (g x y z))) {x : β} {y : γ} {z : ζ} (h1 : AE X Γ a x) (h2 : AE X Γ b y) (h3 : AE X Γ c z) : AE X Γ E (g x y z) := fun σ G H Q hΓ hG k => by
  refine hb σ H Q (h1 σ G H _ hΓ hG fun G1 H1 v1 e1 r1 => h2 σ G1 H1 _ (hΓ.mono e1.gg) e1.gh fun G2 H2 v2 e2 r2 => h3 σ G2 H2 _ (hΓ.mono (e1.trans e2).gg) e2.gh fun G3 H3 v3 e3 r3 => ?_)
  exact ho G3 H3 v1 v2 v3 x y z Q _ rfl e3.gh (Rep.mono (e2.trans e3).gg r1) (Rep.mono e3.gg r2) r3 fun G4 H4 v e4 r => k G4 H4 v (e1.trans (e2.trans (e3.trans e4))) r
theorem RE.terP {R3 : V → V → V → Hp → VK → Prop} {g : β → γ → ζ → Res δ} (hb : TerR X E a b c R3) (ho : Op3P X R3 g) (hg : ∀ b c d e w, g b c d ≠ .err e w) {x : Res β} {y : Res γ} {z : Res ζ} (h1 : RE X Γ a x) (h2 : RE X Γ b y) (h3 : RE X Γ c z) :
    RE X Γ E (x.bind fun x => y.bind fun y => z.bind fun z => g x y z) := fun σ G H Q hΓ hG k => by
  refine hb σ H Q (h1 σ G H _ hΓ hG (PostR.bind k fun x G1 H1 v1 e1 r1 k1 => h2 σ G1 H1 _ (hΓ.mono e1.gg) e1.gh (PostR.bind k1 fun y G2 H2 v2 e2 r2 k2 =>
    h3 σ G2 H2 _ (hΓ.mono (e1.trans e2).gg) e2.gh (PostR.bind k2 fun z G3 H3 v3 e3 r3 k3 => ?_))))
  cases q : g x y z with
  | ok d => rw [q] at k3; exact ho G3 H3 v1 v2 v3 x y z Q d q e3.gh (Rep.mono (e2.trans e3).gg r1) (Rep.mono e3.gg r2) r3 fun G4 H4 v e4 r => k3 G4 H4 v e4 r
  | err c w => exact absurd q (hg _ _ _ _ _)
  | bad => rw [q] at k3; exact k3.elim

/-! ### numbers -/
theorem o2I {g : Int → Int → Int} : Op2 X (rI0 fun i j => .int (g i j)) g := fun G H x y b c Q hG r1 r2 k => by
  cases r1; cases r2
  exact ⟨_, _, rfl, rfl, k G H _ (Ext.refl hG) rfl⟩
theorem o2B {g : Int → Int → Bool} : Op2 X (rI0 fun i j => .bl (g i j)) g := fun G H x y b c Q hG r1 r2 k => by
  cases r1; cases r2
  exact ⟨_, _, rfl, rfl, k G H _ (Ext.refl hG) rfl⟩
/-- told where it is served -/
def iff (c : Prop) [Decidable c] {α : Type} (a : α) : Res α := if c then .ok a else .bad
theorem iff_ok {c : Prop} [Decidable c] {α : Type} {a d : α} (h : iff c a = .ok d) : c ∧ d = a := by
  unfold iff at h
  by_cases hc : c
  · rw [if_pos hc] at h
    cases h
    exact ⟨hc, rfl⟩
  · rw [if_neg hc] at h; cases h
theorem iff_ne {c : Prop} [Decidable c] {α : Type} {a : α} {e : Str} {w : V} : iff c a ≠ .err e w := by
  unfold iff
  by_cases hc : c
  · rw [if_pos hc]; intro h; cases h
  · rw [if_neg hc]; intro h; cases h
theorem iff_pos {c : Prop} [Decidable c] {α : Type} {a : α} (h : c) : iff c a = .ok a := if_pos h
instance (i j : Int) : Decidable (CMul i j) := by unfold CMul; infer_instance
instance (i j : Int) : Decidable (CMulW i j) := by unfold CMulW; infer_instance
instance (i j : Int) : Decidable (CDivW i j) := by unfold CDivW; infer_instance
instance (i j : Int) : Decidable (CDivN i j) := by unfold CDivN; infer_instance
instance (i j : Int) : Decidable (CPow i j) := by unfold CPow; infer_instance
def mulR (i j : Int) : Res Int := iff (CMul i j ∨ CMulW i j) (i * j)
def divR (i j : Int) : Res Int := if CDivW i j then .ok (i / j) else iff (CDivN i j) (i.fdiv j)
def modR (i j : Int) : Res Int := if 0 < j then .ok (i % j) else iff (j ≠ 0) (i.fmod j)
def powR (i j : Int) : Res Int := iff (CPow i j) (i ^ j.toNat)
def shlR (i j : Int) : Res Int := iff (CPow i j) (i * 2 ^ j.toNat)
def shrR (i j : Int) : Res Int := iff (0 ≤ j) (i / 2 ^ j.toNat)
theorem o2P {C : Int → Int → Prop} [∀ i j, Decidable (C i j)] {g : Int → Int → Int} : Op2P X (rI C fun i j => .int (g i j)) (fun i j => iff (C i j) (g i j)) := fun G H x y b c Q d e hG r1 r2 k => by
  cases r1; cases r2
  obtain ⟨h, rfl⟩ := iff_ok e
  exact ⟨_, _, rfl, rfl, h, k G H _ (Ext.refl hG) rfl⟩
theorem o2_mul : Op2P X (fun x y H Q => rI CMul (fun i j => .int (i * j)) x y H Q ∨ rI CMulW (fun i j => .int (i * j)) x y H Q) mulR := fun G H x y b c Q d e hG r1 r2 k => by
  cases r1; cases r2
  obtain ⟨h | h, rfl⟩ := iff_ok e
  · exact .inl ⟨_, _, rfl, rfl, h, k G H _ (Ext.refl hG) rfl⟩
  · exact .inr ⟨_, _, rfl, rfl, h, k G H _ (Ext.refl hG) rfl⟩
theorem o2_div : Op2P X (fun x y H Q => rI CDivW (fun i j => .int (i / j)) x y H Q ∨ rI CDivN (fun i j => .int (i.fdiv j)) x y H Q) divR := fun G H x y b c Q d e hG r1 r2 k => by
  cases r1; cases r2
  unfold divR at e
  by_cases h : CDivW b c
  · rw [if_pos h] at e
    cases e
    exact .inl ⟨_, _, rfl, rfl, h, k G H _ (Ext.refl hG) rfl⟩
  · rw [if_neg h] at e
    obtain ⟨h, rfl⟩ := iff_ok e
    exact .inr ⟨_, _, rfl, rfl, h, k G H _ (Ext.refl hG) rfl⟩
theorem o2_mod : Op2P X (fun x y H Q => rI (fun _ j => 0 < j) (fun i j => .int (i % j)) x y H Q ∨ rI (fun _ j => j ≠ 0) (fun i j => .int (i.fmod j)) x y H Q) modR := fun G H x y b c Q d e hG r1 r2 k => by
  cases r1; cases r2
  unfold modR at e
  by_cases h : 0 < c
  · rw [if_pos h] at e
    cases e
    exact .inl ⟨_, _, rfl, rfl, h, k G H _ (Ext.refl hG) rfl⟩
  · rw [if_neg h] at e
    obtain ⟨h, rfl⟩ := iff_ok e
    exact .inr ⟨_, _, rfl, rfl, h, k G H _ (Ext.refl hG) rfl⟩
theorem mulR_ne {i j : Int} {e : Str} {w : V} : mulR i j ≠ .err e w := iff_ne
theorem divR_ne {i j : Int} {e : Str} {w : V} : divR i j ≠ .err e w := by
  unfold divR
  split
  · intro h; cases h
  · exact iff_ne
theorem modR_ne {i j : Int} {e : Str} {w : V} : modR i j ≠ .err e w := by
  unfold modR
  split
  · intro h; cases h
  · exact iff_ne
/-- with a written number -/
theorem AE.mulL {x y : Int} (h : CMul x y) (h1 : AE X Γ a x) (h2 : AE X Γ b y) : AE X Γ (.BinOp a .Mult b pos) (x * y) := fun σ G H Q hΓ hG k => by
  refine BinR.op op_mul σ H Q (h1 σ G H _ hΓ hG fun G1 H1 v1 e1 r1 => h2 σ G1 H1 _ (hΓ.mono e1.gg) e1.gh fun G2 H2 v2 e2 r2 => ?_)
  cases r1; cases r2
  exact ⟨_, _, rfl, rfl, h, k G2 H2 _ (e1.trans e2) rfl⟩
theorem cmul_l {x y : Int} (h : -(2 ^ 64) < x ∧ x < 2 ^ 64) : CMul x y := .inl h
theorem cmul_r {x y : Int} (h : -(2 ^ 64) < y ∧ y < 2 ^ 64) : CMul x y := .inr h
theorem AE.divL {x y : Int} (h : CDivW x y) (h1 : AE X Γ a x) (h2 : AE X Γ b y) : AE X Γ (.BinOp a .FloorDiv b pos) (x / y) := fun σ G H Q hΓ hG k => by
  refine BinR.op op_fdivW σ H Q (h1 σ G H _ hΓ hG fun G1 H1 v1 e1 r1 => h2 σ G1 H1 _ (hΓ.mono e1.gg) e1.gh fun G2 H2 v2 e2 r2 => ?_)
  cases r1; cases r2
  exact ⟨_, _, rfl, rfl, h, k G2 H2 _ (e1.trans e2) rfl⟩
theorem cdivw {x y : Int} (h : 0 < y) (h2 : y.natAbs.log2 < 9000) : CDivW x y := ⟨h, h2⟩
theorem AE.modL {x y : Int} (h : 0 < y) (h1 : AE X Γ a x) (h2 : AE X Γ b y) : AE X Γ (.BinOp a .Mod b pos) (x % y) := fun σ G H Q hΓ hG k => by
  refine BinR.op op_mod σ H Q (h1 σ G H _ hΓ hG fun G1 H1 v1 e1 r1 => h2 σ G1 H1 _ (hΓ.mono e1.gg) e1.gh fun G2 H2 v2 e2 r2 => ?_)
  cases r1; cases r2
  exact ⟨_, _, rfl, rfl, h, k G2 H2 _ (e1.trans e2) rfl⟩
theorem AE.powL {x y : Int} (h : CPow x y) (h1 : AE X Γ a x) (h2 : AE X Γ b y) : AE X Γ (.BinOp a .Pow b pos) (x ^ y.toNat) := fun σ G H Q hΓ hG k => by
  refine BinR.op op_pow σ H Q (h1 σ G H _ hΓ hG fun G1 H1 v1 e1 r1 => h2 σ G1 H1 _ (hΓ.mono e1.gg) e1.gh fun G2 H2 v2 e2 r2 => ?_)
  cases r1; cases r2
  exact ⟨_, _, rfl, rfl, h, k G2 H2 _ (e1.trans e2) rfl⟩
/-- == of plain values -/
class Scal (α : Type) [Rep α] where
  enc : α → V
  rep_eq : ∀ {K : PySem.W.Frag} {H : Hp} {v : V} {a : α}, rep K H v a → v = enc a
  inj : ∀ a b : α, enc a = enc b → a = b
  ok : ∀ a b : α, scal (enc a) (enc b) = true
instance : Scal Int := ⟨V.int, fun h => h, fun _ _ h => V.int.inj h, fun _ _ => rfl⟩
instance : Scal Bool := ⟨V.bl, fun h => h, fun _ _ h => V.bl.inj h, fun _ _ => rfl⟩
instance : Scal Str := ⟨V.str, fun h => h, fun _ _ h => V.str.inj h, fun _ _ => rfl⟩
theorem scal_dec {α : Type} [Rep α] [Scal α] [DecidableEq α] (a b : α) : decide (Scal.enc a = Scal.enc b) = decide (a = b) := by
  by_cases h : a = b
  · subst h; simp
  · rw [decide_eq_false h, decide_eq_false fun e => h (Scal.inj a b e)]
theorem o2_eq {α : Type} [Rep α] [Scal α] [DecidableEq α] : Op2 X rEq (fun a b : α => decide (a = b)) := fun G H x y b c Q hG r1 r2 k => by
  have e1 := Scal.rep_eq r1
  have e2 := Scal.rep_eq r2
  subst e1; subst e2
  exact ⟨Scal.ok b c, k G H _ (Ext.refl hG) (by rw [scal_dec]; rfl)⟩
theorem o2_ne {α : Type} [Rep α] [Scal α] [DecidableEq α] : Op2 X rNe (fun a b : α => !decide (a = b)) := fun G H x y b c Q hG r1 r2 k => by
  have e1 := Scal.rep_eq r1
  have e2 := Scal.rep_eq r2
  subst e1; subst e2
  exact ⟨Scal.ok b c, k G H _ (Ext.refl hG) (by rw [scal_dec]; rfl)⟩
/-- == of data -/
def eqR (d e : PyData) : Res Bool := iff (SeqAt.shaped d = true ∧ SeqAt.shaped e = true) (PyData.eqv d e)
def neR (d e : PyData) : Res Bool := iff (SeqAt.shaped d = true ∧ SeqAt.shaped e = true) (!PyData.eqv d e)
theorem dp_same {K : PySem.W.Frag} {G H : Hp} (e : Same G H) {v : V} {d : PyData} (h : rep K G v d) : Dp K H v d := dp_mono e h
theorem o2_eqD : Op2P X (rEqD X.K) eqR := fun G H x y b c Q d e hG r1 r2 k => by
  obtain ⟨⟨h1, h2⟩, rfl⟩ := iff_ok e
  exact ⟨b, c, dp_same hG r1, dp_same hG r2, h1, h2, k G H _ (Ext.refl hG) rfl⟩
theorem o2_neD : Op2P X (rNeD X.K) neR := fun G H x y b c Q d e hG r1 r2 k => by
  obtain ⟨⟨h1, h2⟩, rfl⟩ := iff_ok e
  exact ⟨b, c, dp_same hG r1, dp_same hG r2, h1, h2, k G H _ (Ext.refl hG) rfl⟩
/-! ### subscripts -/
def ixR {α : Type} (xs : List α) (i : Int) : Res α := match atI xs i with | some a => .ok a | none => .bad
theorem ixR_ne {α : Type} {xs : List α} {i : Int} {e : Str} {w : V} : ixR xs i ≠ .err e w := by
  unfold ixR
  split <;> intro h <;> cases h
theorem ixR_ok {α : Type} {xs : List α} {i : Int} {d : α} (h : ixR xs i = .ok d) : atI xs i = some d := by
  unfold ixR at h
  cases q : atI xs i with
  | none => rw [q] at h; cases h
  | some a => rw [q] at h; cases h; rfl
theorem atI_paired {α : Type} {F : V → α → Prop} {vs : List V} {xs : List α} (h : Paired F vs xs) {i : Int} {a : α} (e : atI xs i = some a) : ∃ v, atI vs i = some v ∧ F v a := by
  unfold atI at e ⊢
  rw [paired_len h]
  cases q : ixN xs.length i with
  | none => rw [q] at e; cases e
  | some j =>
    rw [q] at e
    obtain ⟨v, h1, h2⟩ := paired_get h e
    exact ⟨v, h1, h2⟩
theorem o2_ix {α : Type} [Rep α] : Op2P X (rIxL X.K) (fun (xs : List α) (i : Int) => ixR xs i) := fun G H x y b c Q d e hG r1 r2 k => by
  cases r2
  obtain ⟨p, vs, rfl, h2, h3⟩ := r1
  have e : ixR b c = .ok d := e
  obtain ⟨v, h4, h5⟩ := atI_paired h3 (ixR_ok e)
  exact ⟨p, vs, c, v, rfl, rfl, lsq hG h2, h4, k G H v (Ext.refl hG) h5⟩
/-- the items of tuples -/
def Tup (α β : Type) [Rep α] [Rep β] (n : Int) (f : α → β) : Prop := ∀ {K : PySem.W.Frag} {G : Hp} {v : V} {q : α}, rep K G v q → ∃ p xs x, v = .ref p ∧ SqT K G p xs ∧ atI xs n = some x ∧ rep K G x (f q)
theorem tup0 : Tup (β × γ) β 0 (·.1) := fun h => by obtain ⟨p, x, y, h1, h2, h3, h4⟩ := h; exact ⟨p, _, x, h1, h2, rfl, h3⟩
theorem tup1 : Tup (β × γ) γ 1 (·.2) := fun h => by obtain ⟨p, x, y, h1, h2, h3, h4⟩ := h; exact ⟨p, _, y, h1, h2, rfl, h4⟩
theorem tup30 : Tup (T3 β γ δ) β 0 (·.a) := fun h => by obtain ⟨p, x, y, z, h1, h2, h3, h4, h5⟩ := h; exact ⟨p, _, x, h1, h2, rfl, h3⟩
theorem tup31 : Tup (T3 β γ δ) γ 1 (·.b) := fun h => by obtain ⟨p, x, y, z, h1, h2, h3, h4, h5⟩ := h; exact ⟨p, _, y, h1, h2, rfl, h4⟩
theorem tup32 : Tup (T3 β γ δ) δ 2 (·.c) := fun h => by obtain ⟨p, x, y, z, h1, h2, h3, h4, h5⟩ := h; exact ⟨p, _, z, h1, h2, rfl, h5⟩
theorem tup40 : Tup (T4 β γ δ ζ) β 0 (·.a) := fun h => by obtain ⟨p, x, y, z, u, h1, h2, h3, h4, h5, h6⟩ := h; exact ⟨p, _, x, h1, h2, rfl, h3⟩
theorem tup41 : Tup (T4 β γ δ ζ) γ 1 (·.b) := fun h => by obtain ⟨p, x, y, z, u, h1, h2, h3, h4, h5, h6⟩ := h; exact ⟨p, _, y, h1, h2, rfl, h4⟩
theorem tup42 : Tup (T4 β γ δ ζ) δ 2 (·.c) := fun h => by obtain ⟨p, x, y, z, u, h1, h2, h3, h4, h5, h6⟩ := h; exact ⟨p, _, z, h1, h2, rfl, h5⟩
theorem tup43 : Tup (T4 β γ δ ζ) ζ 3 (·.d) := fun h => by obtain ⟨p, x, y, z, u, h1, h2, h3, h4, h5, h6⟩ := h; exact ⟨p, _, u, h1, h2, rfl, h6⟩
theorem o1_tup {α β : Type} [Rep α] [Rep β] {n : Int} {f : α → β} (t : Tup α β n f) : Op1 X (fun x H Q => rIxT X.K x (.int n) H Q) f := fun G H x b Q hG r k => by
  obtain ⟨p, xs, v, rfl, h2, h3, h4⟩ := t r
  exact ⟨p, xs, n, v, rfl, rfl, same_seqT hG h2, h3, k G H v (Ext.refl hG) h4⟩
theorem UnRd.tup {n : Int} {j p2} (hs : PlainIx (.Constant (.int n) j p2) := by intro _ _; rfl) : UnRd X (.Subscript a (.Constant (.int n) j p2) pos) a (fun x H Q => rIxT X.K x (.int n) H Q) := fun σ H Q h =>
  EV.of (pe_ix ix_tup (ev X a) pe_int hs) h
/-! ### built-in functions -/
theorem unB {x : Str} {px : Pos} {id : String} {r : List V → Hp → VK → Prop} (hc : CallR X (.builtin id) r) (hm : X.mg x = none) (hg : Gl X x) (hv : bootBuiltins x = some (.builtin id)) (hn : x ≠ "__name__" := by decide) (hdb : (x == ("__debug__" : Str)) = false := by decide)
    (he : starEach [a] X.env = [(false, eval a X.env)] := by rfl) : UnRd X (.Call (.Name x px) [a] [] pos) a (fun x H Q => r [x] H Q) := fun σ H Q h =>
  EV.of (pe_callB hc hg hm hv (pa_cons (ev X a) pa_nil he) hn hdb he) h
theorem unT {x : Str} {px : Pos} {id : String} {r : List V → Hp → VK → Prop} (hc : CallR X (.type id) r) (hm : X.mg x = none) (hg : Gl X x) (hv : bootBuiltins x = some (.type id)) (hn : x ≠ "__name__" := by decide) (hdb : (x == ("__debug__" : Str)) = false := by decide)
    (he : starEach [a] X.env = [(false, eval a X.env)] := by rfl) : UnRd X (.Call (.Name x px) [a] [] pos) a (fun x H Q => r [x] H Q) := fun σ H Q h =>
  EV.of (pe_callTy hc hg hm hv (pa_cons (ev X a) pa_nil he) hn hdb he) h
theorem binB {x : Str} {px : Pos} {id : String} {r : List V → Hp → VK → Prop} (hc : CallR X (.builtin id) r) (hm : X.mg x = none) (hg : Gl X x) (hv : bootBuiltins x = some (.builtin id)) (hn : x ≠ "__name__" := by decide) (hdb : (x == ("__debug__" : Str)) = false := by decide)
    (he : starEach [a, b] X.env = (false, eval a X.env) :: starEach [b] X.env := by rfl) (he2 : starEach [b] X.env = [(false, eval b X.env)] := by rfl) (hpl : (backTo pos (starEach [b] X.env)).any (·.1) = false := by rfl) : BinR X (.Call (.Name x px) [a, b] [] pos) a b (fun x y H Q => r [x, y] H Q) := fun σ H Q h =>
  EV.of (pe_callB hc hg hm hv (pa_cons (ev X a) (pa_cons (ev X b) pa_nil he2) he) hn hdb he hpl) h
/-- a module's name for a built-in function -/
theorem binF {x : Str} {px : Pos} {id : String} {r : List V → Hp → VK → Prop} (hc : CallR X (.builtin id) r) (hm : X.mg x = some (.builtin id)) (hg : Gl X x) (hdb : (x == ("__debug__" : Str)) = false := by decide)
    (he : starEach [a, b] X.env = (false, eval a X.env) :: starEach [b] X.env := by rfl) (he2 : starEach [b] X.env = [(false, eval b X.env)] := by rfl) (hpl : (backTo pos (starEach [b] X.env)).any (·.1) = false := by rfl) : BinR X (.Call (.Name x px) [a, b] [] pos) a b (fun x y H Q => r [x, y] H Q) := fun σ H Q h =>
  EV.of (pe_callBfun hc hg hm (pa_cons (ev X a) (pa_cons (ev X b) pa_nil he2) he) hdb he hpl) h
theorem o1_len {α : Type} [Rep α] : Op1 X (fun x H Q => (fun xs H Q => ∃ p ys, xs = [.ref p] ∧ (SqL X.K H p ys ∨ SqT X.K H p ys) ∧ Q (.int ys.length) H) [x] H Q) (fun xs : List α => (xs.length : Int)) := fun G H x b Q hG r k => by
  obtain ⟨p, vs, rfl, h2, h3⟩ := r
  exact ⟨p, vs, rfl, .inl (lsq hG h2), k G H _ (Ext.refl hG) (show V.int _ = V.int _ by rw [paired_len h3])⟩
theorem o1_lenS : Op1P X (fun x H Q => (fun xs H Q => ∃ z, xs = [.str z] ∧ z.length ≤ sizeLine ∧ Q (.int z.length) H) [x] H Q) (fun z : Str => iff (z.length ≤ sizeLine) (z.length : Int)) := fun G H x b Q d e hG r k => by
  obtain ⟨h, rfl⟩ := iff_ok e
  cases r
  exact ⟨b, rfl, h, k G H _ (Ext.refl hG) rfl⟩
theorem o1_abs : Op1 X (fun x H Q => (fun xs H Q => ∃ i, xs = [V.int i] ∧ Q (.int (if i < 0 then -i else i)) H) [x] H Q) (fun i : Int => if i < 0 then -i else i) := fun G H x b Q hG r k => by
  cases r
  exact ⟨b, rfl, k G H _ (Ext.refl hG) rfl⟩
theorem o1_intI : Op1 X (fun x H Q => (fun xs H Q => (∃ i, xs = [V.int i] ∧ Q (.int i) H) ∨ ∃ k, xs = [.bl k] ∧ Q (.int (if k then 1 else 0)) H) [x] H Q) (fun i : Int => i) := fun G H x b Q hG r k => by
  cases r
  exact .inl ⟨b, rfl, k G H _ (Ext.refl hG) rfl⟩
theorem o1_intB : Op1 X (fun x H Q => (fun xs H Q => (∃ i, xs = [V.int i] ∧ Q (.int i) H) ∨ ∃ k, xs = [.bl k] ∧ Q (.int (if k then 1 else 0)) H) [x] H Q) (fun b : Bool => if b then (1 : Int) else 0) := fun G H x b Q hG r k => by
  cases r
  exact .inr ⟨b, rfl, k G H _ (Ext.refl hG) rfl⟩
def max2 (i j : Int) : Int := if j > i then j else i
def min2 (i j : Int) : Int := if j < i then j else i
theorem o2_max : Op2 X (fun x y H Q => (fun xs H Q => ∃ i j, xs = [V.int i, .int j] ∧ Q (.int (if j > i then j else i)) H) [x, y] H Q) max2 := fun G H x y b c Q hG r1 r2 k => by
  cases r1; cases r2
  exact ⟨b, c, rfl, k G H _ (Ext.refl hG) rfl⟩
theorem o2_min : Op2 X (fun x y H Q => (fun xs H Q => ∃ i j, xs = [V.int i, .int j] ∧ Q (.int (if j < i then j else i)) H) [x, y] H Q) min2 := fun G H x y b c Q hG r1 r2 k => by
  cases r1; cases r2
  exact ⟨b, c, rfl, k G H _ (Ext.refl hG) rfl⟩
def gcdI (a b : Int) : Int := ((Nat.gcd a.natAbs b.natAbs : Nat) : Int)
theorem o2_gcd : Op2 X (fun x y H Q => rGcd [x, y] H Q) gcdI := fun G H x y b c Q hG r1 r2 k => by
  cases r1; cases r2
  exact ⟨b, c, rfl, k G H _ (Ext.refl hG) rfl⟩
theorem vals_ints {K : PySem.W.Frag} {G : Hp} : ∀ {vs : List V} {ns : List Int}, Paired (rep K G) vs ns → vs = ns.map V.int
  | _, _, .nil => rfl
  | _, _, .cons r t => by rw [r, vals_ints t]; rfl
theorem vals_bools {K : PySem.W.Frag} {G : Hp} : ∀ {vs : List V} {ns : List Bool}, Paired (rep K G) vs ns → vs = ns.map V.bl
  | _, _, .nil => rfl
  | _, _, .cons r t => by rw [r, vals_bools t]; rfl
theorem vals_strs {K : PySem.W.Frag} {G : Hp} : ∀ {vs : List V} {ns : List Str}, Paired (rep K G) vs ns → vs = ns.map V.str
  | _, _, .nil => rfl
  | _, _, .cons r t => by rw [r, vals_strs t]; rfl
theorem ints_vals {K : PySem.W.Frag} {G : Hp} : ∀ {ns : List Int}, Paired (rep K G) (ns.map V.int) ns
  | [] => .nil
  | _ :: _ => .cons rfl ints_vals
theorem strs_vals {K : PySem.W.Frag} {G : Hp} : ∀ {ns : List Str}, Paired (rep K G) (ns.map V.str) ns
  | [] => .nil
  | _ :: _ => .cons rfl strs_vals
theorem o1_sum : Op1 X (fun x H Q => rSum X.K [x] H Q) (fun ns : List Int => ns.sum) := fun G H x b Q hG r k => by
  obtain ⟨p, vs, rfl, h2, h3⟩ := r
  rw [vals_ints h3] at h2
  exact ⟨p, b, rfl, lsq hG h2, k G H _ (Ext.refl hG) rfl⟩
theorem o1_any : Op1 X (fun x H Q => rAny X.K [x] H Q) (fun bs : List Bool => bs.any id) := fun G H x b Q hG r k => by
  obtain ⟨p, vs, rfl, h2, h3⟩ := r
  rw [vals_bools h3] at h2
  exact ⟨p, b, rfl, lsq hG h2, k G H _ (Ext.refl hG) rfl⟩
theorem o1_all : Op1 X (fun x H Q => rAll X.K [x] H Q) (fun bs : List Bool => bs.all id) := fun G H x b Q hG r k => by
  obtain ⟨p, vs, rfl, h2, h3⟩ := r
  rw [vals_bools h3] at h2
  exact ⟨p, b, rfl, lsq hG h2, k G H _ (Ext.refl hG) rfl⟩
/-- the greatest, the least of a list -/
def maxR : List Int → Res Int
  | [] => .bad
  | x :: r => .ok (r.foldl max2 x)
def minR : List Int → Res Int
  | [] => .bad
  | x :: r => .ok (r.foldl min2 x)
theorem foldl_max (r : List Int) : ∀ x : Int, (r.foldl max2 x = x ∨ r.foldl max2 x ∈ r) ∧ x ≤ r.foldl max2 x ∧ ∀ y ∈ r, y ≤ r.foldl max2 x := by
  induction r with
  | nil => intro x; simp
  | cons z r ih =>
    intro x
    obtain ⟨h1, h2, h3⟩ := ih (max2 x z)
    simp only [List.foldl_cons, List.mem_cons]
    have hm : max2 x z = x ∨ max2 x z = z := by unfold max2; split <;> simp
    have hx : x ≤ max2 x z := by unfold max2; split <;> omega
    have hz : z ≤ max2 x z := by unfold max2; split <;> omega
    refine ⟨?_, by omega, fun y hy => ?_⟩
    · rcases h1 with h | h
      · rw [h]; rcases hm with e | e <;> simp [e]
      · exact .inr (.inr h)
    · rcases hy with rfl | hy
      · omega
      · exact h3 y hy
theorem foldl_min (r : List Int) : ∀ x : Int, (r.foldl min2 x = x ∨ r.foldl min2 x ∈ r) ∧ r.foldl min2 x ≤ x ∧ ∀ y ∈ r, r.foldl min2 x ≤ y := by
  induction r with
  | nil => intro x; simp
  | cons z r ih =>
    intro x
    obtain ⟨h1, h2, h3⟩ := ih (min2 x z)
    simp only [List.foldl_cons, List.mem_cons]
    have hm : min2 x z = x ∨ min2 x z = z := by unfold min2; split <;> simp
    have hx : min2 x z ≤ x := by unfold min2; split <;> omega
    have hz : min2 x z ≤ z := by unfold min2; split <;> omega
    refine ⟨?_, by omega, fun y hy => ?_⟩
    · rcases h1 with h | h
      · rw [h]; rcases hm with e | e <;> simp [e]
      · exact .inr (.inr h)
    · rcases hy with rfl | hy
      · omega
      · exact h3 y hy
theorem maxR_ok {ns : List Int} {d : Int} (h : maxR ns = .ok d) : d ∈ ns ∧ ∀ y ∈ ns, y ≤ d := by
  cases ns with
  | nil => cases h
  | cons x r =>
    cases h
    obtain ⟨h1, h2, h3⟩ := foldl_max r x
    refine ⟨by simpa using h1, fun y hy => ?_⟩
    rcases List.mem_cons.mp hy with rfl | hy
    · exact h2
    · exact h3 y hy
theorem minR_ok {ns : List Int} {d : Int} (h : minR ns = .ok d) : d ∈ ns ∧ ∀ y ∈ ns, d ≤ y := by
  cases ns with
  | nil => cases h
  | cons x r =>
    cases h
    obtain ⟨h1, h2, h3⟩ := foldl_min r x
    refine ⟨by simpa using h1, fun y hy => ?_⟩
    rcases List.mem_cons.mp hy with rfl | hy
    · exact h2
    · exact h3 y hy
theorem maxR_ne {ns : List Int} {e : Str} {w : V} : maxR ns ≠ .err e w := by cases ns <;> intro h <;> cases h
theorem minR_ne {ns : List Int} {e : Str} {w : V} : minR ns ≠ .err e w := by cases ns <;> intro h <;> cases h
theorem pos_of_max {ns : List Int} {d : Int} (h : maxR ns = .ok d) : 0 < ns.length := by cases ns with | nil => cases h | cons _ _ => simp
theorem pos_of_min {ns : List Int} {d : Int} (h : minR ns = .ok d) : 0 < ns.length := by cases ns with | nil => cases h | cons _ _ => simp
theorem o1_max : Op1P X (fun x H Q => rMax X.K [x] H Q) maxR := fun G H x b Q d e hG r k => by
  obtain ⟨p, vs, rfl, h2, h3⟩ := r
  rw [vals_ints h3] at h2
  obtain ⟨m1, m2⟩ := maxR_ok e
  refine ⟨p, b, rfl, lsq hG h2, pos_of_max e, fun m hm hle => ?_⟩
  have : m = d := Int.le_antisymm (m2 m hm) (hle d m1)
  subst this
  exact k G H _ (Ext.refl hG) rfl
theorem o1_min : Op1P X (fun x H Q => rMin X.K [x] H Q) minR := fun G H x b Q d e hG r k => by
  obtain ⟨p, vs, rfl, h2, h3⟩ := r
  rw [vals_ints h3] at h2
  obtain ⟨m1, m2⟩ := minR_ok e
  refine ⟨p, b, rfl, lsq hG h2, pos_of_min e, fun m hm hle => ?_⟩
  have : m = d := Int.le_antisymm (hle d m1) (m2 m hm)
  subst this
  exact k G H _ (Ext.refl hG) rfl
/-- sorted, of ints -/
def sortI (ns : List Int) : List Int := ns.mergeSort fun a b => decide (a ≤ b)
theorem sorted_one {xs ys : List Int} (h : xs.Perm ys) (h1 : xs.Pairwise (· ≤ ·)) (h2 : ys.Pairwise (· ≤ ·)) : xs = ys := by
  exact h.eq_of_pairwise (fun a b _ _ h1 h2 => Int.le_antisymm h1 h2) h1 h2
theorem sortI_perm (ns : List Int) : (sortI ns).Perm ns := List.mergeSort_perm _ _
theorem sortI_sorted (ns : List Int) : (sortI ns).Pairwise (· ≤ ·) := by
  have h := List.pairwise_mergeSort (le := fun a b : Int => decide (a ≤ b)) (fun a b c h1 h2 => by simp only [decide_eq_true_eq] at *; omega) (fun a b => by simp only [Bool.or_eq_true, decide_eq_true_eq]; omega) ns
  exact h.imp fun q => by simpa using q
theorem o1_sorted : Op1 X (fun x H Q => rSortedI X.K [x] H Q) sortI := fun G H x b Q hG r k => by
  obtain ⟨p, vs, rfl, h2, h3⟩ := r
  rw [vals_ints h3] at h2
  refine ⟨p, b, rfl, lsq hG h2, fun ns' q hp hs hq => ?_⟩
  have e : ns' = sortI b := sorted_one (hp.trans (sortI_perm b).symm) hs (sortI_sorted b)
  subst e
  exact k _ _ _ (Ext.new hG _ hq) ⟨q, _, rfl, upd_same, ints_vals⟩
/-- list(xs) -/
theorem o1_list {α : Type} [Rep α] : Op1 X (fun x H Q => (fun xs H Q => ∃ p ys, xs = [.ref p] ∧ (SqL X.K H p ys ∨ SqT X.K H p ys) ∧ ∀ l, H l = none → Q (.ref l) (upd H l (.lst ys))) [x] H Q) (fun xs : List α => xs) := fun G H x b Q hG r k => by
  obtain ⟨p, vs, rfl, h2, h3⟩ := r
  refine ⟨p, vs, rfl, .inl (lsq hG h2), fun l hl => ?_⟩
  have e := Ext.new hG (.lst vs) hl
  exact k _ _ _ e ⟨l, vs, rfl, upd_same, paired_imp (fun _ _ q => Rep.mono e.gg q) h3⟩
/-- xs + ys -/
def catR {α : Type} (xs ys : List α) : Res (List α) := iff (xs.length + ys.length ≤ 1000000) (xs ++ ys)
theorem line_big : 1000000 ≤ sizeLine := by decide
end
end Mr
namespace Mr
open PySem PySem.Spec PyProof.Rows L2
open Rep (rep)
section
variable {X : Cx}
theorem o1_neg : Op1 X (fun x H Q => rU (fun i => .int (-i)) x H Q) (fun i : Int => -i) := fun G H x b Q hG r k => by
  cases r
  exact ⟨b, rfl, k G H _ (Ext.refl hG) rfl⟩
theorem o1_not : Op1 X (fun x H Q => ∃ c, x = .bl c ∧ Q (.bl (!c)) H) (fun b : Bool => !b) := fun G H x b Q hG r k => by
  cases r
  exact ⟨b, rfl, k G H _ (Ext.refl hG) rfl⟩
end
end Mr

/-! Mr4: the operators at the three levels; tests; arguments, displays, calls. Printed by gen_ops.py. -/
namespace Mr
open PySem PySem.Spec PyProof.Rows L2
open Rep (rep)
open ToD (toD)
open CRep (crep)
universe u v
section
variable {X : Cx} {Γ : List Slot} {pos : Pos} {a b c : Expr} {μ : Type} [CRep μ] {p : Addr} {m : μ}
variable {β γ δ : Type} [Rep β] [Rep γ] [Rep δ]

theorem A_add {x : Int} {y : Int}  (h1 : AE X Γ a x) (h2 : AE X Γ b y) : AE X Γ (.BinOp a .Add b pos) (x + y) := AE.bin (BinR.op op_add) o2I h1 h2
theorem R_add {x : Res Int} {y : Res Int}  (h1 : RE X Γ a x) (h2 : RE X Γ b y) : RE X Γ (.BinOp a .Add b pos) (x.bind fun x => y.bind fun y => .ok (x + y)) := RE.bin (BinR.op op_add) o2I h1 h2
theorem S_add {x : Res (Int × μ)} {y : Int × μ → Res (Int × μ)}  (h1 : SE X Γ p m a x) (h2 : ∀ q : Int × μ, SE X Γ p q.2 b (y q)) : SE X Γ p m (.BinOp a .Add b pos) (x.bind fun q => (y q).bind fun q' => .ok (q.1 + q'.1, q'.2)) := SE.bin (BinR.op op_add) (Op2.par o2I) h1 h2
theorem A_sub {x : Int} {y : Int}  (h1 : AE X Γ a x) (h2 : AE X Γ b y) : AE X Γ (.BinOp a .Sub b pos) (x - y) := AE.bin (BinR.op op_sub) o2I h1 h2
theorem R_sub {x : Res Int} {y : Res Int}  (h1 : RE X Γ a x) (h2 : RE X Γ b y) : RE X Γ (.BinOp a .Sub b pos) (x.bind fun x => y.bind fun y => .ok (x - y)) := RE.bin (BinR.op op_sub) o2I h1 h2
theorem S_sub {x : Res (Int × μ)} {y : Int × μ → Res (Int × μ)}  (h1 : SE X Γ p m a x) (h2 : ∀ q : Int × μ, SE X Γ p q.2 b (y q)) : SE X Γ p m (.BinOp a .Sub b pos) (x.bind fun q => (y q).bind fun q' => .ok (q.1 - q'.1, q'.2)) := SE.bin (BinR.op op_sub) (Op2.par o2I) h1 h2
theorem A_band {x : Int} {y : Int}  (h1 : AE X Γ a x) (h2 : AE X Γ b y) : AE X Γ (.BinOp a .BitAnd b pos) (Builtin.bitAnd x y) := AE.bin (BinR.op op_and) o2I h1 h2
theorem R_band {x : Res Int} {y : Res Int}  (h1 : RE X Γ a x) (h2 : RE X Γ b y) : RE X Γ (.BinOp a .BitAnd b pos) (x.bind fun x => y.bind fun y => .ok (Builtin.bitAnd x y)) := RE.bin (BinR.op op_and) o2I h1 h2
theorem S_band {x : Res (Int × μ)} {y : Int × μ → Res (Int × μ)}  (h1 : SE X Γ p m a x) (h2 : ∀ q : Int × μ, SE X Γ p q.2 b (y q)) : SE X Γ p m (.BinOp a .BitAnd b pos) (x.bind fun q => (y q).bind fun q' => .ok (Builtin.bitAnd q.1 q'.1, q'.2)) := SE.bin (BinR.op op_and) (Op2.par o2I) h1 h2
theorem A_bor {x : Int} {y : Int}  (h1 : AE X Γ a x) (h2 : AE X Γ b y) : AE X Γ (.BinOp a .BitOr b pos) (Builtin.bitOr x y) := AE.bin (BinR.op op_or) o2I h1 h2
theorem R_bor {x : Res Int} {y : Res Int}  (h1 : RE X Γ a x) (h2 : RE X Γ b y) : RE X Γ (.BinOp a .BitOr b pos) (x.bind fun x => y.bind fun y => .ok (Builtin.bitOr x y)) := RE.bin (BinR.op op_or) o2I h1 h2
theorem S_bor {x : Res (Int × μ)} {y : Int × μ → Res (Int × μ)}  (h1 : SE X Γ p m a x) (h2 : ∀ q : Int × μ, SE X Γ p q.2 b (y q)) : SE X Γ p m (.BinOp a .BitOr b pos) (x.bind fun q => (y q).bind fun q' => .ok (Builtin.bitOr q.1 q'.1, q'.2)) := SE.bin (BinR.op op_or) (Op2.par o2I) h1 h2
theorem R_mul {x : Res Int} {y : Res Int}  (h1 : RE X Γ a x) (h2 : RE X Γ b y) : RE X Γ (.BinOp a .Mult b pos) (x.bind fun x => y.bind fun y => mulR x y) := RE.binP (BinR.op (OpR.or op_mul op_mulW)) o2_mul (fun _ _ _ _ => mulR_ne) h1 h2
theorem S_mul {x : Res (Int × μ)} {y : Int × μ → Res (Int × μ)}  (h1 : SE X Γ p m a x) (h2 : ∀ q : Int × μ, SE X Γ p q.2 b (y q)) : SE X Γ p m (.BinOp a .Mult b pos) (x.bind fun q => (y q).bind fun q' => (mulR q.1 q'.1).bind fun d => .ok (d, q'.2)) := SE.bin (BinR.op (OpR.or op_mul op_mulW)) o2_mul h1 h2
theorem R_div {x : Res Int} {y : Res Int}  (h1 : RE X Γ a x) (h2 : RE X Γ b y) : RE X Γ (.BinOp a .FloorDiv b pos) (x.bind fun x => y.bind fun y => divR x y) := RE.binP (BinR.op (OpR.or op_fdivW op_fdivN)) o2_div (fun _ _ _ _ => divR_ne) h1 h2
theorem S_div {x : Res (Int × μ)} {y : Int × μ → Res (Int × μ)}  (h1 : SE X Γ p m a x) (h2 : ∀ q : Int × μ, SE X Γ p q.2 b (y q)) : SE X Γ p m (.BinOp a .FloorDiv b pos) (x.bind fun q => (y q).bind fun q' => (divR q.1 q'.1).bind fun d => .ok (d, q'.2)) := SE.bin (BinR.op (OpR.or op_fdivW op_fdivN)) o2_div h1 h2
theorem R_mod {x : Res Int} {y : Res Int}  (h1 : RE X Γ a x) (h2 : RE X Γ b y) : RE X Γ (.BinOp a .Mod b pos) (x.bind fun x => y.bind fun y => modR x y) := RE.binP (BinR.op (OpR.or op_mod op_modN)) o2_mod (fun _ _ _ _ => modR_ne) h1 h2
theorem S_mod {x : Res (Int × μ)} {y : Int × μ → Res (Int × μ)}  (h1 : SE X Γ p m a x) (h2 : ∀ q : Int × μ, SE X Γ p q.2 b (y q)) : SE X Γ p m (.BinOp a .Mod b pos) (x.bind fun q => (y q).bind fun q' => (modR q.1 q'.1).bind fun d => .ok (d, q'.2)) := SE.bin (BinR.op (OpR.or op_mod op_modN)) o2_mod h1 h2
theorem R_pow {x : Res Int} {y : Res Int}  (h1 : RE X Γ a x) (h2 : RE X Γ b y) : RE X Γ (.BinOp a .Pow b pos) (x.bind fun x => y.bind fun y => powR x y) := RE.binP (BinR.op op_pow) o2P (fun _ _ _ _ => iff_ne) h1 h2
theorem S_pow {x : Res (Int × μ)} {y : Int × μ → Res (Int × μ)}  (h1 : SE X Γ p m a x) (h2 : ∀ q : Int × μ, SE X Γ p q.2 b (y q)) : SE X Γ p m (.BinOp a .Pow b pos) (x.bind fun q => (y q).bind fun q' => (powR q.1 q'.1).bind fun d => .ok (d, q'.2)) := SE.bin (BinR.op op_pow) o2P h1 h2
theorem R_shl {x : Res Int} {y : Res Int}  (h1 : RE X Γ a x) (h2 : RE X Γ b y) : RE X Γ (.BinOp a .LShift b pos) (x.bind fun x => y.bind fun y => shlR x y) := RE.binP (BinR.op op_shl) o2P (fun _ _ _ _ => iff_ne) h1 h2
theorem S_shl {x : Res (Int × μ)} {y : Int × μ → Res (Int × μ)}  (h1 : SE X Γ p m a x) (h2 : ∀ q : Int × μ, SE X Γ p q.2 b (y q)) : SE X Γ p m (.BinOp a .LShift b pos) (x.bind fun q => (y q).bind fun q' => (shlR q.1 q'.1).bind fun d => .ok (d, q'.2)) := SE.bin (BinR.op op_shl) o2P h1 h2
theorem R_shr {x : Res Int} {y : Res Int}  (h1 : RE X Γ a x) (h2 : RE X Γ b y) : RE X Γ (.BinOp a .RShift b pos) (x.bind fun x => y.bind fun y => shrR x y) := RE.binP (BinR.op op_shr) o2P (fun _ _ _ _ => iff_ne) h1 h2
theorem S_shr {x : Res (Int × μ)} {y : Int × μ → Res (Int × μ)}  (h1 : SE X Γ p m a x) (h2 : ∀ q : Int × μ, SE X Γ p q.2 b (y q)) : SE X Γ p m (.BinOp a .RShift b pos) (x.bind fun q => (y q).bind fun q' => (shrR q.1 q'.1).bind fun d => .ok (d, q'.2)) := SE.bin (BinR.op op_shr) o2P h1 h2
theorem A_lt {x : Int} {y : Int}  (h1 : AE X Γ a x) (h2 : AE X Γ b y) : AE X Γ (.Compare a [.Lt] [b] pos) (decide (x < y)) := AE.bin (BinR.cmp op_lt (nomark _)) o2B h1 h2
theorem R_lt {x : Res Int} {y : Res Int}  (h1 : RE X Γ a x) (h2 : RE X Γ b y) : RE X Γ (.Compare a [.Lt] [b] pos) (x.bind fun x => y.bind fun y => .ok (decide (x < y))) := RE.bin (BinR.cmp op_lt (nomark _)) o2B h1 h2
theorem S_lt {x : Res (Int × μ)} {y : Int × μ → Res (Int × μ)}  (h1 : SE X Γ p m a x) (h2 : ∀ q : Int × μ, SE X Γ p q.2 b (y q)) : SE X Γ p m (.Compare a [.Lt] [b] pos) (x.bind fun q => (y q).bind fun q' => .ok (decide (q.1 < q'.1), q'.2)) := SE.bin (BinR.cmp op_lt (nomark _)) (Op2.par o2B) h1 h2
theorem A_le {x : Int} {y : Int}  (h1 : AE X Γ a x) (h2 : AE X Γ b y) : AE X Γ (.Compare a [.LtE] [b] pos) (decide (x ≤ y)) := AE.bin (BinR.cmp op_le (nomark _)) o2B h1 h2
theorem R_le {x : Res Int} {y : Res Int}  (h1 : RE X Γ a x) (h2 : RE X Γ b y) : RE X Γ (.Compare a [.LtE] [b] pos) (x.bind fun x => y.bind fun y => .ok (decide (x ≤ y))) := RE.bin (BinR.cmp op_le (nomark _)) o2B h1 h2
theorem S_le {x : Res (Int × μ)} {y : Int × μ → Res (Int × μ)}  (h1 : SE X Γ p m a x) (h2 : ∀ q : Int × μ, SE X Γ p q.2 b (y q)) : SE X Γ p m (.Compare a [.LtE] [b] pos) (x.bind fun q => (y q).bind fun q' => .ok (decide (q.1 ≤ q'.1), q'.2)) := SE.bin (BinR.cmp op_le (nomark _)) (Op2.par o2B) h1 h2
theorem A_gt {x : Int} {y : Int}  (h1 : AE X Γ a x) (h2 : AE X Γ b y) : AE X Γ (.Compare a [.Gt] [b] pos) (decide (y < x)) := AE.bin (BinR.cmp op_gt (nomark _)) o2B h1 h2
theorem R_gt {x : Res Int} {y : Res Int}  (h1 : RE X Γ a x) (h2 : RE X Γ b y) : RE X Γ (.Compare a [.Gt] [b] pos) (x.bind fun x => y.bind fun y => .ok (decide (y < x))) := RE.bin (BinR.cmp op_gt (nomark _)) o2B h1 h2
theorem S_gt {x : Res (Int × μ)} {y : Int × μ → Res (Int × μ)}  (h1 : SE X Γ p m a x) (h2 : ∀ q : Int × μ, SE X Γ p q.2 b (y q)) : SE X Γ p m (.Compare a [.Gt] [b] pos) (x.bind fun q => (y q).bind fun q' => .ok (decide (q'.1 < q.1), q'.2)) := SE.bin (BinR.cmp op_gt (nomark _)) (Op2.par o2B) h1 h2
theorem A_ge {x : Int} {y : Int}  (h1 : AE X Γ a x) (h2 : AE X Γ b y) : AE X Γ (.Compare a [.GtE] [b] pos) (decide (y ≤ x)) := AE.bin (BinR.cmp op_ge (nomark _)) o2B h1 h2
theorem R_ge {x : Res Int} {y : Res Int}  (h1 : RE X Γ a x) (h2 : RE X Γ b y) : RE X Γ (.Compare a [.GtE] [b] pos) (x.bind fun x => y.bind fun y => .ok (decide (y ≤ x))) := RE.bin (BinR.cmp op_ge (nomark _)) o2B h1 h2
theorem S_ge {x : Res (Int × μ)} {y : Int × μ → Res (Int × μ)}  (h1 : SE X Γ p m a x) (h2 : ∀ q : Int × μ, SE X Γ p q.2 b (y q)) : SE X Γ p m (.Compare a [.GtE] [b] pos) (x.bind fun q => (y q).bind fun q' => .ok (decide (q'.1 ≤ q.1), q'.2)) := SE.bin (BinR.cmp op_ge (nomark _)) (Op2.par o2B) h1 h2
theorem A_eq [Scal β] [DecidableEq β] {x : β} {y : β}  (h1 : AE X Γ a x) (h2 : AE X Γ b y) : AE X Γ (.Compare a [.Eq] [b] pos) (decide (x = y)) := AE.bin (BinR.cmp op_eq (nomark _)) o2_eq h1 h2
theorem R_eq [Scal β] [DecidableEq β] {x : Res β} {y : Res β}  (h1 : RE X Γ a x) (h2 : RE X Γ b y) : RE X Γ (.Compare a [.Eq] [b] pos) (x.bind fun x => y.bind fun y => .ok (decide (x = y))) := RE.bin (BinR.cmp op_eq (nomark _)) o2_eq h1 h2
theorem S_eq [Scal β] [DecidableEq β] {x : Res (β × μ)} {y : β × μ → Res (β × μ)}  (h1 : SE X Γ p m a x) (h2 : ∀ q : β × μ, SE X Γ p q.2 b (y q)) : SE X Γ p m (.Compare a [.Eq] [b] pos) (x.bind fun q => (y q).bind fun q' => .ok (decide (q.1 = q'.1), q'.2)) := SE.bin (BinR.cmp op_eq (nomark _)) (Op2.par o2_eq) h1 h2
theorem A_ne [Scal β] [DecidableEq β] {x : β} {y : β}  (h1 : AE X Γ a x) (h2 : AE X Γ b y) : AE X Γ (.Compare a [.NotEq] [b] pos) (!decide (x = y)) := AE.bin (BinR.cmp op_ne (nomark _)) o2_ne h1 h2
theorem R_ne [Scal β] [DecidableEq β] {x : Res β} {y : Res β}  (h1 : RE X Γ a x) (h2 : RE X Γ b y) : RE X Γ (.Compare a [.NotEq] [b] pos) (x.bind fun x => y.bind fun y => .ok (!decide (x = y))) := RE.bin (BinR.cmp op_ne (nomark _)) o2_ne h1 h2
theorem S_ne [Scal β] [DecidableEq β] {x : Res (β × μ)} {y : β × μ → Res (β × μ)}  (h1 : SE X Γ p m a x) (h2 : ∀ q : β × μ, SE X Γ p q.2 b (y q)) : SE X Γ p m (.Compare a [.NotEq] [b] pos) (x.bind fun q => (y q).bind fun q' => .ok (!decide (q.1 = q'.1), q'.2)) := SE.bin (BinR.cmp op_ne (nomark _)) (Op2.par o2_ne) h1 h2
theorem R_eqD {x : Res PyData} {y : Res PyData} (hu : X.A.units + 64 < cLine) (h1 : RE X Γ a x) (h2 : RE X Γ b y) : RE X Γ (.Compare a [.Eq] [b] pos) (x.bind fun x => y.bind fun y => eqR x y) := RE.binP (BinR.cmp (op_eqD hu) (nomark _)) o2_eqD (fun _ _ _ _ => iff_ne) h1 h2
theorem S_eqD {x : Res (PyData × μ)} {y : PyData × μ → Res (PyData × μ)} (hu : X.A.units + 64 < cLine) (h1 : SE X Γ p m a x) (h2 : ∀ q : PyData × μ, SE X Γ p q.2 b (y q)) : SE X Γ p m (.Compare a [.Eq] [b] pos) (x.bind fun q => (y q).bind fun q' => (eqR q.1 q'.1).bind fun d => .ok (d, q'.2)) := SE.bin (BinR.cmp (op_eqD hu) (nomark _)) o2_eqD h1 h2
theorem R_neD {x : Res PyData} {y : Res PyData} (hu : X.A.units + 64 < cLine) (h1 : RE X Γ a x) (h2 : RE X Γ b y) : RE X Γ (.Compare a [.NotEq] [b] pos) (x.bind fun x => y.bind fun y => neR x y) := RE.binP (BinR.cmp (op_neD hu) (nomark _)) o2_neD (fun _ _ _ _ => iff_ne) h1 h2
theorem S_neD {x : Res (PyData × μ)} {y : PyData × μ → Res (PyData × μ)} (hu : X.A.units + 64 < cLine) (h1 : SE X Γ p m a x) (h2 : ∀ q : PyData × μ, SE X Γ p q.2 b (y q)) : SE X Γ p m (.Compare a [.NotEq] [b] pos) (x.bind fun q => (y q).bind fun q' => (neR q.1 q'.1).bind fun d => .ok (d, q'.2)) := SE.bin (BinR.cmp (op_neD hu) (nomark _)) o2_neD h1 h2
theorem R_ix {x : Res (List β)} {y : Res Int} (hs : PlainIx b) (h1 : RE X Γ a x) (h2 : RE X Γ b y) : RE X Γ (.Subscript a b pos) (x.bind fun x => y.bind fun y => ixR x y) := RE.binP (BinR.ix ix_list hs) o2_ix (fun _ _ _ _ => ixR_ne) h1 h2
theorem S_ix {x : Res ((List β) × μ)} {y : (List β) × μ → Res (Int × μ)} (hs : PlainIx b) (h1 : SE X Γ p m a x) (h2 : ∀ q : (List β) × μ, SE X Γ p q.2 b (y q)) : SE X Γ p m (.Subscript a b pos) (x.bind fun q => (y q).bind fun q' => (ixR q.1 q'.1).bind fun d => .ok (d, q'.2)) := SE.bin (BinR.ix ix_list hs) o2_ix h1 h2
theorem A_neg {x : Int}  (h1 : AE X Γ a x) : AE X Γ (.UnaryOp .USub a pos) (-x) := AE.un (fun σ H Q h => EV.of (pe_un un_neg (ev X a)) h) o1_neg h1
theorem R_neg {x : Res Int}  (h1 : RE X Γ a x) : RE X Γ (.UnaryOp .USub a pos) (x.bind fun x => .ok (-x)) := RE.unP (fun σ H Q h => EV.of (pe_un un_neg (ev X a)) h) (Op1.par o1_neg) (fun _ _ _ z => by cases z) h1
theorem S_neg {x : Res (Int × μ)}  (h1 : SE X Γ p m a x) : SE X Γ p m (.UnaryOp .USub a pos) (x.bind fun q => .ok (-q.1, q.2)) := SE.unP (fun σ H Q h => EV.of (pe_un un_neg (ev X a)) h) (Op1.par o1_neg) h1
theorem A_not {x : Bool}  (h1 : AE X Γ a x) : AE X Γ (.UnaryOp .Not a pos) (!x) := AE.un (fun σ H Q h => EV.of (pe_not (ev X a)) h) o1_not h1
theorem R_not {x : Res Bool}  (h1 : RE X Γ a x) : RE X Γ (.UnaryOp .Not a pos) (x.bind fun x => .ok (!x)) := RE.unP (fun σ H Q h => EV.of (pe_not (ev X a)) h) (Op1.par o1_not) (fun _ _ _ z => by cases z) h1
theorem S_not {x : Res (Bool × μ)}  (h1 : SE X Γ p m a x) : SE X Γ p m (.UnaryOp .Not a pos) (x.bind fun q => .ok (!q.1, q.2)) := SE.unP (fun σ H Q h => EV.of (pe_not (ev X a)) h) (Op1.par o1_not) h1
theorem A_tup {n : Int} {j} {p2 : Pos} {f : β → γ} {x : β} (t : Tup β γ n f) (hs : PlainIx (.Constant (.int n) j p2)) (h1 : AE X Γ a x) : AE X Γ (.Subscript a (.Constant (.int n) j p2) pos) (f x) := AE.un (UnRd.tup hs) (o1_tup t) h1
theorem R_tup {n : Int} {j} {p2 : Pos} {f : β → γ} {x : Res β} (t : Tup β γ n f) (hs : PlainIx (.Constant (.int n) j p2)) (h1 : RE X Γ a x) : RE X Γ (.Subscript a (.Constant (.int n) j p2) pos) (x.bind fun x => .ok (f x)) := RE.unP (UnRd.tup hs) (Op1.par (o1_tup t)) (fun _ _ _ z => by cases z) h1
theorem S_tup {n : Int} {j} {p2 : Pos} {f : β → γ} {x : Res (β × μ)} (t : Tup β γ n f) (hs : PlainIx (.Constant (.int n) j p2)) (h1 : SE X Γ p m a x) : SE X Γ p m (.Subscript a (.Constant (.int n) j p2) pos) (x.bind fun q => .ok (f q.1, q.2)) := SE.unP (UnRd.tup hs) (Op1.par (o1_tup t)) h1
theorem A_len {px : Pos} {x : (List β)} (hm : X.mg "len" = none) (hg : Gl X "len")  (he : starEach [a] X.env = [(false, eval a X.env)] := by rfl) (h1 : AE X Γ a x) : AE X Γ (.Call (.Name "len" px) [a] [] pos) (((x).length : Int)) := AE.un (unB call_len_seq hm hg (by decide +kernel) (he := he)) o1_len h1
theorem R_len {px : Pos} {x : Res (List β)} (hm : X.mg "len" = none) (hg : Gl X "len")  (he : starEach [a] X.env = [(false, eval a X.env)] := by rfl) (h1 : RE X Γ a x) : RE X Γ (.Call (.Name "len" px) [a] [] pos) (x.bind fun x => .ok (((x).length : Int))) := RE.unP (unB call_len_seq hm hg (by decide +kernel) (he := he)) (Op1.par o1_len) (fun _ _ _ z => by cases z) h1
theorem S_len {px : Pos} {x : Res ((List β) × μ)} (hm : X.mg "len" = none) (hg : Gl X "len")  (he : starEach [a] X.env = [(false, eval a X.env)] := by rfl) (h1 : SE X Γ p m a x) : SE X Γ p m (.Call (.Name "len" px) [a] [] pos) (x.bind fun q => .ok (((q.1).length : Int), q.2)) := SE.unP (unB call_len_seq hm hg (by decide +kernel) (he := he)) (Op1.par o1_len) h1
theorem R_lenS {px : Pos} {x : Res Str} (hm : X.mg "len" = none) (hg : Gl X "len")  (he : starEach [a] X.env = [(false, eval a X.env)] := by rfl) (h1 : RE X Γ a x) : RE X Γ (.Call (.Name "len" px) [a] [] pos) (x.bind fun x => iff ((x).length ≤ sizeLine) ((x).length : Int)) := RE.unP (unB call_len_str hm hg (by decide +kernel) (he := he)) o1_lenS (fun _ _ _ => iff_ne) h1
theorem S_lenS {px : Pos} {x : Res (Str × μ)} (hm : X.mg "len" = none) (hg : Gl X "len")  (he : starEach [a] X.env = [(false, eval a X.env)] := by rfl) (h1 : SE X Γ p m a x) : SE X Γ p m (.Call (.Name "len" px) [a] [] pos) (x.bind fun q => (iff ((q.1).length ≤ sizeLine) ((q.1).length : Int)).bind fun d => .ok (d, q.2)) := SE.unP (unB call_len_str hm hg (by decide +kernel) (he := he)) o1_lenS h1
theorem A_abs {px : Pos} {x : Int} (hm : X.mg "abs" = none) (hg : Gl X "abs")  (he : starEach [a] X.env = [(false, eval a X.env)] := by rfl) (h1 : AE X Γ a x) : AE X Γ (.Call (.Name "abs" px) [a] [] pos) (if x < 0 then -x else x) := AE.un (unB call_abs hm hg (by decide +kernel) (he := he)) o1_abs h1
theorem R_abs {px : Pos} {x : Res Int} (hm : X.mg "abs" = none) (hg : Gl X "abs")  (he : starEach [a] X.env = [(false, eval a X.env)] := by rfl) (h1 : RE X Γ a x) : RE X Γ (.Call (.Name "abs" px) [a] [] pos) (x.bind fun x => .ok (if x < 0 then -x else x)) := RE.unP (unB call_abs hm hg (by decide +kernel) (he := he)) (Op1.par o1_abs) (fun _ _ _ z => by cases z) h1
theorem S_abs {px : Pos} {x : Res (Int × μ)} (hm : X.mg "abs" = none) (hg : Gl X "abs")  (he : starEach [a] X.env = [(false, eval a X.env)] := by rfl) (h1 : SE X Γ p m a x) : SE X Γ p m (.Call (.Name "abs" px) [a] [] pos) (x.bind fun q => .ok (if q.1 < 0 then -q.1 else q.1, q.2)) := SE.unP (unB call_abs hm hg (by decide +kernel) (he := he)) (Op1.par o1_abs) h1
theorem A_intI {px : Pos} {x : Int} (hm : X.mg "int" = none) (hg : Gl X "int")  (he : starEach [a] X.env = [(false, eval a X.env)] := by rfl) (h1 : AE X Γ a x) : AE X Γ (.Call (.Name "int" px) [a] [] pos) (x) := AE.un (unT call_int1 hm hg (by decide +kernel) (he := he)) o1_intI h1
theorem R_intI {px : Pos} {x : Res Int} (hm : X.mg "int" = none) (hg : Gl X "int")  (he : starEach [a] X.env = [(false, eval a X.env)] := by rfl) (h1 : RE X Γ a x) : RE X Γ (.Call (.Name "int" px) [a] [] pos) (x.bind fun x => .ok (x)) := RE.unP (unT call_int1 hm hg (by decide +kernel) (he := he)) (Op1.par o1_intI) (fun _ _ _ z => by cases z) h1
theorem S_intI {px : Pos} {x : Res (Int × μ)} (hm : X.mg "int" = none) (hg : Gl X "int")  (he : starEach [a] X.env = [(false, eval a X.env)] := by rfl) (h1 : SE X Γ p m a x) : SE X Γ p m (.Call (.Name "int" px) [a] [] pos) (x.bind fun q => .ok (q.1, q.2)) := SE.unP (unT call_int1 hm hg (by decide +kernel) (he := he)) (Op1.par o1_intI) h1
theorem A_intB {px : Pos} {x : Bool} (hm : X.mg "int" = none) (hg : Gl X "int")  (he : starEach [a] X.env = [(false, eval a X.env)] := by rfl) (h1 : AE X Γ a x) : AE X Γ (.Call (.Name "int" px) [a] [] pos) (if x then (1 : Int) else 0) := AE.un (unT call_int1 hm hg (by decide +kernel) (he := he)) o1_intB h1
theorem R_intB {px : Pos} {x : Res Bool} (hm : X.mg "int" = none) (hg : Gl X "int")  (he : starEach [a] X.env = [(false, eval a X.env)] := by rfl) (h1 : RE X Γ a x) : RE X Γ (.Call (.Name "int" px) [a] [] pos) (x.bind fun x => .ok (if x then (1 : Int) else 0)) := RE.unP (unT call_int1 hm hg (by decide +kernel) (he := he)) (Op1.par o1_intB) (fun _ _ _ z => by cases z) h1
theorem S_intB {px : Pos} {x : Res (Bool × μ)} (hm : X.mg "int" = none) (hg : Gl X "int")  (he : starEach [a] X.env = [(false, eval a X.env)] := by rfl) (h1 : SE X Γ p m a x) : SE X Γ p m (.Call (.Name "int" px) [a] [] pos) (x.bind fun q => .ok (if q.1 then (1 : Int) else 0, q.2)) := SE.unP (unT call_int1 hm hg (by decide +kernel) (he := he)) (Op1.par o1_intB) h1
theorem A_sum {px : Pos} {x : (List Int)} (hm : X.mg "sum" = none) (hg : Gl X "sum") (hc : X.calm = true) (he : starEach [a] X.env = [(false, eval a X.env)] := by rfl) (h1 : AE X Γ a x) : AE X Γ (.Call (.Name "sum" px) [a] [] pos) ((x).sum) := AE.un (unB (cr_sum hc) hm hg (by decide +kernel) (he := he)) o1_sum h1
theorem R_sum {px : Pos} {x : Res (List Int)} (hm : X.mg "sum" = none) (hg : Gl X "sum") (hc : X.calm = true) (he : starEach [a] X.env = [(false, eval a X.env)] := by rfl) (h1 : RE X Γ a x) : RE X Γ (.Call (.Name "sum" px) [a] [] pos) (x.bind fun x => .ok ((x).sum)) := RE.unP (unB (cr_sum hc) hm hg (by decide +kernel) (he := he)) (Op1.par o1_sum) (fun _ _ _ z => by cases z) h1
theorem S_sum {px : Pos} {x : Res ((List Int) × μ)} (hm : X.mg "sum" = none) (hg : Gl X "sum") (hc : X.calm = true) (he : starEach [a] X.env = [(false, eval a X.env)] := by rfl) (h1 : SE X Γ p m a x) : SE X Γ p m (.Call (.Name "sum" px) [a] [] pos) (x.bind fun q => .ok ((q.1).sum, q.2)) := SE.unP (unB (cr_sum hc) hm hg (by decide +kernel) (he := he)) (Op1.par o1_sum) h1
theorem A_any {px : Pos} {x : (List Bool)} (hm : X.mg "any" = none) (hg : Gl X "any") (hc : X.calm = true) (he : starEach [a] X.env = [(false, eval a X.env)] := by rfl) (h1 : AE X Γ a x) : AE X Γ (.Call (.Name "any" px) [a] [] pos) ((x).any id) := AE.un (unB (cr_any hc) hm hg (by decide +kernel) (he := he)) o1_any h1
theorem R_any {px : Pos} {x : Res (List Bool)} (hm : X.mg "any" = none) (hg : Gl X "any") (hc : X.calm = true) (he : starEach [a] X.env = [(false, eval a X.env)] := by rfl) (h1 : RE X Γ a x) : RE X Γ (.Call (.Name "any" px) [a] [] pos) (x.bind fun x => .ok ((x).any id)) := RE.unP (unB (cr_any hc) hm hg (by decide +kernel) (he := he)) (Op1.par o1_any) (fun _ _ _ z => by cases z) h1
theorem S_any {px : Pos} {x : Res ((List Bool) × μ)} (hm : X.mg "any" = none) (hg : Gl X "any") (hc : X.calm = true) (he : starEach [a] X.env = [(false, eval a X.env)] := by rfl) (h1 : SE X Γ p m a x) : SE X Γ p m (.Call (.Name "any" px) [a] [] pos) (x.bind fun q => .ok ((q.1).any id, q.2)) := SE.unP (unB (cr_any hc) hm hg (by decide +kernel) (he := he)) (Op1.par o1_any) h1
theorem A_all {px : Pos} {x : (List Bool)} (hm : X.mg "all" = none) (hg : Gl X "all") (hc : X.calm = true) (he : starEach [a] X.env = [(false, eval a X.env)] := by rfl) (h1 : AE X Γ a x) : AE X Γ (.Call (.Name "all" px) [a] [] pos) ((x).all id) := AE.un (unB (cr_all hc) hm hg (by decide +kernel) (he := he)) o1_all h1
theorem R_all {px : Pos} {x : Res (List Bool)} (hm : X.mg "all" = none) (hg : Gl X "all") (hc : X.calm = true) (he : starEach [a] X.env = [(false, eval a X.env)] := by rfl) (h1 : RE X Γ a x) : RE X Γ (.Call (.Name "all" px) [a] [] pos) (x.bind fun x => .ok ((x).all id)) := RE.unP (unB (cr_all hc) hm hg (by decide +kernel) (he := he)) (Op1.par o1_all) (fun _ _ _ z => by cases z) h1
theorem S_all {px : Pos} {x : Res ((List Bool) × μ)} (hm : X.mg "all" = none) (hg : Gl X "all") (hc : X.calm = true) (he : starEach [a] X.env = [(false, eval a X.env)] := by rfl) (h1 : SE X Γ p m a x) : SE X Γ p m (.Call (.Name "all" px) [a] [] pos) (x.bind fun q => .ok ((q.1).all id, q.2)) := SE.unP (unB (cr_all hc) hm hg (by decide +kernel) (he := he)) (Op1.par o1_all) h1
theorem R_max {px : Pos} {x : Res (List Int)} (hm : X.mg "max" = none) (hg : Gl X "max") (hc : X.calm = true) (he : starEach [a] X.env = [(false, eval a X.env)] := by rfl) (h1 : RE X Γ a x) : RE X Γ (.Call (.Name "max" px) [a] [] pos) (x.bind fun x => maxR x) := RE.unP (unB (cr_max hc) hm hg (by decide +kernel) (he := he)) o1_max (fun _ _ _ => maxR_ne) h1
theorem S_max {px : Pos} {x : Res ((List Int) × μ)} (hm : X.mg "max" = none) (hg : Gl X "max") (hc : X.calm = true) (he : starEach [a] X.env = [(false, eval a X.env)] := by rfl) (h1 : SE X Γ p m a x) : SE X Γ p m (.Call (.Name "max" px) [a] [] pos) (x.bind fun q => (maxR q.1).bind fun d => .ok (d, q.2)) := SE.unP (unB (cr_max hc) hm hg (by decide +kernel) (he := he)) o1_max h1
theorem R_min {px : Pos} {x : Res (List Int)} (hm : X.mg "min" = none) (hg : Gl X "min") (hc : X.calm = true) (he : starEach [a] X.env = [(false, eval a X.env)] := by rfl) (h1 : RE X Γ a x) : RE X Γ (.Call (.Name "min" px) [a] [] pos) (x.bind fun x => minR x) := RE.unP (unB (cr_min hc) hm hg (by decide +kernel) (he := he)) o1_min (fun _ _ _ => minR_ne) h1
theorem S_min {px : Pos} {x : Res ((List Int) × μ)} (hm : X.mg "min" = none) (hg : Gl X "min") (hc : X.calm = true) (he : starEach [a] X.env = [(false, eval a X.env)] := by rfl) (h1 : SE X Γ p m a x) : SE X Γ p m (.Call (.Name "min" px) [a] [] pos) (x.bind fun q => (minR q.1).bind fun d => .ok (d, q.2)) := SE.unP (unB (cr_min hc) hm hg (by decide +kernel) (he := he)) o1_min h1
theorem A_sorted {px : Pos} {x : (List Int)} (hm : X.mg "sorted" = none) (hg : Gl X "sorted")  (he : starEach [a] X.env = [(false, eval a X.env)] := by rfl) (h1 : AE X Γ a x) : AE X Γ (.Call (.Name "sorted" px) [a] [] pos) (sortI x) := AE.un (unB cr_sortedI hm hg (by decide +kernel) (he := he)) o1_sorted h1
theorem R_sorted {px : Pos} {x : Res (List Int)} (hm : X.mg "sorted" = none) (hg : Gl X "sorted")  (he : starEach [a] X.env = [(false, eval a X.env)] := by rfl) (h1 : RE X Γ a x) : RE X Γ (.Call (.Name "sorted" px) [a] [] pos) (x.bind fun x => .ok (sortI x)) := RE.unP (unB cr_sortedI hm hg (by decide +kernel) (he := he)) (Op1.par o1_sorted) (fun _ _ _ z => by cases z) h1
theorem S_sorted {px : Pos} {x : Res ((List Int) × μ)} (hm : X.mg "sorted" = none) (hg : Gl X "sorted")  (he : starEach [a] X.env = [(false, eval a X.env)] := by rfl) (h1 : SE X Γ p m a x) : SE X Γ p m (.Call (.Name "sorted" px) [a] [] pos) (x.bind fun q => .ok (sortI q.1, q.2)) := SE.unP (unB cr_sortedI hm hg (by decide +kernel) (he := he)) (Op1.par o1_sorted) h1
theorem A_list {px : Pos} {x : (List β)} (hm : X.mg "list" = none) (hg : Gl X "list")  (he : starEach [a] X.env = [(false, eval a X.env)] := by rfl) (h1 : AE X Γ a x) : AE X Γ (.Call (.Name "list" px) [a] [] pos) (x) := AE.un (unT call_list_of hm hg (by decide +kernel) (he := he)) o1_list h1
theorem R_list {px : Pos} {x : Res (List β)} (hm : X.mg "list" = none) (hg : Gl X "list")  (he : starEach [a] X.env = [(false, eval a X.env)] := by rfl) (h1 : RE X Γ a x) : RE X Γ (.Call (.Name "list" px) [a] [] pos) (x.bind fun x => .ok (x)) := RE.unP (unT call_list_of hm hg (by decide +kernel) (he := he)) (Op1.par o1_list) (fun _ _ _ z => by cases z) h1
theorem S_list {px : Pos} {x : Res ((List β) × μ)} (hm : X.mg "list" = none) (hg : Gl X "list")  (he : starEach [a] X.env = [(false, eval a X.env)] := by rfl) (h1 : SE X Γ p m a x) : SE X Γ p m (.Call (.Name "list" px) [a] [] pos) (x.bind fun q => .ok (q.1, q.2)) := SE.unP (unT call_list_of hm hg (by decide +kernel) (he := he)) (Op1.par o1_list) h1
theorem A_max2 {px : Pos} {x : Int} {y : Int} (hm : X.mg "max" = none) (hg : Gl X "max") (hc : X.calm = true) (he : starEach [a, b] X.env = (false, eval a X.env) :: starEach [b] X.env := by rfl) (he2 : starEach [b] X.env = [(false, eval b X.env)] := by rfl) (hpl : (backTo pos (starEach [b] X.env)).any (·.1) = false := by rfl) (h1 : AE X Γ a x) (h2 : AE X Γ b y) : AE X Γ (.Call (.Name "max" px) [a, b] [] pos) (max2 x y) := AE.bin (binB (call_max2 hc) hm hg (by decide +kernel) (he := he) (he2 := he2) (hpl := hpl)) o2_max h1 h2
theorem R_max2 {px : Pos} {x : Res Int} {y : Res Int} (hm : X.mg "max" = none) (hg : Gl X "max") (hc : X.calm = true) (he : starEach [a, b] X.env = (false, eval a X.env) :: starEach [b] X.env := by rfl) (he2 : starEach [b] X.env = [(false, eval b X.env)] := by rfl) (hpl : (backTo pos (starEach [b] X.env)).any (·.1) = false := by rfl) (h1 : RE X Γ a x) (h2 : RE X Γ b y) : RE X Γ (.Call (.Name "max" px) [a, b] [] pos) (x.bind fun x => y.bind fun y => .ok (max2 x y)) := RE.bin (binB (call_max2 hc) hm hg (by decide +kernel) (he := he) (he2 := he2) (hpl := hpl)) o2_max h1 h2
theorem S_max2 {px : Pos} {x : Res (Int × μ)} {y : Int × μ → Res (Int × μ)} (hm : X.mg "max" = none) (hg : Gl X "max") (hc : X.calm = true) (he : starEach [a, b] X.env = (false, eval a X.env) :: starEach [b] X.env := by rfl) (he2 : starEach [b] X.env = [(false, eval b X.env)] := by rfl) (hpl : (backTo pos (starEach [b] X.env)).any (·.1) = false := by rfl) (h1 : SE X Γ p m a x) (h2 : ∀ q : Int × μ, SE X Γ p q.2 b (y q)) : SE X Γ p m (.Call (.Name "max" px) [a, b] [] pos) (x.bind fun q => (y q).bind fun q' => .ok (max2 q.1 q'.1, q'.2)) := SE.bin (binB (call_max2 hc) hm hg (by decide +kernel) (he := he) (he2 := he2) (hpl := hpl)) (Op2.par o2_max) h1 h2
theorem A_min2 {px : Pos} {x : Int} {y : Int} (hm : X.mg "min" = none) (hg : Gl X "min") (hc : X.calm = true) (he : starEach [a, b] X.env = (false, eval a X.env) :: starEach [b] X.env := by rfl) (he2 : starEach [b] X.env = [(false, eval b X.env)] := by rfl) (hpl : (backTo pos (starEach [b] X.env)).any (·.1) = false := by rfl) (h1 : AE X Γ a x) (h2 : AE X Γ b y) : AE X Γ (.Call (.Name "min" px) [a, b] [] pos) (min2 x y) := AE.bin (binB (call_min2 hc) hm hg (by decide +kernel) (he := he) (he2 := he2) (hpl := hpl)) o2_min h1 h2
theorem R_min2 {px : Pos} {x : Res Int} {y : Res Int} (hm : X.mg "min" = none) (hg : Gl X "min") (hc : X.calm = true) (he : starEach [a, b] X.env = (false, eval a X.env) :: starEach [b] X.env := by rfl) (he2 : starEach [b] X.env = [(false, eval b X.env)] := by rfl) (hpl : (backTo pos (starEach [b] X.env)).any (·.1) = false := by rfl) (h1 : RE X Γ a x) (h2 : RE X Γ b y) : RE X Γ (.Call (.Name "min" px) [a, b] [] pos) (x.bind fun x => y.bind fun y => .ok (min2 x y)) := RE.bin (binB (call_min2 hc) hm hg (by decide +kernel) (he := he) (he2 := he2) (hpl := hpl)) o2_min h1 h2
theorem S_min2 {px : Pos} {x : Res (Int × μ)} {y : Int × μ → Res (Int × μ)} (hm : X.mg "min" = none) (hg : Gl X "min") (hc : X.calm = true) (he : starEach [a, b] X.env = (false, eval a X.env) :: starEach [b] X.env := by rfl) (he2 : starEach [b] X.env = [(false, eval b X.env)] := by rfl) (hpl : (backTo pos (starEach [b] X.env)).any (·.1) = false := by rfl) (h1 : SE X Γ p m a x) (h2 : ∀ q : Int × μ, SE X Γ p q.2 b (y q)) : SE X Γ p m (.Call (.Name "min" px) [a, b] [] pos) (x.bind fun q => (y q).bind fun q' => .ok (min2 q.1 q'.1, q'.2)) := SE.bin (binB (call_min2 hc) hm hg (by decide +kernel) (he := he) (he2 := he2) (hpl := hpl)) (Op2.par o2_min) h1 h2
theorem A_gcd {px : Pos} {x : Int} {y : Int} (hm : X.mg "gcd" = some (.builtin "math.gcd")) (hg : Gl X "gcd") (he : starEach [a, b] X.env = (false, eval a X.env) :: starEach [b] X.env := by rfl) (he2 : starEach [b] X.env = [(false, eval b X.env)] := by rfl) (hpl : (backTo pos (starEach [b] X.env)).any (·.1) = false := by rfl) (h1 : AE X Γ a x) (h2 : AE X Γ b y) : AE X Γ (.Call (.Name "gcd" px) [a, b] [] pos) (gcdI x y) := AE.bin (binF cr_gcd hm hg (he := he) (he2 := he2) (hpl := hpl)) o2_gcd h1 h2
theorem R_gcd {px : Pos} {x : Res Int} {y : Res Int} (hm : X.mg "gcd" = some (.builtin "math.gcd")) (hg : Gl X "gcd") (he : starEach [a, b] X.env = (false, eval a X.env) :: starEach [b] X.env := by rfl) (he2 : starEach [b] X.env = [(false, eval b X.env)] := by rfl) (hpl : (backTo pos (starEach [b] X.env)).any (·.1) = false := by rfl) (h1 : RE X Γ a x) (h2 : RE X Γ b y) : RE X Γ (.Call (.Name "gcd" px) [a, b] [] pos) (x.bind fun x => y.bind fun y => .ok (gcdI x y)) := RE.bin (binF cr_gcd hm hg (he := he) (he2 := he2) (hpl := hpl)) o2_gcd h1 h2
theorem S_gcd {px : Pos} {x : Res (Int × μ)} {y : Int × μ → Res (Int × μ)} (hm : X.mg "gcd" = some (.builtin "math.gcd")) (hg : Gl X "gcd") (he : starEach [a, b] X.env = (false, eval a X.env) :: starEach [b] X.env := by rfl) (he2 : starEach [b] X.env = [(false, eval b X.env)] := by rfl) (hpl : (backTo pos (starEach [b] X.env)).any (·.1) = false := by rfl) (h1 : SE X Γ p m a x) (h2 : ∀ q : Int × μ, SE X Γ p q.2 b (y q)) : SE X Γ p m (.Call (.Name "gcd" px) [a, b] [] pos) (x.bind fun q => (y q).bind fun q' => .ok (gcdI q.1 q'.1, q'.2)) := SE.bin (binF cr_gcd hm hg (he := he) (he2 := he2) (hpl := hpl)) (Op2.par o2_gcd) h1 h2
end
/-! ### tests -/
section
variable {X : Cx} {Γ : List Slot} {pos : Pos} {a b c : Expr} {rest : List Expr}
variable {β γ δ : Type} [Rep β] [Rep γ] [Rep δ]
def TA (X : Cx) (Γ : List Slot) (e : Expr) (b : Bool) : Prop := ∀ (σ : L2.St) (G H : Hp) (Q : Bool → Hp → Prop), EnvOk X.K G σ Γ → Same G H → (∀ G' H', Ext G H G' H' → Q b H') → TV X e σ H Q
def PostT (X : Cx) (σ : L2.St) (G H : Hp) (Q : Bool → Hp → Prop) : Res Bool → Prop
  | .ok b => ∀ G' H', Ext G H G' H' → Q b H'
  | .err c x => Wish X σ H c x
  | .bad => False
def TR (X : Cx) (Γ : List Slot) (e : Expr) (o : Res Bool) : Prop := ∀ (σ : L2.St) (G H : Hp) (Q : Bool → Hp → Prop), EnvOk X.K G σ Γ → Same G H → PostT X σ G H Q o → TV X e σ H Q
def WR (X : Cx) (Γ : List Slot) (e : Expr) (o : Res Bool) : Prop := ∀ (σ : L2.St) (G H : Hp) (Q : Bool → Hp → Prop), EnvOk X.K G σ Γ → Same G H → PostT X σ G H Q o → WV X e σ H Q
theorem PostT.ext {σ : L2.St} {G H G1 H1 : Hp} {Q : Bool → Hp → Prop} {o : Res Bool} (h : PostT X σ G H Q o) (e : Ext G H G1 H1) : PostT X σ G1 H1 Q o := by
  cases o with
  | ok a => exact fun G' H' e' => h G' H' (e.trans e')
  | err c x => exact Wish.mono h e.hh
  | bad => exact h
theorem PostT.bind {σ : L2.St} {G H : Hp} {Q Q1 : Bool → Hp → Prop} {o : Res Bool} {f : Bool → Res Bool} (h : PostT X σ G H Q (o.bind f))
    (k : ∀ a G1 H1, Ext G H G1 H1 → PostT X σ G1 H1 Q (f a) → Q1 a H1) : PostT X σ G H Q1 o := by
  cases o with
  | ok a => exact fun G1 H1 e => k a G1 H1 e (PostT.ext (o := f a) h e)
  | err c x => exact h
  | bad => exact h
theorem PostT.bindR {σ : L2.St} {G H : Hp} {Q : Bool → Hp → Prop} {Q1 : VK} {o : Res β} {f : β → Res Bool} (h : PostT X σ G H Q (o.bind f))
    (k : ∀ a G1 H1 v, Ext G H G1 H1 → rep X.K G1 v a → PostT X σ G1 H1 Q (f a) → Q1 v H1) : PostR X σ G H Q1 o := by
  cases o with
  | ok a => exact fun G1 H1 v e r => k a G1 H1 v e r (PostT.ext (o := f a) h e)
  | err c x => exact h
  | bad => exact h
theorem PostR.bindT {σ : L2.St} {G H : Hp} {Q : VK} {Q1 : Bool → Hp → Prop} {o : Res Bool} {f : Bool → Res β} (h : PostR X σ G H Q (o.bind f))
    (k : ∀ a G1 H1, Ext G H G1 H1 → PostR X σ G1 H1 Q (f a) → Q1 a H1) : PostT X σ G H Q1 o := by
  cases o with
  | ok a => exact fun G1 H1 e => k a G1 H1 e (PostR.ext (o := f a) h e)
  | err c x => exact h
  | bad => exact h
theorem TR.ofA {b : Bool} (h : TA X Γ a b) : TR X Γ a (.ok b) := fun σ G H Q hΓ hG k => h σ G H Q hΓ hG k
theorem TA.ofR {b : Bool} (h : TR X Γ a (.ok b)) : TA X Γ a b := fun σ G H Q hΓ hG k => h σ G H Q hΓ hG k
theorem AE.ofR {x : β} (h : RE X Γ a (.ok x)) : AE X Γ a x := fun σ G H Q hΓ hG k => h σ G H Q hΓ hG k
theorem WR.t {o : Res Bool} (h : WR X Γ a o) : TR X Γ a o := fun σ G H Q hΓ hG k => TV.of (wv X a).pt (h σ G H Q hΓ hG k)
/-- a comparison as a test -/
theorem TR.cmp {op : CmpOp} {r : R2} {g : β → γ → Res Bool} (ho : OpR X (compareOp op) r) (hm : behindInMarks op b = false) (o : Op2P X r g) (hg : ∀ b c e w, g b c ≠ .err e w) {x : Res β} {y : Res γ} (h1 : RE X Γ a x) (h2 : RE X Γ b y) :
    TR X Γ (.Compare a [op] [b] pos) (x.bind fun x => y.bind fun y => g x y) := fun σ G H Q hΓ hG k => by
  refine TV.of (pt_cmpR ho (ev X a) (ev X b) hm) ?_
  refine h1 σ G H _ hΓ hG (PostT.bindR k fun x G1 H1 v1 e1 r1 k1 => h2 σ G1 H1 _ (hΓ.mono e1.gg) e1.gh (PostT.bindR k1 fun y G2 H2 v2 e2 r2 k2 => ?_))
  cases q : g x y with
  | ok d =>
    rw [q] at k2
    exact o G2 H2 v1 v2 x y _ d q e2.gh (Rep.mono e2.gg r1) r2 fun G3 H3 v e3 r => ⟨d, r, k2 G3 H3 e3⟩
  | err c w => exact absurd q (hg _ _ _ _)
  | bad => rw [q] at k2; exact k2.elim
theorem TA.cmp {op : CmpOp} {r : R2} {g : β → γ → Bool} (ho : OpR X (compareOp op) r) (hm : behindInMarks op b = false) (o : Op2 X r g) {x : β} {y : γ} (h1 : AE X Γ a x) (h2 : AE X Γ b y) :
    TA X Γ (.Compare a [op] [b] pos) (g x y) := TA.ofR (TR.cmp ho hm (Op2.par o) (fun _ _ _ _ z => by cases z) (RE.ofA h1) (RE.ofA h2))
/-- a op b op c -/
theorem RE.chain {op op' : CmpOp} {r r' : R2} {g : β → γ → Bool} {g' : γ → δ → Bool} (ho : OpR X (compareOp op) r) (ho' : OpR X (compareOp op') r') (o : Op2 X r g) (o' : Op2 X r' g') {x : Res β} {y : Res γ} {z : Res δ} (h1 : RE X Γ a x) (h2 : RE X Γ b y) (h3 : RE X Γ c z)
    (hm : lastMarks [op, op'] [b, c] = false := by with_unfolding_all rfl) : RE X Γ (.Compare a [op, op'] [b, c] pos) (x.bind fun x => y.bind fun y => cond (g x y) (z.bind fun z => .ok (g' y z)) (.ok false)) := fun σ G H Q hΓ hG k => by
  refine EV.of (pe_chain ho ho' (ev X a) (ev X b) (ev X c) hm) ?_
  refine h1 σ G H _ hΓ hG (PostR.bind k fun x G1 H1 v1 e1 r1 k1 => h2 σ G1 H1 _ (hΓ.mono e1.gg) e1.gh (PostR.bind k1 fun y G2 H2 v2 e2 r2 k2 => ?_))
  refine o G2 H2 v1 v2 x y _ e2.gh (Rep.mono e2.gg r1) r2 fun G3 H3 v e3 r => ⟨g x y, r, ?_⟩
  have k3 := PostR.ext k2 e3
  cases hb : g x y with
  | false => rw [hb] at k3; exact k3 G3 H3 _ (Ext.refl e3.gh) rfl
  | true =>
    rw [hb] at k3
    refine h3 σ G3 H3 _ (hΓ.mono (e1.trans (e2.trans e3)).gg) e3.gh (PostR.bind k3 fun z G4 H4 v4 e4 r4 k4 => ?_)
    exact o' G4 H4 v2 v4 y z Q e4.gh (Rep.mono (e3.trans e4).gg r2) r4 fun G5 H5 v e5 r => k4 G5 H5 v e5 r
theorem TR.chain {op op' : CmpOp} {r r' : R2} {g : β → γ → Bool} {g' : γ → δ → Bool} (ho : OpR X (compareOp op) r) (ho' : OpR X (compareOp op') r') (o : Op2 X r g) (o' : Op2 X r' g') {x : Res β} {y : Res γ} {z : Res δ} (h1 : RE X Γ a x) (h2 : RE X Γ b y) (h3 : RE X Γ c z)
    (hm : lastMarks [op, op'] [b, c] = false := by with_unfolding_all rfl) : TR X Γ (.Compare a [op, op'] [b, c] pos) (x.bind fun x => y.bind fun y => cond (g x y) (z.bind fun z => .ok (g' y z)) (.ok false)) := fun σ G H Q hΓ hG k => by
  refine TV.of (pt_chain ho ho' (ev X a) (ev X b) (ev X c) hm) ?_
  refine h1 σ G H _ hΓ hG (PostT.bindR k fun x G1 H1 v1 e1 r1 k1 => h2 σ G1 H1 _ (hΓ.mono e1.gg) e1.gh (PostT.bindR k1 fun y G2 H2 v2 e2 r2 k2 => ?_))
  refine o G2 H2 v1 v2 x y _ e2.gh (Rep.mono e2.gg r1) r2 fun G3 H3 v e3 r => ⟨g x y, r, ?_⟩
  have k3 := PostT.ext k2 e3
  cases hb : g x y with
  | false => rw [hb] at k3; exact ⟨false, rfl, k3 G3 H3 (Ext.refl e3.gh)⟩
  | true =>
    rw [hb] at k3
    refine h3 σ G3 H3 _ (hΓ.mono (e1.trans (e2.trans e3)).gg) e3.gh (PostT.bindR k3 fun z G4 H4 v4 e4 r4 k4 => ?_)
    exact o' G4 H4 v2 v4 y z _ e4.gh (Rep.mono (e3.trans e4).gg r2) r4 fun G5 H5 v e5 r => ⟨_, r, k4 G5 H5 e5⟩
theorem AE.chain {op op' : CmpOp} {r r' : R2} {g : β → γ → Bool} {g' : γ → δ → Bool} (ho : OpR X (compareOp op) r) (ho' : OpR X (compareOp op') r') (o : Op2 X r g) (o' : Op2 X r' g') {x : β} {y : γ} {z : δ} (h1 : AE X Γ a x) (h2 : AE X Γ b y) (h3 : AE X Γ c z)
    (hm : lastMarks [op, op'] [b, c] = false := by with_unfolding_all rfl) : AE X Γ (.Compare a [op, op'] [b, c] pos) (g x y && g' y z) := AE.ofR (by
  have h := RE.chain (pos := pos) ho ho' o o' (RE.ofA h1) (RE.ofA h2) (RE.ofA h3) hm
  simp only [Res.bind_ok] at h
  cases q : g x y <;> rw [q] at h <;> exact h)
theorem TA.chain {op op' : CmpOp} {r r' : R2} {g : β → γ → Bool} {g' : γ → δ → Bool} (ho : OpR X (compareOp op) r) (ho' : OpR X (compareOp op') r') (o : Op2 X r g) (o' : Op2 X r' g') {x : β} {y : γ} {z : δ} (h1 : AE X Γ a x) (h2 : AE X Γ b y) (h3 : AE X Γ c z)
    (hm : lastMarks [op, op'] [b, c] = false := by with_unfolding_all rfl) : TA X Γ (.Compare a [op, op'] [b, c] pos) (g x y && g' y z) := TA.ofR (by
  have h := TR.chain (pos := pos) ho ho' o o' (RE.ofA h1) (RE.ofA h2) (RE.ofA h3) hm
  simp only [Res.bind_ok] at h
  cases q : g x y <;> rw [q] at h <;> exact h)
/-- a value's truth -/
class Tru (β : Type) [Rep β] where
  tru : β → Res Bool
  ok : ∀ {K : PySem.W.Frag} {H : Hp} {v : V} {a : β} {k : Bool}, rep K H v a → tru a = .ok k → TruV K v H k
  ne : ∀ a e w, tru a ≠ .err e w
instance : Tru Bool := ⟨.ok, fun h e => by cases h; cases e; rfl, fun _ _ _ h => by cases h⟩
instance : Tru Int := ⟨fun i => .ok (i != 0), fun h e => by cases h; cases e; rfl, fun _ _ _ h => by cases h⟩
instance : Tru Str := ⟨fun x => iff (x.length ≤ sizeLine) ((x.length : Int) != 0), fun h e => by
  cases h
  obtain ⟨h, rfl⟩ := iff_ok e
  exact ⟨h, rfl⟩, fun _ _ _ => iff_ne⟩
theorem isEmpty_paired {α ζ : Type} {F : α → ζ → Prop} {l : List α} {m : List ζ} (h : Paired F l m) : l.isEmpty = m.isEmpty := by cases h <;> rfl
instance : Tru (List β) := ⟨fun xs => .ok (!xs.isEmpty), fun h e => by
  cases e
  obtain ⟨p, vs, rfl, h2, h3⟩ := h
  exact .inl ⟨vs, .inl (.inl h2), by rw [isEmpty_paired h3]⟩, fun _ _ _ h => by cases h⟩
instance : Tru (VT β) := ⟨fun q => .ok (!q.xs.isEmpty), fun h e => by
  cases e
  obtain ⟨p, vs, rfl, h2, h3⟩ := h
  exact .inr (.inl ⟨vs, h2, by rw [isEmpty_paired h3]⟩), fun _ _ _ h => by cases h⟩
theorem TR.tru [Tru β] {x : Res β} (h : RE X Γ a x) (he : ∀ whole, isTrue a X.env whole = (do let v ← whole; standAt a.pos; holding [v] (truthy v)) := by intro _; rfl) : TR X Γ a (x.bind Tru.tru) := fun σ G H Q hΓ hG k => by
  refine TV.of (pt_truth (ev X a) he) ?_
  refine h σ G H _ hΓ hG (PostT.bindR k fun x G1 H1 v1 e1 r1 k1 => ?_)
  cases q : Tru.tru x with
  | ok d => rw [q] at k1; exact ⟨d, Tru.ok (Rep.mono e1.gh r1) q, k1 G1 H1 (Ext.refl e1.gh)⟩
  | err c w => exact absurd q (Tru.ne _ _ _)
  | bad => rw [q] at k1; exact k1.elim
theorem TA.val {x : Bool} (h : AE X Γ a x) (he : ∀ whole, isTrue a X.env whole = (do let v ← whole; standAt a.pos; holding [v] (truthy v)) := by intro _; rfl) : TA X Γ a x := TA.ofR (TR.tru (RE.ofA h) he)
theorem TR.val {x : Res Bool} (h : RE X Γ a x) (he : ∀ whole, isTrue a X.env whole = (do let v ← whole; standAt a.pos; holding [v] (truthy v)) := by intro _; rfl) : TR X Γ a x := by
  have q := TR.tru h he
  have e : x.bind Tru.tru = x := by cases x <;> rfl
  rw [e] at q
  exact q
theorem TA.list {x : List β} (h : AE X Γ a x) (he : ∀ whole, isTrue a X.env whole = (do let v ← whole; standAt a.pos; holding [v] (truthy v)) := by intro _; rfl) : TA X Γ a (!x.isEmpty) := TA.ofR (TR.tru (RE.ofA h) he)
theorem TA.num {x : Int} (h : AE X Γ a x) (he : ∀ whole, isTrue a X.env whole = (do let v ← whole; standAt a.pos; holding [v] (truthy v)) := by intro _; rfl) : TA X Γ a (x != 0) := TA.ofR (TR.tru (RE.ofA h) he)
theorem TR.not {x : Res Bool} (h : TR X Γ a x) : TR X Γ (.UnaryOp .Not a pos) (x.bind fun b => .ok (!b)) := fun σ G H Q hΓ hG k => by
  refine TV.of (pt_not (tv X a)) ?_
  exact h σ G H _ hΓ hG (PostT.bind k fun b G1 H1 e1 k1 => k1 G1 H1 (Ext.refl e1.gh))
theorem TA.not {x : Bool} (h : TA X Γ a x) : TA X Γ (.UnaryOp .Not a pos) (!x) := TA.ofR (TR.not (TR.ofA h))
theorem WR.and1 {x : Res Bool} (h : TR X Γ a x) : WR X Γ (.BoolOp .And [a] pos) x := fun σ G H Q hΓ hG k => WV.of (pw_and1 (tv X a)) (h σ G H Q hΓ hG k)
theorem WR.or1 {x : Res Bool} (h : TR X Γ a x) : WR X Γ (.BoolOp .Or [a] pos) x := fun σ G H Q hΓ hG k => WV.of (pw_or1 (tv X a)) (h σ G H Q hΓ hG k)
theorem WR.and {x y : Res Bool} (h : TR X Γ a x) (h2 : WR X Γ (.BoolOp .And (b :: rest) pos) y) : WR X Γ (.BoolOp .And (a :: b :: rest) pos) (x.bind fun v => cond v y (.ok false)) := fun σ G H Q hΓ hG k => by
  refine WV.of (pw_and (tv X a) (wv X _)) ?_
  refine h σ G H _ hΓ hG (PostT.bind k fun v G1 H1 e1 k1 => ?_)
  cases v with
  | true => exact h2 σ G1 H1 Q (hΓ.mono e1.gg) e1.gh k1
  | false => exact k1 G1 H1 (Ext.refl e1.gh)
theorem WR.or {x y : Res Bool} (h : TR X Γ a x) (h2 : WR X Γ (.BoolOp .Or (b :: rest) pos) y) : WR X Γ (.BoolOp .Or (a :: b :: rest) pos) (x.bind fun v => cond v (.ok true) y) := fun σ G H Q hΓ hG k => by
  refine WV.of (pw_or (tv X a) (wv X _)) ?_
  refine h σ G H _ hΓ hG (PostT.bind k fun v G1 H1 e1 k1 => ?_)
  cases v with
  | false => exact h2 σ G1 H1 Q (hΓ.mono e1.gg) e1.gh k1
  | true => exact k1 G1 H1 (Ext.refl e1.gh)
def WA (X : Cx) (Γ : List Slot) (e : Expr) (b : Bool) : Prop := WR X Γ e (.ok b)
theorem WA.and1 {x : Bool} (h : TA X Γ a x) : WA X Γ (.BoolOp .And [a] pos) x := WR.and1 (TR.ofA h)
theorem WA.or1 {x : Bool} (h : TA X Γ a x) : WA X Γ (.BoolOp .Or [a] pos) x := WR.or1 (TR.ofA h)
theorem WA.and {x y : Bool} (h : TA X Γ a x) (h2 : WA X Γ (.BoolOp .And (b :: rest) pos) y) : WA X Γ (.BoolOp .And (a :: b :: rest) pos) (x && y) := by
  have q := WR.and (TR.ofA h) h2
  cases x <;> exact q
theorem WA.or {x y : Bool} (h : TA X Γ a x) (h2 : WA X Γ (.BoolOp .Or (b :: rest) pos) y) : WA X Γ (.BoolOp .Or (a :: b :: rest) pos) (x || y) := by
  have q := WR.or (TR.ofA h) h2
  cases x <;> exact q
theorem WA.t {x : Bool} (h : WA X Γ a x) : TA X Γ a x := TA.ofR (WR.t h)
/-- and, or as values (of truth values) -/
theorem RE.one {op} {o : Res β} (h : RE X Γ a o) : RE X Γ (.BoolOp op [a] pos) o := fun σ G H Q hΓ hG k => EV.of (pe_one (ev X a)) (h σ G H Q hΓ hG k)
theorem RE.and {x y : Res Bool} (h : RE X Γ a x) (h2 : RE X Γ (.BoolOp .And (b :: rest) pos) y) : RE X Γ (.BoolOp .And (a :: b :: rest) pos) (x.bind fun v => cond v y (.ok false)) := fun σ G H Q hΓ hG k => by
  refine EV.of (pe_and (ev X a) (ev X _)) ?_
  refine h σ G H _ hΓ hG (PostR.bind k fun v G1 H1 v1 e1 r1 k1 => ⟨v, r1, ?_⟩)
  cases v with
  | true => exact h2 σ G1 H1 Q (hΓ.mono e1.gg) e1.gh k1
  | false => exact k1 G1 H1 _ (Ext.refl e1.gh) rfl
theorem RE.or {x y : Res Bool} (h : RE X Γ a x) (h2 : RE X Γ (.BoolOp .Or (b :: rest) pos) y) : RE X Γ (.BoolOp .Or (a :: b :: rest) pos) (x.bind fun v => cond v (.ok true) y) := fun σ G H Q hΓ hG k => by
  refine EV.of (pe_or (ev X a) (ev X _)) ?_
  refine h σ G H _ hΓ hG (PostR.bind k fun v G1 H1 v1 e1 r1 k1 => ⟨v, r1, ?_⟩)
  cases v with
  | false => exact h2 σ G1 H1 Q (hΓ.mono e1.gg) e1.gh k1
  | true => exact k1 G1 H1 _ (Ext.refl e1.gh) rfl
theorem AE.one {op} {o : β} (h : AE X Γ a o) : AE X Γ (.BoolOp op [a] pos) o := AE.ofR (RE.one (RE.ofA h))
theorem AE.and {x y : Bool} (h : AE X Γ a x) (h2 : AE X Γ (.BoolOp .And (b :: rest) pos) y) : AE X Γ (.BoolOp .And (a :: b :: rest) pos) (x && y) := AE.ofR (by
  have q := RE.and (RE.ofA h) (RE.ofA h2)
  cases x <;> exact q)
theorem AE.or {x y : Bool} (h : AE X Γ a x) (h2 : AE X Γ (.BoolOp .Or (b :: rest) pos) y) : AE X Γ (.BoolOp .Or (a :: b :: rest) pos) (x || y) := AE.ofR (by
  have q := RE.or (RE.ofA h) (RE.ofA h2)
  cases x <;> exact q)
/-- a if t else b -/
theorem RE.ife {t : Res Bool} {x y : Res β} (ht : TR X Γ c t) (h1 : RE X Γ a x) (h2 : RE X Γ b y) : RE X Γ (.IfExp c a b pos) (t.bind fun k => cond k x y) := fun σ G H Q hΓ hG k => by
  refine EV.of (pe_ifExp (tv X c) (ev X a) (ev X b)) ?_
  refine ht σ G H _ hΓ hG (PostR.bindT k fun v G1 H1 e1 k1 => ?_)
  cases v with
  | true => exact h1 σ G1 H1 Q (hΓ.mono e1.gg) e1.gh k1
  | false => exact h2 σ G1 H1 Q (hΓ.mono e1.gg) e1.gh k1
theorem AE.ife {t : Bool} {x y : β} (ht : TA X Γ c t) (h1 : AE X Γ a x) (h2 : AE X Γ b y) : AE X Γ (.IfExp c a b pos) (cond t x y) := AE.ofR (by
  have q := RE.ife (pos := pos) (TR.ofA ht) (RE.ofA h1) (RE.ofA h2)
  cases t <;> exact q)
/-- is None -/
class NN (β : Type) [Rep β] where
  nn : ∀ {K : PySem.W.Frag} {H : Hp} {v : V} {a : β}, rep K H v a → v ≠ .non
instance : NN Int := ⟨fun h => by cases h; intro e; cases e⟩
instance : NN Bool := ⟨fun h => by cases h; intro e; cases e⟩
instance : NN Str := ⟨fun h => by cases h; intro e; cases e⟩
instance : NN (List β) := ⟨fun h => by obtain ⟨p, vs, rfl, _⟩ := h; intro e; cases e⟩
instance : NN (VT β) := ⟨fun h => by obtain ⟨p, vs, rfl, _⟩ := h; intro e; cases e⟩
instance : NN (β × γ) := ⟨fun h => by obtain ⟨p, x, y, rfl, _⟩ := h; intro e; cases e⟩
instance : NN (T3 β γ δ) := ⟨fun h => by obtain ⟨p, x, y, z, rfl, _⟩ := h; intro e; cases e⟩
theorem opt_none [NN β] {K : PySem.W.Frag} {H : Hp} {v : V} {o : Option β} (r : rep K H v o) : decide (v = .non) = o.isNone := by
  cases o with
  | none => cases r; rfl
  | some a => exact decide_eq_false (NN.nn (β := β) r)
theorem AE.isN [NN β] {j pn} {x : Option β} (h : AE X Γ a x) : AE X Γ (.Compare a [.Is] [.Constant .none j pn] pos) x.isNone := fun σ G H Q hΓ hG k => by
  refine EV.of (pe_cmp (pc_isN (ev X a))) ?_
  exact h σ G H _ hΓ hG fun G1 H1 v1 e1 r1 => by rw [opt_none r1]; exact k G1 H1 _ e1 rfl
theorem AE.notN [NN β] {j pn} {x : Option β} (h : AE X Γ a x) : AE X Γ (.Compare a [.IsNot] [.Constant .none j pn] pos) (!x.isNone) := fun σ G H Q hΓ hG k => by
  refine EV.of (pe_cmp (pc_notN (ev X a))) ?_
  exact h σ G H _ hΓ hG fun G1 H1 v1 e1 r1 => by rw [opt_none r1]; exact k G1 H1 _ e1 rfl
theorem TA.isN [NN β] {j pn} {x : Option β} (h : AE X Γ a x) : TA X Γ (.Compare a [.Is] [.Constant .none j pn] pos) x.isNone := fun σ G H Q hΓ hG k => by
  refine TV.of (pt_cmp (pc_isN (ev X a))) ?_
  exact h σ G H _ hΓ hG fun G1 H1 v1 e1 r1 => by rw [opt_none r1]; exact ⟨_, rfl, k G1 H1 e1⟩
theorem TA.notN [NN β] {j pn} {x : Option β} (h : AE X Γ a x) : TA X Γ (.Compare a [.IsNot] [.Constant .none j pn] pos) (!x.isNone) := fun σ G H Q hΓ hG k => by
  refine TV.of (pt_cmp (pc_notN (ev X a))) ?_
  exact h σ G H _ hΓ hG fun G1 H1 v1 e1 r1 => by rw [opt_none r1]; exact ⟨_, rfl, k G1 H1 e1⟩
end
end Mr


/-! Mr5: arguments, displays, calls of defs; what is walked; targets; comprehensions. -/
namespace Mr
open PySem PySem.Spec PyProof.Rows L2
open Rep (rep)
open ToD (toD)
open CRep (crep)
universe u v
/-! ### arguments -/
class RepA (τ : Type) where
  repA : PySem.W.Frag → Hp → List V → τ → Prop
  mono : ∀ {K : PySem.W.Frag} {H H' : Hp} {vs : List V} {t : τ}, Same H H' → repA K H vs t → repA K H' vs t
open RepA (repA)
instance : RepA Unit := ⟨fun _ _ vs _ => vs = [], fun _ h => h⟩
instance {α τ : Type} [Rep α] [RepA τ] : RepA (α × τ) := ⟨fun K H vs q => ∃ v r, vs = v :: r ∧ rep K H v q.1 ∧ repA K H r q.2, fun e h => by
  obtain ⟨v, r, h1, h2, h3⟩ := h
  exact ⟨v, r, h1, Rep.mono e h2, RepA.mono e h3⟩⟩
instance {α : Type} [Rep α] : RepA (List α) := ⟨fun K H vs xs => Paired (rep K H) vs xs, fun e h => paired_imp (fun _ _ q => Rep.mono e q) h⟩
section
variable {X : Cx} {Γ : List Slot} {pos : Pos} {e : Expr} {es : List Expr} {μ : Type} [CRep μ] {p : Addr} {m : μ}
variable {α β γ δ ζ τ : Type} [Rep α] [Rep β] [Rep γ] [Rep δ] [Rep ζ] [RepA τ]
def PostA (X : Cx) (σ : L2.St) (G H : Hp) (Q : List V → Hp → Prop) : Res τ → Prop
  | .ok a => ∀ G' H' vs, Ext G H G' H' → repA X.K G' vs a → Q vs H'
  | .err c x => Wish X σ H c x
  | .bad => False
theorem PostA.ext {σ : L2.St} {G H G1 H1 : Hp} {Q : List V → Hp → Prop} {o : Res τ} (h : PostA X σ G H Q o) (e : Ext G H G1 H1) : PostA X σ G1 H1 Q o := by
  cases o with
  | ok a => exact fun G' H' v e' r => h G' H' v (e.trans e') r
  | err c x => exact Wish.mono h e.hh
  | bad => exact h
def RArg (X : Cx) (Γ : List Slot) (es : List Expr) (o : Res τ) : Prop := ∀ (σ : L2.St) (G H : Hp) (Q : List V → Hp → Prop), EnvOk X.K G σ Γ → Same G H → PostA X σ G H Q o → AV X es σ H Q
def AArg (X : Cx) (Γ : List Slot) (es : List Expr) (t : τ) : Prop := RArg X Γ es (.ok t)
def PostAS (X : Cx) (p : Addr) (G H : Hp) (Q : List V → Hp → Prop) : Res (τ × μ) → Prop
  | .ok q => ∀ G' H' vs o', ExtP p G H G' H' → H' p = some o' → crep X.K G' o' q.2 → repA X.K G' vs q.1 → Q vs H'
  | _ => False
def SArg (X : Cx) (Γ : List Slot) (p : Addr) (m : μ) (es : List Expr) (o : Res (τ × μ)) : Prop := ∀ (σ : L2.St) (G H : Hp) (Q : List V → Hp → Prop) (u : HO), EnvOk X.K G σ Γ → Same G H → G p = none → H p = some u → crep X.K G u m → PostAS X p G H Q o → AV X es σ H Q
theorem RArg.nil : RArg X Γ [] (Res.ok ()) := fun σ G H Q hΓ hG k => AV.of pa_nil (k G H [] (Ext.refl hG) rfl)
theorem RArg.lnil : RArg X Γ [] (Res.ok ([] : List α)) := fun σ G H Q hΓ hG k => AV.of pa_nil (k G H [] (Ext.refl hG) .nil)
theorem AArg.nil : AArg X Γ [] () := RArg.nil
theorem AArg.lnil : AArg X Γ [] ([] : List α) := RArg.lnil
theorem PostR.bindA {σ : L2.St} {G H : Hp} {Q : List V → Hp → Prop} {Q1 : VK} {o : Res α} {f : α → Res τ} (h : PostA X σ G H Q (o.bind f))
    (k : ∀ a G1 H1 v, Ext G H G1 H1 → rep X.K G1 v a → PostA X σ G1 H1 Q (f a) → Q1 v H1) : PostR X σ G H Q1 o := by
  cases o with
  | ok a => exact fun G1 H1 v e r => k a G1 H1 v e r (PostA.ext (o := f a) h e)
  | err c x => exact h
  | bad => exact h
theorem RArg.cons {o : Res α} {t : Res τ} (h1 : RE X Γ e o) (h2 : RArg X Γ es t) (hs : starEach (e :: es) X.env = (false, eval e X.env) :: starEach es X.env := by rfl) : RArg X Γ (e :: es) (o.bind fun a => t.bind fun r => Res.ok (a, r)) := fun σ G H Q hΓ hG k => by
  refine AV.of (pa_cons (ev X e) (av X es) hs) ?_
  refine h1 σ G H _ hΓ hG (PostR.bindA k fun a G1 H1 v e1 r1 k1 => h2 σ G1 H1 _ (hΓ.mono e1.gg) e1.gh ?_)
  cases t with
  | ok r => exact fun G2 H2 vs e2 r2 => k1 G2 H2 (v :: vs) e2 ⟨v, vs, rfl, Rep.mono e2.gg r1, r2⟩
  | err c x => exact k1
  | bad => exact k1
theorem RArg.lcons {o : Res α} {t : Res (List α)} (h1 : RE X Γ e o) (h2 : RArg X Γ es t) (hs : starEach (e :: es) X.env = (false, eval e X.env) :: starEach es X.env := by rfl) : RArg X Γ (e :: es) (o.bind fun a => t.bind fun r => Res.ok (a :: r)) := fun σ G H Q hΓ hG k => by
  refine AV.of (pa_cons (ev X e) (av X es) hs) ?_
  refine h1 σ G H _ hΓ hG (PostR.bindA k fun a G1 H1 v e1 r1 k1 => h2 σ G1 H1 _ (hΓ.mono e1.gg) e1.gh ?_)
  cases t with
  | ok r => exact fun G2 H2 vs e2 r2 => k1 G2 H2 (v :: vs) e2 (.cons (Rep.mono e2.gg r1) r2)
  | err c x => exact k1
  | bad => exact k1
theorem AArg.cons {a : α} {t : τ} (h1 : AE X Γ e a) (h2 : AArg X Γ es t) (hs : starEach (e :: es) X.env = (false, eval e X.env) :: starEach es X.env := by rfl) : AArg X Γ (e :: es) (a, t) := RArg.cons (RE.ofA h1) h2 hs
theorem AArg.lcons {a : α} {t : List α} (h1 : AE X Γ e a) (h2 : AArg X Γ es t) (hs : starEach (e :: es) X.env = (false, eval e X.env) :: starEach es X.env := by rfl) : AArg X Γ (e :: es) (a :: t) := RArg.lcons (RE.ofA h1) h2 hs
theorem SArg.ofR {o : Res τ} (h : RArg X Γ es o) : SArg X Γ p m es (o.bind fun t => .ok (t, m)) := fun σ G H Q u hΓ hG gp hp cm k => by
  refine h σ G H Q hΓ hG ?_
  cases o with
  | ok a => exact fun G' H' v e r => k G' H' v u e.toP (e.hh _ _ hp) (CRep.mono e.gg cm) r
  | err c x => exact k.elim
  | bad => exact k
theorem SArg.nil : SArg X Γ p m [] (Res.ok ((), m)) := SArg.ofR RArg.nil
theorem SArg.lnil : SArg X Γ p m [] (Res.ok (([] : List α), m)) := SArg.ofR RArg.lnil
theorem PostAS.ext {G H G1 H1 : Hp} {Q : List V → Hp → Prop} {o : Res (τ × μ)} (h : PostAS X p G H Q o) (e : ExtP p G H G1 H1) (hp : H1 p ≠ Option.none) : PostAS X p G1 H1 Q o := by
  cases o with
  | ok a => exact fun G' H' v o' e' q1 q2 r => h G' H' v o' (e.trans e' hp) q1 q2 r
  | err c x => exact h
  | bad => exact h
theorem PostS.bindA {G H : Hp} {Q : List V → Hp → Prop} {Q1 : VK} {o : Res (α × μ)} {f : α × μ → Res (τ × μ)} (h : PostAS X p G H Q (o.bind f))
    (k : ∀ (a : α) (m : μ) G1 H1 v u, ExtP p G H G1 H1 → H1 p = Option.some u → crep X.K G1 u m → rep X.K G1 v a → PostAS X p G1 H1 Q (f (a, m)) → Q1 v H1) : PostS X p G H Q1 o := by
  cases o with
  | ok a => exact fun G1 H1 v u e hp c r => k a.1 a.2 G1 H1 v u e hp c r (PostAS.ext (o := f a) h e (by rw [hp]; simp))
  | err c x => exact h
  | bad => exact h
theorem SArg.cons {o : Res (α × μ)} {t : α × μ → Res (τ × μ)} (h1 : SE X Γ p m e o) (h2 : ∀ q : α × μ, SArg X Γ p q.2 es (t q)) (hs : starEach (e :: es) X.env = (false, eval e X.env) :: starEach es X.env := by rfl) :
    SArg X Γ p m (e :: es) (o.bind fun q => (t q).bind fun r => Res.ok ((q.1, r.1), r.2)) := fun σ G H Q u hΓ hG gp hp cm k => by
  refine AV.of (pa_cons (ev X e) (av X es) hs) ?_
  refine h1 σ G H _ u hΓ hG gp hp cm (PostS.bindA k fun a m1 G1 H1 v u1 e1 hp1 c1 r1 k1 => ?_)
  have gp1 : G1 p = Option.none := e1.fr p (by rw [hp]; simp) gp
  refine h2 (a, m1) σ G1 H1 _ u1 (hΓ.mono e1.gg) e1.gh gp1 hp1 c1 ?_
  cases q : t (a, m1) with
  | ok r =>
    rw [q] at k1
    exact fun G2 H2 vs o2 e2 hp2 c2 r2 => k1 G2 H2 (v :: vs) o2 e2 hp2 c2 ⟨v, vs, rfl, Rep.mono e2.gg r1, r2⟩
  | err c x => rw [q] at k1; exact k1
  | bad => rw [q] at k1; exact k1
theorem SArg.lcons {o : Res (α × μ)} {t : α × μ → Res (List α × μ)} (h1 : SE X Γ p m e o) (h2 : ∀ q : α × μ, SArg X Γ p q.2 es (t q)) (hs : starEach (e :: es) X.env = (false, eval e X.env) :: starEach es X.env := by rfl) :
    SArg X Γ p m (e :: es) (o.bind fun q => (t q).bind fun r => Res.ok (q.1 :: r.1, r.2)) := fun σ G H Q u hΓ hG gp hp cm k => by
  refine AV.of (pa_cons (ev X e) (av X es) hs) ?_
  refine h1 σ G H _ u hΓ hG gp hp cm (PostS.bindA k fun a m1 G1 H1 v u1 e1 hp1 c1 r1 k1 => ?_)
  have gp1 : G1 p = Option.none := e1.fr p (by rw [hp]; simp) gp
  refine h2 (a, m1) σ G1 H1 _ u1 (hΓ.mono e1.gg) e1.gh gp1 hp1 c1 ?_
  cases q : t (a, m1) with
  | ok r =>
    rw [q] at k1
    exact fun G2 H2 vs o2 e2 hp2 c2 r2 => k1 G2 H2 (v :: vs) o2 e2 hp2 c2 (.cons (Rep.mono e2.gg r1) r2)
  | err c x => rw [q] at k1; exact k1
  | bad => rw [q] at k1; exact k1
/-! ### displays -/
theorem PostA.bindR {σ : L2.St} {G H : Hp} {Q : VK} {Q1 : List V → Hp → Prop} {o : Res τ} {f : τ → Res β} (h : PostR X σ G H Q (o.bind f))
    (k : ∀ a G1 H1 vs, Ext G H G1 H1 → repA X.K G1 vs a → PostR X σ G1 H1 Q (f a) → Q1 vs H1) : PostA X σ G H Q1 o := by
  cases o with
  | ok a => exact fun G1 H1 v e r => k a G1 H1 v e r (PostR.ext (o := f a) h e)
  | err c x => exact h
  | bad => exact h
theorem PostAS.bindS {G H : Hp} {Q : VK} {Q1 : List V → Hp → Prop} {o : Res (τ × μ)} {f : τ × μ → Res (β × μ)} (h : PostS X p G H Q (o.bind f))
    (k : ∀ (a : τ) (m : μ) G1 H1 vs u, ExtP p G H G1 H1 → H1 p = Option.some u → crep X.K G1 u m → repA X.K G1 vs a → PostS X p G1 H1 Q (f (a, m)) → Q1 vs H1) : PostAS X p G H Q1 o := by
  cases o with
  | ok a => exact fun G1 H1 v u e hp c r => k a.1 a.2 G1 H1 v u e hp c r (PostS.ext (o := f a) h e (by rw [hp]; simp))
  | err c x => exact h
  | bad => exact h
/-- how a tuple's parts make it -/
structure Mk2 (τ ρ : Type) [RepA τ] [Rep ρ] (f : τ → ρ) : Prop where
  len : ∀ {K : PySem.W.Frag} {G : Hp} {vs : List V} {t : τ}, repA K G vs t → vs.length ≤ 16
  rp : ∀ {K : PySem.W.Frag} {G : Hp} {vs : List V} {t : τ} {p : Addr}, repA K G vs t → SqT K G p vs → rep K G (.ref p) (f t)
theorem mk1 : Mk2 (α × Unit) (T1 α) (fun t => ⟨t.1⟩) := ⟨fun h => by
  obtain ⟨v, r, rfl, h1, h2⟩ := h
  cases h2
  simp, fun h s => by
  obtain ⟨v, r, rfl, h1, h2⟩ := h
  cases h2
  exact ⟨_, v, rfl, s, h1⟩⟩
theorem mk2 : Mk2 (α × β × Unit) (α × β) (fun t => (t.1, t.2.1)) := ⟨fun h => by
  obtain ⟨v, r, rfl, h1, v2, r2, rfl, h2, h3⟩ := h
  cases h3
  simp, fun h s => by
  obtain ⟨v, r, rfl, h1, v2, r2, rfl, h2, h3⟩ := h
  cases h3
  exact ⟨_, v, v2, rfl, s, h1, h2⟩⟩
theorem mk3 : Mk2 (α × β × γ × Unit) (T3 α β γ) (fun t => ⟨t.1, t.2.1, t.2.2.1⟩) := ⟨fun h => by
  obtain ⟨v, r, rfl, h1, v2, r2, rfl, h2, v3, r3, rfl, h3, h4⟩ := h
  cases h4
  simp, fun h s => by
  obtain ⟨v, r, rfl, h1, v2, r2, rfl, h2, v3, r3, rfl, h3, h4⟩ := h
  cases h4
  exact ⟨_, v, v2, v3, rfl, s, h1, h2, h3⟩⟩
theorem mk4 : Mk2 (α × β × γ × δ × Unit) (T4 α β γ δ) (fun t => ⟨t.1, t.2.1, t.2.2.1, t.2.2.2.1⟩) := ⟨fun h => by
  obtain ⟨v, r, rfl, h1, v2, r2, rfl, h2, v3, r3, rfl, h3, v4, r4, rfl, h4, h5⟩ := h
  cases h5
  simp, fun h s => by
  obtain ⟨v, r, rfl, h1, v2, r2, rfl, h2, v3, r3, rfl, h3, v4, r4, rfl, h4, h5⟩ := h
  cases h5
  exact ⟨_, v, v2, v3, v4, rfl, s, h1, h2, h3, h4⟩⟩
theorem le_line {n : Nat} (h : n ≤ 1000000) : n ≤ sizeLine := Nat.le_trans h line_big
theorem RE.tup {ρ : Type} [Rep ρ] {f : τ → ρ} (mk : Mk2 τ ρ f) {k : Nat} {o : Res τ} (h : RArg X Γ es o) : RE X Γ (.Tuple es k pos) (o.bind fun t => .ok (f t)) := fun σ G H Q hΓ hG k => by
  refine EV.of (pe_tup (av X es)) ?_
  refine h σ G H _ hΓ hG (PostA.bindR k fun t G1 H1 vs e1 r1 k1 => ⟨le_line (Nat.le_trans (mk.len r1) (by decide : 16 ≤ 1000000)), fun q hq => ?_⟩)
  have e := Ext.new e1.gh (.tup vs) hq
  exact k1 _ _ _ e (mk.rp (RepA.mono e.gg r1) (.inl (.inl upd_same)))
theorem AE.tup {ρ : Type} [Rep ρ] {f : τ → ρ} (mk : Mk2 τ ρ f) {k : Nat} {t : τ} (h : AArg X Γ es t) : AE X Γ (.Tuple es k pos) (f t) := AE.ofR (RE.tup mk h)
theorem SE.tup {ρ : Type} [Rep ρ] {f : τ → ρ} (mk : Mk2 τ ρ f) {k : Nat} {o : Res (τ × μ)} (h : SArg X Γ p m es o) : SE X Γ p m (.Tuple es k pos) (o.bind fun t => .ok (f t.1, t.2)) := fun σ G H Q u hΓ hG gp hp cm k => by
  refine EV.of (pe_tup (av X es)) ?_
  refine h σ G H _ u hΓ hG gp hp cm (PostAS.bindS k fun t m1 G1 H1 vs u1 e1 hp1 c1 r1 k1 => ⟨le_line (Nat.le_trans (mk.len r1) (by decide : 16 ≤ 1000000)), fun q hq => ?_⟩)
  have e := Ext.new e1.gh (.tup vs) hq
  exact k1 _ _ _ _ e.toP (e.hh _ _ hp1) (CRep.mono e.gg c1) (mk.rp (RepA.mono e.gg r1) (.inl (.inl upd_same)))
variable {a b c d : Expr}
theorem A_tup1 {k : Nat} {x : α} (h1 : AE X Γ a x) (hs1 : starEach [a] X.env = (false, eval a X.env) :: starEach [] X.env := by rfl) : AE X Γ (.Tuple [a] k pos) (⟨x⟩ : T1 α) := AE.tup mk1 (AArg.cons h1 AArg.nil hs1)
theorem A_tup2 {k : Nat} {x : α} {y : β} (h1 : AE X Γ a x) (h2 : AE X Γ b y) (hs1 : starEach [a, b] X.env = (false, eval a X.env) :: starEach [b] X.env := by rfl) (hs2 : starEach [b] X.env = (false, eval b X.env) :: starEach [] X.env := by rfl) : AE X Γ (.Tuple [a, b] k pos) (x, y) := AE.tup mk2 (AArg.cons h1 (AArg.cons h2 AArg.nil hs2) hs1)
theorem R_tup2 {k : Nat} {x : Res α} {y : Res β} (h1 : RE X Γ a x) (h2 : RE X Γ b y) (hs1 : starEach [a, b] X.env = (false, eval a X.env) :: starEach [b] X.env := by rfl) (hs2 : starEach [b] X.env = (false, eval b X.env) :: starEach [] X.env := by rfl) : RE X Γ (.Tuple [a, b] k pos) (x.bind fun x => y.bind fun y => .ok (x, y)) := by
  have h := RE.tup (pos := pos) (k := k) mk2 (RArg.cons h1 (RArg.cons h2 RArg.nil hs2) hs1)
  cases x <;> cases y <;> exact h
theorem S_tup2 {k : Nat} {x : Res (α × μ)} {y : α × μ → Res (β × μ)} (h1 : SE X Γ p m a x) (h2 : ∀ q : α × μ, SE X Γ p q.2 b (y q)) (hs1 : starEach [a, b] X.env = (false, eval a X.env) :: starEach [b] X.env := by rfl) (hs2 : starEach [b] X.env = (false, eval b X.env) :: starEach [] X.env := by rfl) :
    SE X Γ p m (.Tuple [a, b] k pos) (x.bind fun q => (y q).bind fun q' => .ok ((q.1, q'.1), q'.2)) := by
  have h := SE.tup (pos := pos) (k := k) mk2 (SArg.cons h1 (fun q => SArg.cons (h2 q) (fun q' => SArg.nil) hs2) hs1)
  have e : (x.bind fun q => (y q).bind fun q' => Res.ok ((q.1, q'.1), q'.2)) = ((x.bind fun q => ((y q).bind fun q' => (Res.ok ((), q'.2)).bind fun r => Res.ok ((q'.1, r.1), r.2)).bind fun r => Res.ok ((q.1, r.1), r.2)).bind fun t => Res.ok ((t.1.1, t.1.2.1), t.2)) := by
    cases x with
    | ok q => simp only [Res.bind_ok]; cases y q <;> rfl
    | err _ _ => rfl
    | bad => rfl
  rw [e]; exact h
theorem A_tup3 {k : Nat} {x : α} {y : β} {z : γ} (h1 : AE X Γ a x) (h2 : AE X Γ b y) (h3 : AE X Γ c z) (hs1 : starEach [a, b, c] X.env = (false, eval a X.env) :: starEach [b, c] X.env := by rfl) (hs2 : starEach [b, c] X.env = (false, eval b X.env) :: starEach [c] X.env := by rfl) (hs3 : starEach [c] X.env = (false, eval c X.env) :: starEach [] X.env := by rfl) :
    AE X Γ (.Tuple [a, b, c] k pos) (⟨x, y, z⟩ : T3 α β γ) := AE.tup mk3 (AArg.cons h1 (AArg.cons h2 (AArg.cons h3 AArg.nil hs3) hs2) hs1)
theorem R_tup3 {k : Nat} {x : Res α} {y : Res β} {z : Res γ} (h1 : RE X Γ a x) (h2 : RE X Γ b y) (h3 : RE X Γ c z) (hs1 : starEach [a, b, c] X.env = (false, eval a X.env) :: starEach [b, c] X.env := by rfl) (hs2 : starEach [b, c] X.env = (false, eval b X.env) :: starEach [c] X.env := by rfl) (hs3 : starEach [c] X.env = (false, eval c X.env) :: starEach [] X.env := by rfl) :
    RE X Γ (.Tuple [a, b, c] k pos) (x.bind fun x => y.bind fun y => z.bind fun z => .ok (⟨x, y, z⟩ : T3 α β γ)) := by
  have h := RE.tup (pos := pos) (k := k) mk3 (RArg.cons h1 (RArg.cons h2 (RArg.cons h3 RArg.nil hs3) hs2) hs1)
  cases x <;> cases y <;> cases z <;> exact h
theorem A_tup4 {k : Nat} {x : α} {y : β} {z : γ} {u : δ} (h1 : AE X Γ a x) (h2 : AE X Γ b y) (h3 : AE X Γ c z) (h4 : AE X Γ d u) (hs1 : starEach [a, b, c, d] X.env = (false, eval a X.env) :: starEach [b, c, d] X.env := by rfl) (hs2 : starEach [b, c, d] X.env = (false, eval b X.env) :: starEach [c, d] X.env := by rfl) (hs3 : starEach [c, d] X.env = (false, eval c X.env) :: starEach [d] X.env := by rfl) (hs4 : starEach [d] X.env = (false, eval d X.env) :: starEach [] X.env := by rfl) :
    AE X Γ (.Tuple [a, b, c, d] k pos) (⟨x, y, z, u⟩ : T4 α β γ δ) := AE.tup mk4 (AArg.cons h1 (AArg.cons h2 (AArg.cons h3 (AArg.cons h4 AArg.nil hs4) hs3) hs2) hs1)
/-- [a, b, ..] -/
theorem RE.lst {o : Res (List α)} (h : RArg X Γ es o) : RE X Γ (.List es pos) (o.bind fun t => iff (t.length ≤ 64) t) := fun σ G H Q hΓ hG k => by
  refine EV.of (pe_lst (av X es)) ?_
  refine h σ G H _ hΓ hG (PostA.bindR k fun t G1 H1 vs e1 r1 k1 => ?_)
  by_cases hl : t.length ≤ 64
  · rw [iff_pos hl] at k1
    refine ⟨le_line (by rw [paired_len r1]; omega), fun q hq => ?_⟩
    have e := Ext.new e1.gh (.lst vs) hq
    exact k1 _ _ _ e ⟨q, vs, rfl, upd_same, paired_imp (fun _ _ z => Rep.mono e.gg z) r1⟩
  · unfold iff at k1
    rw [if_neg hl] at k1
    exact k1.elim
theorem SE.lst {o : Res (List α × μ)} (h : SArg X Γ p m es o) : SE X Γ p m (.List es pos) (o.bind fun t => iff (t.1.length ≤ 64) t) := fun σ G H Q u hΓ hG gp hp cm k => by
  refine EV.of (pe_lst (av X es)) ?_
  refine h σ G H _ u hΓ hG gp hp cm (PostAS.bindS k fun t m1 G1 H1 vs u1 e1 hp1 c1 r1 k1 => ?_)
  by_cases hl : t.length ≤ 64
  · rw [iff_pos (show (t, m1).1.length ≤ 64 from hl)] at k1
    refine ⟨le_line (by rw [paired_len r1]; omega), fun q hq => ?_⟩
    have e := Ext.new e1.gh (.lst vs) hq
    exact k1 _ _ _ _ e.toP (e.hh _ _ hp1) (CRep.mono e.gg c1) ⟨q, vs, rfl, upd_same, paired_imp (fun _ _ z => Rep.mono e.gg z) r1⟩
  · unfold iff at k1
    rw [if_neg (show ¬ (t, m1).1.length ≤ 64 from hl)] at k1
    exact k1.elim
theorem AE.lst {t : List α} (h : AArg X Γ es t) (hz : t.length ≤ 64 := by exact Nat.le_of_ble_eq_true rfl) : AE X Γ (.List es pos) t := AE.ofR (by
  have q := RE.lst (pos := pos) h
  rw [Res.bind_ok, iff_pos hz] at q
  exact q)
end
end Mr

/-! Mr6: calls of defs; what is walked; targets; comprehensions. -/
namespace Mr
open PySem PySem.Spec PyProof.Rows L2
open Rep (rep)
open ToD (toD)
open CRep (crep)
open RepA (repA)
universe u v
/-! ### what a def promises -/
section
variable {ρ τ μ : Type} [Rep ρ] [RepA τ] [CRep μ]
def PostF (K : PySem.W.Frag) (mg : Str → Option Value) (G H : Hp) (Q : VK) (E : XK) : Res ρ → Prop
  | .ok a => ∀ G' H' v, Ext G H G' H' → rep K G' v a → Q v H'
  | .err c x => ∃ C : Addr, mg c = some (.ref C) ∧ ∀ (H' : Hp) (d : Addr), Same H H' → H d = none → H' d = some (.xd [(fieldOf c, x)]) → E (.ref C) (some d) H'
  | .bad => False
def spM (K : PySem.W.Frag) (mg : Str → Option Value) (f : τ → Res ρ) : Sp := fun vs H Q E => ∃ G t, Same G H ∧ repA K G vs t ∧ PostF K mg G H Q E (f t)
/-- .. its first argument is an object that it writes -/
def spC (K : PySem.W.Frag) (f : μ → τ → Res (ρ × μ)) : Sp := fun vs H Q E => ∃ (p : Addr) (u : HO) (m : μ) (G : Hp) (t : τ) (vr : List V), vs = .ref p :: vr ∧ H p = some u ∧ crep K G u m ∧ G p = none ∧ Same G H ∧ repA K G vr t ∧
  match f m t with
  | .ok q => ∀ G' H' v o', ExtP p G H G' H' → H' p = some o' → crep K G' o' q.2 → rep K G' v q.1 → Q v H'
  | _ => False
/-- the module's def x keeps a promise -/
def Cal (P : Program) (w : World) (K : PySem.W.Frag) (mg : Str → Option Value) (base : Heap) (x : Str) (k : Nat) (sp : Sp) : Prop :=
  ∃ (f : Addr) (fd : FuncData) (ps : List Str), FnOk P w K mg base (L2.CX P w) k f fd ps sp ∧ mg x = some (.ref f) ∧ PySem.W.keepIn K (.ref f) = true ∧ Binds K fd ps []
end
section
variable {X : Cx} {Γ : List Slot} {pos px : Pos} {x : Str} {a e : Expr} {es : List Expr} {μ : Type} [CRep μ] {p : Addr} {m : μ} {k j : Nat}
variable {α β γ δ ρ τ : Type} [Rep α] [Rep β] [Rep γ] [Rep δ] [Rep ρ] [RepA τ]
theorem RE.call {fM : τ → Res ρ} (C : Cal X.prog X.w X.K X.mg X.base x k (spM X.K X.mg fM)) (hr : Room j X.A) (hg : Gl X x) {o : Res τ} (ha : RArg X Γ (e :: es) o) (hkj : k ≤ j := by decide)
    (hdb : (x == ("__debug__" : Str)) = false := by decide) (he : starEach (e :: es) X.env = (false, eval e X.env) :: starEach es X.env := by rfl) (hpl : (backTo pos (starEach es X.env)).any (·.1) = false := by rfl) : RE X Γ (.Call (.Name x px) (e :: es) [] pos) (o.bind fM) := by
  obtain ⟨f, fd, ps, F, hm, hk, hb⟩ := C
  intro σ G H Q hΓ hG q
  have go : ∀ W : WX, Takes X W → AV X (e :: es) σ H (fun vs H1 => spM X.K X.mg fM vs H1 Q (WE W σ)) → EV X (.Call (.Name x px) (e :: es) [] pos) σ H Q := fun W tk h =>
    EV.of (pe_callS F (hr.mono hkj) hg hm hk hb (fun σ => passAt tk σ) (av X (e :: es)) hdb he hpl) h
  cases o with
  | err c w => exact go _ takes0 (ha σ G H _ hΓ hG q)
  | bad => exact q.elim
  | ok t =>
    rw [Res.bind_ok] at q
    cases hf : fM t with
    | ok r =>
      rw [hf] at q
      exact go _ takes0 (ha σ G H _ hΓ hG fun G1 H1 vs e1 r1 => ⟨G1, t, e1.gh, r1, by rw [hf]; exact fun G' H' v e' r' => q G' H' v (e1.trans e') r'⟩)
    | err c w =>
      rw [hf] at q
      obtain ⟨W, tk, C, hC, q⟩ := q
      exact go W tk (ha σ G H _ hΓ hG fun G1 H1 vs e1 r1 => ⟨G1, t, e1.gh, r1, by rw [hf]; exact ⟨C, hC, fun H' d s n hd => q H' d (e1.hh.trans s) (e1.hh.free n) hd⟩⟩)
    | bad => rw [hf] at q; exact q.elim
theorem SE.call {fM : τ → Res ρ} (C : Cal X.prog X.w X.K X.mg X.base x k (spM X.K X.mg fM)) (hr : Room j X.A) (hg : Gl X x) {o : Res (τ × μ)} (ha : SArg X Γ p m (e :: es) o) (hkj : k ≤ j := by decide)
    (hdb : (x == ("__debug__" : Str)) = false := by decide) (he : starEach (e :: es) X.env = (false, eval e X.env) :: starEach es X.env := by rfl) (hpl : (backTo pos (starEach es X.env)).any (·.1) = false := by rfl) : SE X Γ p m (.Call (.Name x px) (e :: es) [] pos) (o.bind fun q => (fM q.1).bind fun d => .ok (d, q.2)) := by
  obtain ⟨f, fd, ps, F, hm, hk, hb⟩ := C
  intro σ G H Q u hΓ hG gp hp cm q
  refine EV.of (pe_callS F (hr.mono hkj) hg hm hk hb (fun σ => passAt takes0 σ) (av X (e :: es)) hdb he hpl) ?_
  refine ha σ G H _ u hΓ hG gp hp cm (PostAS.bindS q fun t m1 G1 H1 vs u1 e1 hp1 c1 r1 k1 => ⟨G1, t, e1.gh, r1, ?_⟩)
  have k1' : PostS X p G1 H1 Q ((fM t).bind fun d => .ok (d, m1)) := k1
  cases hf : fM t with
  | ok r => rw [hf] at k1'; exact fun G' H' v e' r' => k1' G' H' v u1 e'.toP (e'.hh _ _ hp1) (CRep.mono e'.gg c1) r'
  | err c w => rw [hf] at k1'; exact k1'.elim
  | bad => rw [hf] at k1'; exact k1'.elim
/-- f(d, ..), the object at d written -/
theorem SE.callC {fM : μ → τ → Res (ρ × μ)} (C : Cal X.prog X.w X.K X.mg X.base x k (spC X.K fM)) (hr : Room j X.A) (hg : Gl X x) {i : Nat} {y : Str} {py : Pos} (hy : getS Γ i = some ⟨i, CRef, ⟨p⟩⟩) {o : Res (τ × μ)} (ha : SArg X Γ p m es o) (hkj : k ≤ j := by decide)
    (hN : X.N[i]? = some y := by rfl) (hv : Vis X.env.scope y := by first | exact Or.inl rfl | exact Or.inr (Or.inl rfl) | exact Or.inr (Or.inr rfl)) (hd : (y == ("__debug__" : Str)) = false := by decide) (hcd : (y == ("__classdict__" : Str)) = false := by decide)
    (hdb : (x == ("__debug__" : Str)) = false := by decide) (he : starEach (.Name y py :: es) X.env = (false, eval (.Name y py) X.env) :: starEach es X.env := by rfl) (hpl : (backTo pos (starEach es X.env)).any (·.1) = false := by rfl) :
    SE X Γ p m (.Call (.Name x px) (.Name y py :: es) [] pos) (o.bind fun q => fM q.2 q.1) := by
  obtain ⟨f, fd, ps, F, hm, hk, hb⟩ := C
  intro σ G H Q u hΓ hG gp hp cm q
  refine EV.of (pe_callS F (hr.mono hkj) hg hm hk hb (fun σ => passAt takes0 σ) (pa_cons (pe_var hN hv hd hcd) (av X es) he) hdb he hpl) ?_
  obtain ⟨v, h1, h2⟩ := hΓ _ _ hy
  cases h2
  refine ⟨_, h1, ?_⟩
  refine ha σ G H _ u hΓ hG gp hp cm (PostAS.bindS q fun t m1 G1 H1 vs u1 e1 hp1 c1 r1 k1 => ⟨p, u1, m1, G1, t, vs, rfl, hp1, c1, e1.fr p (by rw [hp]; simp) gp, e1.gh, r1, ?_⟩)
  have k1' : PostS X p G1 H1 Q (fM m1 t) := k1
  cases hf : fM m1 t with
  | ok r => rw [hf] at k1'; exact k1'
  | err c w => rw [hf] at k1'; exact k1'.elim
  | bad => rw [hf] at k1'; exact k1'.elim

/-! ### what is walked -/
structure Yields (K : PySem.W.Frag) (J : It) (G : Hp) (xs : List α) : Prop where
  len : xs.length ≤ sizeLine
  go : ∀ i H, i < xs.length → Same G H → J.go i H
  stop : ∀ i H, xs.length ≤ i → Same G H → J.stop i H
  yld : ∀ i x G1 H v H', xs[i]? = some x → Same G G1 → Same G1 H → J.yld i H v H' → ∃ G2, Ext G1 H G2 H' ∧ rep K G2 v x
def IV (X : Cx) (tg iter : Expr) : TI := fun σ H R => ∀ pins s, Inv X pins σ H s → wpAny (model X.prog X.w) X.A (eval iter X.env) (fun v s1 => wpAny (model X.prog X.w) X.A (pyIter v) (PIE X pins σ tg R) X.xe s1) X.xe s
theorem iv (X : Cx) (tg iter : Expr) : PI X tg iter (IV X tg iter) := ⟨fun pins s σ H R I h => h pins s I⟩
theorem IV.of {tg iter : Expr} {wi : TI} (h : PI X tg iter wi) {σ : L2.St} {H : Hp} {R : It → Hp → Prop} (q : wi σ H R) : IV X tg iter σ H R := fun pins s I => h.run pins s σ H R I q
def PostI (X : Cx) (σ : L2.St) (G H : Hp) (R : It → Hp → Prop) : Res (List α) → Prop
  | .ok xs => ∀ J G' H', Ext G H G' H' → Yields X.K J G' xs → R J H'
  | .err c x => Wish X σ H c x
  | .bad => False
def IE (X : Cx) (Γ : List Slot) (tg iter : Expr) (o : Res (List α)) : Prop := ∀ (σ : L2.St) (G H : Hp) (R : It → Hp → Prop), EnvOk X.K G σ Γ → Same G H → PostI X σ G H R o → IV X tg iter σ H R
def PostIS (X : Cx) (p : Addr) (G H : Hp) (R : It → Hp → Prop) : Res (List α × μ) → Prop
  | .ok q => ∀ J G' H' o', ExtP p G H G' H' → H' p = some o' → crep X.K G' o' q.2 → Yields X.K J G' q.1 → R J H'
  | _ => False
def IS (X : Cx) (Γ : List Slot) (p : Addr) (m : μ) (tg iter : Expr) (o : Res (List α × μ)) : Prop := ∀ (σ : L2.St) (G H : Hp) (R : It → Hp → Prop) (u : HO), EnvOk X.K G σ Γ → Same G H → G p = none → H p = some u → crep X.K G u m → PostIS X p G H R o → IV X tg iter σ H R
theorem IS.ofI {tg iter : Expr} {o : Res (List α)} (h : IE X Γ tg iter o) : IS X Γ p m tg iter (o.bind fun a => .ok (a, m)) := fun σ G H R u hΓ hG gp hp cm k => by
  refine h σ G H R hΓ hG ?_
  cases o with
  | ok a => exact fun J G' H' e y => k J G' H' u e.toP (e.hh _ _ hp) (CRep.mono e.gg cm) y
  | err c x => exact k.elim
  | bad => exact k
theorem PostI.bindR {σ : L2.St} {G H : Hp} {Q : It → Hp → Prop} {Q1 : VK} {o : Res α} {f : α → Res (List β)} (h : PostI X σ G H Q (o.bind f))
    (k : ∀ a G1 H1 v, Ext G H G1 H1 → rep X.K G1 v a → (∀ G2 H2, Ext G1 H1 G2 H2 → PostI X σ G2 H2 Q (f a)) → Q1 v H1) : PostR X σ G H Q1 o := by
  cases o with
  | ok a =>
    refine fun G1 H1 v e r => k a G1 H1 v e r fun G2 H2 e2 => ?_
    rw [Res.bind_ok] at h
    cases q : f a with
    | ok xs => rw [q] at h; exact fun J G' H' e' y => h J G' H' ((e.trans e2).trans e') y
    | err c x => rw [q] at h; exact Wish.mono h (e.trans e2).hh
    | bad => rw [q] at h; exact h
  | err c x => exact h
  | bad => exact h
theorem PostIS.bindS {G H : Hp} {Q : It → Hp → Prop} {Q1 : VK} {o : Res (α × μ)} {f : α × μ → Res (List β × μ)} (h : PostIS X p G H Q (o.bind f))
    (k : ∀ (a : α) (m : μ) G1 H1 v u, ExtP p G H G1 H1 → H1 p = Option.some u → crep X.K G1 u m → rep X.K G1 v a → PostIS X p G1 H1 Q (f (a, m)) → Q1 v H1) : PostS X p G H Q1 o := by
  cases o with
  | ok a =>
    refine fun G1 H1 v u e hp c r => k a.1 a.2 G1 H1 v u e hp c r ?_
    rw [Res.bind_ok] at h
    cases q : f a with
    | ok xs => rw [q] at h; exact fun J G' H' o' e' q1 q2 y => h J G' H' o' (e.trans e' (by rw [hp]; simp)) q1 q2 y
    | err c x => rw [q] at h; exact h
    | bad => rw [q] at h; exact h
  | err c x => exact h
  | bad => exact h
/-- behind an expression there is a state -/
theorem EV.inv' {e : Expr} {σ : L2.St} {H : Hp} {Q : VK} (h : EV X e σ H (fun v H' => (∃ pins s, Inv X pins σ H' s) → Q v H')) : EV X e σ H Q := fun pins s I =>
  thn (h pins s I) fun u s' ⟨v, H', I', r, q⟩ => ⟨v, H', I', r, q ⟨pins, s', I'⟩⟩
theorem lst_len {pins : List (Addr × Obj)} {σ : L2.St} {H : Hp} {s : Shared} (I : Inv X pins σ H s) {q : Addr} {vs : List V} (h : H q = some (.lst vs)) : vs.length ≤ sizeLine := (I.hok q _ h).1
theorem yields_list {G : Hp} {q : Addr} {vs : List V} {xs : List α} (hq : G q = some (.lst vs)) (hp : Paired (rep X.K G) vs xs) (hl : vs.length ≤ sizeLine) : Yields X.K (Itl X.K q) G xs where
  len := by rw [← paired_len hp]; exact hl
  go := fun i H hi e => by
    obtain ⟨v, h1, _⟩ := paired_get (y := xs[i]) hp (List.getElem?_eq_getElem hi)
    exact ⟨vs, v, lsq e hq, h1⟩
  stop := fun i H hi e => ⟨vs, lsq e hq, by rw [paired_len hp]; exact hi⟩
  yld := fun i x G1 H v H' hx e1 e2 y => by
    obtain ⟨rfl, y⟩ := y
    obtain ⟨v', h1, h2⟩ := paired_get hp hx
    have : v = v' := Option.some.inj ((y vs (lsq e2 (e1 _ _ hq))).symm.trans h1)
    subst this
    exact ⟨G1, Ext.refl e2, Rep.mono e1 h2⟩
theorem IE.list {tg iter : Expr} {o : Res (List α)} (h : RE X Γ iter o) : IE X Γ tg iter o := fun σ G H R hΓ hG k => by
  refine IV.of (pi_list (ev X iter)) ?_
  refine EV.inv' (h σ G H _ hΓ hG ?_)
  cases o with
  | ok xs =>
    rintro G1 H1 v e ⟨q, vs, rfl, hq, hp⟩ ⟨pins, s, I⟩
    exact ⟨q, rfl, ⟨vs, lsq e.gh hq⟩, k _ G1 H1 e (yields_list hq hp (lst_len I (e.gh _ _ hq)))⟩
  | err c x => exact k
  | bad => exact k
theorem IS.list {tg iter : Expr} {o : Res (List α × μ)} (h : SE X Γ p m iter o) : IS X Γ p m tg iter o := fun σ G H R u hΓ hG gp hp cm k => by
  refine IV.of (pi_list (ev X iter)) ?_
  refine EV.inv' (h σ G H _ u hΓ hG gp hp cm ?_)
  cases o with
  | ok xs =>
    rintro G1 H1 v o' e h1 h2 ⟨q, vs, rfl, hq, hpd⟩ ⟨pins, s, I⟩
    exact ⟨q, rfl, ⟨vs, lsq e.gh hq⟩, k _ G1 H1 o' e h1 h2 (yields_list hq hpd (lst_len I (e.gh _ _ hq)))⟩
  | err c x => exact k
  | bad => exact k
theorem tup_len {pins : List (Addr × Obj)} {σ : L2.St} {H : Hp} {s : Shared} (I : Inv X pins σ H s) {q : Addr} {vs : List V} (h : SqT X.K H q vs) : vs.length ≤ sizeLine := by
  obtain ⟨its, rv, _, hz⟩ := I.tuple h
  first
    | exact hz
    | (rw [rv.length]; exact hz)
    | (rw [rv.length]; simpa using hz)
theorem IE.vt {tg iter : Expr} {o : Res (VT α)} (h : RE X Γ iter o) : IE X Γ tg iter (o.bind fun q => .ok q.xs) := fun σ G H R hΓ hG k => by
  refine IV.of (pi_tup (ev X iter)) ?_
  refine EV.inv' (h σ G H _ hΓ hG ?_)
  cases o with
  | ok xs =>
    rintro G1 H1 v e ⟨q, vs, rfl, hq, hp⟩ ⟨pins, s, I⟩
    refine ⟨q, rfl, ⟨vs, same_seqT e.gh hq⟩, k _ G1 H1 e ⟨by rw [← paired_len hp]; exact tup_len I (same_seqT e.gh hq), fun i H hi e => ?_, fun i H hi e => ⟨vs, same_seqT e hq, by rw [paired_len hp]; exact hi⟩, fun i x G2 H v H' hx e1 e2 y => ?_⟩⟩
    · obtain ⟨v, h1, _⟩ := paired_get (y := xs.xs[i]) hp (List.getElem?_eq_getElem hi)
      exact ⟨vs, v, same_seqT e hq, h1⟩
    · obtain ⟨rfl, y⟩ := y
      obtain ⟨v', h1, h2⟩ := paired_get hp hx
      have : v = v' := Option.some.inj ((y vs (same_seqT e2 (same_seqT e1 hq))).symm.trans h1)
      subst this
      exact ⟨G2, Ext.refl e2, Rep.mono e1 h2⟩
  | err c x => exact k
  | bad => exact k
/-- lo, lo + 1, .. -/
def rngL (lo : Int) (n : Nat) : List Int := (List.range n).map fun k : Nat => lo + (k : Int)
def rng1R (n : Int) : Res (List Int) := iff (-1000000 ≤ n ∧ n ≤ 1000000) (rngL 0 n.toNat)
def rng2R (i j : Int) : Res (List Int) := iff ((-400000 ≤ i ∧ i ≤ 400000) ∧ (-400000 ≤ j ∧ j ≤ 400000)) (rngL i (j - i).toNat)
theorem rngL_len (lo : Int) (n : Nat) : (rngL lo n).length = n := by unfold rngL; simp
theorem rngL_get {lo : Int} {n i : Nat} {x : Int} (h : (rngL lo n)[i]? = some x) : x = lo + (i : Int) := by
  unfold rngL at h
  rw [List.getElem?_map] at h
  cases q : (List.range n)[i]? with
  | none => rw [q] at h; cases h
  | some z =>
    rw [q] at h
    have e : z = i := by
      have := List.getElem?_range (n := n) (i := i)
      obtain ⟨h1, h2⟩ := List.getElem?_eq_some_iff.mp q
      rw [← h2]; simp
    subst e
    exact (Option.some.inj h).symm
theorem yields_rng {K : PySem.W.Frag} {G : Hp} {lo : Int} {n : Nat} (hl : n ≤ sizeLine) : Yields K (Itr lo n) G (rngL lo n) where
  len := by rw [rngL_len]; exact hl
  go := fun i H hi e => by rw [rngL_len] at hi; exact hi
  stop := fun i H hi e => by rw [rngL_len] at hi; exact hi
  yld := fun i x G1 H v H' hx e1 e2 y => by
    obtain ⟨rfl, rfl⟩ := y
    exact ⟨G1, Ext.refl e2, by rw [rngL_get hx]; rfl⟩
theorem IE.rng1 {tg : Expr} {o : Res Int} (hm : X.mg "range" = none) (hg : Gl X "range") (h : RE X Γ a o) (hs : starEach [a] X.env = [(false, eval a X.env)] := by rfl) : IE X Γ tg (.Call (.Name "range" px) [a] [] pos) (o.bind rng1R) := fun σ G H R hΓ hG k => by
  refine IV.of (pi_range1 hg hm (pa_cons (ev X a) pa_nil hs) hs) ?_
  refine h σ G H _ hΓ hG (PostI.bindR k fun n G1 H1 v e r k1 => ?_)
  cases r
  have k2 := k1 G1 H1 (Ext.refl e.gh)
  cases q : rng1R n with
  | ok xs =>
    obtain ⟨⟨b1, b2⟩, rfl⟩ := iff_ok q
    rw [q] at k2
    exact ⟨n, rfl, by omega, by omega, k2 _ G1 H1 (Ext.refl e.gh) (yields_rng (le_line (by omega)))⟩
  | err c w => exact absurd q iff_ne
  | bad => rw [q] at k2; exact k2.elim
theorem IS.rng1 {tg : Expr} {o : Res (Int × μ)} (hm : X.mg "range" = none) (hg : Gl X "range") (h : SE X Γ p m a o) (hs : starEach [a] X.env = [(false, eval a X.env)] := by rfl) : IS X Γ p m tg (.Call (.Name "range" px) [a] [] pos) (o.bind fun q => (rng1R q.1).bind fun d => .ok (d, q.2)) := fun σ G H R u hΓ hG gp hp cm k => by
  refine IV.of (pi_range1 hg hm (pa_cons (ev X a) pa_nil hs) hs) ?_
  refine h σ G H _ u hΓ hG gp hp cm (PostIS.bindS k fun n m1 G1 H1 v u1 e hp1 c1 r k1 => ?_)
  cases r
  have k2 : PostIS X p G1 H1 R ((rng1R n).bind fun d => .ok (d, m1)) := k1
  cases q : rng1R n with
  | ok xs =>
    obtain ⟨⟨b1, b2⟩, rfl⟩ := iff_ok q
    rw [q] at k2
    exact ⟨n, rfl, by omega, by omega, k2 _ G1 H1 u1 (Ext.refl e.gh).toP hp1 c1 (yields_rng (le_line (by omega)))⟩
  | err c w => exact absurd q iff_ne
  | bad => rw [q] at k2; exact k2.elim
theorem IE.rng2 {tg b : Expr} {o : Res Int} {o2 : Res Int} (hm : X.mg "range" = none) (hg : Gl X "range") (h : RE X Γ a o) (h2 : RE X Γ b o2) (hs : starEach [a, b] X.env = [(false, eval a X.env), (false, eval b X.env)] := by rfl) (hs2 : starEach [b] X.env = [(false, eval b X.env)] := by rfl) : IE X Γ tg (.Call (.Name "range" px) [a, b] [] pos) (o.bind fun i => o2.bind fun j => rng2R i j) := fun σ G H R hΓ hG k => by
  refine IV.of (pi_range2 hg hm (pa_cons (ev X a) (pa_cons (ev X b) pa_nil hs2) (by rw [hs, hs2])) hs hs2) ?_
  refine h σ G H _ hΓ hG (PostI.bindR k fun n G1 H1 v e r k1 => ?_)
  refine h2 σ G1 H1 _ (hΓ.mono e.gg) e.gh (PostI.bindR (k1 G1 H1 (Ext.refl e.gh)) fun n2 G2 H2 v2 e2 r2 k2 => ?_)
  cases r; cases r2
  have k3 := k2 G2 H2 (Ext.refl e2.gh)
  cases q : rng2R n n2 with
  | ok xs =>
    obtain ⟨⟨⟨b1, b2⟩, b3, b4⟩, rfl⟩ := iff_ok q
    rw [q] at k3
    exact ⟨n, n2, rfl, ⟨by omega, by omega, by omega, by omega⟩, k3 _ G2 H2 (Ext.refl e2.gh) (yields_rng (le_line (by omega)))⟩
  | err c w => exact absurd q iff_ne
  | bad => rw [q] at k3; exact k3.elim
end
end Mr

/-! Mr7: zip, enumerate, texts walked; targets; comprehensions. -/
namespace Mr
open PySem PySem.Spec PyProof.Rows L2
open Rep (rep)
open ToD (toD)
open CRep (crep)
open RepA (repA)
universe u v
section
variable {X : Cx} {Γ : List Slot} {pos px : Pos} {x : Str} {a b e : Expr} {es : List Expr} {μ : Type} [CRep μ] {p : Addr} {m : μ} {k j : Nat}
variable {α β γ δ ρ τ : Type} [Rep α] [Rep β] [Rep γ] [Rep δ] [Rep ρ] [RepA τ]
theorem getElem?_zip' {xs : List α} {ys : List β} {i : Nat} {q : α × β} (h : (xs.zip ys)[i]? = some q) : xs[i]? = some q.1 ∧ ys[i]? = some q.2 := by
  rw [List.getElem?_zip_eq_some] at h
  exact h
theorem yields_zip {G : Hp} {q1 q2 : Addr} {vs us : List V} {xs : List α} {ys : List β} (h1 : G q1 = some (.lst vs)) (h2 : G q2 = some (.lst us)) (hp1 : Paired (rep X.K G) vs xs) (hp2 : Paired (rep X.K G) us ys) (hl : vs.length ≤ sizeLine) : Yields X.K (Itz X.K q1 q2) G (xs.zip ys) where
  len := by rw [List.length_zip, ← paired_len hp1]; exact Nat.le_trans (Nat.min_le_left _ _) hl
  go := fun i H hi e => by
    rw [List.length_zip] at hi
    obtain ⟨v, e1, _⟩ := paired_get (y := xs[i]) hp1 (List.getElem?_eq_getElem (by omega))
    obtain ⟨u, e2, _⟩ := paired_get (y := ys[i]) hp2 (List.getElem?_eq_getElem (by omega))
    exact ⟨vs, us, v, u, lsq e h1, lsq e h2, e1, e2⟩
  stop := fun i H hi e => by
    rw [List.length_zip] at hi
    exact ⟨vs, us, lsq e h1, lsq e h2, by rw [paired_len hp1, paired_len hp2]; omega⟩
  yld := fun i q G1 H v H' hq e1 e2 y => by
    obtain ⟨T, x1, x2, rfl, hT, rfl, f1, f2⟩ := y
    obtain ⟨g1, g2⟩ := getElem?_zip' hq
    obtain ⟨v1, a1, b1⟩ := paired_get hp1 g1
    obtain ⟨v2, a2, b2⟩ := paired_get hp2 g2
    have z1 : x1 = v1 := Option.some.inj ((f1 vs (lsq e2 (e1 _ _ h1))).symm.trans a1)
    have z2 : x2 = v2 := Option.some.inj ((f2 us (lsq e2 (e1 _ _ h2))).symm.trans a2)
    subst z1; subst z2
    have en := Ext.new e2 (.tup [x1, x2]) hT
    exact ⟨_, en, T, x1, x2, rfl, .inl (.inl upd_same), Rep.mono (e1.trans en.gg) b1, Rep.mono (e1.trans en.gg) b2⟩
theorem AV.inv' {es : List Expr} {σ : L2.St} {H : Hp} {Q : List V → Hp → Prop} (h : AV X es σ H (fun v H' => (∃ pins s, Inv X pins σ H' s) → Q v H')) : AV X es σ H Q := fun pos pins s I =>
  thn (h pos pins s I) fun u s' ⟨v, H', I', r, q⟩ => ⟨v, H', I', r, q ⟨pins, s', I'⟩⟩
theorem PostA.bindI {σ : L2.St} {G H : Hp} {Q : It → Hp → Prop} {Q1 : List V → Hp → Prop} {o : Res τ} {f : τ → List β} (h : PostI X σ G H Q (o.bind fun t => .ok (f t)))
    (k : ∀ a G1 H1 vs, Ext G H G1 H1 → repA X.K G1 vs a → (∀ J, Yields X.K J G1 (f a) → Q J H1) → Q1 vs H1) : PostA X σ G H Q1 o := by
  cases o with
  | ok a => exact fun G1 H1 v e r => k a G1 H1 v e r fun J y => h J G1 H1 e y
  | err c x => exact h
  | bad => exact h
theorem IE.zip {elts : List Expr} {kk : Nat} {tpos : Pos} {o1 : Res (List α)} {o2 : Res (List β)} (hm : X.mg "zip" = none) (hg : Gl X "zip") (h1 : RE X Γ a o1) (h2 : RE X Γ b o2) (hs : starEach [a, b] X.env = (false, eval a X.env) :: starEach [b] X.env := by rfl) (hs2 : starEach [b] X.env = (false, eval b X.env) :: starEach [] X.env := by rfl) (hpl : (backTo pos (starEach [b] X.env)).any (·.1) = false := by rfl) :
    IE X Γ (.Tuple elts kk tpos) (.Call (.Name "zip" px) [a, b] [] pos) (o1.bind fun xs => o2.bind fun ys => .ok (xs.zip ys)) := fun σ G H R hΓ hG k => by
  refine IV.of (pi_zip hg hm (av X [a, b]) hs hpl) ?_
  have k' : PostI X σ G H R ((o1.bind fun a => (o2.bind fun b => (Res.ok ()).bind fun r => Res.ok (b, r)).bind fun r => Res.ok (a, r)).bind fun t => .ok (t.1.zip t.2.1)) := by
    cases o1 <;> cases o2 <;> exact k
  refine AV.inv' (RArg.cons h1 (RArg.cons h2 RArg.nil hs2) hs σ G H _ hΓ hG (PostA.bindI k' fun t G1 H1 vs e1 r1 k1 => ?_))
  rintro ⟨pins, s, I⟩
  obtain ⟨v1, r, rfl, ⟨q1, us1, rfl, g1, p1⟩, v2, r2, rfl, ⟨q2, us2, rfl, g2, p2⟩, h3⟩ := r1
  cases h3
  exact ⟨q1, q2, us1, us2, rfl, lsq e1.gh g1, lsq e1.gh g2, k1 _ (yields_zip g1 g2 p1 p2 (lst_len I (e1.gh _ _ g1)))⟩
/-- enumerate -/
def enumL {α : Type} (xs : List α) : List (Int × α) := (rngL 0 xs.length).zip xs
theorem enumL_get {xs : List α} {i : Nat} {q : Int × α} (h : (enumL xs)[i]? = some q) : q.1 = (i : Int) ∧ xs[i]? = some q.2 := by
  unfold enumL at h
  obtain ⟨h1, h2⟩ := getElem?_zip' h
  exact ⟨by rw [rngL_get h1]; omega, h2⟩
theorem enumL_len (xs : List α) : (enumL xs).length = xs.length := by unfold enumL; rw [List.length_zip, rngL_len]; simp
theorem yields_enum {G : Hp} {q1 : Addr} {vs : List V} {xs : List α} (h1 : G q1 = some (.lst vs)) (hp1 : Paired (rep X.K G) vs xs) (hl : vs.length ≤ sizeLine) : Yields X.K (Ite X.K q1) G (enumL xs) where
  len := by rw [enumL_len, ← paired_len hp1]; exact hl
  go := fun i H hi e => by
    rw [enumL_len] at hi
    obtain ⟨v, e1, _⟩ := paired_get (y := xs[i]) hp1 (List.getElem?_eq_getElem hi)
    exact ⟨vs, v, lsq e h1, e1⟩
  stop := fun i H hi e => by
    rw [enumL_len] at hi
    exact ⟨vs, lsq e h1, by rw [paired_len hp1]; exact hi⟩
  yld := fun i q G1 H v H' hq e1 e2 y => by
    obtain ⟨T, x1, rfl, hT, rfl, f1⟩ := y
    obtain ⟨g1, g2⟩ := enumL_get hq
    obtain ⟨v1, a1, b1⟩ := paired_get hp1 g2
    have z1 : x1 = v1 := Option.some.inj ((f1 vs (lsq e2 (e1 _ _ h1))).symm.trans a1)
    subst z1
    have en := Ext.new e2 (.tup [.int (i : Nat), x1]) hT
    exact ⟨_, en, T, .int (i : Nat), x1, rfl, .inl (.inl upd_same), by rw [g1]; rfl, Rep.mono (e1.trans en.gg) b1⟩
theorem IE.enum {elts : List Expr} {kk : Nat} {tpos : Pos} {o1 : Res (List α)} (hm : X.mg "enumerate" = none) (hg : Gl X "enumerate") (h1 : RE X Γ a o1) (hs : starEach [a] X.env = [(false, eval a X.env)] := by rfl) :
    IE X Γ (.Tuple elts kk tpos) (.Call (.Name "enumerate" px) [a] [] pos) (o1.bind fun xs => .ok (enumL xs)) := fun σ G H R hΓ hG k => by
  refine IV.of (pi_enum hg hm (pa_cons (ev X a) pa_nil hs) hs) ?_
  refine EV.inv' (h1 σ G H _ hΓ hG (PostI.bindR k fun xs G1 H1 v e r k1 => ?_))
  rintro ⟨pins, s, I⟩
  obtain ⟨q1, us1, rfl, g1, p1⟩ := r
  exact ⟨q1, us1, rfl, lsq e.gh g1, k1 G1 H1 (Ext.refl e.gh) _ G1 H1 (Ext.refl e.gh) (yields_enum g1 p1 (lst_len I (e.gh _ _ g1)))⟩
/-- the signs of a text -/
def signs (x : Str) : List Str := x.cps.toList.map fun c => ⟨#[c]⟩
theorem IE.str {tg iter : Expr} {o : Res Str} (h : RE X Γ iter o) : IE X Γ tg iter (o.bind fun x => iff (x.cps.size ≤ 1000000) (signs x)) := fun σ G H R hΓ hG k => by
  refine IV.of (pi_str (ev X iter)) ?_
  refine h σ G H _ hΓ hG (PostI.bindR k fun x G1 H1 v e r k1 => ?_)
  cases r
  have k2 := k1 G1 H1 (Ext.refl e.gh)
  by_cases hz : x.cps.size ≤ 1000000
  · rw [iff_pos hz] at k2
    have hlen : (signs x).length = x.cps.size := by unfold signs; simp
    refine ⟨x, rfl, k2 _ G1 H1 (Ext.refl e.gh) ⟨by rw [hlen]; exact le_line hz, fun i H hi e => by rw [hlen] at hi; exact hi, fun i H hi e => by rw [hlen] at hi; exact hi, fun i y G2 H v H' hy e1 e2 q => ?_⟩⟩
    obtain ⟨rfl, c, hc, rfl⟩ := q
    refine ⟨G2, Ext.refl e2, ?_⟩
    unfold signs at hy
    rw [List.getElem?_map, Array.getElem?_toList, hc] at hy
    exact (congrArg V.str (Option.some.inj hy))
  · unfold iff at k2
    rw [if_neg hz] at k2
    exact k2.elim
/-! ### targets -/
def GA (X : Cx) (tg : Expr) (is : List Nat) (bd : α → List Slot) : Prop := ∀ (σ : L2.St) (G H : Hp) (v : V) (x : α) (Q : L2.St → Hp → Prop) (Γ : List Slot), EnvOk X.K G σ Γ → Same G H → rep X.K G v x →
  (∀ σ', EnvOk X.K G σ' (bd x ++ Γ) → σ'.length = σ.length → (∀ vs : List Nat, (∀ i ∈ is, i ∈ vs) → wipe σ' vs = wipe σ vs) → Q σ' H) → GV X tg v σ H Q
theorem GV.inv {tg : Expr} {v : V} {σ : L2.St} {H : Hp} {Q : L2.St → Hp → Prop} (h : (∃ pins s, Inv X pins σ H s) → GV X tg v σ H Q) : GV X tg v σ H Q := fun pins s u I r => h ⟨pins, s, I⟩ pins s u I r
theorem wipe_get {σ : L2.St} {i : Nat} : ∀ (vs : List Nat), (wipe σ vs)[i]? = if i ∈ vs then (σ[i]?).map (fun _ => none) else σ[i]?
  | [] => by simp [wipe]
  | v :: vs => by
    unfold wipe
    by_cases h : i = v
    · subst h
      by_cases hl : i < σ.length
      · rw [List.getElem?_set_self (by rw [wipe_length]; exact hl)]
        simp [List.getElem?_eq_getElem hl]
      · have e : σ[i]? = none := List.getElem?_eq_none_iff.mpr (by omega)
        have e2 : ((wipe σ vs).set i none)[i]? = none := List.getElem?_eq_none_iff.mpr (by rw [List.length_set, wipe_length]; omega)
        rw [e2, e]; simp
    · rw [List.getElem?_set_ne (Ne.symm h), wipe_get vs]
      simp [h]
theorem wipe_set {σ : L2.St} {i : Nat} {v : Option V} {vs : List Nat} (h : i ∈ vs) : wipe (σ.set i v) vs = wipe σ vs := by
  apply List.ext_getElem?
  intro n
  rw [wipe_get, wipe_get]
  by_cases hn : n ∈ vs
  · rw [if_pos hn, if_pos hn]
    by_cases e : i = n
    · subst e
      by_cases hl : i < σ.length
      · rw [List.getElem?_set_self hl, List.getElem?_eq_getElem hl]; rfl
      · have e1 : σ[i]? = none := List.getElem?_eq_none_iff.mpr (by omega)
        have e2 : (σ.set i v)[i]? = none := List.getElem?_eq_none_iff.mpr (by rw [List.length_set]; omega)
        rw [e1, e2]
    · rw [List.getElem?_set_ne e]
  · rw [if_neg hn, if_neg hn, List.getElem?_set_ne (fun e => hn (by rw [← e]; exact h))]
theorem wipe_idem {σ : L2.St} {vs : List Nat} : wipe (wipe σ vs) vs = wipe σ vs := by
  apply List.ext_getElem?
  intro n
  rw [wipe_get, wipe_get]
  by_cases hn : n ∈ vs
  · rw [if_pos hn, if_pos hn, Option.map_map]; rfl
  · rw [if_neg hn, if_neg hn]
theorem GA.name (i : Nat) (hN : X.N.Nodup) (hi : X.N[i]? = some x) (hx : Loc X.env.scope x) (hf : X.fn x = true ∨ X.env.scope.names.lookup x = some .local := by first | exact .inl rfl | exact .inr rfl | assumption) : GA X (.Name x pos) [i] (fun a : α => [⟨i, α, a⟩]) := fun σ G H v y Q Γ hΓ hG r k => by
  refine GV.inv fun ⟨pins, s, I⟩ => GV.of (pg_name hN hi hx hf) (k _ ?_ (List.length_set ..) fun vs h => wipe_set (h i (by simp)))
  exact hΓ.set (by rw [I.len]; exact (List.getElem?_eq_some_iff.mp hi).1) r
theorem GA.pair {is1 is2 : List Nat} {bd1 : α → List Slot} {bd2 : β → List Slot} {kk : Nat} (hc : X.calm = true) (h1 : GA X a is1 bd1) (h2 : GA X b is2 bd2)
    (hn : (assignEach [a, b] X.env).length = 2 := by rfl) (hst : (assignEach [a, b] X.env).findIdx? (·.1) = none := by rfl) (hs1 : (assignEach [a, b] X.env).map (·.2) = assign a X.env :: (assignEach [b] X.env).map (·.2) := by rfl) (hs2 : (assignEach [b] X.env).map (·.2) = assign b X.env :: (assignEach [] X.env).map (·.2) := by rfl) :
    GA X (.Tuple [a, b] kk pos) (is1 ++ is2) (fun q : α × β => bd2 q.2 ++ bd1 q.1) := fun σ G H v y Q Γ hΓ hG r k => by
  refine GV.of (pg_tup hc (pgs_cons (gv X a) (pgs_cons (gv X b) pgs_nil hs2) hs1) hn hst) ?_
  obtain ⟨q, v1, v2, rfl, hq, r1, r2⟩ := r
  refine ⟨q, _, rfl, same_seqT hG hq, rfl, v1, _, rfl, h1 σ G H v1 y.1 _ Γ hΓ hG r1 fun σ1 g1 l1 w1 => ⟨v2, _, rfl, h2 σ1 G H v2 y.2 _ _ g1 hG r2 fun σ2 g2 l2 w2 => ⟨rfl, ?_⟩⟩⟩
  refine k σ2 (by rw [List.append_assoc]; exact g2) (l2.trans l1) fun vs h => (w2 vs fun i hi => h i (List.mem_append_right _ hi)).trans (w1 vs fun i hi => h i (List.mem_append_left _ hi))
theorem GA.trip {c : Expr} {is1 is2 is3 : List Nat} {bd1 : α → List Slot} {bd2 : β → List Slot} {bd3 : γ → List Slot} {kk : Nat} (hc : X.calm = true) (h1 : GA X a is1 bd1) (h2 : GA X b is2 bd2) (h3 : GA X c is3 bd3)
    (hn : (assignEach [a, b, c] X.env).length = 3 := by rfl) (hst : (assignEach [a, b, c] X.env).findIdx? (·.1) = none := by rfl) (hs1 : (assignEach [a, b, c] X.env).map (·.2) = assign a X.env :: (assignEach [b, c] X.env).map (·.2) := by rfl) (hs2 : (assignEach [b, c] X.env).map (·.2) = assign b X.env :: (assignEach [c] X.env).map (·.2) := by rfl) (hs3 : (assignEach [c] X.env).map (·.2) = assign c X.env :: (assignEach [] X.env).map (·.2) := by rfl) :
    GA X (.Tuple [a, b, c] kk pos) (is1 ++ (is2 ++ is3)) (fun q : T3 α β γ => bd3 q.c ++ (bd2 q.b ++ bd1 q.a)) := fun σ G H v y Q Γ hΓ hG r k => by
  refine GV.of (pg_tup hc (pgs_cons (gv X a) (pgs_cons (gv X b) (pgs_cons (gv X c) pgs_nil hs3) hs2) hs1) hn hst) ?_
  obtain ⟨q, v1, v2, v3, rfl, hq, r1, r2, r3⟩ := r
  refine ⟨q, _, rfl, same_seqT hG hq, rfl, v1, _, rfl, h1 σ G H v1 y.a _ Γ hΓ hG r1 fun σ1 g1 l1 w1 => ⟨v2, _, rfl, h2 σ1 G H v2 y.b _ _ g1 hG r2 fun σ2 g2 l2 w2 => ⟨v3, _, rfl, h3 σ2 G H v3 y.c _ _ g2 hG r3 fun σ3 g3 l3 w3 => ⟨rfl, ?_⟩⟩⟩⟩
  refine k σ3 (by rw [List.append_assoc, List.append_assoc]; exact g3) (l3.trans (l2.trans l1)) fun vs h => (w3 vs fun i hi => h i (by simp [hi])).trans ((w2 vs fun i hi => h i (by simp [hi])).trans (w1 vs fun i hi => h i (by simp [hi])))
theorem GA.quad {c d : Expr} {is1 is2 is3 is4 : List Nat} {bd1 : α → List Slot} {bd2 : β → List Slot} {bd3 : γ → List Slot} {bd4 : δ → List Slot} {kk : Nat} (hc : X.calm = true) (h1 : GA X a is1 bd1) (h2 : GA X b is2 bd2) (h3 : GA X c is3 bd3) (h4 : GA X d is4 bd4)
    (hn : (assignEach [a, b, c, d] X.env).length = 4 := by rfl) (hst : (assignEach [a, b, c, d] X.env).findIdx? (·.1) = none := by rfl) (hs1 : (assignEach [a, b, c, d] X.env).map (·.2) = assign a X.env :: (assignEach [b, c, d] X.env).map (·.2) := by rfl) (hs2 : (assignEach [b, c, d] X.env).map (·.2) = assign b X.env :: (assignEach [c, d] X.env).map (·.2) := by rfl) (hs3 : (assignEach [c, d] X.env).map (·.2) = assign c X.env :: (assignEach [d] X.env).map (·.2) := by rfl) (hs4 : (assignEach [d] X.env).map (·.2) = assign d X.env :: (assignEach [] X.env).map (·.2) := by rfl) :
    GA X (.Tuple [a, b, c, d] kk pos) (is1 ++ (is2 ++ (is3 ++ is4))) (fun q : T4 α β γ δ => bd4 q.d ++ (bd3 q.c ++ (bd2 q.b ++ bd1 q.a))) := fun σ G H v y Q Γ hΓ hG r k => by
  refine GV.of (pg_tup hc (pgs_cons (gv X a) (pgs_cons (gv X b) (pgs_cons (gv X c) (pgs_cons (gv X d) pgs_nil hs4) hs3) hs2) hs1) hn hst) ?_
  obtain ⟨q, v1, v2, v3, v4, rfl, hq, r1, r2, r3, r4⟩ := r
  refine ⟨q, _, rfl, same_seqT hG hq, rfl, v1, _, rfl, h1 σ G H v1 y.a _ Γ hΓ hG r1 fun σ1 g1 l1 w1 => ⟨v2, _, rfl, h2 σ1 G H v2 y.b _ _ g1 hG r2 fun σ2 g2 l2 w2 => ⟨v3, _, rfl, h3 σ2 G H v3 y.c _ _ g2 hG r3 fun σ3 g3 l3 w3 => ⟨v4, _, rfl, h4 σ3 G H v4 y.d _ _ g3 hG r4 fun σ4 g4 l4 w4 => ⟨rfl, ?_⟩⟩⟩⟩⟩
  refine k σ4 (by rw [List.append_assoc, List.append_assoc, List.append_assoc]; exact g4) (l4.trans (l3.trans (l2.trans l1))) fun vs h => (w4 vs fun i hi => h i (by simp [hi])).trans ((w3 vs fun i hi => h i (by simp [hi])).trans ((w2 vs fun i hi => h i (by simp [hi])).trans (w1 vs fun i hi => h i (by simp [hi]))))
/-! ### comprehensions -/
def dropS (vs : List Nat) : List Slot → List Slot
  | [] => []
  | s :: r => cond (vs.any fun i => Nat.beq i s.i) (dropS vs r) (s :: dropS vs r)
theorem dropS_get {vs : List Nat} {i : Nat} {s : Slot} : ∀ {Γ : List Slot}, getS (dropS vs Γ) i = some s → getS Γ i = some s ∧ i ∉ vs
  | [], h => by cases h
  | t :: r, h => by
    unfold dropS at h
    cases q : (vs.any fun i => Nat.beq i t.i) with
    | true =>
      rw [q] at h
      obtain ⟨h1, h2⟩ := dropS_get (Γ := r) h
      refine ⟨?_, h2⟩
      unfold getS
      have : Nat.beq t.i i = false := by
        cases z : Nat.beq t.i i with
        | false => rfl
        | true =>
          have e := Nat.eq_of_beq_eq_true z
          obtain ⟨j, hj, hb⟩ := List.any_eq_true.mp q
          have e2 := Nat.eq_of_beq_eq_true hb
          exact absurd (by rw [← e, ← e2]; exact hj) h2
      rw [this]; exact h1
    | false =>
      rw [q] at h
      have h' : getS (t :: dropS vs r) i = some s := h
      unfold getS at h' ⊢
      cases z : Nat.beq t.i i with
      | true =>
        rw [z] at h'
        refine ⟨h', fun hv => ?_⟩
        have e := Nat.eq_of_beq_eq_true z
        have : (vs.any fun i => Nat.beq i t.i) = true := List.any_eq_true.mpr ⟨i, hv, by rw [e]; exact Nat.beq_refl i⟩
        rw [q] at this; cases this
      | false => rw [z] at h'; exact dropS_get (Γ := r) h'
theorem EnvOk.wipe {K : PySem.W.Frag} {G : Hp} {σ : L2.St} {Γ : List Slot} (h : EnvOk K G σ Γ) (vs : List Nat) : EnvOk K G (L2.wipe σ vs) (dropS vs Γ) := fun i s q => by
  obtain ⟨q1, q2⟩ := dropS_get q
  obtain ⟨v, h1, h2⟩ := h i s q1
  exact ⟨v, by rw [wipe_get, if_neg q2]; exact h1, h2⟩
def Blk (X : Cx) (scope : Scope) (P : Cx → Prop) : Prop := ∀ (s : Shared) (H : Hp) (C : Addr) (cl : List (Str × Addr)) (fp : List Addr), P (X.blk s H scope (compEnvC scope cl C X.env) fp)
/-- a clause's tests -/
def QV (X : Cx) (ifs : List Expr) : TT := fun σ H Q => ∀ pins s, Inv X pins σ H s → wpAny (model X.prog X.w) X.A (forIn ifs true fun c r => if r = true then do let ok ← isTrue c X.env (eval c X.env); pure (ForInStep.yield ok) else pure (ForInStep.yield r)) (TP X pins σ Q) X.xe s
theorem qv (X : Cx) (ifs : List Expr) : PTs X ifs (QV X ifs) := ⟨fun pins s σ H Q I h => h pins s I⟩
theorem QV.of {ifs : List Expr} {t : TT} (h : PTs X ifs t) {σ : L2.St} {H : Hp} {Q : Bool → Hp → Prop} (q : t σ H Q) : QV X ifs σ H Q := fun pins s I => h.run pins s σ H Q I q
def QR (X : Cx) (Γ : List Slot) (ifs : List Expr) (o : Res Bool) : Prop := ∀ (σ : L2.St) (G H : Hp) (Q : Bool → Hp → Prop), EnvOk X.K G σ Γ → Same G H → PostT X σ G H Q o → QV X ifs σ H Q
theorem QR.nil : QR X Γ [] (.ok true) := fun σ G H Q hΓ hG k => QV.of pts_nil (k G H (Ext.refl hG))
theorem QR.one {o : Res Bool} (h : TR X Γ a o) : QR X Γ [a] o := fun σ G H Q hΓ hG k => QV.of (pts_one (tv X a)) (h σ G H Q hΓ hG k)
def lcR (t : α → Res Bool) (f : α → Res β) : List α → Res (List β)
  | [] => .ok []
  | x :: xs => (t x).bind fun b => cond b ((f x).bind fun y => (lcR t f xs).bind fun ys => .ok (y :: ys)) (lcR t f xs)
theorem lcR_map (f : α → β) : ∀ xs : List α, lcR (fun _ => .ok true) (fun x => .ok (f x)) xs = .ok (xs.map f)
  | [] => rfl
  | x :: xs => by unfold lcR; rw [lcR_map f xs]; rfl
theorem lcR_filter (t : α → Bool) (f : α → β) : ∀ xs : List α, lcR (fun x => .ok (t x)) (fun x => .ok (f x)) xs = .ok ((xs.filter t).map f)
  | [] => rfl
  | x :: xs => by
    unfold lcR
    rw [lcR_filter t f xs]
    cases h : t x <;> simp [Res.bind, h]
def lcS {μ : Type} (t : α → Res Bool) (f : μ → α → Res (β × μ)) : List α → μ → Res (List β × μ)
  | [], m => .ok ([], m)
  | x :: xs, m => (t x).bind fun b => cond b ((f m x).bind fun q => (lcS t f xs q.2).bind fun r => .ok (q.1 :: r.1, r.2)) (lcS t f xs m)
/-- a new object of one's own -/
def PostFr {μ : Type} [CRep μ] (X : Cx) (σ : L2.St) (G H : Hp) (Q : VK) : Res μ → Prop
  | .ok m => ∀ G' H' p u, Ext G H G' H' → H p = none → G' p = none → H' p = some u → crep X.K G' u m → Q (.ref p) H'
  | .err c x => Wish X σ H c x
  | .bad => False
def FR {μ : Type} [CRep μ] (X : Cx) (Γ : List Slot) (e : Expr) (o : Res μ) : Prop := ∀ (σ : L2.St) (G H : Hp) (Q : VK), EnvOk X.K G σ Γ → Same G H → PostFr X σ G H Q o → EV X e σ H Q
theorem PostR.fr {σ : L2.St} {G H : Hp} {Q : VK} {o : Res (List β)} (h : PostR X σ G H Q o) : PostFr X σ G H Q o := by
  cases o with
  | err c x => exact h
  | bad => exact h
  | ok xs =>
    rintro G' H' q u e hq gq hu ⟨vs, rfl, hp⟩
    have en : Same G' (upd G' q (.lst vs)) := same_upd gq
    refine h (upd G' q (.lst vs)) H' (.ref q) ⟨e.hh, e.gg.trans en, fun b o hb => ?_, fun b h1 h2 => ?_⟩ ⟨q, vs, rfl, upd_same, paired_imp (fun _ _ z => Rep.mono en z) hp⟩
    · by_cases hbq : b = q
      · subst hbq; rw [upd_same] at hb; rw [← hb]; exact hu
      · rw [upd_ne hbq] at hb; exact e.gh b o hb
    · rw [upd_ne (fun z => h1 (by rw [z]; exact hq))]; exact e.fr b h1 h2
theorem RE.ofF {o : Res (List β)} (h : FR X Γ e o) : RE X Γ e o := fun σ G H Q hΓ hG k => h σ G H Q hΓ hG (PostR.fr k)
/-- the state of a comprehension -/
structure LcAt (X : Cx) (G1 H1 : Hp) (D : Addr) (G H : Hp) (acc : List β) (i : Nat) : Prop where
  hh : Same H1 H
  gg : Same G1 G
  gh : Same G H
  fr : ∀ p, H1 p ≠ none → G1 p = none → G p = none
  gD : G D = none
  at_ : ∃ vs, H D = some (.lst vs) ∧ Paired (rep X.K G) vs acc ∧ vs.length ≤ i
theorem lc_read {tg iter : Expr} {vs is : List Nat} {g : TG} {tt : TT} {te : TE} {bd : α → List Slot} {t : α → Res Bool} {f : α → Res β} {σ : L2.St} {G0 H0 : Hp} {Q : VK} {o : Res (List α)}
    (his : ∀ i ∈ is, i ∈ vs)
    (hg : ∀ (σ : L2.St) (G H : Hp) (v : V) (x : α) (Q : L2.St → Hp → Prop) (Γ : List Slot), EnvOk X.K G σ Γ → Same G H → rep X.K G v x → (∀ σ', EnvOk X.K G σ' (bd x ++ Γ) → σ'.length = σ.length → (∀ vs : List Nat, (∀ i ∈ is, i ∈ vs) → wipe σ' vs = wipe σ vs) → Q σ' H) → g v σ H Q)
    (ht : ∀ x b, t x = .ok b → ∀ (σ : L2.St) (G H : Hp) (Q : Bool → Hp → Prop), EnvOk X.K G σ (bd x ++ dropS vs Γ) → Same G H → (∀ G' H', Ext G H G' H' → Q b H') → tt σ H Q)
    (hf : ∀ x y, f x = .ok y → ∀ (σ : L2.St) (G H : Hp) (Q : VK), EnvOk X.K G σ (bd x ++ dropS vs Γ) → Same G H → (∀ G' H' v, Ext G H G' H' → rep X.K G' v y → Q v H') → te σ H Q)
    (hi : IE X Γ tg iter o) (hΓ : EnvOk X.K G0 σ Γ) (hG : Same G0 H0) (k : PostFr X σ G0 H0 Q (o.bind fun xs => (lcR t f xs).hard)) : tLc (IV X tg iter) g tt te vs σ H0 Q := by
  refine hi σ G0 H0 _ hΓ hG ?_
  cases o with
  | err c w => exact k
  | bad => exact k
  | ok xs =>
    rw [Res.bind_ok] at k
    cases hq : lcR t f xs with
    | err c w => rw [hq] at k; exact k.elim
    | bad => rw [hq] at k; exact k.elim
    | ok zs =>
    rw [hq] at k
    have k : ∀ G' H' p u, Ext G0 H0 G' H' → H0 p = none → G' p = none → H' p = some u → crep X.K G' u zs → Q (.ref p) H' := k
    intro J G1 H1 e1 Y D hD
    refine ⟨fun i n H => n = xs.length - i ∧ i ≤ xs.length ∧ ∃ acc rest G, LcAt X G1 H1 D G H acc i ∧ lcR t f (xs.drop i) = .ok rest ∧ acc ++ rest = zs, ⟨xs.length, by simp, Nat.zero_le _, [], zs, G1, ?_, hq, rfl⟩, ?_⟩
    · refine ⟨same_upd hD, Same.refl _, e1.gh.trans (same_upd hD), fun _ _ h => h, e1.gh.free hD, [], upd_same, .nil, Nat.le_refl _⟩
    · rintro i n H ⟨rfl, hi, acc, rest, G, L, hr, hz⟩
      obtain ⟨us, hus, hp, hl⟩ := L.at_
      by_cases hlt : i < xs.length
      · refine .inr ⟨Y.go i H hlt (L.gg.trans L.gh), fun H' => ∃ n', n' = xs.length - (i + 1) ∧ i + 1 ≤ xs.length ∧ ∃ acc rest G, LcAt X G1 H1 D G H' acc (i + 1) ∧ lcR t f (xs.drop (i + 1)) = .ok rest ∧ acc ++ rest = zs, fun H' ⟨n', e, w⟩ => ⟨n', by omega, e, w⟩, ?_⟩
        intro v H' hy
        have hx : xs[i]? = some xs[i] := List.getElem?_eq_getElem hlt
        obtain ⟨G2, e2, r2⟩ := Y.yld i _ G H v H' hx L.gg L.gh hy
        have hw : EnvOk X.K G2 (L2.wipe σ vs) (dropS vs Γ) := (hΓ.mono (e1.gg.trans (L.gg.trans e2.gg))).wipe vs
        rw [List.drop_eq_getElem_cons hlt] at hr
        unfold lcR at hr
        have gD2 : G2 D = none := e2.fr D (by rw [hus]; simp) L.gD
        refine hg _ G2 H' v _ _ _ hw e2.gh r2 fun σ2 g2 l2 w2 => ⟨?_, ?_⟩
        · rw [w2 vs his, wipe_idem]
        · cases htx : t xs[i] with
          | err c w => rw [htx] at hr; cases hr
          | bad => rw [htx] at hr; cases hr
          | ok b =>
            rw [htx, Res.bind_ok] at hr
            refine ht _ b htx σ2 G2 H' _ g2 e2.gh fun G3 H3 e3 => ?_
            have gD3 : G3 D = none := e3.fr D (by rw [e2.hh _ _ hus]; simp) gD2
            cases b with
            | false =>
              rw [if_neg (by decide)]
              exact ⟨_, rfl, hlt, acc, rest, G3, ⟨L.hh.trans (e2.trans e3).hh, L.gg.trans (e2.trans e3).gg, e3.gh, fun q h1 h2 => (e2.trans e3).fr q (same_ne L.hh h1) (L.fr q h1 h2), gD3, us, (e2.trans e3).hh _ _ hus, paired_imp (fun _ _ z => Rep.mono (e2.trans e3).gg z) hp, by omega⟩, hr, hz⟩
            | true =>
              rw [if_pos rfl]
              rw [cond_true] at hr
              cases hfx : f xs[i] with
              | err c w => rw [hfx] at hr; cases hr
              | bad => rw [hfx] at hr; cases hr
              | ok y =>
                rw [hfx, Res.bind_ok] at hr
                cases hrest : lcR t f (xs.drop (i + 1)) with
                | err c w => rw [hrest] at hr; cases hr
                | bad => rw [hrest] at hr; cases hr
                | ok rest' =>
                  rw [hrest, Res.bind_ok] at hr
                  cases hr
                  refine hf _ y hfx σ2 G3 H3 _ (g2.mono e3.gg) e3.gh fun G4 H4 v4 e4 r4 => ?_
                  have e24 := e2.trans (e3.trans e4)
                  have gD4 : G4 D = none := e4.fr D (by rw [(e2.trans e3).hh _ _ hus]; simp) gD3
                  have h4 := e24.hh _ _ hus
                  refine ⟨us, h4, ?_, _, rfl, hlt, acc ++ [y], rest', G4, ⟨fun q w hw' => ?_, L.gg.trans e24.gg, fun q w hw' => ?_, fun q h1 h2 => e24.fr q (same_ne L.hh h1) (L.fr q h1 h2), gD4, us ++ [v4], upd_same, paired_append (paired_imp (fun _ _ z => Rep.mono e24.gg z) hp) (.cons r4 .nil), by rw [List.length_append]; simp; omega⟩, rfl, by rw [List.append_assoc]; exact hz⟩
                  · have := Y.len; omega
                  · rw [upd_ne (ne_of_none hw' hD)]; exact e24.hh _ _ (L.hh _ _ hw')
                  · rw [upd_ne (ne_of_none hw' gD4)]; exact e4.gh _ _ hw'
      · refine .inl ⟨Y.stop i H (by omega) (L.gg.trans L.gh), ?_⟩
        have ei : xs.drop i = [] := List.drop_eq_nil_of_le (by omega)
        rw [ei] at hr
        cases hr
        rw [List.append_nil] at hz
        subst hz
        exact k G H D (.lst us) ⟨e1.hh.trans L.hh, e1.gg.trans L.gg, L.gh, fun q h1 h2 => L.fr q (same_ne e1.hh h1) (e1.fr q h1 h2)⟩ (e1.hh.free hD) L.gD hus ⟨us, rfl, hp⟩
end
end Mr

/-! Mr8: comprehensions as expressions; objects that are written; statements. -/
namespace Mr
open PySem PySem.Spec PyProof.Rows L2
open Rep (rep)
open ToD (toD)
open CRep (crep)
open RepA (repA)
universe u v
section
variable {X : Cx} {Γ : List Slot} {pos px : Pos} {x : Str} {a b e : Expr} {es : List Expr} {μ : Type} [CRep μ] {p : Addr} {m : μ} {k j : Nat}
variable {α β γ δ ρ τ : Type} [Rep α] [Rep β] [Rep γ] [Rep δ] [Rep ρ] [RepA τ]
theorem FR.lc {tg iter elt : Expr} {ifs : List Expr} {scope : Scope} {own : List (Str × Nat)} {is : List Nat} {bd : α → List Slot} {o : Res (List α)} {t : α → Res Bool} {f : α → Res β} (hc : X.calm = true) (hN : X.N.Nodup) (ok : BlkOk X.N X.env.scope scope own) (hi : IE X Γ tg iter o)
    (his : ∀ i ∈ is, i ∈ own.map (·.2)) (hg : Blk X scope fun Y => GA Y tg is bd) (ht : ∀ x, Blk X scope fun Y => QR Y (bd x ++ dropS (own.map (·.2)) Γ) ifs (t x)) (he : ∀ x, Blk X scope fun Y => RE Y (bd x ++ dropS (own.map (·.2)) Γ) elt (f x))
    (hs : ∀ x, foldedSetIterable iter X.env x = pure x := by intro _; rfl) : FR X Γ (.ListComp elt [⟨tg, iter, ifs, 0⟩] scope pos) (o.bind fun xs => (lcR t f xs).hard) := fun σ G H Q hΓ hG k => by
  refine EV.of (pe_lc (g := fun v σ H Q => ∀ s0 H0 C cl fp, GV (X.blk s0 H0 scope (compEnvC scope cl C X.env) fp) tg v σ H Q) (tt := fun σ H Q => ∀ s0 H0 C cl fp, QV (X.blk s0 H0 scope (compEnvC scope cl C X.env) fp) ifs σ H Q)
    (te := fun σ H Q => ∀ s0 H0 C cl fp, EV (X.blk s0 H0 scope (compEnvC scope cl C X.env) fp) elt σ H Q) hc hN (iv X tg iter) ok (fun s0 H0 C cl fp => ⟨fun pins s σ H v u Q I r h => h s0 H0 C cl fp pins s u I r⟩) (fun s0 H0 C cl fp => ⟨fun pins s σ H Q I h => h s0 H0 C cl fp pins s I⟩)
    (fun s0 H0 C cl fp => ⟨fun pins s σ H Q I h => h s0 H0 C cl fp pins s I⟩) hs) ?_
  refine lc_read (t := t) (f := f) (bd := bd) his (fun σ G H v x Q Γ h1 h2 h3 k s0 H0 C cl fp => hg s0 H0 C cl fp σ G H v x Q Γ h1 h2 h3 k) (fun x b hb σ G H Q h1 h2 k s0 H0 C cl fp => ?_) (fun x y hy σ G H Q h1 h2 k s0 H0 C cl fp => ?_) hi hΓ hG k
  · refine ht x s0 H0 C cl fp σ G H Q h1 h2 ?_
    rw [hb]; exact k
  · refine he x s0 H0 C cl fp σ G H Q h1 h2 ?_
    rw [hy]; exact k
theorem RE.lc {tg iter elt : Expr} {ifs : List Expr} {scope : Scope} {own : List (Str × Nat)} {is : List Nat} {bd : α → List Slot} {o : Res (List α)} {t : α → Res Bool} {f : α → Res β} (hc : X.calm = true) (hN : X.N.Nodup) (ok : BlkOk X.N X.env.scope scope own) (hi : IE X Γ tg iter o)
    (his : ∀ i ∈ is, i ∈ own.map (·.2)) (hg : Blk X scope fun Y => GA Y tg is bd) (ht : ∀ x, Blk X scope fun Y => QR Y (bd x ++ dropS (own.map (·.2)) Γ) ifs (t x)) (he : ∀ x, Blk X scope fun Y => RE Y (bd x ++ dropS (own.map (·.2)) Γ) elt (f x))
    (hs : ∀ x, foldedSetIterable iter X.env x = pure x := by intro _; rfl) : RE X Γ (.ListComp elt [⟨tg, iter, ifs, 0⟩] scope pos) (o.bind fun xs => (lcR t f xs).hard) := RE.ofF (FR.lc hc hN ok hi his hg ht he hs)
theorem AE.lcm {tg iter elt : Expr} {scope : Scope} {own : List (Str × Nat)} {is : List Nat} {bd : α → List Slot} {xs : List α} {f : α → β} (hc : X.calm = true) (hN : X.N.Nodup) (ok : BlkOk X.N X.env.scope scope own) (hi : IE X Γ tg iter (.ok xs))
    (his : ∀ i ∈ is, i ∈ own.map (·.2)) (hg : Blk X scope fun Y => GA Y tg is bd) (he : ∀ x, Blk X scope fun Y => AE Y (bd x ++ dropS (own.map (·.2)) Γ) elt (f x))
    (hs : ∀ x, foldedSetIterable iter X.env x = pure x := by intro _; rfl) : AE X Γ (.ListComp elt [⟨tg, iter, [], 0⟩] scope pos) (xs.map f) := AE.ofR (by
  have h := RE.lc (pos := pos) (t := fun _ => .ok true) (f := fun x => .ok (f x)) hc hN ok hi his hg (fun x s0 H0 C cl fp => QR.nil) (fun x s0 H0 C cl fp => RE.ofA (he x s0 H0 C cl fp)) hs
  rw [Res.bind_ok, lcR_map] at h
  exact h)
theorem AE.lcf {tg iter elt c : Expr} {scope : Scope} {own : List (Str × Nat)} {is : List Nat} {bd : α → List Slot} {xs : List α} {t : α → Bool} {f : α → β} (hc : X.calm = true) (hN : X.N.Nodup) (ok : BlkOk X.N X.env.scope scope own) (hi : IE X Γ tg iter (.ok xs))
    (his : ∀ i ∈ is, i ∈ own.map (·.2)) (hg : Blk X scope fun Y => GA Y tg is bd) (ht : ∀ x, Blk X scope fun Y => TA Y (bd x ++ dropS (own.map (·.2)) Γ) c (t x)) (he : ∀ x, Blk X scope fun Y => AE Y (bd x ++ dropS (own.map (·.2)) Γ) elt (f x))
    (hs : ∀ x, foldedSetIterable iter X.env x = pure x := by intro _; rfl) : AE X Γ (.ListComp elt [⟨tg, iter, [c], 0⟩] scope pos) ((xs.filter t).map f) := AE.ofR (by
  have h := RE.lc (pos := pos) (t := fun x => .ok (t x)) (f := fun x => .ok (f x)) hc hN ok hi his hg (fun x s0 H0 C cl fp => QR.one (TR.ofA (ht x s0 H0 C cl fp))) (fun x s0 H0 C cl fp => RE.ofA (he x s0 H0 C cl fp)) hs
  rw [Res.bind_ok, lcR_filter] at h
  exact h)
end
/-! ### objects that are written -/
structure Cell : Type 1 where
  p : Addr
  μ : Type
  [inst : CRep μ]
  m : μ
structure Stt (K : PySem.W.Frag) (H0 G0 G : Hp) (cs : List Cell) (H : Hp) : Prop where
  hh : Same H0 H
  gg : Same G0 G
  gh : Same G H
  fr : ∀ p, H0 p ≠ none → G0 p = none → G p = none
  at_ : ∀ (n : Nat) (c : Cell), cs[n]? = some c → ∃ u, H c.p = some u ∧ c.inst.crep K G u c.m ∧ G c.p = none ∧ H0 c.p = none
  nd : (cs.map (·.p)).Nodup
section
variable {K : PySem.W.Frag} {H0 G0 G H G' H' : Hp} {cs cs' : List Cell}
theorem Stt.ext (S : Stt K H0 G0 G cs H) (e : Ext G H G' H') : Stt K H0 G0 G' cs H' where
  hh := S.hh.trans e.hh
  gg := S.gg.trans e.gg
  gh := e.gh
  fr := fun p h1 h2 => e.fr p (same_ne S.hh h1) (S.fr p h1 h2)
  at_ := fun n c hc => by
    obtain ⟨u, h1, h2, h3, h4⟩ := S.at_ n c hc
    exact ⟨u, e.hh _ _ h1, c.inst.mono e.gg h2, e.fr _ (by rw [h1]; simp) h3, h4⟩
  nd := S.nd
theorem nd_cells {n m : Nat} {c d : Cell} (h : (cs.map (·.p)).Nodup) (h1 : cs[n]? = some c) (h2 : cs[m]? = some d) (e : c.p = d.p) : n = m := by
  have a1 : (cs.map (·.p))[n]? = some c.p := by rw [List.getElem?_map, h1]; rfl
  have a2 : (cs.map (·.p))[m]? = some c.p := by rw [List.getElem?_map, h2, e]; rfl
  exact nd_ix h a1 a2
theorem Stt.put (S : Stt K H0 G0 G cs H) {n : Nat} {c : Cell} (hc : cs[n]? = some c) {μ : Type} [CRep μ] {m : μ} {u : HO} (e : ExtP c.p G H G' H') (h1 : H' c.p = some u) (h2 : crep K G' u m) : Stt K H0 G0 G' (cs.set n ⟨c.p, μ, m⟩) H' := by
  obtain ⟨u0, q1, q2, q3, q4⟩ := S.at_ n c hc
  have hn : n < cs.length := (List.getElem?_eq_some_iff.mp hc).1
  refine ⟨fun b o h => ?_, S.gg.trans e.gg, e.gh, fun b g1 g2 => e.fr b (same_ne S.hh g1) (S.fr b g1 g2), fun i d hd => ?_, ?_⟩
  · have hb : b ≠ c.p := fun z => by rw [z, q4] at h; cases h
    exact e.hh b o hb (S.hh b o h)
  · by_cases hi : n = i
    · subst hi
      rw [List.getElem?_set_self hn] at hd
      cases hd
      exact ⟨u, h1, h2, e.fr _ (by rw [q1]; simp) q3, q4⟩
    · rw [List.getElem?_set_ne hi] at hd
      obtain ⟨w, w1, w2, w3, w4⟩ := S.at_ i d hd
      have hp : d.p ≠ c.p := fun z => hi (nd_cells S.nd hc hd z.symm)
      exact ⟨w, e.hh _ _ hp w1, d.inst.mono e.gg w2, e.fr _ (by rw [w1]; simp) w3, w4⟩
  · have : (cs.set n ⟨c.p, μ, m⟩).map (·.p) = cs.map (·.p) := by
      apply List.ext_getElem?
      intro i
      rw [List.getElem?_map, List.getElem?_map]
      by_cases hi : n = i
      · subst hi; rw [List.getElem?_set_self hn, hc]; rfl
      · rw [List.getElem?_set_ne hi]
    rw [this]; exact S.nd
theorem Stt.new (S : Stt K H0 G0 G cs H) {p : Addr} {μ : Type} [CRep μ] {m : μ} {u : HO} (e : Ext G H G' H') (hp : H p = none) (hg : G' p = none) (h1 : H' p = some u) (h2 : crep K G' u m) : Stt K H0 G0 G' (⟨p, μ, m⟩ :: cs) H' := by
  have S' := S.ext e
  have ne : ∀ (n : Nat) (c : Cell), cs[n]? = some c → c.p ≠ p := fun n c hc z => by
    obtain ⟨u0, q1, _⟩ := S.at_ n c hc
    rw [z, hp] at q1; cases q1
  refine ⟨S'.hh, S'.gg, S'.gh, S'.fr, fun i d hd => ?_, ?_⟩
  · cases i with
    | zero => cases hd; exact ⟨u, h1, h2, hg, S.hh.free hp⟩
    | succ i => exact S'.at_ i d hd
  · rw [List.map_cons]
    refine List.nodup_cons.mpr ⟨fun h => ?_, S.nd⟩
    obtain ⟨c, hc, e⟩ := List.mem_map.mp h
    obtain ⟨n, hn⟩ := List.getElem?_of_mem hc
    exact ne n c hn e
theorem Stt.sub (S : Stt K H0 G0 G cs H) (h : cs'.Sublist cs) : Stt K H0 G0 G cs' H := ⟨S.hh, S.gg, S.gh, S.fr, fun n c hc => by
  obtain ⟨m, hm⟩ := List.getElem?_of_mem (h.subset (List.mem_of_getElem? hc))
  exact S.at_ m c hm, S.nd.sublist (h.map _)⟩
/-- an object is written no more -/
theorem Stt.freeze {α : Type} [Rep α] (S : Stt K H0 G0 G cs H) {n : Nat} {p : Addr} {xs : List α} (hc : cs[n]? = some ⟨p, List α, xs⟩) : ∃ G', Same G G' ∧ Stt K H0 G0 G' (cs.eraseIdx n) H ∧ rep K G' (.ref p) xs := by
  obtain ⟨u, q1, ⟨vs, rfl, q2⟩, q3, q4⟩ := S.at_ n _ hc
  have en : Same G (upd G p (.lst vs)) := same_upd q3
  refine ⟨upd G p (.lst vs), en, ⟨S.hh, S.gg.trans en, fun b o h => ?_, fun b g1 g2 => ?_, fun i d hd => ?_, S.nd.sublist ((List.eraseIdx_sublist cs n).map _)⟩, p, vs, rfl, upd_same, paired_imp (fun _ _ z => Rep.mono en z) q2⟩
  · by_cases hb : b = p
    · subst hb; rw [upd_same] at h; rw [← h]; exact q1
    · rw [upd_ne hb] at h; exact S.gh b o h
  · have hb : b ≠ p := fun z => g1 (by rw [z]; exact q4)
    rw [upd_ne hb]; exact S.fr b g1 g2
  · obtain ⟨i', hi', hne⟩ : ∃ i', cs[i']? = some d ∧ i' ≠ n := by
      rw [List.getElem?_eraseIdx] at hd
      split at hd
      · exact ⟨i, hd, by omega⟩
      · exact ⟨i + 1, hd, by omega⟩
    obtain ⟨w, w1, w2, w3, w4⟩ := S.at_ i' d hi'
    have hb : d.p ≠ p := fun z => hne (nd_cells S.nd hi' hc z)
    exact ⟨w, w1, d.inst.mono en w2, by rw [upd_ne hb]; exact w3, w4⟩
end
/-! ### statements -/
inductive Out (ν κ ρ : Type) where
  | nx (s : ν) | ct (s : κ) | bk (s : κ) | rt (a : ρ)
/-- never through -/
def Res.up {ν κ ρ : Type} : Res (Out Empty κ ρ) → Res (Out ν κ ρ)
  | .ok (.nx s) => nomatch s
  | .ok (.ct s) => .ok (.ct s)
  | .ok (.bk s) => .ok (.bk s)
  | .ok (.rt a) => .ok (.rt a)
  | .err c x => .err c x
  | .bad => .bad
/-- .. then .. -/
def Res.seq {ν ν' κ ρ : Type} : Res (Out ν κ ρ) → (ν → Res (Out ν' κ ρ)) → Res (Out ν' κ ρ)
  | .ok (.nx s), f => f s
  | .ok (.ct s), _ => .ok (.ct s)
  | .ok (.bk s), _ => .ok (.bk s)
  | .ok (.rt a), _ => .ok (.rt a)
  | .err c x, _ => .err c x
  | .bad, _ => .bad
/-- what a def's body gives -/
def Res.val {κ ρ : Type} : Res (Out Empty κ ρ) → Res ρ
  | .ok (.nx s) => nomatch s
  | .ok (.rt a) => .ok a
  | .err c x => .err c x
  | _ => .bad
/-- .. that may end without a return -/
def Res.valN {κ ρ : Type} (d : ρ) : Res (Out Unit κ ρ) → Res ρ
  | .ok (.nx _) => .ok d
  | .ok (.rt a) => .ok a
  | .err c x => .err c x
  | _ => .bad
def forR {α ν κ ρ : Type} (f : ν → α → Res (Out ν ν ρ)) : List α → ν → Res (Out ν κ ρ)
  | [], s => .ok (.nx s)
  | x :: xs, s => (f s x).bind fun
    | .nx s' => forR f xs s'
    | .ct s' => forR f xs s'
    | .bk s' => .ok (.nx s')
    | .rt a => .ok (.rt a)
def whileR {ν κ ρ : Type} (t : ν → Res Bool) (f : ν → Res (Out ν ν ρ)) : Nat → ν → Res (Out ν κ ρ)
  | 0, _ => .bad
  | n + 1, s => (t s).bind fun b => cond b ((f s).bind fun
    | .nx s' => whileR t f n s'
    | .ct s' => whileR t f n s'
    | .bk s' => .ok (.nx s')
    | .rt a => .ok (.rt a)) (.ok (.nx s))
section
variable {ν κ ρ : Type}
/-- what is wanted of a return -/
abbrev RT (ρ : Type) := ρ → Hp → Hp → V → Prop
def PostO (X : Cx) (H0 G0 : Hp) (rt : RT ρ) (Γn : ν → List Slot) (cn : ν → List Cell) (Γl : κ → List Slot) (cl : κ → List Cell) (D : Ends) (g : Hp) : Res (Out ν κ ρ) → Prop
  | .ok (.nx s) => ∀ σ G H, Same g G → EnvOk X.K G σ (Γn s) → Stt X.K H0 G0 G (cn s) H → D.nx σ H
  | .ok (.ct s) => ∀ σ G H, Same g G → EnvOk X.K G σ (Γl s) → Stt X.K H0 G0 G (cl s) H → D.ct σ H
  | .ok (.bk s) => ∀ σ G H, Same g G → EnvOk X.K G σ (Γl s) → Stt X.K H0 G0 G (cl s) H → D.bk σ H
  | .ok (.rt a) => ∀ G H v, rt a G H v → D.rt v H
  | .err c x => ∀ σ, Wish X σ H0 c x
  | .bad => False
def SJ (X : Cx) (H0 G0 : Hp) (rt : RT ρ) (Γn : ν → List Slot) (cn : ν → List Cell) (Γl : κ → List Slot) (cl : κ → List Cell) (Γ : List Slot) (cs : List Cell) (st : List Stmt) (r : Res (Out ν κ ρ)) : Prop :=
  ∀ (σ : L2.St) (G H : Hp) (D : Ends), EnvOk X.K G σ Γ → Stt X.K H0 G0 G cs H → PostO X H0 G0 rt Γn cn Γl cl D G r → SV X st D σ H
end
section
variable {X : Cx} {H0 G0 : Hp} {ν ν' κ κ' ρ : Type} {rt : RT ρ} {Γn : ν → List Slot} {cn : ν → List Cell} {Γl : κ → List Slot} {cl : κ → List Cell} {Γ : List Slot} {cs : List Cell} {st : Stmt} {rest body A B : List Stmt} {r : Res (Out ν κ ρ)} {pos px pt : Pos} {x : Str} {a b c e : Expr}
variable {α β : Type} [Rep α] [Rep β]
theorem PostO.mono {D : Ends} {g g' : Hp} {r : Res (Out ν κ ρ)} (h : PostO X H0 G0 rt Γn cn Γl cl D g r) (e : Same g g') : PostO X H0 G0 rt Γn cn Γl cl D g' r := by
  match r with
  | .ok (.nx s) => exact fun σ G H a => h σ G H (e.trans a)
  | .ok (.ct s) => exact fun σ G H a => h σ G H (e.trans a)
  | .ok (.bk s) => exact fun σ G H a => h σ G H (e.trans a)
  | .ok (.rt a) => exact h
  | .err c x => exact h
  | .bad => exact h
theorem SV.cons {D : Ends} {σ : L2.St} {H : Hp} {t : TS} (h : PS X st t) (q : t { D with nx := SV X rest D } σ H) : SV X (st :: rest) D σ H := SV.of (pss_cons h (sv X rest)) q
theorem SV.inv {sts : List Stmt} {D : Ends} {σ : L2.St} {H : Hp} (h : (∃ pins s, Inv X pins σ H s) → SV X sts D σ H) : SV X sts D σ H := fun pins s I => h ⟨pins, s, I⟩ pins s I
/-! the end of a block -/
theorem SJ.nil (s : ν) (h1 : Sub Γ (Γn s)) (h2 : (cn s).Sublist cs) : SJ X H0 G0 rt Γn cn Γl cl Γ cs [] (.ok (.nx s)) := fun σ G H D hΓ S k =>
  SV.of pss_nil (k σ G H (Same.refl _) (hΓ.sub h1) (S.sub h2))
theorem SJ.ct_ (s : κ) (h1 : Sub Γ (Γl s)) (h2 : (cl s).Sublist cs) : SJ X H0 G0 rt Γn cn Γl cl Γ cs (.Continue pos :: rest) (.ok (.ct s)) := fun σ G H D hΓ S k =>
  SV.cons ps_continue (k σ G H (Same.refl _) (hΓ.sub h1) (S.sub h2))
theorem SJ.bk_ (s : κ) (h1 : Sub Γ (Γl s)) (h2 : (cl s).Sublist cs) : SJ X H0 G0 rt Γn cn Γl cl Γ cs (.Break pos :: rest) (.ok (.bk s)) := fun σ G H D hΓ S k =>
  SV.cons ps_break (k σ G H (Same.refl _) (hΓ.sub h1) (S.sub h2))
theorem SJ.pass (k : SJ X H0 G0 rt Γn cn Γl cl Γ cs rest r) : SJ X H0 G0 rt Γn cn Γl cl Γ cs (.Pass pos :: rest) r := fun σ G H D hΓ S q => SV.cons ps_pass (k σ G H D hΓ S q)
theorem Wish.h0 {σ : L2.St} {G H : Hp} {w : Str} {v : V} (S : Stt X.K H0 G0 G cs H) (h : Wish X σ H0 w v) : Wish X σ H w v := h.mono S.hh
/-- a partial value, in a statement -/
theorem PostO.bind {D : Ends} {σ : L2.St} {G H : Hp} {Q1 : VK} {o : Res α} {f : α → Res (Out ν κ ρ)} (S : Stt X.K H0 G0 G cs H) (h : PostO X H0 G0 rt Γn cn Γl cl D G (o.bind f))
    (k : ∀ a G1 H1 v, Ext G H G1 H1 → Stt X.K H0 G0 G1 cs H1 → rep X.K G1 v a → PostO X H0 G0 rt Γn cn Γl cl D G1 (f a) → Q1 v H1) : PostR X σ G H Q1 o := by
  cases o with
  | ok a => exact fun G1 H1 v e r => k a G1 H1 v e (S.ext e) r (PostO.mono (r := f a) h e.gg)
  | err c x => exact Wish.h0 S (h σ)
  | bad => exact h
theorem PostO.bindT {D : Ends} {σ : L2.St} {G H : Hp} {Q1 : Bool → Hp → Prop} {o : Res Bool} {f : Bool → Res (Out ν κ ρ)} (S : Stt X.K H0 G0 G cs H) (h : PostO X H0 G0 rt Γn cn Γl cl D G (o.bind f))
    (k : ∀ a G1 H1, Ext G H G1 H1 → Stt X.K H0 G0 G1 cs H1 → PostO X H0 G0 rt Γn cn Γl cl D G1 (f a) → Q1 a H1) : PostT X σ G H Q1 o := by
  cases o with
  | ok a => exact fun G1 H1 e => k a G1 H1 e (S.ext e) (PostO.mono (r := f a) h e.gg)
  | err c x => exact Wish.h0 S (h σ)
  | bad => exact h
theorem PostO.bindS {μ : Type} [CRep μ] {p : Addr} {m : μ} {n : Nat} (hc : cs[n]? = some ⟨p, μ, m⟩) {D : Ends} {G H : Hp} {Q1 : VK} {o : Res (α × μ)} {f : α × μ → Res (Out ν κ ρ)} (S : Stt X.K H0 G0 G cs H) (h : PostO X H0 G0 rt Γn cn Γl cl D G (o.bind f)) (hn : ∀ c w, o ≠ .err c w)
    (k : ∀ q G1 H1 v, Same G G1 → Stt X.K H0 G0 G1 (cs.set n ⟨p, μ, q.2⟩) H1 → rep X.K G1 v q.1 → PostO X H0 G0 rt Γn cn Γl cl D G1 (f q) → Q1 v H1) : PostS X p G H Q1 o := by
  cases o with
  | ok a => exact fun G1 H1 v u e h1 h2 r => k a G1 H1 v e.gg (S.put hc e h1 h2) r (PostO.mono (r := f a) h e.gg)
  | err c x => exact absurd rfl (hn c x)
  | bad => exact h
theorem Res.hard_ne {β : Type u} {o : Res β} {c : Str} {w : V} : o.hard ≠ .err c w := by cases o <;> intro h <;> cases h
/-- a value, a test in a statement -/
def RJ (X : Cx) (H0 G0 : Hp) (Γ : List Slot) (cs : List Cell) (e : Expr) (o : Res α) : Prop := ∀ (σ : L2.St) (G H : Hp) (Q : VK), EnvOk X.K G σ Γ → Stt X.K H0 G0 G cs H → PostR X σ G H Q o → EV X e σ H Q
def TJ (X : Cx) (H0 G0 : Hp) (Γ : List Slot) (cs : List Cell) (e : Expr) (o : Res Bool) : Prop := ∀ (σ : L2.St) (G H : Hp) (Q : Bool → Hp → Prop), EnvOk X.K G σ Γ → Stt X.K H0 G0 G cs H → PostT X σ G H Q o → TV X e σ H Q
theorem RJ.ofR {o : Res α} (h : RE X Γ e o) : RJ X H0 G0 Γ cs e o := fun σ G H Q hΓ S k => h σ G H Q hΓ S.gh k
theorem RJ.ofA {y : α} (h : AE X Γ e y) : RJ X H0 G0 Γ cs e (.ok y) := RJ.ofR (RE.ofA h)
theorem TJ.ofR {o : Res Bool} (h : TR X Γ e o) : TJ X H0 G0 Γ cs e o := fun σ G H Q hΓ S k => h σ G H Q hΓ S.gh k
theorem TJ.ofA {y : Bool} (h : TA X Γ e y) : TJ X H0 G0 Γ cs e (.ok y) := TJ.ofR (TR.ofA h)
/-- values without lists -/
class NoL (α : Type) [Rep α] where
  nol : ∀ {K : PySem.W.Frag} {G : Hp} {p : Addr} {vs : List V} {v : V} {a : α}, G p = some (.lst vs) → rep K G v a → rep K (del G p) v a
instance : NoL Int := ⟨fun _ h => h⟩
instance : NoL Bool := ⟨fun _ h => h⟩
instance : NoL Str := ⟨fun _ h => h⟩
instance : NoL Unit := ⟨fun _ h => h⟩
instance : NoL CRef := ⟨fun _ h => h⟩
instance [NoL α] : NoL (Option α) := ⟨fun {K G p vs v a} h r => by
  cases a with
  | none => exact r
  | some a => exact NoL.nol (α := α) h r⟩
theorem sqt_del {K : PySem.W.Frag} {G : Hp} {p q : Addr} {vs xs : List V} (h : G p = some (.lst vs)) (r : SqT K G q xs) : SqT K (del G p) q xs := by
  rcases r with (r | ⟨o, r⟩) | r
  · exact .inl (.inl (by rw [del_ne (fun z => by rw [z, h] at r; cases r)]; exact r))
  · exact .inl (.inr ⟨o, by rw [del_ne (fun z => by rw [z, h] at r; cases r)]; exact r⟩)
  · exact .inr r
instance [NoL α] [NoL β] : NoL (α × β) := ⟨fun h r => by
  obtain ⟨q, x, y, h1, h2, h3, h4⟩ := r
  exact ⟨q, x, y, h1, sqt_del h h2, NoL.nol h h3, NoL.nol h h4⟩⟩
instance {γ : Type} [Rep γ] [NoL α] [NoL β] [NoL γ] : NoL (T3 α β γ) := ⟨fun h r => by
  obtain ⟨q, x, y, z, h1, h2, h3, h4, h5⟩ := r
  exact ⟨q, x, y, z, h1, sqt_del h h2, NoL.nol h h3, NoL.nol h h4, NoL.nol h h5⟩⟩
instance {γ δ : Type} [Rep γ] [Rep δ] [NoL α] [NoL β] [NoL γ] [NoL δ] : NoL (T4 α β γ δ) := ⟨fun h r => by
  obtain ⟨q, x, y, z, u, h1, h2, h3, h4, h5, h6⟩ := r
  exact ⟨q, x, y, z, u, h1, sqt_del h h2, NoL.nol h h3, NoL.nol h h4, NoL.nol h h5, NoL.nol h h6⟩⟩
instance [NoL α] : NoL (VT α) := ⟨fun h r => by
  obtain ⟨q, vs, h1, h2, h3⟩ := r
  exact ⟨q, vs, h1, sqt_del h h2, paired_imp (fun _ _ z => NoL.nol h z) h3⟩⟩
theorem env_frozen {G G' : Hp} {σ : L2.St} {i : Nat} {p : Addr} {xs : List β} (hΓ : EnvOk X.K G σ Γ) (hi : getS Γ i = some ⟨i, CRef, ⟨p⟩⟩) (e : Same G G') (hr : rep X.K G' (.ref p) xs) : EnvOk X.K G' σ (⟨i, List β, xs⟩ :: Γ) := fun j s hs => by
  obtain ⟨v, h1, h2⟩ := hΓ _ _ hi
  cases h2
  unfold getS at hs
  cases z : Nat.beq i j with
  | true =>
    rw [show Nat.beq (⟨i, List β, xs⟩ : Slot).i j = Nat.beq i j from rfl, z] at hs
    cases hs
    exact ⟨_, by rw [← Nat.eq_of_beq_eq_true z]; exact h1, hr⟩
  | false =>
    rw [show Nat.beq (⟨i, List β, xs⟩ : Slot).i j = Nat.beq i j from rfl, z] at hs
    exact (hΓ.mono e) j s hs
theorem Stt.free (S : Stt X.K H0 G0 G cs H) {n : Nat} {c : Cell} (hc : cs[n]? = some c) : G c.p = none := by
  obtain ⟨_, _, _, h, _⟩ := S.at_ n c hc
  exact h
theorem ext_thaw {G H G1 G' H' : Hp} {p : Addr} {vs : List V} (e1 : Same G G1) (gp : G p = none) (h1 : ∀ b, b ≠ p → G1 b = G b) (e : Ext G1 H G' H') : Ext G H (del G' p) H' :=
  ⟨e.hh, fun b o hb => by
    have hbp : b ≠ p := fun z => by rw [z, gp] at hb; cases hb
    rw [del_ne hbp]; exact e.gg b o (e1 b o hb), fun b o hb => by
    by_cases hbp : b = p
    · subst hbp; rw [del_same] at hb; cases hb
    · rw [del_ne hbp] at hb; exact e.gh b o hb, fun b q1 q2 => by
    by_cases hbp : b = p
    · subst hbp; exact del_same
    · rw [del_ne hbp]; exact e.fr b q1 (by rw [h1 b hbp]; exact q2)⟩
theorem Stt.peek (S : Stt X.K H0 G0 G cs H) {n : Nat} {p : Addr} {xs : List β} (hc : cs[n]? = some ⟨p, List β, xs⟩) : ∃ vs, Same G (upd G p (.lst vs)) ∧ Stt X.K H0 G0 (upd G p (.lst vs)) (cs.eraseIdx n) H ∧ rep X.K (upd G p (.lst vs)) (.ref p) xs := by
  obtain ⟨u, q1, ⟨vs, rfl, q2⟩, q3, q4⟩ := S.at_ n _ hc
  have en : Same G (upd G p (.lst vs)) := same_upd q3
  refine ⟨vs, en, ⟨S.hh, S.gg.trans en, fun b o h => ?_, fun b g1 g2 => ?_, fun i d hd => ?_, S.nd.sublist ((List.eraseIdx_sublist cs n).map _)⟩, p, vs, rfl, upd_same, paired_imp (fun _ _ z => Rep.mono en z) q2⟩
  · by_cases hb : b = p
    · subst hb; rw [upd_same] at h; rw [← h]; exact q1
    · rw [upd_ne hb] at h; exact S.gh b o h
  · have hb : b ≠ p := fun z => g1 (by rw [z]; exact q4)
    rw [upd_ne hb]; exact S.fr b g1 g2
  · obtain ⟨i', hi', hne⟩ : ∃ i', cs[i']? = some d ∧ i' ≠ n := by
      rw [List.getElem?_eraseIdx] at hd
      split at hd
      · exact ⟨i, hd, by omega⟩
      · exact ⟨i + 1, hd, by omega⟩
    obtain ⟨w, w1, w2, w3, w4⟩ := S.at_ i' d hi'
    have hb : d.p ≠ p := fun z => hne (nd_cells S.nd hi' hc z)
    exact ⟨w, w1, d.inst.mono en w2, by rw [upd_ne hb]; exact w3, w4⟩
/-- an object that is written is read -/
theorem RJ.peek [NoL α] (i n : Nat) {p : Addr} {xs : List β} {o : Res α} (hi : getS Γ i = some ⟨i, CRef, ⟨p⟩⟩) (hc : cs[n]? = some ⟨p, List β, xs⟩) (h : RJ X H0 G0 (⟨i, List β, xs⟩ :: Γ) (cs.eraseIdx n) e o) : RJ X H0 G0 Γ cs e o := fun σ G H Q hΓ S k => by
  obtain ⟨vs, en, S', hr⟩ := S.peek hc
  have gp := S.free hc
  refine h σ _ H Q (env_frozen hΓ hi en hr) S' ?_
  cases o with
  | err c x => exact k
  | bad => exact k
  | ok a =>
    intro G' H' v e' r
    exact k (del G' p) H' v (ext_thaw (vs := vs) en gp (fun b hb => upd_ne hb) e') (NoL.nol (e'.gg _ _ upd_same) r)
theorem TJ.peek (i n : Nat) {p : Addr} {xs : List β} {o : Res Bool} (hi : getS Γ i = some ⟨i, CRef, ⟨p⟩⟩) (hc : cs[n]? = some ⟨p, List β, xs⟩) (h : TJ X H0 G0 (⟨i, List β, xs⟩ :: Γ) (cs.eraseIdx n) e o) : TJ X H0 G0 Γ cs e o := fun σ G H Q hΓ S k => by
  obtain ⟨vs, en, S', hr⟩ := S.peek hc
  have gp := S.free hc
  refine h σ _ H Q (env_frozen hΓ hi en hr) S' ?_
  cases o with
  | err c x => exact k
  | bad => exact k
  | ok a =>
    intro G' H' e'
    exact k (del G' p) H' (ext_thaw (vs := vs) en gp (fun b hb => upd_ne hb) e')
/-! name = e -/
theorem SJ.set_R (i : Nat) {o : Res α} {f : α → Res (Out ν κ ρ)} (hN : X.N.Nodup) (hi : X.N[i]? = some x) (hx : Loc X.env.scope x) (he : RJ X H0 G0 Γ cs e o) (k : ∀ y, SJ X H0 G0 rt Γn cn Γl cl (⟨i, α, y⟩ :: Γ) cs rest (f y))
    (hs : swapsWith e (some (.Name x px)) pos.line X.env = pure false := by rfl) (hf : X.fn x = true ∨ X.env.scope.names.lookup x = some .local := by first | exact .inl rfl | exact .inr rfl) : SJ X H0 G0 rt Γn cn Γl cl Γ cs (.Assign [.Name x px] e pos :: rest) (o.bind f) := fun σ G H D hΓ S q => by
  refine SV.inv fun ⟨pins, s, I⟩ => SV.cons (ps_set hN hi hx (ev X e) hs hf) ?_
  refine he σ G H _ hΓ S (PostO.bind S q fun y G1 H1 v e1 S1 r1 q1 => ?_)
  exact k y _ G1 H1 D ((hΓ.mono e1.gg).set (by rw [I.len]; exact (List.getElem?_eq_some_iff.mp hi).1) r1) S1 q1
theorem SJ.set_A (i : Nat) {y : α} {f : α → Res (Out ν κ ρ)} (hN : X.N.Nodup) (hi : X.N[i]? = some x) (hx : Loc X.env.scope x) (he : RJ X H0 G0 Γ cs e (.ok y)) (k : ∀ y, SJ X H0 G0 rt Γn cn Γl cl (⟨i, α, y⟩ :: Γ) cs rest (f y))
    (hs : swapsWith e (some (.Name x px)) pos.line X.env = pure false := by rfl) (hf : X.fn x = true ∨ X.env.scope.names.lookup x = some .local := by first | exact .inl rfl | exact .inr rfl) : SJ X H0 G0 rt Γn cn Γl cl Γ cs (.Assign [.Name x px] e pos :: rest) (lt y f) :=
  SJ.set_R i (o := .ok y) hN hi hx he k hs hf
theorem SJ.set_S (i n : Nat) {μ : Type} [CRep μ] {p : Addr} {m : μ} {o : Res (α × μ)} {f : α × μ → Res (Out ν κ ρ)} (hc : cs[n]? = some ⟨p, μ, m⟩) (hN : X.N.Nodup) (hi : X.N[i]? = some x) (hx : Loc X.env.scope x) (he : SE X Γ p m e o) (k : ∀ q : α × μ, SJ X H0 G0 rt Γn cn Γl cl (⟨i, α, q.1⟩ :: Γ) (cs.set n ⟨p, μ, q.2⟩) rest (f q))
    (hs : swapsWith e (some (.Name x px)) pos.line X.env = pure false := by rfl) (hf : X.fn x = true ∨ X.env.scope.names.lookup x = some .local := by first | exact .inl rfl | exact .inr rfl) : SJ X H0 G0 rt Γn cn Γl cl Γ cs (.Assign [.Name x px] e pos :: rest) (o.hard.bind f) := fun σ G H D hΓ S q => by
  refine SV.inv fun ⟨pins, s, I⟩ => SV.cons (ps_set hN hi hx (ev X e) hs hf) ?_
  obtain ⟨u, q1, q2, q3, q4⟩ := S.at_ n _ hc
  refine he σ G H _ u hΓ S.gh q3 q1 q2 ?_
  have hp : PostS X p G H (fun v H1 => gName i v σ H1 (SV X rest D)) o.hard := PostO.bindS hc S q (fun _ _ => Res.hard_ne) fun y G1 H1 v e1 S1 r1 q1 =>
    k y _ G1 H1 D ((hΓ.mono e1).set (by rw [I.len]; exact (List.getElem?_eq_some_iff.mp hi).1) r1) S1 q1
  cases o <;> exact hp
/-! an expression alone -/
theorem SJ.ex_R {o : Res α} {f : α → Res (Out ν κ ρ)} (he : RJ X H0 G0 Γ cs e o) (k : ∀ y, SJ X H0 G0 rt Γn cn Γl cl Γ cs rest (f y)) (hs : swapsWith e none pos.line X.env = pure false := by rfl) : SJ X H0 G0 rt Γn cn Γl cl Γ cs (.Expr e pos :: rest) (o.bind f) := fun σ G H D hΓ S q => by
  refine SV.cons (ps_expr (ev X e) hs) ?_
  exact he σ G H _ hΓ S (PostO.bind S q fun y G1 H1 v e1 S1 r1 q1 => k y _ G1 H1 D (hΓ.mono e1.gg) S1 q1)
theorem SJ.ex_S (n : Nat) {μ : Type} [CRep μ] {p : Addr} {m : μ} {o : Res (α × μ)} {f : μ → Res (Out ν κ ρ)} (hc : cs[n]? = some ⟨p, μ, m⟩) (he : SE X Γ p m e o) (k : ∀ m : μ, SJ X H0 G0 rt Γn cn Γl cl Γ (cs.set n ⟨p, μ, m⟩) rest (f m))
    (hs : swapsWith e none pos.line X.env = pure false := by rfl) : SJ X H0 G0 rt Γn cn Γl cl Γ cs (.Expr e pos :: rest) (o.hard.bind fun q => f q.2) := fun σ G H D hΓ S q => by
  refine SV.cons (ps_expr (ev X e) hs) ?_
  obtain ⟨u, q1, q2, q3, q4⟩ := S.at_ n _ hc
  refine he σ G H _ u hΓ S.gh q3 q1 q2 ?_
  have hp : PostS X p G H (fun _ H1 => SV X rest D σ H1) o.hard := PostO.bindS hc S q (fun _ _ => Res.hard_ne) fun y G1 H1 v e1 S1 r1 q1 =>
    k y.2 _ G1 H1 D (hΓ.mono e1) S1 q1
  cases o <;> exact hp
/-! return -/
theorem SJ.rt_R {o : Res α} {g : α → ρ} (he : RJ X H0 G0 Γ cs e o) (hr : ∀ G H v y, Stt X.K H0 G0 G cs H → rep X.K G v y → rt (g y) G H v) : SJ X H0 G0 rt Γn cn Γl cl Γ cs (.Return (some e) pos :: rest) (o.bind fun y => .ok (.rt (g y))) := fun σ G H D hΓ S q => by
  refine SV.cons (ps_ret (ev X e)) ?_
  exact he σ G H _ hΓ S (PostO.bind S q fun y G1 H1 v e1 S1 r1 q1 => q1 G1 H1 v (hr G1 H1 v y S1 r1))
theorem SJ.rt_A {y : α} {g : α → ρ} (he : RJ X H0 G0 Γ cs e (.ok y)) (hr : ∀ G H v y, Stt X.K H0 G0 G cs H → rep X.K G v y → rt (g y) G H v) : SJ X H0 G0 rt Γn cn Γl cl Γ cs (.Return (some e) pos :: rest) (.ok (.rt (g y))) := SJ.rt_R he hr
theorem SJ.rt_S (n : Nat) {μ : Type} [CRep μ] {p : Addr} {m : μ} {o : Res (α × μ)} {g : α × μ → ρ} (hc : cs[n]? = some ⟨p, μ, m⟩) (he : SE X Γ p m e o) (hr : ∀ G H v (q : α × μ), Stt X.K H0 G0 G (cs.set n ⟨p, μ, q.2⟩) H → rep X.K G v q.1 → rt (g q) G H v) :
    SJ X H0 G0 rt Γn cn Γl cl Γ cs (.Return (some e) pos :: rest) (o.hard.bind fun y => .ok (.rt (g y))) := fun σ G H D hΓ S q => by
  refine SV.cons (ps_ret (ev X e)) ?_
  obtain ⟨u, q1, q2, q3, q4⟩ := S.at_ n _ hc
  refine he σ G H _ u hΓ S.gh q3 q1 q2 ?_
  have hp : PostS X p G H D.rt o.hard := PostO.bindS hc S q (fun _ _ => Res.hard_ne) fun y G1 H1 v e1 S1 r1 q1 => q1 G1 H1 v (hr G1 H1 v y S1 r1)
  cases o <;> exact hp
theorem SJ.rt_N {y : ρ} (hr : ∀ G H, Stt X.K H0 G0 G cs H → rt y G H .non) : SJ X H0 G0 rt Γn cn Γl cl Γ cs (.Return none pos :: rest) (.ok (.rt y)) := fun σ G H D hΓ S q =>
  SV.cons ps_retN (q G H _ (hr G H S))
/-! if -/
theorem PostO.up {D : Ends} {Γe : Empty → List Slot} {ce : Empty → List Cell} {D' : Ends} {g : Hp} (h1 : D'.ct = D.ct) (h2 : D'.bk = D.bk) (h3 : D'.rt = D.rt) {r : Res (Out Empty κ ρ)} (h : PostO X H0 G0 rt Γn cn Γl cl D g r.up) : PostO X H0 G0 rt Γe ce Γl cl D' g r := by
  match r with
  | .ok (.nx s) => exact nomatch s
  | .ok (.ct s) => intro σ G H; rw [h1]; exact h σ G H
  | .ok (.bk s) => intro σ G H; rw [h2]; exact h σ G H
  | .ok (.rt a) => intro G H v; rw [h3]; exact h G H v
  | .err c x => exact h
  | .bad => exact h
/-- a branch that never comes through -/
theorem SJ.if_x {o : Res Bool} {rA : Res (Out Empty κ ρ)} {rB : Res (Out ν κ ρ)} (ht : TJ X H0 G0 Γ cs c o) (hA : SJ X H0 G0 rt (fun z : Empty => nomatch z) (fun z : Empty => nomatch z) Γl cl Γ cs A rA) (hB : SJ X H0 G0 rt Γn cn Γl cl Γ cs rest rB) :
    SJ X H0 G0 rt Γn cn Γl cl Γ cs (.If c A [] pos :: rest) (o.bind fun v => cond v rA.up rB) := fun σ G H D hΓ S q => by
  refine SV.cons (ps_if (tv X c) (sv X A) pss_nil) ?_
  refine ht σ G H _ hΓ S (PostO.bindT S q fun v G1 H1 e1 S1 q1 => ?_)
  cases v with
  | true => exact hA σ G1 H1 _ (hΓ.mono e1.gg) S1 (PostO.up (D := D) (D' := { D with nx := SV X rest D }) rfl rfl rfl (show PostO X H0 G0 rt Γn cn Γl cl D G1 rA.up from q1))
  | false => exact hB σ G1 H1 D (hΓ.mono e1.gg) S1 q1
/-- both never come through -/
theorem SJ.if_xx {o : Res Bool} {rA rB : Res (Out Empty κ ρ)} (ht : TJ X H0 G0 Γ cs c o) (hA : SJ X H0 G0 rt (fun z : Empty => nomatch z) (fun z : Empty => nomatch z) Γl cl Γ cs A rA) (hB : SJ X H0 G0 rt (fun z : Empty => nomatch z) (fun z : Empty => nomatch z) Γl cl Γ cs B rB) :
    SJ X H0 G0 rt Γn cn Γl cl Γ cs (.If c A B pos :: rest) (o.bind fun v => cond v rA.up rB.up) := fun σ G H D hΓ S q => by
  refine SV.cons (ps_if (tv X c) (sv X A) (sv X B)) ?_
  refine ht σ G H _ hΓ S (PostO.bindT S q fun v G1 H1 e1 S1 q1 => ?_)
  cases v with
  | true => exact hA σ G1 H1 _ (hΓ.mono e1.gg) S1 (PostO.up (D := D) (D' := { D with nx := SV X rest D }) rfl rfl rfl (show PostO X H0 G0 rt Γn cn Γl cl D G1 rA.up from q1))
  | false => exact hB σ G1 H1 _ (hΓ.mono e1.gg) S1 (PostO.up (D := D) (D' := { D with nx := SV X rest D }) rfl rfl rfl (show PostO X H0 G0 rt Γn cn Γl cl D G1 rB.up from q1))
theorem PostO.seq {Γj : ν' → List Slot} {cj : ν' → List Cell} {D : Ends} {g : Hp} {r : Res (Out ν' κ ρ)} {f : ν' → Res (Out ν κ ρ)} (h : PostO X H0 G0 rt Γn cn Γl cl D g (r.seq f)) (k : ∀ s σ G H, EnvOk X.K G σ (Γj s) → Stt X.K H0 G0 G (cj s) H → PostO X H0 G0 rt Γn cn Γl cl D G (f s) → SV X rest D σ H) :
    PostO X H0 G0 rt Γj cj Γl cl { D with nx := SV X rest D } g r := by
  match r with
  | .ok (.nx s) => exact fun σ G H a e S => k s σ G H e S (PostO.mono (r := f s) h a)
  | .ok (.ct s) => exact h
  | .ok (.bk s) => exact h
  | .ok (.rt a) => exact h
  | .err c x => exact h
  | .bad => exact h
/-- the ways meet again -/
theorem SJ.if_j (Γj : ν' → List Slot) (cj : ν' → List Cell) {o : Res Bool} {rA rB : Res (Out ν' κ ρ)} {f : ν' → Res (Out ν κ ρ)} (ht : TJ X H0 G0 Γ cs c o) (hA : SJ X H0 G0 rt Γj cj Γl cl Γ cs A rA) (hB : SJ X H0 G0 rt Γj cj Γl cl Γ cs B rB) (k : ∀ s, SJ X H0 G0 rt Γn cn Γl cl (Γj s) (cj s) rest (f s)) :
    SJ X H0 G0 rt Γn cn Γl cl Γ cs (.If c A B pos :: rest) ((o.bind fun v => cond v rA rB).seq f) := fun σ G H D hΓ S q => by
  refine SV.cons (ps_if (tv X c) (sv X A) (sv X B)) ?_
  have q' : PostO X H0 G0 rt Γj cj Γl cl { D with nx := SV X rest D } G (o.bind fun v => cond v rA rB) := PostO.seq q fun s σ G H e S h => k s σ G H D e S h
  refine ht σ G H _ hΓ S (PostO.bindT S q' fun v G1 H1 e1 S1 q1 => ?_)
  cases v with
  | true => exact hA σ G1 H1 _ (hΓ.mono e1.gg) S1 q1
  | false => exact hB σ G1 H1 _ (hΓ.mono e1.gg) S1 q1
/-! loops -/
def turnK (g : ν' → Res (Out ν' κ ρ)) : Out ν' ν' ρ → Res (Out ν' κ ρ)
  | .nx s' => g s'
  | .ct s' => g s'
  | .bk s' => .ok (.nx s')
  | .rt a => .ok (.rt a)
theorem forR_cons {f : ν' → α → Res (Out ν' ν' ρ)} {x : α} {xs : List α} {s : ν'} : (forR f (x :: xs) s : Res (Out ν' κ ρ)) = (f s x).bind (turnK (forR f xs)) := by
  rw [forR]
  congr 1
theorem whileR_succ {t : ν' → Res Bool} {f : ν' → Res (Out ν' ν' ρ)} {n : Nat} {s : ν'} : (whileR t f (n + 1) s : Res (Out ν' κ ρ)) = (t s).bind fun b => cond b ((f s).bind (turnK (whileR t f n))) (.ok (.nx s)) := by
  rw [whileR]
  congr 1
theorem PostO.turn {Γw : ν' → List Slot} {cw : ν' → List Cell} {D : Ends} {N : L2.St → Hp → Prop} {g : Hp} {r : Res (Out ν' ν' ρ)} {f : ν' → Res (Out ν' κ ρ)} (h : PostO X H0 G0 rt Γw cw Γl cl D g (r.bind (turnK f)))
    (k : ∀ s σ G H, Same g G → EnvOk X.K G σ (Γw s) → Stt X.K H0 G0 G (cw s) H → PostO X H0 G0 rt Γw cw Γl cl D G (f s) → N σ H) : PostO X H0 G0 rt Γw cw Γw cw { D with nx := N, ct := N, bk := D.nx } g r := by
  match r with
  | .ok (.nx s) => exact fun σ G H a e S => k s σ G H a e S (PostO.mono (r := f s) h a)
  | .ok (.ct s) => exact fun σ G H a e S => k s σ G H a e S (PostO.mono (r := f s) h a)
  | .ok (.bk s) => exact h
  | .ok (.rt a) => exact h
  | .err c x => exact h
  | .bad => exact h
theorem for_read {tg : Expr} {is : List Nat} {bd : α → List Slot} {Γw : ν' → List Slot} {cw : ν' → List Cell} {f : ν' → α → Res (Out ν' ν' ρ)} {D : Ends} {J : It} {G1 : Hp} {xs : List α} (Y : Yields X.K J G1 xs) (hg : GA X tg is bd)
    (hb : ∀ s x, SJ X H0 G0 rt Γw cw Γw cw (bd x ++ Γw s) (cw s) body (f s x)) {σ : L2.St} {G H : Hp} {s0 : ν'} (hΓ : EnvOk X.K G σ (Γw s0)) (S : Stt X.K H0 G0 G (cw s0) H) (hG : Same G1 G)
    (q : PostO X H0 G0 rt Γw cw Γl cl D G (forR f xs s0)) :
    ∃ W : Nat → Nat → L2.St → Hp → Prop, (∃ m, W 0 m σ H) ∧ ∀ i m σ H, W i m σ H → (J.stop i H ∧ D.nx σ H) ∨ (J.go i H ∧ ∃ N : L2.St → Hp → Prop, (∀ σ' H', N σ' H' → ∃ m', m' < m ∧ W (i + 1) m' σ' H') ∧ ∀ x H', J.yld i H x H' → GV X tg x σ H' fun σ2 H2 => SV X body { D with nx := N, ct := N, bk := D.nx } σ2 H2) := by
  refine ⟨fun i m σ H => m = xs.length - i ∧ i ≤ xs.length ∧ ∃ s G, EnvOk X.K G σ (Γw s) ∧ Stt X.K H0 G0 G (cw s) H ∧ Same G1 G ∧ PostO X H0 G0 rt Γw cw Γl cl D G (forR f (xs.drop i) s), ⟨xs.length, by simp, Nat.zero_le _, s0, G, hΓ, S, hG, q⟩, ?_⟩
  rintro i m σ H ⟨rfl, hi, s, G, hΓ, S, hG, q⟩
  by_cases hlt : i < xs.length
  · refine .inr ⟨Y.go i H hlt (hG.trans S.gh), fun σ' H' => ∃ m', m' = xs.length - (i + 1) ∧ i + 1 ≤ xs.length ∧ ∃ s G, EnvOk X.K G σ' (Γw s) ∧ Stt X.K H0 G0 G (cw s) H' ∧ Same G1 G ∧ PostO X H0 G0 rt Γw cw Γl cl D G (forR f (xs.drop (i + 1)) s), fun σ' H' ⟨m', e, w⟩ => ⟨m', by omega, e, w⟩, ?_⟩
    intro v H' hy
    have hx : xs[i]? = some xs[i] := List.getElem?_eq_getElem hlt
    obtain ⟨G2, e2, r2⟩ := Y.yld i _ G H v H' hx hG S.gh hy
    rw [List.drop_eq_getElem_cons hlt, forR_cons] at q
    refine hg σ G2 H' v _ _ _ (hΓ.mono e2.gg) e2.gh r2 fun σ' g' l' w' => ?_
    refine hb s xs[i] σ' G2 H' _ g' (S.ext e2) ?_
    refine PostO.turn (PostO.mono q e2.gg) fun s' σ3 G3 H3 a3 e3 S3 q3 => ?_
    exact ⟨_, rfl, hlt, s', G3, e3, S3, hG.trans (e2.gg.trans a3), q3⟩
  · refine .inl ⟨Y.stop i H (by omega) (hG.trans S.gh), ?_⟩
    have ei : xs.drop i = [] := List.drop_eq_nil_of_le (by omega)
    rw [ei] at q
    exact q σ G H (Same.refl _) hΓ S
theorem SJ.for_ (Γw : ν' → List Slot) (cw : ν' → List Cell) (s0 : ν') {tg iter : Expr} {is : List Nat} {bd : α → List Slot} {o : Res (List α)} {f : ν' → α → Res (Out ν' ν' ρ)} {g : ν' → Res (Out ν κ ρ)} (hp : PassesOwn (model X.prog X.w) X.A X.env X.xe) (hc : X.calm = true)
    (hi : IE X Γ tg iter o) (hg : GA X tg is bd) (h1 : Sub Γ (Γw s0)) (h2 : (cw s0).Sublist cs) (hb : ∀ s x, SJ X H0 G0 rt Γw cw Γw cw (bd x ++ Γw s) (cw s) body (f s x)) (k : ∀ s, SJ X H0 G0 rt Γn cn Γl cl (Γw s) (cw s) rest (g s))
    (hs : ∀ x, foldedSetIterable iter X.env x = pure x := by intro _; rfl) : SJ X H0 G0 rt Γn cn Γl cl Γ cs (.For tg iter body [] pos :: rest) ((o.bind fun xs => forR f xs s0).seq g) := fun σ G H D hΓ S q => by
  refine SV.cons (ps_for hp hc (iv X tg iter) (gv X tg) (sv X body) hs) ?_
  have q' : PostO X H0 G0 rt Γw cw Γl cl { D with nx := SV X rest D } G (o.bind fun xs => forR f xs s0) := PostO.seq q fun s σ G H e S h => k s σ G H D e S h
  refine hi σ G H _ hΓ S.gh ?_
  cases o with
  | err c x => exact Wish.h0 S (q' σ)
  | bad => exact q'
  | ok xs =>
    intro J G1 H1 e1 Y
    exact for_read Y hg hb ((hΓ.mono e1.gg).sub h1) ((S.ext e1).sub h2) (Same.refl _) (PostO.mono (r := forR f xs s0) q' e1.gg)
theorem SJ.forS (n : Nat) (Γw : ν' → List Slot) (cw : ν' → List Cell) {μ : Type} [CRep μ] {p : Addr} {m : μ} (s0 : μ → ν') {tg iter : Expr} {is : List Nat} {bd : α → List Slot} {o : Res (List α × μ)} {f : ν' → α → Res (Out ν' ν' ρ)} {g : ν' → Res (Out ν κ ρ)} (hp : PassesOwn (model X.prog X.w) X.A X.env X.xe) (hc : X.calm = true) (hcs : cs[n]? = some ⟨p, μ, m⟩)
    (hi : IS X Γ p m tg iter o) (hg : GA X tg is bd) (h1 : ∀ m, Sub Γ (Γw (s0 m))) (h2 : ∀ m, (cw (s0 m)).Sublist (cs.set n ⟨p, μ, m⟩)) (hb : ∀ s x, SJ X H0 G0 rt Γw cw Γw cw (bd x ++ Γw s) (cw s) body (f s x)) (k : ∀ s, SJ X H0 G0 rt Γn cn Γl cl (Γw s) (cw s) rest (g s))
    (hs : ∀ x, foldedSetIterable iter X.env x = pure x := by intro _; rfl) : SJ X H0 G0 rt Γn cn Γl cl Γ cs (.For tg iter body [] pos :: rest) ((o.hard.bind fun q => forR f q.1 (s0 q.2)).seq g) := fun σ G H D hΓ S q => by
  refine SV.cons (ps_for hp hc (iv X tg iter) (gv X tg) (sv X body) hs) ?_
  have q' : PostO X H0 G0 rt Γw cw Γl cl { D with nx := SV X rest D } G (o.hard.bind fun q => forR f q.1 (s0 q.2)) := PostO.seq q fun s σ G H e S h => k s σ G H D e S h
  obtain ⟨u, q1, q2, q3, q4⟩ := S.at_ n _ hcs
  refine hi σ G H _ u hΓ S.gh q3 q1 q2 ?_
  cases o with
  | err c x => exact q'
  | bad => exact q'
  | ok xs =>
    intro J G1 H1 u1 e1 w1 w2 Y
    exact for_read Y hg hb ((hΓ.mono e1.gg).sub (h1 _)) ((S.put hcs e1 w1 w2).sub (h2 _)) (Same.refl _) (PostO.mono (r := forR f xs.1 (s0 xs.2)) q' e1.gg)
theorem SJ.while_ (Γw : ν' → List Slot) (cw : ν' → List Cell) (n : Nat) (s0 : ν') {t : ν' → Res Bool} {f : ν' → Res (Out ν' ν' ρ)} {g : ν' → Res (Out ν κ ρ)} (hp : PassesOwn (model X.prog X.w) X.A X.env X.xe)
    (h1 : Sub Γ (Γw s0)) (h2 : (cw s0).Sublist cs) (ht : ∀ s, TJ X H0 G0 (Γw s) (cw s) c (t s)) (hb : ∀ s, SJ X H0 G0 rt Γw cw Γw cw (Γw s) (cw s) body (f s)) (k : ∀ s, SJ X H0 G0 rt Γn cn Γl cl (Γw s) (cw s) rest (g s)) :
    SJ X H0 G0 rt Γn cn Γl cl Γ cs (.While c body [] pos :: rest) ((whileR t f n s0).seq g) := fun σ G H D hΓ S q => by
  refine SV.cons (ps_while hp (tv X c) (sv X body)) ?_
  have q' : PostO X H0 G0 rt Γw cw Γl cl { D with nx := SV X rest D } G (whileR t f n s0) := PostO.seq q fun s σ G H e S h => k s σ G H D e S h
  refine ⟨fun m σ H => ∃ s G, EnvOk X.K G σ (Γw s) ∧ Stt X.K H0 G0 G (cw s) H ∧ PostO X H0 G0 rt Γw cw Γl cl { D with nx := SV X rest D } G (whileR t f m s), ⟨n, s0, G, hΓ.sub h1, S.sub h2, q'⟩, ?_⟩
  rintro m σ H ⟨s, G, hΓ, S, q⟩
  cases m with
  | zero => exact q.elim
  | succ m =>
    rw [whileR_succ] at q
    refine ht s σ G H _ hΓ S (PostO.bindT S q fun b G1 H1 e1 S1 q1 => ?_)
    cases b with
    | false =>
      rw [if_neg (by decide)]
      exact q1 σ G1 H1 (Same.refl _) (hΓ.mono e1.gg) S1
    | true =>
      rw [if_pos rfl]
      refine ⟨fun σ' H' => ∃ s G, EnvOk X.K G σ' (Γw s) ∧ Stt X.K H0 G0 G (cw s) H' ∧ PostO X H0 G0 rt Γw cw Γl cl { D with nx := SV X rest D } G (whileR t f m s), fun σ' H' w => ⟨m, Nat.lt_succ_self m, w⟩, ?_⟩
      refine hb s σ G1 H1 _ (hΓ.mono e1.gg) S1 (PostO.turn q1 fun s' σ3 G3 H3 a3 e3 S3 q3 => ?_)
      exact ⟨s', G3, e3, S3, q3⟩
/-- an object is written no more (nothing happens) -/
theorem SJ.freeze (i n : Nat) {p : Addr} {xs : List α} {sts : List Stmt} (hi : getS Γ i = some ⟨i, CRef, ⟨p⟩⟩) (hc : cs[n]? = some ⟨p, List α, xs⟩) (k : SJ X H0 G0 rt Γn cn Γl cl (⟨i, List α, xs⟩ :: Γ) (cs.eraseIdx n) sts r) : SJ X H0 G0 rt Γn cn Γl cl Γ cs sts r := fun σ G H D hΓ S q => by
  obtain ⟨G', e, S', hr⟩ := S.freeze hc
  obtain ⟨v, h1, h2⟩ := hΓ _ _ hi
  cases h2
  refine k σ G' H D (fun j s hs => ?_) S' (PostO.mono q e)
  unfold getS at hs
  cases z : Nat.beq i j with
  | true =>
    rw [show Nat.beq (⟨i, List α, xs⟩ : Slot).i j = Nat.beq i j from rfl, z] at hs
    cases hs
    exact ⟨_, by rw [← Nat.eq_of_beq_eq_true z]; exact h1, hr⟩
  | false =>
    rw [show Nat.beq (⟨i, List α, xs⟩ : Slot).i j = Nat.beq i j from rfl, z] at hs
    exact (hΓ.mono e) j s hs
end
end Mr

/-! Mr9: a def's promise by its body; targets of statements; lists that are written; slices, sums of lists. -/
namespace Mr
open PySem PySem.Spec PyProof.Rows L2
open Rep (rep)
open ToD (toD)
open CRep (crep)
open RepA (repA)
universe u v
/-! ### a def by its body -/
section
variable {P : Program} {w : World} {K : PySem.W.Frag} {mg : Str → Option Value} {base : Heap}
/-- what the callers hand: the arguments' slots -/
class Par (τ : Type) [RepA τ] where
  slots : Nat → τ → List Slot
  n : Nat
  len : ∀ {K : PySem.W.Frag} {G : Hp} {vs : List V} {t : τ}, repA K G vs t → vs.length = n
  env : ∀ {K : PySem.W.Frag} {G : Hp} {vs : List V} {t : τ} {j : Nat} {σ : L2.St}, repA K G vs t → (∀ i v, vs[i]? = some v → σ[j + i]? = some (some v)) → EnvOk K G σ (slots j t)
instance : Par Unit := ⟨fun _ _ => [], 0, fun h => by cases h; rfl, fun _ _ => EnvOk.nil⟩
instance {α τ : Type} [Rep α] [RepA τ] [Par τ] : Par (α × τ) := ⟨fun j t => ⟨j, α, t.1⟩ :: Par.slots (j + 1) t.2, Par.n τ + 1, fun h => by
  obtain ⟨v, r, rfl, h1, h2⟩ := h
  rw [List.length_cons, Par.len h2], fun {K G vs t j σ} h hs => by
  obtain ⟨v, r, rfl, h1, h2⟩ := h
  have ih := Par.env (τ := τ) (j := j + 1) (σ := σ) h2 fun i u hu => by
    have := hs (i + 1) u hu
    rw [show j + (i + 1) = j + 1 + i by omega] at this
    exact this
  intro i s q
  unfold getS at q
  cases z : Nat.beq j i with
  | true =>
    rw [show Nat.beq (⟨j, α, t.1⟩ : Slot).i i = Nat.beq j i from rfl, z] at q
    cases q
    have := hs 0 v rfl
    rw [← Nat.eq_of_beq_eq_true z]
    exact ⟨v, this, h1⟩
  | false =>
    rw [show Nat.beq (⟨j, α, t.1⟩ : Slot).i i = Nat.beq j i from rfl, z] at q
    exact ih i s q⟩
theorem start_get {N : List Str} {vs : List V} {i : Nat} {v : V} (h : vs[i]? = some v) : (start N vs)[i]? = some (some v) := by
  unfold L2.start
  have hi : i < vs.length := (List.getElem?_eq_some_iff.mp h).1
  rw [List.getElem?_append_left (by rw [List.length_map]; exact hi), List.getElem?_map, h]
  rfl
theorem wish_fn {cdv : Value} {A : Around} {outer : List Env} {s : Shared} {H H1 : Hp} {E : XK} {N : List Str} {qual : Str} {scope : Scope} {f : Addr} {c : Str} {x : V} {σ : L2.St}
    (h : ∃ C : Addr, mg c = some (.ref C) ∧ ∀ (H' : Hp) (d : Addr), Same H1 H' → H1 d = none → H' d = some (.xd [(fieldOf c, x)]) → E (.ref C) (some d) H') : Wish (cxOf (L2.CX P w) P w K mg base N qual scope f cdv A outer s H E) σ H1 c x := by
  obtain ⟨C, h1, h2⟩ := h
  exact ⟨fun cls d _ H => E cls d H, takes_of rfl rfl rfl rfl, C, h1, fun H' d s n hd => h2 H' d s n hd⟩
theorem passes_cx {cdv : Value} {A : Around} {outer : List Env} {s : Shared} {H : Hp} {E : XK} {N : List Str} {qual : Str} {scope : Scope} {f : Addr} :
    PassesOwn (model (cxOf (L2.CX P w) P w K mg base N qual scope f cdv A outer s H E).prog (cxOf (L2.CX P w) P w K mg base N qual scope f cdv A outer s H E).w) (cxOf (L2.CX P w) P w K mg base N qual scope f cdv A outer s H E).A (cxOf (L2.CX P w) P w K mg base N qual scope f cdv A outer s H E).env (cxOf (L2.CX P w) P w K mg base N qual scope f cdv A outer s H E).xe := passes_of rfl
/-- what is wanted of a plain return -/
def RTm {ρ : Type} [Rep ρ] (K : PySem.W.Frag) (H0 G0 : Hp) : RT ρ := fun a G H v => Stt K H0 G0 G [] H ∧ rep K G v a
theorem rtm {ρ : Type} [Rep ρ] {H0 G0 : Hp} {cs : List Cell} {G H : Hp} {v : V} {y : ρ} (S : Stt K H0 G0 G cs H) (r : rep K G v y) : RTm K H0 G0 y G H v := ⟨S.sub (List.nil_sublist _), r⟩
theorem stt_start {H G : Hp} (h : Same G H) : Stt K H G G [] H := ⟨Same.refl _, Same.refl _, h, fun _ _ e => e, fun n c hc => by simp at hc, List.nodup_nil⟩
/-- a def's promise: its body gives what fM says -/
theorem fn_m {x qual : Str} {st : Stmt} {f : Addr} {fd : FuncData} {N ps : List Str} {k : Nat} {τ ρ κ : Type} [RepA τ] [Par τ] [Rep ρ] {fM : τ → Res ρ} {body : τ → Res (Out Empty κ ρ)} (F : Fun K x qual st f fd) (S : FnScope N ps (defScope st)) (hps : ps.length = Par.n τ) (hM : ∀ t, fM t = (body t).val)
    (h : ∀ (cdv : Value) (A : Around) (outer : List Env) (s : Shared) (H : Hp) (E : XK) (G0 : Hp) (t : τ), Same G0 H → Room k (A.deeper (envOfC qual (defScope st) s.heap.objs.size f cdv)) →
      SJ (cxOf (L2.CX P w) P w K mg base N qual (defScope st) f cdv A outer s H E) H G0 (RTm K H G0) (fun z : Empty => nomatch z) (fun z : Empty => nomatch z) (fun _ : κ => []) (fun _ : κ => []) (Par.slots 0 t) [] (defBody st) (body t)) :
    FnOk P w K mg base (L2.CX P w) (k + 1) f fd ps (spM K mg fM) := by
  refine F.okX S (fun vs H Q E hs => ?_) fun cdv A outer s H vs Q E hr hs => ⟨_, sv _ _, ?_⟩
  · obtain ⟨G, t, h1, h2, h3⟩ := hs
    rw [Par.len h2, hps]
  · obtain ⟨G0, t, h1, h2, h3⟩ := hs
    refine h cdv A outer s H E G0 t h1 hr (start N vs) G0 H _ (Par.env h2 fun i v hv => by rw [Nat.zero_add]; exact start_get hv) (stt_start h1) ?_
    rw [hM] at h3
    match hb : body t with
    | .ok (.nx z) => exact nomatch z
    | .ok (.rt a) =>
      rw [hb] at h3
      rintro G H' v ⟨S1, r⟩
      exact h3 G H' v ⟨S1.hh, S1.gg, S1.gh, S1.fr⟩ r
    | .ok (.ct z) => rw [hb] at h3; exact h3.elim
    | .ok (.bk z) => rw [hb] at h3; exact h3.elim
    | .err c x => rw [hb] at h3; exact fun σ => wish_fn h3
    | .bad => rw [hb] at h3; exact h3.elim
theorem cal_m {x qual : Str} {st : Stmt} {f : Addr} {fd : FuncData} {N ps : List Str} {k : Nat} {τ ρ κ : Type} [RepA τ] [Par τ] [Rep ρ] {fM : τ → Res ρ} {body : τ → Res (Out Empty κ ρ)} (F : Fun K x qual st f fd) (S : FnScope N ps (defScope st)) (gx : mg x = some (.ref f)) (bd : Binds K fd ps []) (hps : ps.length = Par.n τ) (hM : ∀ t, fM t = (body t).val)
    (h : ∀ (cdv : Value) (A : Around) (outer : List Env) (s : Shared) (H : Hp) (E : XK) (G0 : Hp) (t : τ), Same G0 H → Room k (A.deeper (envOfC qual (defScope st) s.heap.objs.size f cdv)) →
      SJ (cxOf (L2.CX P w) P w K mg base N qual (defScope st) f cdv A outer s H E) H G0 (RTm K H G0) (fun z : Empty => nomatch z) (fun z : Empty => nomatch z) (fun _ : κ => []) (fun _ : κ => []) (Par.slots 0 t) [] (defBody st) (body t)) :
    Cal P w K mg base x (k + 1) (spM K mg fM) := ⟨f, fd, ps, fn_m F S hps hM h, gx, F.kp, bd⟩
/-- the law's own promise -/
def spL (K : PySem.W.Frag) : Sp := fun vs H Q _ => ∃ (a : Addr) (ns : List Int), vs = [.ref a] ∧ SqL K H a (ns.map V.int) ∧ ns.length ≤ 63 ∧ ∀ H', Q (.bl true) H'
theorem fn_law {f : Addr} {fd : FuncData} {ps : List Str} {k : Nat} {fM : Scr × Unit → Res Bool} (F : FnOk P w K mg base (L2.CX P w) k f fd ps (spM K mg fM)) (hM : ∀ ns : List Int, ns.length ≤ 63 → fM (⟨ns⟩, ()) = .ok true) : FnOk P w K mg base (L2.CX P w) k f fd ps (spL K) := by
  have i : ∀ vs H Q E, spL K vs H Q E → spM K mg fM vs H Q E := by
    rintro vs H Q E ⟨a, ns, rfl, h1, h2, h3⟩
    refine ⟨H, (⟨ns⟩, ()), Same.refl _, ⟨_, _, rfl, ⟨a, rfl, h1⟩, rfl⟩, ?_⟩
    rw [hM ns h2]
    rintro G' H' v e r
    cases r
    exact h3 H'
  exact ⟨fun vs H Q E h => F.len vs H Q E (i _ _ _ _ h), fun A outer s H args us vs Q E h1 h2 h3 h4 h => F.run A outer s H args us vs Q E h1 h2 h3 h4 (i _ _ _ _ h)⟩
theorem cx_false {H : Hp} {s s' : Shared} {e : Value} (h : L2.CX P w [] H s (fun _ _ _ => False) e s') : False := by
  obtain ⟨_, _, _, _, _, h⟩ := h
  exact h.2.2.2.2.2.2.2
/-- .. its end may be reached -/
theorem cal_n {x qual : Str} {st : Stmt} {f : Addr} {fd : FuncData} {N ps : List Str} {k : Nat} {τ κ : Type} [RepA τ] [Par τ] {fM : τ → Res Unit} {body : τ → Res (Out Unit κ Unit)} (F : Fun K x qual st f fd) (S : FnScope N ps (defScope st)) (gx : mg x = some (.ref f)) (bd : Binds K fd ps []) (hps : ps.length = Par.n τ) (hM : ∀ t, fM t = (body t).valN ())
    (h : ∀ (cdv : Value) (A : Around) (outer : List Env) (s : Shared) (H : Hp) (E : XK) (G0 : Hp) (t : τ), Same G0 H → Room k (A.deeper (envOfC qual (defScope st) s.heap.objs.size f cdv)) →
      SJ (cxOf (L2.CX P w) P w K mg base N qual (defScope st) f cdv A outer s H E) H G0 (RTm K H G0) (fun _ : Unit => []) (fun _ : Unit => []) (fun _ : κ => []) (fun _ : κ => []) (Par.slots 0 t) [] (defBody st) (body t)) :
    Cal P w K mg base x (k + 1) (spM K mg fM) := by
  refine ⟨f, fd, ps, ?_, gx, F.kp, bd⟩
  refine F.okX S (fun vs H Q E hs => ?_) fun cdv A outer s H vs Q E hr hs => ⟨_, sv _ _, ?_⟩
  · obtain ⟨G, t, h1, h2, h3⟩ := hs
    rw [Par.len h2, hps]
  · obtain ⟨G0, t, h1, h2, h3⟩ := hs
    refine h cdv A outer s H E G0 t h1 hr (start N vs) G0 H _ (Par.env h2 fun i v hv => by rw [Nat.zero_add]; exact start_get hv) (stt_start h1) ?_
    rw [hM] at h3
    match hb : body t with
    | .ok (.nx z) =>
      rw [hb] at h3
      rintro σ G H' a e S1
      exact h3 G H' .non ⟨S1.hh, S1.gg, S1.gh, S1.fr⟩ rfl
    | .ok (.rt a) =>
      rw [hb] at h3
      rintro G H' v ⟨S1, r⟩
      exact h3 G H' v ⟨S1.hh, S1.gg, S1.gh, S1.fr⟩ r
    | .ok (.ct z) => rw [hb] at h3; exact h3.elim
    | .ok (.bk z) => rw [hb] at h3; exact h3.elim
    | .err c x => rw [hb] at h3; exact fun σ => wish_fn h3
    | .bad => rw [hb] at h3; exact h3.elim
/-- a def that returns a new object of the caller's own -/
def PostFF {μ : Type} [CRep μ] (K : PySem.W.Frag) (mg : Str → Option Value) (G H : Hp) (Q : VK) (E : XK) : Res μ → Prop
  | .ok m => ∀ G' H' p u, Ext G H G' H' → H p = none → G' p = none → H' p = some u → crep K G' u m → Q (.ref p) H'
  | .err c x => ∃ C : Addr, mg c = some (.ref C) ∧ ∀ (H' : Hp) (d : Addr), Same H H' → H d = none → H' d = some (.xd [(fieldOf c, x)]) → E (.ref C) (some d) H'
  | .bad => False
def spF {τ μ : Type} [RepA τ] [CRep μ] (K : PySem.W.Frag) (mg : Str → Option Value) (f : τ → Res μ) : Sp := fun vs H Q E => ∃ G t, Same G H ∧ repA K G vs t ∧ PostFF K mg G H Q E (f t)
def RTf {μ : Type} [CRep μ] (K : PySem.W.Frag) (H0 G0 : Hp) : RT μ := fun m G H v => ∃ p, v = .ref p ∧ Stt K H0 G0 G [⟨p, μ, m⟩] H
theorem cal_f {x qual : Str} {st : Stmt} {f : Addr} {fd : FuncData} {N ps : List Str} {k : Nat} {τ ρ κ : Type} [RepA τ] [Par τ] [CRep ρ] {fM : τ → Res ρ} {body : τ → Res (Out Empty κ ρ)} (F : Fun K x qual st f fd) (S : FnScope N ps (defScope st)) (gx : mg x = some (.ref f)) (bd : Binds K fd ps []) (hps : ps.length = Par.n τ) (hM : ∀ t, fM t = (body t).val)
    (h : ∀ (cdv : Value) (A : Around) (outer : List Env) (s : Shared) (H : Hp) (E : XK) (G0 : Hp) (t : τ), Same G0 H → Room k (A.deeper (envOfC qual (defScope st) s.heap.objs.size f cdv)) →
      SJ (cxOf (L2.CX P w) P w K mg base N qual (defScope st) f cdv A outer s H E) H G0 (RTf K H G0) (fun z : Empty => nomatch z) (fun z : Empty => nomatch z) (fun _ : κ => []) (fun _ : κ => []) (Par.slots 0 t) [] (defBody st) (body t)) :
    Cal P w K mg base x (k + 1) (spF K mg fM) := by
  refine ⟨f, fd, ps, ?_, gx, F.kp, bd⟩
  refine F.okX S (fun vs H Q E hs => ?_) fun cdv A outer s H vs Q E hr hs => ⟨_, sv _ _, ?_⟩
  · obtain ⟨G, t, h1, h2, h3⟩ := hs
    rw [Par.len h2, hps]
  · obtain ⟨G0, t, h1, h2, h3⟩ := hs
    refine h cdv A outer s H E G0 t h1 hr (start N vs) G0 H _ (Par.env h2 fun i v hv => by rw [Nat.zero_add]; exact start_get hv) (stt_start h1) ?_
    rw [hM] at h3
    match hb : body t with
    | .ok (.nx z) => exact nomatch z
    | .ok (.rt a) =>
      rw [hb] at h3
      rintro G H' v ⟨p, rfl, S1⟩
      obtain ⟨u, q1, q2, q3, q4⟩ := S1.at_ 0 _ rfl
      exact h3 G H' p u ⟨S1.hh, S1.gg, S1.gh, S1.fr⟩ q4 q3 q1 q2
    | .ok (.ct z) => rw [hb] at h3; exact h3.elim
    | .ok (.bk z) => rw [hb] at h3; exact h3.elim
    | .err c x => rw [hb] at h3; exact fun σ => wish_fn h3
    | .bad => rw [hb] at h3; exact h3.elim
/-- a def that writes its first argument -/
def RTc {ρ μ : Type} [Rep ρ] [CRep μ] (K : PySem.W.Frag) (H0 G0 : Hp) (p : Addr) : RT (ρ × μ) := fun q G H v => Stt K H0 G0 G [⟨p, μ, q.2⟩] H ∧ rep K G v q.1
theorem same_del {H : Hp} {p : Addr} : Same (del H p) H := fun b o h => by
  by_cases e : b = p
  · subst e; rw [del_same] at h; cases h
  · rw [del_ne e] at h; exact h
theorem cal_c {x qual : Str} {st : Stmt} {f : Addr} {fd : FuncData} {N ps : List Str} {k : Nat} {τ ρ κ μ : Type} [RepA τ] [Par τ] [Rep ρ] [CRep μ] {fM : μ → τ → Res (ρ × μ)} {body : μ → τ → Res (Out Empty κ (ρ × μ))} (F : Fun K x qual st f fd) (S : FnScope N ps (defScope st)) (gx : mg x = some (.ref f)) (bd : Binds K fd ps []) (hps : ps.length = Par.n τ + 1) (hM : ∀ m t, fM m t = (body m t).val)
    (h : ∀ (cdv : Value) (A : Around) (outer : List Env) (s : Shared) (H : Hp) (E : XK) (G0 : Hp) (p : Addr) (m : μ) (t : τ), Same G0 (del H p) → Room k (A.deeper (envOfC qual (defScope st) s.heap.objs.size f cdv)) →
      SJ (cxOf (L2.CX P w) P w K mg base N qual (defScope st) f cdv A outer s H E) (del H p) G0 (RTc K (del H p) G0 p) (fun z : Empty => nomatch z) (fun z : Empty => nomatch z) (fun _ : κ => []) (fun _ : κ => []) (⟨0, CRef, ⟨p⟩⟩ :: Par.slots 1 t) [⟨p, μ, m⟩] (defBody st) (body m t)) :
    Cal P w K mg base x (k + 1) (spC K fM) := by
  refine ⟨f, fd, ps, ?_, gx, F.kp, bd⟩
  refine F.okX S (fun vs H Q E hs => ?_) fun cdv A outer s H vs Q E hr hs => ⟨_, sv _ _, ?_⟩
  · obtain ⟨p, u, m, G, t, vr, rfl, h1, h2, h3, h4, h5, h6⟩ := hs
    rw [List.length_cons, Par.len h5, hps]
  · obtain ⟨p, u, m, G0, t, vr, rfl, h1, h2, h3, h4, h5, h6⟩ := hs
    have hg : Same G0 (del H p) := fun b o hb => by
      rw [del_ne (fun z => by rw [z, h3] at hb; cases hb)]; exact h4 b o hb
    have hS : Stt K (del H p) G0 G0 [⟨p, μ, m⟩] H := ⟨same_del, Same.refl _, h4, fun _ _ e => e, fun n c hc => by
      cases n with
      | zero => cases hc; exact ⟨u, h1, h2, h3, del_same⟩
      | succ n => simp at hc, by simp⟩
    have hE : EnvOk K G0 (start N (.ref p :: vr)) (⟨0, CRef, ⟨p⟩⟩ :: Par.slots 1 t) := by
      have e1 : EnvOk K G0 (start N (.ref p :: vr)) (Par.slots 1 t) := Par.env h5 fun i v hv => by
        rw [Nat.add_comm]; exact start_get (show (V.ref p :: vr)[i + 1]? = some v from hv)
      intro i s q
      unfold getS at q
      cases z : Nat.beq 0 i with
      | true =>
        rw [show Nat.beq (⟨0, CRef, ⟨p⟩⟩ : Slot).i i = Nat.beq 0 i from rfl, z] at q
        cases q
        exact ⟨.ref p, by rw [← Nat.eq_of_beq_eq_true z]; exact start_get rfl, rfl⟩
      | false =>
        rw [show Nat.beq (⟨0, CRef, ⟨p⟩⟩ : Slot).i i = Nat.beq 0 i from rfl, z] at q
        exact e1 i s q
    refine h cdv A outer s H E G0 p m t hg hr (start N (.ref p :: vr)) G0 H _ hE hS ?_
    rw [hM] at h6
    match hb : body m t with
    | .ok (.nx z) => exact nomatch z
    | .ok (.rt a) =>
      rw [hb] at h6
      rintro G H' v ⟨S1, r⟩
      obtain ⟨u1, q1, q2, q3, q4⟩ := S1.at_ 0 _ rfl
      refine h6 G H' v u1 ⟨fun b o hbp hb => S1.hh b o (by rw [del_ne hbp]; exact hb), S1.gg, S1.gh, fun b hb1 hb2 => ?_⟩ q1 q2 r
      by_cases hbp : b = p
      · subst hbp; exact q3
      · exact S1.fr b (by rw [del_ne hbp]; exact hb1) hb2
    | .ok (.ct z) => rw [hb] at h6; exact h6.elim
    | .ok (.bk z) => rw [hb] at h6; exact h6.elim
    | .err c x => rw [hb] at h6; exact h6.elim
    | .bad => rw [hb] at h6; exact h6.elim
end
section
variable {X : Cx} {H0 G0 : Hp} {ν ν' κ κ' ρ : Type} {rt : RT ρ} {Γn : ν → List Slot} {cn : ν → List Cell} {Γl : κ → List Slot} {cl : κ → List Cell} {Γ : List Slot} {cs : List Cell} {st : Stmt} {rest body A B : List Stmt} {r : Res (Out ν κ ρ)} {pos px pt : Pos} {x y : Str} {a b c e : Expr} {es : List Expr}
variable {α β τ μ : Type} [Rep α] [Rep β] [RepA τ] [CRep μ]
/-- nothing is said -/
theorem SJ.bad {sts : List Stmt} : SJ X H0 G0 rt Γn cn Γl cl Γ cs sts .bad := fun σ G H D hΓ S q => q.elim
/-! ### targets -/
theorem SJ.asg_R {tg : Expr} {is : List Nat} {bd : α → List Slot} {o : Res α} {f : α → Res (Out ν κ ρ)} (hg : GA X tg is bd) (he : RJ X H0 G0 Γ cs e o) (k : ∀ y, SJ X H0 G0 rt Γn cn Γl cl (bd y ++ Γ) cs rest (f y))
    (hs : swapsWithSole [tg] e pos.line X.env = pure false := by rfl) (hw : swappedStores [tg] e X.env = pure none := by rfl) (h1 : (assignEach [tg] X.env).map (·.2) = [assign tg X.env] := by rfl) : SJ X H0 G0 rt Γn cn Γl cl Γ cs (.Assign [tg] e pos :: rest) (o.bind f) := fun σ G H D hΓ S q => by
  refine SV.cons (ps_asg (ev X e) (gv X tg) hs hw h1) ?_
  refine he σ G H _ hΓ S (PostO.bind S q fun y G1 H1 v e1 S1 r1 q1 => ?_)
  exact hg σ G1 H1 v y _ _ (hΓ.mono e1.gg) e1.gh r1 fun σ' g' l' w' => k y σ' G1 H1 D g' S1 q1
theorem SJ.asg_A {tg : Expr} {is : List Nat} {bd : α → List Slot} {o : α} {f : α → Res (Out ν κ ρ)} (hg : GA X tg is bd) (he : RJ X H0 G0 Γ cs e (.ok o)) (k : ∀ y, SJ X H0 G0 rt Γn cn Γl cl (bd y ++ Γ) cs rest (f y))
    (hs : swapsWithSole [tg] e pos.line X.env = pure false := by rfl) (hw : swappedStores [tg] e X.env = pure none := by rfl) (h1 : (assignEach [tg] X.env).map (·.2) = [assign tg X.env] := by rfl) : SJ X H0 G0 rt Γn cn Γl cl Γ cs (.Assign [tg] e pos :: rest) (lt o f) := SJ.asg_R (o := .ok o) hg he k hs hw h1
theorem SJ.asg_S (n : Nat) {p : Addr} {m : μ} {tg : Expr} {is : List Nat} {bd : α → List Slot} {o : Res (α × μ)} {f : α × μ → Res (Out ν κ ρ)} (hc : cs[n]? = some ⟨p, μ, m⟩) (hg : GA X tg is bd) (he : SE X Γ p m e o) (k : ∀ q : α × μ, SJ X H0 G0 rt Γn cn Γl cl (bd q.1 ++ Γ) (cs.set n ⟨p, μ, q.2⟩) rest (f q))
    (hs : swapsWithSole [tg] e pos.line X.env = pure false := by rfl) (hw : swappedStores [tg] e X.env = pure none := by rfl) (h1 : (assignEach [tg] X.env).map (·.2) = [assign tg X.env] := by rfl) : SJ X H0 G0 rt Γn cn Γl cl Γ cs (.Assign [tg] e pos :: rest) (o.hard.bind f) := fun σ G H D hΓ S q => by
  refine SV.cons (ps_asg (ev X e) (gv X tg) hs hw h1) ?_
  obtain ⟨u, q1, q2, q3, q4⟩ := S.at_ n _ hc
  refine he σ G H _ u hΓ S.gh q3 q1 q2 ?_
  have hp : PostS X p G H (fun v H1 => GV X tg v σ H1 (SV X rest D)) o.hard := PostO.bindS hc S q (fun _ _ => Res.hard_ne) fun y G1 H1 v e1 S1 r1 q1 =>
    hg σ G1 H1 v y.1 _ _ (hΓ.mono e1) S1.gh r1 fun σ' g' l' w' => k y σ' G1 H1 D g' S1 q1
  cases o <;> exact hp
/-- x, y = a, b (local names) -/
theorem SJ.par2 (i j : Nat) {px py pt' pt2 : Pos} {kt k2} {o1 : Res α} {o2 : Res β} {f : α → β → Res (Out ν κ ρ)} (hc : X.calm = true) (hN : X.N.Nodup) (hi : X.N[i]? = some x) (hj : X.N[j]? = some y) (hij : i ≠ j)
    (hx : X.env.scope.names.lookup x = some .local) (hy : X.env.scope.names.lookup y = some .local) (h1 : RE X Γ a o1) (h2 : RE X Γ b o2) (k : ∀ u v, SJ X H0 G0 rt Γn cn Γl cl (⟨j, β, v⟩ :: ⟨i, α, u⟩ :: Γ) cs rest (f u v))
    (hw : swappedStores [.Tuple [.Name x px, .Name y py] kt pt'] (.Tuple [a, b] k2 pt2) X.env = pure (some [x, y])) (hs : swapsWithSole [.Tuple [.Name x px, .Name y py] kt pt'] (.Tuple [a, b] k2 pt2) pos.line X.env = pure false := by rfl)
    (hs1 : starEach [a, b] X.env = (false, eval a X.env) :: starEach [b] X.env := by rfl) (hs2 : starEach [b] X.env = (false, eval b X.env) :: starEach [] X.env := by rfl) :
    SJ X H0 G0 rt Γn cn Γl cl Γ cs (.Assign [.Tuple [.Name x px, .Name y py] kt pt'] (.Tuple [a, b] k2 pt2) pos :: rest) (o1.bind fun u => o2.bind fun v => f u v) := fun σ G H D hΓ S q => by
  refine SV.inv fun ⟨pins, s, I⟩ => SV.cons (ps_par hc hN hi hj hij hx hy (pa_cons (ev X a) (pa_cons (ev X b) pa_nil hs2) hs1) hw hs) ?_
  refine h1 σ G H _ hΓ S.gh (PostO.bind S q fun u G1 H1 v1 e1 S1 r1 q1 => ?_)
  refine h2 σ G1 H1 _ (hΓ.mono e1.gg) e1.gh (PostO.bind S1 q1 fun v G2 H2 v2 e2 S2 r2 q2 => ?_)
  refine ⟨v1, v2, rfl, k u v _ G2 H2 D ?_ S2 q2⟩
  have li : i < σ.length := by rw [I.len]; exact (List.getElem?_eq_some_iff.mp hi).1
  have lj : j < σ.length := by rw [I.len]; exact (List.getElem?_eq_some_iff.mp hj).1
  exact ((hΓ.mono (e1.trans e2).gg).set li (Rep.mono e2.gg r1)).set (by rw [List.length_set]; exact lj) r2
/-- name op= e -/
theorem SJ.aug (i : Nat) {op : Operator} {R : V → V → Hp → VK → Prop} {g : α → β → Res α} {z : α} {o : Res β} {f : α → Res (Out ν κ ρ)} (hN : X.N.Nodup) (hi : X.N[i]? = some x) (hx : Loc X.env.scope x) (hz : getS Γ i = some ⟨i, α, z⟩) (hop : PIp X op R) (hg : Op2P X R g) (hne : ∀ b c e w, g b c ≠ .err e w) (he : RJ X H0 G0 Γ cs e o)
    (k : ∀ u, SJ X H0 G0 rt Γn cn Γl cl (⟨i, α, u⟩ :: Γ) cs rest (f u)) (hf : X.fn x = true ∨ X.env.scope.names.lookup x = some .local := by first | exact .inl rfl | exact .inr rfl) : SJ X H0 G0 rt Γn cn Γl cl Γ cs (.AugAssign (.Name x px) op e pos :: rest) (o.bind fun y => (g z y).bind f) := fun σ G H D hΓ S q => by
  refine SV.inv fun ⟨pins, s, I⟩ => SV.cons (ps_aug hN hi hx (ev X e) hop hf) ?_
  obtain ⟨v0, h1, h2⟩ := hΓ _ _ hz
  refine ⟨v0, h1, ?_⟩
  refine he σ G H _ hΓ S (PostO.bind S q fun y G1 H1 v e1 S1 r1 q1 => ?_)
  cases hq : g z y with
  | ok d =>
    rw [hq] at q1
    exact hg G1 H1 v0 v z y _ d hq e1.gh (Rep.mono e1.gg h2) r1 fun G2 H2 v2 e2 r2 => k d _ G2 H2 D ((hΓ.mono (e1.trans e2).gg).set (by rw [I.len]; exact (List.getElem?_eq_some_iff.mp hi).1) r2) (S1.ext e2) (PostO.mono (r := f d) q1 e2.gg)
  | err c w => exact absurd hq (hne _ _ _ _)
  | bad => rw [hq] at q1; exact q1.elim
theorem pip_ok {op : Operator} {r : R2} (h : OpR X (inplaceOp op) r) : PIp X op r := fun pins s σ H x y v u Q I r1 r2 q => h pins s σ H x y v u Q I r1 r2 q
/-! ### lists that are written -/
def pushR {α : Type} (xs : List α) (x : α) : Res (List α) := iff (xs.length < 1000000) (xs ++ [x])
theorem pushR_ok {α : Type} {xs zs : List α} {x : α} (h : pushR xs x = .ok zs) : xs.length < 1000000 ∧ zs = xs ++ [x] := iff_ok h
/-- name.append(e), e read -/
theorem SJ.push (i n : Nat) {p : Addr} {xs : List α} {o : Res α} {f : List α → Res (Out ν κ ρ)} {apos cpos : Pos} (hi : getS Γ i = some ⟨i, CRef, ⟨p⟩⟩) (hc : cs[n]? = some ⟨p, List α, xs⟩) (he : RJ X H0 G0 Γ cs e o) (k : ∀ zs, SJ X H0 G0 rt Γn cn Γl cl Γ (cs.set n ⟨p, List α, zs⟩) rest (f zs))
    (hN : X.N[i]? = some x := by rfl) (hv : Vis X.env.scope x := by first | exact Or.inl rfl | exact Or.inr (Or.inl rfl) | exact Or.inr (Or.inr rfl)) (hd : (x == ("__debug__" : Str)) = false := by decide) (hcd : (x == ("__classdict__" : Str)) = false := by decide)
    (hs1 : starEach [e] X.env = (false, eval e X.env) :: starEach [] X.env := by rfl) (hb : PE X (.Call (.Attribute (.Name x px) "append" apos) [e] [] cpos) (tBM X.K "list" rAppend (tVar i) (tCons (EV X e) tNil)) := by exact pe_bm PySem.F.plainAttrs_list PySem.F.slot_list_append PySem.F.type_list_append mt_append (pv _) (pa_cons (ev _ _) pa_nil))
    (hs : swapsWith (.Call (.Attribute (.Name x px) "append" apos) [e] [] cpos) none pos.line X.env = pure false := by rfl) :
    SJ X H0 G0 rt Γn cn Γl cl Γ cs (.Expr (.Call (.Attribute (.Name x px) "append" apos) [e] [] cpos) pos :: rest) (o.bind fun y => (pushR xs y).bind f) := fun σ G H D hΓ S q => by
  refine SV.cons (ps_expr hb hs) ?_
  obtain ⟨v0, h1, h2⟩ := hΓ _ _ hi
  cases h2
  obtain ⟨u, q1, ⟨vs, rfl, q2⟩, q3, q4⟩ := S.at_ n _ hc
  refine ⟨_, h1, .inl ⟨rfl, vs, .inl (.inl q1)⟩, ?_⟩
  refine he σ G H _ hΓ S (PostO.bind S q fun y G1 H1 v e1 S1 r1 k1 => ?_)
  have h3 := e1.hh _ _ q1
  have gp := e1.fr p (by rw [q1]; simp) q3
  cases hq : pushR xs y with
  | ok zs =>
    rw [hq] at k1
    obtain ⟨hl, rfl⟩ := pushR_ok hq
    have hlen : vs.length = xs.length := paired_len q2
    refine ⟨p, vs, v, rfl, rfl, h3, Nat.lt_of_lt_of_le (by omega) line_big, ?_⟩
    refine k _ _ G1 _ D (hΓ.mono e1.gg) (S1.put hc (G' := G1) ⟨fun b o hb h => by rw [upd_ne hb]; exact h, Same.refl _, fun b o h => ?_, fun _ _ h => h⟩ upd_same ⟨vs ++ [v], rfl, paired_append (paired_imp (fun _ _ z => Rep.mono e1.gg z) q2) (.cons r1 .nil)⟩) k1
    rw [upd_ne (ne_of_none h gp)]; exact e1.gh _ _ h
  | err c w => exact absurd hq iff_ne
  | bad => rw [hq] at k1; exact k1.elim
/-- .. e writes another object -/
theorem SJ.pushS (i n n2 : Nat) {p p2 : Addr} {xs : List α} {m : μ} {o : Res (α × μ)} {f : List α → μ → Res (Out ν κ ρ)} {apos cpos : Pos} (hi : getS Γ i = some ⟨i, CRef, ⟨p⟩⟩) (hc : cs[n]? = some ⟨p, List α, xs⟩) (hc2 : cs[n2]? = some ⟨p2, μ, m⟩) (hnn : n2 ≠ n) (he : SE X Γ p2 m e o) (k : ∀ zs m', SJ X H0 G0 rt Γn cn Γl cl Γ ((cs.set n2 ⟨p2, μ, m'⟩).set n ⟨p, List α, zs⟩) rest (f zs m'))
    (hN : X.N[i]? = some x := by rfl) (hv : Vis X.env.scope x := by first | exact Or.inl rfl | exact Or.inr (Or.inl rfl) | exact Or.inr (Or.inr rfl)) (hd : (x == ("__debug__" : Str)) = false := by decide) (hcd : (x == ("__classdict__" : Str)) = false := by decide)
    (hs1 : starEach [e] X.env = (false, eval e X.env) :: starEach [] X.env := by rfl) (hb : PE X (.Call (.Attribute (.Name x px) "append" apos) [e] [] cpos) (tBM X.K "list" rAppend (tVar i) (tCons (EV X e) tNil)) := by exact pe_bm PySem.F.plainAttrs_list PySem.F.slot_list_append PySem.F.type_list_append mt_append (pv _) (pa_cons (ev _ _) pa_nil))
    (hs : swapsWith (.Call (.Attribute (.Name x px) "append" apos) [e] [] cpos) none pos.line X.env = pure false := by rfl) :
    SJ X H0 G0 rt Γn cn Γl cl Γ cs (.Expr (.Call (.Attribute (.Name x px) "append" apos) [e] [] cpos) pos :: rest) (o.hard.bind fun q => (pushR xs q.1).bind fun zs => f zs q.2) := fun σ G H D hΓ S q => by
  refine SV.cons (ps_expr hb hs) ?_
  obtain ⟨v0, h1, h2⟩ := hΓ _ _ hi
  cases h2
  obtain ⟨u, q1, ⟨vs, rfl, q2⟩, q3, q4⟩ := S.at_ n _ hc
  refine ⟨_, h1, .inl ⟨rfl, vs, .inl (.inl q1)⟩, ?_⟩
  obtain ⟨u2, w1, w2, w3, w4⟩ := S.at_ n2 _ hc2
  have hpp : p ≠ p2 := fun z => hnn (nd_cells S.nd hc2 hc z.symm)
  refine he σ G H _ u2 hΓ S.gh w3 w1 w2 ?_
  cases o with
  | err c w => exact q.elim
  | bad => exact q.elim
  | ok qq =>
    obtain ⟨y, m'⟩ := qq
    intro G1 H1 v u' e1 h3 h4 r1
    have k1 : PostO X H0 G0 rt Γn cn Γl cl D G ((pushR xs y).bind fun zs => f zs m') := q
    have S1 := S.put hc2 e1 h3 h4
    have hc' : (cs.set n2 ⟨p2, μ, m'⟩)[n]? = some ⟨p, List α, xs⟩ := by rw [List.getElem?_set_ne hnn]; exact hc
    have h5 := e1.hh _ _ hpp q1
    have gp := e1.fr p (by rw [q1]; simp) q3
    cases hq : pushR xs y with
    | ok zs =>
      rw [hq] at k1
      obtain ⟨hl, rfl⟩ := pushR_ok hq
      have hlen : vs.length = xs.length := paired_len q2
      refine ⟨p, vs, v, rfl, rfl, h5, Nat.lt_of_lt_of_le (by omega) line_big, ?_⟩
      refine k _ m' _ G1 _ D (hΓ.mono e1.gg) (S1.put hc' (G' := G1) ⟨fun b o hb h => by rw [upd_ne hb]; exact h, Same.refl _, fun b o h => ?_, fun _ _ h => h⟩ upd_same ⟨vs ++ [v], rfl, paired_append (paired_imp (fun _ _ z => Rep.mono e1.gg z) q2) (.cons r1 .nil)⟩) (PostO.mono (r := f _ m') k1 e1.gg)
      rw [upd_ne (ne_of_none h gp)]; exact e1.gh _ _ h
    | err c w => exact absurd hq iff_ne
    | bad => rw [hq] at k1; exact k1.elim
end
end Mr

/-! Mr10: methods of written lists; new objects of one's own; comprehensions that write; slices, sums and multiples of lists. -/
namespace Mr
open PySem PySem.Spec PyProof.Rows L2
open Rep (rep)
open ToD (toD)
open CRep (crep)
open RepA (repA)
universe u v
section
variable {X : Cx} {Γ : List Slot} {pos px apos cpos : Pos} {x : Str} {a b e : Expr} {es : List Expr} {p : Addr} {k j : Nat}
variable {α β γ τ μ : Type} [Rep α] [Rep β] [Rep γ] [RepA τ] [CRep μ] {xs : List α} {m : μ}
/-! ### a new object -/
theorem PostFr.ext {σ : L2.St} {G H G1 H1 : Hp} {Q : VK} {o : Res μ} (h : PostFr X σ G H Q o) (e : Ext G H G1 H1) : PostFr X σ G1 H1 Q o := by
  cases o with
  | ok a => exact fun G' H' q u e' h1 h2 h3 r => h G' H' q u (e.trans e') (e.hh.free h1) h2 h3 r
  | err c x => exact Wish.mono h e.hh
  | bad => exact h
theorem PostFr.bindR {σ : L2.St} {G H : Hp} {Q Q1 : VK} {o : Res α} {f : α → Res μ} (h : PostFr X σ G H Q (o.bind f))
    (k : ∀ a G1 H1 v, Ext G H G1 H1 → rep X.K G1 v a → PostFr X σ G1 H1 Q (f a) → Q1 v H1) : PostR X σ G H Q1 o := by
  cases o with
  | ok a => exact fun G1 H1 v e r => k a G1 H1 v e r (PostFr.ext (o := f a) h e)
  | err c x => exact h
  | bad => exact h
theorem PostFr.bindA {σ : L2.St} {G H : Hp} {Q : VK} {Q1 : List V → Hp → Prop} {o : Res τ} {f : τ → Res μ} (h : PostFr X σ G H Q (o.bind f))
    (k : ∀ a G1 H1 vs, Ext G H G1 H1 → repA X.K G1 vs a → PostFr X σ G1 H1 Q (f a) → Q1 vs H1) : PostA X σ G H Q1 o := by
  cases o with
  | ok a => exact fun G1 H1 v e r => k a G1 H1 v e r (PostFr.ext (o := f a) h e)
  | err c x => exact h
  | bad => exact h
/-- where a new list is laid -/
theorem PostFr.lay {σ : L2.St} {G H : Hp} {Q : VK} {zs : List α} {us : List V} (h : PostFr X σ G H Q (.ok zs)) (hG : Same G H) (hp : Paired (rep X.K G) us zs) (q : Addr) (hq : H q = none) : Q (.ref q) (upd H q (.lst us)) := by
  have h : ∀ G' H' p u, Ext G H G' H' → H p = none → G' p = none → H' p = some u → crep X.K G' u zs → Q (.ref p) H' := h
  exact h G (upd H q (.lst us)) q (.lst us) ⟨same_upd hq, Same.refl _, fun b o hb => by rw [upd_ne (ne_of_none hb (hG.free hq))]; exact hG b o hb, fun _ _ h => h⟩ hq (hG.free hq) upd_same ⟨us, rfl, hp⟩
theorem FR.lst {o : Res (List α)} (h : RArg X Γ es o) : FR X Γ (.List es pos) (o.bind fun t => iff (t.length ≤ 64) t) := fun σ G H Q hΓ hG k => by
  refine EV.of (pe_lst (av X es)) ?_
  refine h σ G H _ hΓ hG (PostFr.bindA k fun t G1 H1 vs e1 r1 k1 => ?_)
  by_cases hl : t.length ≤ 64
  · rw [iff_pos hl] at k1
    exact ⟨le_line (by rw [paired_len r1]; omega), fun q hq => PostFr.lay k1 e1.gh r1 q hq⟩
  · unfold iff at k1
    rw [if_neg hl] at k1
    exact k1.elim
theorem FR.nil : FR X Γ (.List [] pos) (.ok ([] : List α)) := FR.lst (o := .ok []) RArg.lnil
/-- list(xs), a new one -/
theorem FR.list {o : Res (List α)} (hm : X.mg "list" = none) (hg : Gl X "list") (h : RE X Γ a o) (he : starEach [a] X.env = [(false, eval a X.env)] := by rfl) : FR X Γ (.Call (.Name "list" px) [a] [] pos) o := fun σ G H Q hΓ hG k => by
  refine EV.of (pe_callTy call_list_of hg hm (by decide +kernel) (pa_cons (ev X a) pa_nil he) (by decide) (by decide) he) ?_
  have k' : PostFr X σ G H Q (o.bind fun z => .ok z) := by cases o <;> exact k
  refine h σ G H _ hΓ hG (PostFr.bindR k' fun t G1 H1 v e1 r1 k1 => ?_)
  obtain ⟨q, vs, rfl, h2, h3⟩ := r1
  exact ⟨q, vs, rfl, .inl (lsq e1.gh h2), fun l hl => PostFr.lay k1 e1.gh h3 l hl⟩
/-- list(range(n)) -/
theorem FR.listRg {o : Res Int} {p1 p2 : Pos} (hc : X.calm = true) (hm : X.mg "list" = none) (hg : Gl X "list") (hm2 : X.mg "range" = none) (hg2 : Gl X "range") (h : RE X Γ a o) (hpe : PE X (.Call (.Name "list" px) [.Call (.Name "range" p1) [a] [] p2] [] pos) (tLstRg (tRg1 (EV X a)))) :
    FR X Γ (.Call (.Name "list" px) [.Call (.Name "range" p1) [a] [] p2] [] pos) (o.bind rng1R) := fun σ G H Q hΓ hG k => by
  refine EV.of hpe ?_
  refine h σ G H _ hΓ hG (PostFr.bindR k fun n G1 H1 v e1 r1 k1 => ?_)
  cases r1
  cases q : rng1R n with
  | ok zs =>
    rw [q] at k1
    obtain ⟨⟨b1, b2⟩, rfl⟩ := iff_ok q
    refine ⟨n, rfl, ?_, fun q hq => ?_⟩
    · first
        | exact ⟨by omega, by omega, by omega, by omega, le_line (by omega)⟩
        | exact ⟨⟨by omega, by omega, by omega, by omega⟩, le_line (by omega)⟩
        | (unfold RgOk; first | exact ⟨by omega, by omega, by omega, by omega, le_line (by omega)⟩ | exact ⟨⟨by omega, by omega, by omega, by omega⟩, le_line (by omega)⟩ | exact ⟨by omega, by omega, le_line (by omega)⟩)
    · have e : rgV 0 n = (rngL 0 n.toNat).map V.int := by
        unfold rgV rngL
        rw [List.map_map]
        first | rfl | (congr 1; funext z; simp) | (rw [show n - 0 = n by omega]; rfl) | (rw [show (n - 0).toNat = n.toNat by omega]; rfl)
      rw [e]
      exact PostFr.lay k1 e1.gh ints_vals q hq
  | err c w => exact absurd q iff_ne
  | bad => rw [q] at k1; exact k1.elim
/-- xs + ys -/
theorem FR.cat {o1 o2 : Res (List α)} (h1 : RE X Γ a o1) (h2 : RE X Γ b o2) : FR X Γ (.BinOp a .Add b pos) (o1.bind fun xs => o2.bind fun ys => catR xs ys) := fun σ G H Q hΓ hG k => by
  refine BinR.op op_cat σ H Q ?_
  refine h1 σ G H _ hΓ hG (PostFr.bindR k fun xs G1 H1 v1 e1 r1 k1 => h2 σ G1 H1 _ (hΓ.mono e1.gg) e1.gh (PostFr.bindR k1 fun ys G2 H2 v2 e2 r2 k2 => ?_))
  obtain ⟨q1, us1, rfl, g1, p1⟩ := r1
  obtain ⟨q2, us2, rfl, g2, p2⟩ := r2
  cases q : catR xs ys with
  | ok zs =>
    rw [q] at k2
    obtain ⟨hl, rfl⟩ := iff_ok q
    have l1 : us1.length = xs.length := paired_len p1
    have l2 : us2.length = ys.length := paired_len p2
    exact ⟨q1, q2, us1, us2, rfl, rfl, e2.gh _ _ (e2.gg _ _ g1), e2.gh _ _ g2, le_line (by omega), fun l hl => PostFr.lay k2 e2.gh (paired_append (paired_imp (fun _ _ z => Rep.mono e2.gg z) p1) p2) l hl⟩
  | err c w => exact absurd q iff_ne
  | bad => rw [q] at k2; exact k2.elim
/-- xs * n -/
def repR {α : Type} (xs : List α) (n : Int) : Res (List α) := iff ((-1000000 ≤ n ∧ n ≤ 1000000) ∧ xs.length * n.toNat ≤ 1000000) (List.replicate n.toNat xs).flatten
theorem paired_rep {F : V → α → Prop} {us : List V} {xs : List α} (h : Paired F us xs) : ∀ n : Nat, Paired F (List.replicate n us).flatten (List.replicate n xs).flatten
  | 0 => .nil
  | n + 1 => by
    rw [List.replicate_succ, List.replicate_succ, List.flatten_cons, List.flatten_cons]
    exact paired_append h (paired_rep h n)
theorem FR.rep {o1 : Res (List α)} {o2 : Res Int} (h1 : RE X Γ a o1) (h2 : RE X Γ b o2) : FR X Γ (.BinOp a .Mult b pos) (o1.bind fun xs => o2.bind fun n => repR xs n) := fun σ G H Q hΓ hG k => by
  refine BinR.op op_rep σ H Q ?_
  refine h1 σ G H _ hΓ hG (PostFr.bindR k fun xs G1 H1 v1 e1 r1 k1 => h2 σ G1 H1 _ (hΓ.mono e1.gg) e1.gh (PostFr.bindR k1 fun n G2 H2 v2 e2 r2 k2 => ?_))
  obtain ⟨q1, us1, rfl, g1, p1⟩ := r1
  cases r2
  cases q : repR xs n with
  | ok zs =>
    rw [q] at k2
    obtain ⟨⟨⟨b1, b2⟩, hl⟩, rfl⟩ := iff_ok q
    have l1 : us1.length = xs.length := paired_len p1
    exact ⟨q1, n, us1, rfl, rfl, e2.gh _ _ (e2.gg _ _ g1), by omega, by omega, le_line (by rw [l1]; exact hl), fun l hl => PostFr.lay k2 e2.gh (paired_rep (paired_imp (fun _ _ z => Rep.mono e2.gg z) p1) _) l hl⟩
  | err c w => exact absurd q iff_ne
  | bad => rw [q] at k2; exact k2.elim
/-- sorted(xs), ints -/
theorem FR.sorted {o : Res (List Int)} (hm : X.mg "sorted" = none) (hg : Gl X "sorted") (h : RE X Γ a o) (he : starEach [a] X.env = [(false, eval a X.env)] := by rfl) : FR X Γ (.Call (.Name "sorted" px) [a] [] pos) (o.bind fun xs => .ok (sortI xs)) := fun σ G H Q hΓ hG k => by
  refine EV.of (pe_callB cr_sortedI hg hm (by decide +kernel) (pa_cons (ev X a) pa_nil he) (by decide) (by decide) he) ?_
  refine h σ G H _ hΓ hG (PostFr.bindR k fun t G1 H1 v e1 r1 k1 => ?_)
  obtain ⟨q, vs, rfl, h2, h3⟩ := r1
  rw [vals_ints h3] at h2
  refine ⟨q, t, rfl, lsq e1.gh h2, fun ns' l hp hs hl => ?_⟩
  have ee : ns' = sortI t := sorted_one (hp.trans (sortI_perm t).symm) hs (sortI_sorted t)
  subst ee
  exact PostFr.lay k1 e1.gh ints_vals l hl
/-- f(..) that returns a new object -/
theorem FR.call {fM : τ → Res μ} (C : Cal X.prog X.w X.K X.mg X.base x k (spF X.K X.mg fM)) (hr : Room j X.A) (hg : Gl X x) {o : Res τ} (ha : RArg X Γ (e :: es) o) (hkj : k ≤ j := by decide)
    (hdb : (x == ("__debug__" : Str)) = false := by decide) (he : starEach (e :: es) X.env = (false, eval e X.env) :: starEach es X.env := by rfl) (hpl : (backTo pos (starEach es X.env)).any (·.1) = false := by rfl) : FR X Γ (.Call (.Name x px) (e :: es) [] pos) (o.bind fM) := by
  obtain ⟨f, fd, ps, F, hm, hk, hb⟩ := C
  intro σ G H Q hΓ hG q
  have go : ∀ W : WX, Takes X W → AV X (e :: es) σ H (fun vs H1 => spF X.K X.mg fM vs H1 Q (WE W σ)) → EV X (.Call (.Name x px) (e :: es) [] pos) σ H Q := fun W tk h =>
    EV.of (pe_callS F (hr.mono hkj) hg hm hk hb (fun σ => passAt tk σ) (av X (e :: es)) hdb he hpl) h
  cases o with
  | err c w => exact go _ takes0 (ha σ G H _ hΓ hG q)
  | bad => exact q.elim
  | ok t =>
    rw [Res.bind_ok] at q
    cases hf : fM t with
    | ok r =>
      rw [hf] at q
      exact go _ takes0 (ha σ G H _ hΓ hG fun G1 H1 vs e1 r1 => ⟨G1, t, e1.gh, r1, by rw [hf]; exact fun G' H' v u e' h1 h2 h3 r' => q G' H' v u (e1.trans e') (e1.hh.free h1) h2 h3 r'⟩)
    | err c w =>
      rw [hf] at q
      obtain ⟨W, tk, C, hC, q⟩ := q
      exact go W tk (ha σ G H _ hΓ hG fun G1 H1 vs e1 r1 => ⟨G1, t, e1.gh, r1, by rw [hf]; exact ⟨C, hC, fun H' d s n hd => q H' d (e1.hh.trans s) (e1.hh.free n) hd⟩⟩)
    | bad => rw [hf] at q; exact q.elim
/-! ### slices -/
def cutL {α : Type} (xs : List α) (lo hi : Option Int) : List α := (xs.drop (HT.sIx xs.length 0 lo)).take (HT.sIx xs.length xs.length hi - HT.sIx xs.length 0 lo)
theorem paired_drop {F : V → α → Prop} : ∀ {us : List V} {xs : List α} (n : Nat), Paired F us xs → Paired F (us.drop n) (xs.drop n)
  | _, _, 0, h => h
  | _, _, _ + 1, .nil => .nil
  | _, _, n + 1, .cons _ t => paired_drop n t
theorem paired_take {F : V → α → Prop} : ∀ {us : List V} {xs : List α} (n : Nat), Paired F us xs → Paired F (us.take n) (xs.take n)
  | _, _, 0, _ => .nil
  | _, _, _ + 1, .nil => .nil
  | _, _, n + 1, .cons r t => .cons r (paired_take n t)
theorem paired_cut {F : V → α → Prop} {us : List V} {xs : List α} (h : Paired F us xs) (lo hi : Option Int) : Paired F (cutV us lo hi) (cutL xs lo hi) := by
  unfold cutV cutL
  rw [paired_len h]
  exact paired_take _ (paired_drop _ h)
/-- a slice's part -/
def PR (X : Cx) (Γ : List Slot) (e : Option Expr) (o : Res (Option Int)) : Prop := match e with
  | none => o = .ok none
  | some e => ∃ o', RE X Γ e o' ∧ o = o'.bind fun i => .ok (some i)
theorem PR.none : PR X Γ none (.ok none) := rfl
theorem PR.some {o : Res Int} (h : RE X Γ e o) : PR X Γ (some e) (o.bind fun i => .ok (some i)) := ⟨o, h, rfl⟩
def OV (X : Cx) (e : Option Expr) : TO := fun σ H Q => ∀ pins s, Inv X pins σ H s → wpAny (model X.prog X.w) X.A (evalPart e X.env) (fun u s' => ∃ o H', Inv X pins σ H' s' ∧ IsPart u o ∧ Q o H') X.xe s
theorem ov (X : Cx) (e : Option Expr) : PO X e (OV X e) := ⟨fun pins s σ H Q I h => h pins s I⟩
theorem OV.of {e : Option Expr} {t : TO} (h : PO X e t) {σ : L2.St} {H : Hp} {Q : Option Int → Hp → Prop} (q : t σ H Q) : OV X e σ H Q := fun pins s I => h.run pins s σ H Q I q
theorem PR.run {ep : Option Expr} {o : Res (Option Int)} {f : Option Int → Res μ} {σ : L2.St} {G H : Hp} {Q : VK} {Q1 : Option Int → Hp → Prop} (h : PR X Γ ep o) (hΓ : EnvOk X.K G σ Γ) (hG : Same G H) (k : PostFr X σ G H Q (o.bind f))
    (q : ∀ i G1 H1, Ext G H G1 H1 → PostFr X σ G1 H1 Q (f i) → Q1 i H1) : OV X ep σ H Q1 := by
  cases ep with
  | none =>
    cases h
    exact OV.of po_none (q _ G H (Ext.refl hG) k)
  | some e =>
    obtain ⟨o', h1, rfl⟩ := h
    refine OV.of (po_some (ev X e)) ?_
    have k' : PostFr X σ G H Q (o'.bind fun i => f (Option.some i)) := by cases o' <;> exact k
    refine h1 σ G H _ hΓ hG (PostFr.bindR k' fun i G1 H1 v e1 r1 k1 => ?_)
    cases r1
    exact ⟨i, rfl, q _ G1 H1 e1 k1⟩
theorem FR.slice {lo hi : Option Expr} {p2 : Pos} {o : Res (List α)} {ol oh : Res (Option Int)} (h : RE X Γ e o) (hl : PR X Γ lo ol) (hh : PR X Γ hi oh) : FR X Γ (.Subscript e (.Slice lo hi none p2) pos) (o.bind fun xs => ol.bind fun l => oh.bind fun u => .ok (cutL xs l u)) := fun σ G H Q hΓ hG k => by
  refine EV.of (pe_slice sl_list (ev X e) (ov X lo) (ov X hi)) ?_
  refine h σ G H _ hΓ hG (PostFr.bindR k fun xs G1 H1 v e1 r1 k1 => ?_)
  refine hl.run (hΓ.mono e1.gg) e1.gh k1 fun i G2 H2 e2 k2 => ?_
  refine hh.run (hΓ.mono (e1.trans e2).gg) e2.gh k2 fun j G3 H3 e3 k3 => ?_
  obtain ⟨q1, us1, rfl, g1, p1⟩ := r1
  exact ⟨q1, us1, rfl, lsq e3.gh ((e2.trans e3).gg _ _ g1), fun l hl => PostFr.lay k3 e3.gh (paired_cut (paired_imp (fun _ _ z => Rep.mono (e2.trans e3).gg z) p1) i j) l hl⟩
/-- with a step -/
def pickL {α : Type} (xs : List α) (lo hi st : Option Int) : List α := (sliceRange (sliceBounds lo hi st xs.length).1 (sliceBounds lo hi st xs.length).2.1 (sliceBounds lo hi st xs.length).2.2).filterMap (xs[·]?)
def tSl3 (K : PySem.W.Frag) (te : TE) (tl th ts : TO) : TE := fun σ H Q => te σ H fun x H1 => tl σ H1 fun l H2 => th σ H2 fun u H3 => ts σ H3 fun st H4 => ∃ a xs, x = .ref a ∧ SqL K H4 a xs ∧ st ≠ some 0 ∧ (pickL xs l u st).length ≤ sizeLine ∧ ∀ p, H4 p = none → Q (.ref p) (upd H4 p (.lst (pickL xs l u st)))
theorem vals_pick : ∀ {vs : List V} {us : List Value} {ns : List Nat}, Vals vs us → Vals (ns.filterMap (vs[·]?)) (ns.filterMap (us[·]?))
  | _, _, [], _ => .nil
  | vs, us, n :: ns, r => by
    rw [List.filterMap_cons, List.filterMap_cons]
    cases e : vs[n]? with
    | none => rw [Vals.none_of r e]; exact vals_pick r
    | some v =>
      obtain ⟨u, h1, h2⟩ := Vals.get r e
      rw [h1]
      exact .cons h2 (vals_pick r)
theorem paired_pick {F : V → α → Prop} {vs : List V} {us : List α} (r : Paired F vs us) : ∀ {ns : List Nat}, Paired F (ns.filterMap (vs[·]?)) (ns.filterMap (us[·]?))
  | [] => .nil
  | n :: ns => by
    rw [List.filterMap_cons, List.filterMap_cons]
    cases e : vs[n]? with
    | none =>
      have : us[n]? = none := List.getElem?_eq_none_iff.mpr (by rw [← paired_len r]; exact List.getElem?_eq_none_iff.mp e)
      rw [this]; exact paired_pick r
    | some v =>
      obtain ⟨u, h1, h2⟩ := paired_getV r e
      rw [h1]
      exact .cons h2 (paired_pick r)
theorem pe_slice3 {lo hi : Option Expr} {st : Expr} {te : TE} {tl th ts : TO} {p2 : Pos} (he : PE X e te) (hl : PO X lo tl) (hu : PO X hi th) (hst : PO X (some st) ts) :
    PE X (.Subscript e (.Slice lo hi (some st) p2) pos) (tSl3 X.K te tl th ts) := by
  refine ⟨fun pins s σ H Q I h => ?_⟩
  refine Subscript_ (thn (he.run pins s σ H _ I h) fun v s1 ⟨x, H1, I1, r1, q1⟩ => ?_)
  refine wpAny_Slice (thn (hl.run pins s1 σ H1 _ I1 q1) fun vl s2 ⟨l, H2, I2, pl, q2⟩ => ?_)
  refine thn (hu.run pins s2 σ H2 _ I2 q2) fun vu s3 ⟨u, H3, I3, pu, q3⟩ => ?_
  refine thn (hst.run pins s3 σ H3 _ I3 q3) fun vs s4 ⟨o, H4, I4, ps, q4⟩ => ?_
  obtain ⟨a, xs, ex, hx, h0, hpl, q⟩ := q4
  subst ex
  cases r1
  have I5 : Inv X pins σ H4 { s4 with heap := s4.heap.push { cls := .type "slice", data := .fields #[vl, vu, vs] } } := I4.kept (t' := s4.toks) fun b ob q => Heap.get?_push_of_some _ q
  obtain ⟨its, r, ht, hzl⟩ := I5.list hx
  have hlen := r.length
  show wpAny (model X.prog X.w) X.A (subscriptTail e (.Slice lo hi (some st) p2) (.ref a) (.ref s4.heap.objs.size)) (EP X pins σ Q) X.xe { s4 with heap := s4.heap.push { cls := .type "slice", data := .fields #[vl, vu, vs] } }
  refine tail_any (ops := [.ref a, .ref s4.heap.objs.size]) ht.isList.typeIs (PySem.slot_list_getitem.lookup) ?_ (by with_unfolding_all rfl)
  refine wpAny_getItem_list_slice ht.isList (Heap.IsSliceOf.new _ vl vu vs) pl pu ps h0 ?_ (by rw [List.size_toArray]; omega)
  have epick : slicePick its.toArray l u o = (((sliceRange (sliceBounds l u o xs.length).1 (sliceBounds l u o xs.length).2.1 (sliceBounds l u o xs.length).2.2).filterMap (its[·]?)) : List Value).toArray := by
    unfold slicePick
    rw [List.size_toArray, ← hlen]
    have ef : (fun n : Nat => its.toArray[n]?) = (fun n : Nat => its[n]?) := by
      funext n
      simp
    rw [ef]
  rw [epick]
  refine ⟨.ref _, _, I5.laid (t' := s4.toks) (o := .lst (pickL xs l u o)) (fun b ob q => Heap.get?_push_of_some _ q) (Nat.le_refl _) ?_, rfl, q _ (I5.hok.fresh (Nat.le_refl _))⟩
  exact ⟨hpl, _, 0, vals_pick r, Heap.get?_push_size _ rfl⟩
theorem FR.slice3 {lo hi : Option Expr} {st : Expr} {p2 : Pos} {o : Res (List α)} {ol oh os : Res (Option Int)} (h : RE X Γ e o) (hl : PR X Γ lo ol) (hh : PR X Γ hi oh) (hs : PR X Γ (Option.some st) os) :
    FR X Γ (.Subscript e (.Slice lo hi (Option.some st) p2) pos) (o.bind fun xs => ol.bind fun l => oh.bind fun u => os.bind fun c => iff (c ≠ Option.some 0 ∧ (pickL xs l u c).length ≤ 1000000) (pickL xs l u c)) := fun σ G H Q hΓ hG k => by
  refine EV.of (pe_slice3 (ev X e) (ov X lo) (ov X hi) (ov X (Option.some st))) ?_
  refine h σ G H _ hΓ hG (PostFr.bindR k fun xs G1 H1 v e1 r1 k1 => ?_)
  refine hl.run (hΓ.mono e1.gg) e1.gh k1 fun i G2 H2 e2 k2 => ?_
  refine hh.run (hΓ.mono (e1.trans e2).gg) e2.gh k2 fun j G3 H3 e3 k3 => ?_
  refine hs.run (hΓ.mono (e1.trans (e2.trans e3)).gg) e3.gh k3 fun c G4 H4 e4 k4 => ?_
  obtain ⟨q1, us1, rfl, g1, p1⟩ := r1
  have eq : (pickL us1 i j c).length = (pickL xs i j c).length := by
    have := paired_pick (ns := sliceRange (sliceBounds i j c us1.length).1 (sliceBounds i j c us1.length).2.1 (sliceBounds i j c us1.length).2.2) p1
    have h2 := paired_len this
    have h3 : us1.length = xs.length := paired_len p1
    unfold pickL
    rw [h2, h3]
  by_cases hc : c ≠ Option.some 0 ∧ (pickL xs i j c).length ≤ 1000000
  · rw [iff_pos hc] at k4
    refine ⟨q1, us1, rfl, lsq e4.gh ((e2.trans (e3.trans e4)).gg _ _ g1), hc.1, le_line (by rw [eq]; exact hc.2), fun l hl => ?_⟩
    refine PostFr.lay k4 e4.gh ?_ l hl
    have h3 : us1.length = xs.length := paired_len p1
    have := paired_pick (ns := sliceRange (sliceBounds i j c us1.length).1 (sliceBounds i j c us1.length).2.1 (sliceBounds i j c us1.length).2.2) (paired_imp (fun _ _ z => Rep.mono (e2.trans (e3.trans e4)).gg z) p1)
    unfold pickL
    rw [← h3]
    exact this
  · unfold iff at k4
    rw [if_neg hc] at k4
    exact k4.elim
/-- xs[::-1] -/
theorem FR.rev {k0 : Nat} {p1 p2 p3 : Pos} {o : Res (List α)} (h : RE X Γ e o) : FR X Γ (.Subscript e (.Slice Option.none Option.none (Option.some (.UnaryOp .USub (.Constant (.int 1) k0 p1) p2)) p3) pos) (o.bind fun xs => .ok xs.reverse) := fun σ G H Q hΓ hG k => by
  refine EV.of (pe_revL (ev X e)) ?_
  refine h σ G H _ hΓ hG (PostFr.bindR k fun xs G1 H1 v e1 r1 k1 => ?_)
  obtain ⟨q1, us1, rfl, g1, p1⟩ := r1
  refine ⟨q1, us1, rfl, lsq e1.gh g1, fun l hl => PostFr.lay k1 e1.gh ?_ l hl⟩
  have rv : ∀ {us : List V} {xs : List α}, Paired (Rep.rep X.K G1) us xs → Paired (Rep.rep X.K G1) us.reverse xs.reverse := by
    intro us xs h
    induction h with
    | nil => exact .nil
    | cons r t ih => rw [List.reverse_cons, List.reverse_cons]; exact paired_append ih (.cons r .nil)
  exact rv p1
/-! ### methods of a written list -/
def popR {α : Type} (xs : List α) : Res (α × List α) := match xs.getLast? with | some y => .ok (y, xs.dropLast) | none => .bad
theorem paired_dropLast {F : V → α → Prop} {us : List V} {xs : List α} (h : Paired F us xs) : Paired F us.dropLast xs.dropLast := by
  rw [List.dropLast_eq_take, List.dropLast_eq_take, paired_len h]
  exact paired_take _ h
theorem SE.pop (i : Nat) {p : Addr} {xs : List α} (hi : getS Γ i = some ⟨i, CRef, ⟨p⟩⟩) (hN : X.N[i]? = some x := by rfl) (hv : Vis X.env.scope x := by first | exact Or.inl rfl | exact Or.inr (Or.inl rfl) | exact Or.inr (Or.inr rfl)) (hd : (x == ("__debug__" : Str)) = false := by decide) (hcd : (x == ("__classdict__" : Str)) = false := by decide)
    (hline : (apos.endLine == cpos.line) = true := by rfl) : SE X Γ p xs (.Call (.Attribute (.Name x px) "pop" apos) [] [] cpos) (popR xs) := fun σ G H Q u hΓ hG gp hp cm k => by
  refine EV.of (pe_bm0 PySem.F.plainAttrs_list PySem.F.slot_list_pop PySem.F.type_list_pop mt_pop (pe_var hN hv hd hcd) rfl hline) ?_
  obtain ⟨v, h1, h2⟩ := hΓ _ _ hi
  cases h2
  obtain ⟨us, rfl, hpd⟩ := cm
  refine ⟨_, h1, .inl ⟨rfl, us, .inl (.inl hp)⟩, ?_⟩
  unfold popR at k
  cases hq : xs.getLast? with
  | none => rw [hq] at k; exact k.elim
  | some y =>
    rw [hq] at k
    have hlen : us.length = xs.length := paired_len hpd
    rw [List.getLast?_eq_getElem?] at hq
    obtain ⟨v, hv1, hv2⟩ := paired_get hpd hq
    refine ⟨p, us, v, rfl, rfl, hp, by rw [hlen]; exact hv1, ?_⟩
    exact k G _ v (.lst us.dropLast) ⟨fun b o hb h => by rw [upd_ne hb]; exact h, Same.refl _, fun b o h => by rw [upd_ne (ne_of_none h gp)]; exact hG b o h, fun _ _ h => h⟩ upd_same ⟨_, rfl, paired_dropLast hpd⟩ hv2
theorem SE.rev (i : Nat) {p : Addr} {xs : List α} (hi : getS Γ i = some ⟨i, CRef, ⟨p⟩⟩) (hN : X.N[i]? = some x := by rfl) (hv : Vis X.env.scope x := by first | exact Or.inl rfl | exact Or.inr (Or.inl rfl) | exact Or.inr (Or.inr rfl)) (hd : (x == ("__debug__" : Str)) = false := by decide) (hcd : (x == ("__classdict__" : Str)) = false := by decide)
    (hline : (apos.endLine == cpos.line) = true := by rfl) : SE X Γ p xs (.Call (.Attribute (.Name x px) "reverse" apos) [] [] cpos) (.ok ((), xs.reverse)) := fun σ G H Q u hΓ hG gp hp cm k => by
  refine EV.of (pe_bm0 PySem.F.plainAttrs_list PySem.F.slot_list_reverse PySem.F.type_list_reverse mt_reverse (pe_var hN hv hd hcd) rfl hline) ?_
  obtain ⟨v, h1, h2⟩ := hΓ _ _ hi
  cases h2
  obtain ⟨us, rfl, hpd⟩ := cm
  refine ⟨_, h1, .inl ⟨rfl, us, .inl (.inl hp)⟩, p, us, rfl, rfl, hp, ?_⟩
  have rv : ∀ {us : List V} {xs : List α}, Paired (rep X.K G) us xs → Paired (rep X.K G) us.reverse xs.reverse := by
    intro us xs h
    induction h with
    | nil => exact .nil
    | cons r t ih => rw [List.reverse_cons, List.reverse_cons]; exact paired_append ih (.cons r .nil)
  exact k G _ .non (.lst us.reverse) ⟨fun b o hb h => by rw [upd_ne hb]; exact h, Same.refl _, fun b o h => by rw [upd_ne (ne_of_none h gp)]; exact hG b o h, fun _ _ h => h⟩ upd_same ⟨_, rfl, rv hpd⟩ rfl
/-- len(d), d[i] of the written list itself -/
theorem SE.peek [NoL β] (i : Nat) {p : Addr} {xs : List α} {o : Res β} (hi : getS Γ i = some ⟨i, CRef, ⟨p⟩⟩) (h : RE X (⟨i, List α, xs⟩ :: Γ) e o) : SE X Γ p xs e (o.bind fun y => .ok (y, xs)) := fun σ G H Q u hΓ hG gp hp cm k => by
  obtain ⟨vs, rfl, hpd⟩ := cm
  have en : Same G (upd G p (.lst vs)) := same_upd gp
  have hr : rep X.K (upd G p (.lst vs)) (.ref p) xs := ⟨p, vs, rfl, upd_same, paired_imp (fun _ _ z => Rep.mono en z) hpd⟩
  have hG' : Same (upd G p (.lst vs)) H := fun b o hb => by
    by_cases hbp : b = p
    · subst hbp; rw [upd_same] at hb; rw [← hb]; exact hp
    · rw [upd_ne hbp] at hb; exact hG b o hb
  refine h σ _ H Q (env_frozen hΓ hi en hr) hG' ?_
  cases o with
  | err c x => exact k.elim
  | bad => exact k
  | ok y =>
    intro G' H' v e' r
    have et := ext_thaw (vs := vs) en gp (fun b hb => upd_ne hb) e'
    exact k (del G' p) H' v (.lst vs) et.toP (e'.hh _ _ hp) ⟨vs, rfl, paired_imp (fun _ _ z => Rep.mono et.gg z) hpd⟩ (NoL.nol (e'.gg _ _ upd_same) r)
end
end Mr

/-! Mr11: comprehensions whose elements write; new objects given to a name; items stored. -/
namespace Mr
open PySem PySem.Spec PyProof.Rows L2
open Rep (rep)
open ToD (toD)
open CRep (crep)
open RepA (repA)
universe u v
section
variable {X : Cx} {Γ : List Slot} {pos px apos cpos : Pos} {x : Str} {a b e : Expr} {es : List Expr} {p : Addr} {k j : Nat}
variable {α β γ τ μ : Type} [Rep α] [Rep β] [Rep γ] [RepA τ] [CRep μ] {m : μ}
def PostFS {μ' : Type} [CRep μ'] (X : Cx) (p : Addr) (G H : Hp) (Q : VK) : Res (μ' × μ) → Prop
  | .ok q => ∀ G' H' d u o', ExtP p G H G' H' → H d = none → G' d = none → H' d = some u → crep X.K G' u q.1 → H' p = some o' → crep X.K G' o' q.2 → Q (.ref d) H'
  | _ => False
theorem PostS.frS {G H : Hp} {Q : VK} {o : Res (List β × μ)} (hpn : H p ≠ none) (h : PostS X p G H Q o) : PostFS X p G H Q o := by
  cases o with
  | err c x => exact h
  | bad => exact h
  | ok xs =>
    rintro G' H' q u o' e hq gq hu ⟨vs, rfl, hp⟩ ho hc
    have en : Same G' (upd G' q (.lst vs)) := same_upd gq
    refine h (upd G' q (.lst vs)) H' (.ref q) o' ⟨e.hh, e.gg.trans en, fun b o hb => ?_, fun b h1 h2 => ?_⟩ ho (CRep.mono en hc) ⟨q, vs, rfl, upd_same, paired_imp (fun _ _ z => Rep.mono en z) hp⟩
    · by_cases hbq : b = q
      · subst hbq; rw [upd_same] at hb; rw [← hb]; exact hu
      · rw [upd_ne hbq] at hb; exact e.gh b o hb
    · rw [upd_ne (fun z => h1 (by rw [z]; exact hq))]; exact e.fr b h1 h2
structure LcAtS (X : Cx) (p : Addr) (G1 H1 : Hp) (D : Addr) (G H : Hp) (acc : List β) (m : μ) (i : Nat) : Prop where
  hh : ∀ b u, b ≠ p → H1 b = some u → H b = some u
  gg : Same G1 G
  gh : Same G H
  fr : ∀ q, H1 q ≠ none → G1 q = none → G q = none
  gD : G D = none
  at_ : ∃ vs, H D = some (.lst vs) ∧ Paired (rep X.K G) vs acc ∧ vs.length ≤ i
  cell : ∃ u, H p = some u ∧ crep X.K G u m
theorem lcS_read {tg iter : Expr} {vs is : List Nat} {g : TG} {tt : TT} {te : TE} {bd : α → List Slot} {t : α → Res Bool} {f : μ → α → Res (β × μ)} {σ : L2.St} {G0 H0 : Hp} {Q : VK} {o : Res (List α × μ)} {u0 : HO}
    (his : ∀ i ∈ is, i ∈ vs)
    (hg : ∀ (σ : L2.St) (G H : Hp) (v : V) (x : α) (Q : L2.St → Hp → Prop) (Γ : List Slot), EnvOk X.K G σ Γ → Same G H → rep X.K G v x → (∀ σ', EnvOk X.K G σ' (bd x ++ Γ) → σ'.length = σ.length → (∀ vs : List Nat, (∀ i ∈ is, i ∈ vs) → wipe σ' vs = wipe σ vs) → Q σ' H) → g v σ H Q)
    (ht : ∀ x b, t x = .ok b → ∀ (σ : L2.St) (G H : Hp) (Q : Bool → Hp → Prop), EnvOk X.K G σ (bd x ++ dropS vs Γ) → Same G H → (∀ G' H', Ext G H G' H' → Q b H') → tt σ H Q)
    (hf : ∀ m x q, f m x = .ok q → ∀ (σ : L2.St) (G H : Hp) (Q : VK) (u : HO), EnvOk X.K G σ (bd x ++ dropS vs Γ) → Same G H → G p = none → H p = some u → crep X.K G u m → PostS X p G H Q (.ok q) → te σ H Q)
    (hi : IS X Γ p m tg iter o) (hΓ : EnvOk X.K G0 σ Γ) (hG : Same G0 H0) (gp : G0 p = none) (hp : H0 p = some u0) (cm : crep X.K G0 u0 m) (k : PostFS X p G0 H0 Q (o.bind fun q => (lcS t f q.1 q.2).hard)) : tLc (IV X tg iter) g tt te vs σ H0 Q := by
  refine hi σ G0 H0 _ u0 hΓ hG gp hp cm ?_
  cases o with
  | err c w => exact k
  | bad => exact k
  | ok xm =>
    obtain ⟨xs, m0⟩ := xm
    rw [Res.bind_ok] at k
    have k : PostFS X p G0 H0 Q (lcS t f xs m0).hard := k
    cases hq : lcS t f xs m0 with
    | err c w => rw [hq] at k; exact k.elim
    | bad => rw [hq] at k; exact k.elim
    | ok zm =>
    obtain ⟨zs, mz⟩ := zm
    rw [hq] at k
    have k : ∀ G' H' d u o', ExtP p G0 H0 G' H' → H0 d = none → G' d = none → H' d = some u → crep X.K G' u zs → H' p = some o' → crep X.K G' o' mz → Q (.ref d) H' := k
    intro J G1 H1 u1 e1 hp1 hc1 Y D hD
    have hc1 : crep X.K G1 u1 m0 := hc1
    have Y : Yields X.K J G1 xs := Y
    have hDp : D ≠ p := fun z => by rw [z, hp1] at hD; cases hD
    refine ⟨fun i n H => n = xs.length - i ∧ i ≤ xs.length ∧ ∃ acc rest G mi, LcAtS X p G1 H1 D G H acc mi i ∧ lcS t f (xs.drop i) mi = .ok (rest, mz) ∧ acc ++ rest = zs, ⟨xs.length, by simp, Nat.zero_le _, [], zs, G1, m0, ?_, hq, rfl⟩, ?_⟩
    · exact ⟨fun b u _ h => same_upd hD b u h, Same.refl _, e1.gh.trans (same_upd hD), fun _ _ h => h, e1.gh.free hD, ⟨[], upd_same, .nil, Nat.le_refl _⟩, u1, by rw [upd_ne hDp.symm]; exact hp1, hc1⟩
    · rintro i n H ⟨rfl, hi, acc, rest, G, mi, L, hr, hz⟩
      obtain ⟨us, hus, hpd, hl⟩ := L.at_
      obtain ⟨ui, hui, hci⟩ := L.cell
      have gpi : G p = none := L.fr p (by rw [hp1]; simp) (e1.fr p (by rw [hp]; simp) gp)
      by_cases hlt : i < xs.length
      · refine .inr ⟨Y.go i H hlt (L.gg.trans L.gh), fun H' => ∃ n', n' = xs.length - (i + 1) ∧ i + 1 ≤ xs.length ∧ ∃ acc rest G mi, LcAtS X p G1 H1 D G H' acc mi (i + 1) ∧ lcS t f (xs.drop (i + 1)) mi = .ok (rest, mz) ∧ acc ++ rest = zs, fun H' ⟨n', e, w⟩ => ⟨n', by omega, e, w⟩, ?_⟩
        intro v H' hy
        have hx : xs[i]? = some xs[i] := List.getElem?_eq_getElem hlt
        obtain ⟨G2, e2, r2⟩ := Y.yld i _ G H v H' hx L.gg L.gh hy
        have hw : EnvOk X.K G2 (L2.wipe σ vs) (dropS vs Γ) := (hΓ.mono (e1.gg.trans (L.gg.trans e2.gg))).wipe vs
        rw [List.drop_eq_getElem_cons hlt] at hr
        unfold lcS at hr
        have gD2 : G2 D = none := e2.fr D (by rw [hus]; simp) L.gD
        refine hg _ G2 H' v _ _ _ hw e2.gh r2 fun σ2 g2 l2 w2 => ⟨?_, ?_⟩
        · rw [w2 vs his, wipe_idem]
        · cases htx : t xs[i] with
          | err c w => rw [htx] at hr; cases hr
          | bad => rw [htx] at hr; cases hr
          | ok b =>
            rw [htx, Res.bind_ok] at hr
            refine ht _ b htx σ2 G2 H' _ g2 e2.gh fun G3 H3 e3 => ?_
            have gD3 : G3 D = none := e3.fr D (by rw [e2.hh _ _ hus]; simp) gD2
            have e23 := e2.trans e3
            cases b with
            | false =>
              rw [if_neg (by decide)]
              exact ⟨_, rfl, hlt, acc, rest, G3, mi, ⟨fun b u hb h => e23.hh _ _ (L.hh b u hb h), L.gg.trans e23.gg, e3.gh, fun q h1 h2 => e23.fr q (by
                by_cases hqp : q = p
                · subst hqp; rw [hui]; simp
                · cases z : H1 q with
                  | none => exact absurd z h1
                  | some w => rw [L.hh q w hqp z]; simp) (L.fr q h1 h2), gD3, ⟨us, e23.hh _ _ hus, paired_imp (fun _ _ z => Rep.mono e23.gg z) hpd, by omega⟩, ui, e23.hh _ _ hui, CRep.mono e23.gg hci⟩, hr, hz⟩
            | true =>
              rw [if_pos rfl]
              rw [cond_true] at hr
              cases hfx : f mi xs[i] with
              | err c w => rw [hfx] at hr; cases hr
              | bad => rw [hfx] at hr; cases hr
              | ok ym =>
                obtain ⟨y, m2⟩ := ym
                rw [hfx, Res.bind_ok] at hr
                cases hrest : lcS t f (xs.drop (i + 1)) m2 with
                | err c w => rw [show (y, m2).2 = m2 from rfl, hrest] at hr; cases hr
                | bad => rw [show (y, m2).2 = m2 from rfl, hrest] at hr; cases hr
                | ok rm =>
                  obtain ⟨rest', m3⟩ := rm
                  rw [show (y, m2).2 = m2 from rfl, hrest, Res.bind_ok] at hr
                  cases hr
                  refine hf mi _ (y, m2) hfx σ2 G3 H3 _ ui (g2.mono e3.gg) e3.gh (e23.fr p (by rw [hui]; simp) gpi) (e23.hh _ _ hui) (CRep.mono e23.gg hci) fun G4 H4 v4 o4 e4 hp4 hc4 r4 => ?_
                  have gD4 : G4 D = none := e4.fr D (by rw [e23.hh _ _ hus]; simp) gD3
                  have h4 : H4 D = some (.lst us) := e4.hh _ _ hDp (e23.hh _ _ hus)
                  refine ⟨us, h4, ?_, _, rfl, hlt, acc ++ [y], rest', G4, m2, ⟨fun q w hqp hw' => ?_, L.gg.trans (e23.gg.trans e4.gg), fun q w hw' => ?_, fun q h1 h2 => e4.fr q (by
                      by_cases hqp : q = p
                      · subst hqp; rw [e23.hh _ _ hui]; simp
                      · cases z : H1 q with
                        | none => exact absurd z h1
                        | some w => rw [e23.hh _ _ (L.hh q w hqp z)]; simp) (e23.fr q (by
                      by_cases hqp : q = p
                      · subst hqp; rw [hui]; simp
                      · cases z : H1 q with
                        | none => exact absurd z h1
                        | some w => rw [L.hh q w hqp z]; simp) (L.fr q h1 h2)), gD4, ⟨us ++ [v4], upd_same, paired_append (paired_imp (fun _ _ z => Rep.mono (e23.gg.trans e4.gg) z) hpd) (.cons r4 .nil), by rw [List.length_append]; simp; omega⟩, o4, by rw [upd_ne hDp.symm]; exact hp4, hc4⟩, hrest, by rw [List.append_assoc]; exact hz⟩
                  · have := Y.len; omega
                  · rw [upd_ne (ne_of_none hw' hD)]; exact e4.hh _ _ hqp (e23.hh _ _ (L.hh _ _ hqp hw'))
                  · rw [upd_ne (ne_of_none hw' gD4)]; exact e4.gh _ _ hw'
      · refine .inl ⟨Y.stop i H (by omega) (L.gg.trans L.gh), ?_⟩
        have ei : xs.drop i = [] := List.drop_eq_nil_of_le (by omega)
        rw [ei] at hr
        cases hr
        rw [List.append_nil] at hz
        subst hz
        have e1h : ∀ q, H0 q ≠ none → H1 q ≠ none := fun q h => by
          by_cases hqp : q = p
          · subst hqp; rw [hp1]; simp
          · cases z : H0 q with
            | none => exact absurd z h
            | some w => rw [e1.hh q w hqp z]; simp
        refine k G H D (.lst us) ui ⟨fun b w hb h => L.hh b w hb (e1.hh b w hb h), e1.gg.trans L.gg, L.gh, fun q h1 h2 => L.fr q (e1h q h1) (e1.fr q h1 h2)⟩ ?_ L.gD hus ⟨us, rfl, hpd⟩ hui hci
        cases z : H0 D with
        | none => rfl
        | some w => exact absurd (e1h D (by rw [z]; simp)) (by rw [hD]; simp)
def FS (X : Cx) (Γ : List Slot) (p : Addr) (m : μ) {μ' : Type} [CRep μ'] (e : Expr) (o : Res (μ' × μ)) : Prop := ∀ (σ : L2.St) (G H : Hp) (Q : VK) (u : HO), EnvOk X.K G σ Γ → Same G H → G p = none → H p = some u → crep X.K G u m → PostFS X p G H Q o → EV X e σ H Q
theorem SE.ofF {o : Res (List β × μ)} (h : FS X Γ p m e o) : SE X Γ p m e o := fun σ G H Q u hΓ hG gp hp cm k => h σ G H Q u hΓ hG gp hp cm (PostS.frS (by rw [hp]; simp) k)
theorem FS.lc {tg iter elt : Expr} {ifs : List Expr} {scope : Scope} {own : List (Str × Nat)} {is : List Nat} {bd : α → List Slot} {o : Res (List α × μ)} {t : α → Res Bool} {f : μ → α → Res (β × μ)} (hc : X.calm = true) (hN : X.N.Nodup) (ok : BlkOk X.N X.env.scope scope own) (hi : IS X Γ p m tg iter o)
    (his : ∀ i ∈ is, i ∈ own.map (·.2)) (hg : Blk X scope fun Y => GA Y tg is bd) (ht : ∀ x, Blk X scope fun Y => QR Y (bd x ++ dropS (own.map (·.2)) Γ) ifs (t x)) (he : ∀ m x, Blk X scope fun Y => SE Y (bd x ++ dropS (own.map (·.2)) Γ) p m elt (f m x))
    (hs : ∀ x, foldedSetIterable iter X.env x = pure x := by intro _; rfl) : FS X Γ p m (.ListComp elt [⟨tg, iter, ifs, 0⟩] scope pos) (o.bind fun q => (lcS t f q.1 q.2).hard) := fun σ G H Q u hΓ hG gp hp cm k => by
  refine EV.of (pe_lc (g := fun v σ H Q => ∀ s0 H0 C cl fp, GV (X.blk s0 H0 scope (compEnvC scope cl C X.env) fp) tg v σ H Q) (tt := fun σ H Q => ∀ s0 H0 C cl fp, QV (X.blk s0 H0 scope (compEnvC scope cl C X.env) fp) ifs σ H Q)
    (te := fun σ H Q => ∀ s0 H0 C cl fp, EV (X.blk s0 H0 scope (compEnvC scope cl C X.env) fp) elt σ H Q) hc hN (iv X tg iter) ok (fun s0 H0 C cl fp => ⟨fun pins s σ H v u Q I r h => h s0 H0 C cl fp pins s u I r⟩) (fun s0 H0 C cl fp => ⟨fun pins s σ H Q I h => h s0 H0 C cl fp pins s I⟩)
    (fun s0 H0 C cl fp => ⟨fun pins s σ H Q I h => h s0 H0 C cl fp pins s I⟩) hs) ?_
  refine lcS_read (t := t) (f := f) (bd := bd) his (fun σ G H v x Q Γ h1 h2 h3 k s0 H0 C cl fp => hg s0 H0 C cl fp σ G H v x Q Γ h1 h2 h3 k) (fun x b hb σ G H Q h1 h2 k s0 H0 C cl fp => ?_) (fun m x y hy σ G H Q u h1 h2 h3 h4 h5 k s0 H0 C cl fp => ?_) hi hΓ hG gp hp cm k
  · refine ht x s0 H0 C cl fp σ G H Q h1 h2 ?_
    rw [hb]; exact k
  · refine he m x s0 H0 C cl fp σ G H Q u h1 h2 h3 h4 h5 ?_
    rw [hy]; exact k
theorem SE.lc {tg iter elt : Expr} {ifs : List Expr} {scope : Scope} {own : List (Str × Nat)} {is : List Nat} {bd : α → List Slot} {o : Res (List α × μ)} {t : α → Res Bool} {f : μ → α → Res (β × μ)} (hc : X.calm = true) (hN : X.N.Nodup) (ok : BlkOk X.N X.env.scope scope own) (hi : IS X Γ p m tg iter o)
    (his : ∀ i ∈ is, i ∈ own.map (·.2)) (hg : Blk X scope fun Y => GA Y tg is bd) (ht : ∀ x, Blk X scope fun Y => QR Y (bd x ++ dropS (own.map (·.2)) Γ) ifs (t x)) (he : ∀ m x, Blk X scope fun Y => SE Y (bd x ++ dropS (own.map (·.2)) Γ) p m elt (f m x))
    (hs : ∀ x, foldedSetIterable iter X.env x = pure x := by intro _; rfl) : SE X Γ p m (.ListComp elt [⟨tg, iter, ifs, 0⟩] scope pos) (o.bind fun q => (lcS t f q.1 q.2).hard) := SE.ofF (FS.lc hc hN ok hi his hg ht he hs)
end
section
variable {X : Cx} {H0 G0 : Hp} {ν ν' κ κ' ρ : Type} {rt : RT ρ} {Γn : ν → List Slot} {cn : ν → List Cell} {Γl : κ → List Slot} {cl : κ → List Cell} {Γ : List Slot} {cs : List Cell} {st : Stmt} {rest body A B : List Stmt} {r : Res (Out ν κ ρ)} {pos px pt : Pos} {x y : Str} {a b c e : Expr} {es : List Expr}
variable {α β τ μ μ' : Type} [Rep α] [Rep β] [RepA τ] [CRep μ] [CRep μ']
theorem PostO.bindF {D : Ends} {σ : L2.St} {G H : Hp} {Q1 : VK} {o : Res μ} {f : μ → Res (Out ν κ ρ)} (S : Stt X.K H0 G0 G cs H) (h : PostO X H0 G0 rt Γn cn Γl cl D G (o.bind f))
    (k : ∀ m G1 H1 p, Same G G1 → Stt X.K H0 G0 G1 (⟨p, μ, m⟩ :: cs) H1 → PostO X H0 G0 rt Γn cn Γl cl D G1 (f m) → Q1 (.ref p) H1) : PostFr X σ G H Q1 o := by
  cases o with
  | ok a => exact fun G1 H1 p u e h1 h2 h3 r => k a G1 H1 p e.gg (S.new e h1 h2 h3 r) (PostO.mono (r := f a) h e.gg)
  | err c x => exact Wish.h0 S (h σ)
  | bad => exact h
/-- name = a new object of one's own -/
theorem SJ.new (i : Nat) {o : Res μ} {f : μ → Res (Out ν κ ρ)} (hN : X.N.Nodup) (hi : X.N[i]? = some x) (hx : Loc X.env.scope x) (he : FR X Γ e o) (k : ∀ p m, SJ X H0 G0 rt Γn cn Γl cl (⟨i, CRef, ⟨p⟩⟩ :: Γ) (⟨p, μ, m⟩ :: cs) rest (f m))
    (hs : swapsWith e (some (.Name x px)) pos.line X.env = pure false := by rfl) (hf : X.fn x = true ∨ X.env.scope.names.lookup x = some .local := by first | exact .inl rfl | exact .inr rfl) : SJ X H0 G0 rt Γn cn Γl cl Γ cs (.Assign [.Name x px] e pos :: rest) (o.bind f) := fun σ G H D hΓ S q => by
  refine SV.inv fun ⟨pins, s, I⟩ => SV.cons (ps_set hN hi hx (ev X e) hs hf) ?_
  refine he σ G H _ hΓ S.gh (PostO.bindF S q fun m G1 H1 p e1 S1 q1 => ?_)
  exact k p m _ G1 H1 D ((hΓ.mono e1).set (α := CRef) (x := ⟨p⟩) (by rw [I.len]; exact (List.getElem?_eq_some_iff.mp hi).1) rfl) S1 q1
/-- name = [..] on one line -/
theorem SJ.newLc (i : Nat) {tg iter elt : Expr} {ifs : List Expr} {scope : Scope} {own : List (Str × Nat)} {is : List Nat} {bd : α → List Slot} {o : Res (List α)} {t : α → Res Bool} {f : α → Res β} {g : List β → Res (Out ν κ ρ)} {pos2 : Pos} (hc : X.calm = true) (hN : X.N.Nodup) (hi0 : X.N[i]? = some x) (hyl : X.env.scope.names.lookup x = some .local)
    (hsw : swapsWith (.ListComp elt [⟨tg, iter, ifs, 0⟩] scope pos2) (some (.Name x px)) pos.line X.env = pure true) (ok : BlkOk X.N X.env.scope scope own) (hi : IE X Γ tg iter o)
    (his : ∀ i ∈ is, i ∈ own.map (·.2)) (hg : Blk X scope fun Y => GA Y tg is bd) (ht : ∀ x, Blk X scope fun Y => QR Y (bd x ++ dropS (own.map (·.2)) Γ) ifs (t x)) (he : ∀ x, Blk X scope fun Y => RE Y (bd x ++ dropS (own.map (·.2)) Γ) elt (f x))
    (k : ∀ p m, SJ X H0 G0 rt Γn cn Γl cl (⟨i, CRef, ⟨p⟩⟩ :: Γ) (⟨p, List β, m⟩ :: cs) rest (g m)) (hs : ∀ x, foldedSetIterable iter X.env x = pure x := by intro _; rfl) :
    SJ X H0 G0 rt Γn cn Γl cl Γ cs (.Assign [.Name x px] (.ListComp elt [⟨tg, iter, ifs, 0⟩] scope pos2) pos :: rest) ((o.bind fun xs => (lcR t f xs).hard).bind g) := fun σ G H D hΓ S q => by
  refine SV.inv fun ⟨pins, s, I⟩ => SV.cons (ps_setLc (g := fun v σ H Q => ∀ s0 H0 C cl fp, GV (X.blk s0 H0 scope (compEnvC scope cl C X.env) fp) tg v σ H Q) (tt := fun σ H Q => ∀ s0 H0 C cl fp, QV (X.blk s0 H0 scope (compEnvC scope cl C X.env) fp) ifs σ H Q)
    (te := fun σ H Q => ∀ s0 H0 C cl fp, EV (X.blk s0 H0 scope (compEnvC scope cl C X.env) fp) elt σ H Q) hc hN hi0 hyl hsw (iv X tg iter) ok (fun s0 H0 C cl fp => ⟨fun pins s σ H v u Q I r h => h s0 H0 C cl fp pins s u I r⟩) (fun s0 H0 C cl fp => ⟨fun pins s σ H Q I h => h s0 H0 C cl fp pins s I⟩)
    (fun s0 H0 C cl fp => ⟨fun pins s σ H Q I h => h s0 H0 C cl fp pins s I⟩) hs) ?_
  refine lc_read (t := t) (f := f) (bd := bd) his (fun σ G H v x Q Γ h1 h2 h3 k s0 H0 C cl fp => hg s0 H0 C cl fp σ G H v x Q Γ h1 h2 h3 k) (fun x b hb σ G H Q h1 h2 k s0 H0 C cl fp => ?_) (fun x y hy σ G H Q h1 h2 k s0 H0 C cl fp => ?_) hi hΓ S.gh (PostO.bindF S q fun m G1 H1 p e1 S1 q1 => ?_)
  · refine ht x s0 H0 C cl fp σ G H Q h1 h2 ?_
    rw [hb]; exact k
  · refine he x s0 H0 C cl fp σ G H Q h1 h2 ?_
    rw [hy]; exact k
  · exact k p m _ G1 H1 D ((hΓ.mono e1).set (α := CRef) (x := ⟨p⟩) (by rw [I.len]; exact (List.getElem?_eq_some_iff.mp hi0).1) rfl) S1 q1
/-- .., never written -/
theorem SJ.setLc (i : Nat) {tg iter elt : Expr} {ifs : List Expr} {scope : Scope} {own : List (Str × Nat)} {is : List Nat} {bd : α → List Slot} {o : Res (List α)} {t : α → Res Bool} {f : α → Res β} {g : List β → Res (Out ν κ ρ)} {pos2 : Pos} (hc : X.calm = true) (hN : X.N.Nodup) (hi0 : X.N[i]? = some x) (hyl : X.env.scope.names.lookup x = some .local)
    (hsw : swapsWith (.ListComp elt [⟨tg, iter, ifs, 0⟩] scope pos2) (some (.Name x px)) pos.line X.env = pure true) (ok : BlkOk X.N X.env.scope scope own) (hi : IE X Γ tg iter o)
    (his : ∀ i ∈ is, i ∈ own.map (·.2)) (hg : Blk X scope fun Y => GA Y tg is bd) (ht : ∀ x, Blk X scope fun Y => QR Y (bd x ++ dropS (own.map (·.2)) Γ) ifs (t x)) (he : ∀ x, Blk X scope fun Y => RE Y (bd x ++ dropS (own.map (·.2)) Γ) elt (f x))
    (k : ∀ m, SJ X H0 G0 rt Γn cn Γl cl (⟨i, List β, m⟩ :: Γ) cs rest (g m)) (hs : ∀ x, foldedSetIterable iter X.env x = pure x := by intro _; rfl) :
    SJ X H0 G0 rt Γn cn Γl cl Γ cs (.Assign [.Name x px] (.ListComp elt [⟨tg, iter, ifs, 0⟩] scope pos2) pos :: rest) ((o.bind fun xs => (lcR t f xs).hard).bind g) := fun σ G H D hΓ S q => by
  refine SV.inv fun ⟨pins, s, I⟩ => SV.cons (ps_setLc (g := fun v σ H Q => ∀ s0 H0 C cl fp, GV (X.blk s0 H0 scope (compEnvC scope cl C X.env) fp) tg v σ H Q) (tt := fun σ H Q => ∀ s0 H0 C cl fp, QV (X.blk s0 H0 scope (compEnvC scope cl C X.env) fp) ifs σ H Q)
    (te := fun σ H Q => ∀ s0 H0 C cl fp, EV (X.blk s0 H0 scope (compEnvC scope cl C X.env) fp) elt σ H Q) hc hN hi0 hyl hsw (iv X tg iter) ok (fun s0 H0 C cl fp => ⟨fun pins s σ H v u Q I r h => h s0 H0 C cl fp pins s u I r⟩) (fun s0 H0 C cl fp => ⟨fun pins s σ H Q I h => h s0 H0 C cl fp pins s I⟩)
    (fun s0 H0 C cl fp => ⟨fun pins s σ H Q I h => h s0 H0 C cl fp pins s I⟩) hs) ?_
  refine lc_read (t := t) (f := f) (bd := bd) his (fun σ G H v x Q Γ h1 h2 h3 k s0 H0 C cl fp => hg s0 H0 C cl fp σ G H v x Q Γ h1 h2 h3 k) (fun x b hb σ G H Q h1 h2 k s0 H0 C cl fp => ?_) (fun x y hy σ G H Q h1 h2 k s0 H0 C cl fp => ?_) hi hΓ S.gh (PostR.fr (PostO.bind S q fun m G1 H1 v e1 S1 r1 q1 => ?_))
  · refine ht x s0 H0 C cl fp σ G H Q h1 h2 ?_
    rw [hb]; exact k
  · refine he x s0 H0 C cl fp σ G H Q h1 h2 ?_
    rw [hy]; exact k
  · exact k m _ G1 H1 D ((hΓ.mono e1.gg).set (by rw [I.len]; exact (List.getElem?_eq_some_iff.mp hi0).1) r1) S1 q1
theorem lcR_hard_map (f : α → β) (xs : List α) : (lcR (fun _ => Res.ok true) (fun x => .ok (f x)) xs).hard = .ok (xs.map f) := by rw [lcR_map]; rfl
theorem lcR_hard_filter (t : α → Bool) (f : α → β) (xs : List α) : (lcR (fun x => Res.ok (t x)) (fun x => .ok (f x)) xs).hard = .ok ((xs.filter t).map f) := by rw [lcR_filter]; rfl
/-- .., its elements write -/
theorem SJ.setLcS (i n : Nat) {p : Addr} {m : μ} {tg iter elt : Expr} {ifs : List Expr} {scope : Scope} {own : List (Str × Nat)} {is : List Nat} {bd : α → List Slot} {o : Res (List α × μ)} {t : α → Res Bool} {f : μ → α → Res (β × μ)} {g : List β × μ → Res (Out ν κ ρ)} {pos2 : Pos} (hcs : cs[n]? = some ⟨p, μ, m⟩) (hc : X.calm = true) (hN : X.N.Nodup) (hi0 : X.N[i]? = some x) (hyl : X.env.scope.names.lookup x = some .local)
    (hsw : swapsWith (.ListComp elt [⟨tg, iter, ifs, 0⟩] scope pos2) (some (.Name x px)) pos.line X.env = pure true) (ok : BlkOk X.N X.env.scope scope own) (hi : IS X Γ p m tg iter o)
    (his : ∀ i ∈ is, i ∈ own.map (·.2)) (hg : Blk X scope fun Y => GA Y tg is bd) (ht : ∀ x, Blk X scope fun Y => QR Y (bd x ++ dropS (own.map (·.2)) Γ) ifs (t x)) (he : ∀ m x, Blk X scope fun Y => SE Y (bd x ++ dropS (own.map (·.2)) Γ) p m elt (f m x))
    (k : ∀ q : List β × μ, SJ X H0 G0 rt Γn cn Γl cl (⟨i, List β, q.1⟩ :: Γ) (cs.set n ⟨p, μ, q.2⟩) rest (g q)) (hs : ∀ x, foldedSetIterable iter X.env x = pure x := by intro _; rfl) :
    SJ X H0 G0 rt Γn cn Γl cl Γ cs (.Assign [.Name x px] (.ListComp elt [⟨tg, iter, ifs, 0⟩] scope pos2) pos :: rest) ((o.bind fun q => (lcS t f q.1 q.2).hard).hard.bind g) := fun σ G H D hΓ S q => by
  obtain ⟨u, q1, q2, q3, q4⟩ := S.at_ n _ hcs
  refine SV.inv fun ⟨pins, s, I⟩ => SV.cons (ps_setLc (g := fun v σ H Q => ∀ s0 H0 C cl fp, GV (X.blk s0 H0 scope (compEnvC scope cl C X.env) fp) tg v σ H Q) (tt := fun σ H Q => ∀ s0 H0 C cl fp, QV (X.blk s0 H0 scope (compEnvC scope cl C X.env) fp) ifs σ H Q)
    (te := fun σ H Q => ∀ s0 H0 C cl fp, EV (X.blk s0 H0 scope (compEnvC scope cl C X.env) fp) elt σ H Q) hc hN hi0 hyl hsw (iv X tg iter) ok (fun s0 H0 C cl fp => ⟨fun pins s σ H v u Q I r h => h s0 H0 C cl fp pins s u I r⟩) (fun s0 H0 C cl fp => ⟨fun pins s σ H Q I h => h s0 H0 C cl fp pins s I⟩)
    (fun s0 H0 C cl fp => ⟨fun pins s σ H Q I h => h s0 H0 C cl fp pins s I⟩) hs) ?_
  have hp : PostS X p G H (fun v H1 => gName i v σ H1 (SV X rest D)) (o.bind fun q => (lcS t f q.1 q.2).hard).hard := PostO.bindS hcs S q (fun _ _ => Res.hard_ne) fun y G1 H1 v e1 S1 r1 q1 =>
    k y _ G1 H1 D ((hΓ.mono e1).set (by rw [I.len]; exact (List.getElem?_eq_some_iff.mp hi0).1) r1) S1 q1
  refine lcS_read (t := t) (f := f) (bd := bd) his (fun σ G H v x Q Γ h1 h2 h3 k s0 H0 C cl fp => hg s0 H0 C cl fp σ G H v x Q Γ h1 h2 h3 k) (fun x b hb σ G H Q h1 h2 k s0 H0 C cl fp => ?_) (fun m x y hy σ G H Q u h1 h2 h3 h4 h5 k s0 H0 C cl fp => ?_) hi hΓ S.gh q3 q1 q2 (PostS.frS (by rw [q1]; simp) ?_)
  · refine ht x s0 H0 C cl fp σ G H Q h1 h2 ?_
    rw [hb]; exact k
  · refine he m x s0 H0 C cl fp σ G H Q u h1 h2 h3 h4 h5 ?_
    rw [hy]; exact k
  · have hh : ∀ (o : Res (List β × μ)), PostS X p G H (fun v H1 => gName i v σ H1 (SV X rest D)) o.hard → PostS X p G H (fun v H1 => gName i v σ H1 (SV X rest D)) o := fun o h => by cases o <;> exact h
    exact hh _ hp
/-! items stored -/
def setR {α : Type} (xs : List α) (i : Int) (v : α) : Res (List α) := match ixN xs.length i with | some j => .ok (xs.set j v) | none => .bad
theorem setR_ok {α : Type} {xs zs : List α} {i : Int} {v : α} (h : setR xs i v = .ok zs) : ∃ j, ixN xs.length i = some j ∧ zs = xs.set j v := by
  unfold setR at h
  cases q : ixN xs.length i with
  | none => rw [q] at h; cases h
  | some j => rw [q] at h; cases h; exact ⟨j, rfl, rfl⟩
theorem setR_ne {α : Type} {xs : List α} {i : Int} {v : α} {c : Str} {w : V} : setR xs i v ≠ .err c w := by
  unfold setR
  split <;> intro h <;> cases h
theorem paired_set {F : V → α → Prop} {v : V} {y : α} (r : F v y) : ∀ {us : List V} {xs : List α} (j : Nat), Paired F us xs → Paired F (us.set j v) (xs.set j y)
  | _, _, _, .nil => .nil
  | _, _, 0, .cons _ t => .cons r t
  | _, _, j + 1, .cons h t => .cons h (paired_set r j t)
theorem Stt.store {G H : Hp} {n : Nat} {p : Addr} {xs : List α} (S : Stt X.K H0 G0 G cs H) (hc : cs[n]? = some ⟨p, List α, xs⟩) {us : List V} {zs : List α} (hp : Paired (rep X.K G) us zs) : Stt X.K H0 G0 G (cs.set n ⟨p, List α, zs⟩) (upd H p (.lst us)) := by
  obtain ⟨u, q1, q2, q3, q4⟩ := S.at_ n _ hc
  exact S.put hc (G' := G) ⟨fun b o hb h => by rw [upd_ne hb]; exact h, Same.refl _, fun b o h => by rw [upd_ne (ne_of_none h q3)]; exact S.gh _ _ h, fun _ _ h => h⟩ upd_same ⟨us, rfl, hp⟩
/-- name[i] = e -/
theorem SJ.seti (i n : Nat) {p : Addr} {xs : List α} {o : Res α} {oi : Res Int} {f : List α → Res (Out ν κ ρ)} {ei : Expr} {p3 : Pos} (hi : getS Γ i = some ⟨i, CRef, ⟨p⟩⟩) (hc : cs[n]? = some ⟨p, List α, xs⟩) (he : RJ X H0 G0 Γ cs e o) (hei : RJ X H0 G0 Γ cs ei oi) (k : ∀ zs, SJ X H0 G0 rt Γn cn Γl cl Γ (cs.set n ⟨p, List α, zs⟩) rest (f zs))
    (hpg : PG X (.Subscript (.Name x px) ei p3) (gSub (tVar i) (EV X ei) rSetL)) (hs : swapsWithSole [.Subscript (.Name x px) ei p3] e pos.line X.env = pure false := by rfl) (hw : swappedStores [.Subscript (.Name x px) ei p3] e X.env = pure none := by rfl) (h1 : (assignEach [.Subscript (.Name x px) ei p3] X.env).map (·.2) = [assign (.Subscript (.Name x px) ei p3) X.env] := by rfl) :
    SJ X H0 G0 rt Γn cn Γl cl Γ cs (.Assign [.Subscript (.Name x px) ei p3] e pos :: rest) (o.bind fun y => oi.bind fun z => (setR xs z y).bind f) := fun σ G H D hΓ S q => by
  refine SV.cons (ps_asg (ev X e) hpg hs hw h1) ?_
  obtain ⟨v0, w1, w2⟩ := hΓ _ _ hi
  cases w2
  refine he σ G H _ hΓ S (PostO.bind S q fun y G1 H1 v e1 S1 r1 k1 => ?_)
  refine ⟨_, w1, ?_⟩
  refine hei σ G1 H1 _ (hΓ.mono e1.gg) S1 (PostO.bind S1 k1 fun z G2 H2 v2 e2 S2 r2 k2 => ?_)
  cases r2
  obtain ⟨u, q1, ⟨vs, rfl, q2⟩, q3, q4⟩ := S2.at_ n _ hc
  cases hq : setR xs z y with
  | ok zs =>
    rw [hq] at k2
    obtain ⟨j, hj, rfl⟩ := setR_ok hq
    have hlen : vs.length = xs.length := paired_len q2
    refine ⟨p, vs, z, j, rfl, rfl, q1, by rw [hlen]; exact hj, ?_⟩
    exact k _ _ G2 _ D (hΓ.mono (e1.trans e2).gg) (S2.store hc (paired_set (Rep.mono e2.gg r1) j q2)) k2
  | err c w => exact absurd hq setR_ne
  | bad => rw [hq] at k2; exact k2.elim
/-- name[i] op= e -/
theorem SJ.augi (i n : Nat) {p : Addr} {xs : List α} {o : Res β} {oi : Res Int} {g : α → β → Res α} {R : V → V → Hp → VK → Prop} {op : Operator} {f : List α → Res (Out ν κ ρ)} {ei : Expr} {p3 : Pos} (hi : getS Γ i = some ⟨i, CRef, ⟨p⟩⟩) (hc : cs[n]? = some ⟨p, List α, xs⟩) (hop : PIp X op R) (hg : Op2P X R g) (hne : ∀ b c e w, g b c ≠ .err e w) (hei : RJ X H0 G0 Γ cs ei oi) (he : RJ X H0 G0 Γ cs e o) (k : ∀ zs, SJ X H0 G0 rt Γn cn Γl cl Γ (cs.set n ⟨p, List α, zs⟩) rest (f zs))
    (hps : PS X (.AugAssign (.Subscript (.Name x px) ei p3) op e pos) (tAugS (tVar i) (EV X ei) (EV X e) (rIxL X.K) R rSetL)) :
    SJ X H0 G0 rt Γn cn Γl cl Γ cs (.AugAssign (.Subscript (.Name x px) ei p3) op e pos :: rest) (oi.bind fun z => (ixR xs z).bind fun w => o.bind fun y => (g w y).bind fun d => (setR xs z d).bind f) := fun σ G H D hΓ S q => by
  refine SV.cons hps ?_
  obtain ⟨v0, w1, w2⟩ := hΓ _ _ hi
  cases w2
  refine ⟨_, w1, ?_⟩
  refine hei σ G H _ hΓ S (PostO.bind S q fun z G1 H1 v2 e1 S1 r2 k1 => ?_)
  cases r2
  obtain ⟨u, q1, ⟨vs, rfl, q2⟩, q3, q4⟩ := S1.at_ n _ hc
  cases hx : ixR xs z with
  | err c w => exact absurd hx ixR_ne
  | bad => rw [hx] at k1; exact k1.elim
  | ok w =>
    rw [hx] at k1
    obtain ⟨v, h4, h5⟩ := atI_paired q2 (ixR_ok hx)
    refine ⟨p, vs, z, v, rfl, rfl, .inl (.inl q1), h4, ?_⟩
    refine he σ G1 H1 _ (hΓ.mono e1.gg) S1 (PostO.bind S1 k1 fun y G2 H2 v3 e2 S2 r3 k2 => ?_)
    cases hd : g w y with
    | err c w' => exact absurd hd (hne _ _ _ _)
    | bad => rw [hd] at k2; exact k2.elim
    | ok d =>
      rw [hd] at k2
      refine hg G2 H2 v v3 w y _ d hd e2.gh (Rep.mono e2.gg h5) r3 fun G3 H3 v4 e3 r4 => ?_
      have S3 := S2.ext e3
      obtain ⟨u3, q1', ⟨vs', rfl, q2'⟩, _, _⟩ := S3.at_ n _ hc
      have k3 := PostO.mono (r := (setR xs z d).bind f) k2 e3.gg
      cases hq : setR xs z d with
      | ok zs =>
        rw [hq] at k3
        obtain ⟨j, hj, rfl⟩ := setR_ok hq
        have hlen : vs'.length = xs.length := paired_len q2'
        refine ⟨p, vs', z, j, rfl, rfl, q1', by rw [hlen]; exact hj, ?_⟩
        exact k _ _ G3 _ D (hΓ.mono (e1.trans (e2.trans e3)).gg) (S3.store hc (paired_set r4 j q2')) k3
      | err c w' => exact absurd hq setR_ne
      | bad => rw [hq] at k3; exact k3.elim
end
end Mr

/-! Mr12: errors of the program's own classes: made, raised, caught. -/
namespace Mr
open PySem PySem.Spec PyProof.Rows L2
open Rep (rep)
open ToD (toD)
open CRep (crep)
open RepA (repA)
universe u v
/-! ### the base's __init__, called by the class -/
/-- what the written part says of a class over ValueError without an __init__ of its own -/
structure BaseC (K : PySem.W.Frag) (B : Addr) : Prop where
  ga : PySem.W.specialIn K (.ref B) "__getattribute__" = some (some (.builtin "type.__getattribute__"))
  rd : PySem.W.readsIn K B (.type "type") = true
  at_ : PySem.W.findCls K (.ref B) (.type "type") "__init__" = some (.val (.builtin "ValueError.__init__"))
section
variable {X : Cx} {e : Expr} {es : List Expr} {ta : L2.TA} {x : Str} {p p1 p2 pos : Pos} {B : Addr}
theorem pe_baseInit {pl : Sem Bool} (T0 : BaseC X.K B) (hg : Gl X x) (hm : X.mg x = some (.ref B)) (ha : PA X (e :: es) ta)
    (hc : eval (.Call (.Attribute (.Name x p1) "__init__" p2) (e :: es) [] pos) X.env = (do
      let ov ← eval (.Name x p1) X.env
      standAt p2.atName
      let (f, first) ← holding [ov] (getMethod ov "__init__" pl)
      callWith pos f first (backTo pos (starEach (e :: es) X.env)) (backToKw pos (keywordEach [] X.env))) := by rfl)
    (hdb : (x == ("__debug__" : Str)) = false := by decide) (he : starEach (e :: es) X.env = (false, eval e X.env) :: starEach es X.env := by rfl) (hpl : (backTo pos (starEach es X.env)).any (·.1) = false := by rfl) :
    PE X (.Call (.Attribute (.Name x p1) "__init__" p2) (e :: es) [] pos) (tVeI X.K ta) := by
  refine ⟨fun pins s σ H Q I h => ?_⟩
  refine PySem.W.methodCall_KW (ld_glob I hg hm ?_ hdb) hc
  refine PySem.W.method_cls I.kIn T0.ga (PySem.W.cls_value I.kIn T0.rd T0.at_ (by decide +kernel) ?_)
  show wpAny _ _ (callWith pos (Value.builtin "ValueError.__init__") [] (backTo pos (starEach (e :: es) X.env)) []) _ _ _
  refine PyProof.Rows.callWith_method1 (thn (ha.run pos pins _ σ H _ (I.tok _) h) fun us s1 ⟨vs, H1, I1, r1, a, C, ws, ev, hl, T, ea, q⟩ => ?_) he hpl
  subst ev
  cases r1 with
  | @cons _ u0 _ ur ra rw' =>
    obtain rfl : u0 = Value.ref a := ra
    have hlen : ur.length ≤ sizeLine := by
      rw [← Paired.length rw', sizeLine_eq]
      omega
    exact oinit_ok T I1 ea hlen fun s' J => ⟨.non, H1, J, rfl, q⟩
end
/-- the promise of such an __init__: one field -/
def spInit (K : PySem.W.Frag) (C : Addr) (f : Str) (ok : V → Prop) : Sp := fun vs H Q _ => ∃ (a : Addr) (v : V), vs = [.ref a, v] ∧ ok v ∧ OexC K C ∧ PySem.W.findIn K (.ref C) f = some none ∧ H a = some (exo a C none) ∧
  ∀ d, H d = none → d ≠ a → Q .non (upd (upd H d (exd d [(f, v)])) a (exo a C (some d)))
/-- c is an error class of the module: its __init__ keeps the field f -/
def ExcOk (P : Program) (w : World) (K : PySem.W.Frag) (mg : Str → Option Value) (base : Heap) (c : Str) (k : Nat) (f : Str) (ok : V → Prop) : Prop :=
  ∃ (C fI : Addr) (fd : FuncData) (ps : List Str), mg c = some (.ref C) ∧ OexC K C ∧ PySem.W.findIn K (.ref C) f = some none ∧ PySem.W.findIn K (.ref C) "__init__" = some (some (.ref fI)) ∧ PySem.W.typeIn K (.ref fI) = some (.type "function") ∧
    FnOk P w K mg base CX0 k fI fd ps (spInit K C f ok) ∧ Binds K fd ps []
/-- def __init__(self, what): B.__init__(self, 'text: ' + what); self.what = what -/
def okStr : V → Prop := fun v => ∃ z : Str, v = .str z ∧ z.length ≤ 1000
def okInt : V → Prop := fun v => ∃ z : Int, v = .int z ∧ z.natAbs.log2 < 1920
section
variable {P : Program} {w : World} {K : PySem.W.Frag} {mg : Str → Option Value} {base : Heap}
theorem exc_ok {c qual f : Str} {st : Stmt} {C fI B : Addr} {fd : FuncData} {N ps : List Str} {pre bn : Str} (F : Fun K "__init__" qual st fI fd) (S : FnScope N ps (defScope st)) (gc : mg c = some (.ref C)) (T : OexC K C) (hf : PySem.W.findIn K (.ref C) f = some none) (iC : PySem.W.findIn K (.ref C) "__init__" = some (some (.ref fI))) (tI : PySem.W.typeIn K (.ref fI) = some (.type "function"))
    (bd : Binds K fd ps []) (hps : ps.length = 2) (T0 : BaseC K B) (gB : mg bn = some (.ref B)) (hpre : pre.length ≤ 1000)
    (hbody : ∀ (cdv : Value) (A : Around) (outer : List Env) (s : Shared) (H : Hp) (E : XK), ∃ t, PSs (cxOf CX0 P w K mg base N qual (defScope st) fI cdv A outer s H E).nox (defBody st) t ∧
      ∀ (D : Ends) (σ : L2.St) (a : Addr) (z : Str), σ = L2.start N [.ref a, .str z] → z.length ≤ 1000 → H a = some (exo a C none) → (∀ d, H d = none → d ≠ a → ∀ σ', D.nx σ' (upd (upd H d (exd d [(f, .str z)])) a (exo a C (some d)))) → t D σ H) :
    ExcOk P w K mg base c 1 f okStr := by
  refine ⟨C, fI, fd, ps, gc, T, hf, iC, tI, ?_, bd⟩
  refine F.ok S (fun vs H Q E hs => ?_) fun cdv A outer s H vs Q E hr hs => ?_
  · obtain ⟨a, v, rfl, _⟩ := hs
    rw [hps]; rfl
  · obtain ⟨a, v, rfl, ⟨z, rfl, hz⟩, _, _, ha, q⟩ := hs
    obtain ⟨t, h1, h2⟩ := hbody cdv A outer s H E
    exact ⟨t, h1, h2 _ _ a z rfl hz ha fun d hd hne σ' => q d hd hne⟩
theorem exc_okI {c qual f : Str} {st : Stmt} {C fI B : Addr} {fd : FuncData} {N ps : List Str} {bn : Str} (F : Fun K "__init__" qual st fI fd) (S : FnScope N ps (defScope st)) (gc : mg c = some (.ref C)) (T : OexC K C) (hf : PySem.W.findIn K (.ref C) f = some none) (iC : PySem.W.findIn K (.ref C) "__init__" = some (some (.ref fI))) (tI : PySem.W.typeIn K (.ref fI) = some (.type "function"))
    (bd : Binds K fd ps []) (hps : ps.length = 2) (T0 : BaseC K B) (gB : mg bn = some (.ref B))
    (hbody : ∀ (cdv : Value) (A : Around) (outer : List Env) (s : Shared) (H : Hp) (E : XK), ∃ t, PSs (cxOf CX0 P w K mg base N qual (defScope st) fI cdv A outer s H E).nox (defBody st) t ∧
      ∀ (D : Ends) (σ : L2.St) (a : Addr) (z : Int), σ = L2.start N [.ref a, .int z] → z.natAbs.log2 < 1920 → H a = some (exo a C none) → (∀ d, H d = none → d ≠ a → ∀ σ', D.nx σ' (upd (upd H d (exd d [(f, .int z)])) a (exo a C (some d)))) → t D σ H) :
    ExcOk P w K mg base c 1 f okInt := by
  refine ⟨C, fI, fd, ps, gc, T, hf, iC, tI, ?_, bd⟩
  refine F.ok S (fun vs H Q E hs => ?_) fun cdv A outer s H vs Q E hr hs => ?_
  · obtain ⟨a, v, rfl, _⟩ := hs
    rw [hps]; rfl
  · obtain ⟨a, v, rfl, ⟨z, rfl, hz⟩, _, _, ha, q⟩ := hs
    obtain ⟨t, h1, h2⟩ := hbody cdv A outer s H E
    exact ⟨t, h1, h2 _ _ a z rfl hz ha fun d hd hne σ' => q d hd hne⟩
end
section
variable {X : Cx} {H0 G0 : Hp} {ν ν' κ κ' ρ : Type} {rt : RT ρ} {Γn : ν → List Slot} {cn : ν → List Cell} {Γl : κ → List Slot} {cl : κ → List Cell} {Γ : List Slot} {cs : List Cell} {st : Stmt} {rest body A B : List Stmt} {r : Res (Out ν κ ρ)} {pos px pt : Pos} {x y c : Str} {a b e : Expr} {es : List Expr}
variable {α β τ μ μ' : Type} [Rep α] [Rep β] [RepA τ] [CRep μ] [CRep μ'] {k j : Nat}
/-- raise c(e) -/
theorem SJ.raise [Scal α] {f : Str} {ok : V → Prop} {z : α} {p2 : Pos} (hc : X.calm = true) (E : ExcOk X.prog X.w X.K X.mg X.base c k f ok) (hr : Room j X.A) (hg : Gl X c) (he : AE X Γ e z) (hok : ok (Scal.enc z)) (hfc : fieldOf c = f) (hkj : k + 1 ≤ j := by decide)
    (hdb : (c == ("__debug__" : Str)) = false := by decide) (hs : starEach [e] X.env = (false, eval e X.env) :: starEach [] X.env := by rfl) (hpl : (backTo p2 (starEach [] X.env)).any (·.1) = false := by rfl) :
    SJ X H0 G0 rt Γn cn Γl cl Γ cs (.Raise (some (.Call (.Name c px) [e] [] p2)) none pos :: rest) (.err c (Scal.enc z)) := fun σ G H D hΓ S q => by
  obtain ⟨C, fI, fd, ps, gc, T, hf, iC, tI, F, hb⟩ := E
  obtain ⟨W, tk, C', gC', q⟩ := q σ
  have eC : C' = C := by
    have := gC'.symm.trans gc
    cases this; rfl
  subst eC
  refine SV.cons (ps_raise hc tk (pmk_oex T iC tI F (hr.mono hkj) hb .nil pass0 hg gc (pa_cons (ev X e) pa_nil hs) hdb hs hpl)) ?_
  refine he σ G H _ hΓ S.gh fun G1 H1 v e1 r1 => ⟨Nat.le_of_ble_eq_true rfl, fun a ha => ?_⟩
  have ev := Scal.rep_eq r1
  subst ev
  refine ⟨a, _, rfl, hok, T, hf, upd_same, fun d hd hne => ⟨rfl, d, [(f, Scal.enc z)], upd_same, ?_, ?_, ?_⟩⟩
  · rw [upd_ne hne, upd_same]
  · rw [upd_ne hne] at hd; exact hd
  · have hd1 : H1 d = none := by rw [upd_ne hne] at hd; exact hd
    have s01 : Same H0 H1 := S.hh.trans e1.hh
    subst hfc
    refine q _ d (fun b o hb => ?_) (s01.free hd1) upd_same
    have hb1 := s01 _ _ hb
    have nb : b ≠ d := ne_of_none hb1 hd1
    have na : b ≠ a := ne_of_none hb1 ha
    rw [upd_ne nb, del_ne na, upd_ne na, upd_ne nb, upd_ne na]
    exact hb1
/-! ### caught -/
/-- an error in hand: its own dict -/
structure ExcV where
  a : Addr
  d : Addr
  f : Str
  x : V
instance : Rep ExcV := ⟨fun K G v e => v = .ref e.a ∧ G e.d = some (.xd [(e.f, e.x)]), fun e h => ⟨h.1, e _ _ h.2⟩⟩
def Res.up2 {ν κ ρ : Type} : Res (Out Empty Empty ρ) → Res (Out ν κ ρ)
  | .ok (.nx s) => nomatch s
  | .ok (.ct s) => nomatch s
  | .ok (.bk s) => nomatch s
  | .ok (.rt a) => .ok (.rt a)
  | _ => .bad
def tryR {ν κ ρ : Type} (r : Res (Out ν κ ρ)) (h : Str → V → Res (Out Empty Empty ρ)) : Res (Out ν κ ρ) := match r with
  | .err c x => (h c x).up2
  | r => r
theorem SJ.try_as (i : Nat) (Γj : ν' → List Slot) (cj : ν' → List Cell) {Bc : Addr} {cn' n : Str} {np p2 : Pos} {b₀ : Stmt} {suite : List Stmt} {rB : Res (Out ν' κ ρ)} {h : Str → V → Res (Out Empty Empty ρ)} {g : ν' → Res (Out ν κ ρ)} (hG0 : Same G0 H0) (hs : X.stack = X.env :: X.outer) (hf : X.env.frame = some X.env.locals) (hN : X.N.Nodup) (hi : X.N[i]? = some n) (hln : X.env.kindOf n = some .local) (hcn : Names X cn' (.ref Bc))
    (hb : ∀ pn xe, PassesOwn (model X.prog X.w) X.A X.env xe → SJ (X.tr pn xe) H0 G0 rt Γj cj Γl cl Γ cs body rB)
    (hh : ∀ c x, h c x ≠ .bad → ∃ C : Addr, X.mg c = some (.ref C) ∧ PySem.W.exmOne X.K (.ref C) (.ref Bc) = some true ∧ ∀ (a d : Addr) (oe : Obj) (pn : List (Addr × Obj)), Zc (.ref C) (some d) oe → (∃ vs, oe.data = .fields vs) →
      SJ (X.suite a ((a, oe) :: pn)) H0 G0 rt (fun z : Empty => nomatch z) (fun z : Empty => nomatch z) (fun z : Empty => nomatch z) (fun z : Empty => nomatch z) [⟨i, ExcV, ⟨a, d, fieldOf c, x⟩⟩] [] (b₀ :: suite) (h c x))
    (k : ∀ s, SJ X H0 G0 rt Γn cn Γl cl (Γj s) (cj s) rest (g s)) :
    SJ X H0 G0 rt Γn cn Γl cl Γ cs (.Try body [.ExceptHandler (some (.Name cn' np)) (some n) (b₀ :: suite) p2] [] [] pos :: rest) ((tryR rB h).seq g) := fun σ G H D hΓ S q => by
  have q' : PostO X H0 G0 rt Γj cj Γl cl { D with nx := SV X rest D } G (tryR rB h) := PostO.seq q fun s σ G H e S h => k s σ G H D e S h
  have tk0 : Takes X (fun _ _ _ _ => False) := takes0
  have hsu : ∀ (a : Addr) (oe : Obj) (cls : Value) (d : Option Addr) (pn : List (Addr × Obj)), Zc cls d oe → (∃ vs, oe.data = .fields vs) → PSs (X.suite a ((a, oe) :: pn)) (b₀ :: suite) (fun D σ H => ∀ oe pn, Zc cls d oe → (∃ vs, oe.data = .fields vs) → SV (X.suite a ((a, oe) :: pn)) (b₀ :: suite) D σ H) :=
    fun a oe cls d pn hz hv => ⟨fun pins s σ H D I w => w oe pn hz hv pins s I⟩
  have hbd : ∀ (W : WX) (pn : List (Addr × Obj)) (xe : Value → Shared → Prop), Takes (X.tr pn xe) W → PassesOwn (model X.prog X.w) X.A X.env xe → PSs (X.tr pn xe) body (fun D σ H => ∀ pn xe, Takes (X.tr pn xe) W → PassesOwn (model X.prog X.w) X.A X.env xe → SV (X.tr pn xe) body D σ H) :=
    fun W pn xe t1 t2 => ⟨fun pins s σ H D I w => w pn xe t1 t2 pins s I⟩
  refine SV.cons (ps_try_as (c := .ref Bc) (tb := fun W D σ H => ∀ pn xe, Takes (X.tr pn xe) W → PassesOwn (model X.prog X.w) X.A X.env xe → SV (X.tr pn xe) body D σ H)
    (ts := fun a cls d D σ H => ∀ oe pn, Zc cls d oe → (∃ vs, oe.data = .fields vs) → SV (X.suite a ((a, oe) :: pn)) (b₀ :: suite) D σ H) hs hf hN hi hln hcn tk0 hbd hsu) ?_
  intro pn xe t1 t2
  refine hb pn xe t2 σ G H _ hΓ S ?_
  match rB, q' with
  | .ok (.nx s), q' => exact q'
  | .ok (.ct s), q' => exact q'
  | .ok (.bk s), q' => exact q'
  | .ok (.rt a), q' => exact q'
  | .bad, q' => exact q'.elim
  | .err c xv, q' =>
    intro σ1
    have q2 : PostO X H0 G0 rt Γj cj Γl cl { D with nx := SV X rest D } G (h c xv).up2 := q'
    have hne : h c xv ≠ .bad := fun z => by rw [z] at q2; exact q2.elim
    obtain ⟨C, gC, hx, hS⟩ := hh c xv hne
    refine ⟨_, t1, C, gC, fun H' d s0 hd0 hd => ⟨true, hx, fun _ a ha => ?_, fun z => nomatch z⟩⟩
    intro oe pn' hz hv
    have gd : G0 d = none := hG0.free hd0
    have en : Same G0 (upd G0 d (.xd [(fieldOf c, xv)])) := same_upd gd
    refine SV.inv fun ⟨pins, s, I⟩ => hS a d oe pn' hz hv (σ1.set i (some (.ref a))) (upd G0 d (.xd [(fieldOf c, xv)])) H' _ ?_ ⟨s0, en, fun b o hb => ?_, fun b h1 h2 => ?_, fun n c hc => by simp at hc, List.nodup_nil⟩ ?_
    · intro i' s' hs'
      unfold getS at hs'
      cases z : Nat.beq i i' with
      | true =>
        rw [show Nat.beq (⟨i, ExcV, ⟨a, d, fieldOf c, xv⟩⟩ : Slot).i i' = Nat.beq i i' from rfl, z] at hs'
        cases hs'
        have hl : i < (σ1.set i (some (V.ref a))).length := by rw [I.len]; exact (List.getElem?_eq_some_iff.mp hi).1
        rw [List.length_set] at hl
        exact ⟨.ref a, by rw [← Nat.eq_of_beq_eq_true z]; exact List.getElem?_set_self hl, rfl, upd_same⟩
      | false =>
        rw [show Nat.beq (⟨i, ExcV, ⟨a, d, fieldOf c, xv⟩⟩ : Slot).i i' = Nat.beq i i' from rfl, z] at hs'
        cases hs'
    · by_cases hbd : b = d
      · subst hbd; rw [upd_same] at hb; rw [← hb]; exact hd
      · rw [upd_ne hbd] at hb; exact s0 _ _ (hG0 _ _ hb)
    · rw [upd_ne (fun z => h1 (by rw [z]; exact hd0))]; exact h2
    · match hq : h c xv with
      | .ok (.nx s) => exact nomatch s
      | .ok (.ct s) => exact nomatch s
      | .ok (.bk s) => exact nomatch s
      | .ok (.rt a) => rw [hq] at q2; exact q2
      | .err c x => rw [hq] at q2; exact q2.elim
      | .bad => exact absurd hq hne
end
/-! ### in the suite -/
/-- what the class D must say, so that isinstance asks its instances rightly -/
structure ExcI (K : PySem.W.Frag) (D : Addr) : Prop where
  hcl : (PySem.W.clsIn K D).isSome = true
  hg : PySem.W.findIn K (.ref D) "__getattribute__" = some (some (.builtin "BaseException.__getattribute__"))
  hk : PySem.W.findIn K (.ref D) "__getattr__" = some none
  hs : PySem.W.subIn K (.ref D) (.type "BaseException") = some true
  hd : PySem.W.hasDictIn K D = true
  ha : PySem.W.findIn K (.ref D) "__class__" = some (some (.builtin "object.__class__"))
  hn : PySem.W.specialIn K (.builtin "object.__class__") "__get__" = some (some (.builtin "getset_descriptor.__get__"))
  ht : PySem.W.takesIn K (.builtin "object.__class__") = some true
  hm : PySem.W.mroIn K D (.type "object") = some true
section
variable {X : Cx} {Γ : List Slot} {pos px p1 p2 : Pos} {x y f : Str} {D a d : Addr} {v : V} {oe : Obj} {pn : List (Addr × Obj)} {e : Expr}
def rIsE2 (K : PySem.W.Frag) (D a d : Addr) : List V → Hp → VK → Prop := fun xs H Q => ∃ (c : V) (cv : Value) (b : Bool) (fs : List (Str × V)), xs = [.ref a, c] ∧ (∀ u, RelV c u → u = cv) ∧ H d = some (.xd fs) ∧ PySem.W.kitOne K (.ref D) cv = some b ∧ Q (.bl b) H
theorem call_isE2 (C : ExcI X.K D) (hz : Zc (.ref D) (some d) oe) (hf : ∃ vs, oe.data = .fields vs) : CallR (X.suite a ((a, oe) :: pn)) (.builtin "isinstance") (rIsE2 X.K D a d) := by
  intro pins s σ H xs us Q I r h
  obtain ⟨c, cv, b, fs, rfl, hcv, hdx, e, q⟩ := h
  cases r with
  | cons rx rr =>
    cases rr with
    | cons rt rr =>
      cases rr
      cases rx
      have ec := hcv _ rt
      subst ec
      obtain ⟨hget, _⟩ := I.pin (a, oe) (List.mem_append.mpr (.inl List.mem_cons_self))
      obtain ⟨vs, hv⟩ := hf
      have hx : ObjOk X.prog X.w H s.heap d (.xd fs) := I.hok d _ hdx
      obtain ⟨mA, hns, hr⟩ := hx
      obtain ⟨od, ho, hl⟩ := lookIn_ns hns
      have J : PySem.W.InstAt s.heap a oe D (some od) := ⟨hget, hz.1, by unfold PySem.W.notCls; rw [hv] <;> rfl, by rw [hz.2]; exact ho⟩
      exact PySem.W.kia_one (PySem.W.kitx_exc C.hcl C.hg C.hk C.hs C.ha C.hn C.ht C.hm) I.kIn J e (fun z => nomatch z) fun tk => ⟨.bl b, H, I.kept (t' := tk) fun _ _ z => z, rfl, q⟩
end
end Mr

/-! Mr13: data whose kind is asked; the fields of an error; tuples of any length. -/
namespace Mr
open PySem PySem.Spec PyProof.Rows L2
open Rep (rep)
open ToD (toD)
open CRep (crep)
open RepA (repA)
universe u v
/-! ### the kind of data -/
def kd : PyData → String
  | .none => "NoneType" | .bool _ => "bool" | .int _ => "int" | .str _ => "str" | .list _ => "list" | .tuple _ => "tuple" | .dict _ => "dict"
theorem tyx_of {K : PySem.W.Frag} {H : Hp} {v : V} {d : PyData} (h : Dp K H v d) : TyX K H v (.type (kd d)) := by
  cases h with
  | non => exact .base .non
  | bl b => exact .base (.bl b)
  | int i => exact .base (.int i)
  | str x => exact .base (.str x)
  | lst hs _ =>
    rcases hs with (hs | ⟨o, hs⟩) | ⟨o, its, n, hk, hc, _⟩
    · exact .base (.lst hs)
    · exact .base (.frz hs)
    · exact .kList hk hc
  | tup hs _ =>
    rcases hs with (hs | ⟨o, hs⟩) | ⟨o, its, n, hk, hc, _⟩
    · exact .base (.tup hs)
    · exact .fTuple hs
    · exact .kTuple hk hc
def isTL : PyData → Bool | .list _ => true | .tuple _ => true | _ => false
def isL : PyData → Bool | .list _ => true | _ => false
def isB : PyData → Bool | .bool _ => true | _ => false
def isS : PyData → Bool | .str _ => true | _ => false
def isIS : PyData → Bool | .bool _ => true | .int _ => true | .str _ => true | _ => false
def isN : PyData → Bool | .none => true | _ => false
def isT : PyData → Bool | .bool true => true | _ => false
section
variable {X : Cx} {Γ : List Slot} {pos px p1 p2 p3 pt : Pos} {a b c e : Expr} {x y : Str}
theorem ty_name {n : String} {x : Str} {p : Pos} (hm : X.mg x = none) (hg : Gl X x) (hv : bootBuiltins x = some (.type n)) (hn : x ≠ "__name__" := by decide) (hd : (x == ("__debug__" : Str)) = false := by decide) : PE X (.Name x p) (tC (.ty n)) := pe_bltn hg hm hv rfl hn hd
theorem A_is1 {T : String} {x : Str} {g : PyData → Bool} {d : PyData} (hmi : X.mg "isinstance" = none) (hgi : Gl X "isinstance") (hm : X.mg x = none) (hg : Gl X x) (hv : bootBuiltins x = some (.type T)) (hk : ∀ d, kitB (kd d) T = some (g d)) (h1 : AE X Γ a d)
    (hn : x ≠ "__name__" := by decide) (hd : (x == ("__debug__" : Str)) = false := by decide) (he : starEach [a, .Name x p1] X.env = (false, eval a X.env) :: starEach [.Name x p1] X.env := by rfl) (he2 : starEach [.Name x p1] X.env = [(false, eval (.Name x p1) X.env)] := by rfl) (hpl : (backTo pos (starEach [.Name x p1] X.env)).any (·.1) = false := by rfl) :
    AE X Γ (.Call (.Name "isinstance" px) [a, .Name x p1] [] pos) (g d) := fun σ G H Q hΓ hG k => by
  refine EV.of (pe_callB call_isi hgi hmi (by decide +kernel) (pa_cons (ev X a) (pa_cons (ty_name hm hg hv hn hd) pa_nil he2) he) (by decide) (by decide) he hpl) ?_
  refine h1 σ G H _ hΓ hG fun G1 H1 v e1 r1 => ?_
  exact ⟨v, .ty T, _, _, g d, rfl, .ty T, tyx_of (dp_same e1.gh r1), kit_ty (hk d), k G1 H1 _ e1 rfl⟩
theorem A_is2 {T U : String} {x y : Str} {kt : Nat} {g g1 g2 : PyData → Bool} {d : PyData} (hmi : X.mg "isinstance" = none) (hgi : Gl X "isinstance") (hm : X.mg x = none) (hg : Gl X x) (hv : bootBuiltins x = some (.type T)) (hm2 : X.mg y = none) (hg2 : Gl X y) (hv2 : bootBuiltins y = some (.type U)) (hk : ∀ d, kitB (kd d) T = some (g1 d)) (hk2 : ∀ d, kitB (kd d) U = some (g2 d)) (hgg : ∀ d, g d = (g1 d || g2 d)) (h1 : AE X Γ a d)
    (hn : x ≠ "__name__" := by decide) (hd : (x == ("__debug__" : Str)) = false := by decide) (hn2 : y ≠ "__name__" := by decide) (hd2 : (y == ("__debug__" : Str)) = false := by decide)
    (he : starEach [a, .Tuple [.Name x p1, .Name y p2] kt pt] X.env = (false, eval a X.env) :: starEach [.Tuple [.Name x p1, .Name y p2] kt pt] X.env := by rfl) (he2 : starEach [.Tuple [.Name x p1, .Name y p2] kt pt] X.env = [(false, eval (.Tuple [.Name x p1, .Name y p2] kt pt) X.env)] := by rfl) (hpl : (backTo pos (starEach [.Tuple [.Name x p1, .Name y p2] kt pt] X.env)).any (·.1) = false := by rfl)
    (he3 : starEach [.Name x p1, .Name y p2] X.env = (false, eval (.Name x p1) X.env) :: starEach [.Name y p2] X.env := by rfl) (he4 : starEach [.Name y p2] X.env = (false, eval (.Name y p2) X.env) :: starEach [] X.env := by rfl) :
    AE X Γ (.Call (.Name "isinstance" px) [a, .Tuple [.Name x p1, .Name y p2] kt pt] [] pos) (g d) := fun σ G H Q hΓ hG k => by
  refine EV.of (pe_callB call_isiT hgi hmi (by decide +kernel) (pa_cons (ev X a) (pa_cons (pe_tup (pa_cons (ty_name hm hg hv hn hd) (pa_cons (ty_name hm2 hg2 hv2 hn2 hd2) pa_nil he4) he3)) pa_nil he2) he) (by decide) (by decide) he hpl) ?_
  refine h1 σ G H _ hΓ hG fun G1 H1 v e1 r1 => ⟨Nat.le_of_ble_eq_true rfl, fun p hp => ?_⟩
  have en := Ext.new e1.gh (.tup [.ty T, .ty U]) hp
  refine ⟨v, p, _, _, [.type T, .type U], g d, rfl, upd_same, .cons (.ty T) (.cons (.ty U) .nil), tyx_of (dp_same en.gh (Rep.mono en.gg r1)), ?_, k _ _ _ (e1.trans en) rfl⟩
  rw [hgg]
  refine kitAny_cons (kit_ty (hk d)) (fun h => kitAny_cons (kit_ty (hk2 d)) (fun h2 => ?_) fun h2 => ?_) fun h => ?_
  · rw [h, h2]; exact kitAny_nil
  · rw [h2]; simp
  · rw [h]; rfl
theorem kf_NoneType_tuple : kitB "NoneType" "tuple" = some false := by decide +kernel
theorem kf_bool_tuple : kitB "bool" "tuple" = some false := by decide +kernel
theorem kf_int_tuple : kitB "int" "tuple" = some false := by decide +kernel
theorem kf_str_tuple : kitB "str" "tuple" = some false := by decide +kernel
theorem kf_list_tuple : kitB "list" "tuple" = some false := by decide +kernel
theorem kf_tuple_tuple : kitB "tuple" "tuple" = some true := by decide +kernel
theorem kf_dict_tuple : kitB "dict" "tuple" = some false := by decide +kernel
theorem kf_NoneType_list : kitB "NoneType" "list" = some false := by decide +kernel
theorem kf_bool_list : kitB "bool" "list" = some false := by decide +kernel
theorem kf_int_list : kitB "int" "list" = some false := by decide +kernel
theorem kf_str_list : kitB "str" "list" = some false := by decide +kernel
theorem kf_list_list : kitB "list" "list" = some true := by decide +kernel
theorem kf_tuple_list : kitB "tuple" "list" = some false := by decide +kernel
theorem kf_dict_list : kitB "dict" "list" = some false := by decide +kernel
theorem kf_NoneType_bool : kitB "NoneType" "bool" = some false := by decide +kernel
theorem kf_bool_bool : kitB "bool" "bool" = some true := by decide +kernel
theorem kf_int_bool : kitB "int" "bool" = some false := by decide +kernel
theorem kf_str_bool : kitB "str" "bool" = some false := by decide +kernel
theorem kf_list_bool : kitB "list" "bool" = some false := by decide +kernel
theorem kf_tuple_bool : kitB "tuple" "bool" = some false := by decide +kernel
theorem kf_dict_bool : kitB "dict" "bool" = some false := by decide +kernel
theorem kf_NoneType_str : kitB "NoneType" "str" = some false := by decide +kernel
theorem kf_bool_str : kitB "bool" "str" = some false := by decide +kernel
theorem kf_int_str : kitB "int" "str" = some false := by decide +kernel
theorem kf_str_str : kitB "str" "str" = some true := by decide +kernel
theorem kf_list_str : kitB "list" "str" = some false := by decide +kernel
theorem kf_tuple_str : kitB "tuple" "str" = some false := by decide +kernel
theorem kf_dict_str : kitB "dict" "str" = some false := by decide +kernel
theorem kf_NoneType_int : kitB "NoneType" "int" = some false := by decide +kernel
theorem kf_bool_int : kitB "bool" "int" = some true := by decide +kernel
theorem kf_int_int : kitB "int" "int" = some true := by decide +kernel
theorem kf_str_int : kitB "str" "int" = some false := by decide +kernel
theorem kf_list_int : kitB "list" "int" = some false := by decide +kernel
theorem kf_tuple_int : kitB "tuple" "int" = some false := by decide +kernel
theorem kf_dict_int : kitB "dict" "int" = some false := by decide +kernel
theorem kd_tuple (d : PyData) : kitB (kd d) "tuple" = some (match d with | .tuple _ => true | _ => false) := by
  cases d
  · exact kf_NoneType_tuple
  · exact kf_bool_tuple
  · exact kf_int_tuple
  · exact kf_str_tuple
  · exact kf_list_tuple
  · exact kf_tuple_tuple
  · exact kf_dict_tuple
theorem kd_list (d : PyData) : kitB (kd d) "list" = some (isL d) := by
  cases d
  · exact kf_NoneType_list
  · exact kf_bool_list
  · exact kf_int_list
  · exact kf_str_list
  · exact kf_list_list
  · exact kf_tuple_list
  · exact kf_dict_list
theorem kd_bool (d : PyData) : kitB (kd d) "bool" = some (isB d) := by
  cases d
  · exact kf_NoneType_bool
  · exact kf_bool_bool
  · exact kf_int_bool
  · exact kf_str_bool
  · exact kf_list_bool
  · exact kf_tuple_bool
  · exact kf_dict_bool
theorem kd_str (d : PyData) : kitB (kd d) "str" = some (isS d) := by
  cases d
  · exact kf_NoneType_str
  · exact kf_bool_str
  · exact kf_int_str
  · exact kf_str_str
  · exact kf_list_str
  · exact kf_tuple_str
  · exact kf_dict_str
theorem kd_int (d : PyData) : kitB (kd d) "int" = some (match d with | .bool _ => true | .int _ => true | _ => false) := by
  cases d
  · exact kf_NoneType_int
  · exact kf_bool_int
  · exact kf_int_int
  · exact kf_str_int
  · exact kf_list_int
  · exact kf_tuple_int
  · exact kf_dict_int
theorem isTL_or (d : PyData) : isTL d = ((match d with | .tuple _ => true | _ => false) || isL d) := by cases d <;> rfl
theorem isLT_or (d : PyData) : isTL d = (isL d || (match d with | .tuple _ => true | _ => false)) := by cases d <;> rfl
theorem isIS_or (d : PyData) : isIS d = ((match d with | .bool _ => true | .int _ => true | _ => false) || isS d) := by cases d <;> rfl
/-- value is None, value is not None, value is True -/
theorem dp_none {K : PySem.W.Frag} {H : Hp} {v : V} {d : PyData} (h : Dp K H v d) : decide (v = .non) = isN d := by
  cases h <;> rfl
theorem A_isN {j pn} {d : PyData} (h : AE X Γ a d) : AE X Γ (.Compare a [.Is] [.Constant .none j pn] pos) (isN d) := fun σ G H Q hΓ hG k => by
  refine EV.of (pe_cmp (pc_isN (ev X a))) ?_
  exact h σ G H _ hΓ hG fun G1 H1 v1 e1 r1 => by rw [dp_none r1]; exact k G1 H1 _ e1 rfl
theorem A_notN {j pn} {d : PyData} (h : AE X Γ a d) : AE X Γ (.Compare a [.IsNot] [.Constant .none j pn] pos) (!isN d) := fun σ G H Q hΓ hG k => by
  refine EV.of (pe_cmp (pc_notN (ev X a))) ?_
  exact h σ G H _ hΓ hG fun G1 H1 v1 e1 r1 => by rw [dp_none r1]; exact k G1 H1 _ e1 rfl
theorem T_isN {j pn} {d : PyData} (h : AE X Γ a d) : TA X Γ (.Compare a [.Is] [.Constant .none j pn] pos) (isN d) := fun σ G H Q hΓ hG k => by
  refine TV.of (pt_cmp (pc_isN (ev X a))) ?_
  exact h σ G H _ hΓ hG fun G1 H1 v1 e1 r1 => by rw [dp_none r1]; exact ⟨_, rfl, k G1 H1 e1⟩
def rIsTrue : R2 := fun x y H Q => y = .bl true ∧ ((x = .non ∧ Q (.bl false) H) ∨ ∃ b, x = .bl b ∧ Q (.bl b) H)
theorem op_isTrue : OpR X (compareOp .Is) rIsTrue := by
  intro pins s σ H x y v u Q I rx ry h
  obtain ⟨rfl, h⟩ := h
  cases (show u = Value.bool true from ry)
  rcases h with ⟨rfl, q⟩ | ⟨b, rfl, q⟩
  · cases (show v = Value.none from rx)
    exact wpAny_is_other rfl (fun z => nomatch z) ⟨.bl false, H, I, rfl, q⟩
  · cases (show v = Value.bool b from rx)
    cases b with
    | true => exact wpAny_is_self rfl ⟨.bl true, H, I, rfl, q⟩
    | false => exact wpAny_is_other rfl (fun z => by cases z) ⟨.bl false, H, I, rfl, q⟩
/-- value is True, of a value that is None or a truth value -/
theorem R_isTrue {j pn} {d : PyData} (h : AE X Γ a d) : RE X Γ (.Compare a [.Is] [.Constant (.bool true) j pn] pos) (iff (isN d = true ∨ isB d = true) (isT d)) := fun σ G H Q hΓ hG k => by
  refine EV.of (pe_cmpR op_isTrue (ev X a) pe_bl (nomark _)) ?_
  refine h σ G H _ hΓ hG fun G1 H1 v1 e1 r1 => ?_
  by_cases hc : isN d = true ∨ isB d = true
  · rw [iff_pos hc] at k
    cases d with
    | none => cases r1; exact ⟨rfl, .inl ⟨rfl, k G1 H1 _ e1 rfl⟩⟩
    | bool z => cases r1; exact ⟨rfl, .inr ⟨z, rfl, k G1 H1 _ e1 (by cases z <;> rfl)⟩⟩
    | int _ => rcases hc with h | h <;> cases h
    | str _ => rcases hc with h | h <;> cases h
    | list _ => rcases hc with h | h <;> cases h
    | tuple _ => rcases hc with h | h <;> cases h
    | dict _ => rcases hc with h | h <;> cases h
  · unfold iff at k
    rw [if_neg hc] at k
    exact k.elim
/-- the items of a list or a tuple -/
def itemsD : PyData → Res (List PyData) | .list ds => .ok ds | .tuple ds => .ok ds | _ => .bad
theorem paired_of_all {K : PySem.W.Frag} {H : Hp} : ∀ {vs : List V} {ds : List PyData}, DpAll K H vs ds → Paired (fun v d => Dp K H v d) vs ds
  | _, _, .nil => .nil
  | _, _, .cons h t => .cons h (paired_of_all t)
theorem all_of_paired {K : PySem.W.Frag} {H : Hp} : ∀ {vs : List V} {ds : List PyData}, Paired (fun v d => Dp K H v d) vs ds → DpAll K H vs ds
  | _, _, .nil => .nil
  | _, _, .cons h t => .cons h (all_of_paired t)
end
end Mr

/-! Mr14: data walked; a def of which nothing is said; tuples of any length; fields of an error in hand. -/
namespace Mr
open PySem PySem.Spec PyProof.Rows L2
open Rep (rep)
open ToD (toD)
open CRep (crep)
open RepA (repA)
universe u v
theorem RE.bad {X : Cx} {Γ : List Slot} {e : Expr} {α : Type} [Rep α] : RE X Γ e (.bad : Res α) := fun σ G H Q hΓ hG k => k.elim
section
variable {X : Cx} {Γ : List Slot} {pos px p1 p2 p3 pt : Pos} {a b c e : Expr} {x y : Str} {es : List Expr}
variable {α β : Type} [Rep α] [Rep β]
theorem IE.data {tg iter : Expr} {d : PyData} (h : AE X Γ iter d) : IE X Γ tg iter (itemsD d) := fun σ G H R hΓ hG k => by
  cases d with
  | none => exact k.elim
  | bool _ => exact k.elim
  | int _ => exact k.elim
  | str _ => exact k.elim
  | dict _ => exact k.elim
  | list ds =>
    refine IV.of (pi_list (ev X iter)) ?_
    refine EV.inv' (h σ G H _ hΓ hG ?_)
    rintro G1 H1 v e r ⟨pins, s, I⟩
    cases r with
    | @lst q vs _ hq hp =>
      have hp' := paired_of_all hp
      refine ⟨q, rfl, ⟨vs, e.gh.seq hq⟩, k _ G1 H1 e ⟨?_, fun i H hi e => ?_, fun i H hi e => ⟨vs, e.seq hq, by rw [paired_len hp']; exact hi⟩, fun i x G2 H v H' hx e1 e2 y => ?_⟩⟩
      · obtain ⟨its, rv, _, hz⟩ := I.list (e.gh.seq hq)
        rw [← paired_len hp']
        first
          | exact hz
          | (rw [rv.length]; exact hz)
      · obtain ⟨v, h1, _⟩ := paired_get (y := ds[i]) hp' (List.getElem?_eq_getElem hi)
        exact ⟨vs, v, e.seq hq, h1⟩
      · obtain ⟨rfl, y⟩ := y
        obtain ⟨v', h1, h2⟩ := paired_get hp' hx
        have : v = v' := Option.some.inj ((y vs (e2.seq (e1.seq hq))).symm.trans h1)
        subst this
        exact ⟨G2, Ext.refl e2, dp_mono e1 h2⟩
  | tuple ds =>
    refine IV.of (pi_tup (ev X iter)) ?_
    refine EV.inv' (h σ G H _ hΓ hG ?_)
    rintro G1 H1 v e r ⟨pins, s, I⟩
    cases r with
    | @tup q vs _ hq hp =>
      have hp' := paired_of_all hp
      refine ⟨q, rfl, ⟨vs, same_seqT e.gh hq⟩, k _ G1 H1 e ⟨by rw [← paired_len hp']; exact tup_len I (same_seqT e.gh hq), fun i H hi e => ?_, fun i H hi e => ⟨vs, same_seqT e hq, by rw [paired_len hp']; exact hi⟩, fun i x G2 H v H' hx e1 e2 y => ?_⟩⟩
      · obtain ⟨v, h1, _⟩ := paired_get (y := ds[i]) hp' (List.getElem?_eq_getElem hi)
        exact ⟨vs, v, same_seqT e hq, h1⟩
      · obtain ⟨rfl, y⟩ := y
        obtain ⟨v', h1, h2⟩ := paired_get hp' hx
        have : v = v' := Option.some.inj ((y vs (same_seqT e2 (same_seqT e1 hq))).symm.trans h1)
        subst this
        exact ⟨G2, Ext.refl e2, dp_mono e1 h2⟩
/-! tuples of any length -/
end
theorem cal_bad {P : Program} {w : World} {K : PySem.W.Frag} {mg : Str → Option Value} {base : Heap} {x qual : Str} {st : Stmt} {f : Addr} {fd : FuncData} {ps : List Str} {k : Nat} {τ ρ : Type} [RepA τ] [Rep ρ] (F : Fun K x qual st f fd) (gx : mg x = some (.ref f)) (bd : Binds K fd ps []) :
    Cal P w K mg base x k (spM K mg (fun _ : τ => (Res.bad : Res ρ))) :=
  ⟨f, fd, ps, ⟨fun vs H Q E h => by obtain ⟨G, t, _, _, h⟩ := h; exact h.elim, fun A outer s H args us vs Q E _ _ _ _ h => by obtain ⟨G, t, _, _, h⟩ := h; exact h.elim⟩, gx, F.kp, bd⟩
section
variable {X : Cx} {Γ : List Slot} {pos px p1 p2 p3 pt : Pos} {a b c e : Expr} {x y : Str} {es : List Expr}
variable {α β : Type} [Rep α] [Rep β]
theorem RE.vtup {k : Nat} {o : Res (List α)} (h : RArg X Γ es o) : RE X Γ (.Tuple es k pos) (o.bind fun t => iff (t.length ≤ 64) (⟨t⟩ : VT α)) := fun σ G H Q hΓ hG k => by
  refine EV.of (pe_tup (av X es)) ?_
  refine h σ G H _ hΓ hG (PostA.bindR k fun t G1 H1 vs e1 r1 k1 => ?_)
  by_cases hl : t.length ≤ 64
  · rw [iff_pos hl] at k1
    refine ⟨le_line (by rw [paired_len r1]; omega), fun q hq => ?_⟩
    have e := Ext.new e1.gh (.tup vs) hq
    exact k1 _ _ _ e ⟨q, vs, rfl, .inl (.inl upd_same), paired_imp (fun _ _ z => Rep.mono e.gg z) r1⟩
  · unfold iff at k1
    rw [if_neg hl] at k1
    exact k1.elim
theorem AE.vtup {k : Nat} {t : List α} (h : AArg X Γ es t) (hz : t.length ≤ 64 := by exact Nat.le_of_ble_eq_true rfl) : AE X Γ (.Tuple es k pos) (⟨t⟩ : VT α) := AE.ofR (by
  have q := RE.vtup (pos := pos) (k := k) h
  rw [Res.bind_ok, iff_pos hz] at q
  exact q)
theorem o1_lenV : Op1 X (fun x H Q => (fun xs H Q => ∃ p ys, xs = [.ref p] ∧ (SqL X.K H p ys ∨ SqT X.K H p ys) ∧ Q (.int ys.length) H) [x] H Q) (fun q : VT α => (q.xs.length : Int)) := fun G H x b Q hG r k => by
  obtain ⟨p, vs, rfl, h2, h3⟩ := r
  exact ⟨p, vs, rfl, .inr (same_seqT hG h2), k G H _ (Ext.refl hG) (show V.int _ = V.int _ by rw [paired_len h3])⟩
theorem A_lenV {q : VT α} (hm : X.mg "len" = none) (hg : Gl X "len") (h1 : AE X Γ a q) (he : starEach [a] X.env = [(false, eval a X.env)] := by rfl) : AE X Γ (.Call (.Name "len" px) [a] [] pos) (q.xs.length : Int) := AE.un (unB call_len_seq hm hg (by decide +kernel) (he := he)) o1_lenV h1
theorem o2_ixV : Op2P X (rIxT X.K) (fun (q : VT α) (i : Int) => ixR q.xs i) := fun G H x y b c Q d e hG r1 r2 k => by
  cases r2
  obtain ⟨p, vs, rfl, h2, h3⟩ := r1
  have e : ixR b.xs c = .ok d := e
  obtain ⟨v, h4, h5⟩ := atI_paired h3 (ixR_ok e)
  exact ⟨p, vs, c, v, rfl, rfl, same_seqT hG h2, h4, k G H v (Ext.refl hG) h5⟩
theorem R_ixV {q : Res (VT α)} {i : Res Int} (hs : PlainIx b) (h1 : RE X Γ a q) (h2 : RE X Γ b i) : RE X Γ (.Subscript a b pos) (q.bind fun q => i.bind fun i => ixR q.xs i) := RE.binP (BinR.ix ix_tup hs) o2_ixV (fun _ _ _ _ => ixR_ne) h1 h2
/-- in, not in, over lists of data -/
def inR (d e : PyData) : Res Bool := match e with | .list ds => iff (SeqAt.shaped d = true ∧ SeqAt.shaped (.list ds) = true) (ds.any fun z => PyData.eqv z d) | _ => .bad
theorem inR_ne {d e : PyData} {c : Str} {w : V} : inR d e ≠ .err c w := by
  unfold inR
  split
  · exact iff_ne
  · intro h; cases h
theorem o2_inD : Op2P X (rInD X.K) inR := fun G H x y b c Q d e hG r1 r2 k => by
  cases c with
  | list ds =>
    obtain ⟨⟨h1, h2⟩, rfl⟩ := iff_ok e
    exact ⟨b, ds, dp_same hG r1, dp_same hG r2, h1, h2, k G H _ (Ext.refl hG) rfl⟩
  | none => cases e
  | bool _ => cases e
  | int _ => cases e
  | str _ => cases e
  | tuple _ => cases e
  | dict _ => cases e
theorem o2_notInD : Op2P X (rNotInD X.K) (fun d e => (inR d e).bind fun b => .ok (!b)) := fun G H x y b c Q d e hG r1 r2 k => by
  cases hq : inR b c with
  | err z w => exact absurd hq inR_ne
  | bad => rw [show (fun d e => (inR d e).bind fun b => Res.ok (!b)) b c = (inR b c).bind fun b => .ok (!b) from rfl, hq] at e; cases e
  | ok v =>
    rw [show (fun d e => (inR d e).bind fun b => Res.ok (!b)) b c = (inR b c).bind fun b => .ok (!b) from rfl, hq] at e
    cases e
    cases c with
    | list ds =>
      obtain ⟨⟨h1, h2⟩, rfl⟩ := iff_ok hq
      exact ⟨b, ds, dp_same hG r1, dp_same hG r2, h1, h2, k G H _ (Ext.refl hG) rfl⟩
    | none => cases hq
    | bool _ => cases hq
    | int _ => cases hq
    | str _ => cases hq
    | tuple _ => cases hq
    | dict _ => cases hq
theorem hu65 {k : Nat} (hr : Room k X.A) : X.A.units + 65 < cLine := by have := hr.un; omega
theorem R_inD {x y : Res PyData} (hu : X.A.units + 65 < cLine) (hb : behindInMarks .In b = false) (h1 : RE X Γ a x) (h2 : RE X Γ b y) : RE X Γ (.Compare a [.In] [b] pos) (x.bind fun x => y.bind fun y => inR x y) := RE.binP (BinR.cmp (op_inD hu) hb) o2_inD (fun _ _ _ _ => inR_ne) h1 h2
theorem notInR_ne {d e : PyData} {c : Str} {w : V} : ((inR d e).bind fun b => Res.ok (!b)) ≠ .err c w := by
  cases hq : inR d e with
  | err z w => exact absurd hq inR_ne
  | bad => intro h; cases h
  | ok v => intro h; cases h
theorem R_notInD {x y : Res PyData} (hu : X.A.units + 65 < cLine) (hb : behindInMarks .NotIn b = false) (h1 : RE X Γ a x) (h2 : RE X Γ b y) : RE X Γ (.Compare a [.NotIn] [b] pos) (x.bind fun x => y.bind fun y => (inR x y).bind fun b => .ok (!b)) := RE.binP (BinR.cmp (op_notInD hu) hb) o2_notInD (fun _ _ _ _ => notInR_ne) h1 h2
theorem TR.cmpD {op : CmpOp} {r : R2} {g : PyData → PyData → Res Bool} (ho : OpR X (compareOp op) r) (hm : behindInMarks op b = false) (o : Op2P X r g) (hg : ∀ b c e w, g b c ≠ .err e w) {x y : Res PyData} (h1 : RE X Γ a x) (h2 : RE X Γ b y) : TR X Γ (.Compare a [op] [b] pos) (x.bind fun x => y.bind fun y => g x y) := TR.cmp ho hm o hg h1 h2
end
/-! ### in the suite of an except clause -/
section
variable {X : Cx} {Γ : List Slot} {pos px p1 p2 pt : Pos} {x y n : Str} {D C C2 a d : Addr} {v : V} {f : Str} {oe : Obj} {pn : List (Addr × Obj)} {e : Expr}
/-- isinstance(error, C): b is what the classes say -/
theorem A_isE {b : Bool} (i : Nat) (EI : ExcI X.K D) (hz : Zc (.ref D) (some d) oe) (hf : ∃ vs, oe.data = .fields vs) (hi : getS Γ i = some ⟨i, ExcV, ⟨a, d, f, v⟩⟩) (hmi : X.mg "isinstance" = none) (hgi : Gl X "isinstance") (hm : X.mg y = some (.ref C)) (hg : Gl X y) (hk : PySem.W.kitOne X.K (.ref D) (.ref C) = some b)
    (hN : X.N[i]? = some x) (hv : Vis X.env.scope x) (hd0 : (x == ("__debug__" : Str)) = false := by decide) (hcd : (x == ("__classdict__" : Str)) = false := by decide)
    (hd : (y == ("__debug__" : Str)) = false := by decide) (he : starEach [.Name x p1, .Name y p2] (X.suite a ((a, oe) :: pn)).env = (false, eval (.Name x p1) X.env) :: starEach [.Name y p2] X.env := by rfl) (he2 : starEach [.Name y p2] X.env = [(false, eval (.Name y p2) X.env)] := by rfl) (hpl : (backTo pos (starEach [.Name y p2] X.env)).any (·.1) = false := by rfl) :
    AE (X.suite a ((a, oe) :: pn)) Γ (.Call (.Name "isinstance" px) [.Name x p1, .Name y p2] [] pos) b := fun σ G H Q hΓ hG k => by
  refine EV.of (pe_callB (X := X.suite a ((a, oe) :: pn)) (call_isE2 EI hz hf) hgi hmi (by decide +kernel) (pa_cons (pe_var hN hv hd0 hcd) (pa_cons (pe_glob (v := .ref C) hg hm rfl hd) pa_nil he2) he) (by decide) (by decide) he hpl) ?_
  obtain ⟨u, h1, h2, h3⟩ := hΓ _ _ hi
  cases h2
  exact ⟨_, h1, .ref C, .ref C, b, [(f, v)], rfl, fun u r => r, hG _ _ h3, hk, k G H _ (Ext.refl hG) rfl⟩
/-- error.what -/
theorem A_exf {α : Type} [Rep α] [Scal α] {z : α} {c : Str} (i : Nat) (hfn : fieldOf c = n) (T : XfC X.K D) (hno : PySem.W.findIn X.K (.ref D) n = some none) (hz : Zc (.ref D) (some d) oe) (hf : ∃ vs, oe.data = .fields vs) (hi : getS Γ i = some ⟨i, ExcV, ⟨a, d, fieldOf c, Scal.enc z⟩⟩)
    (hN : X.N[i]? = some x) (hv : Vis X.env.scope x) (hr : ∀ K H, rep K H (Scal.enc z) z) (hd0 : (x == ("__debug__" : Str)) = false := by decide) (hcd : (x == ("__classdict__" : Str)) = false := by decide)
    (hb : attributeBase (.Name x p1) n X.env (eval (.Name x p1) X.env) = eval (.Name x p1) X.env := by rfl) : AE (X.suite a ((a, oe) :: pn)) Γ (.Attribute (.Name x p1) n pos) z := fun σ G H Q hΓ hG k => by
  refine EV.of (pe_xf T hno hz hf (pe_var (X := X.suite a ((a, oe) :: pn)) hN hv hd0 hcd) hb) ?_
  obtain ⟨u, h1, h2, h3⟩ := hΓ _ _ hi
  cases h2
  subst hfn
  exact ⟨_, h1, rfl, rfl, d, [(fieldOf c, Scal.enc z)], Scal.enc z, rfl, hG _ _ h3, by simp [List.lookup], k G H _ (Ext.refl hG) (hr _ _)⟩
end
end Mr

/-! Mr15: short forms for printed walks: the script, operands that are plain values, tests, returns, calls. -/
namespace Mr
open PySem PySem.Spec PyProof.Rows L2
open Rep (rep)
open ToD (toD)
open CRep (crep)
open RepA (repA)
section
variable {X : Cx} {Γ : List Slot} {pos px p1 p2 : Pos} {a b c e : Expr} {x y : Str} {es : List Expr} {k j : Nat}
variable {α β γ τ ρ μ : Type} [Rep α] [Rep β] [Rep γ] [RepA τ] [Rep ρ] [CRep μ] {p : Addr} {m : μ}
/-! the script -/
theorem o1_lenScr : Op1 X (fun x H Q => (fun xs H Q => ∃ p ys, xs = [.ref p] ∧ (SqL X.K H p ys ∨ SqT X.K H p ys) ∧ Q (.int ys.length) H) [x] H Q) (fun s : Scr => (s.ns.length : Int)) := fun G H x b Q hG r k => by
  obtain ⟨p, rfl, h⟩ := r
  exact ⟨p, _, rfl, .inl (hG.seq h), k G H _ (Ext.refl hG) (show V.int _ = V.int _ by rw [List.length_map])⟩
theorem A_lenScr {q : Scr} (hm : X.mg "len" = none) (hg : Gl X "len") (h1 : AE X Γ a q) (he : starEach [a] X.env = [(false, eval a X.env)] := by rfl) : AE X Γ (.Call (.Name "len" px) [a] [] pos) (q.ns.length : Int) := AE.un (unB call_len_seq hm hg (by decide +kernel) (he := he)) o1_lenScr h1
theorem o2_ixScr : Op2P X (rIxL X.K) (fun (s : Scr) (i : Int) => ixR s.ns i) := fun G H x y b c Q d e hG r1 r2 k => by
  cases r2
  obtain ⟨p, rfl, h⟩ := r1
  have e : ixR b.ns c = .ok d := e
  obtain ⟨v, h4, h5⟩ := atI_paired (ints_vals (K := X.K) (G := G) (ns := b.ns)) (ixR_ok e)
  exact ⟨p, _, c, v, rfl, rfl, hG.seq h, h4, k G H v (Ext.refl hG) h5⟩
theorem R_ixScr {q : Res Scr} {i : Res Int} (hs : PlainIx b) (h1 : RE X Γ a q) (h2 : RE X Γ b i) : RE X Γ (.Subscript a b pos) (q.bind fun q => i.bind fun i => ixR q.ns i) := RE.binP (BinR.ix ix_list hs) o2_ixScr (fun _ _ _ _ => ixR_ne) h1 h2
theorem P_ixScr {q : Scr} {i : Int} (hs : PlainIx b) (h1 : AE X Γ a q) (h2 : AE X Γ b i) : RE X Γ (.Subscript a b pos) (ixR q.ns i) := R_ixScr hs (RE.ofA h1) (RE.ofA h2)
/-! plain operands -/
theorem P_mul {x y : Int} (h1 : AE X Γ a x) (h2 : AE X Γ b y) : RE X Γ (.BinOp a .Mult b pos) (mulR x y) := R_mul (RE.ofA h1) (RE.ofA h2)
theorem P_div {x y : Int} (h1 : AE X Γ a x) (h2 : AE X Γ b y) : RE X Γ (.BinOp a .FloorDiv b pos) (divR x y) := R_div (RE.ofA h1) (RE.ofA h2)
theorem P_mod {x y : Int} (h1 : AE X Γ a x) (h2 : AE X Γ b y) : RE X Γ (.BinOp a .Mod b pos) (modR x y) := R_mod (RE.ofA h1) (RE.ofA h2)
theorem P_pow {x y : Int} (h1 : AE X Γ a x) (h2 : AE X Γ b y) : RE X Γ (.BinOp a .Pow b pos) (powR x y) := R_pow (RE.ofA h1) (RE.ofA h2)
theorem P_shl {x y : Int} (h1 : AE X Γ a x) (h2 : AE X Γ b y) : RE X Γ (.BinOp a .LShift b pos) (shlR x y) := R_shl (RE.ofA h1) (RE.ofA h2)
theorem P_shr {x y : Int} (h1 : AE X Γ a x) (h2 : AE X Γ b y) : RE X Γ (.BinOp a .RShift b pos) (shrR x y) := R_shr (RE.ofA h1) (RE.ofA h2)
theorem P_ix {xs : List β} {i : Int} (hs : PlainIx b) (h1 : AE X Γ a xs) (h2 : AE X Γ b i) : RE X Γ (.Subscript a b pos) (ixR xs i) := R_ix hs (RE.ofA h1) (RE.ofA h2)
theorem P_ixV {q : VT β} {i : Int} (hs : PlainIx b) (h1 : AE X Γ a q) (h2 : AE X Γ b i) : RE X Γ (.Subscript a b pos) (ixR q.xs i) := R_ixV hs (RE.ofA h1) (RE.ofA h2)
theorem P_eqD {x y : PyData} (hu : X.A.units + 64 < cLine) (h1 : AE X Γ a x) (h2 : AE X Γ b y) : RE X Γ (.Compare a [.Eq] [b] pos) (eqR x y) := R_eqD hu (RE.ofA h1) (RE.ofA h2)
theorem P_neD {x y : PyData} (hu : X.A.units + 64 < cLine) (h1 : AE X Γ a x) (h2 : AE X Γ b y) : RE X Γ (.Compare a [.NotEq] [b] pos) (neR x y) := R_neD hu (RE.ofA h1) (RE.ofA h2)
theorem P_inD {x y : PyData} (hu : X.A.units + 65 < cLine) (hb : behindInMarks .In b = false) (h1 : AE X Γ a x) (h2 : AE X Γ b y) : RE X Γ (.Compare a [.In] [b] pos) (inR x y) := R_inD hu hb (RE.ofA h1) (RE.ofA h2)
theorem P_max {x : List Int} (hm : X.mg "max" = none) (hg : Gl X "max") (hc : X.calm = true) (h1 : AE X Γ a x) (he : starEach [a] X.env = [(false, eval a X.env)] := by rfl) : RE X Γ (.Call (.Name "max" px) [a] [] pos) (maxR x) := R_max hm hg hc he (RE.ofA h1)
theorem P_min {x : List Int} (hm : X.mg "min" = none) (hg : Gl X "min") (hc : X.calm = true) (h1 : AE X Γ a x) (he : starEach [a] X.env = [(false, eval a X.env)] := by rfl) : RE X Γ (.Call (.Name "min" px) [a] [] pos) (minR x) := R_min hm hg hc he (RE.ofA h1)
theorem P_lenS {x : Str} (hm : X.mg "len" = none) (hg : Gl X "len") (h1 : AE X Γ a x) (he : starEach [a] X.env = [(false, eval a X.env)] := by rfl) : RE X Γ (.Call (.Name "len" px) [a] [] pos) (iff (x.length ≤ sizeLine) (x.length : Int)) := R_lenS hm hg he (RE.ofA h1)
theorem R_lenV {q : Res (VT α)} (hm : X.mg "len" = none) (hg : Gl X "len") (h1 : RE X Γ a q) (he : starEach [a] X.env = [(false, eval a X.env)] := by rfl) : RE X Γ (.Call (.Name "len" px) [a] [] pos) (q.bind fun q => .ok (q.xs.length : Int)) := RE.unP (unB call_len_seq hm hg (by decide +kernel) (he := he)) (Op1.par o1_lenV) (fun _ _ _ z => by cases z) h1
/-! tests -/
theorem TA_lt {x y : Int} (h1 : AE X Γ a x) (h2 : AE X Γ b y) : TA X Γ (.Compare a [.Lt] [b] pos) (decide (x < y)) := TA.cmp op_lt (nomark _) o2B h1 h2
theorem TA_le {x y : Int} (h1 : AE X Γ a x) (h2 : AE X Γ b y) : TA X Γ (.Compare a [.LtE] [b] pos) (decide (x ≤ y)) := TA.cmp op_le (nomark _) o2B h1 h2
theorem TA_gt {x y : Int} (h1 : AE X Γ a x) (h2 : AE X Γ b y) : TA X Γ (.Compare a [.Gt] [b] pos) (decide (y < x)) := TA.cmp op_gt (nomark _) o2B h1 h2
theorem TA_ge {x y : Int} (h1 : AE X Γ a x) (h2 : AE X Γ b y) : TA X Γ (.Compare a [.GtE] [b] pos) (decide (y ≤ x)) := TA.cmp op_ge (nomark _) o2B h1 h2
theorem TA_eq [Scal β] [DecidableEq β] {x y : β} (h1 : AE X Γ a x) (h2 : AE X Γ b y) : TA X Γ (.Compare a [.Eq] [b] pos) (decide (x = y)) := TA.cmp op_eq (nomark _) o2_eq h1 h2
theorem TA_ne [Scal β] [DecidableEq β] {x y : β} (h1 : AE X Γ a x) (h2 : AE X Γ b y) : TA X Γ (.Compare a [.NotEq] [b] pos) (!decide (x = y)) := TA.cmp op_ne (nomark _) o2_ne h1 h2
theorem TR_lt {x y : Res Int} (h1 : RE X Γ a x) (h2 : RE X Γ b y) : TR X Γ (.Compare a [.Lt] [b] pos) (x.bind fun x => y.bind fun y => .ok (decide (x < y))) := TR.cmp op_lt (nomark _) (Op2.par o2B) (fun _ _ _ _ z => by cases z) h1 h2
theorem TR_le {x y : Res Int} (h1 : RE X Γ a x) (h2 : RE X Γ b y) : TR X Γ (.Compare a [.LtE] [b] pos) (x.bind fun x => y.bind fun y => .ok (decide (x ≤ y))) := TR.cmp op_le (nomark _) (Op2.par o2B) (fun _ _ _ _ z => by cases z) h1 h2
theorem TR_gt {x y : Res Int} (h1 : RE X Γ a x) (h2 : RE X Γ b y) : TR X Γ (.Compare a [.Gt] [b] pos) (x.bind fun x => y.bind fun y => .ok (decide (y < x))) := TR.cmp op_gt (nomark _) (Op2.par o2B) (fun _ _ _ _ z => by cases z) h1 h2
theorem TR_ge {x y : Res Int} (h1 : RE X Γ a x) (h2 : RE X Γ b y) : TR X Γ (.Compare a [.GtE] [b] pos) (x.bind fun x => y.bind fun y => .ok (decide (y ≤ x))) := TR.cmp op_ge (nomark _) (Op2.par o2B) (fun _ _ _ _ z => by cases z) h1 h2
theorem TR_eq [Scal β] [DecidableEq β] {x y : Res β} (h1 : RE X Γ a x) (h2 : RE X Γ b y) : TR X Γ (.Compare a [.Eq] [b] pos) (x.bind fun x => y.bind fun y => .ok (decide (x = y))) := TR.cmp op_eq (nomark _) (Op2.par o2_eq) (fun _ _ _ _ z => by cases z) h1 h2
theorem TR_ne [Scal β] [DecidableEq β] {x y : Res β} (h1 : RE X Γ a x) (h2 : RE X Γ b y) : TR X Γ (.Compare a [.NotEq] [b] pos) (x.bind fun x => y.bind fun y => .ok (!decide (x = y))) := TR.cmp op_ne (nomark _) (Op2.par o2_ne) (fun _ _ _ _ z => by cases z) h1 h2
theorem TR_eqD {x y : Res PyData} (hu : X.A.units + 64 < cLine) (h1 : RE X Γ a x) (h2 : RE X Γ b y) : TR X Γ (.Compare a [.Eq] [b] pos) (x.bind fun x => y.bind fun y => eqR x y) := TR.cmp (op_eqD hu) (nomark _) o2_eqD (fun _ _ _ _ => iff_ne) h1 h2
theorem TR_neD {x y : Res PyData} (hu : X.A.units + 64 < cLine) (h1 : RE X Γ a x) (h2 : RE X Γ b y) : TR X Γ (.Compare a [.NotEq] [b] pos) (x.bind fun x => y.bind fun y => neR x y) := TR.cmp (op_neD hu) (nomark _) o2_neD (fun _ _ _ _ => iff_ne) h1 h2
theorem TP_eqD {x y : PyData} (hu : X.A.units + 64 < cLine) (h1 : AE X Γ a x) (h2 : AE X Γ b y) : TR X Γ (.Compare a [.Eq] [b] pos) (eqR x y) := TR_eqD hu (RE.ofA h1) (RE.ofA h2)
theorem TP_neD {x y : PyData} (hu : X.A.units + 64 < cLine) (h1 : AE X Γ a x) (h2 : AE X Γ b y) : TR X Γ (.Compare a [.NotEq] [b] pos) (neR x y) := TR_neD hu (RE.ofA h1) (RE.ofA h2)
theorem TR_inD {x y : Res PyData} (hu : X.A.units + 65 < cLine) (hb : behindInMarks .In b = false) (h1 : RE X Γ a x) (h2 : RE X Γ b y) : TR X Γ (.Compare a [.In] [b] pos) (x.bind fun x => y.bind fun y => inR x y) := TR.cmp (op_inD hu) hb o2_inD (fun _ _ _ _ => inR_ne) h1 h2
theorem TP_inD {x y : PyData} (hu : X.A.units + 65 < cLine) (hb : behindInMarks .In b = false) (h1 : AE X Γ a x) (h2 : AE X Γ b y) : TR X Γ (.Compare a [.In] [b] pos) (inR x y) := TR_inD hu hb (RE.ofA h1) (RE.ofA h2)
theorem TR_notInD {x y : Res PyData} (hu : X.A.units + 65 < cLine) (hb : behindInMarks .NotIn b = false) (h1 : RE X Γ a x) (h2 : RE X Γ b y) : TR X Γ (.Compare a [.NotIn] [b] pos) (x.bind fun x => y.bind fun y => (inR x y).bind fun b => .ok (!b)) := TR.cmp (op_notInD hu) hb o2_notInD (fun _ _ _ _ => notInR_ne) h1 h2
theorem hu64 {k : Nat} (hr : Room k X.A) : X.A.units + 64 < cLine := by have := hr.un; omega
/-! slices -/
def PA1 (X : Cx) (Γ : List Slot) (e : Option Expr) (o : Option Int) : Prop := PR X Γ e (.ok o)
theorem PA1.none : PA1 X Γ none none := PR.none
theorem PA1.some {i : Int} (h : AE X Γ e i) : PA1 X Γ (some e) (some i) := PR.some (RE.ofA h)
theorem FA.slice {lo hi : Option Expr} {xs : List α} {l u : Option Int} (h : AE X Γ e xs) (hl : PA1 X Γ lo l) (hh : PA1 X Γ hi u) : FR X Γ (.Subscript e (.Slice lo hi none p2) pos) (.ok (cutL xs l u)) := FR.slice (RE.ofA h) hl hh
theorem AE.slice {lo hi : Option Expr} {xs : List α} {l u : Option Int} (h : AE X Γ e xs) (hl : PA1 X Γ lo l) (hh : PA1 X Γ hi u) : AE X Γ (.Subscript e (.Slice lo hi none p2) pos) (cutL xs l u) := AE.ofR (RE.ofF (FA.slice h hl hh))
theorem FP.slice3 {lo hi : Option Expr} {st : Expr} {xs : List α} {l u c : Option Int} (h : AE X Γ e xs) (hl : PA1 X Γ lo l) (hh : PA1 X Γ hi u) (hs : PA1 X Γ (Option.some st) c) :
    FR X Γ (.Subscript e (.Slice lo hi (Option.some st) p2) pos) (iff (c ≠ Option.some 0 ∧ (pickL xs l u c).length ≤ 1000000) (pickL xs l u c)) := FR.slice3 (RE.ofA h) hl hh hs
theorem RP.slice3 {lo hi : Option Expr} {st : Expr} {xs : List α} {l u c : Option Int} (h : AE X Γ e xs) (hl : PA1 X Γ lo l) (hh : PA1 X Γ hi u) (hs : PA1 X Γ (Option.some st) c) :
    RE X Γ (.Subscript e (.Slice lo hi (Option.some st) p2) pos) (iff (c ≠ Option.some 0 ∧ (pickL xs l u c).length ≤ 1000000) (pickL xs l u c)) := RE.ofF (FP.slice3 h hl hh hs)
theorem RP.cat {xs ys : List α} (h1 : AE X Γ a xs) (h2 : AE X Γ b ys) : RE X Γ (.BinOp a .Add b pos) (catR xs ys) := RE.ofF (FR.cat (RE.ofA h1) (RE.ofA h2))
theorem RP.rep {xs : List α} {n : Int} (h1 : AE X Γ a xs) (h2 : AE X Γ b n) : RE X Γ (.BinOp a .Mult b pos) (repR xs n) := RE.ofF (FR.rep (RE.ofA h1) (RE.ofA h2))
theorem FA.nil : FR X Γ (.List [] pos) (.ok ([] : List α)) := FR.nil
theorem AE.rev {k0 : Nat} {p1 p2 p3 : Pos} {xs : List α} (h : AE X Γ e xs) : AE X Γ (.Subscript e (.Slice Option.none Option.none (Option.some (.UnaryOp .USub (.Constant (.int 1) k0 p1) p2)) p3) pos) xs.reverse := AE.ofR (RE.ofF (FR.rev (RE.ofA h)))
/-! what is walked -/
theorem IE.listA {tg iter : Expr} {xs : List α} (h : AE X Γ iter xs) : IE X Γ tg iter (.ok xs) := IE.list (RE.ofA h)
theorem IE.vtA {tg iter : Expr} {q : VT α} (h : AE X Γ iter q) : IE X Γ tg iter (.ok q.xs) := IE.vt (RE.ofA h)
theorem IE.rng1A {tg : Expr} {n : Int} (hm : X.mg "range" = none) (hg : Gl X "range") (h : AE X Γ a n) (hs : starEach [a] X.env = [(false, eval a X.env)] := by rfl) : IE X Γ tg (.Call (.Name "range" px) [a] [] pos) (rng1R n) := IE.rng1 hm hg (RE.ofA h) hs
theorem IE.rng2A {tg : Expr} {n i : Int} (hm : X.mg "range" = none) (hg : Gl X "range") (h : AE X Γ a n) (h2 : AE X Γ b i) (hs : starEach [a, b] X.env = [(false, eval a X.env), (false, eval b X.env)] := by rfl) (hs2 : starEach [b] X.env = [(false, eval b X.env)] := by rfl) : IE X Γ tg (.Call (.Name "range" px) [a, b] [] pos) (rng2R n i) := IE.rng2 hm hg (RE.ofA h) (RE.ofA h2) hs hs2
theorem IE.zipA {elts : List Expr} {kk : Nat} {tpos : Pos} {xs : List α} {ys : List β} (hm : X.mg "zip" = none) (hg : Gl X "zip") (h1 : AE X Γ a xs) (h2 : AE X Γ b ys) (hs : starEach [a, b] X.env = (false, eval a X.env) :: starEach [b] X.env := by rfl) (hs2 : starEach [b] X.env = (false, eval b X.env) :: starEach [] X.env := by rfl) (hpl : (backTo pos (starEach [b] X.env)).any (·.1) = false := by rfl) :
    IE X Γ (.Tuple elts kk tpos) (.Call (.Name "zip" px) [a, b] [] pos) (.ok (xs.zip ys)) := IE.zip hm hg (RE.ofA h1) (RE.ofA h2) hs hs2 hpl
theorem IE.enumA {elts : List Expr} {kk : Nat} {tpos : Pos} {xs : List α} (hm : X.mg "enumerate" = none) (hg : Gl X "enumerate") (h1 : AE X Γ a xs) (hs : starEach [a] X.env = [(false, eval a X.env)] := by rfl) : IE X Γ (.Tuple elts kk tpos) (.Call (.Name "enumerate" px) [a] [] pos) (.ok (enumL xs)) := IE.enum hm hg (RE.ofA h1) hs
/-! calls -/
theorem RE.callA {fM : τ → Res ρ} {t : τ} (C : Cal X.prog X.w X.K X.mg X.base x k (spM X.K X.mg fM)) (hr : Room j X.A) (hg : Gl X x) (ha : AArg X Γ (e :: es) t) (hkj : k ≤ j := by decide)
    (hdb : (x == ("__debug__" : Str)) = false := by decide) (he : starEach (e :: es) X.env = (false, eval e X.env) :: starEach es X.env := by rfl) (hpl : (backTo pos (starEach es X.env)).any (·.1) = false := by rfl) : RE X Γ (.Call (.Name x px) (e :: es) [] pos) (fM t) := RE.call C hr hg ha hkj hdb he hpl
theorem FR.callA {fM : τ → Res μ} {t : τ} (C : Cal X.prog X.w X.K X.mg X.base x k (spF X.K X.mg fM)) (hr : Room j X.A) (hg : Gl X x) (ha : AArg X Γ (e :: es) t) (hkj : k ≤ j := by decide)
    (hdb : (x == ("__debug__" : Str)) = false := by decide) (he : starEach (e :: es) X.env = (false, eval e X.env) :: starEach es X.env := by rfl) (hpl : (backTo pos (starEach es X.env)).any (·.1) = false := by rfl) : FR X Γ (.Call (.Name x px) (e :: es) [] pos) (fM t) := FR.call C hr hg ha hkj hdb he hpl
theorem SE.callCA {fM : μ → τ → Res (ρ × μ)} {t : τ} (C : Cal X.prog X.w X.K X.mg X.base x k (spC X.K fM)) (hr : Room j X.A) (hg : Gl X x) {i : Nat} {y : Str} {py : Pos} (hy : getS Γ i = some ⟨i, CRef, ⟨p⟩⟩) (ha : AArg X Γ es t) (hkj : k ≤ j := by decide)
    (hN : X.N[i]? = some y := by rfl) (hv : Vis X.env.scope y := by first | exact Or.inl rfl | exact Or.inr (Or.inl rfl) | exact Or.inr (Or.inr rfl)) (hd : (y == ("__debug__" : Str)) = false := by decide) (hcd : (y == ("__classdict__" : Str)) = false := by decide)
    (hdb : (x == ("__debug__" : Str)) = false := by decide) (he : starEach (.Name y py :: es) X.env = (false, eval (.Name y py) X.env) :: starEach es X.env := by rfl) (hpl : (backTo pos (starEach es X.env)).any (·.1) = false := by rfl) :
    SE X Γ p m (.Call (.Name x px) (.Name y py :: es) [] pos) (fM m t) := SE.callC C hr hg hy (SArg.ofR ha) hkj hN hv hd hcd hdb he hpl
end
/-! statements -/
section
variable {X : Cx} {H0 G0 : Hp} {ν ν' κ κ' ρ : Type} {rt : RT ρ} {Γn : ν → List Slot} {cn : ν → List Cell} {Γl : κ → List Slot} {cl : κ → List Cell} {Γ : List Slot} {cs : List Cell} {st : Stmt} {rest body A B : List Stmt} {r : Res (Out ν κ ρ)} {pos px pt : Pos} {x y : Str} {a b c e : Expr} {es : List Expr}
variable {α β τ μ : Type} [Rep α] [Rep β] [RepA τ] [CRep μ]
theorem SJ.cast {r r' : Res (Out ν κ ρ)} (h : r' = r) (k : SJ X H0 G0 rt Γn cn Γl cl Γ cs rest r') : SJ X H0 G0 rt Γn cn Γl cl Γ cs rest r := by rw [← h]; exact k
theorem SJ.retA {y : α} (he : RJ X H0 G0 Γ cs e (.ok y)) : SJ X H0 G0 (RTm X.K H0 G0) Γn cn Γl cl Γ cs (.Return (some e) pos :: rest) (.ok (.rt y)) := SJ.rt_A (g := fun y => y) he fun _ _ _ _ S r => rtm S r
theorem SJ.retR {o : Res α} (he : RJ X H0 G0 Γ cs e o) : SJ X H0 G0 (RTm X.K H0 G0) Γn cn Γl cl Γ cs (.Return (some e) pos :: rest) (o.bind fun y => .ok (.rt y)) := SJ.rt_R (g := fun y => y) he fun _ _ _ _ S r => rtm S r
theorem SJ.retS (n : Nat) {p : Addr} {m : μ} {o : Res (α × μ)} (hc : cs[n]? = some ⟨p, μ, m⟩) (he : SE X Γ p m e o) : SJ X H0 G0 (RTm X.K H0 G0) Γn cn Γl cl Γ cs (.Return (some e) pos :: rest) (o.hard.bind fun y => .ok (.rt y.1)) := SJ.rt_S n (g := fun y => y.1) hc he fun _ _ _ _ S r => rtm S r
theorem SJ.retN : SJ X H0 G0 (RTm X.K H0 G0) Γn cn Γl cl Γ cs (.Return none pos :: rest) (.ok (.rt ())) := SJ.rt_N fun _ _ S => rtm S rfl
/-- .. of a def that writes its first argument -/
theorem SJ.retCA {p : Addr} {m : μ} {y : α} (hs : [(⟨p, μ, m⟩ : Cell)].Sublist cs) (he : RJ X H0 G0 Γ cs e (.ok y)) : SJ X H0 G0 (RTc X.K H0 G0 p) Γn cn Γl cl Γ cs (.Return (some e) pos :: rest) (.ok (.rt (y, m))) := SJ.rt_A (g := fun y => (y, m)) he fun _ _ _ _ S r => ⟨S.sub hs, r⟩
theorem SJ.retCR {p : Addr} {m : μ} {o : Res α} (hs : [(⟨p, μ, m⟩ : Cell)].Sublist cs) (he : RJ X H0 G0 Γ cs e o) : SJ X H0 G0 (RTc X.K H0 G0 p) Γn cn Γl cl Γ cs (.Return (some e) pos :: rest) (o.bind fun y => .ok (.rt (y, m))) := SJ.rt_R (g := fun y => (y, m)) he fun _ _ _ _ S r => ⟨S.sub hs, r⟩
theorem SJ.retCS {p : Addr} {m : μ} {o : Res (α × μ)} (he : SE X Γ p m e o) : SJ X H0 G0 (RTc X.K H0 G0 p) Γn cn Γl cl Γ [⟨p, μ, m⟩] (.Return (some e) pos :: rest) (o.hard.bind fun y => .ok (.rt y)) := SJ.rt_S 0 (g := fun y => y) rfl he fun _ _ _ _ S r => ⟨S, r⟩
theorem SJ.retCN {p : Addr} {m : μ} (hs : [(⟨p, μ, m⟩ : Cell)].Sublist cs) : SJ X H0 G0 (RTc X.K H0 G0 p) Γn cn Γl cl Γ cs (.Return none pos :: rest) (.ok (.rt ((), m))) := SJ.rt_N fun _ _ S => ⟨S.sub hs, rfl⟩
/-- .. of a def that returns an object of its own -/
theorem SJ.retF (i : Nat) {p : Addr} {m : μ} (hi : getS Γ i = some ⟨i, CRef, ⟨p⟩⟩) (hs : [(⟨p, μ, m⟩ : Cell)].Sublist cs) (hN : X.N[i]? = some x := by rfl) (hv : Vis X.env.scope x := by first | exact Or.inl rfl | exact Or.inr (Or.inl rfl) | exact Or.inr (Or.inr rfl))
    (hd : (x == ("__debug__" : Str)) = false := by decide) (hcd : (x == ("__classdict__" : Str)) = false := by decide) : SJ X H0 G0 (RTf X.K H0 G0) Γn cn Γl cl Γ cs (.Return (some (.Name x px)) pos :: rest) (.ok (.rt m)) := fun σ G H D hΓ S q => by
  refine SV.cons (ps_ret (ev X _)) ?_
  refine EV.of (pe_var hN hv hd hcd) ?_
  obtain ⟨v, h1, h2⟩ := hΓ _ _ hi
  cases h2
  exact ⟨_, h1, q G H _ ⟨p, rfl, S.sub hs⟩⟩
/-- .. that it makes there -/
theorem SJ.retFR {o : Res μ} (he : FR X Γ e o) : SJ X H0 G0 (RTf X.K H0 G0) Γn cn Γl cl Γ cs (.Return (some e) pos :: rest) (o.bind fun y => .ok (.rt y)) := fun σ G H D hΓ S q => by
  refine SV.cons (ps_ret (ev X e)) ?_
  refine he σ G H _ hΓ S.gh (PostO.bindF S q fun m G1 H1 p e1 S1 q1 => ?_)
  exact q1 G1 H1 _ ⟨p, rfl, S1.sub (List.Sublist.cons_cons _ (List.nil_sublist _))⟩
theorem SJ.pushA (i n : Nat) {p : Addr} {xs : List α} {z : α} {f : List α → Res (Out ν κ ρ)} {apos cpos : Pos} (hi : getS Γ i = some ⟨i, CRef, ⟨p⟩⟩) (hc : cs[n]? = some ⟨p, List α, xs⟩) (he : RJ X H0 G0 Γ cs e (.ok z)) (k : ∀ zs, SJ X H0 G0 rt Γn cn Γl cl Γ (cs.set n ⟨p, List α, zs⟩) rest (f zs))
    (hN : X.N[i]? = some x := by rfl) (hv : Vis X.env.scope x := by first | exact Or.inl rfl | exact Or.inr (Or.inl rfl) | exact Or.inr (Or.inr rfl)) (hd : (x == ("__debug__" : Str)) = false := by decide) (hcd : (x == ("__classdict__" : Str)) = false := by decide)
    (hs1 : starEach [e] X.env = (false, eval e X.env) :: starEach [] X.env := by rfl) (hb : PE X (.Call (.Attribute (.Name x px) "append" apos) [e] [] cpos) (tBM X.K "list" rAppend (tVar i) (tCons (EV X e) tNil)) := by exact pe_bm PySem.F.plainAttrs_list PySem.F.slot_list_append PySem.F.type_list_append mt_append (pv _) (pa_cons (ev _ _) pa_nil))
    (hs : swapsWith (.Call (.Attribute (.Name x px) "append" apos) [e] [] cpos) none pos.line X.env = pure false := by rfl) :
    SJ X H0 G0 rt Γn cn Γl cl Γ cs (.Expr (.Call (.Attribute (.Name x px) "append" apos) [e] [] cpos) pos :: rest) ((pushR xs z).bind f) := SJ.push i n (o := .ok z) hi hc he k hN hv hd hcd hs1 hb hs
/-- name += e, name -= e -/
theorem SJ.augAdd (i : Nat) {z : Int} {o : Res Int} {f : Int → Res (Out ν κ ρ)} (hN : X.N.Nodup) (hi : X.N[i]? = some x) (hx : Loc X.env.scope x) (hz : getS Γ i = some ⟨i, Int, z⟩) (he : RJ X H0 G0 Γ cs e o)
    (k : ∀ u, SJ X H0 G0 rt Γn cn Γl cl (⟨i, Int, u⟩ :: Γ) cs rest (f u)) (hf : X.fn x = true ∨ X.env.scope.names.lookup x = some .local := by first | exact .inl rfl | exact .inr rfl) : SJ X H0 G0 rt Γn cn Γl cl Γ cs (.AugAssign (.Name x px) .Add e pos :: rest) (o.bind fun y => lt (z + y) f) :=
  SJ.aug i hN hi hx hz (pip_ok iop_add) (Op2.par o2I) (fun _ _ _ _ z => by cases z) he k hf
theorem SJ.augAddA (i : Nat) {z y : Int} {f : Int → Res (Out ν κ ρ)} (hN : X.N.Nodup) (hi : X.N[i]? = some x) (hx : Loc X.env.scope x) (hz : getS Γ i = some ⟨i, Int, z⟩) (he : RJ X H0 G0 Γ cs e (.ok y))
    (k : ∀ u, SJ X H0 G0 rt Γn cn Γl cl (⟨i, Int, u⟩ :: Γ) cs rest (f u)) (hf : X.fn x = true ∨ X.env.scope.names.lookup x = some .local := by first | exact .inl rfl | exact .inr rfl) : SJ X H0 G0 rt Γn cn Γl cl Γ cs (.AugAssign (.Name x px) .Add e pos :: rest) (lt (z + y) f) :=
  SJ.augAdd i hN hi hx hz he k hf
theorem SJ.augSub (i : Nat) {z : Int} {o : Res Int} {f : Int → Res (Out ν κ ρ)} (hN : X.N.Nodup) (hi : X.N[i]? = some x) (hx : Loc X.env.scope x) (hz : getS Γ i = some ⟨i, Int, z⟩) (he : RJ X H0 G0 Γ cs e o)
    (k : ∀ u, SJ X H0 G0 rt Γn cn Γl cl (⟨i, Int, u⟩ :: Γ) cs rest (f u)) (hf : X.fn x = true ∨ X.env.scope.names.lookup x = some .local := by first | exact .inl rfl | exact .inr rfl) : SJ X H0 G0 rt Γn cn Γl cl Γ cs (.AugAssign (.Name x px) .Sub e pos :: rest) (o.bind fun y => lt (z - y) f) :=
  SJ.aug i hN hi hx hz (pip_ok iop_sub) (Op2.par o2I) (fun _ _ _ _ z => by cases z) he k hf
theorem SJ.augSubA (i : Nat) {z y : Int} {f : Int → Res (Out ν κ ρ)} (hN : X.N.Nodup) (hi : X.N[i]? = some x) (hx : Loc X.env.scope x) (hz : getS Γ i = some ⟨i, Int, z⟩) (he : RJ X H0 G0 Γ cs e (.ok y))
    (k : ∀ u, SJ X H0 G0 rt Γn cn Γl cl (⟨i, Int, u⟩ :: Γ) cs rest (f u)) (hf : X.fn x = true ∨ X.env.scope.names.lookup x = some .local := by first | exact .inl rfl | exact .inr rfl) : SJ X H0 G0 rt Γn cn Γl cl Γ cs (.AugAssign (.Name x px) .Sub e pos :: rest) (lt (z - y) f) :=
  SJ.augSub i hN hi hx hz he k hf
end
end Mr

/-! Mr16: comparisons in a chain; conversions; _law_plain's body. -/
namespace Mr
open PySem PySem.Spec PyProof.Rows L2
open Rep (rep)
open ToD (toD)
open CRep (crep)
open RepA (repA)
section
variable {X : Cx} {Γ : List Slot} {pos : Pos} {a b c e : Expr} {α μ : Type} [Rep α] [CRep μ] {p : Addr} {m : μ}
theorem A_ch_lt_lt {x y z : Int} (h1 : AE X Γ a x) (h2 : AE X Γ b y) (h3 : AE X Γ c z) (hm : lastMarks [.Lt, .Lt] [b, c] = false := by with_unfolding_all rfl) : AE X Γ (.Compare a [.Lt, .Lt] [b, c] pos) (decide (x < y) && decide (y < z)) := AE.chain op_lt op_lt o2B o2B h1 h2 h3 hm
theorem TA_ch_lt_lt {x y z : Int} (h1 : AE X Γ a x) (h2 : AE X Γ b y) (h3 : AE X Γ c z) (hm : lastMarks [.Lt, .Lt] [b, c] = false := by with_unfolding_all rfl) : TA X Γ (.Compare a [.Lt, .Lt] [b, c] pos) (decide (x < y) && decide (y < z)) := TA.chain op_lt op_lt o2B o2B h1 h2 h3 hm
theorem R_ch_lt_lt {x y z : Res Int} (h1 : RE X Γ a x) (h2 : RE X Γ b y) (h3 : RE X Γ c z) (hm : lastMarks [.Lt, .Lt] [b, c] = false := by with_unfolding_all rfl) : RE X Γ (.Compare a [.Lt, .Lt] [b, c] pos) (x.bind fun x => y.bind fun y => cond (decide (x < y)) (z.bind fun z => .ok (decide (y < z))) (.ok false)) := RE.chain op_lt op_lt o2B o2B h1 h2 h3 hm
theorem TR_ch_lt_lt {x y z : Res Int} (h1 : RE X Γ a x) (h2 : RE X Γ b y) (h3 : RE X Γ c z) (hm : lastMarks [.Lt, .Lt] [b, c] = false := by with_unfolding_all rfl) : TR X Γ (.Compare a [.Lt, .Lt] [b, c] pos) (x.bind fun x => y.bind fun y => cond (decide (x < y)) (z.bind fun z => .ok (decide (y < z))) (.ok false)) := TR.chain op_lt op_lt o2B o2B h1 h2 h3 hm
theorem A_ch_lt_le {x y z : Int} (h1 : AE X Γ a x) (h2 : AE X Γ b y) (h3 : AE X Γ c z) (hm : lastMarks [.Lt, .LtE] [b, c] = false := by with_unfolding_all rfl) : AE X Γ (.Compare a [.Lt, .LtE] [b, c] pos) (decide (x < y) && decide (y ≤ z)) := AE.chain op_lt op_le o2B o2B h1 h2 h3 hm
theorem TA_ch_lt_le {x y z : Int} (h1 : AE X Γ a x) (h2 : AE X Γ b y) (h3 : AE X Γ c z) (hm : lastMarks [.Lt, .LtE] [b, c] = false := by with_unfolding_all rfl) : TA X Γ (.Compare a [.Lt, .LtE] [b, c] pos) (decide (x < y) && decide (y ≤ z)) := TA.chain op_lt op_le o2B o2B h1 h2 h3 hm
theorem R_ch_lt_le {x y z : Res Int} (h1 : RE X Γ a x) (h2 : RE X Γ b y) (h3 : RE X Γ c z) (hm : lastMarks [.Lt, .LtE] [b, c] = false := by with_unfolding_all rfl) : RE X Γ (.Compare a [.Lt, .LtE] [b, c] pos) (x.bind fun x => y.bind fun y => cond (decide (x < y)) (z.bind fun z => .ok (decide (y ≤ z))) (.ok false)) := RE.chain op_lt op_le o2B o2B h1 h2 h3 hm
theorem TR_ch_lt_le {x y z : Res Int} (h1 : RE X Γ a x) (h2 : RE X Γ b y) (h3 : RE X Γ c z) (hm : lastMarks [.Lt, .LtE] [b, c] = false := by with_unfolding_all rfl) : TR X Γ (.Compare a [.Lt, .LtE] [b, c] pos) (x.bind fun x => y.bind fun y => cond (decide (x < y)) (z.bind fun z => .ok (decide (y ≤ z))) (.ok false)) := TR.chain op_lt op_le o2B o2B h1 h2 h3 hm
theorem A_ch_le_lt {x y z : Int} (h1 : AE X Γ a x) (h2 : AE X Γ b y) (h3 : AE X Γ c z) (hm : lastMarks [.LtE, .Lt] [b, c] = false := by with_unfolding_all rfl) : AE X Γ (.Compare a [.LtE, .Lt] [b, c] pos) (decide (x ≤ y) && decide (y < z)) := AE.chain op_le op_lt o2B o2B h1 h2 h3 hm
theorem TA_ch_le_lt {x y z : Int} (h1 : AE X Γ a x) (h2 : AE X Γ b y) (h3 : AE X Γ c z) (hm : lastMarks [.LtE, .Lt] [b, c] = false := by with_unfolding_all rfl) : TA X Γ (.Compare a [.LtE, .Lt] [b, c] pos) (decide (x ≤ y) && decide (y < z)) := TA.chain op_le op_lt o2B o2B h1 h2 h3 hm
theorem R_ch_le_lt {x y z : Res Int} (h1 : RE X Γ a x) (h2 : RE X Γ b y) (h3 : RE X Γ c z) (hm : lastMarks [.LtE, .Lt] [b, c] = false := by with_unfolding_all rfl) : RE X Γ (.Compare a [.LtE, .Lt] [b, c] pos) (x.bind fun x => y.bind fun y => cond (decide (x ≤ y)) (z.bind fun z => .ok (decide (y < z))) (.ok false)) := RE.chain op_le op_lt o2B o2B h1 h2 h3 hm
theorem TR_ch_le_lt {x y z : Res Int} (h1 : RE X Γ a x) (h2 : RE X Γ b y) (h3 : RE X Γ c z) (hm : lastMarks [.LtE, .Lt] [b, c] = false := by with_unfolding_all rfl) : TR X Γ (.Compare a [.LtE, .Lt] [b, c] pos) (x.bind fun x => y.bind fun y => cond (decide (x ≤ y)) (z.bind fun z => .ok (decide (y < z))) (.ok false)) := TR.chain op_le op_lt o2B o2B h1 h2 h3 hm
theorem A_ch_le_le {x y z : Int} (h1 : AE X Γ a x) (h2 : AE X Γ b y) (h3 : AE X Γ c z) (hm : lastMarks [.LtE, .LtE] [b, c] = false := by with_unfolding_all rfl) : AE X Γ (.Compare a [.LtE, .LtE] [b, c] pos) (decide (x ≤ y) && decide (y ≤ z)) := AE.chain op_le op_le o2B o2B h1 h2 h3 hm
theorem TA_ch_le_le {x y z : Int} (h1 : AE X Γ a x) (h2 : AE X Γ b y) (h3 : AE X Γ c z) (hm : lastMarks [.LtE, .LtE] [b, c] = false := by with_unfolding_all rfl) : TA X Γ (.Compare a [.LtE, .LtE] [b, c] pos) (decide (x ≤ y) && decide (y ≤ z)) := TA.chain op_le op_le o2B o2B h1 h2 h3 hm
theorem R_ch_le_le {x y z : Res Int} (h1 : RE X Γ a x) (h2 : RE X Γ b y) (h3 : RE X Γ c z) (hm : lastMarks [.LtE, .LtE] [b, c] = false := by with_unfolding_all rfl) : RE X Γ (.Compare a [.LtE, .LtE] [b, c] pos) (x.bind fun x => y.bind fun y => cond (decide (x ≤ y)) (z.bind fun z => .ok (decide (y ≤ z))) (.ok false)) := RE.chain op_le op_le o2B o2B h1 h2 h3 hm
theorem TR_ch_le_le {x y z : Res Int} (h1 : RE X Γ a x) (h2 : RE X Γ b y) (h3 : RE X Γ c z) (hm : lastMarks [.LtE, .LtE] [b, c] = false := by with_unfolding_all rfl) : TR X Γ (.Compare a [.LtE, .LtE] [b, c] pos) (x.bind fun x => y.bind fun y => cond (decide (x ≤ y)) (z.bind fun z => .ok (decide (y ≤ z))) (.ok false)) := TR.chain op_le op_le o2B o2B h1 h2 h3 hm
theorem SE.toD [ToD α] {o : Res (α × μ)} (h : SE X Γ p m e o) : SE X Γ p m e (o.bind fun q => .ok (toD q.1, q.2)) := h.conv _ fun _ _ _ _ r => ToD.dp r
theorem SE.someO {o : Res (α × μ)} (h : SE X Γ p m e o) : SE X Γ p m e (o.bind fun q => .ok (Option.some q.1, q.2)) := h.conv _ fun _ _ _ _ r => r
end
section
variable {X : Cx} {Γ : List Slot} {pos px py : Pos} {x y : Str} {a e : Expr} {es : List Expr} {k j i : Nat}
variable {α τ ρ μ : Type} [Rep α] [RepA τ] [Rep ρ] [CRep μ] {p : Addr} {m : μ}
theorem RE.callR {fM : τ → Res ρ} {o : Res τ} (C : Cal X.prog X.w X.K X.mg X.base x k (spM X.K X.mg fM)) (hr : Room j X.A) (hg : Gl X x) (ha : RArg X Γ (e :: es) o) (hkj : k ≤ j := by decide)
    (hdb : (x == ("__debug__" : Str)) = false := by decide) (he : starEach (e :: es) X.env = (false, eval e X.env) :: starEach es X.env := by rfl) (hpl : (backTo pos (starEach es X.env)).any (·.1) = false := by rfl) : RE X Γ (.Call (.Name x px) (e :: es) [] pos) (o.bind fM) := RE.call C hr hg ha hkj hdb he hpl
theorem FR.callR {fM : τ → Res μ} {o : Res τ} (C : Cal X.prog X.w X.K X.mg X.base x k (spF X.K X.mg fM)) (hr : Room j X.A) (hg : Gl X x) (ha : RArg X Γ (e :: es) o) (hkj : k ≤ j := by decide)
    (hdb : (x == ("__debug__" : Str)) = false := by decide) (he : starEach (e :: es) X.env = (false, eval e X.env) :: starEach es X.env := by rfl) (hpl : (backTo pos (starEach es X.env)).any (·.1) = false := by rfl) : FR X Γ (.Call (.Name x px) (e :: es) [] pos) (o.bind fM) := FR.call C hr hg ha hkj hdb he hpl
theorem SE.callR {fM : τ → Res ρ} {o : Res (τ × μ)} (C : Cal X.prog X.w X.K X.mg X.base x k (spM X.K X.mg fM)) (hr : Room j X.A) (hg : Gl X x) (ha : SArg X Γ p m (e :: es) o) (hkj : k ≤ j := by decide)
    (hdb : (x == ("__debug__" : Str)) = false := by decide) (he : starEach (e :: es) X.env = (false, eval e X.env) :: starEach es X.env := by rfl) (hpl : (backTo pos (starEach es X.env)).any (·.1) = false := by rfl) : SE X Γ p m (.Call (.Name x px) (e :: es) [] pos) (o.bind fun q => (fM q.1).bind fun d => .ok (d, q.2)) := SE.call C hr hg ha hkj hdb he hpl
theorem SE.callCR {fM : μ → τ → Res (ρ × μ)} {o : Res (τ × μ)} (i : Nat) (C : Cal X.prog X.w X.K X.mg X.base x k (spC X.K fM)) (hr : Room j X.A) (hg : Gl X x) (hy : getS Γ i = some ⟨i, CRef, ⟨p⟩⟩) (ha : SArg X Γ p m es o) (hN : X.N[i]? = some y := by rfl) (hkj : k ≤ j := by decide)
    (hv : Vis X.env.scope y := by first | exact Or.inl rfl | exact Or.inr (Or.inl rfl) | exact Or.inr (Or.inr rfl)) (hd : (y == ("__debug__" : Str)) = false := by decide) (hcd : (y == ("__classdict__" : Str)) = false := by decide)
    (hdb : (x == ("__debug__" : Str)) = false := by decide) (he : starEach (.Name y py :: es) X.env = (false, eval (.Name y py) X.env) :: starEach es X.env := by rfl) (hpl : (backTo pos (starEach es X.env)).any (·.1) = false := by rfl) :
    SE X Γ p m (.Call (.Name x px) (.Name y py :: es) [] pos) (o.bind fun q => fM q.2 q.1) := SE.callC C hr hg hy ha hkj hN hv hd hcd hdb he hpl
theorem SE.callCB {fM : μ → τ → Res (ρ × μ)} {t : τ} (i : Nat) (C : Cal X.prog X.w X.K X.mg X.base x k (spC X.K fM)) (hr : Room j X.A) (hg : Gl X x) (hy : getS Γ i = some ⟨i, CRef, ⟨p⟩⟩) (ha : AArg X Γ es t) (hN : X.N[i]? = some y := by rfl) (hkj : k ≤ j := by decide)
    (hv : Vis X.env.scope y := by first | exact Or.inl rfl | exact Or.inr (Or.inl rfl) | exact Or.inr (Or.inr rfl)) (hd : (y == ("__debug__" : Str)) = false := by decide) (hcd : (y == ("__classdict__" : Str)) = false := by decide)
    (hdb : (x == ("__debug__" : Str)) = false := by decide) (he : starEach (.Name y py :: es) X.env = (false, eval (.Name y py) X.env) :: starEach es X.env := by rfl) (hpl : (backTo pos (starEach es X.env)).any (·.1) = false := by rfl) :
    SE X Γ p m (.Call (.Name x px) (.Name y py :: es) [] pos) (fM m t) := SE.callCA C hr hg hy ha hkj hN hv hd hcd hdb he hpl
end
/-! ### what the classes say -/
theorem kitCls_of {K : PySem.W.Frag} {C D : Addr} {b : Bool} (h1 : PySem.W.isClsIn K D = true) (h2 : PySem.W.typeIn K (.ref D) = some (.type "type")) (h3 : PySem.W.subIn K (.ref C) (.ref D) = some b) : PySem.W.kitCls K (.ref C) (.ref D) = some b := by
  have e2 : ((PySem.W.clsIn K D).isSome && PySem.W.typeIn K (.ref D) == some (.type "type")) = true := by
    have h1' : (PySem.W.clsIn K D).isSome = true := h1
    rw [h1', h2] <;> rfl
  show (if ((PySem.W.clsIn K D).isSome && PySem.W.typeIn K (.ref D) == some (.type "type")) = true then PySem.W.subIn K (.ref C) (.ref D) else none) = some b
  rw [if_pos e2]
  exact h3
theorem exm_of {K : PySem.W.Frag} {C D : Addr} {b : Bool} (h0 : PySem.W.subIn K (.ref D) (.type "BaseException") = some true) (h1 : PySem.W.isClsIn K D = true) (h2 : PySem.W.typeIn K (.ref D) = some (.type "type")) (h3 : PySem.W.subIn K (.ref C) (.ref D) = some b) : PySem.W.exmOne K (.ref C) (.ref D) = some b := by
  have e1 : (PySem.W.subIn K (.ref D) (.type "BaseException") == some true) = true := by rw [h0] <;> rfl
  show (if (PySem.W.subIn K (.ref D) (.type "BaseException") == some true) = true then PySem.W.kitCls K (.ref C) (.ref D) else none) = some b
  rw [if_pos e1]
  exact kitCls_of h1 h2 h3
theorem kit_of {K : PySem.W.Frag} {C D : Addr} {b : Bool} (h1 : PySem.W.isClsIn K D = true) (h2 : PySem.W.typeIn K (.ref D) = some (.type "type")) (h3 : PySem.W.subIn K (.ref C) (.ref D) = some b) (h4 : PySem.W.subIn K (.ref D) (.ref D) = some true) : PySem.W.kitOne K (.ref C) (.ref D) = some b := by
  unfold PySem.W.kitOne
  by_cases h : C = D
  · subst h
    rw [h3] at h4
    cases h4
    rw [if_pos (by simp)]
  · rw [if_neg (by simp [h])]
    exact kitCls_of h1 h2 h3
end Mr

/-! Mr17: plain facts about mirrors: loops, comprehensions, _law_plain, gcd, fractions. -/
namespace Mr
open PySem PySem.Spec PyProof.Rows L2
open ToD (toD)
/-- _law_plain, to a depth -/
def plain_b (rec : PyData → Res PyData) (d : PyData) : Res (Out Empty Unit PyData) :=
  Res.bind (Res.ok (isTL d)) fun v => cond v (Res.up (Res.bind (Res.bind (Res.bind (Res.ok [toD (isL d)]) fun xs => Res.bind (Res.bind (itemsD d) fun xs => Res.hard (lcR (fun _ => Res.ok true) (fun x => rec x) xs)) fun ys => catR xs ys) fun a => Res.ok (toD a)) fun y => Res.ok (Out.rt y)))
    (Res.bind (Res.ok (isN d || isB d)) fun v => cond v (Res.up (Res.bind (Res.bind (Res.bind (Res.ok (["None", "False", "True"] : List Str)) fun x => Res.bind (Res.bind (Res.ok (if (!isN d) then (1 : Int) else 0)) fun x => Res.bind (Res.bind (iff (isN d = true ∨ isB d = true) (isT d)) fun x => Res.ok (if x then (1 : Int) else 0)) fun y => Res.ok (x + y)) fun y => ixR x y) fun a => Res.ok (toD a)) fun y => Res.ok (Out.rt y)))
      (Res.bind (Res.ok (isIS d)) fun v => cond v (Res.up (Res.ok (Out.rt (toD ([toD (isS d), d] : List PyData))))) (Res.ok (Out.rt (toD ("another" : Str))))))
def plainR : Nat → PyData → Res PyData
  | 0, _ => .bad
  | n + 1, d => Res.val (plain_b (plainR n) d)
/-! ### steps -/
section
variable {α β ν ν' κ ρ : Type}
theorem lt_eq (a : α) (f : α → β) : lt a f = f a := rfl
theorem seq_nx (s : ν) (f : ν → Res (Out ν' κ ρ)) : Res.seq (.ok (.nx s)) f = f s := rfl
theorem seq_rt (s : ρ) (f : ν → Res (Out ν' κ ρ)) : Res.seq (.ok (.rt s)) f = .ok (.rt s) := rfl
theorem up_rt (s : ρ) : (Res.up (.ok (.rt s)) : Res (Out ν κ ρ)) = .ok (.rt s) := rfl
theorem up_err (c : Str) (w : V) : (Res.up (.err c w) : Res (Out ν κ ρ)) = .err c w := rfl
theorem val_rt (s : ρ) : Res.val (κ := κ) (.ok (.rt s)) = .ok s := rfl
theorem val_err (c : Str) (w : V) : (Res.val (κ := κ) (.err c w) : Res ρ) = .err c w := rfl
theorem hard_ok (s : ρ) : Res.hard (.ok s) = .ok s := rfl
theorem popR_ne {xs : List α} {c : Str} {w : V} : popR xs ≠ .err c w := by unfold popR; split <;> intro h <;> cases h
end
/-! ### loops -/
section
variable {α β ν κ ρ : Type}
theorem forR_step (f : ν → α → Res (Out ν ν ρ)) (P : Nat → ν → Prop) : ∀ (xs : List α) (i : Nat) (s : ν), P i s → (∀ j x s, xs[j]? = some x → P (i + j) s → ∃ s', f s x = .ok (.nx s') ∧ P (i + j + 1) s') → ∃ s', (forR f xs s : Res (Out ν κ ρ)) = .ok (.nx s') ∧ P (i + xs.length) s'
  | [], i, s, h, _ => ⟨s, rfl, h⟩
  | x :: xs, i, s, h, hs => by
    obtain ⟨s1, e1, p1⟩ := hs 0 x s rfl h
    obtain ⟨s2, e2, p2⟩ := forR_step f P xs (i + 1) s1 p1 (fun j y t hj ht => by
      have ht' : P (i + (j + 1)) t := by rw [show i + (j + 1) = i + 1 + j by omega]; exact ht
      obtain ⟨s', q1, q2⟩ := hs (j + 1) y t hj ht'
      exact ⟨s', q1, by rw [show i + 1 + j + 1 = i + (j + 1) + 1 by omega]; exact q2⟩)
    refine ⟨s2, ?_, ?_⟩
    · rw [forR, e1]; exact e2
    · rw [List.length_cons, show i + (xs.length + 1) = i + 1 + xs.length by omega]; exact p2
theorem forR_fold (f : ν → α → Res (Out ν ν ρ)) (g : ν → α → ν) (P : ν → Prop) : ∀ (xs : List α) (s : ν), P s → (∀ x ∈ xs, ∀ s, P s → f s x = .ok (.nx (g s x)) ∧ P (g s x)) → (forR f xs s : Res (Out ν κ ρ)) = .ok (.nx (xs.foldl g s)) ∧ P (xs.foldl g s)
  | [], s, h, _ => ⟨rfl, h⟩
  | x :: xs, s, h, hs => by
    obtain ⟨e1, p1⟩ := hs x List.mem_cons_self s h
    obtain ⟨e2, p2⟩ := forR_fold f g P xs (g s x) p1 fun y hy => hs y (List.mem_cons_of_mem _ hy)
    refine ⟨?_, by rw [List.foldl_cons]; exact p2⟩
    rw [forR, e1, List.foldl_cons]; exact e2
theorem lcR_ok (f : α → Res β) (g : α → β) : ∀ xs : List α, (∀ x ∈ xs, f x = .ok (g x)) → lcR (fun _ => .ok true) f xs = .ok (xs.map g)
  | [], _ => rfl
  | x :: xs, h => by
    rw [lcR, lcR_ok f g xs fun y hy => h y (List.mem_cons_of_mem _ hy), h x List.mem_cons_self]
    rfl
theorem lcR_okf (t : α → Res Bool) (p : α → Bool) (f : α → Res β) (g : α → β) : ∀ xs : List α, (∀ x ∈ xs, t x = .ok (p x)) → (∀ x ∈ xs, p x = true → f x = .ok (g x)) → lcR t f xs = .ok ((xs.filter p).map g)
  | [], _, _ => rfl
  | x :: xs, h1, h2 => by
    rw [lcR, lcR_okf t p f g xs (fun y hy => h1 y (List.mem_cons_of_mem _ hy)) fun y hy => h2 y (List.mem_cons_of_mem _ hy), h1 x List.mem_cons_self]
    cases hp : p x with
    | false => simp [Res.bind, hp]
    | true =>
      rw [h2 x List.mem_cons_self hp]
      simp [Res.bind, hp]
theorem lcS_ok {μ : Type} (f : μ → α → Res (β × μ)) (Q : β → Prop) : ∀ (xs : List α) (m : μ), (∀ x ∈ xs, ∀ m, ∃ y m', f m x = .ok (y, m') ∧ Q y) → ∃ ys m', lcS (fun _ => .ok true) f xs m = .ok (ys, m') ∧ ys.length = xs.length ∧ ∀ y ∈ ys, Q y
  | [], m, _ => ⟨[], m, rfl, rfl, fun _ h => nomatch h⟩
  | x :: xs, m, h => by
    obtain ⟨y, m1, e1, q1⟩ := h x List.mem_cons_self m
    obtain ⟨ys, m2, e2, l2, q2⟩ := lcS_ok f Q xs m1 fun z hz => h z (List.mem_cons_of_mem _ hz)
    refine ⟨y :: ys, m2, ?_, by simp [l2], fun z hz => ?_⟩
    · rw [lcS, e1]
      show (((Res.ok (y, m1)).bind fun q => (lcS (fun _ => .ok true) f xs q.2).bind fun r => .ok (q.1 :: r.1, r.2)) : Res (List β × μ)) = _
      rw [Res.bind_ok, e2]; rfl
    · rcases List.mem_cons.mp hz with rfl | hz
      · exact q1
      · exact q2 z hz
end
theorem rngL_mem {lo : Int} {n : Nat} {x : Int} (h : x ∈ rngL lo n) : lo ≤ x ∧ x < lo + (n : Int) := by
  unfold rngL at h
  obtain ⟨k, hk, rfl⟩ := List.mem_map.mp h
  have := List.mem_range.mp hk
  omega
theorem rng1R_ok {n : Int} (h : -1000000 ≤ n ∧ n ≤ 1000000) : rng1R n = .ok (rngL 0 n.toNat) := iff_pos h
theorem rngL_toNat (n : Int) : rngL 0 (max2 0 n).toNat = rngL 0 n.toNat := by
  have : (max2 0 n).toNat = n.toNat := by unfold max2; split <;> omega
  rw [this]
/-! ### data that is laid -/
mutual
def okD : PyData → Bool
  | .list xs => decide (xs.length ≤ 100000) && okAll xs
  | .tuple xs => decide (xs.length ≤ 100000) && okAll xs
  | .dict _ => false
  | .str x => PyData.strOk x
  | .none => true
  | .bool _ => true
  | .int _ => true
def okAll : List PyData → Bool
  | [] => true
  | x :: xs => okD x && okAll xs
end
theorem okAll_iff : ∀ {xs : List PyData}, okAll xs = true ↔ ∀ x ∈ xs, okD x = true
  | [] => by unfold okAll; simp
  | x :: xs => by unfold okAll; rw [Bool.and_eq_true, okAll_iff]; simp
theorem lay_all : ∀ {xs : List PyData}, (∀ x ∈ xs, x.canLay0 = true) → PyData.canLayAll0 xs = true
  | [], _ => by unfold PyData.canLayAll0; rfl
  | x :: xs, h => by
    unfold PyData.canLayAll0
    rw [h x List.mem_cons_self, lay_all fun y hy => h y (List.mem_cons_of_mem _ hy)]; rfl
theorem depth_mem : ∀ {xs : List PyData} {x : PyData}, x ∈ xs → x.depth ≤ PyData.depthAll xs
  | y :: ys, x, h => by
    unfold PyData.depthAll
    rcases List.mem_cons.mp h with rfl | h
    · exact Nat.le_max_left _ _
    · exact Nat.le_trans (depth_mem h) (Nat.le_max_right _ _)
theorem depth_all : ∀ {xs : List PyData} {n : Nat}, (∀ x ∈ xs, x.depth ≤ n) → PyData.depthAll xs ≤ n
  | [], n, _ => by unfold PyData.depthAll; omega
  | x :: xs, n, h => by
    unfold PyData.depthAll
    exact Nat.max_le.mpr ⟨h x List.mem_cons_self, depth_all fun y hy => h y (List.mem_cons_of_mem _ hy)⟩
theorem lc_plain {n m : Nat} (ih : ∀ d : PyData, okD d = true → d.depth < n → ∃ p, plainR n d = .ok p ∧ p.canLay0 = true ∧ p.depth ≤ d.depth + 1) : ∀ xs : List PyData, (∀ x ∈ xs, okD x = true) → (∀ x ∈ xs, x.depth < n ∧ x.depth ≤ m) →
    ∃ ps : List PyData, lcR (fun _ => .ok true) (plainR n) xs = .ok ps ∧ ps.length = xs.length ∧ ∀ p ∈ ps, p.canLay0 = true ∧ p.depth ≤ m + 1
  | [], _, _ => ⟨[], rfl, rfl, fun _ h => nomatch h⟩
  | x :: xs, h1, h2 => by
    obtain ⟨ps, e, l, q⟩ := lc_plain ih xs (fun y hy => h1 y (List.mem_cons_of_mem _ hy)) fun y hy => h2 y (List.mem_cons_of_mem _ hy)
    obtain ⟨p, e1, c1, d1⟩ := ih x (h1 x List.mem_cons_self) (h2 x List.mem_cons_self).1
    refine ⟨p :: ps, ?_, by simp [l], fun z hz => ?_⟩
    · rw [lcR, e, e1]; rfl
    · rcases List.mem_cons.mp hz with rfl | hz
      · exact ⟨c1, by have := (h2 x List.mem_cons_self).2; omega⟩
      · exact q z hz
theorem plain_seq {n : Nat} {d : PyData} {xs : List PyData} (ht : isTL d = true) (hi : itemsD d = .ok xs) (hl : xs.length ≤ 100000) {ps : List PyData} (e : lcR (fun _ => .ok true) (plainR n) xs = .ok ps) (l : ps.length = xs.length) : plainR (n + 1) d = .ok (.list (.bool (isL d) :: ps)) := by
  have hc : catR [toD (isL d)] ps = .ok ([toD (isL d)] ++ ps) := iff_pos (by simp; omega)
  rw [plainR, plain_b, ht, hi]
  simp only [Res.bind_ok]
  rw [e]
  simp only [Res.hard, Res.bind_ok, hc]
  show Res.ok (PyData.list (([toD (isL d)] ++ ps).map fun x => x)) = _
  rw [List.map_id']; rfl
theorem plain_ok : ∀ (n : Nat) (d : PyData), okD d = true → d.depth < n → ∃ p, plainR n d = .ok p ∧ p.canLay0 = true ∧ p.depth ≤ d.depth + 1
  | 0, _, _, h => absurd h (Nat.not_lt_zero _)
  | n + 1, .none, _, _ => ⟨.str "None", rfl, by decide +kernel, by simp [PyData.depth]⟩
  | n + 1, .bool true, _, _ => ⟨.str "True", rfl, by decide +kernel, by simp [PyData.depth]⟩
  | n + 1, .bool false, _, _ => ⟨.str "False", rfl, by decide +kernel, by simp [PyData.depth]⟩
  | n + 1, .int i, _, _ => ⟨.list [.bool false, .int i], rfl, by simp [PyData.canLay0, PyData.canLayAll0], by simp [PyData.depth, PyData.depthAll]⟩
  | n + 1, .str x, h, _ => ⟨.list [.bool true, .str x], rfl, by
      have h' : PyData.strOk x = true := by simpa [okD] using h
      simp [PyData.canLay0, PyData.canLayAll0, h'], by simp [PyData.depth, PyData.depthAll]⟩
  | n + 1, .dict _, h, _ => by simp [okD] at h
  | n + 1, .list xs, h, hd => by
    have h' : xs.length ≤ 100000 ∧ okAll xs = true := by simpa [okD] using h
    rw [PyData.depth] at hd
    obtain ⟨ps, e, l, q⟩ := lc_plain (m := PyData.depthAll xs) (plain_ok n) xs (okAll_iff.mp h'.2) fun x hx => ⟨by have := depth_mem hx; omega, depth_mem hx⟩
    refine ⟨_, plain_seq rfl rfl h'.1 e l, ?_, ?_⟩
    · rw [PyData.canLay0, PyData.canLayAll0, lay_all fun p hp => (q p hp).1]; rfl
    · rw [PyData.depth, PyData.depthAll, PyData.depth, PyData.depth]
      have := depth_all fun p hp => (q p hp).2
      simp only [Nat.zero_max]
      omega
  | n + 1, .tuple xs, h, hd => by
    have h' : xs.length ≤ 100000 ∧ okAll xs = true := by simpa [okD] using h
    rw [PyData.depth] at hd
    obtain ⟨ps, e, l, q⟩ := lc_plain (m := PyData.depthAll xs) (plain_ok n) xs (okAll_iff.mp h'.2) fun x hx => ⟨by have := depth_mem hx; omega, depth_mem hx⟩
    refine ⟨_, plain_seq rfl rfl h'.1 e l, ?_, ?_⟩
    · rw [PyData.canLay0, PyData.canLayAll0, lay_all fun p hp => (q p hp).1]; rfl
    · rw [PyData.depth, PyData.depthAll, PyData.depth, PyData.depth]
      have := depth_all fun p hp => (q p hp).2
      simp only [Nat.zero_max]
      omega
theorem lay_ok : ∀ (n : Nat) (d : PyData), d.depth < n → okD d = true → d.canLay0 = true
  | 0, _, h, _ => absurd h (Nat.not_lt_zero _)
  | n + 1, .none, _, _ => rfl
  | n + 1, .bool _, _, _ => rfl
  | n + 1, .int _, _, _ => rfl
  | n + 1, .str x, _, h => by simpa [okD, PyData.canLay0] using h
  | n + 1, .dict _, _, h => by simp [okD] at h
  | n + 1, .list xs, hd, h => by
    have h' : xs.length ≤ 100000 ∧ okAll xs = true := by simpa [okD] using h
    rw [PyData.depth] at hd
    rw [PyData.canLay0]
    exact lay_all fun x hx => lay_ok n x (by have := depth_mem hx; omega) (okAll_iff.mp h'.2 x hx)
  | n + 1, .tuple xs, hd, h => by
    have h' : xs.length ≤ 100000 ∧ okAll xs = true := by simpa [okD] using h
    rw [PyData.depth] at hd
    rw [PyData.canLay0]
    exact lay_all fun x hx => lay_ok n x (by have := depth_mem hx; omega) (okAll_iff.mp h'.2 x hx)
theorem shaped_of {d : PyData} (h1 : d.canLay0 = true) (h2 : d.depth ≤ 64) : SeqAt.shaped d = true := by
  show (d.canLay0 && decide (d.depth ≤ 64)) = true
  rw [h1, decide_eq_true h2]; rfl
theorem neR_self {d : PyData} (h1 : d.canLay0 = true) (h2 : d.depth ≤ 64) : neR d d = .ok false := by
  unfold neR
  rw [iff_pos ⟨shaped_of h1 h2, shaped_of h1 h2⟩, SeqAt.eqv_refl d h1]; rfl
theorem eqR_self {d : PyData} (h1 : d.canLay0 = true) (h2 : d.depth ≤ 64) : eqR d d = .ok true := by
  unfold eqR
  rw [iff_pos ⟨shaped_of h1 h2, shaped_of h1 h2⟩, SeqAt.eqv_refl d h1]
theorem neR_same {d : PyData} (h1 : okD d = true) (h2 : d.depth ≤ 64) : neR d d = .ok false := neR_self (lay_ok 65 d (by omega) h1) h2
theorem eqR_same {d : PyData} (h1 : okD d = true) (h2 : d.depth ≤ 64) : eqR d d = .ok true := eqR_self (lay_ok 65 d (by omega) h1) h2
/-- both sides plain, and the same -/
theorem plain_same {n : Nat} {d : PyData} (h1 : okD d = true) (h2 : d.depth < n) (h3 : d.depth ≤ 63) : ∃ p, plainR n d = .ok p ∧ neR p p = .ok false ∧ eqR p p = .ok true := by
  obtain ⟨p, e, c, d1⟩ := plain_ok n d h1 h2
  exact ⟨p, e, neR_self c (by omega), eqR_self c (by omega)⟩
/-- typed data -/
theorem okD_list {α : Type} [Rep α] [ToD α] {xs : List α} (h1 : xs.length ≤ 100000) (h2 : ∀ x ∈ xs, okD (toD x) = true) : okD (toD xs) = true := by
  show (decide ((xs.map toD).length ≤ 100000) && okAll (xs.map toD)) = true
  rw [List.length_map, decide_eq_true h1, Bool.true_and]
  exact okAll_iff.mpr fun d hd => by obtain ⟨x, hx, rfl⟩ := List.mem_map.mp hd; exact h2 x hx
theorem okD_pair {α β : Type} [Rep α] [ToD α] [Rep β] [ToD β] {q : α × β} (h1 : okD (toD q.1) = true) (h2 : okD (toD q.2) = true) : okD (toD q) = true := by
  show (decide (2 ≤ 100000) && (okD (toD q.1) && (okD (toD q.2) && true))) = true
  rw [h1, h2]; rfl
theorem okD_int {i : Int} : okD (toD i) = true := rfl
theorem okD_bool {i : Bool} : okD (toD i) = true := rfl
theorem okD_opt {α : Type} [Rep α] [ToD α] {o : Option α} (h : ∀ a, o = some a → okD (toD a) = true) : okD (toD o) = true := by
  cases o with
  | none => rfl
  | some a => exact h a rfl
theorem dep_list {α : Type} [Rep α] [ToD α] {xs : List α} {n : Nat} (h : ∀ x ∈ xs, (toD x).depth ≤ n) : (toD xs).depth ≤ n + 1 := by
  show (PyData.list (xs.map toD)).depth ≤ n + 1
  rw [PyData.depth]
  exact Nat.succ_le_succ (depth_all fun d hd => by obtain ⟨x, hx, rfl⟩ := List.mem_map.mp hd; exact h x hx)
theorem dep_int {i : Int} : (toD i).depth = 0 := by show (PyData.int i).depth = 0; rw [PyData.depth]
theorem dep_pairI {q : Int × Int} : (toD q).depth = 1 := by
  show (PyData.tuple [PyData.int q.1, PyData.int q.2]).depth = 1
  simp [PyData.depth, PyData.depthAll]
theorem dep_opt {α : Type} [Rep α] [ToD α] {o : Option α} {n : Nat} (h : ∀ a, o = some a → (toD a).depth ≤ n) : (toD o).depth ≤ n := by
  cases o with
  | none => show (PyData.none).depth ≤ n; simp [PyData.depth]
  | some a => exact h a rfl
/-! ### the law's deck -/
theorem take_pos {m : List Int} {many : Int} (h : 0 < many) (f : Res (Int × List Int))
    (hf : f = if m.length = 0 then .ok (0, m) else (popR m).bind fun q => (modR q.1 many).bind fun d => .ok (d, q.2)) : ∃ r m', f = .ok (r, m') ∧ 0 ≤ r ∧ r < many := by
  subst hf
  by_cases hm : m.length = 0
  · rw [if_pos hm]; exact ⟨0, m, rfl, Int.le_refl _, h⟩
  · rw [if_neg hm]
    unfold popR
    cases hq : m.getLast? with
    | none => rw [List.getLast?_eq_none_iff] at hq; subst hq; exact absurd rfl hm
    | some y =>
      simp only [Res.bind_ok]
      unfold modR
      rw [if_pos h]
      exact ⟨y % many, m.dropLast, rfl, Int.emod_nonneg _ (by omega), Int.emod_lt_of_pos _ h⟩
/-! ### gcd -/
theorem gcdI_zero (a : Int) (h : 0 ≤ a) : gcdI a 0 = a := by unfold gcdI; simp; omega
theorem gcdI_step (a b : Int) (ha : 0 ≤ a) (hb : 0 < b) : gcdI b (a % b) = gcdI a b := by
  unfold gcdI
  have h1 : (a % b).natAbs = a.natAbs % b.natAbs := by
    have := Int.natAbs_emod_of_nonneg (b := b) ha
    exact this
  rw [h1, Nat.gcd_comm b.natAbs, ← Nat.gcd_rec, Nat.gcd_comm]
theorem gcd_while {κ ρ : Type} {t : Int × Int → Res Bool} {f : Int × Int → Res (Out (Int × Int) (Int × Int) ρ)} (ht : ∀ s, t s = .ok (!decide (s.2 = 0))) (hf : ∀ s : Int × Int, 0 < s.2 → f s = .ok (.nx (s.2, s.1 % s.2))) :
    ∀ (n : Nat) (a b : Int), 0 ≤ a → 0 ≤ b → b.natAbs < n → (whileR t f n (a, b) : Res (Out (Int × Int) κ ρ)) = .ok (.nx (gcdI a b, 0))
  | 0, _, _, _, _, h => absurd h (Nat.not_lt_zero _)
  | n + 1, a, b, ha, hb, h => by
    rw [whileR_succ, ht, Res.bind_ok]
    by_cases h0 : b = 0
    · subst h0
      show Res.ok (Out.nx (a, (0 : Int))) = _
      rw [gcdI_zero a ha]
    · have hp : 0 < b := by omega
      rw [show (!decide ((a, b).2 = 0)) = true by simp [h0], hf (a, b) hp]
      show whileR t f n (b, a % b) = _
      have hm := Int.emod_nonneg a h0
      have hl := Int.emod_lt_of_pos a hp
      rw [gcd_while ht hf n b (a % b) hb hm (by omega), gcdI_step a b ha hp]
theorem gcdI_abs (a b : Int) : gcdI (if a < 0 then -a else a) (if b < 0 then -b else b) = gcdI a b := by
  unfold gcdI
  have h : ∀ z : Int, (if z < 0 then -z else z).natAbs = z.natAbs := fun z => by split <;> simp
  rw [h, h]
/-! ### reduced fractions -/
def fr (a b : Int) : Int × Int := (a / gcdI a b, b / gcdI a b)
theorem gcdI_pos {a b : Int} (h : b ≠ 0) : 0 < gcdI a b := by
  unfold gcdI
  have : 0 < Nat.gcd a.natAbs b.natAbs := Nat.gcd_pos_of_pos_right _ (by omega)
  omega
theorem gcdI_dl (a b : Int) : gcdI a b ∣ a := by
  unfold gcdI
  exact Int.ofNat_dvd_left.mpr (Nat.gcd_dvd_left _ _)
theorem gcdI_dr (a b : Int) : gcdI a b ∣ b := by
  unfold gcdI
  exact Int.ofNat_dvd_left.mpr (Nat.gcd_dvd_right _ _)
theorem gcdI_le {a b : Int} (h : 0 < b) : gcdI a b ≤ b := Int.le_of_dvd h (gcdI_dr a b)
theorem fr_mul1 (a b : Int) : (fr a b).1 * gcdI a b = a := Int.ediv_mul_cancel (gcdI_dl a b)
theorem fr_mul2 (a b : Int) : (fr a b).2 * gcdI a b = b := Int.ediv_mul_cancel (gcdI_dr a b)
theorem fr_pos {a b : Int} (h : 0 < b) : 0 < (fr a b).2 := by
  have h1 := fr_mul2 a b
  have h2 : 0 < gcdI a b := gcdI_pos (by omega)
  exact Int.pos_of_mul_pos_left (by rw [h1]; exact h) h2
/-- cross-multiplied -/
theorem fr_cross {a b : Int} : (fr a b).1 * b = a * (fr a b).2 := by
  have h1 := fr_mul1 a b
  have h2 := fr_mul2 a b
  calc (fr a b).1 * b = (fr a b).1 * ((fr a b).2 * gcdI a b) := by rw [h2]
    _ = ((fr a b).1 * gcdI a b) * (fr a b).2 := by ac_rfl
    _ = a * (fr a b).2 := by rw [h1]
theorem fr_cop {a b : Int} (h : b ≠ 0) : Nat.Coprime (fr a b).1.natAbs (fr a b).2.natAbs := by
  have hg : 0 < Nat.gcd a.natAbs b.natAbs := Nat.gcd_pos_of_pos_right _ (by omega)
  have e1 : (fr a b).1.natAbs = a.natAbs / Nat.gcd a.natAbs b.natAbs := by
    unfold fr gcdI
    exact Int.natAbs_ediv_of_dvd (Int.ofNat_dvd_left.mpr (Nat.gcd_dvd_left _ _))
  have e2 : (fr a b).2.natAbs = b.natAbs / Nat.gcd a.natAbs b.natAbs := by
    unfold fr gcdI
    exact Int.natAbs_ediv_of_dvd (Int.ofNat_dvd_left.mpr (Nat.gcd_dvd_right _ _))
  rw [e1, e2]
  exact Nat.coprime_div_gcd_div_gcd hg
theorem cop_unique {a b c d : Int} (hb : 0 < b) (hd : 0 < d) (h1 : Nat.Coprime a.natAbs b.natAbs) (h2 : Nat.Coprime c.natAbs d.natAbs) (h : a * d = c * b) : a = c ∧ b = d := by
  have hn : a.natAbs * d.natAbs = c.natAbs * b.natAbs := by rw [← Int.natAbs_mul, ← Int.natAbs_mul, h]
  have e1 : b.natAbs ∣ d.natAbs := h1.symm.dvd_of_dvd_mul_left (by rw [hn]; exact Nat.dvd_mul_left _ _)
  have e2 : d.natAbs ∣ b.natAbs := h2.symm.dvd_of_dvd_mul_left (by rw [← hn]; exact Nat.dvd_mul_left _ _)
  have e3 : b.natAbs = d.natAbs := Nat.dvd_antisymm e1 e2
  have e4 : b = d := by omega
  subst e4
  exact ⟨Int.eq_of_mul_eq_mul_right (by omega) h, rfl⟩
theorem fr_eq {a b c d : Int} (hb : 0 < b) (hd : 0 < d) (h : a * d = c * b) : fr a b = fr c d := by
  have k1 := fr_cross (a := a) (b := b)
  have k2 := fr_cross (a := c) (b := d)
  have p1 := fr_pos (a := a) hb
  have p2 := fr_pos (a := c) hd
  have hx : (fr a b).1 * (fr c d).2 = (fr c d).1 * (fr a b).2 := by
    have : ((fr a b).1 * (fr c d).2) * (b * d) = ((fr c d).1 * (fr a b).2) * (b * d) := by
      calc ((fr a b).1 * (fr c d).2) * (b * d) = ((fr a b).1 * b) * (d * (fr c d).2) := by ac_rfl
        _ = (a * (fr a b).2) * (d * (fr c d).2) := by rw [k1]
        _ = (a * d) * ((fr a b).2 * (fr c d).2) := by ac_rfl
        _ = (c * b) * ((fr a b).2 * (fr c d).2) := by rw [h]
        _ = (c * (fr c d).2) * (b * (fr a b).2) := by ac_rfl
        _ = ((fr c d).1 * d) * (b * (fr a b).2) := by rw [k2]
        _ = ((fr c d).1 * (fr a b).2) * (b * d) := by ac_rfl
    exact Int.eq_of_mul_eq_mul_right (Int.ne_of_gt (Int.mul_pos hb hd)) this
  obtain ⟨e1, e2⟩ := cop_unique p1 p2 (fr_cop (by omega)) (fr_cop (by omega)) hx
  exact Prod.ext e1 e2
theorem fr_one (a : Int) : fr a 1 = (a, 1) := by
  have : gcdI a 1 = 1 := by unfold gcdI; simp
  unfold fr; rw [this]; simp
theorem fr_is {a b c d : Int} (hb : 0 < b) (hd : 0 < d) (hc : Nat.Coprime c.natAbs d.natAbs) (h : a * d = c * b) : fr a b = (c, d) := by
  have k1 := fr_cross (a := a) (b := b)
  have p1 := fr_pos (a := a) hb
  have hx : (fr a b).1 * d = c * (fr a b).2 := by
    have : ((fr a b).1 * d) * b = (c * (fr a b).2) * b := by
      calc ((fr a b).1 * d) * b = ((fr a b).1 * b) * d := by ac_rfl
        _ = (a * (fr a b).2) * d := by rw [k1]
        _ = (a * d) * (fr a b).2 := by ac_rfl
        _ = (c * b) * (fr a b).2 := by rw [h]
        _ = (c * (fr a b).2) * b := by ac_rfl
    exact Int.eq_of_mul_eq_mul_right (by omega) this
  obtain ⟨e1, e2⟩ := cop_unique p1 hd (fr_cop (by omega)) hc hx
  exact Prod.ext e1 e2
theorem fr_le2 {a b : Int} (h : 0 < b) : (fr a b).2 ≤ b := by
  have h1 := fr_mul2 a b
  have h2 : 0 < gcdI a b := gcdI_pos (by omega)
  have h3 := fr_pos (a := a) h
  calc (fr a b).2 = (fr a b).2 * 1 := by rw [Int.mul_one]
    _ ≤ (fr a b).2 * gcdI a b := Int.mul_le_mul_of_nonneg_left (by omega) (by omega)
    _ = b := h1
/-- a bound of the value -/
theorem fr_bound {a b k : Int} (h : 0 < b) (h1 : -(k * b) ≤ a) (h2 : a ≤ k * b) : -(k * (fr a b).2) ≤ (fr a b).1 ∧ (fr a b).1 ≤ k * (fr a b).2 := by
  have e1 := fr_mul1 a b
  have e2 := fr_mul2 a b
  have hg : 0 < gcdI a b := gcdI_pos (by omega)
  have q1 : (fr a b).1 * gcdI a b ≤ (k * (fr a b).2) * gcdI a b := by
    calc (fr a b).1 * gcdI a b = a := e1
      _ ≤ k * b := h2
      _ = k * ((fr a b).2 * gcdI a b) := by rw [e2]
      _ = (k * (fr a b).2) * gcdI a b := by ac_rfl
  have q2 : (-(k * (fr a b).2)) * gcdI a b ≤ (fr a b).1 * gcdI a b := by
    calc (-(k * (fr a b).2)) * gcdI a b = -(k * ((fr a b).2 * gcdI a b)) := by rw [Int.neg_mul]; congr 1; ac_rfl
      _ = -(k * b) := by rw [e2]
      _ ≤ a := h1
      _ = (fr a b).1 * gcdI a b := e1.symm
  exact ⟨Int.le_of_mul_le_mul_right q2 hg, Int.le_of_mul_le_mul_right q1 hg⟩
theorem log2_lt {j : Int} (h0 : 0 < j) (h : j < 2 ^ 64) : j.natAbs.log2 < 9000 := by
  have h1 : j.natAbs < 2 ^ 64 := by omega
  have := (Nat.log2_lt (n := j.natAbs) (by omega)).mpr h1
  omega
theorem divR_pos {i j : Int} (h0 : 0 < j) (h : j < 2 ^ 64) : divR i j = .ok (i / j) := by
  unfold divR
  rw [if_pos ⟨h0, log2_lt h0 h⟩]
theorem mulR_l {i j : Int} (h1 : -(2 ^ 64) < i) (h2 : i < 2 ^ 64) : mulR i j = .ok (i * j) := iff_pos (.inl (.inl ⟨h1, h2⟩))
theorem mulR_r {i j : Int} (h1 : -(2 ^ 64) < j) (h2 : j < 2 ^ 64) : mulR i j = .ok (i * j) := iff_pos (.inl (.inr ⟨h1, h2⟩))
theorem modR_pos {i j : Int} (h : 0 < j) : modR i j = .ok (i % j) := by unfold modR; rw [if_pos h]
theorem ixR_nat {α : Type} {xs : List α} {i : Int} {j : Nat} {x : α} (hi : i = (j : Int)) (h : xs[j]? = some x) : ixR xs i = .ok x := by
  have hl := (List.getElem?_eq_some_iff.mp h).1
  unfold ixR atI ixN
  rw [if_pos (by omega), if_pos (by omega)]
  simp only [Option.bind_some]
  rw [show i.toNat = j by omega, h]
theorem ixR_last {α : Type} {xs : List α} {x : α} (h : xs.getLast? = some x) : ixR xs (-1) = .ok x := by
  have hne : xs ≠ [] := by intro e; subst e; cases h
  have hl : 0 < xs.length := List.length_pos_iff.mpr hne
  rw [List.getLast?_eq_getElem?] at h
  unfold ixR atI ixN
  rw [if_neg (by omega), if_pos (by omega)]
  simp only [Option.bind_some]
  rw [show ((-1 : Int) + (xs.length : Int)).toNat = xs.length - 1 by omega, h]
theorem pushR_lt {α : Type} {xs : List α} {x : α} (h : xs.length < 1000000) : pushR xs x = .ok (xs ++ [x]) := iff_pos h
end Mr

/-! the mirrors of the text's defs; printed by gen.py -/
namespace Mr
open PySem PySem.Spec PyProof.Rows L2
open ToD (toD)

def plain (t : PyData × Unit) : Res PyData := plainR 8 t.1
def fraction_b (above_0 : Int) (below_0 : Int) : Res (Out Empty Unit (Int × Int)) :=
  (Res.bind (Res.ok (decide (below_0 = (0 : Int)))) fun t1 => cond t1 (Res.up (Res.err "InvalidMoney" (Scal.enc ("fraction" : Str)))) (lt (gcdI above_0 below_0) fun common_2 => (Res.seq (ν := Int) (Res.bind (Res.ok (decide (below_0 < (0 : Int)))) fun t3 => cond t3 (lt (-common_2) fun common_4 => (Res.ok (Out.nx common_4))) (Res.ok (Out.nx common_2))) fun s5 => (Res.bind (Res.bind (divR above_0 s5) fun t6 => Res.bind (divR below_0 s5) fun t7 => Res.ok (t6, t7)) fun y8 => Res.ok (Out.rt y8)))))
def fraction (t : Int × Int × Unit) : Res (Int × Int) := Res.val (fraction_b t.1 t.2.1)
def plus_b (first_0 : (Int × Int)) (second_0 : (Int × Int)) : Res (Out Empty Unit (Int × Int)) :=
  (Res.bind (Res.bind (Res.bind (Res.bind (mulR first_0.1 second_0.2) fun t9 => Res.bind (mulR second_0.1 first_0.2) fun t10 => Res.ok (t9 + t10)) fun t13 => Res.bind (Res.bind (mulR first_0.2 second_0.2) fun t11 => Res.bind (Res.ok ()) fun t12 => Res.ok (t11, t12)) fun t14 => Res.ok (t13, t14)) fraction) fun y15 => Res.ok (Out.rt y15))
def plus (t : (Int × Int) × (Int × Int) × Unit) : Res (Int × Int) := Res.val (plus_b t.1 t.2.1)
def times_b (first_0 : (Int × Int)) (second_0 : (Int × Int)) : Res (Out Empty Unit (Int × Int)) :=
  (Res.bind (Res.bind (Res.bind (mulR first_0.1 second_0.1) fun t18 => Res.bind (Res.bind (mulR first_0.2 second_0.2) fun t16 => Res.bind (Res.ok ()) fun t17 => Res.ok (t16, t17)) fun t19 => Res.ok (t18, t19)) fraction) fun y20 => Res.ok (Out.rt y20))
def times (t : (Int × Int) × (Int × Int) × Unit) : Res (Int × Int) := Res.val (times_b t.1 t.2.1)
def moving_means_b (values_0 : (List Int)) (width_0 : Int) : Res (Out Empty Unit (List (Int × Int))) :=
  (Res.bind (Res.ok (decide (width_0 < (1 : Int)))) fun t21 => cond t21 (Res.up (Res.err "InvalidTable" (Scal.enc ("width" : Str)))) (Res.bind (Res.bind (rng1R (((((values_0).length : Int)) - width_0) + (1 : Int))) fun t23 => Res.hard (lcR (fun _ => Res.ok true) (fun (x22 : Int) => (fraction ((((cutL values_0 (some x22) (some (x22 + width_0)))).sum), (width_0, ())))) t23)) fun y24 => Res.ok (Out.rt y24)))
def moving_means (t : (List Int) × Int × Unit) : Res (List (Int × Int)) := Res.val (moving_means_b t.1 t.2.1)
def smoothed_L1 (part_34 : (Int × Int)) (rest_39 : (Int × Int)) (s48 : (List (Int × Int))) (x49 : Int) : Res (Out (List (Int × Int)) (List (Int × Int)) (List (Int × Int))) :=
  (Res.seq (ν := (List (Int × Int))) (Res.bind (Res.ok (!List.isEmpty s48)) fun t50 => cond t50 (Res.bind (Res.bind (Res.bind (times (part_34, ((x49, (1 : Int)), ()))) fun t58 => Res.bind (Res.bind (Res.bind (Res.bind (Res.ok rest_39) fun t54 => Res.bind (Res.bind (ixR s48 (-(1 : Int))) fun t52 => Res.bind (Res.ok ()) fun t53 => Res.ok (t52, t53)) fun t55 => Res.ok (t54, t55)) times) fun t56 => Res.bind (Res.ok ()) fun t57 => Res.ok (t56, t57)) fun t59 => Res.ok (t58, t59)) plus) fun y60 => Res.bind (pushR s48 y60) fun found_51 => (Res.ok (Out.nx found_51))) (Res.bind (pushR s48 (x49, (1 : Int))) fun found_61 => (Res.ok (Out.nx found_61)))) fun s62 => (Res.ok (Out.nx s62)))
def smoothed_b (values_0 : (List Int)) (weight_0 : (VT Int)) : Res (Out Empty Unit (List (Int × Int))) :=
  (Res.bind (Res.bind (Res.ok (!decide (((weight_0.xs.length : Int)) = (2 : Int)))) fun t32 => cond t32 (Res.ok true) (Res.bind (Res.bind (ixR weight_0.xs (1 : Int)) fun t25 => Res.bind (Res.ok (1 : Int)) fun t26 => Res.ok (decide (t25 < t26))) fun t31 => cond t31 (Res.ok true) (Res.bind (Res.bind (Res.ok (0 : Int)) fun t27 => Res.bind (ixR weight_0.xs (0 : Int)) fun t28 => cond (decide (t27 ≤ t28)) (Res.bind (ixR weight_0.xs (1 : Int)) fun t29 => Res.ok (decide (t28 ≤ t29))) (Res.ok false)) fun t30 => Res.ok (!t30)))) fun t33 => cond t33 (Res.up (Res.err "InvalidTable" (Scal.enc ("weight" : Str)))) (Res.bind (Res.bind (Res.bind (ixR weight_0.xs (0 : Int)) fun t37 => Res.bind (Res.bind (ixR weight_0.xs (1 : Int)) fun t35 => Res.bind (Res.ok ()) fun t36 => Res.ok (t35, t36)) fun t38 => Res.ok (t37, t38)) fraction) fun part_34 => (Res.bind (Res.bind (Res.bind (Res.bind (ixR weight_0.xs (1 : Int)) fun t40 => Res.bind (ixR weight_0.xs (0 : Int)) fun t41 => Res.ok (t40 - t41)) fun t44 => Res.bind (Res.bind (ixR weight_0.xs (1 : Int)) fun t42 => Res.bind (Res.ok ()) fun t43 => Res.ok (t42, t43)) fun t45 => Res.ok (t44, t45)) fraction) fun rest_39 => (Res.bind (Res.ok ([] : (List (Int × Int)))) fun found_47 => (Res.seq (ν := (List (Int × Int))) (Res.bind (Res.ok values_0) fun y63 => forR (smoothed_L1 part_34 rest_39) y63 found_47) fun s48 => (Res.ok (Out.rt s48)))))))
def smoothed (t : (List Int) × (VT Int) × Unit) : Res (List (Int × Int)) := Res.val (smoothed_b t.1 t.2.1)
def season_means_L1 (period_0 : Int) (values_0 : (List Int)) (s67 : (List (Option (Int × Int)))) (x68 : Int) : Res (Out (List (Option (Int × Int))) (List (Option (Int × Int))) (List (Option (Int × Int)))) :=
  (Res.bind (iff ((some period_0) ≠ Option.some 0 ∧ (pickL values_0 (some x68) (none : Option Int) (some period_0)).length ≤ 1000000) (pickL values_0 (some x68) (none : Option Int) (some period_0))) fun rows_69 => (Res.bind (Res.bind (Res.ok (!List.isEmpty rows_69)) fun t72 => cond t72 (Res.bind (fraction (((rows_69).sum), ((((rows_69).length : Int)), ()))) fun c71 => Res.ok (Option.some c71)) (Res.ok (Option.none : (Option (Int × Int))))) fun y73 => Res.bind (pushR s67 y73) fun found_70 => (Res.ok (Out.nx found_70))))
def season_means_b (values_0 : (List Int)) (period_0 : Int) : Res (Out Empty Unit (List (Option (Int × Int)))) :=
  (Res.bind (Res.ok (decide (period_0 < (1 : Int)))) fun t64 => cond t64 (Res.up (Res.err "InvalidTable" (Scal.enc ("period" : Str)))) (Res.bind (Res.ok ([] : (List (Option (Int × Int))))) fun found_66 => (Res.seq (ν := (List (Option (Int × Int)))) (Res.bind (rng1R period_0) fun y74 => forR (season_means_L1 period_0 values_0) y74 found_66) fun s67 => (Res.ok (Out.rt s67)))))
def season_means (t : (List Int) × Int × Unit) : Res (List (Option (Int × Int))) := Res.val (season_means_b t.1 t.2.1)
def season_forecast_b (values_0 : (List Int)) (period_0 : Int) (count_0 : Int) : Res (Out Empty Unit (List (Option (Int × Int)))) :=
  (Res.bind (season_means (values_0, (period_0, ()))) fun means_75 => (Res.bind (inR PyData.none (toD means_75)) fun t76 => cond t76 (Res.up (Res.err "InvalidTable" (Scal.enc ("values" : Str)))) (Res.bind (Res.ok (decide (count_0 < (0 : Int)))) fun t77 => cond t77 (Res.up (Res.err "InvalidTable" (Scal.enc ("count" : Str)))) (Res.bind (Res.bind (rng1R count_0) fun t81 => Res.hard (lcR (fun _ => Res.ok true) (fun (x78 : Int) => (Res.bind (Res.ok means_75) fun t79 => Res.bind (modR ((((values_0).length : Int)) + x78) period_0) fun t80 => ixR t79 t80)) t81)) fun y82 => Res.ok (Out.rt y82)))))
def season_forecast (t : (List Int) × Int × Int × Unit) : Res (List (Option (Int × Int))) := Res.val (season_forecast_b t.1 t.2.1 t.2.2.1)
def mean_gap_L1 (s85 : (Int × Int)) (x86 : (Int × (Int × Int))) : Res (Out (Int × Int) (Int × Int) (Int × Int)) :=
  (Res.bind (Res.bind (Res.bind (Res.ok s85) fun t97 => Res.bind (Res.bind (Res.bind (Res.bind (Res.bind (Res.bind (mulR x86.1 x86.2.2) fun t88 => Res.bind (Res.ok x86.2.1) fun t89 => Res.ok (t88 - t89)) fun t90 => Res.ok (if t90 < 0 then -t90 else t90)) fun t93 => Res.bind (Res.bind (Res.ok x86.2.2) fun t91 => Res.bind (Res.ok ()) fun t92 => Res.ok (t91, t92)) fun t94 => Res.ok (t93, t94)) fraction) fun t95 => Res.bind (Res.ok ()) fun t96 => Res.ok (t95, t96)) fun t98 => Res.ok (t97, t98)) plus) fun total_87 => (Res.ok (Out.nx total_87)))
def mean_gap_b (values_0 : (List Int)) (forecasts_0 : (List (Int × Int))) : Res (Out Empty Unit (Int × Int)) :=
  (Res.bind (Res.ok ((!(!List.isEmpty values_0)) || (!decide ((((values_0).length : Int)) = (((forecasts_0).length : Int)))))) fun t83 => cond t83 (Res.up (Res.err "InvalidTable" (Scal.enc ("values" : Str)))) (lt ((0 : Int), (1 : Int)) fun total_84 => (Res.seq (ν := (Int × Int)) (Res.bind (Res.ok (List.zip values_0 forecasts_0)) fun y100 => forR (mean_gap_L1) y100 total_84) fun s85 => (Res.bind (times (s85, (((1 : Int), (((values_0).length : Int))), ()))) fun y99 => Res.ok (Out.rt y99)))))
def mean_gap (t : (List Int) × (List (Int × Int)) × Unit) : Res (Int × Int) := Res.val (mean_gap_b t.1 t.2.1)
def law_deck_L1 (s112 : ((List Int) × Int)) (x113 : Int) : Res (Out ((List Int) × Int) ((List Int) × Int) (List Int)) :=
  (Res.bind (pushR s112.1 ((s112.2) % (1000003 : Int))) fun deck_114 => (lt (s112.2 / (1000003 : Int)) fun rest_115 => (Res.ok (Out.nx (deck_114, rest_115)))))
def law_deck_L2 (s118 : ((List Int) × Int)) (x119 : Int) : Res (Out ((List Int) × Int) ((List Int) × Int) (List Int)) :=
  (lt (((((s118.2 * (69621 : Int)) + x119) + (1 : Int))) % (2147483629 : Int)) fun seed_120 => (Res.bind (pushR s118.1 (((seed_120 / (5 : Int))) % (1000003 : Int))) fun deck_121 => (Res.ok (Out.nx (deck_121, seed_120)))))
def law_deck_L3 (script_0 : Scr) (each_0 : Int) (s104 : ((List Int) × Int)) (x105 : Int) : Res (Out ((List Int) × Int) ((List Int) × Int) (List Int)) :=
  (lt (0 : Int) fun cell_106 => (Res.seq (ν := Int) (Res.bind (Res.ok (decide (x105 < ((script_0.ns.length : Int))))) fun t107 => cond t107 (Res.bind (ixR script_0.ns x105) fun cell_108 => (Res.ok (Out.nx cell_108))) (Res.ok (Out.nx cell_106))) fun s109 => (lt (if s109 < 0 then -s109 else s109) fun rest_110 => (Res.seq (ν := ((List Int) × Int)) (Res.bind (Res.ok (decide (((10 : Int) ^ ((30 : Int)).toNat) ≤ rest_110))) fun t111 => cond t111 (Res.seq (ν := ((List Int) × Int)) (Res.bind (rng1R each_0) fun y116 => forR (law_deck_L1) y116 (s104.1, rest_110)) fun s112 => (Res.ok (Out.nx (s112.1, s104.2)))) (lt ((((((s104.2 * (48271 : Int)) + ((2 : Int) * rest_110)) + (if (decide (s109 < (0 : Int))) then (1 : Int) else 0)) + x105)) % (2147483647 : Int)) fun seed_117 => (Res.seq (ν := ((List Int) × Int)) (Res.bind (rng1R each_0) fun y122 => forR (law_deck_L2) y122 (s104.1, seed_117)) fun s118 => (Res.ok (Out.nx (s118.1, s118.2)))))) fun s123 => (Res.ok (Out.nx (s123.1, s123.2)))))))
def law_deck_b (script_0 : Scr) (cells_0 : Int) (each_0 : Int) : Res (Out Empty Unit (List Int)) :=
  (Res.bind (Res.ok ([] : (List Int))) fun deck_102 => (lt ((7 : Int) + ((script_0.ns.length : Int))) fun seed_103 => (Res.seq (ν := ((List Int) × Int)) (Res.bind (rng1R cells_0) fun y129 => forR (law_deck_L3 script_0 each_0) y129 (deck_102, seed_103)) fun s104 => (Res.bind (Res.hard (Res.ok ((), List.reverse s104.1))) fun q127 => (fun m128 => (Res.ok (Out.rt m128))) q127.2))))
def law_deck (t : Scr × Int × Int × Unit) : Res (List Int) := Res.val (law_deck_b t.1 t.2.1 t.2.2.1)
def law_take_b (deck_m : (List Int)) (many_0 : Int) : Res (Out Empty Unit (Int × (List Int))) :=
  (Res.bind (Res.ok (decide ((((deck_m).length : Int)) = (0 : Int)))) fun t130 => cond t130 (Res.up (Res.ok (Out.rt ((0 : Int), deck_m)))) (Res.bind (Res.hard (Res.bind (Res.bind (popR deck_m) fun q134 => Res.ok (q134.1, q134.2)) fun q131 => Res.bind (Res.ok (many_0, q131.2)) fun q132 => Res.bind (modR q131.1 q132.1) fun d133 => Res.ok (d133, q132.2))) fun y140 => Res.ok (Out.rt y140)))
def law_take (m : (List Int)) (t : Int × Unit) : Res (Int × (List Int)) := Res.val (law_take_b m t.1)
def law_gcd_L1t (s143 : (Int × Int)) : Res Bool :=
  (Res.ok (!decide (s143.2 = (0 : Int))))
def law_gcd_L1 (s143 : (Int × Int)) : Res (Out (Int × Int) (Int × Int) Int) :=
  (Res.bind (Res.ok s143.2) fun one_144 => Res.bind (modR (s143.1) s143.2) fun two_145 => (Res.ok (Out.nx (one_144, two_145))))
def law_gcd_b (one_0 : Int) (two_0 : Int) : Res (Out Empty Unit Int) :=
  (lt (if one_0 < 0 then -one_0 else one_0) fun one_141 => (lt (if two_0 < 0 then -two_0 else two_0) fun two_142 => (Res.seq (ν := (Int × Int)) (whileR (law_gcd_L1t) (law_gcd_L1) (Int.natAbs two_142 + 1) (one_141, two_142)) fun s143 => (Res.ok (Out.rt s143.1)))))
def law_gcd (t : Int × Int × Unit) : Res Int := Res.val (law_gcd_b t.1 t.2.1)
def law_fraction_b (above_0 : Int) (below_0 : Int) : Res (Out Empty Unit (Int × Int)) :=
  (Res.bind (law_gcd (above_0, (below_0, ()))) fun common_146 => (Res.seq (ν := Int) (Res.bind (Res.ok (decide (below_0 < (0 : Int)))) fun t147 => cond t147 (lt (-common_146) fun common_148 => (Res.ok (Out.nx common_148))) (Res.ok (Out.nx common_146))) fun s149 => (Res.bind (Res.bind (divR above_0 s149) fun t150 => Res.bind (divR below_0 s149) fun t151 => Res.ok (t150, t151)) fun y152 => Res.ok (Out.rt y152))))
def law_fraction (t : Int × Int × Unit) : Res (Int × Int) := Res.val (law_fraction_b t.1 t.2.1)
def why_i_h (c : Str) (x : V) : Res (Out Empty Empty (Option Str)) :=
  if c = "InvalidTable" then (match x with | .str z => (Res.ok (Out.rt (Option.some z))) | _ => Res.bad) else Res.bad
def why_i_b (ask_0 : Int) (values_0 : (List Int)) (one_0 : Int) (two_0 : Int) : Res (Out Empty Unit (Option Str)) :=
  (Res.seq (ν := Unit) (tryR (Res.seq (ν := Unit) (Res.bind (Res.ok (decide (ask_0 = (0 : Int)))) fun t153 => cond t153 (Res.bind (moving_means (values_0, (one_0, ()))) fun _ => (Res.ok (Out.nx ()))) (Res.seq (ν := Unit) (Res.bind (Res.ok (decide (ask_0 = (1 : Int)))) fun t154 => cond t154 Res.bad (Res.seq (ν := Unit) (Res.bind (Res.ok (decide (ask_0 = (2 : Int)))) fun t155 => cond t155 (Res.bind (season_means (values_0, (one_0, ()))) fun _ => (Res.ok (Out.nx ()))) (Res.seq (ν := Unit) (Res.bind (Res.ok (decide (ask_0 = (3 : Int)))) fun t156 => cond t156 (Res.bind (season_forecast (values_0, (one_0, (two_0, ())))) fun _ => (Res.ok (Out.nx ()))) Res.bad) fun s157 => (Res.ok (Out.nx ())))) fun s158 => (Res.ok (Out.nx ())))) fun s159 => (Res.ok (Out.nx ())))) fun s160 => (Res.ok (Out.nx ()))) why_i_h) fun s161 => (Res.ok (Out.rt (Option.none : (Option Str)))))
def why_i (t : Int × (List Int) × Int × Int × Unit) : Res (Option Str) := Res.val (why_i_b t.1 t.2.1 t.2.2.1 t.2.2.2.1)
def why_v_h (c : Str) (x : V) : Res (Out Empty Empty (Option Str)) :=
  if c = "InvalidTable" then (match x with | .str z => (Res.ok (Out.rt (Option.some z))) | _ => Res.bad) else Res.bad
def why_v_b (ask_0 : Int) (values_0 : (List Int)) (one_0 : (VT Int)) (two_0 : Int) : Res (Out Empty Unit (Option Str)) :=
  (Res.seq (ν := Unit) (tryR (Res.seq (ν := Unit) (Res.bind (Res.ok (decide (ask_0 = (0 : Int)))) fun t162 => cond t162 Res.bad (Res.seq (ν := Unit) (Res.bind (Res.ok (decide (ask_0 = (1 : Int)))) fun t163 => cond t163 (Res.bind (smoothed (values_0, (one_0, ()))) fun _ => (Res.ok (Out.nx ()))) (Res.seq (ν := Unit) (Res.bind (Res.ok (decide (ask_0 = (2 : Int)))) fun t164 => cond t164 Res.bad (Res.seq (ν := Unit) (Res.bind (Res.ok (decide (ask_0 = (3 : Int)))) fun t165 => cond t165 Res.bad Res.bad) fun s166 => (Res.ok (Out.nx ())))) fun s167 => (Res.ok (Out.nx ())))) fun s168 => (Res.ok (Out.nx ())))) fun s169 => (Res.ok (Out.nx ()))) why_v_h) fun s170 => (Res.ok (Out.rt (Option.none : (Option Str)))))
def why_v (t : Int × (List Int) × (VT Int) × Int × Unit) : Res (Option Str) := Res.val (why_v_b t.1 t.2.1 t.2.2.1 t.2.2.2.1)
def why_l_h (c : Str) (x : V) : Res (Out Empty Empty (Option Str)) :=
  if c = "InvalidTable" then (match x with | .str z => (Res.ok (Out.rt (Option.some z))) | _ => Res.bad) else Res.bad
def why_l_b (ask_0 : Int) (values_0 : (List Int)) (one_0 : (List (Int × Int))) (two_0 : Int) : Res (Out Empty Unit (Option Str)) :=
  (Res.seq (ν := Unit) (tryR (Res.seq (ν := Unit) (Res.bind (Res.ok (decide (ask_0 = (0 : Int)))) fun t171 => cond t171 Res.bad (Res.seq (ν := Unit) (Res.bind (Res.ok (decide (ask_0 = (1 : Int)))) fun t172 => cond t172 Res.bad (Res.seq (ν := Unit) (Res.bind (Res.ok (decide (ask_0 = (2 : Int)))) fun t173 => cond t173 Res.bad (Res.seq (ν := Unit) (Res.bind (Res.ok (decide (ask_0 = (3 : Int)))) fun t174 => cond t174 Res.bad (Res.bind (mean_gap (values_0, (one_0, ()))) fun _ => (Res.ok (Out.nx ())))) fun s175 => (Res.ok (Out.nx ())))) fun s176 => (Res.ok (Out.nx ())))) fun s177 => (Res.ok (Out.nx ())))) fun s178 => (Res.ok (Out.nx ()))) why_l_h) fun s179 => (Res.ok (Out.rt (Option.none : (Option Str)))))
def why_l (t : Int × (List Int) × (List (Int × Int)) × Int × Unit) : Res (Option Str) := Res.val (why_l_b t.1 t.2.1 t.2.2.1 t.2.2.2.1)
def lawM_L1 (q229 : (Int × (List Int))) (q222 : (Int × (List Int))) (s235 : (List (Int × Int))) (x236 : Int) : Res (Out (List (Int × Int)) (List (Int × Int)) Bool) :=
  (Res.seq (ν := (List (Int × Int))) (Res.bind (Res.ok (decide ((((s235).length : Int)) = (0 : Int)))) fun t237 => cond t237 (Res.bind (pushR s235 (x236, (1 : Int))) fun wanted_238 => (Res.ok (Out.nx wanted_238))) (Res.bind (ixR s235 (-(1 : Int))) fun q239 => (Res.bind (Res.bind (Res.bind (Res.bind (Res.bind (mulR q229.1 x236) fun t241 => Res.bind (Res.ok q239.2) fun t242 => mulR t241 t242) fun t243 => Res.bind (mulR (q222.1 - q229.1) q239.1) fun t244 => Res.ok (t243 + t244)) fun t247 => Res.bind (Res.bind (mulR q222.1 q239.2) fun t245 => Res.bind (Res.ok ()) fun t246 => Res.ok (t245, t246)) fun t248 => Res.ok (t247, t248)) law_fraction) fun y249 => Res.bind (pushR s235 y249) fun wanted_240 => (Res.ok (Out.nx wanted_240))))) fun s250 => (Res.ok (Out.nx s250)))
def lawM_L2 (q182 : ((List Int) × (List Int))) (q271 : (Int × (List Int))) (s280 : (List (Option (Int × Int)))) (x281 : Int) : Res (Out (List (Option (Int × Int))) (List (Option (Int × Int))) Bool) :=
  (Res.bind (Res.bind (rng1R (((q182.1).length : Int))) fun t286 => Res.hard (lcR (fun (x283 : Int) => (Res.bind (modR ((x283 - x281)) q271.1) fun t284 => Res.bind (Res.ok (0 : Int)) fun t285 => Res.ok (decide (t284 = t285)))) (fun (x283 : Int) => (ixR q182.1 x283)) t286)) fun rows_282 => (Res.bind (Res.bind (Res.ok (decide ((0 : Int) < (((rows_282).length : Int))))) fun t289 => cond t289 (Res.bind (law_fraction (((rows_282).sum), ((((rows_282).length : Int)), ()))) fun c288 => Res.ok (Option.some c288)) (Res.ok (Option.none : (Option (Int × Int))))) fun y290 => Res.bind (pushR s280 y290) fun means_287 => (Res.ok (Out.nx means_287))))
def lawM_L3 (told_344 : (List (Int × Int))) (q182 : ((List Int) × (List Int))) (s348 : (Int × Int)) (x349 : Int) : Res (Out (Int × Int) (Int × Int) Bool) :=
  (Res.bind (ixR told_344 x349) fun q350 => (Res.bind (Res.bind (Res.bind (Res.bind (mulR s348.1 q350.2) fun t359 => Res.bind (Res.bind (Res.bind (Res.bind (Res.bind (ixR q182.1 x349) fun t352 => Res.bind (Res.ok q350.2) fun t353 => mulR t352 t353) fun t354 => Res.bind (Res.ok q350.1) fun t355 => Res.ok (t354 - t355)) fun t356 => Res.ok (if t356 < 0 then -t356 else t356)) fun t357 => Res.bind (Res.ok s348.2) fun t358 => mulR t357 t358) fun t360 => Res.ok (t359 + t360)) fun t363 => Res.bind (Res.bind (mulR s348.2 q350.2) fun t361 => Res.bind (Res.ok ()) fun t362 => Res.ok (t361, t362)) fun t364 => Res.ok (t363, t364)) law_fraction) fun total_351 => (Res.ok (Out.nx total_351))))
def lawM_b (script_0 : Scr) : Res (Out Empty Unit Bool) :=
  (Res.bind (law_deck (script_0, ((40 : Int), ((14 : Int), ())))) fun deck_181 => (Res.bind (Res.hard (Res.bind (Res.bind (law_take deck_181 ((13 : Int), ())) fun q189 => Res.bind (rng1R q189.1) fun d190 => Res.ok (d190, q189.2)) fun y192 => Res.hard (lcS (fun _ => Res.ok true) (fun (m193 : (List Int)) (x191 : Int) => (Res.bind (law_take m193 ((60 : Int), ())) fun q194 => Res.bind (Res.ok ((10 : Int), q194.2)) fun q195 => Res.ok (q194.1 - q195.1, q195.2))) y192.1 y192.2))) fun q182 => (lt (q182.1) fun handed_200 => (Res.bind (Res.hard (Res.bind (Res.ok ((1 : Int), q182.2)) fun q202 => Res.bind (law_take q202.2 ((6 : Int), ())) fun q203 => Res.ok (q202.1 + q203.1, q203.2))) fun q201 => (Res.bind (Res.bind (rng1R (max2 (0 : Int) (((((q182.1).length : Int)) - q201.1) + (1 : Int)))) fun t210 => Res.hard (lcR (fun _ => Res.ok true) (fun (x209 : Int) => (law_fraction ((((cutL q182.1 (some x209) (some (x209 + q201.1)))).sum), (q201.1, ())))) t210)) fun due_208 => (Res.bind (Res.bind (Res.bind (Res.bind (Res.bind (Res.bind (moving_means (handed_200, (q201.1, ()))) fun c211 => Res.ok (toD c211)) fun t212 => Res.bind (Res.ok ()) fun t213 => Res.ok (t212, t213)) plain) fun t214 => Res.bind (plain ((toD due_208), ())) fun t215 => neR t214 t215) fun t220 => cond t220 (Res.ok true) (Res.bind (Res.bind (moving_means (q182.1, ((1 : Int), ()))) fun c217 => Res.ok (toD c217)) fun t218 => Res.bind (Res.ok (toD (List.map (fun (x216 : Int) => (x216, (1 : Int))) q182.1))) fun t219 => neR t218 t219)) fun t221 => cond t221 (Res.up (Res.ok (Out.rt false))) (Res.bind (Res.hard (Res.bind (Res.ok ((1 : Int), q201.2)) fun q223 => Res.bind (law_take q223.2 ((9 : Int), ())) fun q224 => Res.ok (q223.1 + q224.1, q224.2))) fun q222 => (Res.bind (Res.hard (law_take q222.2 ((q222.1 + (1 : Int)), ()))) fun q229 => (Res.bind (Res.ok ([] : (List (Int × Int)))) fun wanted_234 => (Res.seq (ν := (List (Int × Int))) (Res.bind (Res.ok q182.1) fun y424 => forR (lawM_L1 q229 q222) y424 wanted_234) fun s235 => (Res.bind (Res.bind (Res.bind (Res.bind (Res.bind (smoothed (handed_200, ((⟨[q229.1, q222.1]⟩ : (VT Int)), ()))) fun c251 => Res.ok (toD c251)) fun t252 => Res.bind (Res.ok ()) fun t253 => Res.ok (t252, t253)) plain) fun t254 => Res.bind (plain ((toD s235), ())) fun t255 => neR t254 t255) fun t256 => cond t256 (Res.up (Res.ok (Out.rt false))) (Res.bind (Res.bind (Res.bind (Res.bind (smoothed (q182.1, ((⟨[q222.1, q222.1]⟩ : (VT Int)), ()))) fun c258 => Res.ok (toD c258)) fun t259 => Res.bind (Res.ok (toD (List.map (fun (x257 : Int) => (x257, (1 : Int))) q182.1))) fun t260 => neR t259 t260) fun t269 => cond t269 (Res.ok true) (Res.bind (Res.bind (Res.bind (Res.bind (repR ([(5 : Int)] : (List Int)) (4 : Int)) fun t263 => Res.bind (Res.bind (Res.ok (⟨[q229.1, q222.1]⟩ : (VT Int))) fun t261 => Res.bind (Res.ok ()) fun t262 => Res.ok (t261, t262)) fun t264 => Res.ok (t263, t264)) smoothed) fun c265 => Res.ok (toD c265)) fun t267 => Res.bind (Res.bind (repR ([((5 : Int), (1 : Int))] : (List (Int × Int))) (4 : Int)) fun c266 => Res.ok (toD c266)) fun t268 => neR t267 t268)) fun t270 => cond t270 (Res.up (Res.ok (Out.rt false))) (Res.bind (Res.hard (Res.bind (Res.ok ((1 : Int), q229.2)) fun q272 => Res.bind (law_take q272.2 ((7 : Int), ())) fun q273 => Res.ok (q272.1 + q273.1, q273.2))) fun q271 => (Res.bind (Res.ok ([] : (List (Option (Int × Int))))) fun means_279 => (Res.seq (ν := (List (Option (Int × Int)))) (Res.bind (rng1R q271.1) fun y423 => forR (lawM_L2 q182 q271) y423 means_279) fun s280 => (Res.bind (Res.bind (Res.bind (Res.bind (Res.bind (Res.bind (season_means (handed_200, (q271.1, ()))) fun c291 => Res.ok (toD c291)) fun t292 => Res.bind (Res.ok ()) fun t293 => Res.ok (t292, t293)) plain) fun t294 => Res.bind (plain ((toD s280), ())) fun t295 => neR t294 t295) fun t296 => cond t296 (Res.ok true) (neR (toD handed_200) (toD q182.1))) fun t297 => cond t297 (Res.up (Res.ok (Out.rt false))) (Res.bind (Res.hard (law_take q271.2 ((9 : Int), ()))) fun q298 => (Res.seq (ν := Unit) (Res.bind (inR PyData.none (toD s280)) fun t302 => cond t302 (Res.bind (Res.bind (Res.bind (why_i ((3 : Int), (q182.1, (q271.1, (q298.1, ()))))) fun c303 => Res.ok (toD c303)) fun t304 => Res.bind (Res.ok (toD ("values" : Str))) fun t305 => neR t304 t305) fun t306 => cond t306 (Res.up (Res.ok (Out.rt false))) (Res.ok (Out.nx ()))) (Res.bind (Res.bind (rng1R q298.1) fun t311 => Res.hard (lcR (fun _ => Res.ok true) (fun (x308 : Int) => (Res.bind (Res.ok s280) fun t309 => Res.bind (modR (((((q182.1).length : Int)) + x308)) q271.1) fun t310 => ixR t309 t310)) t311)) fun later_307 => (Res.bind (Res.bind (Res.bind (Res.bind (Res.bind (Res.bind (season_forecast (q182.1, (q271.1, (q298.1, ())))) fun c312 => Res.ok (toD c312)) fun t313 => Res.bind (Res.ok ()) fun t314 => Res.ok (t313, t314)) plain) fun t315 => Res.bind (plain ((toD later_307), ())) fun t316 => neR t315 t316) fun t320 => cond t320 (Res.ok true) (Res.bind (Res.bind (why_i ((3 : Int), (q182.1, (q271.1, ((-(1 : Int)), ()))))) fun c317 => Res.ok (toD c317)) fun t318 => Res.bind (Res.ok (toD ("count" : Str))) fun t319 => neR t318 t319)) fun t321 => cond t321 (Res.up (Res.ok (Out.rt false))) (Res.ok (Out.nx ()))))) fun s322 => (Res.seq (ν := (List Int)) (Res.bind (Res.ok (decide ((0 : Int) < (((q182.1).length : Int))))) fun t323 => cond t323 (Res.bind (Res.hard (Res.bind (Res.bind (Res.ok q182.1) fun y325 => Res.ok (y325, q298.2)) fun y327 => Res.hard (lcS (fun _ => Res.ok true) (fun (m328 : (List Int)) (x326 : Int) => (Res.bind (Res.bind (law_take m328 ((90 : Int), ())) fun q332 => Res.bind (Res.ok ((20 : Int), q332.2)) fun q333 => Res.ok (q332.1 - q333.1, q333.2)) fun q329 => Res.bind (Res.bind (Res.ok ((1 : Int), q329.2)) fun q338 => Res.bind (law_take q338.2 ((4 : Int), ())) fun q339 => Res.ok (q338.1 + q339.1, q339.2)) fun q330 => Res.ok ((q329.1, q330.1), q330.2))) y327.1 y327.2))) fun q324 => (Res.bind (Res.bind (Res.ok q324.1) fun t346 => Res.hard (lcR (fun _ => Res.ok true) (fun (x345 : (Int × Int)) => (law_fraction (x345.1, (x345.2, ())))) t346)) fun told_344 => (lt ((0 : Int), (1 : Int)) fun total_347 => (Res.seq (ν := (Int × Int)) (Res.bind (rng1R (((q182.1).length : Int))) fun y395 => forR (lawM_L3 told_344 q182) y395 total_347) fun s348 => (Res.bind (Res.bind (Res.bind (Res.bind (Res.bind (mean_gap (q182.1, (told_344, ()))) fun c365 => Res.ok (toD c365)) fun t366 => Res.bind (Res.ok ()) fun t367 => Res.ok (t366, t367)) plain) fun t375 => Res.bind (Res.bind (Res.bind (Res.bind (Res.bind (Res.bind (Res.ok s348.1) fun t370 => Res.bind (Res.bind (mulR s348.2 (((q182.1).length : Int))) fun t368 => Res.bind (Res.ok ()) fun t369 => Res.ok (t368, t369)) fun t371 => Res.ok (t370, t371)) law_fraction) fun c372 => Res.ok (toD c372)) fun t373 => Res.bind (Res.ok ()) fun t374 => Res.ok (t373, t374)) plain) fun t376 => neR t375 t376) fun t377 => cond t377 (Res.up (Res.ok (Out.rt false))) (Res.bind (Res.bind (Res.bind (Res.bind (mean_gap (q182.1, ((List.map (fun (x378 : Int) => (x378, (1 : Int))) q182.1), ()))) fun c379 => Res.ok (toD c379)) fun t380 => Res.bind (Res.ok (toD ((0 : Int), (1 : Int)))) fun t381 => neR t380 t381) fun t393 => cond t393 (Res.ok true) (Res.bind (Res.bind (Res.bind (Res.bind (Res.ok (4 : Int)) fun t388 => Res.bind (Res.bind (Res.ok q182.1) fun t386 => Res.bind (Res.bind (catR told_344 told_344) fun t384 => Res.bind (Res.bind (Res.ok (0 : Int)) fun t382 => Res.bind (Res.ok ()) fun t383 => Res.ok (t382, t383)) fun t385 => Res.ok (t384, t385)) fun t387 => Res.ok (t386, t387)) fun t389 => Res.ok (t388, t389)) why_l) fun c390 => Res.ok (toD c390)) fun t391 => Res.bind (Res.ok (toD ("values" : Str))) fun t392 => neR t391 t392)) fun t394 => cond t394 (Res.up (Res.ok (Out.rt false))) (Res.ok (Out.nx q324.2)))))))) (Res.ok (Out.nx q298.2))) fun s396 => (Res.bind (Res.hard (Res.bind (Res.ok (([(⟨[(1 : Int)]⟩ : (VT Int)), (⟨[(1 : Int), (0 : Int)]⟩ : (VT Int)), (⟨[(-(1 : Int)), (2 : Int)]⟩ : (VT Int)), (⟨[(3 : Int), (2 : Int)]⟩ : (VT Int)), (⟨[(1 : Int), (2 : Int), (3 : Int)]⟩ : (VT Int)), (⟨[(0 : Int), (-(1 : Int))]⟩ : (VT Int))] : (List (VT Int))), s396)) fun q398 => Res.bind (law_take q398.2 ((6 : Int), ())) fun q399 => Res.bind (ixR q398.1 q399.1) fun d400 => Res.ok (d400, q399.2))) fun q397 => (Res.bind (Res.bind (Res.bind (why_i ((0 : Int), (q182.1, ((0 : Int), ((0 : Int), ()))))) fun t411 => Res.bind (Res.bind (why_v ((1 : Int), (q182.1, (q397.1, ((0 : Int), ()))))) fun t409 => Res.bind (Res.bind (why_i ((2 : Int), (q182.1, ((0 : Int), ((0 : Int), ()))))) fun t407 => Res.bind (Res.bind (why_i ((3 : Int), (q182.1, ((-(1 : Int)), ((-(1 : Int)), ()))))) fun t405 => Res.bind (Res.ok ([] : (List (Option Str)))) fun t406 => Res.ok (t405 :: t406)) fun t408 => Res.ok (t407 :: t408)) fun t410 => Res.ok (t409 :: t410)) fun t412 => Res.ok (t411 :: t412)) fun t413 => iff (t413.length ≤ 64) t413) fun answers_404 => (Res.bind (Res.bind (Res.bind (Res.bind (Res.ok answers_404) fun t417 => Res.bind (Res.bind (Res.bind (why_l ((4 : Int), (([] : (List Int)), (([] : (List (Int × Int))), ((0 : Int), ()))))) fun t414 => Res.bind (Res.ok ([] : (List (Option Str)))) fun t415 => Res.ok (t414 :: t415)) fun t416 => iff (t416.length ≤ 64) t416) fun t418 => catR t417 t418) fun c419 => Res.ok (toD c419)) fun t420 => Res.bind (Res.ok (toD ([("width" : Str), ("weight" : Str), ("period" : Str), ("period" : Str), ("values" : Str)] : (List Str)))) fun t421 => eqR t420 t421) fun y422 => Res.ok (Out.rt y422)))))))))))))))))))))))
def lawM (t : Scr × Unit) : Res Bool := Res.val (lawM_b t.1)
end Mr

namespace Mr
open PySem PySem.Spec PyProof.Rows L2
open ToD (toD)
theorem fraction_ok {a b : Int} (h0 : 0 < b) (h : b < 2 ^ 64) : fraction (a, b, ()) = .ok (fr a b) := by
  have hg : 0 < gcdI a b := gcdI_pos (by omega)
  have hl := gcdI_le (a := a) h0
  have e1 : decide (b = 0) = false := decide_eq_false (by omega)
  have e2 : decide (b < 0) = false := decide_eq_false (by omega)
  show Res.val (fraction_b a b) = _
  unfold fraction_b
  simp only [e1, e2, Res.bind_ok, lt_eq, cond_false, seq_nx, val_rt, divR_pos hg (by omega : gcdI a b < 2 ^ 64)]
  rfl
theorem law_gcd_ok {a b : Int} : law_gcd (a, b, ()) = .ok (gcdI a b) := by
  show Res.val (law_gcd_b a b) = _
  unfold law_gcd_b
  have ha : 0 ≤ (if a < 0 then -a else a) := by split <;> omega
  have hb : 0 ≤ (if b < 0 then -b else b) := by split <;> omega
  have e := gcd_while (κ := Unit) (t := law_gcd_L1t) (f := law_gcd_L1) (fun s => rfl) (fun s hs => by unfold law_gcd_L1; simp only [modR_pos hs, Res.bind_ok]) (Int.natAbs (if b < 0 then -b else b) + 1) (if a < 0 then -a else a) (if b < 0 then -b else b) ha hb (Nat.lt_succ_self _)
  show Res.val (Res.seq (whileR law_gcd_L1t law_gcd_L1 (Int.natAbs (if b < 0 then -b else b) + 1) (if a < 0 then -a else a, if b < 0 then -b else b)) _) = _
  rw [e, gcdI_abs]
  rfl
theorem law_fraction_ok {a b : Int} (h0 : 0 < b) (h : b < 2 ^ 64) : law_fraction (a, b, ()) = .ok (fr a b) := by
  have hg : 0 < gcdI a b := gcdI_pos (by omega)
  have hl := gcdI_le (a := a) h0
  have e2 : decide (b < 0) = false := decide_eq_false (by omega)
  show Res.val (law_fraction_b a b) = _
  unfold law_fraction_b
  simp only [law_gcd_ok, e2, Res.bind_ok, lt_eq, cond_false, seq_nx, val_rt, divR_pos hg (by omega : gcdI a b < 2 ^ 64)]
  rfl
theorem take_ok (m : List Int) (many : Int) (h : 0 < many) : ∃ r m', law_take m (many, ()) = .ok (r, m') ∧ 0 ≤ r ∧ r < many := by
  refine take_pos (m := m) h _ ?_
  show Res.val (law_take_b m many) = _
  unfold law_take_b
  by_cases hm : m.length = 0
  · rw [if_pos hm]
    have e : decide (((m.length : Int)) = 0) = true := decide_eq_true (by omega)
    simp only [e, Res.bind_ok, cond_true]
    rfl
  · rw [if_neg hm]
    have e : decide (((m.length : Int)) = 0) = false := decide_eq_false (by omega)
    simp only [e, Res.bind_ok, cond_false]
    cases hp : popR m with
    | ok q =>
      simp only [Res.bind_ok]
      cases hq : modR q.1 many with
      | ok d => rfl
      | err c x => exact absurd hq modR_ne
      | bad => rfl
    | err c x => exact absurd hp popR_ne
    | bad => rfl
theorem fill_ok (f : List Int × Int → Int → Res (Out (List Int × Int) (List Int × Int) (List Int))) (hf : ∀ s x, s.1.length < 1000000 → ∃ d z, f s x = .ok (.nx (d, z)) ∧ d.length = s.1.length + 1) {κ : Type} (n : Int) (hn : 0 ≤ n ∧ n ≤ 100) (s : List Int × Int) (hs : s.1.length ≤ 100000) :
    ∃ d z, ((rng1R n).bind fun y => (forR f y s : Res (Out (List Int × Int) κ (List Int)))) = .ok (.nx (d, z)) ∧ d.length = s.1.length + n.toNat := by
  rw [rng1R_ok (by omega), Res.bind_ok]
  obtain ⟨s', e, p⟩ := forR_step (κ := κ) f (fun i t => t.1.length = s.1.length + i) (rngL 0 n.toNat) 0 s rfl (fun j x t hx ht => by
    have hj : j < (rngL 0 n.toNat).length := (List.getElem?_eq_some_iff.mp hx).1
    rw [rngL_len] at hj
    obtain ⟨d, z, e, l⟩ := hf t x (by rw [ht]; omega)
    exact ⟨(d, z), e, by rw [show ((d, z) : List Int × Int).1 = d from rfl, l, ht]; omega⟩)
  exact ⟨s'.1, s'.2, e, by rw [p, rngL_len]; omega⟩
theorem deck_ok (ns : List Int) (h : ns.length ≤ 63) : ∃ d, law_deck (⟨ns⟩, 40, 14, ()) = .ok d := by
  have h1 : ∀ (s : List Int × Int) (x : Int), s.1.length < 1000000 → ∃ d z, law_deck_L1 s x = .ok (.nx (d, z)) ∧ d.length = s.1.length + 1 := fun s x hs => by
    unfold law_deck_L1
    rw [pushR_lt hs, Res.bind_ok]
    exact ⟨_, _, rfl, by simp⟩
  have h2 : ∀ (s : List Int × Int) (x : Int), s.1.length < 1000000 → ∃ d z, law_deck_L2 s x = .ok (.nx (d, z)) ∧ d.length = s.1.length + 1 := fun s x hs => by
    unfold law_deck_L2
    simp only [pushR_lt hs, Res.bind_ok]
    exact ⟨_, _, rfl, by simp⟩
  have h3 : ∀ j x (s : List Int × Int), (rngL 0 (40 : Int).toNat)[j]? = some x → s.1.length = 14 * (0 + j) → ∃ s', law_deck_L3 ⟨ns⟩ 14 s x = .ok (.nx s') ∧ s'.1.length = 14 * (0 + j + 1) := fun j x s hx hs => by
    have hj : j < (rngL 0 (40 : Int).toNat).length := (List.getElem?_eq_some_iff.mp hx).1
    rw [rngL_len] at hj
    have ex := rngL_get hx
    obtain ⟨c, hc⟩ : ∃ c, ((Res.ok (decide (x < (ns.length : Int)))).bind fun t => cond t ((ixR ns x).bind fun c => (Res.ok (Out.nx c) : Res (Out Int (List Int × Int) (List Int)))) (Res.ok (Out.nx 0))) = .ok (.nx c) := by
      rw [Res.bind_ok]
      by_cases hl : x < (ns.length : Int)
      · rw [decide_eq_true hl, cond_true]
        have hl' : j < ns.length := by omega
        rw [ixR_nat (j := j) (by omega) (List.getElem?_eq_getElem hl'), Res.bind_ok]
        exact ⟨_, rfl⟩
      · rw [decide_eq_false hl, cond_false]
        exact ⟨_, rfl⟩
    unfold law_deck_L3
    show ∃ s', (Res.seq ((Res.ok (decide (x < (ns.length : Int)))).bind fun t => cond t ((ixR ns x).bind fun c => (Res.ok (Out.nx c) : Res (Out Int (List Int × Int) (List Int)))) (Res.ok (Out.nx 0))) _) = _ ∧ _
    rw [hc]
    simp only [seq_nx, Res.bind_ok, lt_eq]
    cases hb : decide ((10 : Int) ^ (30 : Int).toNat ≤ (if c < 0 then -c else c)) with
    | true =>
      obtain ⟨d, z, e, l⟩ := fill_ok law_deck_L1 h1 (κ := List Int × Int) 14 (by decide) (s.1, if c < 0 then -c else c) (by show s.1.length ≤ _; omega)
      rw [show (14 : Int).toNat = 14 from rfl] at l
      simp only [cond_true, e, seq_nx]
      exact ⟨_, rfl, by show d.length = _; rw [l]; show s.1.length + 14 = _; omega⟩
    | false =>
      obtain ⟨d, z, e, l⟩ := fill_ok law_deck_L2 h2 (κ := List Int × Int) 14 (by decide) (s.1, (s.2 * 48271 + 2 * (if c < 0 then -c else c) + (if decide (c < 0) = true then (1 : Int) else 0) + x) % 2147483647) (by show s.1.length ≤ _; omega)
      rw [show (14 : Int).toNat = 14 from rfl] at l
      simp only [cond_false, e, seq_nx]
      exact ⟨_, rfl, by show d.length = _; rw [l]; show s.1.length + 14 = _; omega⟩
  obtain ⟨s', e, p⟩ := forR_step (κ := Unit) (law_deck_L3 ⟨ns⟩ 14) (fun i t => t.1.length = 14 * i) (rngL 0 (40 : Int).toNat) 0 (([] : List Int), 7 + (ns.length : Int)) rfl h3
  show ∃ d, Res.val (law_deck_b ⟨ns⟩ 40 14) = .ok d
  unfold law_deck_b
  simp only [Res.bind_ok, lt_eq, rng1R_ok (n := 40) (by decide)]
  rw [e]
  exact ⟨_, rfl⟩
end Mr

namespace Mr
open PySem PySem.Spec PyProof.Rows L2
open ToD (toD)
theorem forR_foldI {α ν κ ρ : Type} (f : ν → α → Res (Out ν ν ρ)) (g : ν → α → ν) (P : Nat → ν → Prop) : ∀ (xs : List α) (i : Nat) (s : ν), P i s → (∀ j x s, xs[j]? = some x → P (i + j) s → f s x = .ok (.nx (g s x)) ∧ P (i + j + 1) (g s x)) → (forR f xs s : Res (Out ν κ ρ)) = .ok (.nx (xs.foldl g s)) ∧ P (i + xs.length) (xs.foldl g s)
  | [], i, s, h, _ => ⟨rfl, h⟩
  | x :: xs, i, s, h, hs => by
    obtain ⟨e1, p1⟩ := hs 0 x s rfl h
    obtain ⟨e2, p2⟩ := forR_foldI f g P xs (i + 1) (g s x) p1 (fun j y t hj ht => by
      have ht' : P (i + (j + 1)) t := by rw [show i + (j + 1) = i + 1 + j by omega]; exact ht
      obtain ⟨q1, q2⟩ := hs (j + 1) y t hj ht'
      exact ⟨q1, by rw [show i + 1 + j + 1 = i + (j + 1) + 1 by omega]; exact q2⟩)
    refine ⟨?_, ?_⟩
    · rw [forR, e1]; exact e2
    · rw [List.length_cons, show i + (xs.length + 1) = i + 1 + xs.length by omega]; exact p2
theorem mul_in {x y A B : Int} (h1 : 0 < x) (h2 : x ≤ A) (h3 : 0 < y) (h4 : y ≤ B) : 0 < x * y ∧ x * y ≤ A * B := ⟨Int.mul_pos h1 h3, Int.mul_le_mul h2 h4 (by omega) (by omega)⟩
theorem times_ok {p q : Int × Int} (h1 : CMul p.1 q.1) (h2 : CMul p.2 q.2) (h3 : 0 < p.2 * q.2) (h4 : p.2 * q.2 < 2 ^ 64) : times (p, q, ()) = .ok (fr (p.1 * q.1) (p.2 * q.2)) := by
  show Res.val (times_b p q) = _
  unfold times_b
  have e1 : mulR p.1 q.1 = .ok (p.1 * q.1) := iff_pos (.inl h1)
  have e2 : mulR p.2 q.2 = .ok (p.2 * q.2) := iff_pos (.inl h2)
  simp only [e1, e2, Res.bind_ok]
  rw [fraction_ok h3 h4]
  rfl
theorem plus_ok {p q : Int × Int} (h1 : CMul p.1 q.2) (h5 : CMul q.1 p.2) (h2 : CMul p.2 q.2) (h3 : 0 < p.2 * q.2) (h4 : p.2 * q.2 < 2 ^ 64) : plus (p, q, ()) = .ok (fr (p.1 * q.2 + q.1 * p.2) (p.2 * q.2)) := by
  show Res.val (plus_b p q) = _
  unfold plus_b
  have e1 : mulR p.1 q.2 = .ok (p.1 * q.2) := iff_pos (.inl h1)
  have e3 : mulR q.1 p.2 = .ok (q.1 * p.2) := iff_pos (.inl h5)
  have e2 : mulR p.2 q.2 = .ok (p.2 * q.2) := iff_pos (.inl h2)
  simp only [e1, e2, e3, Res.bind_ok]
  rw [fraction_ok h3 h4]
  rfl
/-! moving means -/
theorem means_ok {vs : List Int} {w : Int} (hw : 1 ≤ w) (hw2 : w ≤ 100) (hl : vs.length ≤ 100) : moving_means (vs, w, ()) = .ok ((rngL 0 ((vs.length : Int) - w + 1).toNat).map fun x => fr (cutL vs (some x) (some (x + w))).sum w) := by
  show Res.val (moving_means_b vs w) = _
  unfold moving_means_b
  rw [decide_eq_false (show ¬ w < 1 by omega), rng1R_ok (by omega)]
  simp only [Res.bind_ok, cond_false]
  rw [lcR_ok _ (fun x => fr (cutL vs (some x) (some (x + w))).sum w) _ fun x hx => fraction_ok (by omega) (by omega)]
  rfl
theorem cut_one {vs : List Int} {i : Nat} {v : Int} (h : vs[i]? = some v) : cutL vs (some (i : Int)) (some ((i : Int) + 1)) = [v] := by
  have hl := (List.getElem?_eq_some_iff.mp h).1
  unfold cutL
  rw [show ((i : Int) + 1) = ((i + 1 : Nat) : Int) by omega]
  rw [HT.sIx_nat, HT.sIx_nat, Nat.min_eq_left (by omega), Nat.min_eq_left (by omega), List.drop_eq_getElem_cons hl]
  rw [show i + 1 - i = 1 by omega]
  rw [List.getElem?_eq_getElem hl] at h
  cases h
  rfl
theorem means_one {vs : List Int} : ((rngL 0 ((vs.length : Int) - 1 + 1).toNat).map fun x => fr (cutL vs (some x) (some (x + 1))).sum 1) = vs.map fun v => (v, 1) := by
  apply List.ext_getElem?
  intro i
  rw [List.getElem?_map, List.getElem?_map]
  by_cases h : i < vs.length
  · have h1 : vs[i]? = some vs[i] := List.getElem?_eq_getElem h
    have h2 : (rngL 0 ((vs.length : Int) - 1 + 1).toNat)[i]? = some (i : Int) := by
      have hl : i < (rngL 0 ((vs.length : Int) - 1 + 1).toNat).length := by rw [rngL_len]; omega
      rw [List.getElem?_eq_getElem hl]
      have := rngL_get (List.getElem?_eq_getElem hl)
      rw [this]; congr 1; omega
    rw [h1, h2]
    simp only [Option.map_some]
    rw [cut_one h1, fr_one]
    simp
  · rw [List.getElem?_eq_none (show (rngL 0 ((vs.length : Int) - 1 + 1).toNat).length ≤ i by rw [rngL_len]; omega), List.getElem?_eq_none (show vs.length ≤ i by omega)]
    rfl
/-! smoothed -/
def smStep (a b : Int) (s : List (Int × Int)) (v : Int) : List (Int × Int) := s ++ [match s.getLast? with | none => (v, 1) | some q => fr (a * v * q.2 + (b - a) * q.1) (b * q.2)]
def smP (b : Int) (i : Nat) (s : List (Int × Int)) : Prop := s.length = i ∧ ∀ q, s.getLast? = some q → 0 < q.2 ∧ q.2 ≤ 9 ^ i
theorem smP_step {a b : Int} (hb : 1 ≤ b) (hb9 : b ≤ 9) {i : Nat} {s : List (Int × Int)} (h : smP b i s) (v : Int) : smP b (i + 1) (smStep a b s v) := by
  obtain ⟨h1, h2⟩ := h
  refine ⟨by unfold smStep; simp [h1], fun q hq => ?_⟩
  unfold smStep at hq
  rw [List.getLast?_append] at hq
  simp at hq
  cases hs : s.getLast? with
  | none =>
    rw [hs] at hq
    simp at hq
    subst hq
    exact ⟨(show (0 : Int) < 1 by decide), by have : (0 : Int) < 9 ^ (i + 1) := Int.pow_pos (by decide); show (1 : Int) ≤ _; omega⟩
  | some p =>
    rw [hs] at hq
    simp at hq
    subst hq
    obtain ⟨p1, p2⟩ := h2 p hs
    have hm := mul_in (show 0 < b by omega) hb9 p1 p2
    refine ⟨fr_pos hm.1, Int.le_trans (fr_le2 hm.1) (Int.le_trans hm.2 ?_)⟩
    rw [Int.pow_succ, Int.mul_comm]
    exact Int.le_refl _
theorem pow9 {i : Nat} (h : i ≤ 12) : (9 : Int) ^ i ≤ 282429536481 := by
  have : (9 : Nat) ^ i ≤ 9 ^ 12 := Nat.pow_le_pow_right (by decide) h
  have e : ((9 ^ i : Nat) : Int) = (9 : Int) ^ i := by simp
  rw [← e]
  have e2 : (9 : Nat) ^ 12 = 282429536481 := by decide
  omega
theorem getLast_ne {α : Type} {s : List α} {q : α} (h : s.getLast? = some q) : s.isEmpty = false := by cases s <;> simp at h ⊢
theorem sm_prog {a b : Int} (ha : 0 ≤ a) (hab : a ≤ b) (hb : 1 ≤ b) (hb9 : b ≤ 9) {i : Nat} (hi : i ≤ 12) {s : List (Int × Int)} (h : smP b i s) (v : Int) : smoothed_L1 (fr a b) (fr (b - a) b) s v = .ok (.nx (smStep a b s v)) := by
  obtain ⟨h1, h2⟩ := h
  unfold smoothed_L1
  cases hs : s.getLast? with
  | none =>
    have : s = [] := by simpa using hs
    subst this
    simp only [Res.bind_ok, List.isEmpty_nil, Bool.not_true, cond_false, pushR_lt (show ([] : List (Int × Int)).length < 1000000 by decide), seq_nx]
    rfl
  | some q =>
    obtain ⟨q1, q2⟩ := h2 q hs
    have hp9 := pow9 hi
    have hb0 : 0 < b := by omega
    have p1 := fr_pos (a := a) hb0
    have p2 := fr_le2 (a := a) hb0
    obtain ⟨p3, p4⟩ := fr_bound (k := 1) hb0 (show -(1 * b) ≤ a by omega) (by omega)
    have r1 := fr_pos (a := b - a) hb0
    have r2 := fr_le2 (a := b - a) hb0
    obtain ⟨r3, r4⟩ := fr_bound (k := 1) hb0 (show -(1 * b) ≤ b - a by omega) (by omega)
    have cp := fr_cross (a := a) (b := b)
    have cr := fr_cross (a := b - a) (b := b)
    generalize fr a b = P at *
    generalize fr (b - a) b = R at *
    have m1 := mul_in p1 (Int.le_trans p2 hb9) (show (0 : Int) < 1 by decide) (Int.le_refl 1)
    have m2 := mul_in r1 (Int.le_trans r2 hb9) q1 (Int.le_trans q2 hp9)
    have t1 : times (P, (v, 1), ()) = .ok (fr (P.1 * v) (P.2 * 1)) := times_ok (.inl (by omega)) (.inl (by omega)) m1.1 (by omega)
    have t2 : times (R, q, ()) = .ok (fr (R.1 * q.1) (R.2 * q.2)) := times_ok (.inl (by omega)) (.inl (by omega)) m2.1 (by omega)
    have a1 := fr_pos (a := P.1 * v) m1.1
    have a2 := fr_le2 (a := P.1 * v) m1.1
    have b1 := fr_pos (a := R.1 * q.1) m2.1
    have b2 := fr_le2 (a := R.1 * q.1) m2.1
    have ca := fr_cross (a := P.1 * v) (b := P.2 * 1)
    have cb := fr_cross (a := R.1 * q.1) (b := R.2 * q.2)
    simp only [Res.bind_ok, getLast_ne hs, Bool.not_false, cond_true, t1, ixR_last hs, t2]
    generalize fr (P.1 * v) (P.2 * 1) = A at *
    generalize fr (R.1 * q.1) (R.2 * q.2) = B at *
    have m3 := mul_in a1 (show A.2 ≤ 9 by omega) b1 (Int.le_trans b2 m2.2)
    have t3 : plus (A, B, ()) = .ok (fr (A.1 * B.2 + B.1 * A.2) (A.2 * B.2)) := plus_ok (.inr (by omega)) (.inr (by omega)) (.inl (by omega)) m3.1 (by omega)
    simp only [t3, Res.bind_ok, pushR_lt (show s.length < 1000000 by omega), seq_nx]
    have e : fr (A.1 * B.2 + B.1 * A.2) (A.2 * B.2) = fr (a * v * q.2 + (b - a) * q.1) (b * q.2) := by
      refine fr_eq m3.1 (Int.mul_pos hb0 q1) ?_
      have k1 : A.1 * b = a * v * A.2 := by
        have : (A.1 * b) * P.2 = (a * v * A.2) * P.2 := by grind
        exact Int.eq_of_mul_eq_mul_right (by omega) this
      have k2 : B.1 * (b * q.2) = (b - a) * q.1 * B.2 := by
        have : (B.1 * (b * q.2)) * R.2 = ((b - a) * q.1 * B.2) * R.2 := by grind
        exact Int.eq_of_mul_eq_mul_right (by omega) this
      calc (A.1 * B.2 + B.1 * A.2) * (b * q.2) = (A.1 * b) * (B.2 * q.2) + (B.1 * (b * q.2)) * A.2 := by grind
        _ = (a * v * A.2) * (B.2 * q.2) + ((b - a) * q.1 * B.2) * A.2 := by rw [k1, k2]
        _ = (a * v * q.2 + (b - a) * q.1) * (A.2 * B.2) := by grind
    unfold smStep
    rw [hs, e]
theorem smoothed_ok {vs : List Int} {a b : Int} (ha : 0 ≤ a) (hab : a ≤ b) (hb : 1 ≤ b) (hb9 : b ≤ 9) (hl : vs.length ≤ 12) : smoothed (vs, ⟨[a, b]⟩, ()) = .ok (vs.foldl (smStep a b) []) := by
  show Res.val (smoothed_b vs ⟨[a, b]⟩) = _
  unfold smoothed_b
  have i0 : ixR [a, b] 0 = .ok a := rfl
  have i1 : ixR [a, b] 1 = .ok b := rfl
  have l2 : decide ((([a, b] : List Int).length : Int) = 2) = true := rfl
  have d1 : decide (b < 1) = false := decide_eq_false (by omega)
  have d2 : decide (0 ≤ a) = true := decide_eq_true ha
  have d3 : decide (a ≤ b) = true := decide_eq_true hab
  simp only [i0, i1, l2, d1, d2, d3, Res.bind_ok, cond_true, cond_false, Bool.not_true, fraction_ok (show 0 < b by omega) (show b < 2 ^ 64 by omega)]
  obtain ⟨e, _⟩ := forR_foldI (κ := Unit) (smoothed_L1 (fr a b) (fr (b - a) b)) (smStep a b) (smP b) vs 0 [] ⟨rfl, fun q h => by simp at h⟩ (fun j x s hj hs => by
    have hj' := (List.getElem?_eq_some_iff.mp hj).1
    exact ⟨sm_prog ha hab hb hb9 (by omega) hs x, smP_step hb hb9 hs x⟩)
  rw [e]
  rfl
theorem wanted_ok {vs : List Int} {a b : Int} (ha : 0 ≤ a) (hab : a ≤ b) (hb : 1 ≤ b) (hb9 : b ≤ 9) (hl : vs.length ≤ 12) (da db : List Int) {κ : Type} : (forR (lawM_L1 (a, da) (b, db)) vs [] : Res (Out (List (Int × Int)) κ Bool)) = .ok (.nx (vs.foldl (smStep a b) [])) := by
  refine (forR_foldI (lawM_L1 (a, da) (b, db)) (smStep a b) (smP b) vs 0 [] ⟨rfl, fun q h => by simp at h⟩ (fun j x s hj hs => ?_)).1
  have hj' := (List.getElem?_eq_some_iff.mp hj).1
  refine ⟨?_, smP_step hb hb9 hs x⟩
  obtain ⟨h1, h2⟩ := hs
  unfold lawM_L1
  cases hq : s.getLast? with
  | none =>
    have : s = [] := by simpa using hq
    subst this
    rfl
  | some q =>
    obtain ⟨q1, q2⟩ := h2 q hq
    have hp9 := pow9 (show 0 + j ≤ 12 by omega)
    have hne : s ≠ [] := by intro e; subst e; cases hq
    have hl0 : decide ((s.length : Int) = 0) = false := decide_eq_false (by have := List.length_pos_iff.mpr hne; omega)
    have m2 := mul_in (show 0 < b by omega) hb9 q1 (Int.le_trans q2 hp9)
    simp only [Res.bind_ok, hl0, cond_false, ixR_last hq, mulR_l (i := a) (j := x) (by omega) (by omega), mulR_r (i := a * x) (j := q.2) (by omega) (by omega), mulR_l (i := b - a) (j := q.1) (by omega) (by omega), mulR_l (i := b) (j := q.2) (by omega) (by omega), law_fraction_ok m2.1 (show b * q.2 < 2 ^ 64 by omega), pushR_lt (show s.length < 1000000 by omega), seq_nx]
    unfold smStep
    rw [hq]
end Mr

namespace Mr
open PySem PySem.Spec PyProof.Rows L2
open ToD (toD)
/-! season means -/
def rowsAt (vs : List Int) (p x : Int) : List Int := ((List.range vs.length).filter fun i : Nat => decide (((i : Int) - x) % p = 0)).map fun i => vs.getD i 0
def idxC (n p x : Nat) : Bool := decide (sliceRange (sliceBounds (some (x : Int)) none (some (p : Int)) n).1 (sliceBounds (some (x : Int)) none (some (p : Int)) n).2.1 (sliceBounds (some (x : Int)) none (some (p : Int)) n).2.2 = (List.range n).filter fun i : Nat => decide (((i : Int) - (x : Int)) % (p : Int) = 0))
theorem idx_all : ∀ n ∈ List.range 13, ∀ p ∈ List.range 8, ∀ x ∈ List.range 8, x < p → idxC n p x = true := by decide +kernel
theorem pick_rows {vs : List Int} {p x : Int} (hl : vs.length ≤ 12) (hp : 1 ≤ p) (hp7 : p ≤ 7) (hx : 0 ≤ x) (hxp : x < p) : pickL vs (some x) none (some p) = rowsAt vs p x := by
  have h := idx_all vs.length (List.mem_range.mpr (by omega)) p.toNat (List.mem_range.mpr (by omega)) x.toNat (List.mem_range.mpr (by omega)) (by omega)
  unfold idxC at h
  have h' := of_decide_eq_true h
  rw [show ((p.toNat : Nat) : Int) = p by omega, show ((x.toNat : Nat) : Int) = x by omega] at h'
  unfold pickL rowsAt
  rw [h']
  have hf : ∀ is : List Nat, (∀ i ∈ is, i < vs.length) → is.filterMap (vs[·]?) = is.map fun i => vs.getD i 0 := by
    intro is
    induction is with
    | nil => intro _; rfl
    | cons i is ih =>
      intro hi
      have h0 : i < vs.length := hi i List.mem_cons_self
      rw [List.filterMap_cons, List.getElem?_eq_getElem h0, List.map_cons, ih fun j hj => hi j (List.mem_cons_of_mem _ hj)]
      simp [List.getD_eq_getElem?_getD, h0]
  exact hf _ fun i hi => List.mem_range.mp (List.mem_filter.mp hi).1
def seaStep (vs : List Int) (p : Int) (s : List (Option (Int × Int))) (x : Int) : List (Option (Int × Int)) := s ++ [if (rowsAt vs p x).isEmpty then none else some (fr (rowsAt vs p x).sum ((rowsAt vs p x).length : Int))]
theorem rows_len {vs : List Int} {p x : Int} : (rowsAt vs p x).length ≤ vs.length := by
  unfold rowsAt
  rw [List.length_map]
  exact Nat.le_trans (List.length_filter_le _ _) (by simp)
theorem sea_prog {vs : List Int} {p : Int} (hl : vs.length ≤ 12) (hp : 1 ≤ p) (hp7 : p ≤ 7) {x : Int} (hx : 0 ≤ x) (hxp : x < p) {s : List (Option (Int × Int))} (hs : s.length < 100) : season_means_L1 p vs s x = .ok (.nx (seaStep vs p s x)) := by
  have hr := rows_len (vs := vs) (p := p) (x := x)
  unfold season_means_L1
  rw [pick_rows hl hp hp7 hx hxp, iff_pos ⟨fun h => by injection h; omega, by omega⟩]
  simp only [Res.bind_ok]
  unfold seaStep
  cases h : (rowsAt vs p x).isEmpty with
  | true =>
    simp only [Bool.not_true, cond_false, Res.bind_ok, pushR_lt (show s.length < 1000000 by omega)]
    rfl
  | false =>
    have hpos : 0 < (rowsAt vs p x).length := by cases hq : rowsAt vs p x with | nil => rw [hq] at h; cases h | cons _ _ => simp
    simp only [Bool.not_false, cond_true, Res.bind_ok, fraction_ok (a := (rowsAt vs p x).sum) (b := ((rowsAt vs p x).length : Int)) (by omega) (by omega), pushR_lt (show s.length < 1000000 by omega)]
    rfl
def seaM (vs : List Int) (p : Int) : List (Option (Int × Int)) := (rngL 0 p.toNat).foldl (seaStep vs p) []
theorem sea_ok {vs : List Int} {p : Int} (hl : vs.length ≤ 12) (hp : 1 ≤ p) (hp7 : p ≤ 7) : season_means (vs, p, ()) = .ok (seaM vs p) := by
  show Res.val (season_means_b vs p) = _
  unfold season_means_b
  rw [decide_eq_false (show ¬ p < 1 by omega), rng1R_ok (by omega)]
  simp only [Res.bind_ok, cond_false]
  obtain ⟨e, _⟩ := forR_foldI (κ := Unit) (season_means_L1 p vs) (seaStep vs p) (fun i s => s.length = i) (rngL 0 p.toNat) 0 [] rfl (fun j x s hj hs => by
    have hj' := (List.getElem?_eq_some_iff.mp hj).1
    rw [rngL_len] at hj'
    have ex := rngL_get hj
    exact ⟨sea_prog hl hp hp7 (by omega) (by omega) (by omega), by unfold seaStep; simp [hs]⟩)
  rw [e]
  rfl
theorem sea_law {vs da : List Int} {p : Int} (db : List Int) (hl : vs.length ≤ 12) (hp : 1 ≤ p) (hp7 : p ≤ 7) {κ : Type} : (forR (lawM_L2 (vs, da) (p, db)) (rngL 0 p.toNat) [] : Res (Out (List (Option (Int × Int))) κ Bool)) = .ok (.nx (seaM vs p)) ∧ (seaM vs p).length = p.toNat := by
  have h := forR_foldI (κ := κ) (lawM_L2 (vs, da) (p, db)) (seaStep vs p) (fun i s => s.length = i) (rngL 0 p.toNat) 0 [] rfl (fun j x s hj hs => ?_)
  · refine ⟨h.1, ?_⟩
    have := h.2
    rw [rngL_len, Nat.zero_add] at this
    exact this
  have hj' := (List.getElem?_eq_some_iff.mp hj).1
  rw [rngL_len] at hj'
  refine ⟨?_, by unfold seaStep; simp [hs]⟩
  have hr := rows_len (vs := vs) (p := p) (x := x)
  unfold lawM_L2
  have e1 : rng1R (vs.length : Int) = .ok (rngL 0 vs.length) := by rw [rng1R_ok (by omega)]; rfl
  have e2 : lcR (fun z => (modR (z - x) p).bind fun t => (Res.ok (0 : Int)).bind fun u => Res.ok (decide (t = u))) (fun z => ixR vs z) (rngL 0 vs.length) = .ok (rowsAt vs p x) := by
    rw [lcR_okf _ (fun z => decide ((z - x) % p = 0)) _ (fun z => vs.getD z.toNat 0) _ (fun z hz => by rw [modR_pos (by omega)]; rfl) fun z hz _ => by
      obtain ⟨z1, z2⟩ := rngL_mem hz
      have hz' : z.toNat < vs.length := by omega
      rw [ixR_nat (j := z.toNat) (by omega) (List.getElem?_eq_getElem hz')]
      simp [List.getD_eq_getElem?_getD, hz']]
    unfold rngL rowsAt
    rw [List.filter_map, List.map_map]
    have ef : ((fun z : Int => decide ((z - x) % p = 0)) ∘ fun k : Nat => (0 : Int) + (k : Int)) = fun i : Nat => decide (((i : Int) - x) % p = 0) := by funext k; simp
    have eg : ((fun z : Int => vs.getD z.toNat 0) ∘ fun k : Nat => (0 : Int) + (k : Int)) = fun i : Nat => vs.getD i 0 := by funext k; simp
    rw [ef, eg]
  simp only [e1, Res.bind_ok] at e2 ⊢
  rw [e2]
  simp only [hard_ok, Res.bind_ok]
  unfold seaStep
  cases h : (rowsAt vs p x).isEmpty with
  | true =>
    have hq : rowsAt vs p x = [] := by simpa using h
    rw [hq]
    simp only [List.length_nil, show decide ((0 : Int) < ((0 : Nat) : Int)) = false from rfl, cond_false, Res.bind_ok, pushR_lt (show s.length < 1000000 by omega)]
    rfl
  | false =>
    have hpos : 0 < (rowsAt vs p x).length := by cases hq : rowsAt vs p x with | nil => rw [hq] at h; cases h | cons _ _ => simp
    rw [decide_eq_true (show (0 : Int) < ((rowsAt vs p x).length : Int) by omega)]
    simp only [cond_true, Res.bind_ok, law_fraction_ok (a := (rowsAt vs p x).sum) (b := ((rowsAt vs p x).length : Int)) (by omega) (by omega), pushR_lt (show s.length < 1000000 by omega)]
    rfl
theorem in_none {M : List (Option (Int × Int))} (h : M.length ≤ 1000) : ∃ B, inR PyData.none (toD M) = .ok B := by
  refine ⟨_, iff_pos ⟨by decide +kernel, ?_⟩⟩
  have h1 : okD (toD M) = true := okD_list (by omega) fun x _ => okD_opt fun a _ => okD_pair okD_int okD_int
  have h2 : (toD M).depth ≤ 2 := dep_list fun x _ => dep_opt fun a _ => Nat.le_of_eq dep_pairI
  show SeqAt.shaped (toD M) = true
  exact shaped_of (lay_ok 3 _ (by omega) h1) (by omega)
theorem fc_ok {vs : List Int} {p c : Int} {M : List (Option (Int × Int))} (hM : season_means (vs, p, ()) = .ok M) (hl : M.length = p.toNat) (hp : 1 ≤ p) (hv : vs.length ≤ 12) : (inR PyData.none (toD M) = .ok true → season_forecast (vs, p, c, ()) = .err "InvalidTable" (Scal.enc ("values" : Str))) ∧
    (inR PyData.none (toD M) = .ok false → (c < 0 → season_forecast (vs, p, c, ()) = .err "InvalidTable" (Scal.enc ("count" : Str))) ∧ (0 ≤ c → c ≤ 100 → season_forecast (vs, p, c, ()) = .ok ((rngL 0 c.toNat).map fun x => M.getD (((vs.length : Int) + x) % p).toNat none))) := by
  refine ⟨fun h => ?_, fun h => ⟨fun hc => ?_, fun hc hc2 => ?_⟩⟩
  · show Res.val (season_forecast_b vs p c) = _
    unfold season_forecast_b
    rw [hM, Res.bind_ok, h, Res.bind_ok]
    rfl
  · show Res.val (season_forecast_b vs p c) = _
    unfold season_forecast_b
    rw [hM, Res.bind_ok, h, Res.bind_ok, decide_eq_true hc]
    rfl
  · show Res.val (season_forecast_b vs p c) = _
    unfold season_forecast_b
    rw [hM, Res.bind_ok, h, Res.bind_ok, decide_eq_false (show ¬ c < 0 by omega), rng1R_ok (by omega)]
    simp only [Res.bind_ok, cond_false]
    rw [lcR_ok _ (fun x => M.getD (((vs.length : Int) + x) % p).toNat none) _ fun x hx => ?_]
    · rfl
    · have hm := Int.emod_nonneg ((vs.length : Int) + x) (show p ≠ 0 by omega)
      have hm2 := Int.emod_lt_of_pos ((vs.length : Int) + x) (show 0 < p by omega)
      have hj : (((vs.length : Int) + x) % p).toNat < M.length := by omega
      rw [modR_pos (by omega), Res.bind_ok, ixR_nat (j := (((vs.length : Int) + x) % p).toNat) (by omega) (List.getElem?_eq_getElem hj)]
      simp [List.getD_eq_getElem?_getD, hj]
/-! mean gap -/
def ab (z : Int) : Int := if z < 0 then -z else z
def mgStep (T : Int × Int) (z : Int × (Int × Int)) : Int × Int := fr (T.1 * z.2.2 + ab (z.1 * z.2.2 - z.2.1) * T.2) (T.2 * z.2.2)
def mgP (i : Nat) (T : Int × Int) : Prop := 0 < T.2 ∧ T.2 ≤ 4 ^ i
theorem pow4 {i : Nat} (h : i ≤ 12) : (4 : Int) ^ i ≤ 16777216 := by
  have : (4 : Nat) ^ i ≤ 4 ^ 12 := Nat.pow_le_pow_right (by decide) h
  have e : ((4 ^ i : Nat) : Int) = (4 : Int) ^ i := by simp
  rw [← e]
  have e2 : (4 : Nat) ^ 12 = 16777216 := by decide
  omega
theorem mgP_step {i : Nat} {T : Int × Int} {z : Int × (Int × Int)} (h : mgP i T) (h1 : 0 < z.2.2) (h2 : z.2.2 ≤ 4) : mgP (i + 1) (mgStep T z) := by
  have hm := mul_in h.1 h.2 h1 h2
  refine ⟨fr_pos hm.1, Int.le_trans (fr_le2 hm.1) (Int.le_trans hm.2 ?_)⟩
  rw [Int.pow_succ]
  exact Int.le_refl _
theorem mg_prog {i : Nat} (hi : i ≤ 12) {T : Int × Int} {z : Int × (Int × Int)} (h : mgP i T) (h1 : 0 < z.2.2) (h2 : z.2.2 ≤ 4) : mean_gap_L1 T z = .ok (.nx (mgStep T z)) := by
  have h4 := pow4 hi
  obtain ⟨t1, t2⟩ := h
  obtain ⟨v, o, t⟩ := z
  unfold mean_gap_L1
  simp only [Res.bind_ok, mulR_r (i := v) (j := t) (by show -(2 ^ 64) < t; have : 0 < t := h1; omega) (by show t < 2 ^ 64; have : t ≤ 4 := h2; omega)]
  have ht : 0 < t := h1
  have ht4 : t ≤ 4 := h2
  rw [fraction_ok ht (by omega)]
  simp only [Res.bind_ok]
  have a1 := fr_pos (a := if v * t - o < 0 then -(v * t - o) else v * t - o) ht
  have a2 := fr_le2 (a := if v * t - o < 0 then -(v * t - o) else v * t - o) ht
  have ca := fr_cross (a := if v * t - o < 0 then -(v * t - o) else v * t - o) (b := t)
  unfold mgStep
  show ((plus (T, fr (if v * t - o < 0 then -(v * t - o) else v * t - o) t, ())).bind fun x => Res.ok (Out.nx x)) = .ok (.nx (fr (T.1 * t + (if v * t - o < 0 then -(v * t - o) else v * t - o) * T.2) (T.2 * t)))
  generalize (if v * t - o < 0 then -(v * t - o) else v * t - o) = d at *
  generalize fr d t = A at *
  have m3 := mul_in t1 (Int.le_trans t2 h4) a1 (show A.2 ≤ 4 by omega)
  rw [plus_ok (.inr (by omega)) (.inr (by omega)) (.inr (by omega)) m3.1 (by omega), Res.bind_ok]
  congr 2
  refine fr_eq m3.1 (Int.mul_pos t1 ht) ?_
  grind
theorem gap_ok {vs : List Int} {told : List (Int × Int)} (h0 : vs ≠ []) (hl : vs.length ≤ 12) (hl2 : told.length = vs.length) (ht : ∀ q ∈ told, 0 < q.2 ∧ q.2 ≤ 4) : mean_gap (vs, told, ()) = .ok (fr ((List.zip vs told).foldl mgStep (0, 1)).1 (((List.zip vs told).foldl mgStep (0, 1)).2 * (vs.length : Int))) ∧ mgP vs.length ((List.zip vs told).foldl mgStep (0, 1)) := by
  have hlen : (List.zip vs told).length = vs.length := by rw [List.length_zip, hl2]; simp
  obtain ⟨e, p⟩ := forR_foldI (κ := Unit) mean_gap_L1 mgStep mgP (List.zip vs told) 0 (0, 1) ⟨(show (0 : Int) < 1 by decide), (show (1 : Int) ≤ 4 ^ 0 by decide)⟩ (fun j z T hj hT => by
    have hj' := (List.getElem?_eq_some_iff.mp hj).1
    have hz := (getElem?_zip' hj).2
    obtain ⟨k1, k2⟩ := ht z.2 (List.mem_of_getElem? hz)
    exact ⟨mg_prog (by omega) hT k1 k2, mgP_step hT k1 k2⟩)
  rw [hlen, Nat.zero_add] at p
  refine ⟨?_, p⟩
  show Res.val (mean_gap_b vs told) = _
  unfold mean_gap_b
  have hemp : vs.isEmpty = false := by cases vs with | nil => exact absurd rfl h0 | cons _ _ => rfl
  have hd : decide ((vs.length : Int) = (told.length : Int)) = true := decide_eq_true (by omega)
  have hpos : 0 < vs.length := List.length_pos_iff.mpr h0
  simp only [hemp, hd, Bool.not_false, Bool.not_true, Bool.or_self, Res.bind_ok, cond_false, lt_eq]
  rw [e, seq_nx]
  obtain ⟨t1, t2⟩ := p
  have h4 := pow4 (show vs.length ≤ 12 from hl)
  generalize (List.zip vs told).foldl mgStep (0, 1) = T at *
  have m3 := mul_in t1 (Int.le_trans t2 h4) (show (0 : Int) < (vs.length : Int) by omega) (show (vs.length : Int) ≤ 12 by omega)
  rw [times_ok (.inr ⟨(show -(2 ^ 64) < (1 : Int) by decide), (show (1 : Int) < 2 ^ 64 by decide)⟩) (.inr (by constructor <;> (show _ < _) <;> omega)) m3.1 (by show T.2 * (vs.length : Int) < 2 ^ 64; omega), Int.mul_one]
  rfl
theorem gap_law {vs : List Int} {told : List (Int × Int)} (da : List Int) (hl : vs.length ≤ 12) (hl2 : told.length = vs.length) (ht : ∀ q ∈ told, 0 < q.2 ∧ q.2 ≤ 4) {κ : Type} : (forR (lawM_L3 told (vs, da)) (rngL 0 vs.length) (0, 1) : Res (Out (Int × Int) κ Bool)) = .ok (.nx ((List.zip vs told).foldl mgStep (0, 1))) := by
  have hlen : (List.zip vs told).length = vs.length := by rw [List.length_zip, hl2]; simp
  obtain ⟨s', e, p1, p2⟩ := forR_step (κ := κ) (lawM_L3 told (vs, da)) (fun i T => T = ((List.zip vs told).take i).foldl mgStep (0, 1) ∧ mgP i T) (rngL 0 vs.length) 0 (0, 1) ⟨rfl, (show (0 : Int) < 1 by decide), (show (1 : Int) ≤ 4 ^ 0 by decide)⟩ (fun j x T hj hT => by
    have hj' := (List.getElem?_eq_some_iff.mp hj).1
    rw [rngL_len] at hj'
    have ex := rngL_get hj
    obtain ⟨hT, hP⟩ := hT
    have hv : vs[j]? = some vs[j] := List.getElem?_eq_getElem hj'
    have hj2 : j < told.length := by omega
    have hq : told[j]? = some told[j] := List.getElem?_eq_getElem hj2
    have hz : (List.zip vs told)[j]? = some (vs[j], told[j]) := by rw [List.getElem?_zip_eq_some]; exact ⟨hv, hq⟩
    obtain ⟨k1, k2⟩ := ht _ (List.mem_of_getElem? hq)
    refine ⟨mgStep T (vs[j], told[j]), ?_, ?_, ?_⟩
    · unfold lawM_L3
      obtain ⟨t1, t2⟩ := hP
      have h4 := pow4 (show 0 + j ≤ 12 by omega)
      have m3 := mul_in t1 (Int.le_trans t2 h4) k1 k2
      simp only [ixR_nat (xs := told) (i := x) (j := j) (by omega) hq, ixR_nat (xs := vs) (i := x) (j := j) (by omega) hv, Res.bind_ok, mulR_r (j := (told[j]).2) (show -(2 ^ 64) < (told[j]).2 by omega) (show (told[j]).2 < 2 ^ 64 by omega), mulR_r (j := T.2) (show -(2 ^ 64) < T.2 by omega) (show T.2 < 2 ^ 64 by omega)]
      rw [law_fraction_ok m3.1 (by omega)]
      rfl
    · rw [Nat.zero_add] at hT ⊢
      rw [List.take_add_one, hz, List.foldl_append, ← hT]
      rfl
    · exact mgP_step hP k1 k2)
  rw [rngL_len, Nat.zero_add] at p1
  rw [e, p1, List.take_of_length_le (by omega)]
end Mr

namespace Mr
open PySem PySem.Spec PyProof.Rows L2
open ToD (toD)
theorem hi_t (z : Str) : why_i_h "InvalidTable" (Scal.enc z) = .ok (.rt (some z)) := by unfold why_i_h; rw [if_pos rfl]; rfl
theorem hv_t (z : Str) : why_v_h "InvalidTable" (Scal.enc z) = .ok (.rt (some z)) := by unfold why_v_h; rw [if_pos rfl]; rfl
theorem hl_t (z : Str) : why_l_h "InvalidTable" (Scal.enc z) = .ok (.rt (some z)) := by unfold why_l_h; rw [if_pos rfl]; rfl
theorem why0 {vs : List Int} {p c : Int} {z : Str} (h : moving_means (vs, p, ()) = .err "InvalidTable" (Scal.enc z)) : why_i (0, vs, p, c, ()) = .ok (some z) := by
  show Res.val (why_i_b 0 vs p c) = _
  unfold why_i_b
  simp only [Res.bind_ok, show decide ((0 : Int) = 0) = true from rfl, cond_true, h, Res.bind_err]
  show Res.val (Res.seq (Res.up2 (why_i_h "InvalidTable" (Scal.enc z))) _) = _
  rw [hi_t]; rfl
theorem why2 {vs : List Int} {p c : Int} {z : Str} (h : season_means (vs, p, ()) = .err "InvalidTable" (Scal.enc z)) : why_i (2, vs, p, c, ()) = .ok (some z) := by
  show Res.val (why_i_b 2 vs p c) = _
  unfold why_i_b
  simp only [Res.bind_ok, show decide ((2 : Int) = 0) = false from rfl, show decide ((2 : Int) = 1) = false from rfl, show decide ((2 : Int) = 2) = true from rfl, cond_true, cond_false, h, Res.bind_err]
  show Res.val (Res.seq (Res.up2 (why_i_h "InvalidTable" (Scal.enc z))) _) = _
  rw [hi_t]; rfl
theorem why3 {vs : List Int} {p c : Int} {z : Str} (h : season_forecast (vs, p, c, ()) = .err "InvalidTable" (Scal.enc z)) : why_i (3, vs, p, c, ()) = .ok (some z) := by
  show Res.val (why_i_b 3 vs p c) = _
  unfold why_i_b
  simp only [Res.bind_ok, show decide ((3 : Int) = 0) = false from rfl, show decide ((3 : Int) = 1) = false from rfl, show decide ((3 : Int) = 2) = false from rfl, show decide ((3 : Int) = 3) = true from rfl, cond_true, cond_false, h, Res.bind_err]
  show Res.val (Res.seq (Res.up2 (why_i_h "InvalidTable" (Scal.enc z))) _) = _
  rw [hi_t]; rfl
theorem why1 {vs : List Int} {q : VT Int} {c : Int} {z : Str} (h : smoothed (vs, q, ()) = .err "InvalidTable" (Scal.enc z)) : why_v (1, vs, q, c, ()) = .ok (some z) := by
  show Res.val (why_v_b 1 vs q c) = _
  unfold why_v_b
  simp only [Res.bind_ok, show decide ((1 : Int) = 0) = false from rfl, show decide ((1 : Int) = 1) = true from rfl, cond_true, cond_false, h, Res.bind_err]
  show Res.val (Res.seq (Res.up2 (why_v_h "InvalidTable" (Scal.enc z))) _) = _
  rw [hv_t]; rfl
theorem why4 {vs : List Int} {q : List (Int × Int)} {c : Int} {z : Str} (h : mean_gap (vs, q, ()) = .err "InvalidTable" (Scal.enc z)) : why_l (4, vs, q, c, ()) = .ok (some z) := by
  show Res.val (why_l_b 4 vs q c) = _
  unfold why_l_b
  simp only [Res.bind_ok, show decide ((4 : Int) = 0) = false from rfl, show decide ((4 : Int) = 1) = false from rfl, show decide ((4 : Int) = 2) = false from rfl, show decide ((4 : Int) = 3) = false from rfl, cond_false, h, Res.bind_err]
  show Res.val (Res.seq (Res.up2 (why_l_h "InvalidTable" (Scal.enc z))) _) = _
  rw [hl_t]; rfl
theorem gap_bad {vs : List Int} {q : List (Int × Int)} (h : vs.length ≠ q.length ∨ vs = []) : mean_gap (vs, q, ()) = .err "InvalidTable" (Scal.enc ("values" : Str)) := by
  show Res.val (mean_gap_b vs q) = _
  unfold mean_gap_b
  have e : ((!(!vs.isEmpty)) || (!decide ((vs.length : Int) = (q.length : Int)))) = true := by
    rcases h with h | h
    · rw [decide_eq_false (by omega)]; simp
    · subst h; rfl
  rw [e, Res.bind_ok, cond_true]
  rfl
theorem bad_ok (vs : List Int) (r : Int) (h0 : 0 ≤ r) (h6 : r < 6) : ∃ bd, ixR ([⟨[1]⟩, ⟨[1, 0]⟩, ⟨[-1, 2]⟩, ⟨[3, 2]⟩, ⟨[1, 2, 3]⟩, ⟨[0, -1]⟩] : List (VT Int)) r = .ok bd ∧ why_v (1, vs, bd, 0, ()) = .ok (some "weight") := by
  have hr : r = 0 ∨ r = 1 ∨ r = 2 ∨ r = 3 ∨ r = 4 ∨ r = 5 := by omega
  rcases hr with rfl | rfl | rfl | rfl | rfl | rfl
  · exact ⟨⟨[1]⟩, rfl, why1 rfl⟩
  · exact ⟨⟨[1, 0]⟩, rfl, why1 rfl⟩
  · exact ⟨⟨[-1, 2]⟩, rfl, why1 rfl⟩
  · exact ⟨⟨[3, 2]⟩, rfl, why1 rfl⟩
  · exact ⟨⟨[1, 2, 3]⟩, rfl, why1 rfl⟩
  · exact ⟨⟨[0, -1]⟩, rfl, why1 rfl⟩
theorem okF {L : List (Int × Int)} (h : L.length ≤ 1000) : okD (toD L) = true ∧ (toD L).depth ≤ 2 := ⟨okD_list (by omega) fun x _ => okD_pair okD_int okD_int, dep_list fun x _ => Nat.le_of_eq dep_pairI⟩
theorem okO {L : List (Option (Int × Int))} (h : L.length ≤ 1000) : okD (toD L) = true ∧ (toD L).depth ≤ 2 := ⟨okD_list (by omega) fun x _ => okD_opt fun a _ => okD_pair okD_int okD_int, dep_list fun x _ => dep_opt fun a _ => Nat.le_of_eq dep_pairI⟩
theorem okI {L : List Int} (h : L.length ≤ 1000) : okD (toD L) = true ∧ (toD L).depth ≤ 1 := ⟨okD_list (by omega) fun x _ => okD_int, dep_list fun x _ => Nat.le_of_eq dep_int⟩
theorem plainF {d : PyData} (h : okD d = true ∧ d.depth ≤ 2) : ∃ p, plain (d, ()) = .ok p ∧ neR p p = .ok false := by
  obtain ⟨p, e, n, _⟩ := plain_same (n := 8) h.1 (by omega) (by omega)
  exact ⟨p, e, n⟩
/-! weight 1 -/
theorem sm_one {b : Int} (hb : 1 ≤ b) : ∀ (vs : List Int) (s : List (Int × Int)), (∀ q, s.getLast? = some q → 0 < q.2) → vs.foldl (smStep b b) s = s ++ vs.map fun v => (v, 1)
  | [], s, _ => by simp
  | v :: vs, s, h => by
    have e : smStep b b s v = s ++ [(v, 1)] := by
      unfold smStep
      cases hq : s.getLast? with
      | none => rfl
      | some q =>
        have hq2 := h q hq
        show s ++ [fr (b * v * q.2 + (b - b) * q.1) (b * q.2)] = _
        rw [fr_is (c := v) (d := 1) (Int.mul_pos (by omega) hq2) (by decide) (by simp [Nat.Coprime]) (by grind)]
    rw [List.foldl_cons, e, sm_one hb vs _ (fun q hq => by
      rw [List.getLast?_append] at hq
      simp at hq
      subst hq
      show (0 : Int) < 1
      decide)]
    simp
theorem sm_five {a b : Int} (hb : 1 ≤ b) : ([5, 5, 5, 5] : List Int).foldl (smStep a b) [] = [(5, 1), (5, 1), (5, 1), (5, 1)] := by
  have e : fr (a * 5 * 1 + (b - a) * 5) (b * 1) = (5, 1) := fr_is (by omega) (by decide) (by decide) (by omega)
  simp only [List.foldl_cons, List.foldl_nil, smStep, List.getLast?_nil, List.nil_append, List.getLast?_singleton, e, List.cons_append, List.getLast?_cons_cons]
/-! values as forecasts -/
theorem mg_zero : ∀ (vs : List Int), (List.zip vs (vs.map fun v => (v, (1 : Int)))).foldl mgStep (0, 1) = (0, 1)
  | [] => rfl
  | v :: vs => by
    rw [List.map_cons, List.zip_cons_cons, List.foldl_cons]
    have e : mgStep (0, 1) (v, (v, 1)) = (0, 1) := by
      show fr (0 * 1 + ab (v * 1 - v) * 1) (1 * 1) = _
      rw [show ab (v * 1 - v) = 0 by rw [Int.mul_one, Int.sub_self]; rfl]
      rfl
    rw [e]
    exact mg_zero vs
theorem law_true (ns : List Int) (h : ns.length ≤ 63) : lawM (⟨ns⟩, ()) = .ok true := by
  obtain ⟨d0, hd⟩ := deck_ok ns h
  obtain ⟨n0, d1, e1, n1, n2⟩ := take_ok d0 13 (by decide)
  obtain ⟨vs, d2, e2, l2, q2⟩ := lcS_ok (fun (m : List Int) (x : Int) => (Res.bind (law_take m (60, ())) fun q => Res.ok (q.1 - 10, q.2))) (fun _ => True) (rngL 0 n0.toNat) d1 (fun x _ m => by
    obtain ⟨r, m', e, _⟩ := take_ok m 60 (by decide)
    rw [e]; exact ⟨_, _, rfl, trivial⟩)
  rw [rngL_len] at l2
  have hl : vs.length ≤ 12 := by omega
  obtain ⟨w0, d3, e3, w1, w2⟩ := take_ok d2 6 (by decide)
  obtain ⟨b0, d4, e4, b1, b2⟩ := take_ok d3 9 (by decide)
  obtain ⟨a0, d5, e5, a1, a2⟩ := take_ok d4 (1 + b0 + 1) (by omega)
  obtain ⟨p0, d6, e6, p1, p2⟩ := take_ok d5 7 (by decide)
  obtain ⟨c0, d7, e7, c1, c2⟩ := take_ok d6 9 (by decide)
  show Res.val (lawM_b ⟨ns⟩) = _
  unfold lawM_b
  rw [hd]
  simp only [Res.bind_ok]
  rw [e1]
  simp only [Res.bind_ok]
  rw [rng1R_ok (by omega)]
  simp only [Res.bind_ok]
  rw [e2]
  simp only [Res.bind_ok, hard_ok, lt_eq]
  rw [e3]
  simp only [Res.bind_ok, hard_ok]
  -- moving means
  have hmx : (max2 0 ((vs.length : Int) - (1 + w0) + 1)) ≤ 1000 ∧ 0 ≤ max2 0 ((vs.length : Int) - (1 + w0) + 1) := by unfold max2; split <;> omega
  have edue : (rng1R (max2 0 ((vs.length : Int) - (1 + w0) + 1))).bind (fun t => Res.hard (lcR (fun _ => Res.ok true) (fun x : Int => law_fraction ((cutL vs (some x) (some (x + (1 + w0)))).sum, (1 + w0, ()))) t)) = .ok ((rngL 0 ((vs.length : Int) - (1 + w0) + 1).toNat).map fun x => fr (cutL vs (some x) (some (x + (1 + w0)))).sum (1 + w0)) := by
    rw [rng1R_ok (by omega), Res.bind_ok, lcR_ok _ (fun x => fr (cutL vs (some x) (some (x + (1 + w0)))).sum (1 + w0)) _ fun x hx => law_fraction_ok (by omega) (by omega), rngL_toNat]
    rfl
  rw [edue]
  simp only [Res.bind_ok, means_ok (vs := vs) (w := 1 + w0) (by omega) (by omega) (by omega), means_ok (vs := vs) (w := 1) (by omega) (by omega) (by omega), means_one]
  obtain ⟨P1, f1, f2⟩ := plainF (okF (L := (rngL 0 ((vs.length : Int) - (1 + w0) + 1).toNat).map fun x => fr (cutL vs (some x) (some (x + (1 + w0)))).sum (1 + w0)) (by rw [List.length_map, rngL_len]; omega))
  have ov := okF (L := vs.map fun v => (v, (1 : Int))) (by rw [List.length_map]; omega)
  have nv := neR_same ov.1 (by omega)
  simp only [f1, f2, nv, Res.bind_ok, cond_false]
  -- smoothed
  rw [e4]
  simp only [Res.bind_ok, hard_ok]
  rw [e5]
  simp only [Res.bind_ok, hard_ok]
  rw [wanted_ok (a := a0) (b := 1 + b0) (by omega) (by omega) (by omega) (by omega) hl d5 d4]
  simp only [seq_nx, smoothed_ok (vs := vs) (a := a0) (b := 1 + b0) (by omega) (by omega) (by omega) (by omega) hl, smoothed_ok (vs := vs) (a := 1 + b0) (b := 1 + b0) (by omega) (by omega) (by omega) (by omega) hl, Res.bind_ok]
  have lsm : (vs.foldl (smStep a0 (1 + b0)) []).length ≤ 1000 := by
    have : ∀ (xs : List Int) (s : List (Int × Int)), (xs.foldl (smStep a0 (1 + b0)) s).length = s.length + xs.length := by
      intro xs
      induction xs with
      | nil => intro s; rfl
      | cons x xs ih => intro s; rw [List.foldl_cons, ih]; unfold smStep; simp; omega
    rw [this]; simp; omega
  obtain ⟨P2, g1, g2⟩ := plainF (okF lsm)
  have rep1 : repR ([5] : List Int) 4 = .ok [5, 5, 5, 5] := rfl
  have rep2 : repR ([(5, 1)] : List (Int × Int)) 4 = .ok [(5, 1), (5, 1), (5, 1), (5, 1)] := rfl
  have o5 := okF (L := [(5, 1), (5, 1), (5, 1), (5, 1)]) (by decide)
  have n5 := neR_same o5.1 (by omega)
  simp only [g1, g2, Res.bind_ok, cond_false, sm_one (b := 1 + b0) (by omega) vs [] (fun q hq => by simp at hq), List.nil_append, nv, rep1, rep2, smoothed_ok (vs := [5, 5, 5, 5]) (a := a0) (b := 1 + b0) (by omega) (by omega) (by omega) (by omega) (by decide), sm_five (a := a0) (b := 1 + b0) (by omega), n5]
  -- season means
  rw [e6]
  simp only [Res.bind_ok, hard_ok]
  rw [rng1R_ok (by omega)]
  simp only [Res.bind_ok]
  have hsl := sea_law (vs := vs) (da := d2) (p := 1 + p0) d6 hl (by omega) (by omega) (κ := Unit)
  rw [hsl.1]
  have lM := hsl.2
  have hM := sea_ok (vs := vs) (p := 1 + p0) hl (by omega) (by omega)
  have oM := okO (L := seaM vs (1 + p0)) (by omega)
  obtain ⟨P3, m1, m2⟩ := plainF oM
  have oV := okI (L := vs) (by omega)
  have nV := neR_same oV.1 (by omega)
  simp only [seq_nx, hM, Res.bind_ok, m1, m2, cond_false, nV]
  rw [e7]
  simp only [Res.bind_ok, hard_ok]
  obtain ⟨B, hB⟩ := in_none (M := seaM vs (1 + p0)) (by omega)
  have nval := neR_same (d := toD ("values" : Str)) (by decide +kernel) (by decide +kernel)
  have ncnt := neR_same (d := toD ("count" : Str)) (by decide +kernel) (by decide +kernel)
  have fc := fc_ok (vs := vs) (p := 1 + p0) (M := seaM vs (1 + p0)) (c := c0) hM lM (by omega) hl
  have fc' := fc_ok (vs := vs) (p := 1 + p0) (M := seaM vs (1 + p0)) (c := -1) hM lM (by omega) hl
  have hif : ((inR PyData.none (toD (seaM vs (1 + p0)))).bind fun t311 => cond t311 (Res.bind (Res.bind (Res.bind (why_i ((3 : Int), (vs, (1 + p0, (c0, ()))))) fun c312 => Res.ok (toD c312)) fun t313 => neR t313 (toD ("values" : Str))) fun t315 => cond t315 (Res.up (Res.ok (Out.rt false))) (Res.ok (Out.nx ()) : Res (Out Unit Unit Bool)))
      (Res.bind (Res.bind (rng1R c0) fun t320 => Res.hard (lcR (fun _ => Res.ok true) (fun (x317 : Int) => (Res.bind (modR ((vs.length : Int) + x317) (1 + p0)) fun t319 => ixR (seaM vs (1 + p0)) t319)) t320)) fun later_316 => (Res.bind (Res.bind (Res.bind (Res.bind (Res.bind (season_forecast (vs, (1 + p0, (c0, ())))) fun c321 => Res.ok (toD c321)) fun t322 => Res.ok (t322, ())) plain) fun t324 => Res.bind (plain ((toD later_316), ())) fun t325 => neR t324 t325) fun t329 => cond t329 (Res.ok true) (Res.bind (Res.bind (why_i ((3 : Int), (vs, (1 + p0, ((-(1 : Int)), ()))))) fun c326 => Res.ok (toD c326)) fun t327 => neR t327 (toD ("count" : Str)))).bind fun t330 => cond t330 (Res.up (Res.ok (Out.rt false))) (Res.ok (Out.nx ())))) = Res.ok (Out.nx ()) := by
    rw [hB, Res.bind_ok]
    cases B with
    | true =>
      rw [cond_true, why3 (fc.1 hB)]
      simp only [Res.bind_ok]
      rw [show neR (toD (some ("values" : Str))) (toD ("values" : Str)) = .ok false from nval]
      rfl
    | false =>
      have hf := (fc.2 hB).2 c1 (by omega)
      have hf' := (fc'.2 hB).1 (by decide)
      have el : lcR (fun _ => Res.ok true) (fun (x317 : Int) => (Res.bind (modR ((vs.length : Int) + x317) (1 + p0)) fun t319 => ixR (seaM vs (1 + p0)) t319)) (rngL 0 c0.toNat) = .ok ((rngL 0 c0.toNat).map fun x => (seaM vs (1 + p0)).getD (((vs.length : Int) + x) % (1 + p0)).toNat none) := by
        refine lcR_ok _ _ _ fun x hx => ?_
        have hm := Int.emod_nonneg ((vs.length : Int) + x) (show 1 + p0 ≠ 0 by omega)
        have hm2 := Int.emod_lt_of_pos ((vs.length : Int) + x) (show 0 < 1 + p0 by omega)
        have hj : (((vs.length : Int) + x) % (1 + p0)).toNat < (seaM vs (1 + p0)).length := by omega
        rw [modR_pos (by omega), Res.bind_ok, ixR_nat (j := (((vs.length : Int) + x) % (1 + p0)).toNat) (by omega) (List.getElem?_eq_getElem hj)]
        simp [List.getD_eq_getElem?_getD, hj]
      obtain ⟨P4, k1, k2⟩ := plainF (okO (L := (rngL 0 c0.toNat).map fun x => (seaM vs (1 + p0)).getD (((vs.length : Int) + x) % (1 + p0)).toNat none) (by rw [List.length_map, rngL_len]; omega))
      rw [cond_false, rng1R_ok (by omega), Res.bind_ok, el, hard_ok, hf, why3 hf']
      simp only [Res.bind_ok, k1, k2, cond_false]
      rw [show neR (toD (some ("count" : Str))) (toD ("count" : Str)) = .ok false from ncnt]
      rfl
  rw [hif, seq_nx]
  -- the rest
  have hend : ∀ (d8 : List Int), Res.val (κ := Unit) (Res.bind (Res.hard (Res.bind (law_take d8 ((6 : Int), ())) fun q409 => Res.bind (ixR ([⟨[1]⟩, ⟨[1, 0]⟩, ⟨[-1, 2]⟩, ⟨[3, 2]⟩, ⟨[1, 2, 3]⟩, ⟨[0, -1]⟩] : List (VT Int)) q409.1) fun d410 => Res.ok (d410, q409.2))) fun q407 => (Res.bind (Res.bind (Res.bind (why_i ((0 : Int), (vs, ((0 : Int), ((0 : Int), ()))))) fun t421 => Res.bind (Res.bind (why_v ((1 : Int), (vs, (q407.1, ((0 : Int), ()))))) fun t419 => Res.bind (Res.bind (why_i ((2 : Int), (vs, ((0 : Int), ((0 : Int), ()))))) fun t417 => Res.bind (Res.bind (why_i ((3 : Int), (vs, ((-(1 : Int)), ((-(1 : Int)), ()))))) fun t415 => Res.ok (t415 :: ([] : List (Option Str)))) fun t418 => Res.ok (t417 :: t418)) fun t420 => Res.ok (t419 :: t420)) fun t422 => Res.ok (t421 :: t422)) fun t423 => iff (t423.length ≤ 64) t423) fun answers_414 => (Res.bind (Res.bind (Res.bind (Res.bind (Res.bind (Res.bind (why_l ((4 : Int), (([] : (List Int)), (([] : (List (Int × Int))), ((0 : Int), ()))))) fun t424 => Res.ok (t424 :: ([] : List (Option Str)))) fun t426 => iff (t426.length ≤ 64) t426) fun t428 => catR answers_414 t428) fun c429 => Res.ok (toD c429)) fun t430 => eqR t430 (toD ([("width" : Str), ("weight" : Str), ("period" : Str), ("period" : Str), ("values" : Str)] : (List Str)))) fun y432 => (Res.ok (Out.rt y432) : Res (Out Empty Unit Bool))))) = .ok true := fun d8 => by
    obtain ⟨r, d9, e9, r1, r2⟩ := take_ok d8 6 (by decide)
    obtain ⟨bd, x1, x2⟩ := bad_ok vs r r1 r2
    have y0 : why_i (0, vs, 0, 0, ()) = .ok (some "width") := why0 rfl
    have y2 : why_i (2, vs, 0, 0, ()) = .ok (some "period") := why2 rfl
    have y3 : why_i (3, vs, -1, -1, ()) = .ok (some "period") := why3 rfl
    have y4 : why_l (4, [], [], 0, ()) = .ok (some "values") := why4 (gap_bad (.inr rfl))
    rw [e9]
    simp only [Res.bind_ok, x1, hard_ok, x2, y0, y2, y3, y4]
    have z : eqR (toD ([("width" : Str), ("weight" : Str), ("period" : Str), ("period" : Str), ("values" : Str)] : (List Str))) (toD ([("width" : Str), ("weight" : Str), ("period" : Str), ("period" : Str), ("values" : Str)] : (List Str))) = .ok true := eqR_same (by decide +kernel) (by decide +kernel)
    show Res.val (κ := Unit) (Res.bind (eqR (toD ([("width" : Str), ("weight" : Str), ("period" : Str), ("period" : Str), ("values" : Str)] : (List Str))) _) fun y432 => (Res.ok (Out.rt y432) : Res (Out Empty Unit Bool))) = _
    rw [z]
    rfl
  by_cases h0 : 0 < (vs.length : Int)
  · rw [decide_eq_true h0]
    simp only [Res.bind_ok, cond_true]
    have hne : vs ≠ [] := by intro e; subst e; exact absurd h0 (by decide)
    obtain ⟨tl, d8, e8, l8, q8⟩ := lcS_ok (fun (m337 : List Int) (x335 : Int) => (Res.bind (Res.bind (law_take m337 ((90 : Int), ())) fun q341 => Res.ok (q341.1 - 20, q341.2)) fun q338 => Res.bind (Res.bind (law_take q338.2 ((4 : Int), ())) fun q348 => Res.ok (1 + q348.1, q348.2)) fun q339 => Res.ok ((q338.1, q339.1), q339.2))) (fun q : Int × Int => 0 < q.2 ∧ q.2 ≤ 4) vs d7 (fun x _ m => by
      obtain ⟨r, m', e, _⟩ := take_ok m 90 (by decide)
      obtain ⟨u, m2, e', u1, u2⟩ := take_ok m' 4 (by decide)
      rw [e]
      simp only [Res.bind_ok]
      rw [e']
      exact ⟨_, _, rfl, by show 0 < 1 + u; omega, by show 1 + u ≤ 4; omega⟩)
    rw [e8]
    simp only [Res.bind_ok, hard_ok]
    rw [lcR_ok _ (fun x : Int × Int => fr x.1 x.2) tl fun x hx => law_fraction_ok (q8 x hx).1 (by have := (q8 x hx).2; omega)]
    simp only [Res.bind_ok, hard_ok]
    rw [rng1R_ok (by omega)]
    simp only [Res.bind_ok]
    have lt2 : (tl.map fun x : Int × Int => fr x.1 x.2).length = vs.length := by rw [List.length_map, l8]
    have ht2 : ∀ q ∈ (tl.map fun x : Int × Int => fr x.1 x.2), 0 < q.2 ∧ q.2 ≤ 4 := fun q hq => by
      obtain ⟨x, hx, rfl⟩ := List.mem_map.mp hq
      obtain ⟨k1, k2⟩ := q8 x hx
      exact ⟨fr_pos k1, Int.le_trans (fr_le2 k1) k2⟩
    rw [show ((vs.length : Int)).toNat = vs.length by omega, gap_law d2 hl lt2 ht2]
    obtain ⟨gp, gP⟩ := gap_ok hne hl lt2 ht2
    have gz := (gap_ok (told := vs.map fun v => (v, (1 : Int))) hne hl (by rw [List.length_map]) (fun q hq => by obtain ⟨x, hx, rfl⟩ := List.mem_map.mp hq; exact ⟨by show (0 : Int) < 1; decide, by show (1 : Int) ≤ 4; decide⟩)).1
    rw [mg_zero] at gz
    have gb : mean_gap (vs, (tl.map fun x : Int × Int => fr x.1 x.2) ++ (tl.map fun x : Int × Int => fr x.1 x.2), ()) = .err "InvalidTable" (Scal.enc ("values" : Str)) := gap_bad (.inl (by rw [List.length_append, lt2]; omega))
    obtain ⟨t1, t2⟩ := gP
    have h4 := pow4 (show vs.length ≤ 12 from hl)
    have m3 := mul_in t1 (Int.le_trans t2 h4) h0 (show (vs.length : Int) ≤ 12 by omega)
    have ep : ∀ q : Int × Int, okD (toD q) = true ∧ (toD q).depth ≤ 2 := fun q => ⟨okD_pair okD_int okD_int, by rw [dep_pairI]; omega⟩
    obtain ⟨P5, v1, v2⟩ := plainF (ep (fr ((List.zip vs (tl.map fun x : Int × Int => fr x.1 x.2)).foldl mgStep (0, 1)).1 (((List.zip vs (tl.map fun x : Int × Int => fr x.1 x.2)).foldl mgStep (0, 1)).2 * (vs.length : Int))))
    have n01 := neR_same (ep ((0 : Int), (1 : Int))).1 (by have := (ep ((0 : Int), (1 : Int))).2; omega)
    have fz : fr (0 : Int) (1 * (vs.length : Int)) = (0, 1) := fr_is (by omega) (by decide) (by decide) (by omega)
    have cat2 : catR (tl.map fun x : Int × Int => fr x.1 x.2) (tl.map fun x : Int × Int => fr x.1 x.2) = .ok ((tl.map fun x : Int × Int => fr x.1 x.2) ++ (tl.map fun x : Int × Int => fr x.1 x.2)) := iff_pos (by omega)
    simp only [seq_nx, gp, Res.bind_ok, v1, mulR_r (j := (vs.length : Int)) (show -(2 ^ 64) < (vs.length : Int) by omega) (show (vs.length : Int) < 2 ^ 64 by omega), law_fraction_ok m3.1 (by omega), v2, cond_false, gz, fz, n01, cat2, why4 gb]
    rw [show neR (toD (some ("values" : Str))) (toD ("values" : Str)) = .ok false from nval]
    simp only [Res.bind_ok, cond_false, seq_nx]
    exact hend _
  · rw [decide_eq_false h0]
    simp only [Res.bind_ok, cond_false, seq_nx]
    exact hend _
end Mr

/-! the walks; printed by gen.py -/
namespace Mr
open PySem PySem.Spec PyProof.Rows L2
open ToD (toD)
open Rep (rep)
def topS (i : Nat) : Stmt := PySem.Challenge.pw_slotwork_k55_forecasts.main.body.getD i (.Pass ⟨0, 0, 0, 0⟩)
abbrev k_SlotError : Stmt := topS 2
abbrev k_InvalidTime : Stmt := topS 3
abbrev i_InvalidTime : Stmt := inClass (topS 3) 0
abbrev k_InvalidMoney : Stmt := topS 4
abbrev i_InvalidMoney : Stmt := inClass (topS 4) 0
abbrev k_InvalidTable : Stmt := topS 5
abbrev i_InvalidTable : Stmt := inClass (topS 5) 0
abbrev s_fraction : Stmt := topS 7
abbrev s_plus : Stmt := topS 9
abbrev s_times : Stmt := topS 10
abbrev s_moving_means : Stmt := topS 11
abbrev s_smoothed : Stmt := topS 12
abbrev s_season_means : Stmt := topS 13
abbrev s_season_forecast : Stmt := topS 14
abbrev s_mean_gap : Stmt := topS 15
abbrev s__law_deck : Stmt := topS 17
abbrev s__law_take : Stmt := topS 18
abbrev s__law_plain : Stmt := topS 19
abbrev s__law_gcd : Stmt := topS 20
abbrev s__law_fraction : Stmt := topS 21
abbrev s__law_why : Stmt := topS 22
abbrev s_law : Stmt := topS 23
theorem sc_fraction : FnScope ["above", "below", "common"] ["above", "below"] (defScope s_fraction) := ⟨rfl, rfl, rfl, by decide +kernel, rfl, by decide +kernel, by decide +kernel⟩
theorem sc_plus : FnScope ["first", "second"] ["first", "second"] (defScope s_plus) := ⟨rfl, rfl, rfl, by decide +kernel, rfl, by decide +kernel, by decide +kernel⟩
theorem sc_times : FnScope ["first", "second"] ["first", "second"] (defScope s_times) := ⟨rfl, rfl, rfl, by decide +kernel, rfl, by decide +kernel, by decide +kernel⟩
theorem sc_moving_means : FnScope ["values", "width", "at"] ["values", "width"] (defScope s_moving_means) := ⟨rfl, rfl, rfl, by decide +kernel, rfl, by decide +kernel, by decide +kernel⟩
theorem sc_smoothed : FnScope ["values", "weight", "part", "rest", "found", "value"] ["values", "weight"] (defScope s_smoothed) := ⟨rfl, rfl, rfl, by decide +kernel, rfl, by decide +kernel, by decide +kernel⟩
theorem sc_season_means : FnScope ["values", "period", "found", "at", "rows"] ["values", "period"] (defScope s_season_means) := ⟨rfl, rfl, rfl, by decide +kernel, rfl, by decide +kernel, by decide +kernel⟩
theorem sc_season_forecast : FnScope ["values", "period", "count", "means", "at"] ["values", "period", "count"] (defScope s_season_forecast) := ⟨rfl, rfl, rfl, by decide +kernel, rfl, by decide +kernel, by decide +kernel⟩
theorem sc_mean_gap : FnScope ["values", "forecasts", "total", "value", "above", "below"] ["values", "forecasts"] (defScope s_mean_gap) := ⟨rfl, rfl, rfl, by decide +kernel, rfl, by decide +kernel, by decide +kernel⟩
theorem sc__law_deck : FnScope ["script", "cells", "each", "deck", "seed", "k", "cell", "rest", "at"] ["script", "cells", "each"] (defScope s__law_deck) := ⟨rfl, rfl, rfl, by decide +kernel, rfl, by decide +kernel, by decide +kernel⟩
theorem sc__law_take : FnScope ["deck", "many"] ["deck", "many"] (defScope s__law_take) := ⟨rfl, rfl, rfl, by decide +kernel, rfl, by decide +kernel, by decide +kernel⟩
theorem sc__law_plain : FnScope ["value", "item"] ["value"] (defScope s__law_plain) := ⟨rfl, rfl, rfl, by decide +kernel, rfl, by decide +kernel, by decide +kernel⟩
theorem sc__law_gcd : FnScope ["one", "two"] ["one", "two"] (defScope s__law_gcd) := ⟨rfl, rfl, rfl, by decide +kernel, rfl, by decide +kernel, by decide +kernel⟩
theorem sc__law_fraction : FnScope ["above", "below", "common"] ["above", "below"] (defScope s__law_fraction) := ⟨rfl, rfl, rfl, by decide +kernel, rfl, by decide +kernel, by decide +kernel⟩
theorem sc__law_why : FnScope ["ask", "values", "one", "two", "error"] ["ask", "values", "one", "two"] (defScope s__law_why) := ⟨rfl, rfl, rfl, by decide +kernel, rfl, by decide +kernel, by decide +kernel⟩
theorem sc_law : FnScope ["script", "deck", "values", "handed", "width", "due", "below", "above", "wanted", "value", "period", "means", "at", "count", "bad", "answers", "rows", "later", "told", "total", "turn", "one", "two", "place"] ["script"] (defScope s_law) := ⟨rfl, rfl, rfl, by decide +kernel, rfl, by decide +kernel, by decide +kernel⟩
theorem sci_InvalidTime : FnScope ["self", "what"] ["self", "what"] (defScope i_InvalidTime) := ⟨rfl, rfl, rfl, by decide +kernel, rfl, by decide +kernel, by decide +kernel⟩
theorem sci_InvalidMoney : FnScope ["self", "what"] ["self", "what"] (defScope i_InvalidMoney) := ⟨rfl, rfl, rfl, by decide +kernel, rfl, by decide +kernel, by decide +kernel⟩
theorem sci_InvalidTable : FnScope ["self", "what"] ["self", "what"] (defScope i_InvalidTable) := ⟨rfl, rfl, rfl, by decide +kernel, rfl, by decide +kernel, by decide +kernel⟩
structure Tx (P : Program) (w : World) (K : PySem.W.Frag) (mg : Str → Option Value) (base : Heap) (c_SlotError : Addr) (c_InvalidTime : Addr) (c_InvalidMoney : Addr) (c_InvalidTable : Addr) : Prop where
  z_abs : mg "abs" = none
  z_bool : mg "bool" = none
  z_gcd : mg "gcd" = some (.builtin "math.gcd")
  z_int : mg "int" = none
  z_isinstance : mg "isinstance" = none
  z_len : mg "len" = none
  z_list : mg "list" = none
  z_max : mg "max" = none
  z_range : mg "range" = none
  z_str : mg "str" = none
  z_sum : mg "sum" = none
  z_tuple : mg "tuple" = none
  z_zip : mg "zip" = none
  g_SlotError : mg "SlotError" = some (.ref c_SlotError)
  g_InvalidTime : mg "InvalidTime" = some (.ref c_InvalidTime)
  g_InvalidMoney : mg "InvalidMoney" = some (.ref c_InvalidMoney)
  g_InvalidTable : mg "InvalidTable" = some (.ref c_InvalidTable)
  e_InvalidMoney : ExcOk P w K mg base "InvalidMoney" 1 (fieldOf "InvalidMoney") okStr
  e_InvalidTable : ExcOk P w K mg base "InvalidTable" 1 (fieldOf "InvalidTable") okStr
  x_InvalidTable : PySem.W.exmOne K (.ref c_InvalidTable) (.ref c_SlotError) = some true
  i_InvalidTable : ExcI K c_InvalidTable
  f_InvalidTable : XfC K c_InvalidTable
  n_InvalidTable_what : PySem.W.findIn K (.ref c_InvalidTable) "what" = some none
  k_InvalidTable_InvalidTable : PySem.W.kitOne K (.ref c_InvalidTable) (.ref c_InvalidTable) = some true
  k_InvalidTable_InvalidTime : PySem.W.kitOne K (.ref c_InvalidTable) (.ref c_InvalidTime) = some false
section
variable {P : Program} {w : World} {K : PySem.W.Frag} {mg : Str → Option Value} {base : Heap} {c_SlotError c_InvalidTime c_InvalidMoney c_InvalidTable : Addr}
theorem ex_InvalidMoney {fI : Addr} {fd : FuncData} (F : Fun K "__init__" "InvalidMoney.__init__" i_InvalidMoney fI fd) (gc : mg "InvalidMoney" = some (.ref c_InvalidMoney)) (gb : mg "SlotError" = some (.ref c_SlotError)) (T0 : BaseC K c_SlotError) (O : OexC K c_InvalidMoney) (hf : PySem.W.findIn K (.ref c_InvalidMoney) "what" = some none)
    (iC : PySem.W.findIn K (.ref c_InvalidMoney) "__init__" = some (some (.ref fI))) (tI : PySem.W.typeIn K (.ref fI) = some (.type "function")) (bd : Binds K fd ["self", "what"] []) : ExcOk P w K mg base "InvalidMoney" 1 (fieldOf "InvalidMoney") okStr := by
  refine exc_ok (pre := "invalid money: ") (bn := "SlotError") F sci_InvalidMoney gc O hf iC tI bd rfl T0 gb (by decide +kernel) fun cdv A outer s H E => ?_
  refine ⟨_, pss_cons (ps_expr (pe_baseInit T0 rfl gb (pa_cons (pv 0) (pa_cons (pe_op op_add_str pe_str (pv 1)) pa_nil)))) (pss_one (ps_ost (pv 0) (pv 1))), ?_⟩
  rintro D σ a z rfl hz ha q
  refine ⟨_, rfl, _, rfl, _, _, rfl, rfl, Nat.le_trans (Nat.add_le_add_right (by decide +kernel : ("invalid money: " : Str).length ≤ 100) _) (Nat.le_trans (Nat.add_le_add_left hz _) (le_line (by decide))), ?_⟩
  refine ⟨a, c_InvalidMoney, _, rfl, Nat.le_of_ble_eq_true rfl, O, ha, ?_⟩
  exact ⟨_, rfl, _, rfl, a, c_InvalidMoney, rfl, O, hf, .inl ⟨ha, fun dx h1 h2 => q dx h1 h2 _⟩⟩
theorem ex_InvalidTable {fI : Addr} {fd : FuncData} (F : Fun K "__init__" "InvalidTable.__init__" i_InvalidTable fI fd) (gc : mg "InvalidTable" = some (.ref c_InvalidTable)) (gb : mg "SlotError" = some (.ref c_SlotError)) (T0 : BaseC K c_SlotError) (O : OexC K c_InvalidTable) (hf : PySem.W.findIn K (.ref c_InvalidTable) "what" = some none)
    (iC : PySem.W.findIn K (.ref c_InvalidTable) "__init__" = some (some (.ref fI))) (tI : PySem.W.typeIn K (.ref fI) = some (.type "function")) (bd : Binds K fd ["self", "what"] []) : ExcOk P w K mg base "InvalidTable" 1 (fieldOf "InvalidTable") okStr := by
  refine exc_ok (pre := "invalid table: ") (bn := "SlotError") F sci_InvalidTable gc O hf iC tI bd rfl T0 gb (by decide +kernel) fun cdv A outer s H E => ?_
  refine ⟨_, pss_cons (ps_expr (pe_baseInit T0 rfl gb (pa_cons (pv 0) (pa_cons (pe_op op_add_str pe_str (pv 1)) pa_nil)))) (pss_one (ps_ost (pv 0) (pv 1))), ?_⟩
  rintro D σ a z rfl hz ha q
  refine ⟨_, rfl, _, rfl, _, _, rfl, rfl, Nat.le_trans (Nat.add_le_add_right (by decide +kernel : ("invalid table: " : Str).length ≤ 100) _) (Nat.le_trans (Nat.add_le_add_left hz _) (le_line (by decide))), ?_⟩
  refine ⟨a, c_InvalidTable, _, rfl, Nat.le_of_ble_eq_true rfl, O, ha, ?_⟩
  exact ⟨_, rfl, _, rfl, a, c_InvalidTable, rfl, O, hf, .inl ⟨ha, fun dx h1 h2 => q dx h1 h2 _⟩⟩
theorem w_plainR {f : Addr} {fd : FuncData} (F : Fun K "_law_plain" "_law_plain" s__law_plain f fd) (gx : mg "_law_plain" = some (.ref f)) (bd : Binds K fd ["value"] []) (T : Tx P w K mg base c_SlotError c_InvalidTime c_InvalidMoney c_InvalidTable) : ∀ n, Cal P w K mg base "_law_plain" (n + 1) (spM K mg (fun t : PyData × Unit => plainR n t.1))
  | 0 => cal_bad F gx bd
  | n + 1 => by
    have C := w_plainR F gx bd T n
    have nd := sc__law_plain.nd
    refine cal_m (k := n + 1) (κ := Unit) (body := fun t => plain_b (plainR n) t.1) F sc__law_plain gx bd rfl (fun _ => rfl) fun cdv A outer s H E G0 t hG0 hr => ?_
    obtain ⟨d, ⟨⟩⟩ := t
    show SJ _ _ _ _ _ _ _ _ [⟨0, PyData, d⟩] [] _ (plain_b (plainR n) d)
    unfold plain_b
    refine SJ.if_x (TJ.ofA (TA.val (A_is2 T.z_isinstance rfl T.z_tuple rfl (by decide +kernel) T.z_list rfl (by decide +kernel) kd_tuple kd_list isTL_or (AE.var 0 rfl)))) ?_ ?_
    · refine SJ.retR (RJ.ofR (RE.toD (RE.ofF (FR.cat (α := PyData) (RE.ofA (AE.lst (AArg.lcons (AE.toD (A_is1 T.z_isinstance rfl T.z_list rfl (by decide +kernel) kd_list (AE.var 0 rfl))) AArg.lnil))) ?_))))
      exact RE.lc (own := [("item", 1)]) rfl nd (blkOk_by (N := ["value", "item"]) (sc := defScope s__law_plain) (by decide +kernel)) (IE.data (AE.var 0 rfl)) (fun _ h => h) (fun _ _ _ _ _ => GA.name 1 nd rfl (by first | exact .inl rfl | exact .inr rfl)) (fun _ _ _ _ _ _ => QR.nil)
        (fun x _ _ _ _ _ => RE.callA (fM := fun t : PyData × Unit => plainR n t.1) (t := (x, ())) C hr rfl (AArg.cons (AE.var 1 rfl) AArg.nil) (Nat.le_refl _))
    · refine SJ.if_x (TJ.ofA (WA.t (WA.or (T_isN (AE.var 0 rfl)) (WA.or1 (TA.val (A_is1 T.z_isinstance rfl T.z_bool rfl (by decide +kernel) kd_bool (AE.var 0 rfl))))))) ?_ ?_
      · refine SJ.retR (RJ.ofR (RE.toD (R_ix (fun _ _ => rfl) (RE.ofA (AE.lst (AArg.lcons AE.str (AArg.lcons AE.str (AArg.lcons AE.str AArg.lnil))))) (R_add (RE.ofA (A_intB T.z_int rfl (h1 := A_notN (AE.var 0 rfl)))) (R_intB T.z_int rfl (h1 := R_isTrue (AE.var 0 rfl)))))))
      · refine SJ.if_x (TJ.ofA (TA.val (A_is2 T.z_isinstance rfl T.z_int rfl (by decide +kernel) T.z_str rfl (by decide +kernel) kd_int kd_str isIS_or (AE.var 0 rfl)))) ?_ ?_
        · exact SJ.retA (RJ.ofA (AE.toD (AE.lst (AArg.lcons (AE.toD (A_is1 T.z_isinstance rfl T.z_str rfl (by decide +kernel) kd_str (AE.var 0 rfl))) (AArg.lcons (AE.var 0 rfl) AArg.lnil)))))
        · exact SJ.retA (RJ.ofA (AE.toD AE.str))
theorem w_plain {f : Addr} {fd : FuncData} (F : Fun K "_law_plain" "_law_plain" s__law_plain f fd) (gx : mg "_law_plain" = some (.ref f)) (bd : Binds K fd ["value"] []) (T : Tx P w K mg base c_SlotError c_InvalidTime c_InvalidMoney c_InvalidTable) : Cal P w K mg base "_law_plain" 9 (spM K mg plain) := w_plainR F gx bd T 8
theorem w_fraction {f : Addr} {fd : FuncData} (F : Fun K "fraction" "fraction" s_fraction f fd) (gx : mg "fraction" = some (.ref f)) (bd : Binds K fd ["above", "below"] []) (T : Tx P w K mg base c_SlotError c_InvalidTime c_InvalidMoney c_InvalidTable) : Cal P w K mg base "fraction" 3 (spM K mg fraction) := by
  have nd := sc_fraction.nd
  refine cal_m (k := 2) (κ := Unit) (body := fun t => fraction_b t.1 t.2.1) F sc_fraction gx bd rfl (fun _ => rfl) fun cdv A outer s H E G0 t hG0 hr => ?_
  obtain ⟨above_0, ⟨below_0, ⟨⟩⟩⟩ := t
  show SJ _ _ _ _ _ _ _ _ [⟨0, Int, above_0⟩, ⟨1, Int, below_0⟩] _ _ (fraction_b above_0 below_0)
  unfold fraction_b
  exact (SJ.if_x ((TJ.ofA (TA_eq (AE.var 1 rfl) AE.int))) (SJ.raise rfl T.e_InvalidMoney hr rfl AE.str ⟨_, rfl, (by decide +kernel)⟩ (by decide +kernel)) (SJ.set_A 2 nd rfl (by first | exact .inl rfl | exact .inr rfl) ((RJ.ofA (A_gcd T.z_gcd rfl (h1 := (AE.var 0 rfl)) (h2 := (AE.var 1 rfl))))) (fun common_2 => (SJ.if_j (ν' := Int) (fun s5 => [⟨0, Int, above_0⟩, ⟨1, Int, below_0⟩, ⟨2, Int, s5⟩]) (fun s5 => []) ((TJ.ofA (TA_lt (AE.var 1 rfl) AE.int))) (SJ.set_A 2 nd rfl (by first | exact .inl rfl | exact .inr rfl) ((RJ.ofA (A_neg (AE.var 2 rfl)))) (fun common_4 => (SJ.nil common_4 (Sub.cons rfl (Sub.cons rfl (Sub.cons rfl Sub.nil))) (List.nil_sublist _)))) (SJ.nil common_2 (Sub.cons rfl (Sub.cons rfl (Sub.cons rfl Sub.nil))) (List.nil_sublist _)) (fun s5 => (SJ.retR ((RJ.ofR (R_tup2 (P_div (AE.var 0 rfl) (AE.var 2 rfl)) (P_div (AE.var 1 rfl) (AE.var 2 rfl)))))))))))
theorem w_plus {f : Addr} {fd : FuncData} (F : Fun K "plus" "plus" s_plus f fd) (gx : mg "plus" = some (.ref f)) (bd : Binds K fd ["first", "second"] []) (T : Tx P w K mg base c_SlotError c_InvalidTime c_InvalidMoney c_InvalidTable) (C_fraction : Cal P w K mg base "fraction" 3 (spM K mg fraction)) : Cal P w K mg base "plus" 4 (spM K mg plus) := by
  have nd := sc_plus.nd
  refine cal_m (k := 3) (κ := Unit) (body := fun t => plus_b t.1 t.2.1) F sc_plus gx bd rfl (fun _ => rfl) fun cdv A outer s H E G0 t hG0 hr => ?_
  obtain ⟨first_0, ⟨second_0, ⟨⟩⟩⟩ := t
  show SJ _ _ _ _ _ _ _ _ [⟨0, (Int × Int), first_0⟩, ⟨1, (Int × Int), second_0⟩] _ _ (plus_b first_0 second_0)
  unfold plus_b
  exact (SJ.retR ((RJ.ofR (RE.callR C_fraction hr rfl (RArg.cons (R_add (P_mul (A_tup tup0 (fun _ _ => rfl) (AE.var 0 rfl)) (A_tup tup1 (fun _ _ => rfl) (AE.var 1 rfl))) (P_mul (A_tup tup0 (fun _ _ => rfl) (AE.var 1 rfl)) (A_tup tup1 (fun _ _ => rfl) (AE.var 0 rfl)))) (RArg.cons (P_mul (A_tup tup1 (fun _ _ => rfl) (AE.var 0 rfl)) (A_tup tup1 (fun _ _ => rfl) (AE.var 1 rfl))) RArg.nil))))))
theorem w_times {f : Addr} {fd : FuncData} (F : Fun K "times" "times" s_times f fd) (gx : mg "times" = some (.ref f)) (bd : Binds K fd ["first", "second"] []) (T : Tx P w K mg base c_SlotError c_InvalidTime c_InvalidMoney c_InvalidTable) (C_fraction : Cal P w K mg base "fraction" 3 (spM K mg fraction)) : Cal P w K mg base "times" 4 (spM K mg times) := by
  have nd := sc_times.nd
  refine cal_m (k := 3) (κ := Unit) (body := fun t => times_b t.1 t.2.1) F sc_times gx bd rfl (fun _ => rfl) fun cdv A outer s H E G0 t hG0 hr => ?_
  obtain ⟨first_0, ⟨second_0, ⟨⟩⟩⟩ := t
  show SJ _ _ _ _ _ _ _ _ [⟨0, (Int × Int), first_0⟩, ⟨1, (Int × Int), second_0⟩] _ _ (times_b first_0 second_0)
  unfold times_b
  exact (SJ.retR ((RJ.ofR (RE.callR C_fraction hr rfl (RArg.cons (P_mul (A_tup tup0 (fun _ _ => rfl) (AE.var 0 rfl)) (A_tup tup0 (fun _ _ => rfl) (AE.var 1 rfl))) (RArg.cons (P_mul (A_tup tup1 (fun _ _ => rfl) (AE.var 0 rfl)) (A_tup tup1 (fun _ _ => rfl) (AE.var 1 rfl))) RArg.nil))))))
theorem w_moving_means {f : Addr} {fd : FuncData} (F : Fun K "moving_means" "moving_means" s_moving_means f fd) (gx : mg "moving_means" = some (.ref f)) (bd : Binds K fd ["values", "width"] []) (T : Tx P w K mg base c_SlotError c_InvalidTime c_InvalidMoney c_InvalidTable) (C_fraction : Cal P w K mg base "fraction" 3 (spM K mg fraction)) : Cal P w K mg base "moving_means" 4 (spM K mg moving_means) := by
  have nd := sc_moving_means.nd
  refine cal_m (k := 3) (κ := Unit) (body := fun t => moving_means_b t.1 t.2.1) F sc_moving_means gx bd rfl (fun _ => rfl) fun cdv A outer s H E G0 t hG0 hr => ?_
  obtain ⟨values_0, ⟨width_0, ⟨⟩⟩⟩ := t
  show SJ _ _ _ _ _ _ _ _ [⟨0, (List Int), values_0⟩, ⟨1, Int, width_0⟩] _ _ (moving_means_b values_0 width_0)
  unfold moving_means_b
  exact (SJ.if_x ((TJ.ofA (TA_lt (AE.var 1 rfl) AE.int))) (SJ.raise rfl T.e_InvalidTable hr rfl AE.str ⟨_, rfl, (by decide +kernel)⟩ (by decide +kernel)) (SJ.retR ((RJ.ofR (RE.lc (own := [("at", 2)]) rfl nd (blkOk_by (N := ["values", "width", "at"]) (sc := defScope s_moving_means) (by decide +kernel)) (IE.rng1A T.z_range rfl (A_add (A_sub (A_len T.z_len rfl (h1 := (AE.var 0 rfl))) (AE.var 1 rfl)) AE.int)) (fun _ h => h) (fun _ _ _ _ _ => (GA.name 2 nd rfl (by first | exact .inl rfl | exact .inr rfl))) (fun _ _ _ _ _ _ => QR.nil) (fun x22 _ _ _ _ _ => (RE.callA C_fraction hr rfl (AArg.cons (A_sum T.z_sum rfl rfl (h1 := (AE.slice (AE.var 0 rfl) (PA1.some (AE.var 2 rfl)) (PA1.some (A_add (AE.var 2 rfl) (AE.var 1 rfl)))))) (AArg.cons (AE.var 1 rfl) AArg.nil)))))))))
theorem w_smoothed {f : Addr} {fd : FuncData} (F : Fun K "smoothed" "smoothed" s_smoothed f fd) (gx : mg "smoothed" = some (.ref f)) (bd : Binds K fd ["values", "weight"] []) (T : Tx P w K mg base c_SlotError c_InvalidTime c_InvalidMoney c_InvalidTable) (C_fraction : Cal P w K mg base "fraction" 3 (spM K mg fraction)) (C_plus : Cal P w K mg base "plus" 4 (spM K mg plus)) (C_times : Cal P w K mg base "times" 4 (spM K mg times)) : Cal P w K mg base "smoothed" 5 (spM K mg smoothed) := by
  have nd := sc_smoothed.nd
  refine cal_m (k := 4) (κ := Unit) (body := fun t => smoothed_b t.1 t.2.1) F sc_smoothed gx bd rfl (fun _ => rfl) fun cdv A outer s H E G0 t hG0 hr => ?_
  obtain ⟨values_0, ⟨weight_0, ⟨⟩⟩⟩ := t
  show SJ _ _ _ _ _ _ _ _ [⟨0, (List Int), values_0⟩, ⟨1, (VT Int), weight_0⟩] _ _ (smoothed_b values_0 weight_0)
  unfold smoothed_b
  exact (SJ.if_x ((TJ.ofR (WR.t (WR.or (TR.ofA (TA_ne (A_lenV T.z_len rfl (h1 := (AE.var 1 rfl))) AE.int)) (WR.or (TR_lt (P_ixV (fun _ _ => rfl) (AE.var 1 rfl) AE.int) (RE.ofA AE.int)) (WR.or1 (TR.not (TR_ch_le_le (RE.ofA AE.int) (P_ixV (fun _ _ => rfl) (AE.var 1 rfl) AE.int) (P_ixV (fun _ _ => rfl) (AE.var 1 rfl) AE.int))))))))) (SJ.raise rfl T.e_InvalidTable hr rfl AE.str ⟨_, rfl, (by decide +kernel)⟩ (by decide +kernel)) (SJ.set_R 2 nd rfl (by first | exact .inl rfl | exact .inr rfl) ((RJ.ofR (RE.callR C_fraction hr rfl (RArg.cons (P_ixV (fun _ _ => rfl) (AE.var 1 rfl) AE.int) (RArg.cons (P_ixV (fun _ _ => rfl) (AE.var 1 rfl) AE.int) RArg.nil))))) (fun part_34 => (SJ.set_R 3 nd rfl (by first | exact .inl rfl | exact .inr rfl) ((RJ.ofR (RE.callR C_fraction hr rfl (RArg.cons (R_sub (P_ixV (fun _ _ => rfl) (AE.var 1 rfl) AE.int) (P_ixV (fun _ _ => rfl) (AE.var 1 rfl) AE.int)) (RArg.cons (P_ixV (fun _ _ => rfl) (AE.var 1 rfl) AE.int) RArg.nil))))) (fun rest_39 => (SJ.new 4 nd rfl (by first | exact .inl rfl | exact .inr rfl) (FA.nil (α := (Int × Int))) (fun p46 found_47 => (SJ.for_ (ν' := (List (Int × Int))) (fun s48 => [⟨2, (Int × Int), part_34⟩, ⟨3, (Int × Int), rest_39⟩, ⟨4, CRef, ⟨p46⟩⟩]) (fun s48 => [⟨p46, (List (Int × Int)), s48⟩]) found_47 passes_cx rfl (IE.listA (AE.var 0 rfl)) (GA.name 5 nd rfl (by first | exact .inl rfl | exact .inr rfl)) (Sub.cons rfl (Sub.cons rfl (Sub.cons rfl Sub.nil))) (List.Sublist.refl _) (fun s48 x49 => by unfold smoothed_L1; exact (SJ.if_j (ν' := (List (Int × Int))) (fun s62 => [⟨2, (Int × Int), part_34⟩, ⟨3, (Int × Int), rest_39⟩, ⟨4, CRef, ⟨p46⟩⟩]) (fun s62 => [⟨p46, (List (Int × Int)), s62⟩]) (TJ.peek 4 0 rfl rfl ((TJ.ofA (TA.list (AE.var 4 rfl))))) (SJ.push 4 0 rfl rfl (RJ.peek 4 0 rfl rfl ((RJ.ofR (RE.callR C_plus hr rfl (RArg.cons (RE.callA C_times hr rfl (AArg.cons (AE.var 2 rfl) (AArg.cons (A_tup2 (AE.var 5 rfl) AE.int) AArg.nil))) (RArg.cons (RE.callR C_times hr rfl (RArg.cons (RE.ofA (AE.var 3 rfl)) (RArg.cons (P_ix (fun _ _ => rfl) (AE.var 4 rfl) (A_neg AE.int)) RArg.nil))) RArg.nil)))))) (fun found_51 => (SJ.nil found_51 (Sub.cons rfl (Sub.cons rfl (Sub.cons rfl Sub.nil))) (List.Sublist.refl _)))) (SJ.pushA 4 0 rfl rfl ((RJ.ofA (A_tup2 (AE.var 5 rfl) AE.int))) (fun found_61 => (SJ.nil found_61 (Sub.cons rfl (Sub.cons rfl (Sub.cons rfl Sub.nil))) (List.Sublist.refl _)))) (fun s62 => (SJ.nil s62 (Sub.cons rfl (Sub.cons rfl (Sub.cons rfl Sub.nil))) (List.Sublist.refl _))))) (fun s48 => (SJ.freeze 4 0 rfl rfl (SJ.retA ((RJ.ofA (AE.var 4 rfl))))))))))))))
theorem w_season_means {f : Addr} {fd : FuncData} (F : Fun K "season_means" "season_means" s_season_means f fd) (gx : mg "season_means" = some (.ref f)) (bd : Binds K fd ["values", "period"] []) (T : Tx P w K mg base c_SlotError c_InvalidTime c_InvalidMoney c_InvalidTable) (C_fraction : Cal P w K mg base "fraction" 3 (spM K mg fraction)) : Cal P w K mg base "season_means" 4 (spM K mg season_means) := by
  have nd := sc_season_means.nd
  refine cal_m (k := 3) (κ := Unit) (body := fun t => season_means_b t.1 t.2.1) F sc_season_means gx bd rfl (fun _ => rfl) fun cdv A outer s H E G0 t hG0 hr => ?_
  obtain ⟨values_0, ⟨period_0, ⟨⟩⟩⟩ := t
  show SJ _ _ _ _ _ _ _ _ [⟨0, (List Int), values_0⟩, ⟨1, Int, period_0⟩] _ _ (season_means_b values_0 period_0)
  unfold season_means_b
  exact (SJ.if_x ((TJ.ofA (TA_lt (AE.var 1 rfl) AE.int))) (SJ.raise rfl T.e_InvalidTable hr rfl AE.str ⟨_, rfl, (by decide +kernel)⟩ (by decide +kernel)) (SJ.new 2 nd rfl (by first | exact .inl rfl | exact .inr rfl) (FA.nil (α := (Option (Int × Int)))) (fun p65 found_66 => (SJ.for_ (ν' := (List (Option (Int × Int)))) (fun s67 => [⟨0, (List Int), values_0⟩, ⟨1, Int, period_0⟩, ⟨2, CRef, ⟨p65⟩⟩]) (fun s67 => [⟨p65, (List (Option (Int × Int))), s67⟩]) found_66 passes_cx rfl (IE.rng1A T.z_range rfl (AE.var 1 rfl)) (GA.name 3 nd rfl (by first | exact .inl rfl | exact .inr rfl)) (Sub.cons rfl (Sub.cons rfl (Sub.cons rfl Sub.nil))) (List.Sublist.refl _) (fun s67 x68 => by unfold season_means_L1; exact (SJ.set_R 4 nd rfl (by first | exact .inl rfl | exact .inr rfl) ((RJ.ofR (RE.ofF (FP.slice3 (AE.var 0 rfl) (PA1.some (AE.var 3 rfl)) PA1.none (PA1.some (AE.var 1 rfl)))))) (fun rows_69 => (SJ.push 2 0 rfl rfl ((RJ.ofR (RE.ife (TR.ofA (TA.list (AE.var 4 rfl))) (RE.someO (RE.callA C_fraction hr rfl (AArg.cons (A_sum T.z_sum rfl rfl (h1 := (AE.var 4 rfl))) (AArg.cons (A_len T.z_len rfl (h1 := (AE.var 4 rfl))) AArg.nil)))) (RE.ofA AE.noneO)))) (fun found_70 => (SJ.nil found_70 (Sub.cons rfl (Sub.cons rfl (Sub.cons rfl Sub.nil))) (List.Sublist.refl _))))))) (fun s67 => (SJ.freeze 2 0 rfl rfl (SJ.retA ((RJ.ofA (AE.var 2 rfl))))))))))
theorem w_season_forecast {f : Addr} {fd : FuncData} (F : Fun K "season_forecast" "season_forecast" s_season_forecast f fd) (gx : mg "season_forecast" = some (.ref f)) (bd : Binds K fd ["values", "period", "count"] []) (T : Tx P w K mg base c_SlotError c_InvalidTime c_InvalidMoney c_InvalidTable) (C_season_means : Cal P w K mg base "season_means" 4 (spM K mg season_means)) : Cal P w K mg base "season_forecast" 5 (spM K mg season_forecast) := by
  have nd := sc_season_forecast.nd
  refine cal_m (k := 4) (κ := Unit) (body := fun t => season_forecast_b t.1 t.2.1 t.2.2.1) F sc_season_forecast gx bd rfl (fun _ => rfl) fun cdv A outer s H E G0 t hG0 hr => ?_
  obtain ⟨values_0, ⟨period_0, ⟨count_0, ⟨⟩⟩⟩⟩ := t
  show SJ _ _ _ _ _ _ _ _ [⟨0, (List Int), values_0⟩, ⟨1, Int, period_0⟩, ⟨2, Int, count_0⟩] _ _ (season_forecast_b values_0 period_0 count_0)
  unfold season_forecast_b
  exact (SJ.set_R 3 nd rfl (by first | exact .inl rfl | exact .inr rfl) ((RJ.ofR (RE.callA C_season_means hr rfl (AArg.cons (AE.var 0 rfl) (AArg.cons (AE.var 1 rfl) AArg.nil))))) (fun means_75 => (SJ.if_x ((TJ.ofR (TP_inD (hu65 hr) rfl AE.noneD (AE.toD (AE.var 3 rfl))))) (SJ.raise rfl T.e_InvalidTable hr rfl AE.str ⟨_, rfl, (by decide +kernel)⟩ (by decide +kernel)) (SJ.if_x ((TJ.ofA (TA_lt (AE.var 2 rfl) AE.int))) (SJ.raise rfl T.e_InvalidTable hr rfl AE.str ⟨_, rfl, (by decide +kernel)⟩ (by decide +kernel)) (SJ.retR ((RJ.ofR (RE.lc (own := [("at", 4)]) rfl nd (blkOk_by (N := ["values", "period", "count", "means", "at"]) (sc := defScope s_season_forecast) (by decide +kernel)) (IE.rng1A T.z_range rfl (AE.var 2 rfl)) (fun _ h => h) (fun _ _ _ _ _ => (GA.name 4 nd rfl (by first | exact .inl rfl | exact .inr rfl))) (fun _ _ _ _ _ _ => QR.nil) (fun x78 _ _ _ _ _ => (R_ix (fun _ _ => rfl) (RE.ofA (AE.var 3 rfl)) (P_mod (A_add (A_len T.z_len rfl (h1 := (AE.var 0 rfl))) (AE.var 4 rfl)) (AE.var 1 rfl))))))))))))
theorem w_mean_gap {f : Addr} {fd : FuncData} (F : Fun K "mean_gap" "mean_gap" s_mean_gap f fd) (gx : mg "mean_gap" = some (.ref f)) (bd : Binds K fd ["values", "forecasts"] []) (T : Tx P w K mg base c_SlotError c_InvalidTime c_InvalidMoney c_InvalidTable) (C_fraction : Cal P w K mg base "fraction" 3 (spM K mg fraction)) (C_plus : Cal P w K mg base "plus" 4 (spM K mg plus)) (C_times : Cal P w K mg base "times" 4 (spM K mg times)) : Cal P w K mg base "mean_gap" 5 (spM K mg mean_gap) := by
  have nd := sc_mean_gap.nd
  refine cal_m (k := 4) (κ := Unit) (body := fun t => mean_gap_b t.1 t.2.1) F sc_mean_gap gx bd rfl (fun _ => rfl) fun cdv A outer s H E G0 t hG0 hr => ?_
  obtain ⟨values_0, ⟨forecasts_0, ⟨⟩⟩⟩ := t
  show SJ _ _ _ _ _ _ _ _ [⟨0, (List Int), values_0⟩, ⟨1, (List (Int × Int)), forecasts_0⟩] _ _ (mean_gap_b values_0 forecasts_0)
  unfold mean_gap_b
  exact (SJ.if_x ((TJ.ofA (WA.t (WA.or (TA.not (TA.list (AE.var 0 rfl))) (WA.or1 (TA_ne (A_len T.z_len rfl (h1 := (AE.var 0 rfl))) (A_len T.z_len rfl (h1 := (AE.var 1 rfl))))))))) (SJ.raise rfl T.e_InvalidTable hr rfl AE.str ⟨_, rfl, (by decide +kernel)⟩ (by decide +kernel)) (SJ.set_A 2 nd rfl (by first | exact .inl rfl | exact .inr rfl) ((RJ.ofA (A_tup2 AE.int AE.int))) (fun total_84 => (SJ.for_ (ν' := (Int × Int)) (fun s85 => [⟨0, (List Int), values_0⟩, ⟨2, (Int × Int), s85⟩]) (fun s85 => []) total_84 passes_cx rfl (IE.zipA T.z_zip rfl (AE.var 0 rfl) (AE.var 1 rfl)) (GA.pair rfl (GA.name 3 nd rfl (by first | exact .inl rfl | exact .inr rfl)) (GA.pair rfl (GA.name 4 nd rfl (by first | exact .inl rfl | exact .inr rfl)) (GA.name 5 nd rfl (by first | exact .inl rfl | exact .inr rfl)))) (Sub.cons rfl (Sub.cons rfl Sub.nil)) (List.nil_sublist _) (fun s85 x86 => by unfold mean_gap_L1; exact (SJ.set_R 2 nd rfl (by first | exact .inl rfl | exact .inr rfl) ((RJ.ofR (RE.callR C_plus hr rfl (RArg.cons (RE.ofA (AE.var 2 rfl)) (RArg.cons (RE.callR C_fraction hr rfl (RArg.cons (R_abs T.z_abs rfl (h1 := (R_sub (P_mul (AE.var 3 rfl) (AE.var 5 rfl)) (RE.ofA (AE.var 4 rfl))))) (RArg.cons (RE.ofA (AE.var 5 rfl)) RArg.nil))) RArg.nil))))) (fun total_87 => (SJ.nil total_87 (Sub.cons rfl (Sub.cons rfl Sub.nil)) (List.nil_sublist _))))) (fun s85 => (SJ.retR ((RJ.ofR (RE.callA C_times hr rfl (AArg.cons (AE.var 2 rfl) (AArg.cons (A_tup2 AE.int (A_len T.z_len rfl (h1 := (AE.var 0 rfl)))) AArg.nil)))))))))))
theorem w_law_deck {f : Addr} {fd : FuncData} (F : Fun K "_law_deck" "_law_deck" s__law_deck f fd) (gx : mg "_law_deck" = some (.ref f)) (bd : Binds K fd ["script", "cells", "each"] []) (T : Tx P w K mg base c_SlotError c_InvalidTime c_InvalidMoney c_InvalidTable) : Cal P w K mg base "_law_deck" 1 (spF K mg law_deck) := by
  have nd := sc__law_deck.nd
  refine cal_f (k := 0) (κ := Unit) (body := fun t => law_deck_b t.1 t.2.1 t.2.2.1) F sc__law_deck gx bd rfl (fun _ => rfl) fun cdv A outer s H E G0 t hG0 hr => ?_
  obtain ⟨script_0, ⟨cells_0, ⟨each_0, ⟨⟩⟩⟩⟩ := t
  show SJ _ _ _ _ _ _ _ _ [⟨0, Scr, script_0⟩, ⟨1, Int, cells_0⟩, ⟨2, Int, each_0⟩] _ _ (law_deck_b script_0 cells_0 each_0)
  unfold law_deck_b
  exact (SJ.new 3 nd rfl (by first | exact .inl rfl | exact .inr rfl) (FA.nil (α := Int)) (fun p101 deck_102 => (SJ.set_A 4 nd rfl (by first | exact .inl rfl | exact .inr rfl) ((RJ.ofA (A_add AE.int (A_lenScr T.z_len rfl (h1 := (AE.var 0 rfl)))))) (fun seed_103 => (SJ.for_ (ν' := ((List Int) × Int)) (fun s104 => [⟨0, Scr, script_0⟩, ⟨2, Int, each_0⟩, ⟨3, CRef, ⟨p101⟩⟩, ⟨4, Int, s104.2⟩]) (fun s104 => [⟨p101, (List Int), s104.1⟩]) (deck_102, seed_103) passes_cx rfl (IE.rng1A T.z_range rfl (AE.var 1 rfl)) (GA.name 5 nd rfl (by first | exact .inl rfl | exact .inr rfl)) (Sub.cons rfl (Sub.cons rfl (Sub.cons rfl (Sub.cons rfl Sub.nil)))) (List.Sublist.refl _) (fun s104 x105 => by unfold law_deck_L3; exact (SJ.set_A 6 nd rfl (by first | exact .inl rfl | exact .inr rfl) ((RJ.ofA AE.int)) (fun cell_106 => (SJ.if_j (ν' := Int) (fun s109 => [⟨0, Scr, script_0⟩, ⟨2, Int, each_0⟩, ⟨3, CRef, ⟨p101⟩⟩, ⟨4, Int, s104.2⟩, ⟨5, Int, x105⟩, ⟨6, Int, s109⟩]) (fun s109 => [⟨p101, (List Int), s104.1⟩]) ((TJ.ofA (TA_lt (AE.var 5 rfl) (A_lenScr T.z_len rfl (h1 := (AE.var 0 rfl)))))) (SJ.set_R 6 nd rfl (by first | exact .inl rfl | exact .inr rfl) ((RJ.ofR (P_ixScr (fun _ _ => rfl) (AE.var 0 rfl) (AE.var 5 rfl)))) (fun cell_108 => (SJ.nil cell_108 (Sub.cons rfl (Sub.cons rfl (Sub.cons rfl (Sub.cons rfl (Sub.cons rfl (Sub.cons rfl Sub.nil)))))) (List.Sublist.refl _)))) (SJ.nil cell_106 (Sub.cons rfl (Sub.cons rfl (Sub.cons rfl (Sub.cons rfl (Sub.cons rfl (Sub.cons rfl Sub.nil)))))) (List.Sublist.refl _)) (fun s109 => (SJ.set_A 7 nd rfl (by first | exact .inl rfl | exact .inr rfl) ((RJ.ofA (A_abs T.z_abs rfl (h1 := (AE.var 6 rfl))))) (fun rest_110 => (SJ.if_j (ν' := ((List Int) × Int)) (fun s123 => [⟨0, Scr, script_0⟩, ⟨2, Int, each_0⟩, ⟨3, CRef, ⟨p101⟩⟩, ⟨4, Int, s123.2⟩]) (fun s123 => [⟨p101, (List Int), s123.1⟩]) ((TJ.ofA (TA_ge (AE.var 7 rfl) (AE.powL (by decide +kernel) AE.int AE.int)))) (SJ.for_ (ν' := ((List Int) × Int)) (fun s112 => [⟨0, Scr, script_0⟩, ⟨2, Int, each_0⟩, ⟨3, CRef, ⟨p101⟩⟩, ⟨4, Int, s104.2⟩, ⟨7, Int, s112.2⟩]) (fun s112 => [⟨p101, (List Int), s112.1⟩]) (s104.1, rest_110) passes_cx rfl (IE.rng1A T.z_range rfl (AE.var 2 rfl)) (GA.name 8 nd rfl (by first | exact .inl rfl | exact .inr rfl)) (Sub.cons rfl (Sub.cons rfl (Sub.cons rfl (Sub.cons rfl (Sub.cons rfl Sub.nil))))) (List.Sublist.refl _) (fun s112 x113 => by unfold law_deck_L1; exact (SJ.pushA 3 0 rfl rfl ((RJ.ofA (AE.modL (by decide +kernel) (A_intI T.z_int rfl (h1 := (AE.var 7 rfl))) AE.int))) (fun deck_114 => (SJ.set_A 7 nd rfl (by first | exact .inl rfl | exact .inr rfl) ((RJ.ofA (AE.divL (cdivw (by decide +kernel) (by decide +kernel)) (AE.var 7 rfl) AE.int))) (fun rest_115 => (SJ.nil (deck_114, rest_115) (Sub.cons rfl (Sub.cons rfl (Sub.cons rfl (Sub.cons rfl (Sub.cons rfl Sub.nil))))) (List.Sublist.refl _))))))) (fun s112 => (SJ.nil (s112.1, s104.2) (Sub.cons rfl (Sub.cons rfl (Sub.cons rfl (Sub.cons rfl Sub.nil)))) (List.Sublist.refl _)))) (SJ.set_A 4 nd rfl (by first | exact .inl rfl | exact .inr rfl) ((RJ.ofA (AE.modL (by decide +kernel) (A_intI T.z_int rfl (h1 := (A_add (A_add (A_add (AE.mulL (cmul_r ⟨by decide +kernel, by decide +kernel⟩) (AE.var 4 rfl) AE.int) (AE.mulL (cmul_l ⟨by decide +kernel, by decide +kernel⟩) AE.int (AE.var 7 rfl))) (A_intB T.z_int rfl (h1 := (A_lt (AE.var 6 rfl) AE.int)))) (AE.var 5 rfl)))) AE.int))) (fun seed_117 => (SJ.for_ (ν' := ((List Int) × Int)) (fun s118 => [⟨0, Scr, script_0⟩, ⟨2, Int, each_0⟩, ⟨3, CRef, ⟨p101⟩⟩, ⟨4, Int, s118.2⟩]) (fun s118 => [⟨p101, (List Int), s118.1⟩]) (s104.1, seed_117) passes_cx rfl (IE.rng1A T.z_range rfl (AE.var 2 rfl)) (GA.name 8 nd rfl (by first | exact .inl rfl | exact .inr rfl)) (Sub.cons rfl (Sub.cons rfl (Sub.cons rfl (Sub.cons rfl Sub.nil)))) (List.Sublist.refl _) (fun s118 x119 => by unfold law_deck_L2; exact (SJ.set_A 4 nd rfl (by first | exact .inl rfl | exact .inr rfl) ((RJ.ofA (AE.modL (by decide +kernel) (A_intI T.z_int rfl (h1 := (A_add (A_add (AE.mulL (cmul_r ⟨by decide +kernel, by decide +kernel⟩) (AE.var 4 rfl) AE.int) (AE.var 8 rfl)) AE.int))) AE.int))) (fun seed_120 => (SJ.pushA 3 0 rfl rfl ((RJ.ofA (AE.modL (by decide +kernel) (A_intI T.z_int rfl (h1 := (AE.divL (cdivw (by decide +kernel) (by decide +kernel)) (AE.var 4 rfl) AE.int))) AE.int))) (fun deck_121 => (SJ.nil (deck_121, seed_120) (Sub.cons rfl (Sub.cons rfl (Sub.cons rfl (Sub.cons rfl Sub.nil)))) (List.Sublist.refl _))))))) (fun s118 => (SJ.nil (s118.1, s118.2) (Sub.cons rfl (Sub.cons rfl (Sub.cons rfl (Sub.cons rfl Sub.nil)))) (List.Sublist.refl _)))))) (fun s123 => (SJ.nil (s123.1, s123.2) (Sub.cons rfl (Sub.cons rfl (Sub.cons rfl (Sub.cons rfl Sub.nil)))) (List.Sublist.refl _))))))))))) (fun s104 => (SJ.ex_S 0 (f := fun m128 => (Res.ok (Out.rt m128))) rfl (SE.rev 3 rfl) (fun m128 => (SJ.retF 3 rfl (List.Sublist.refl _))))))))))
theorem w_law_take {f : Addr} {fd : FuncData} (F : Fun K "_law_take" "_law_take" s__law_take f fd) (gx : mg "_law_take" = some (.ref f)) (bd : Binds K fd ["deck", "many"] []) (T : Tx P w K mg base c_SlotError c_InvalidTime c_InvalidMoney c_InvalidTable) : Cal P w K mg base "_law_take" 1 (spC K law_take) := by
  have nd := sc__law_take.nd
  refine cal_c (k := 0) (κ := Unit) (body := fun m t => law_take_b m t.1) F sc__law_take gx bd rfl (fun _ _ => rfl) fun cdv A outer s H E G0 p0 deck_m t hG0 hr => ?_
  obtain ⟨many_0, ⟨⟩⟩ := t
  show SJ _ _ _ _ _ _ _ _ [⟨0, CRef, ⟨p0⟩⟩, ⟨1, Int, many_0⟩] _ _ (law_take_b deck_m many_0)
  unfold law_take_b
  exact (SJ.if_x (TJ.peek 0 0 rfl rfl ((TJ.ofA (TA_eq (A_len T.z_len rfl (h1 := (AE.var 0 rfl))) AE.int)))) (SJ.retCA (List.Sublist.refl _) ((RJ.ofA AE.int))) (SJ.retCS (S_mod (S_intI T.z_int rfl (h1 := (SE.pop 0 rfl))) (fun q131 => (SE.ofA (AE.var 1 rfl))))))
theorem w_law_gcd {f : Addr} {fd : FuncData} (F : Fun K "_law_gcd" "_law_gcd" s__law_gcd f fd) (gx : mg "_law_gcd" = some (.ref f)) (bd : Binds K fd ["one", "two"] []) (T : Tx P w K mg base c_SlotError c_InvalidTime c_InvalidMoney c_InvalidTable) : Cal P w K mg base "_law_gcd" 1 (spM K mg law_gcd) := by
  have nd := sc__law_gcd.nd
  refine cal_m (k := 0) (κ := Unit) (body := fun t => law_gcd_b t.1 t.2.1) F sc__law_gcd gx bd rfl (fun _ => rfl) fun cdv A outer s H E G0 t hG0 hr => ?_
  obtain ⟨one_0, ⟨two_0, ⟨⟩⟩⟩ := t
  show SJ _ _ _ _ _ _ _ _ [⟨0, Int, one_0⟩, ⟨1, Int, two_0⟩] _ _ (law_gcd_b one_0 two_0)
  unfold law_gcd_b
  exact (SJ.set_A 0 nd rfl (by first | exact .inl rfl | exact .inr rfl) ((RJ.ofA (A_abs T.z_abs rfl (h1 := (AE.var 0 rfl))))) (fun one_141 => (SJ.set_A 1 nd rfl (by first | exact .inl rfl | exact .inr rfl) ((RJ.ofA (A_abs T.z_abs rfl (h1 := (AE.var 1 rfl))))) (fun two_142 => (SJ.while_ (ν' := (Int × Int)) (fun s143 => [⟨0, Int, s143.1⟩, ⟨1, Int, s143.2⟩]) (fun s143 => []) (Int.natAbs two_142 + 1) (one_141, two_142) passes_cx (Sub.cons rfl (Sub.cons rfl Sub.nil)) (List.nil_sublist _) (fun s143 => by unfold law_gcd_L1t; exact ((TJ.ofA (TA_ne (AE.var 1 rfl) AE.int)))) (fun s143 => by unfold law_gcd_L1; exact (SJ.par2 0 1 rfl nd rfl rfl (by decide) rfl rfl (RE.ofA (AE.var 1 rfl)) (P_mod (A_intI T.z_int rfl (h1 := (AE.var 0 rfl))) (AE.var 1 rfl)) (fun one_144 two_145 => (SJ.nil (one_144, two_145) (Sub.cons rfl (Sub.cons rfl Sub.nil)) (List.nil_sublist _))) (by rfl))) (fun s143 => (SJ.retA ((RJ.ofA (AE.var 0 rfl))))))))))
theorem w_law_fraction {f : Addr} {fd : FuncData} (F : Fun K "_law_fraction" "_law_fraction" s__law_fraction f fd) (gx : mg "_law_fraction" = some (.ref f)) (bd : Binds K fd ["above", "below"] []) (T : Tx P w K mg base c_SlotError c_InvalidTime c_InvalidMoney c_InvalidTable) (C_law_gcd : Cal P w K mg base "_law_gcd" 1 (spM K mg law_gcd)) : Cal P w K mg base "_law_fraction" 2 (spM K mg law_fraction) := by
  have nd := sc__law_fraction.nd
  refine cal_m (k := 1) (κ := Unit) (body := fun t => law_fraction_b t.1 t.2.1) F sc__law_fraction gx bd rfl (fun _ => rfl) fun cdv A outer s H E G0 t hG0 hr => ?_
  obtain ⟨above_0, ⟨below_0, ⟨⟩⟩⟩ := t
  show SJ _ _ _ _ _ _ _ _ [⟨0, Int, above_0⟩, ⟨1, Int, below_0⟩] _ _ (law_fraction_b above_0 below_0)
  unfold law_fraction_b
  exact (SJ.set_R 2 nd rfl (by first | exact .inl rfl | exact .inr rfl) ((RJ.ofR (RE.callA C_law_gcd hr rfl (AArg.cons (AE.var 0 rfl) (AArg.cons (AE.var 1 rfl) AArg.nil))))) (fun common_146 => (SJ.if_j (ν' := Int) (fun s149 => [⟨0, Int, above_0⟩, ⟨1, Int, below_0⟩, ⟨2, Int, s149⟩]) (fun s149 => []) ((TJ.ofA (TA_lt (AE.var 1 rfl) AE.int))) (SJ.set_A 2 nd rfl (by first | exact .inl rfl | exact .inr rfl) ((RJ.ofA (A_neg (AE.var 2 rfl)))) (fun common_148 => (SJ.nil common_148 (Sub.cons rfl (Sub.cons rfl (Sub.cons rfl Sub.nil))) (List.nil_sublist _)))) (SJ.nil common_146 (Sub.cons rfl (Sub.cons rfl (Sub.cons rfl Sub.nil))) (List.nil_sublist _)) (fun s149 => (SJ.retR ((RJ.ofR (R_tup2 (P_div (AE.var 0 rfl) (AE.var 2 rfl)) (P_div (AE.var 1 rfl) (AE.var 2 rfl))))))))))
theorem w_why_i {f : Addr} {fd : FuncData} (F : Fun K "_law_why" "_law_why" s__law_why f fd) (gx : mg "_law_why" = some (.ref f)) (bd : Binds K fd ["ask", "values", "one", "two"] []) (T : Tx P w K mg base c_SlotError c_InvalidTime c_InvalidMoney c_InvalidTable) (C_moving_means : Cal P w K mg base "moving_means" 4 (spM K mg moving_means)) (C_season_means : Cal P w K mg base "season_means" 4 (spM K mg season_means)) (C_season_forecast : Cal P w K mg base "season_forecast" 5 (spM K mg season_forecast)) : Cal P w K mg base "_law_why" 6 (spM K mg why_i) := by
  have nd := sc__law_why.nd
  refine cal_m (k := 5) (κ := Unit) (body := fun t => why_i_b t.1 t.2.1 t.2.2.1 t.2.2.2.1) F sc__law_why gx bd rfl (fun _ => rfl) fun cdv A outer s H E G0 t hG0 hr => ?_
  obtain ⟨ask_0, ⟨values_0, ⟨one_0, ⟨two_0, ⟨⟩⟩⟩⟩⟩ := t
  show SJ _ _ _ _ _ _ _ _ [⟨0, Int, ask_0⟩, ⟨1, (List Int), values_0⟩, ⟨2, Int, one_0⟩, ⟨3, Int, two_0⟩] _ _ (why_i_b ask_0 values_0 one_0 two_0)
  unfold why_i_b
  exact (SJ.try_as (ν' := Unit) 4 (fun s161 => []) (fun s161 => []) hG0 rfl rfl nd rfl rfl ⟨rfl, by decide, .inl T.g_SlotError⟩ (fun pn xe passes_cx => (SJ.if_j (ν' := Unit) (fun s160 => []) (fun s160 => []) ((TJ.ofA (TA_eq (AE.var 0 rfl) AE.int))) (SJ.ex_R ((RJ.ofR (RE.callA C_moving_means hr rfl (AArg.cons (AE.var 1 rfl) (AArg.cons (AE.var 2 rfl) AArg.nil))))) (fun _ => (SJ.nil () Sub.nil (List.nil_sublist _)))) (SJ.if_j (ν' := Unit) (fun s159 => []) (fun s159 => []) ((TJ.ofA (TA_eq (AE.var 0 rfl) AE.int))) SJ.bad (SJ.if_j (ν' := Unit) (fun s158 => []) (fun s158 => []) ((TJ.ofA (TA_eq (AE.var 0 rfl) AE.int))) (SJ.ex_R ((RJ.ofR (RE.callA C_season_means hr rfl (AArg.cons (AE.var 1 rfl) (AArg.cons (AE.var 2 rfl) AArg.nil))))) (fun _ => (SJ.nil () Sub.nil (List.nil_sublist _)))) (SJ.if_j (ν' := Unit) (fun s157 => []) (fun s157 => []) ((TJ.ofA (TA_eq (AE.var 0 rfl) AE.int))) (SJ.ex_R ((RJ.ofR (RE.callA C_season_forecast hr rfl (AArg.cons (AE.var 1 rfl) (AArg.cons (AE.var 2 rfl) (AArg.cons (AE.var 3 rfl) AArg.nil)))))) (fun _ => (SJ.nil () Sub.nil (List.nil_sublist _)))) SJ.bad (fun s157 => (SJ.nil () Sub.nil (List.nil_sublist _)))) (fun s158 => (SJ.nil () Sub.nil (List.nil_sublist _)))) (fun s159 => (SJ.nil () Sub.nil (List.nil_sublist _)))) (fun s160 => (SJ.nil () Sub.nil (List.nil_sublist _))))) (fun c x hne => by
      unfold why_i_h at hne ⊢
      by_cases hc : c = "InvalidTable"
      · subst hc
        rw [if_pos rfl] at hne ⊢
        cases x with
        | str z => exact ⟨_, T.g_InvalidTable, T.x_InvalidTable, fun a d oe pn hz hv => (SJ.cast (r' := Res.bind (Res.ok (true && (!false))) fun k => cond k (Res.up (Res.ok (Out.rt (Option.some z)))) Res.bad) rfl (SJ.if_x (TJ.ofA (WA.t (WA.and (TA.val (A_isE 4 T.i_InvalidTable hz hv rfl T.z_isinstance rfl T.g_InvalidTable rfl T.k_InvalidTable_InvalidTable rfl (by first | exact Or.inl rfl | exact Or.inr (Or.inl rfl) | exact Or.inr (Or.inr rfl)))) (WA.and1 (TA.not (TA.val (A_isE 4 T.i_InvalidTable hz hv rfl T.z_isinstance rfl T.g_InvalidTime rfl T.k_InvalidTable_InvalidTime rfl (by first | exact Or.inl rfl | exact Or.inr (Or.inl rfl) | exact Or.inr (Or.inr rfl))))))))) (SJ.retA (RJ.ofA (AE.someO (A_exf 4 (by decide +kernel) T.f_InvalidTable T.n_InvalidTable_what hz hv rfl rfl (by first | exact Or.inl rfl | exact Or.inr (Or.inl rfl) | exact Or.inr (Or.inr rfl)) (fun _ _ => rfl))))) SJ.bad))⟩
        | _ => exact absurd rfl hne
      rw [if_neg hc] at hne ⊢
      exact absurd rfl hne) (fun s161 => (SJ.retA ((RJ.ofA AE.noneO)))))
theorem w_why_v {f : Addr} {fd : FuncData} (F : Fun K "_law_why" "_law_why" s__law_why f fd) (gx : mg "_law_why" = some (.ref f)) (bd : Binds K fd ["ask", "values", "one", "two"] []) (T : Tx P w K mg base c_SlotError c_InvalidTime c_InvalidMoney c_InvalidTable) (C_smoothed : Cal P w K mg base "smoothed" 5 (spM K mg smoothed)) : Cal P w K mg base "_law_why" 6 (spM K mg why_v) := by
  have nd := sc__law_why.nd
  refine cal_m (k := 5) (κ := Unit) (body := fun t => why_v_b t.1 t.2.1 t.2.2.1 t.2.2.2.1) F sc__law_why gx bd rfl (fun _ => rfl) fun cdv A outer s H E G0 t hG0 hr => ?_
  obtain ⟨ask_0, ⟨values_0, ⟨one_0, ⟨two_0, ⟨⟩⟩⟩⟩⟩ := t
  show SJ _ _ _ _ _ _ _ _ [⟨0, Int, ask_0⟩, ⟨1, (List Int), values_0⟩, ⟨2, (VT Int), one_0⟩, ⟨3, Int, two_0⟩] _ _ (why_v_b ask_0 values_0 one_0 two_0)
  unfold why_v_b
  exact (SJ.try_as (ν' := Unit) 4 (fun s170 => []) (fun s170 => []) hG0 rfl rfl nd rfl rfl ⟨rfl, by decide, .inl T.g_SlotError⟩ (fun pn xe passes_cx => (SJ.if_j (ν' := Unit) (fun s169 => []) (fun s169 => []) ((TJ.ofA (TA_eq (AE.var 0 rfl) AE.int))) SJ.bad (SJ.if_j (ν' := Unit) (fun s168 => []) (fun s168 => []) ((TJ.ofA (TA_eq (AE.var 0 rfl) AE.int))) (SJ.ex_R ((RJ.ofR (RE.callA C_smoothed hr rfl (AArg.cons (AE.var 1 rfl) (AArg.cons (AE.var 2 rfl) AArg.nil))))) (fun _ => (SJ.nil () Sub.nil (List.nil_sublist _)))) (SJ.if_j (ν' := Unit) (fun s167 => []) (fun s167 => []) ((TJ.ofA (TA_eq (AE.var 0 rfl) AE.int))) SJ.bad (SJ.if_j (ν' := Unit) (fun s166 => []) (fun s166 => []) ((TJ.ofA (TA_eq (AE.var 0 rfl) AE.int))) SJ.bad SJ.bad (fun s166 => (SJ.nil () Sub.nil (List.nil_sublist _)))) (fun s167 => (SJ.nil () Sub.nil (List.nil_sublist _)))) (fun s168 => (SJ.nil () Sub.nil (List.nil_sublist _)))) (fun s169 => (SJ.nil () Sub.nil (List.nil_sublist _))))) (fun c x hne => by
      unfold why_v_h at hne ⊢
      by_cases hc : c = "InvalidTable"
      · subst hc
        rw [if_pos rfl] at hne ⊢
        cases x with
        | str z => exact ⟨_, T.g_InvalidTable, T.x_InvalidTable, fun a d oe pn hz hv => (SJ.cast (r' := Res.bind (Res.ok (true && (!false))) fun k => cond k (Res.up (Res.ok (Out.rt (Option.some z)))) Res.bad) rfl (SJ.if_x (TJ.ofA (WA.t (WA.and (TA.val (A_isE 4 T.i_InvalidTable hz hv rfl T.z_isinstance rfl T.g_InvalidTable rfl T.k_InvalidTable_InvalidTable rfl (by first | exact Or.inl rfl | exact Or.inr (Or.inl rfl) | exact Or.inr (Or.inr rfl)))) (WA.and1 (TA.not (TA.val (A_isE 4 T.i_InvalidTable hz hv rfl T.z_isinstance rfl T.g_InvalidTime rfl T.k_InvalidTable_InvalidTime rfl (by first | exact Or.inl rfl | exact Or.inr (Or.inl rfl) | exact Or.inr (Or.inr rfl))))))))) (SJ.retA (RJ.ofA (AE.someO (A_exf 4 (by decide +kernel) T.f_InvalidTable T.n_InvalidTable_what hz hv rfl rfl (by first | exact Or.inl rfl | exact Or.inr (Or.inl rfl) | exact Or.inr (Or.inr rfl)) (fun _ _ => rfl))))) SJ.bad))⟩
        | _ => exact absurd rfl hne
      rw [if_neg hc] at hne ⊢
      exact absurd rfl hne) (fun s170 => (SJ.retA ((RJ.ofA AE.noneO)))))
theorem w_why_l {f : Addr} {fd : FuncData} (F : Fun K "_law_why" "_law_why" s__law_why f fd) (gx : mg "_law_why" = some (.ref f)) (bd : Binds K fd ["ask", "values", "one", "two"] []) (T : Tx P w K mg base c_SlotError c_InvalidTime c_InvalidMoney c_InvalidTable) (C_mean_gap : Cal P w K mg base "mean_gap" 5 (spM K mg mean_gap)) : Cal P w K mg base "_law_why" 6 (spM K mg why_l) := by
  have nd := sc__law_why.nd
  refine cal_m (k := 5) (κ := Unit) (body := fun t => why_l_b t.1 t.2.1 t.2.2.1 t.2.2.2.1) F sc__law_why gx bd rfl (fun _ => rfl) fun cdv A outer s H E G0 t hG0 hr => ?_
  obtain ⟨ask_0, ⟨values_0, ⟨one_0, ⟨two_0, ⟨⟩⟩⟩⟩⟩ := t
  show SJ _ _ _ _ _ _ _ _ [⟨0, Int, ask_0⟩, ⟨1, (List Int), values_0⟩, ⟨2, (List (Int × Int)), one_0⟩, ⟨3, Int, two_0⟩] _ _ (why_l_b ask_0 values_0 one_0 two_0)
  unfold why_l_b
  exact (SJ.try_as (ν' := Unit) 4 (fun s179 => []) (fun s179 => []) hG0 rfl rfl nd rfl rfl ⟨rfl, by decide, .inl T.g_SlotError⟩ (fun pn xe passes_cx => (SJ.if_j (ν' := Unit) (fun s178 => []) (fun s178 => []) ((TJ.ofA (TA_eq (AE.var 0 rfl) AE.int))) SJ.bad (SJ.if_j (ν' := Unit) (fun s177 => []) (fun s177 => []) ((TJ.ofA (TA_eq (AE.var 0 rfl) AE.int))) SJ.bad (SJ.if_j (ν' := Unit) (fun s176 => []) (fun s176 => []) ((TJ.ofA (TA_eq (AE.var 0 rfl) AE.int))) SJ.bad (SJ.if_j (ν' := Unit) (fun s175 => []) (fun s175 => []) ((TJ.ofA (TA_eq (AE.var 0 rfl) AE.int))) SJ.bad (SJ.ex_R ((RJ.ofR (RE.callA C_mean_gap hr rfl (AArg.cons (AE.var 1 rfl) (AArg.cons (AE.var 2 rfl) AArg.nil))))) (fun _ => (SJ.nil () Sub.nil (List.nil_sublist _)))) (fun s175 => (SJ.nil () Sub.nil (List.nil_sublist _)))) (fun s176 => (SJ.nil () Sub.nil (List.nil_sublist _)))) (fun s177 => (SJ.nil () Sub.nil (List.nil_sublist _)))) (fun s178 => (SJ.nil () Sub.nil (List.nil_sublist _))))) (fun c x hne => by
      unfold why_l_h at hne ⊢
      by_cases hc : c = "InvalidTable"
      · subst hc
        rw [if_pos rfl] at hne ⊢
        cases x with
        | str z => exact ⟨_, T.g_InvalidTable, T.x_InvalidTable, fun a d oe pn hz hv => (SJ.cast (r' := Res.bind (Res.ok (true && (!false))) fun k => cond k (Res.up (Res.ok (Out.rt (Option.some z)))) Res.bad) rfl (SJ.if_x (TJ.ofA (WA.t (WA.and (TA.val (A_isE 4 T.i_InvalidTable hz hv rfl T.z_isinstance rfl T.g_InvalidTable rfl T.k_InvalidTable_InvalidTable rfl (by first | exact Or.inl rfl | exact Or.inr (Or.inl rfl) | exact Or.inr (Or.inr rfl)))) (WA.and1 (TA.not (TA.val (A_isE 4 T.i_InvalidTable hz hv rfl T.z_isinstance rfl T.g_InvalidTime rfl T.k_InvalidTable_InvalidTime rfl (by first | exact Or.inl rfl | exact Or.inr (Or.inl rfl) | exact Or.inr (Or.inr rfl))))))))) (SJ.retA (RJ.ofA (AE.someO (A_exf 4 (by decide +kernel) T.f_InvalidTable T.n_InvalidTable_what hz hv rfl rfl (by first | exact Or.inl rfl | exact Or.inr (Or.inl rfl) | exact Or.inr (Or.inr rfl)) (fun _ _ => rfl))))) SJ.bad))⟩
        | _ => exact absurd rfl hne
      rw [if_neg hc] at hne ⊢
      exact absurd rfl hne) (fun s179 => (SJ.retA ((RJ.ofA AE.noneO)))))
theorem w_lawM {f : Addr} {fd : FuncData} (F : Fun K "law" "law" s_law f fd) (T : Tx P w K mg base c_SlotError c_InvalidTime c_InvalidMoney c_InvalidTable) (C_law_deck : Cal P w K mg base "_law_deck" 1 (spF K mg law_deck)) (C_law_take : Cal P w K mg base "_law_take" 1 (spC K law_take)) (C_law_fraction : Cal P w K mg base "_law_fraction" 2 (spM K mg law_fraction)) (C_moving_means : Cal P w K mg base "moving_means" 4 (spM K mg moving_means)) (C_season_means : Cal P w K mg base "season_means" 4 (spM K mg season_means)) (C_mean_gap : Cal P w K mg base "mean_gap" 5 (spM K mg mean_gap)) (C_season_forecast : Cal P w K mg base "season_forecast" 5 (spM K mg season_forecast)) (C_smoothed : Cal P w K mg base "smoothed" 5 (spM K mg smoothed)) (C_why_i : Cal P w K mg base "_law_why" 6 (spM K mg why_i)) (C_why_l : Cal P w K mg base "_law_why" 6 (spM K mg why_l)) (C_why_v : Cal P w K mg base "_law_why" 6 (spM K mg why_v)) (C_plain : Cal P w K mg base "_law_plain" 9 (spM K mg plain)) : FnOk P w K mg base (L2.CX P w) 10 f fd ["script"] (spM K mg lawM) := by
  have nd := sc_law.nd
  refine fn_m (k := 9) (κ := Unit) (body := fun t => lawM_b t.1) F sc_law rfl (fun _ => rfl) fun cdv A outer s H E G0 t hG0 hr => ?_
  obtain ⟨script_0, ⟨⟩⟩ := t
  show SJ _ _ _ _ _ _ _ _ [⟨0, Scr, script_0⟩] _ _ (lawM_b script_0)
  unfold lawM_b
  exact (SJ.new 1 nd rfl (by first | exact .inl rfl | exact .inr rfl) (FR.callA C_law_deck hr rfl (AArg.cons (AE.var 0 rfl) (AArg.cons AE.int (AArg.cons AE.int AArg.nil)))) (fun p180 deck_181 => (SJ.set_S 2 0 rfl nd rfl (by first | exact .inl rfl | exact .inr rfl) (SE.lc (own := [("turn", 20)]) rfl nd (blkOk_by (N := ["script", "deck", "values", "handed", "width", "due", "below", "above", "wanted", "value", "period", "means", "at", "count", "bad", "answers", "rows", "later", "told", "total", "turn", "one", "two", "place"]) (sc := defScope s_law) (by decide +kernel)) (IS.rng1 T.z_range rfl (SE.callCB 1 C_law_take hr rfl rfl (AArg.cons AE.int AArg.nil))) (fun _ h => h) (fun _ _ _ _ _ => (GA.name 20 nd rfl (by first | exact .inl rfl | exact .inr rfl))) (fun _ _ _ _ _ _ => QR.nil) (fun m193 x191 _ _ _ _ _ => (S_sub (SE.callCB 1 C_law_take hr rfl rfl (AArg.cons AE.int AArg.nil)) (fun q194 => (SE.ofA AE.int))))) (fun q182 => (SJ.set_A 3 nd rfl (by first | exact .inl rfl | exact .inr rfl) ((RJ.ofA (A_list T.z_list rfl (h1 := (AE.var 2 rfl))))) (fun handed_200 => (SJ.set_S 4 0 rfl nd rfl (by first | exact .inl rfl | exact .inr rfl) (S_add (SE.ofA AE.int) (fun q202 => (SE.callCB 1 C_law_take hr rfl rfl (AArg.cons AE.int AArg.nil)))) (fun q201 => (SJ.setLc 5 (own := [("at", 12)]) rfl nd rfl rfl (sw_true rfl rfl rfl (by decide +kernel)) (blkOk_by (N := ["script", "deck", "values", "handed", "width", "due", "below", "above", "wanted", "value", "period", "means", "at", "count", "bad", "answers", "rows", "later", "told", "total", "turn", "one", "two", "place"]) (sc := defScope s_law) (by decide +kernel)) (IE.rng1A T.z_range rfl (A_max2 T.z_max rfl rfl (h1 := AE.int) (h2 := (A_add (A_sub (A_len T.z_len rfl (h1 := (AE.var 2 rfl))) (AE.var 4 rfl)) AE.int)))) (fun _ h => h) (fun _ _ _ _ _ => (GA.name 12 nd rfl (by first | exact .inl rfl | exact .inr rfl))) (fun _ _ _ _ _ _ => QR.nil) (fun x209 _ _ _ _ _ => (RE.callA C_law_fraction hr rfl (AArg.cons (A_sum T.z_sum rfl rfl (h1 := (AE.slice (AE.var 2 rfl) (PA1.some (AE.var 12 rfl)) (PA1.some (A_add (AE.var 12 rfl) (AE.var 4 rfl)))))) (AArg.cons (AE.var 4 rfl) AArg.nil)))) (fun due_208 => (SJ.if_x ((TJ.ofR (WR.t (WR.or (TR_neD (hu64 hr) (RE.callR C_plain hr rfl (RArg.cons (RE.toD (RE.callA C_moving_means hr rfl (AArg.cons (AE.var 3 rfl) (AArg.cons (AE.var 4 rfl) AArg.nil)))) RArg.nil)) (RE.callA C_plain hr rfl (AArg.cons (AE.toD (AE.var 5 rfl)) AArg.nil))) (WR.or1 (TR_neD (hu64 hr) (RE.toD (RE.callA C_moving_means hr rfl (AArg.cons (AE.var 2 rfl) (AArg.cons AE.int AArg.nil)))) (RE.ofA (AE.toD (AE.lcm (own := [("value", 9)]) rfl nd (blkOk_by (N := ["script", "deck", "values", "handed", "width", "due", "below", "above", "wanted", "value", "period", "means", "at", "count", "bad", "answers", "rows", "later", "told", "total", "turn", "one", "two", "place"]) (sc := defScope s_law) (by decide +kernel)) (IE.listA (AE.var 2 rfl)) (fun _ h => h) (fun _ _ _ _ _ => (GA.name 9 nd rfl (by first | exact .inl rfl | exact .inr rfl))) (fun x216 _ _ _ _ _ => (A_tup2 (AE.var 9 rfl) AE.int))))))))))) (SJ.retA ((RJ.ofA AE.bl))) (SJ.set_S 6 0 rfl nd rfl (by first | exact .inl rfl | exact .inr rfl) (S_add (SE.ofA AE.int) (fun q223 => (SE.callCB 1 C_law_take hr rfl rfl (AArg.cons AE.int AArg.nil)))) (fun q222 => (SJ.set_S 7 0 rfl nd rfl (by first | exact .inl rfl | exact .inr rfl) (SE.callCB 1 C_law_take hr rfl rfl (AArg.cons (A_add (AE.var 6 rfl) AE.int) AArg.nil)) (fun q229 => (SJ.new 8 nd rfl (by first | exact .inl rfl | exact .inr rfl) (FA.nil (α := (Int × Int))) (fun p233 wanted_234 => (SJ.for_ (ν' := (List (Int × Int))) (fun s235 => [⟨1, CRef, ⟨p180⟩⟩, ⟨2, (List Int), q182.1⟩, ⟨3, (List Int), handed_200⟩, ⟨6, Int, q222.1⟩, ⟨7, Int, q229.1⟩, ⟨8, CRef, ⟨p233⟩⟩]) (fun s235 => [⟨p233, (List (Int × Int)), s235⟩, ⟨p180, (List Int), q229.2⟩]) wanted_234 passes_cx rfl (IE.listA (AE.var 2 rfl)) (GA.name 9 nd rfl (by first | exact .inl rfl | exact .inr rfl)) (Sub.cons rfl (Sub.cons rfl (Sub.cons rfl (Sub.cons rfl (Sub.cons rfl (Sub.cons rfl Sub.nil)))))) (List.Sublist.refl _) (fun s235 x236 => by unfold lawM_L1; exact (SJ.if_j (ν' := (List (Int × Int))) (fun s250 => [⟨1, CRef, ⟨p180⟩⟩, ⟨2, (List Int), q182.1⟩, ⟨3, (List Int), handed_200⟩, ⟨6, Int, q222.1⟩, ⟨7, Int, q229.1⟩, ⟨8, CRef, ⟨p233⟩⟩]) (fun s250 => [⟨p233, (List (Int × Int)), s250⟩, ⟨p180, (List Int), q229.2⟩]) (TJ.peek 8 0 rfl rfl ((TJ.ofA (TA_eq (A_len T.z_len rfl (h1 := (AE.var 8 rfl))) AE.int)))) (SJ.pushA 8 0 rfl rfl ((RJ.ofA (A_tup2 (AE.var 9 rfl) AE.int))) (fun wanted_238 => (SJ.nil wanted_238 (Sub.cons rfl (Sub.cons rfl (Sub.cons rfl (Sub.cons rfl (Sub.cons rfl (Sub.cons rfl Sub.nil)))))) (List.Sublist.refl _)))) (SJ.asg_R (GA.pair rfl (GA.name 21 nd rfl (by first | exact .inl rfl | exact .inr rfl)) (GA.name 22 nd rfl (by first | exact .inl rfl | exact .inr rfl))) (RJ.peek 8 0 rfl rfl ((RJ.ofR (P_ix (fun _ _ => rfl) (AE.var 8 rfl) (A_neg AE.int))))) (fun q239 => (SJ.push 8 0 rfl rfl ((RJ.ofR (RE.callR C_law_fraction hr rfl (RArg.cons (R_add (R_mul (P_mul (AE.var 7 rfl) (AE.var 9 rfl)) (RE.ofA (AE.var 22 rfl))) (P_mul (A_sub (AE.var 6 rfl) (AE.var 7 rfl)) (AE.var 21 rfl))) (RArg.cons (P_mul (AE.var 6 rfl) (AE.var 22 rfl)) RArg.nil))))) (fun wanted_240 => (SJ.nil wanted_240 (Sub.cons rfl (Sub.cons rfl (Sub.cons rfl (Sub.cons rfl (Sub.cons rfl (Sub.cons rfl Sub.nil)))))) (List.Sublist.refl _)))))) (fun s250 => (SJ.nil s250 (Sub.cons rfl (Sub.cons rfl (Sub.cons rfl (Sub.cons rfl (Sub.cons rfl (Sub.cons rfl Sub.nil)))))) (List.Sublist.refl _))))) (fun s235 => (SJ.freeze 8 0 rfl rfl (SJ.if_x ((TJ.ofR (TR_neD (hu64 hr) (RE.callR C_plain hr rfl (RArg.cons (RE.toD (RE.callA C_smoothed hr rfl (AArg.cons (AE.var 3 rfl) (AArg.cons (AE.vtup (AArg.lcons (AE.var 7 rfl) (AArg.lcons (AE.var 6 rfl) AArg.lnil))) AArg.nil)))) RArg.nil)) (RE.callA C_plain hr rfl (AArg.cons (AE.toD (AE.var 8 rfl)) AArg.nil))))) (SJ.retA ((RJ.ofA AE.bl))) (SJ.if_x ((TJ.ofR (WR.t (WR.or (TR_neD (hu64 hr) (RE.toD (RE.callA C_smoothed hr rfl (AArg.cons (AE.var 2 rfl) (AArg.cons (AE.vtup (AArg.lcons (AE.var 6 rfl) (AArg.lcons (AE.var 6 rfl) AArg.lnil))) AArg.nil)))) (RE.ofA (AE.toD (AE.lcm (own := [("value", 9)]) rfl nd (blkOk_by (N := ["script", "deck", "values", "handed", "width", "due", "below", "above", "wanted", "value", "period", "means", "at", "count", "bad", "answers", "rows", "later", "told", "total", "turn", "one", "two", "place"]) (sc := defScope s_law) (by decide +kernel)) (IE.listA (AE.var 2 rfl)) (fun _ h => h) (fun _ _ _ _ _ => (GA.name 9 nd rfl (by first | exact .inl rfl | exact .inr rfl))) (fun x257 _ _ _ _ _ => (A_tup2 (AE.var 9 rfl) AE.int)))))) (WR.or1 (TR_neD (hu64 hr) (RE.toD (RE.callR C_smoothed hr rfl (RArg.cons (RP.rep (AE.lst (AArg.lcons AE.int AArg.lnil)) AE.int) (RArg.cons (RE.ofA (AE.vtup (AArg.lcons (AE.var 7 rfl) (AArg.lcons (AE.var 6 rfl) AArg.lnil)))) RArg.nil)))) (RE.toD (RP.rep (AE.lst (AArg.lcons (A_tup2 AE.int AE.int) AArg.lnil)) AE.int)))))))) (SJ.retA ((RJ.ofA AE.bl))) (SJ.set_S 10 0 rfl nd rfl (by first | exact .inl rfl | exact .inr rfl) (S_add (SE.ofA AE.int) (fun q272 => (SE.callCB 1 C_law_take hr rfl rfl (AArg.cons AE.int AArg.nil)))) (fun q271 => (SJ.new 11 nd rfl (by first | exact .inl rfl | exact .inr rfl) (FA.nil (α := (Option (Int × Int)))) (fun p278 means_279 => (SJ.for_ (ν' := (List (Option (Int × Int)))) (fun s280 => [⟨1, CRef, ⟨p180⟩⟩, ⟨2, (List Int), q182.1⟩, ⟨3, (List Int), handed_200⟩, ⟨10, Int, q271.1⟩, ⟨11, CRef, ⟨p278⟩⟩]) (fun s280 => [⟨p278, (List (Option (Int × Int))), s280⟩, ⟨p180, (List Int), q271.2⟩]) means_279 passes_cx rfl (IE.rng1A T.z_range rfl (AE.var 10 rfl)) (GA.name 12 nd rfl (by first | exact .inl rfl | exact .inr rfl)) (Sub.cons rfl (Sub.cons rfl (Sub.cons rfl (Sub.cons rfl (Sub.cons rfl Sub.nil))))) (List.Sublist.refl _) (fun s280 x281 => by unfold lawM_L2; exact (SJ.setLc 16 (own := [("place", 23)]) rfl nd rfl rfl (sw_true rfl rfl rfl (by decide +kernel)) (blkOk_by (N := ["script", "deck", "values", "handed", "width", "due", "below", "above", "wanted", "value", "period", "means", "at", "count", "bad", "answers", "rows", "later", "told", "total", "turn", "one", "two", "place"]) (sc := defScope s_law) (by decide +kernel)) (IE.rng1A T.z_range rfl (A_len T.z_len rfl (h1 := (AE.var 2 rfl)))) (fun _ h => h) (fun _ _ _ _ _ => (GA.name 23 nd rfl (by first | exact .inl rfl | exact .inr rfl))) (fun x283 _ _ _ _ _ => QR.one (TR_eq (P_mod (A_intI T.z_int rfl (h1 := (A_sub (AE.var 23 rfl) (AE.var 12 rfl)))) (AE.var 10 rfl)) (RE.ofA AE.int))) (fun x283 _ _ _ _ _ => (P_ix (fun _ _ => rfl) (AE.var 2 rfl) (AE.var 23 rfl))) (fun rows_282 => (SJ.push 11 0 rfl rfl ((RJ.ofR (RE.ife (TR.ofA (TA_gt (A_len T.z_len rfl (h1 := (AE.var 16 rfl))) AE.int)) (RE.someO (RE.callA C_law_fraction hr rfl (AArg.cons (A_sum T.z_sum rfl rfl (h1 := (AE.var 16 rfl))) (AArg.cons (A_len T.z_len rfl (h1 := (AE.var 16 rfl))) AArg.nil)))) (RE.ofA AE.noneO)))) (fun means_287 => (SJ.nil means_287 (Sub.cons rfl (Sub.cons rfl (Sub.cons rfl (Sub.cons rfl (Sub.cons rfl Sub.nil))))) (List.Sublist.refl _))))))) (fun s280 => (SJ.freeze 11 0 rfl rfl (SJ.if_x ((TJ.ofR (WR.t (WR.or (TR_neD (hu64 hr) (RE.callR C_plain hr rfl (RArg.cons (RE.toD (RE.callA C_season_means hr rfl (AArg.cons (AE.var 3 rfl) (AArg.cons (AE.var 10 rfl) AArg.nil)))) RArg.nil)) (RE.callA C_plain hr rfl (AArg.cons (AE.toD (AE.var 11 rfl)) AArg.nil))) (WR.or1 (TP_neD (hu64 hr) (AE.toD (AE.var 3 rfl)) (AE.toD (AE.var 2 rfl)))))))) (SJ.retA ((RJ.ofA AE.bl))) (SJ.set_S 13 0 rfl nd rfl (by first | exact .inl rfl | exact .inr rfl) (SE.callCB 1 C_law_take hr rfl rfl (AArg.cons AE.int AArg.nil)) (fun q298 => (SJ.if_j (ν' := Unit) (fun s322 => [⟨1, CRef, ⟨p180⟩⟩, ⟨2, (List Int), q182.1⟩]) (fun s322 => [⟨p180, (List Int), q298.2⟩]) ((TJ.ofR (TP_inD (hu65 hr) rfl AE.noneD (AE.toD (AE.var 11 rfl))))) (SJ.if_x ((TJ.ofR (TR_neD (hu64 hr) (RE.toD (RE.callA C_why_i hr rfl (AArg.cons AE.int (AArg.cons (AE.var 2 rfl) (AArg.cons (AE.var 10 rfl) (AArg.cons (AE.var 13 rfl) AArg.nil)))))) (RE.ofA (AE.toD AE.str))))) (SJ.retA ((RJ.ofA AE.bl))) (SJ.nil () (Sub.cons rfl (Sub.cons rfl Sub.nil)) (List.Sublist.refl _))) (SJ.setLc 17 (own := [("at", 12)]) rfl nd rfl rfl (sw_true rfl rfl rfl (by decide +kernel)) (blkOk_by (N := ["script", "deck", "values", "handed", "width", "due", "below", "above", "wanted", "value", "period", "means", "at", "count", "bad", "answers", "rows", "later", "told", "total", "turn", "one", "two", "place"]) (sc := defScope s_law) (by decide +kernel)) (IE.rng1A T.z_range rfl (AE.var 13 rfl)) (fun _ h => h) (fun _ _ _ _ _ => (GA.name 12 nd rfl (by first | exact .inl rfl | exact .inr rfl))) (fun _ _ _ _ _ _ => QR.nil) (fun x308 _ _ _ _ _ => (R_ix (fun _ _ => rfl) (RE.ofA (AE.var 11 rfl)) (P_mod (A_intI T.z_int rfl (h1 := (A_add (A_len T.z_len rfl (h1 := (AE.var 2 rfl))) (AE.var 12 rfl)))) (AE.var 10 rfl)))) (fun later_307 => (SJ.if_x ((TJ.ofR (WR.t (WR.or (TR_neD (hu64 hr) (RE.callR C_plain hr rfl (RArg.cons (RE.toD (RE.callA C_season_forecast hr rfl (AArg.cons (AE.var 2 rfl) (AArg.cons (AE.var 10 rfl) (AArg.cons (AE.var 13 rfl) AArg.nil))))) RArg.nil)) (RE.callA C_plain hr rfl (AArg.cons (AE.toD (AE.var 17 rfl)) AArg.nil))) (WR.or1 (TR_neD (hu64 hr) (RE.toD (RE.callA C_why_i hr rfl (AArg.cons AE.int (AArg.cons (AE.var 2 rfl) (AArg.cons (AE.var 10 rfl) (AArg.cons (A_neg AE.int) AArg.nil)))))) (RE.ofA (AE.toD AE.str)))))))) (SJ.retA ((RJ.ofA AE.bl))) (SJ.nil () (Sub.cons rfl (Sub.cons rfl Sub.nil)) (List.Sublist.refl _))))) (fun s322 => (SJ.if_j (ν' := (List Int)) (fun s396 => [⟨1, CRef, ⟨p180⟩⟩, ⟨2, (List Int), q182.1⟩]) (fun s396 => [⟨p180, (List Int), s396⟩]) ((TJ.ofA (TA_gt (A_len T.z_len rfl (h1 := (AE.var 2 rfl))) AE.int))) (SJ.setLcS 18 0 (own := [("value", 9)]) rfl rfl nd rfl rfl (sw_true rfl rfl rfl (by decide +kernel)) (blkOk_by (N := ["script", "deck", "values", "handed", "width", "due", "below", "above", "wanted", "value", "period", "means", "at", "count", "bad", "answers", "rows", "later", "told", "total", "turn", "one", "two", "place"]) (sc := defScope s_law) (by decide +kernel)) (IS.ofI (IE.listA (AE.var 2 rfl))) (fun _ h => h) (fun _ _ _ _ _ => (GA.name 9 nd rfl (by first | exact .inl rfl | exact .inr rfl))) (fun _ _ _ _ _ _ => QR.nil) (fun m328 x326 _ _ _ _ _ => (S_tup2 (S_sub (SE.callCB 1 C_law_take hr rfl rfl (AArg.cons AE.int AArg.nil)) (fun q332 => (SE.ofA AE.int))) (fun q329 => (S_add (SE.ofA AE.int) (fun q338 => (SE.callCB 1 C_law_take hr rfl rfl (AArg.cons AE.int AArg.nil))))))) (fun q324 => (SJ.setLc 18 (own := [("one", 21), ("two", 22)]) rfl nd rfl rfl (sw_true rfl rfl rfl (by decide +kernel)) (blkOk_by (N := ["script", "deck", "values", "handed", "width", "due", "below", "above", "wanted", "value", "period", "means", "at", "count", "bad", "answers", "rows", "later", "told", "total", "turn", "one", "two", "place"]) (sc := defScope s_law) (by decide +kernel)) (IE.listA (AE.var 18 rfl)) (fun _ h => h) (fun _ _ _ _ _ => (GA.pair rfl (GA.name 21 nd rfl (by first | exact .inl rfl | exact .inr rfl)) (GA.name 22 nd rfl (by first | exact .inl rfl | exact .inr rfl)))) (fun _ _ _ _ _ _ => QR.nil) (fun x345 _ _ _ _ _ => (RE.callA C_law_fraction hr rfl (AArg.cons (AE.var 21 rfl) (AArg.cons (AE.var 22 rfl) AArg.nil)))) (fun told_344 => (SJ.set_A 19 nd rfl (by first | exact .inl rfl | exact .inr rfl) ((RJ.ofA (A_tup2 AE.int AE.int))) (fun total_347 => (SJ.for_ (ν' := (Int × Int)) (fun s348 => [⟨1, CRef, ⟨p180⟩⟩, ⟨2, (List Int), q182.1⟩, ⟨18, (List (Int × Int)), told_344⟩, ⟨19, (Int × Int), s348⟩]) (fun s348 => [⟨p180, (List Int), q324.2⟩]) total_347 passes_cx rfl (IE.rng1A T.z_range rfl (A_len T.z_len rfl (h1 := (AE.var 2 rfl)))) (GA.name 12 nd rfl (by first | exact .inl rfl | exact .inr rfl)) (Sub.cons rfl (Sub.cons rfl (Sub.cons rfl (Sub.cons rfl Sub.nil)))) (List.Sublist.refl _) (fun s348 x349 => by unfold lawM_L3; exact (SJ.asg_R (GA.pair rfl (GA.name 21 nd rfl (by first | exact .inl rfl | exact .inr rfl)) (GA.name 22 nd rfl (by first | exact .inl rfl | exact .inr rfl))) ((RJ.ofR (P_ix (fun _ _ => rfl) (AE.var 18 rfl) (AE.var 12 rfl)))) (fun q350 => (SJ.set_R 19 nd rfl (by first | exact .inl rfl | exact .inr rfl) ((RJ.ofR (RE.callR C_law_fraction hr rfl (RArg.cons (R_add (P_mul (A_tup tup0 (fun _ _ => rfl) (AE.var 19 rfl)) (AE.var 22 rfl)) (R_mul (R_abs T.z_abs rfl (h1 := (R_sub (R_mul (P_ix (fun _ _ => rfl) (AE.var 2 rfl) (AE.var 12 rfl)) (RE.ofA (AE.var 22 rfl))) (RE.ofA (AE.var 21 rfl))))) (RE.ofA (A_tup tup1 (fun _ _ => rfl) (AE.var 19 rfl))))) (RArg.cons (P_mul (A_tup tup1 (fun _ _ => rfl) (AE.var 19 rfl)) (AE.var 22 rfl)) RArg.nil))))) (fun total_351 => (SJ.nil total_351 (Sub.cons rfl (Sub.cons rfl (Sub.cons rfl (Sub.cons rfl Sub.nil)))) (List.Sublist.refl _))))))) (fun s348 => (SJ.if_x ((TJ.ofR (TR_neD (hu64 hr) (RE.callR C_plain hr rfl (RArg.cons (RE.toD (RE.callA C_mean_gap hr rfl (AArg.cons (AE.var 2 rfl) (AArg.cons (AE.var 18 rfl) AArg.nil)))) RArg.nil)) (RE.callR C_plain hr rfl (RArg.cons (RE.toD (RE.callR C_law_fraction hr rfl (RArg.cons (RE.ofA (A_tup tup0 (fun _ _ => rfl) (AE.var 19 rfl))) (RArg.cons (P_mul (A_tup tup1 (fun _ _ => rfl) (AE.var 19 rfl)) (A_len T.z_len rfl (h1 := (AE.var 2 rfl)))) RArg.nil)))) RArg.nil))))) (SJ.retA ((RJ.ofA AE.bl))) (SJ.if_x ((TJ.ofR (WR.t (WR.or (TR_neD (hu64 hr) (RE.toD (RE.callA C_mean_gap hr rfl (AArg.cons (AE.var 2 rfl) (AArg.cons (AE.lcm (own := [("value", 9)]) rfl nd (blkOk_by (N := ["script", "deck", "values", "handed", "width", "due", "below", "above", "wanted", "value", "period", "means", "at", "count", "bad", "answers", "rows", "later", "told", "total", "turn", "one", "two", "place"]) (sc := defScope s_law) (by decide +kernel)) (IE.listA (AE.var 2 rfl)) (fun _ h => h) (fun _ _ _ _ _ => (GA.name 9 nd rfl (by first | exact .inl rfl | exact .inr rfl))) (fun x378 _ _ _ _ _ => (A_tup2 (AE.var 9 rfl) AE.int))) AArg.nil)))) (RE.ofA (AE.toD (A_tup2 AE.int AE.int)))) (WR.or1 (TR_neD (hu64 hr) (RE.toD (RE.callR C_why_l hr rfl (RArg.cons (RE.ofA AE.int) (RArg.cons (RE.ofA (AE.var 2 rfl)) (RArg.cons (RP.cat (AE.var 18 rfl) (AE.var 18 rfl)) (RArg.cons (RE.ofA AE.int) RArg.nil)))))) (RE.ofA (AE.toD AE.str)))))))) (SJ.retA ((RJ.ofA AE.bl))) (SJ.nil q324.2 (Sub.cons rfl (Sub.cons rfl Sub.nil)) (List.Sublist.refl _)))))))))))) (SJ.nil q298.2 (Sub.cons rfl (Sub.cons rfl Sub.nil)) (List.Sublist.refl _)) (fun s396 => (SJ.set_S 14 0 rfl nd rfl (by first | exact .inl rfl | exact .inr rfl) (S_ix (fun _ _ => rfl) (SE.ofA (AE.lst (AArg.lcons (AE.vtup (AArg.lcons AE.int AArg.lnil)) (AArg.lcons (AE.vtup (AArg.lcons AE.int (AArg.lcons AE.int AArg.lnil))) (AArg.lcons (AE.vtup (AArg.lcons (A_neg AE.int) (AArg.lcons AE.int AArg.lnil))) (AArg.lcons (AE.vtup (AArg.lcons AE.int (AArg.lcons AE.int AArg.lnil))) (AArg.lcons (AE.vtup (AArg.lcons AE.int (AArg.lcons AE.int (AArg.lcons AE.int AArg.lnil)))) (AArg.lcons (AE.vtup (AArg.lcons AE.int (AArg.lcons (A_neg AE.int) AArg.lnil))) AArg.lnil)))))))) (fun q398 => (SE.callCB 1 C_law_take hr rfl rfl (AArg.cons AE.int AArg.nil)))) (fun q397 => (SJ.set_R 15 nd rfl (by first | exact .inl rfl | exact .inr rfl) ((RJ.ofR (RE.lst (RArg.lcons (RE.callA C_why_i hr rfl (AArg.cons AE.int (AArg.cons (AE.var 2 rfl) (AArg.cons AE.int (AArg.cons AE.int AArg.nil))))) (RArg.lcons (RE.callA C_why_v hr rfl (AArg.cons AE.int (AArg.cons (AE.var 2 rfl) (AArg.cons (AE.var 14 rfl) (AArg.cons AE.int AArg.nil))))) (RArg.lcons (RE.callA C_why_i hr rfl (AArg.cons AE.int (AArg.cons (AE.var 2 rfl) (AArg.cons AE.int (AArg.cons AE.int AArg.nil))))) (RArg.lcons (RE.callA C_why_i hr rfl (AArg.cons AE.int (AArg.cons (AE.var 2 rfl) (AArg.cons (A_neg AE.int) (AArg.cons (A_neg AE.int) AArg.nil))))) RArg.lnil))))))) (fun answers_404 => (SJ.retR ((RJ.ofR (R_eqD (hu64 hr) (RE.toD (RE.ofF (FR.cat (RE.ofA (AE.var 15 rfl)) (RE.lst (RArg.lcons (RE.callA C_why_l hr rfl (AArg.cons AE.int (AArg.cons (AE.lst AArg.lnil) (AArg.cons (AE.lst AArg.lnil) (AArg.cons AE.int AArg.nil))))) RArg.lnil))))) (RE.ofA (AE.toD (AE.lst (AArg.lcons AE.str (AArg.lcons AE.str (AArg.lcons AE.str (AArg.lcons AE.str (AArg.lcons AE.str AArg.lnil))))))))))))))))))))))))))))))))))))))))))))))))))))
end
theorem all_mk {l : PySem.W.OpenLaw} {w : World} {K : PySem.W.Frag} {h : Heap} {mg : Str → Option Value} {fa f_fraction f_plus f_times f_moving_means f_smoothed f_season_means f_season_forecast f_mean_gap f__law_deck f__law_take f__law_plain f__law_gcd f__law_fraction f__law_why f_law c_SlotError c_InvalidTime c_InvalidMoney c_InvalidTable f_IInvalidMoney f_IInvalidTable : Addr} (X : K.In h) (G : h.Ns mainGlobals mg) (hfa : mg "law" = some (.ref fa))
    {nm_InvalidMoney q_InvalidMoney : Str} {N_InvalidMoney : Addr} {bs_InvalidMoney : List Value} {sn_InvalidMoney : List Str} {sub_InvalidMoney : List Value} {ab_InvalidMoney : Bool} {col_InvalidMoney : Option Bool} {dd_InvalidMoney : Option Addr} {m0_InvalidMoney m1_InvalidMoney m2_InvalidMoney m3_InvalidMoney m5_InvalidMoney : Option Value}
    {nm_InvalidTable q_InvalidTable : Str} {N_InvalidTable : Addr} {bs_InvalidTable : List Value} {sn_InvalidTable : List Str} {sub_InvalidTable : List Value} {ab_InvalidTable : Bool} {col_InvalidTable : Option Bool} {dd_InvalidTable : Option Addr} {m0_InvalidTable m1_InvalidTable m2_InvalidTable m3_InvalidTable m5_InvalidTable : Option Value}
    {od_fraction an_fraction od_plus an_plus od_times an_times od_moving_means an_moving_means od_smoothed an_smoothed od_season_means an_season_means od_season_forecast an_season_forecast od_mean_gap an_mean_gap od__law_deck an__law_deck od__law_take an__law_take od__law_plain an__law_plain od__law_gcd an__law_gcd od__law_fraction an__law_fraction od__law_why an__law_why od_law an_law od_IInvalidMoney an_IInvalidMoney od_IInvalidTable an_IInvalidTable : Option Addr} {sl_fraction sl_plus sl_times sl_moving_means sl_smoothed sl_season_means sl_season_forecast sl_mean_gap sl__law_deck sl__law_take sl__law_plain sl__law_gcd sl__law_fraction sl__law_why sl_law sl_IInvalidMoney sl_IInvalidTable : Array (Option Value)} {oc_fraction kV_fraction dc_fraction pm_fraction cd_fraction ct_fraction oc_plus kV_plus dc_plus pm_plus cd_plus ct_plus oc_times kV_times dc_times pm_times cd_times ct_times oc_moving_means kV_moving_means dc_moving_means pm_moving_means cd_moving_means ct_moving_means oc_smoothed kV_smoothed dc_smoothed pm_smoothed cd_smoothed ct_smoothed oc_season_means kV_season_means dc_season_means pm_season_means cd_season_means ct_season_means oc_season_forecast kV_season_forecast dc_season_forecast pm_season_forecast cd_season_forecast ct_season_forecast oc_mean_gap kV_mean_gap dc_mean_gap pm_mean_gap cd_mean_gap ct_mean_gap oc__law_deck kV__law_deck dc__law_deck pm__law_deck cd__law_deck ct__law_deck oc__law_take kV__law_take dc__law_take pm__law_take cd__law_take ct__law_take oc__law_plain kV__law_plain dc__law_plain pm__law_plain cd__law_plain ct__law_plain oc__law_gcd kV__law_gcd dc__law_gcd pm__law_gcd cd__law_gcd ct__law_gcd oc__law_fraction kV__law_fraction dc__law_fraction pm__law_fraction cd__law_fraction ct__law_fraction oc__law_why kV__law_why dc__law_why pm__law_why cd__law_why ct__law_why oc_law kV_law dc_law pm_law cd_law ct_law oc_IInvalidMoney kV_IInvalidMoney dc_IInvalidMoney pm_IInvalidMoney cd_IInvalidMoney ct_IInvalidMoney oc_IInvalidTable kV_IInvalidTable dc_IInvalidTable pm_IInvalidTable cd_IInvalidTable ct_IInvalidTable : Value}
    (a_fraction : PySem.W.nsIn K mainGlobals "fraction" = some (some (.ref f_fraction)))
    (l_fraction : K.lookup f_fraction = some ⟨oc_fraction, od_fraction, .func (PySem.W.fnOf "fraction" "fraction" (defArgs s_fraction) (defBody s_fraction) (defScope s_fraction) .none kV_fraction dc_fraction pm_fraction an_fraction cd_fraction ct_fraction), sl_fraction⟩)
    (c_fraction : PySem.W.codeIn K cd_fraction "fraction" = true)
    (k_fraction : PySem.W.keepIn K (.ref f_fraction) = true)
    (a_plus : PySem.W.nsIn K mainGlobals "plus" = some (some (.ref f_plus)))
    (l_plus : K.lookup f_plus = some ⟨oc_plus, od_plus, .func (PySem.W.fnOf "plus" "plus" (defArgs s_plus) (defBody s_plus) (defScope s_plus) .none kV_plus dc_plus pm_plus an_plus cd_plus ct_plus), sl_plus⟩)
    (c_plus : PySem.W.codeIn K cd_plus "plus" = true)
    (k_plus : PySem.W.keepIn K (.ref f_plus) = true)
    (a_times : PySem.W.nsIn K mainGlobals "times" = some (some (.ref f_times)))
    (l_times : K.lookup f_times = some ⟨oc_times, od_times, .func (PySem.W.fnOf "times" "times" (defArgs s_times) (defBody s_times) (defScope s_times) .none kV_times dc_times pm_times an_times cd_times ct_times), sl_times⟩)
    (c_times : PySem.W.codeIn K cd_times "times" = true)
    (k_times : PySem.W.keepIn K (.ref f_times) = true)
    (a_moving_means : PySem.W.nsIn K mainGlobals "moving_means" = some (some (.ref f_moving_means)))
    (l_moving_means : K.lookup f_moving_means = some ⟨oc_moving_means, od_moving_means, .func (PySem.W.fnOf "moving_means" "moving_means" (defArgs s_moving_means) (defBody s_moving_means) (defScope s_moving_means) .none kV_moving_means dc_moving_means pm_moving_means an_moving_means cd_moving_means ct_moving_means), sl_moving_means⟩)
    (c_moving_means : PySem.W.codeIn K cd_moving_means "moving_means" = true)
    (k_moving_means : PySem.W.keepIn K (.ref f_moving_means) = true)
    (a_smoothed : PySem.W.nsIn K mainGlobals "smoothed" = some (some (.ref f_smoothed)))
    (l_smoothed : K.lookup f_smoothed = some ⟨oc_smoothed, od_smoothed, .func (PySem.W.fnOf "smoothed" "smoothed" (defArgs s_smoothed) (defBody s_smoothed) (defScope s_smoothed) .none kV_smoothed dc_smoothed pm_smoothed an_smoothed cd_smoothed ct_smoothed), sl_smoothed⟩)
    (c_smoothed : PySem.W.codeIn K cd_smoothed "smoothed" = true)
    (k_smoothed : PySem.W.keepIn K (.ref f_smoothed) = true)
    (a_season_means : PySem.W.nsIn K mainGlobals "season_means" = some (some (.ref f_season_means)))
    (l_season_means : K.lookup f_season_means = some ⟨oc_season_means, od_season_means, .func (PySem.W.fnOf "season_means" "season_means" (defArgs s_season_means) (defBody s_season_means) (defScope s_season_means) .none kV_season_means dc_season_means pm_season_means an_season_means cd_season_means ct_season_means), sl_season_means⟩)
    (c_season_means : PySem.W.codeIn K cd_season_means "season_means" = true)
    (k_season_means : PySem.W.keepIn K (.ref f_season_means) = true)
    (a_season_forecast : PySem.W.nsIn K mainGlobals "season_forecast" = some (some (.ref f_season_forecast)))
    (l_season_forecast : K.lookup f_season_forecast = some ⟨oc_season_forecast, od_season_forecast, .func (PySem.W.fnOf "season_forecast" "season_forecast" (defArgs s_season_forecast) (defBody s_season_forecast) (defScope s_season_forecast) .none kV_season_forecast dc_season_forecast pm_season_forecast an_season_forecast cd_season_forecast ct_season_forecast), sl_season_forecast⟩)
    (c_season_forecast : PySem.W.codeIn K cd_season_forecast "season_forecast" = true)
    (k_season_forecast : PySem.W.keepIn K (.ref f_season_forecast) = true)
    (a_mean_gap : PySem.W.nsIn K mainGlobals "mean_gap" = some (some (.ref f_mean_gap)))
    (l_mean_gap : K.lookup f_mean_gap = some ⟨oc_mean_gap, od_mean_gap, .func (PySem.W.fnOf "mean_gap" "mean_gap" (defArgs s_mean_gap) (defBody s_mean_gap) (defScope s_mean_gap) .none kV_mean_gap dc_mean_gap pm_mean_gap an_mean_gap cd_mean_gap ct_mean_gap), sl_mean_gap⟩)
    (c_mean_gap : PySem.W.codeIn K cd_mean_gap "mean_gap" = true)
    (k_mean_gap : PySem.W.keepIn K (.ref f_mean_gap) = true)
    (a__law_deck : PySem.W.nsIn K mainGlobals "_law_deck" = some (some (.ref f__law_deck)))
    (l__law_deck : K.lookup f__law_deck = some ⟨oc__law_deck, od__law_deck, .func (PySem.W.fnOf "_law_deck" "_law_deck" (defArgs s__law_deck) (defBody s__law_deck) (defScope s__law_deck) .none kV__law_deck dc__law_deck pm__law_deck an__law_deck cd__law_deck ct__law_deck), sl__law_deck⟩)
    (c__law_deck : PySem.W.codeIn K cd__law_deck "_law_deck" = true)
    (k__law_deck : PySem.W.keepIn K (.ref f__law_deck) = true)
    (a__law_take : PySem.W.nsIn K mainGlobals "_law_take" = some (some (.ref f__law_take)))
    (l__law_take : K.lookup f__law_take = some ⟨oc__law_take, od__law_take, .func (PySem.W.fnOf "_law_take" "_law_take" (defArgs s__law_take) (defBody s__law_take) (defScope s__law_take) .none kV__law_take dc__law_take pm__law_take an__law_take cd__law_take ct__law_take), sl__law_take⟩)
    (c__law_take : PySem.W.codeIn K cd__law_take "_law_take" = true)
    (k__law_take : PySem.W.keepIn K (.ref f__law_take) = true)
    (a__law_plain : PySem.W.nsIn K mainGlobals "_law_plain" = some (some (.ref f__law_plain)))
    (l__law_plain : K.lookup f__law_plain = some ⟨oc__law_plain, od__law_plain, .func (PySem.W.fnOf "_law_plain" "_law_plain" (defArgs s__law_plain) (defBody s__law_plain) (defScope s__law_plain) .none kV__law_plain dc__law_plain pm__law_plain an__law_plain cd__law_plain ct__law_plain), sl__law_plain⟩)
    (c__law_plain : PySem.W.codeIn K cd__law_plain "_law_plain" = true)
    (k__law_plain : PySem.W.keepIn K (.ref f__law_plain) = true)
    (a__law_gcd : PySem.W.nsIn K mainGlobals "_law_gcd" = some (some (.ref f__law_gcd)))
    (l__law_gcd : K.lookup f__law_gcd = some ⟨oc__law_gcd, od__law_gcd, .func (PySem.W.fnOf "_law_gcd" "_law_gcd" (defArgs s__law_gcd) (defBody s__law_gcd) (defScope s__law_gcd) .none kV__law_gcd dc__law_gcd pm__law_gcd an__law_gcd cd__law_gcd ct__law_gcd), sl__law_gcd⟩)
    (c__law_gcd : PySem.W.codeIn K cd__law_gcd "_law_gcd" = true)
    (k__law_gcd : PySem.W.keepIn K (.ref f__law_gcd) = true)
    (a__law_fraction : PySem.W.nsIn K mainGlobals "_law_fraction" = some (some (.ref f__law_fraction)))
    (l__law_fraction : K.lookup f__law_fraction = some ⟨oc__law_fraction, od__law_fraction, .func (PySem.W.fnOf "_law_fraction" "_law_fraction" (defArgs s__law_fraction) (defBody s__law_fraction) (defScope s__law_fraction) .none kV__law_fraction dc__law_fraction pm__law_fraction an__law_fraction cd__law_fraction ct__law_fraction), sl__law_fraction⟩)
    (c__law_fraction : PySem.W.codeIn K cd__law_fraction "_law_fraction" = true)
    (k__law_fraction : PySem.W.keepIn K (.ref f__law_fraction) = true)
    (a__law_why : PySem.W.nsIn K mainGlobals "_law_why" = some (some (.ref f__law_why)))
    (l__law_why : K.lookup f__law_why = some ⟨oc__law_why, od__law_why, .func (PySem.W.fnOf "_law_why" "_law_why" (defArgs s__law_why) (defBody s__law_why) (defScope s__law_why) .none kV__law_why dc__law_why pm__law_why an__law_why cd__law_why ct__law_why), sl__law_why⟩)
    (c__law_why : PySem.W.codeIn K cd__law_why "_law_why" = true)
    (k__law_why : PySem.W.keepIn K (.ref f__law_why) = true)
    (a_law : PySem.W.nsIn K mainGlobals "law" = some (some (.ref f_law)))
    (l_law : K.lookup f_law = some ⟨oc_law, od_law, .func (PySem.W.fnOf "law" "law" (defArgs s_law) (defBody s_law) (defScope s_law) .none kV_law dc_law pm_law an_law cd_law ct_law), sl_law⟩)
    (c_law : PySem.W.codeIn K cd_law "law" = true)
    (k_law : PySem.W.keepIn K (.ref f_law) = true)
    (z_abs : PySem.W.nsIn K mainGlobals "abs" = some none)
    (z_bool : PySem.W.nsIn K mainGlobals "bool" = some none)
    (z_gcd : PySem.W.nsIn K mainGlobals "gcd" = some (some (.builtin "math.gcd")))
    (z_int : PySem.W.nsIn K mainGlobals "int" = some none)
    (z_isinstance : PySem.W.nsIn K mainGlobals "isinstance" = some none)
    (z_len : PySem.W.nsIn K mainGlobals "len" = some none)
    (z_list : PySem.W.nsIn K mainGlobals "list" = some none)
    (z_max : PySem.W.nsIn K mainGlobals "max" = some none)
    (z_range : PySem.W.nsIn K mainGlobals "range" = some none)
    (z_str : PySem.W.nsIn K mainGlobals "str" = some none)
    (z_sum : PySem.W.nsIn K mainGlobals "sum" = some none)
    (z_tuple : PySem.W.nsIn K mainGlobals "tuple" = some none)
    (z_zip : PySem.W.nsIn K mainGlobals "zip" = some none)
    (g_SlotError : PySem.W.nsIn K mainGlobals "SlotError" = some (some (.ref c_SlotError)))
    (g_InvalidTime : PySem.W.nsIn K mainGlobals "InvalidTime" = some (some (.ref c_InvalidTime)))
    (g_InvalidMoney : PySem.W.nsIn K mainGlobals "InvalidMoney" = some (some (.ref c_InvalidMoney)))
    (g_InvalidTable : PySem.W.nsIn K mainGlobals "InvalidTable" = some (some (.ref c_InvalidTable)))
    (b_ga : PySem.W.specialIn K (.ref c_SlotError) "__getattribute__" = some (some (.builtin "type.__getattribute__")))
    (b_rd : PySem.W.readsIn K c_SlotError (.type "type") = true)
    (b_at : PySem.W.findCls K (.ref c_SlotError) (.type "type") "__init__" = some (.val (.builtin "ValueError.__init__")))
    (xL_InvalidMoney : K.lookup c_InvalidMoney = some (excClassObj nm_InvalidMoney q_InvalidMoney c_InvalidMoney N_InvalidMoney bs_InvalidMoney [.ref c_SlotError, .type "ValueError", .type "Exception", .type "BaseException", .type "object"] true sn_InvalidMoney sub_InvalidMoney ab_InvalidMoney col_InvalidMoney dd_InvalidMoney m0_InvalidMoney m1_InvalidMoney m2_InvalidMoney m3_InvalidMoney m5_InvalidMoney "ValueError.__new__"))
    (sa_InvalidMoney : PySem.W.findIn K (.ref c_InvalidMoney) "__setattr__" = some (some (.builtin "object.__setattr__")))
    (eC_InvalidMoney : PySem.W.subIn K (.ref c_InvalidMoney) (.type "BaseException") = some true)
    (tC_InvalidMoney : PySem.W.typeIn K (.ref c_InvalidMoney) = some (.type "type"))
    (kC_InvalidMoney : PySem.W.keepIn K (.ref c_InvalidMoney) = true)
    (nf_InvalidMoney : PySem.W.findIn K (.ref c_InvalidMoney) "what" = some none)
    (a_IInvalidMoney : PySem.W.findIn K (.ref c_InvalidMoney) "__init__" = some (some (.ref f_IInvalidMoney)))
    (l_IInvalidMoney : K.lookup f_IInvalidMoney = some ⟨oc_IInvalidMoney, od_IInvalidMoney, .func (PySem.W.fnOf "__init__" "InvalidMoney.__init__" (defArgs i_InvalidMoney) (defBody i_InvalidMoney) (defScope i_InvalidMoney) .none kV_IInvalidMoney dc_IInvalidMoney pm_IInvalidMoney an_IInvalidMoney cd_IInvalidMoney ct_IInvalidMoney), sl_IInvalidMoney⟩)
    (c_IInvalidMoney : PySem.W.codeIn K cd_IInvalidMoney "InvalidMoney.__init__" = true)
    (k_IInvalidMoney : PySem.W.keepIn K (.ref f_IInvalidMoney) = true)
    (tI_InvalidMoney : PySem.W.typeIn K (.ref f_IInvalidMoney) = some (.type "function"))
    (xL_InvalidTable : K.lookup c_InvalidTable = some (excClassObj nm_InvalidTable q_InvalidTable c_InvalidTable N_InvalidTable bs_InvalidTable [.ref c_SlotError, .type "ValueError", .type "Exception", .type "BaseException", .type "object"] true sn_InvalidTable sub_InvalidTable ab_InvalidTable col_InvalidTable dd_InvalidTable m0_InvalidTable m1_InvalidTable m2_InvalidTable m3_InvalidTable m5_InvalidTable "ValueError.__new__"))
    (sa_InvalidTable : PySem.W.findIn K (.ref c_InvalidTable) "__setattr__" = some (some (.builtin "object.__setattr__")))
    (eC_InvalidTable : PySem.W.subIn K (.ref c_InvalidTable) (.type "BaseException") = some true)
    (tC_InvalidTable : PySem.W.typeIn K (.ref c_InvalidTable) = some (.type "type"))
    (kC_InvalidTable : PySem.W.keepIn K (.ref c_InvalidTable) = true)
    (nf_InvalidTable : PySem.W.findIn K (.ref c_InvalidTable) "what" = some none)
    (a_IInvalidTable : PySem.W.findIn K (.ref c_InvalidTable) "__init__" = some (some (.ref f_IInvalidTable)))
    (l_IInvalidTable : K.lookup f_IInvalidTable = some ⟨oc_IInvalidTable, od_IInvalidTable, .func (PySem.W.fnOf "__init__" "InvalidTable.__init__" (defArgs i_InvalidTable) (defBody i_InvalidTable) (defScope i_InvalidTable) .none kV_IInvalidTable dc_IInvalidTable pm_IInvalidTable an_IInvalidTable cd_IInvalidTable ct_IInvalidTable), sl_IInvalidTable⟩)
    (c_IInvalidTable : PySem.W.codeIn K cd_IInvalidTable "InvalidTable.__init__" = true)
    (k_IInvalidTable : PySem.W.keepIn K (.ref f_IInvalidTable) = true)
    (tI_InvalidTable : PySem.W.typeIn K (.ref f_IInvalidTable) = some (.type "function"))
    (su_InvalidTable_SlotError : PySem.W.subIn K (.ref c_InvalidTable) (.ref c_SlotError) = some true)
    (i1_InvalidTable : PySem.W.isClsIn K c_InvalidTable = true)
    (i2_InvalidTable : PySem.W.findIn K (.ref c_InvalidTable) "__getattribute__" = some (some (.builtin "BaseException.__getattribute__")))
    (i3_InvalidTable : PySem.W.findIn K (.ref c_InvalidTable) "__getattr__" = some none)
    (i4_InvalidTable : PySem.W.hasDictIn K c_InvalidTable = true)
    (i5_InvalidTable : PySem.W.findIn K (.ref c_InvalidTable) "__class__" = some (some (.builtin "object.__class__")))
    (i6_InvalidTable : PySem.W.specialIn K (.builtin "object.__class__") "__get__" = some (some (.builtin "getset_descriptor.__get__")))
    (i7_InvalidTable : PySem.W.takesIn K (.builtin "object.__class__") = some true)
    (i8_InvalidTable : PySem.W.mroIn K c_InvalidTable (.type "object") = some true)
    (ic_InvalidTable : PySem.W.isClsIn K c_InvalidTable = true)
    (ty_InvalidTable : PySem.W.typeIn K (.ref c_InvalidTable) = some (.type "type"))
    (su_InvalidTable_InvalidTable : PySem.W.subIn K (.ref c_InvalidTable) (.ref c_InvalidTable) = some true)
    (ic_InvalidTime : PySem.W.isClsIn K c_InvalidTime = true)
    (ty_InvalidTime : PySem.W.typeIn K (.ref c_InvalidTime) = some (.type "type"))
    (su_InvalidTime_InvalidTime : PySem.W.subIn K (.ref c_InvalidTime) (.ref c_InvalidTime) = some true)
    (ic_SlotError : PySem.W.isClsIn K c_SlotError = true)
    (ty_SlotError : PySem.W.typeIn K (.ref c_SlotError) = some (.type "type"))
    (su_SlotError_SlotError : PySem.W.subIn K (.ref c_SlotError) (.ref c_SlotError) = some true)
    (su_InvalidTable_InvalidTime : PySem.W.subIn K (.ref c_InvalidTable) (.ref c_InvalidTime) = some false)
    (eR : PySem.W.subIn K (.ref c_SlotError) (.type "BaseException") = some true)
    (n_InvalidTable_what : PySem.W.findIn K (.ref c_InvalidTable) "what" = some none)
    (hM : ∀ ns : List Int, ns.length ≤ 63 → lawM (⟨ns⟩, ()) = .ok true) :
    ∃ fd : FuncData, (∀ (s : Shared) (v : Value), BindsTo s fd ⟨[v], []⟩ [("script", v)]) ∧ ∀ base : Heap, K.In base → base.Ns mainGlobals mg → FnOk l.prog w K mg base (L2.CX l.prog w) 10 fa fd ["script"] (spL K) := by
  have e := hfa.symm.trans (PySem.W.mg_of X G a_law)
  cases e
  have F_fraction := fun_mk (st := s_fraction) l_fraction c_fraction k_fraction
  have F_plus := fun_mk (st := s_plus) l_plus c_plus k_plus
  have F_times := fun_mk (st := s_times) l_times c_times k_times
  have F_moving_means := fun_mk (st := s_moving_means) l_moving_means c_moving_means k_moving_means
  have F_smoothed := fun_mk (st := s_smoothed) l_smoothed c_smoothed k_smoothed
  have F_season_means := fun_mk (st := s_season_means) l_season_means c_season_means k_season_means
  have F_season_forecast := fun_mk (st := s_season_forecast) l_season_forecast c_season_forecast k_season_forecast
  have F_mean_gap := fun_mk (st := s_mean_gap) l_mean_gap c_mean_gap k_mean_gap
  have F__law_deck := fun_mk (st := s__law_deck) l__law_deck c__law_deck k__law_deck
  have F__law_take := fun_mk (st := s__law_take) l__law_take c__law_take k__law_take
  have F__law_plain := fun_mk (st := s__law_plain) l__law_plain c__law_plain k__law_plain
  have F__law_gcd := fun_mk (st := s__law_gcd) l__law_gcd c__law_gcd k__law_gcd
  have F__law_fraction := fun_mk (st := s__law_fraction) l__law_fraction c__law_fraction k__law_fraction
  have F__law_why := fun_mk (st := s__law_why) l__law_why c__law_why k__law_why
  have F_law := fun_mk (st := s_law) l_law c_law k_law
  have F_IInvalidMoney := fun_mk (st := i_InvalidMoney) l_IInvalidMoney c_IInvalidMoney k_IInvalidMoney
  have F_IInvalidTable := fun_mk (st := i_InvalidTable) l_IInvalidTable c_IInvalidTable k_IInvalidTable
  have b_fraction := F_fraction.binds (ps := ["above", "below"]) fun _ _ _ _ _ _ us hl => match us, hl with | [_, _], _ => rfl
  have b_plus := F_plus.binds (ps := ["first", "second"]) fun _ _ _ _ _ _ us hl => match us, hl with | [_, _], _ => rfl
  have b_times := F_times.binds (ps := ["first", "second"]) fun _ _ _ _ _ _ us hl => match us, hl with | [_, _], _ => rfl
  have b_moving_means := F_moving_means.binds (ps := ["values", "width"]) fun _ _ _ _ _ _ us hl => match us, hl with | [_, _], _ => rfl
  have b_smoothed := F_smoothed.binds (ps := ["values", "weight"]) fun _ _ _ _ _ _ us hl => match us, hl with | [_, _], _ => rfl
  have b_season_means := F_season_means.binds (ps := ["values", "period"]) fun _ _ _ _ _ _ us hl => match us, hl with | [_, _], _ => rfl
  have b_season_forecast := F_season_forecast.binds (ps := ["values", "period", "count"]) fun _ _ _ _ _ _ us hl => match us, hl with | [_, _, _], _ => rfl
  have b_mean_gap := F_mean_gap.binds (ps := ["values", "forecasts"]) fun _ _ _ _ _ _ us hl => match us, hl with | [_, _], _ => rfl
  have b__law_deck := F__law_deck.binds (ps := ["script", "cells", "each"]) fun _ _ _ _ _ _ us hl => match us, hl with | [_, _, _], _ => rfl
  have b__law_take := F__law_take.binds (ps := ["deck", "many"]) fun _ _ _ _ _ _ us hl => match us, hl with | [_, _], _ => rfl
  have b__law_plain := F__law_plain.binds (ps := ["value"]) fun _ _ _ _ _ _ us hl => match us, hl with | [_], _ => rfl
  have b__law_gcd := F__law_gcd.binds (ps := ["one", "two"]) fun _ _ _ _ _ _ us hl => match us, hl with | [_, _], _ => rfl
  have b__law_fraction := F__law_fraction.binds (ps := ["above", "below"]) fun _ _ _ _ _ _ us hl => match us, hl with | [_, _], _ => rfl
  have b__law_why := F__law_why.binds (ps := ["ask", "values", "one", "two"]) fun _ _ _ _ _ _ us hl => match us, hl with | [_, _, _, _], _ => rfl
  have b_law := F_law.binds (ps := ["script"]) fun _ _ _ _ _ _ us hl => match us, hl with | [_], _ => rfl
  have b_IInvalidMoney := F_IInvalidMoney.binds (ps := ["self", "what"]) fun _ _ _ _ _ _ us hl => match us, hl with | [_, _], _ => rfl
  have b_IInvalidTable := F_IInvalidTable.binds (ps := ["self", "what"]) fun _ _ _ _ _ _ us hl => match us, hl with | [_, _], _ => rfl
  refine ⟨PySem.W.fnOf "law" "law" (defArgs s_law) (defBody s_law) (defScope s_law) .none kV_law dc_law pm_law an_law cd_law ct_law, fun s v => .of_eq rfl, fun base _ _ => ?_⟩
  have T : Tx l.prog w K mg base c_SlotError c_InvalidTime c_InvalidMoney c_InvalidTable := { z_abs := PySem.W.mg_none_of X G z_abs, z_bool := PySem.W.mg_none_of X G z_bool, z_gcd := PySem.W.mg_of X G z_gcd, z_int := PySem.W.mg_none_of X G z_int, z_isinstance := PySem.W.mg_none_of X G z_isinstance, z_len := PySem.W.mg_none_of X G z_len, z_list := PySem.W.mg_none_of X G z_list, z_max := PySem.W.mg_none_of X G z_max, z_range := PySem.W.mg_none_of X G z_range, z_str := PySem.W.mg_none_of X G z_str, z_sum := PySem.W.mg_none_of X G z_sum, z_tuple := PySem.W.mg_none_of X G z_tuple, z_zip := PySem.W.mg_none_of X G z_zip, g_SlotError := PySem.W.mg_of X G g_SlotError, g_InvalidTime := PySem.W.mg_of X G g_InvalidTime, g_InvalidMoney := PySem.W.mg_of X G g_InvalidMoney, g_InvalidTable := PySem.W.mg_of X G g_InvalidTable, e_InvalidMoney := ex_InvalidMoney F_IInvalidMoney (PySem.W.mg_of X G g_InvalidMoney) (PySem.W.mg_of X G g_SlotError) ⟨b_ga, b_rd, b_at⟩ ⟨⟨_, _, _, _, _, _, _, _, _, _, _, _, _, _, _, xL_InvalidMoney, rfl⟩, sa_InvalidMoney, eC_InvalidMoney, tC_InvalidMoney, kC_InvalidMoney⟩ nf_InvalidMoney a_IInvalidMoney tI_InvalidMoney b_IInvalidMoney, e_InvalidTable := ex_InvalidTable F_IInvalidTable (PySem.W.mg_of X G g_InvalidTable) (PySem.W.mg_of X G g_SlotError) ⟨b_ga, b_rd, b_at⟩ ⟨⟨_, _, _, _, _, _, _, _, _, _, _, _, _, _, _, xL_InvalidTable, rfl⟩, sa_InvalidTable, eC_InvalidTable, tC_InvalidTable, kC_InvalidTable⟩ nf_InvalidTable a_IInvalidTable tI_InvalidTable b_IInvalidTable, x_InvalidTable := exm_of eR ic_SlotError ty_SlotError su_InvalidTable_SlotError, i_InvalidTable := ⟨i1_InvalidTable, i2_InvalidTable, i3_InvalidTable, eC_InvalidTable, i4_InvalidTable, i5_InvalidTable, i6_InvalidTable, i7_InvalidTable, i8_InvalidTable⟩, f_InvalidTable := ⟨i2_InvalidTable, i3_InvalidTable, eC_InvalidTable, i4_InvalidTable⟩, n_InvalidTable_what := n_InvalidTable_what, k_InvalidTable_InvalidTable := kit_of ic_InvalidTable ty_InvalidTable su_InvalidTable_InvalidTable su_InvalidTable_InvalidTable, k_InvalidTable_InvalidTime := kit_of ic_InvalidTime ty_InvalidTime su_InvalidTable_InvalidTime su_InvalidTime_InvalidTime }
  have C_fraction := w_fraction F_fraction (PySem.W.mg_of X G a_fraction) b_fraction T 
  have C_plus := w_plus F_plus (PySem.W.mg_of X G a_plus) b_plus T C_fraction
  have C_times := w_times F_times (PySem.W.mg_of X G a_times) b_times T C_fraction
  have C_moving_means := w_moving_means F_moving_means (PySem.W.mg_of X G a_moving_means) b_moving_means T C_fraction
  have C_smoothed := w_smoothed F_smoothed (PySem.W.mg_of X G a_smoothed) b_smoothed T C_fraction C_plus C_times
  have C_season_means := w_season_means F_season_means (PySem.W.mg_of X G a_season_means) b_season_means T C_fraction
  have C_season_forecast := w_season_forecast F_season_forecast (PySem.W.mg_of X G a_season_forecast) b_season_forecast T C_season_means
  have C_mean_gap := w_mean_gap F_mean_gap (PySem.W.mg_of X G a_mean_gap) b_mean_gap T C_fraction C_plus C_times
  have C_law_deck := w_law_deck F__law_deck (PySem.W.mg_of X G a__law_deck) b__law_deck T 
  have C_law_take := w_law_take F__law_take (PySem.W.mg_of X G a__law_take) b__law_take T 
  have C_plain := w_plain F__law_plain (PySem.W.mg_of X G a__law_plain) b__law_plain T 
  have C_law_gcd := w_law_gcd F__law_gcd (PySem.W.mg_of X G a__law_gcd) b__law_gcd T 
  have C_law_fraction := w_law_fraction F__law_fraction (PySem.W.mg_of X G a__law_fraction) b__law_fraction T C_law_gcd
  have C_why_i := w_why_i F__law_why (PySem.W.mg_of X G a__law_why) b__law_why T C_moving_means C_season_means C_season_forecast
  have C_why_v := w_why_v F__law_why (PySem.W.mg_of X G a__law_why) b__law_why T C_smoothed
  have C_why_l := w_why_l F__law_why (PySem.W.mg_of X G a__law_why) b__law_why T C_mean_gap
  exact fn_law (w_lawM F_law T C_law_deck C_law_take C_law_fraction C_moving_means C_season_means C_mean_gap C_season_forecast C_smoothed C_why_i C_why_l C_why_v C_plain) hM
end Mr

open PySem PySem.W PyProof.Rows
set_option maxHeartbeats 0 in
theorem PySem.Challenge.cw_slotwork_k55_forecasts_holds : PySem.Challenge.rw_slotwork_k55_forecasts.Holds := by
  w_on; o_law; k_head; (case hw => w_witness2)
  k_fill
  refine L2.walk_of (l := PySem.Challenge.rw_slotwork_k55_forecasts) (n := 63) (k := 10) (x := "script") (CX := fun w => L2.CX (PySem.Challenge.rw_slotwork_k55_forecasts).prog w) (sp := fun w => Mr.spL _) rfl (by decide) rfl ⟨rfl, by decide, by decide⟩ (fun w h Y => PySem.W.kIn_of Y) ?F (fun _ _ a ns hl _ hS => ⟨a, ns, rfl, hS, hl, fun _ => rfl⟩) (fun _ _ _ _ _ h => Mr.cx_false h)
  case F =>
    intro w mg fa h KX G hmg
    refine' Mr.all_mk KX G hmg ?a_fraction ?l_fraction ?c_fraction ?k_fraction ?a_plus ?l_plus ?c_plus ?k_plus ?a_times ?l_times ?c_times ?k_times ?a_moving_means ?l_moving_means ?c_moving_means ?k_moving_means ?a_smoothed ?l_smoothed ?c_smoothed ?k_smoothed ?a_season_means ?l_season_means ?c_season_means ?k_season_means ?a_season_forecast ?l_season_forecast ?c_season_forecast ?k_season_forecast ?a_mean_gap ?l_mean_gap ?c_mean_gap ?k_mean_gap ?a__law_deck ?l__law_deck ?c__law_deck ?k__law_deck ?a__law_take ?l__law_take ?c__law_take ?k__law_take ?a__law_plain ?l__law_plain ?c__law_plain ?k__law_plain ?a__law_gcd ?l__law_gcd ?c__law_gcd ?k__law_gcd ?a__law_fraction ?l__law_fraction ?c__law_fraction ?k__law_fraction ?a__law_why ?l__law_why ?c__law_why ?k__law_why ?a_law ?l_law ?c_law ?k_law ?z_abs ?z_bool ?z_gcd ?z_int ?z_isinstance ?z_len ?z_list ?z_max ?z_range ?z_str ?z_sum ?z_tuple ?z_zip ?g_SlotError ?g_InvalidTime ?g_InvalidMoney ?g_InvalidTable ?b_ga ?b_rd ?b_at ?xL_InvalidMoney ?sa_InvalidMoney ?eC_InvalidMoney ?tC_InvalidMoney ?kC_InvalidMoney ?nf_InvalidMoney ?a_IInvalidMoney ?l_IInvalidMoney ?c_IInvalidMoney ?k_IInvalidMoney ?tI_InvalidMoney ?xL_InvalidTable ?sa_InvalidTable ?eC_InvalidTable ?tC_InvalidTable ?kC_InvalidTable ?nf_InvalidTable ?a_IInvalidTable ?l_IInvalidTable ?c_IInvalidTable ?k_IInvalidTable ?tI_InvalidTable ?su_InvalidTable_SlotError ?i1_InvalidTable ?i2_InvalidTable ?i3_InvalidTable ?i4_InvalidTable ?i5_InvalidTable ?i6_InvalidTable ?i7_InvalidTable ?i8_InvalidTable ?ic_InvalidTable ?ty_InvalidTable ?su_InvalidTable_InvalidTable ?ic_InvalidTime ?ty_InvalidTime ?su_InvalidTime_InvalidTime ?ic_SlotError ?ty_SlotError ?su_SlotError_SlotError ?su_InvalidTable_InvalidTime ?eR ?n_InvalidTable_what Mr.law_true
    (case a_fraction => k_is)
    (case l_fraction => k_is)
    (case c_fraction => k_is)
    (case k_fraction => k_is)
    (case a_plus => k_is)
    (case l_plus => k_is)
    (case c_plus => k_is)
    (case k_plus => k_is)
    (case a_times => k_is)
    (case l_times => k_is)
    (case c_times => k_is)
    (case k_times => k_is)
    (case a_moving_means => k_is)
    (case l_moving_means => k_is)
    (case c_moving_means => k_is)
    (case k_moving_means => k_is)
    (case a_smoothed => k_is)
    (case l_smoothed => k_is)
    (case c_smoothed => k_is)
    (case k_smoothed => k_is)
    (case a_season_means => k_is)
    (case l_season_means => k_is)
    (case c_season_means => k_is)
    (case k_season_means => k_is)
    (case a_season_forecast => k_is)
    (case l_season_forecast => k_is)
    (case c_season_forecast => k_is)
    (case k_season_forecast => k_is)
    (case a_mean_gap => k_is)
    (case l_mean_gap => k_is)
    (case c_mean_gap => k_is)
    (case k_mean_gap => k_is)
    (case a__law_deck => k_is)
    (case l__law_deck => k_is)
    (case c__law_deck => k_is)
    (case k__law_deck => k_is)
    (case a__law_take => k_is)
    (case l__law_take => k_is)
    (case c__law_take => k_is)
    (case k__law_take => k_is)
    (case a__law_plain => k_is)
    (case l__law_plain => k_is)
    (case c__law_plain => k_is)
    (case k__law_plain => k_is)
    (case a__law_gcd => k_is)
    (case l__law_gcd => k_is)
    (case c__law_gcd => k_is)
    (case k__law_gcd => k_is)
    (case a__law_fraction => k_is)
    (case l__law_fraction => k_is)
    (case c__law_fraction => k_is)
    (case k__law_fraction => k_is)
    (case a__law_why => k_is)
    (case l__law_why => k_is)
    (case c__law_why => k_is)
    (case k__law_why => k_is)
    (case a_law => k_is)
    (case l_law => k_is)
    (case c_law => k_is)
    (case k_law => k_is)
    (case z_abs => k_is)
    (case z_bool => k_is)
    (case z_gcd => k_is)
    (case z_int => k_is)
    (case z_isinstance => k_is)
    (case z_len => k_is)
    (case z_list => k_is)
    (case z_max => k_is)
    (case z_range => k_is)
    (case z_str => k_is)
    (case z_sum => k_is)
    (case z_tuple => k_is)
    (case z_zip => k_is)
    (case g_SlotError => k_is)
    (case g_InvalidTime => k_is)
    (case g_InvalidMoney => k_is)
    (case g_InvalidTable => k_is)
    (case b_ga => k_is)
    (case b_rd => k_is)
    (case b_at => k_is)
    (case xL_InvalidMoney => k_is)
    (case sa_InvalidMoney => k_is)
    (case eC_InvalidMoney => k_is)
    (case tC_InvalidMoney => k_is)
    (case kC_InvalidMoney => k_is)
    (case nf_InvalidMoney => k_is)
    (case a_IInvalidMoney => k_is)
    (case l_IInvalidMoney => k_is)
    (case c_IInvalidMoney => k_is)
    (case k_IInvalidMoney => k_is)
    (case tI_InvalidMoney => k_is)
    (case xL_InvalidTable => k_is)
    (case sa_InvalidTable => k_is)
    (case eC_InvalidTable => k_is)
    (case tC_InvalidTable => k_is)
    (case kC_InvalidTable => k_is)
    (case nf_InvalidTable => k_is)
    (case a_IInvalidTable => k_is)
    (case l_IInvalidTable => k_is)
    (case c_IInvalidTable => k_is)
    (case k_IInvalidTable => k_is)
    (case tI_InvalidTable => k_is)
    (case su_InvalidTable_SlotError => k_is)
    (case i1_InvalidTable => k_is)
    (case i2_InvalidTable => k_is)
    (case i3_InvalidTable => k_is)
    (case i4_InvalidTable => k_is)
    (case i5_InvalidTable => k_is)
    (case i6_InvalidTable => k_is)
    (case i7_InvalidTable => k_is)
    (case i8_InvalidTable => k_is)
    (case ic_InvalidTable => k_is)
    (case ty_InvalidTable => k_is)
    (case su_InvalidTable_InvalidTable => k_is)
    (case ic_InvalidTime => k_is)
    (case ty_InvalidTime => k_is)
    (case su_InvalidTime_InvalidTime => k_is)
    (case ic_SlotError => k_is)
    (case ty_SlotError => k_is)
    (case su_SlotError_SlotError => k_is)
    (case su_InvalidTable_InvalidTime => k_is)
    (case eR => k_is)
    (case n_InvalidTable_what => k_is)
