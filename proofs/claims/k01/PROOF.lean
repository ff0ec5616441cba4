import PyProof.Rows.All
import Wide.All
import OpenK.AllK
import Wide.FinOn
import HandS.ForMost
import HandS.ForExc
import HandS.IsInst
import HandS.Codes
import HandS.TupLe
import HandS.Replace
import HandS.TryOnly
import PySem.Challenge.RW_looprank_k01_what_is_a_word
set_option Elab.async false
set_option linter.all false
set_option maxRecDepth 100000
set_option maxHeartbeats 2000000
/-! G1: the core of a layer over HandS: what slots hold as plain data (Sl), what an expression's reading evaluates to (Ev), what a statement's reading asks (Cn). -/
namespace G
open PySem PySem.Spec PyProof.Rows L2
open C8 (tCut pss_cut)

/-- the written part and the module's names -/
structure Kx where
  K : PySem.W.Frag
  mg : Str → Option Value

/-- how plain data lie in the heap -/
class Rp (α : Type) where
  rp : Kx → Hp → V → α → Prop
  mono : ∀ {κ : Kx} {H H' : Hp} {v : V} {a : α}, Same H H' → rp κ H v a → rp κ H' v a
/-- data that need no heap -/
class Sc (α : Type) [Rp α] : Prop where
  sc : ∀ {κ : Kx} {H H' : Hp} {v : V} {a : α}, Rp.rp κ H v a → Rp.rp κ H' v a
open Rp

abbrev Tx := List Nat
abbrev Sg := L2.St
def mkS (l : Tx) : Str := ⟨l.toArray⟩
theorem mkS_len (l : Tx) : (mkS l).length = l.length := by simp [mkS, Str.length]
theorem mkS_cps (l : Tx) : (mkS l).cps.toList = l := by simp [mkS]
theorem mkS_inj {a b : Tx} (h : mkS a = mkS b) : a = b := by
  have := congrArg (fun s : Str => s.cps.toList) h
  simpa [mkS] using this
theorem mkS_of (s : Str) : mkS s.cps.toList = s := by cases s; simp [mkS]
theorem mkS_app (a b : Tx) : mkS a ++ mkS b = mkS (a ++ b) := by
  show Str.mk (a.toArray ++ b.toArray) = Str.mk (a ++ b).toArray
  simp

theorem pmap {α β : Type} {F G : α → β → Prop} {l₁ : List α} {l₂ : List β} (h : Paired F l₁ l₂) (f : ∀ a b, F a b → G a b) : Paired G l₁ l₂ := Paired.mapP h f
theorem pget {α β : Type} {F : α → β → Prop} : ∀ {l₁ : List α} {l₂ : List β}, Paired F l₁ l₂ → ∀ {i : Nat} {b : β}, l₂[i]? = some b → ∃ a, l₁[i]? = some a ∧ F a b
  | _, _, .nil, _, _, e => by simp at e
  | _, _, .cons r _, 0, _, e => by simp at e; subst e; exact ⟨_, rfl, r⟩
  | _, _, .cons _ t, i + 1, b, e => by
    obtain ⟨a, h1, h2⟩ := pget t (i := i) (b := b) (by simpa using e)
    exact ⟨a, by simpa using h1, h2⟩
theorem pgetL {α β : Type} {F : α → β → Prop} : ∀ {l₁ : List α} {l₂ : List β}, Paired F l₁ l₂ → ∀ {i : Nat} {a : α}, l₁[i]? = some a → ∃ b, l₂[i]? = some b ∧ F a b
  | _, _, .nil, _, _, e => by simp at e
  | _, _, .cons r _, 0, _, e => by simp at e; subst e; exact ⟨_, rfl, r⟩
  | _, _, .cons _ t, i + 1, b, e => by
    obtain ⟨a, h1, h2⟩ := pgetL t (i := i) (a := b) (by simpa using e)
    exact ⟨a, by simpa using h1, h2⟩
theorem papp {α β : Type} {F : α → β → Prop} : ∀ {l₁ k₁ : List α} {l₂ k₂ : List β}, Paired F l₁ l₂ → Paired F k₁ k₂ → Paired F (l₁ ++ k₁) (l₂ ++ k₂)
  | _, _, _, _, .nil, s => s
  | _, _, _, _, .cons r t, s => .cons r (papp t s)
theorem ptake {α β : Type} {F : α → β → Prop} : ∀ {l₁ : List α} {l₂ : List β} (n : Nat), Paired F l₁ l₂ → Paired F (l₁.take n) (l₂.take n)
  | _, _, 0, _ => .nil
  | _, _, _ + 1, .nil => .nil
  | _, _, n + 1, .cons r t => .cons r (ptake n t)
theorem pdrop {α β : Type} {F : α → β → Prop} : ∀ {l₁ : List α} {l₂ : List β} (n : Nat), Paired F l₁ l₂ → Paired F (l₁.drop n) (l₂.drop n)
  | _, _, 0, r => r
  | _, _, _ + 1, .nil => .nil
  | _, _, n + 1, .cons r t => pdrop n t
theorem pset {α β : Type} {F : α → β → Prop} {x : α} {y : β} (r : F x y) : ∀ {l₁ : List α} {l₂ : List β} (i : Nat), Paired F l₁ l₂ → Paired F (l₁.set i x) (l₂.set i y)
  | _, _, _, .nil => .nil
  | _, _, 0, .cons _ t => .cons r t
  | _, _, i + 1, .cons q t => .cons q (pset r i t)

instance : Rp Int := ⟨fun _ _ v i => v = .int i, fun _ h => h⟩
instance : Rp Bool := ⟨fun _ _ v b => v = .bl b, fun _ h => h⟩
instance : Rp Unit := ⟨fun _ _ v _ => v = .non, fun _ h => h⟩
instance : Rp (List Nat) := ⟨fun _ _ v l => v = .str (mkS l), fun _ h => h⟩
instance rpList {α : Type} [Rp α] : Rp (List α) := ⟨fun κ H v xs => ∃ a vs, v = .ref a ∧ SqL κ.K H a vs ∧ Paired (rp κ H) vs xs, fun e ⟨a, vs, h1, h2, h3⟩ => ⟨a, vs, h1, e.seq h2, pmap h3 fun _ _ => mono e⟩⟩
theorem Same.tup {K : PySem.W.Frag} {H H' : Hp} {a : Addr} {xs : List V} (e : Same H H') (h : SqT K H a xs) : SqT K H' a xs := by
  rcases h with (h | ⟨o, h⟩) | h
  · exact .inl (.inl (e _ _ h))
  · exact .inl (.inr ⟨o, e _ _ h⟩)
  · exact .inr h
instance rpPair {α β : Type} [Rp α] [Rp β] : Rp (α × β) := ⟨fun κ H v p => ∃ a x y, v = .ref a ∧ SqT κ.K H a [x, y] ∧ rp κ H x p.1 ∧ rp κ H y p.2,
  fun e ⟨a, x, y, h1, h2, h3, h4⟩ => ⟨a, x, y, h1, Same.tup e h2, mono e h3, mono e h4⟩⟩
/-- tuples of three and of four -/
structure T3 (α β γ : Type) where
  a : α
  b : β
  c : γ
structure T4 (α β γ δ : Type) where
  a : α
  b : β
  c : γ
  d : δ
instance rpT3 {α β γ : Type} [Rp α] [Rp β] [Rp γ] : Rp (T3 α β γ) := ⟨fun κ H v p => ∃ a x y z, v = .ref a ∧ SqT κ.K H a [x, y, z] ∧ rp κ H x p.a ∧ rp κ H y p.b ∧ rp κ H z p.c,
  fun e ⟨a, x, y, z, h1, h2, h3, h4, h5⟩ => ⟨a, x, y, z, h1, Same.tup e h2, mono e h3, mono e h4, mono e h5⟩⟩
instance rpT4 {α β γ δ : Type} [Rp α] [Rp β] [Rp γ] [Rp δ] : Rp (T4 α β γ δ) := ⟨fun κ H v p => ∃ a x y z u, v = .ref a ∧ SqT κ.K H a [x, y, z, u] ∧ rp κ H x p.a ∧ rp κ H y p.b ∧ rp κ H z p.c ∧ rp κ H u p.d,
  fun e ⟨a, x, y, z, u, h1, h2, h3, h4, h5, h6⟩ => ⟨a, x, y, z, u, h1, Same.tup e h2, mono e h3, mono e h4, mono e h5, mono e h6⟩⟩
instance rpOpt {α : Type} [Rp α] : Rp (Option α) := ⟨fun κ H v o => match o with | none => v = .non | some a => rp κ H v a, fun {κ H H' v a} e h => by
  cases a with
  | none => exact h
  | some a => exact mono e h⟩
instance : Sc Int := ⟨fun h => h⟩
instance : Sc Bool := ⟨fun h => h⟩
instance : Sc Unit := ⟨fun h => h⟩
instance : Sc (List Nat) := ⟨fun h => h⟩
instance scOpt {α : Type} [Rp α] [Sc α] : Sc (Option α) := ⟨fun {κ H H' v a} h => by
  cases a with
  | none => exact h
  | some a => exact Sc.sc (α := α) (H := H) h⟩

/-- the heap and its unchanging part have grown -/
structure Gr (H Hi H' Hi' : Hp) : Prop where
  ex : Same H H'
  exi : Same Hi Hi'
  sub : Same Hi' H'
  new : ∀ a, H a ≠ none → Hi a = none → Hi' a = none
theorem Gr.refl {H Hi : Hp} (s : Same Hi H) : Gr H Hi H Hi := ⟨Same.refl _, Same.refl _, s, fun _ _ h => h⟩
theorem nn_ex {H H' : Hp} {a : Addr} (e : Same H H') (h : H a ≠ none) : H' a ≠ none := by
  cases q : H a with
  | none => exact absurd q h
  | some o => rw [e a o q]; exact fun z => nomatch z
theorem Gr.trans {H Hi H1 Hi1 H2 Hi2 : Hp} (g : Gr H Hi H1 Hi1) (k : Gr H1 Hi1 H2 Hi2) : Gr H Hi H2 Hi2 :=
  ⟨g.ex.trans k.ex, g.exi.trans k.exi, k.sub, fun a h n => k.new a (nn_ex g.ex h) (g.new a h n)⟩
/-- a new unchanging object -/
theorem Gr.put {H Hi : Hp} {p : Addr} {o : HO} (s : Same Hi H) (n : H p = none) : Gr H Hi (upd H p o) (upd Hi p o) := by
  have ni : Hi p = none := by
    cases q : Hi p with
    | none => rfl
    | some u => rw [s p u q] at n; cases n
  refine ⟨fun a u e => ?_, fun a u e => ?_, fun a u e => ?_, fun a h hi => ?_⟩
  · rw [upd_ne (ne_of_none e n)]; exact e
  · rw [upd_ne (ne_of_none e ni)]; exact e
  · by_cases q : a = p
    · subst q; rw [upd_same] at e ⊢; exact e
    · rw [upd_ne q] at e ⊢; exact s a u e
  · by_cases q : a = p
    · subst q; exact absurd n h
    · rw [upd_ne q]; exact hi
/-- a new object that will change -/
theorem Gr.own {H Hi : Hp} {p : Addr} {o : HO} (s : Same Hi H) (n : H p = none) : Gr H Hi (upd H p o) Hi := by
  refine ⟨fun a u e => ?_, Same.refl _, fun a u e => ?_, fun a h hi => hi⟩
  · rw [upd_ne (ne_of_none e n)]; exact e
  · rw [upd_ne (ne_of_none (s a u e) n)]; exact s a u e

/-- data of some kind -/
structure Any : Type 1 where
  α : Type
  i : Rp α
  a : α
instance anyI (x : Any) : Rp x.α := x.i
/-- an instance's fields -/
inductive FldOk (κ : Kx) (Hi : Hp) : List (Str × V) → List (Str × Any) → Prop where
  | nil : FldOk κ Hi [] []
  | cons {f : Str} {v : V} {a : Any} {vs : List (Str × V)} {fs : List (Str × Any)} (h : rp κ Hi v a.a) (t : FldOk κ Hi vs fs) : FldOk κ Hi ((f, v) :: vs) ((f, a) :: fs)
theorem FldOk.mono {κ : Kx} {H H' : Hp} (e : Same H H') : ∀ {vs : List (Str × V)} {fs : List (Str × Any)}, FldOk κ H vs fs → FldOk κ H' vs fs
  | _, _, .nil => .nil
  | _, _, .cons h t => .cons (Rp.mono e h) (t.mono e)
/-- what a slot holds -/
inductive Sl : Type 1 where
  | un
  | im {α : Type} [i : Rp α] (a : α)
  | ml {α : Type} [i : Rp α] (xs : List α)
  | md {α : Type} [i : Rp α] (kvs : List (Key × α))
  | mt {α : Type} [i : Rp α] (kvs : List (List Key × α))
  | mi (C dx : Addr) (fs : List (Str × Any))
def Sl.mut : Sl → Bool
  | .un => false
  | @Sl.im _ _ _ => false
  | @Sl.ml _ _ _ => true
  | @Sl.md _ _ _ => true
  | @Sl.mt _ _ _ => true
  | Sl.mi _ _ _ => true
def SlOk (κ : Kx) (Hs H Hi : Hp) (v : Option V) : Sl → Prop
  | .un => True
  | @Sl.im α i a => ∃ x, v = some x ∧ @rp α i κ Hi x a
  | @Sl.ml α i xs => ∃ l vs, v = some (.ref l) ∧ H l = some (.lst vs) ∧ Hi l = none ∧ Hs l = none ∧ Paired (rp κ Hi) vs xs
  | @Sl.md α i kvs => ∃ l vs, v = some (.ref l) ∧ H l = some (.dK vs) ∧ Hi l = none ∧ Hs l = none ∧ Paired (fun (p : Key × V) (q : Key × α) => p.1 = q.1 ∧ rp κ Hi p.2 q.2) vs kvs
  | @Sl.mt α i kvs => ∃ l vs, v = some (.ref l) ∧ H l = some (.dT vs) ∧ Hi l = none ∧ Hs l = none ∧ Paired (fun (p : List Key × V) (q : List Key × α) => p.1 = q.1 ∧ rp κ Hi p.2 q.2) vs kvs
  | Sl.mi C dx fs => ∃ l vs, v = some (.ref l) ∧ H l = some (.ins C dx vs) ∧ Hi l = none ∧ Hs l = none ∧ FldOk κ Hi vs fs
theorem SlOk.grow {κ : Kx} {Hs H Hi H' Hi' : Hp} {v : Option V} {s : Sl} (g : Gr H Hi H' Hi') (h : SlOk κ Hs H Hi v s) : SlOk κ Hs H' Hi' v s := by
  cases s with
  | un => trivial
  | im a => obtain ⟨x, h1, h2⟩ := h; exact ⟨x, h1, mono g.exi h2⟩
  | ml xs => obtain ⟨l, vs, h1, h2, h3, h4, h5⟩ := h; exact ⟨l, vs, h1, g.ex _ _ h2, g.new _ (by rw [h2]; exact fun z => nomatch z) h3, h4, pmap h5 fun _ _ => mono g.exi⟩
  | md xs => obtain ⟨l, vs, h1, h2, h3, h4, h5⟩ := h; exact ⟨l, vs, h1, g.ex _ _ h2, g.new _ (by rw [h2]; exact fun z => nomatch z) h3, h4, pmap h5 fun _ _ q => ⟨q.1, mono g.exi q.2⟩⟩
  | mt xs => obtain ⟨l, vs, h1, h2, h3, h4, h5⟩ := h; exact ⟨l, vs, h1, g.ex _ _ h2, g.new _ (by rw [h2]; exact fun z => nomatch z) h3, h4, pmap h5 fun _ _ q => ⟨q.1, mono g.exi q.2⟩⟩
  | mi C dx xs => obtain ⟨l, vs, h1, h2, h3, h4, h5⟩ := h; exact ⟨l, vs, h1, g.ex _ _ h2, g.new _ (by rw [h2]; exact fun z => nomatch z) h3, h4, h5.mono g.exi⟩

/-- the heaps at the def's entry, and what is to stay of the unchanging part -/
structure Bs where
  Hs : Hp
  His : Hp
  pin : Hp → Prop
  keep : ∀ Hi Hi', Same Hi Hi' → pin Hi → pin Hi'
def Bs.and (B : Bs) (P : Hp → Prop) (k : ∀ Hi Hi', Same Hi Hi' → P Hi → P Hi') : Bs := ⟨B.Hs, B.His, fun Hi => B.pin Hi ∧ P Hi, fun a b e h => ⟨B.keep a b e h.1, k a b e h.2⟩⟩

structure EO (κ : Kx) (B : Bs) (H Hi : Hp) (σ : Sg) (Γ : List Sl) : Prop where
  gr : Gr B.Hs B.His H Hi
  pin : B.pin Hi
  len : σ.length = Γ.length
  sl : ∀ (i : Nat) (s : Sl), Γ[i]? = some s → ∃ v, σ[i]? = some v ∧ SlOk κ B.Hs H Hi v s
  sep : ∀ (i j : Nat) (s t : Sl) (l : Addr), i ≠ j → Γ[i]? = some s → Γ[j]? = some t → s.mut = true → t.mut = true → σ[i]? = some (some (.ref l)) → σ[j]? = some (some (.ref l)) → False
theorem EO.sub {κ : Kx} {B : Bs} {H Hi : Hp} {σ : Sg} {Γ : List Sl} (h : EO κ B H Hi σ Γ) : Same Hi H := h.gr.sub
theorem EO.grow {κ : Kx} {B : Bs} {H Hi H' Hi' : Hp} {σ : Sg} {Γ : List Sl} (h : EO κ B H Hi σ Γ) (g : Gr H Hi H' Hi') : EO κ B H' Hi' σ Γ :=
  ⟨h.gr.trans g, B.keep _ _ g.exi h.pin, h.len, fun i s e => let ⟨v, h1, h2⟩ := h.sl i s e; ⟨v, h1, h2.grow g⟩, h.sep⟩
theorem EO.im {κ : Kx} {B : Bs} {H Hi : Hp} {σ : Sg} {Γ : List Sl} {α : Type} [Rp α] {a : α} {i : Nat} (h : EO κ B H Hi σ Γ) (e : Γ[i]? = some (.im a)) : ∃ v, σ[i]? = some (some v) ∧ rp κ Hi v a := by
  obtain ⟨v, h1, x, h2, h3⟩ := h.sl i _ e
  subst h2
  exact ⟨x, h1, h3⟩
/-- a slot gets plain data -/
theorem EO.set {κ : Kx} {B : Bs} {H Hi : Hp} {σ : Sg} {Γ : List Sl} {α : Type} [Rp α] {a : α} {v : V} (i : Nat) (h : EO κ B H Hi σ Γ) (r : rp κ Hi v a) : EO κ B H Hi (σ.set i (some v)) (Γ.set i (.im a)) := by
  refine ⟨h.gr, h.pin, by simpa using h.len, fun j s e => ?_, fun j k s t l ne e1 e2 m1 m2 q1 q2 => ?_⟩
  · by_cases hj : j = i
    · subst hj
      have hl : j < Γ.length := by
        rcases Nat.lt_or_ge j Γ.length with z | z
        · exact z
        · rw [List.set_eq_of_length_le z] at e
          rw [List.getElem?_eq_none_iff.mpr z] at e; cases e
      rw [List.getElem?_set_self hl] at e
      cases e
      exact ⟨some v, by rw [List.getElem?_set_self (by rw [h.len]; exact hl)], v, rfl, r⟩
    · rw [List.getElem?_set_ne (Ne.symm hj)] at e
      obtain ⟨w, h1, h2⟩ := h.sl j s e
      exact ⟨w, by rw [List.getElem?_set_ne (Ne.symm hj)]; exact h1, h2⟩
  · have fi : ∀ (j : Nat) (s : Sl), (Γ.set i (.im a))[j]? = some s → s.mut = true → j ≠ i ∧ Γ[j]? = some s := fun j s e m => by
      by_cases hj : j = i
      · subst hj
        rcases Nat.lt_or_ge j Γ.length with z | z
        · rw [List.getElem?_set_self z] at e
          cases e
          cases m
        · rw [List.set_eq_of_length_le z, List.getElem?_eq_none_iff.mpr z] at e; cases e
      · rw [List.getElem?_set_ne (Ne.symm hj)] at e
        exact ⟨hj, e⟩
    obtain ⟨n1, f1⟩ := fi j s e1 m1
    obtain ⟨n2, f2⟩ := fi k t e2 m2
    rw [List.getElem?_set_ne (Ne.symm n1)] at q1
    rw [List.getElem?_set_ne (Ne.symm n2)] at q2
    exact h.sep j k s t l ne f1 f2 m1 m2 q1 q2
/-- a slot gets an own object that may change: l is no other slot's, not of the unchanging part -/
theorem EO.setM {κ : Kx} {B : Bs} {H Hi : Hp} {σ : Sg} {Γ : List Sl} {s : Sl} {l : Addr} (i : Nat) (h : EO κ B H Hi σ Γ) (ok : SlOk κ B.Hs H Hi (some (.ref l)) s)
    (fr : ∀ (j : Nat) (t : Sl), j ≠ i → Γ[j]? = some t → t.mut = true → σ[j]? ≠ some (some (.ref l))) : EO κ B H Hi (σ.set i (some (.ref l))) (Γ.set i s) := by
  refine ⟨h.gr, h.pin, by simpa using h.len, fun j t e => ?_, fun j k t u m ne e1 e2 m1 m2 q1 q2 => ?_⟩
  · by_cases hj : j = i
    · subst hj
      rcases Nat.lt_or_ge j Γ.length with z | z
      · rw [List.getElem?_set_self z] at e
        cases e
        exact ⟨some (.ref l), by rw [List.getElem?_set_self (by rw [h.len]; exact z)], ok⟩
      · rw [List.set_eq_of_length_le z, List.getElem?_eq_none_iff.mpr z] at e; cases e
    · rw [List.getElem?_set_ne (Ne.symm hj)] at e
      obtain ⟨w, h1, h2⟩ := h.sl j t e
      exact ⟨w, by rw [List.getElem?_set_ne (Ne.symm hj)]; exact h1, h2⟩
  · by_cases hj : j = i
    · subst hj
      by_cases hk : k = j
      · exact ne hk.symm
      · rw [List.getElem?_set_ne (Ne.symm hk)] at e2 q2
        rcases Nat.lt_or_ge j σ.length with z | z
        · rw [List.getElem?_set_self z] at q1
          cases q1
          exact fr k u hk e2 m2 q2
        · rw [List.set_eq_of_length_le z, List.getElem?_eq_none_iff.mpr z] at q1; cases q1
    · rw [List.getElem?_set_ne (Ne.symm hj)] at e1 q1
      by_cases hk : k = i
      · subst hk
        rcases Nat.lt_or_ge k σ.length with z | z
        · rw [List.getElem?_set_self z] at q2
          cases q2
          exact fr j t hj e1 m1 q1
        · rw [List.set_eq_of_length_le z, List.getElem?_eq_none_iff.mpr z] at q2; cases q2
      · rw [List.getElem?_set_ne (Ne.symm hk)] at e2 q2
        exact h.sep j k t u m ne e1 e2 m1 m2 q1 q2
/-- what a mutable slot's object is, of no other slot -/
theorem EO.fresh {κ : Kx} {B : Bs} {H Hi : Hp} {σ : Sg} {Γ : List Sl} {l : Addr} (h : EO κ B H Hi σ Γ) (n : H l = none) (j : Nat) (t : Sl) (e : Γ[j]? = some t) (m : t.mut = true) : σ[j]? ≠ some (some (.ref l)) := fun q => by
  obtain ⟨v, h1, h2⟩ := h.sl j t e
  rw [q] at h1; cases h1
  cases t with
  | un => cases m
  | im a => cases m
  | ml xs => obtain ⟨l', vs, h1, h3, _⟩ := h2; cases h1; rw [n] at h3; cases h3
  | md xs => obtain ⟨l', vs, h1, h3, _⟩ := h2; cases h1; rw [n] at h3; cases h3
  | mt xs => obtain ⟨l', vs, h1, h3, _⟩ := h2; cases h1; rw [n] at h3; cases h3
  | mi C dx xs => obtain ⟨l', vs, h1, h3, _⟩ := h2; cases h1; rw [n] at h3; cases h3
/-- an own object is written -/
theorem EO.write {κ : Kx} {B : Bs} {H Hi : Hp} {σ : Sg} {Γ : List Sl} {s s' : Sl} {l : Addr} {o : HO} {i : Nat} (h : EO κ B H Hi σ Γ) (e : Γ[i]? = some s) (m : s.mut = true) (q : σ[i]? = some (some (.ref l)))
    (hl : H l ≠ none) (hi : Hi l = none) (hs : B.Hs l = none) (ok : SlOk κ B.Hs (upd H l o) Hi (some (.ref l)) s') : EO κ B (upd H l o) Hi σ (Γ.set i s') := by
  have sub : Same Hi (upd H l o) := fun a u x => by
    rw [upd_ne (ne_of_none x hi)]; exact h.sub a u x
  have hil : i < Γ.length := (List.getElem?_eq_some_iff.mp e).1
  refine ⟨⟨fun a u x => ?_, h.gr.exi, sub, h.gr.new⟩, h.pin, by simpa using h.len, fun j t f => ?_, fun j k t u a ne e1 e2 m1 m2 q1 q2 => ?_⟩
  · rw [upd_ne (ne_of_none x hs)]; exact h.gr.ex a u x
  · by_cases hj : j = i
    · subst hj
      rw [List.getElem?_set_self hil] at f
      cases f
      exact ⟨_, q, ok⟩
    · rw [List.getElem?_set_ne (Ne.symm hj)] at f
      obtain ⟨v, h1, h2⟩ := h.sl j t f
      refine ⟨v, h1, ?_⟩
      have nl : ∀ l' : Addr, t.mut = true → v = some (.ref l') → l' ≠ l := fun l' mt ev z => by
        subst z; subst ev
        exact h.sep j i t s l' hj f e mt m h1 q
      cases t with
      | un => trivial
      | im a => exact h2
      | ml xs => obtain ⟨l', vs, a1, a2, a3, a4, a5⟩ := h2; exact ⟨l', vs, a1, by rw [upd_ne (nl l' rfl a1)]; exact a2, a3, a4, a5⟩
      | md xs => obtain ⟨l', vs, a1, a2, a3, a4, a5⟩ := h2; exact ⟨l', vs, a1, by rw [upd_ne (nl l' rfl a1)]; exact a2, a3, a4, a5⟩
      | mt xs => obtain ⟨l', vs, a1, a2, a3, a4, a5⟩ := h2; exact ⟨l', vs, a1, by rw [upd_ne (nl l' rfl a1)]; exact a2, a3, a4, a5⟩
      | mi C dx xs => obtain ⟨l', vs, a1, a2, a3, a4, a5⟩ := h2; exact ⟨l', vs, a1, by rw [upd_ne (nl l' rfl a1)]; exact a2, a3, a4, a5⟩
  · have fm : ∀ (j : Nat) (t : Sl), (Γ.set i s')[j]? = some t → t.mut = true → ∃ t', Γ[j]? = some t' ∧ t'.mut = true := fun j t f mt => by
      by_cases hj : j = i
      · subst hj; exact ⟨s, e, m⟩
      · rw [List.getElem?_set_ne (Ne.symm hj)] at f
        exact ⟨t, f, mt⟩
    obtain ⟨t', f1, g1⟩ := fm j t e1 m1
    obtain ⟨u', f2, g2⟩ := fm k u e2 m2
    exact h.sep j k t' u' a ne f1 f2 g1 g2 q1 q2
/-- an own list will change no more -/
theorem EO.freeze {κ : Kx} {B : Bs} {H Hi : Hp} {σ : Sg} {Γ : List Sl} {α : Type} [Rp α] {xs : List α} {i : Nat} (h : EO κ B H Hi σ Γ) (e : Γ[i]? = some (.ml xs)) : ∃ l vs, σ[i]? = some (some (.ref l)) ∧ H l = some (.lst vs) ∧ Hi l = none ∧ B.Hs l = none ∧ EO κ B H (upd Hi l (.lst vs)) σ (Γ.set i (.im xs)) := by
  obtain ⟨v, h1, l, vs, ev, h2, h3, h4, h5⟩ := h.sl i _ e
  subst ev
  have hil : i < Γ.length := (List.getElem?_eq_some_iff.mp e).1
  have s1 : Same Hi (upd Hi l (.lst vs)) := fun a u x => by rw [upd_ne (ne_of_none x h3)]; exact x
  have s2 : Same (upd Hi l (.lst vs)) H := fun a u x => by
    by_cases q : a = l
    · subst q; rw [upd_same] at x; cases x; exact h2
    · rw [upd_ne q] at x; exact h.sub a u x
  refine ⟨l, vs, h1, h2, h3, h4, ⟨h.gr.ex, h.gr.exi.trans s1, s2, fun a x y => ?_⟩, B.keep _ _ s1 h.pin, by simpa using h.len, fun j t f => ?_, fun j k t u a ne e1 e2 m1 m2 q1 q2 => ?_⟩
  · by_cases q : a = l
    · subst q; exact absurd h4 x
    · rw [upd_ne q]; exact h.gr.new a x y
  · by_cases hj : j = i
    · subst hj
      rw [List.getElem?_set_self hil] at f
      cases f
      exact ⟨_, h1, .ref l, rfl, l, vs, rfl, .inl (.inl upd_same), pmap h5 fun _ _ => mono s1⟩
    · rw [List.getElem?_set_ne (Ne.symm hj)] at f
      obtain ⟨v, g1, g2⟩ := h.sl j t f
      refine ⟨v, g1, ?_⟩
      have nl : ∀ l' : Addr, t.mut = true → v = some (.ref l') → l' ≠ l := fun l' mt ev z => by
        subst z; subst ev
        exact h.sep j i t _ l' hj f e mt rfl g1 h1
      cases t with
      | un => trivial
      | im a => obtain ⟨x, a1, a2⟩ := g2; exact ⟨x, a1, mono s1 a2⟩
      | ml xs => obtain ⟨l', vs, a1, a2, a3, a4, a5⟩ := g2; exact ⟨l', vs, a1, a2, by rw [upd_ne (nl l' rfl a1)]; exact a3, a4, pmap a5 fun _ _ => mono s1⟩
      | md xs => obtain ⟨l', vs, a1, a2, a3, a4, a5⟩ := g2; exact ⟨l', vs, a1, a2, by rw [upd_ne (nl l' rfl a1)]; exact a3, a4, pmap a5 fun _ _ q => ⟨q.1, mono s1 q.2⟩⟩
      | mt xs => obtain ⟨l', vs, a1, a2, a3, a4, a5⟩ := g2; exact ⟨l', vs, a1, a2, by rw [upd_ne (nl l' rfl a1)]; exact a3, a4, pmap a5 fun _ _ q => ⟨q.1, mono s1 q.2⟩⟩
      | mi C dx xs => obtain ⟨l', vs, a1, a2, a3, a4, a5⟩ := g2; exact ⟨l', vs, a1, a2, by rw [upd_ne (nl l' rfl a1)]; exact a3, a4, a5.mono s1⟩
  · have fi : ∀ (j : Nat) (s : Sl), (Γ.set i (.im xs))[j]? = some s → s.mut = true → Γ[j]? = some s := fun j s f m => by
      by_cases hj : j = i
      · subst hj; rw [List.getElem?_set_self hil] at f; cases f; cases m
      · rw [List.getElem?_set_ne (Ne.symm hj)] at f; exact f
    exact h.sep j k t u a ne (fi j t e1 m1) (fi k u e2 m2) m1 m2 q1 q2
/-- a slot is forgotten -/
theorem EO.forget {κ : Kx} {B : Bs} {H Hi : Hp} {σ : Sg} {Γ : List Sl} (i : Nat) (h : EO κ B H Hi σ Γ) : EO κ B H Hi σ (Γ.set i .un) := by
  refine ⟨h.gr, h.pin, by simpa using h.len, fun j t f => ?_, fun j k t u a ne e1 e2 m1 m2 q1 q2 => ?_⟩
  · by_cases hj : j = i
    · subst hj
      rcases Nat.lt_or_ge j Γ.length with z | z
      · rw [List.getElem?_set_self z] at f
        cases f
        obtain ⟨v, g1, _⟩ := h.sl j _ (List.getElem?_eq_getElem z)
        exact ⟨v, g1, True.intro⟩
      · rw [List.set_eq_of_length_le z] at f; exact h.sl j t f
    · rw [List.getElem?_set_ne (Ne.symm hj)] at f
      exact h.sl j t f
  · have fi : ∀ (j : Nat) (s : Sl), (Γ.set i .un)[j]? = some s → s.mut = true → Γ[j]? = some s := fun j s f m => by
      by_cases hj : j = i
      · subst hj
        rcases Nat.lt_or_ge j Γ.length with z | z
        · rw [List.getElem?_set_self z] at f; cases f; cases m
        · rw [List.set_eq_of_length_le z] at f; exact f
      · rw [List.getElem?_set_ne (Ne.symm hj)] at f; exact f
    exact h.sep j k t u a ne (fi j t e1 m1) (fi k u e2 m2) m1 m2 q1 q2
theorem EO.pinned {κ : Kx} {B : Bs} {H Hi : Hp} {σ : Sg} {Γ : List Sl} {P : Hp → Prop} {k : ∀ Hi Hi', Same Hi Hi' → P Hi → P Hi'} (h : EO κ B H Hi σ Γ) (p : P Hi) : EO κ (B.and P k) H Hi σ Γ := ⟨h.gr, ⟨h.pin, p⟩, h.len, h.sl, h.sep⟩
theorem EO.unpin {κ : Kx} {B : Bs} {H Hi : Hp} {σ : Sg} {Γ : List Sl} {P : Hp → Prop} {k : ∀ Hi Hi', Same Hi Hi' → P Hi → P Hi'} (h : EO κ (B.and P k) H Hi σ Γ) : EO κ B H Hi σ Γ := ⟨h.gr, h.pin.1, h.len, h.sl, h.sep⟩

/-! ### judgements -/
def Ev (κ : Kx) (te : TE) (Γ : List Sl) {α : Type} [Rp α] (a : α) : Prop := ∀ (B : Bs) (H Hi : Hp) (σ : Sg), EO κ B H Hi σ Γ → ∀ Q : VK, (∀ v H' Hi', Gr H Hi H' Hi' → rp κ Hi' v a → Q v H') → te σ H Q
/-- a new list, the asker's own -/
def EvM (κ : Kx) (te : TE) (Γ : List Sl) {α : Type} [Rp α] (xs : List α) : Prop := ∀ (B : Bs) (H Hi : Hp) (σ : Sg), EO κ B H Hi σ Γ → ∀ Q : VK,
  (∀ l vs H' Hi', Gr H Hi H' Hi' → H' l = some (.lst vs) → H l = none → Hi' l = none → Paired (rp κ Hi') vs xs → Q (.ref l) H') → te σ H Q
def EvB (κ : Kx) (t : TT) (Γ : List Sl) (b : Bool) : Prop := ∀ (B : Bs) (H Hi : Hp) (σ : Sg), EO κ B H Hi σ Γ → ∀ Q : Bool → Hp → Prop, (∀ H' Hi', Gr H Hi H' Hi' → Q b H') → t σ H Q
def SlV (κ : Kx) (Hi : Hp) (v : V) : Sl → Prop
  | .un => True
  | @Sl.im α i a => @rp α i κ Hi v a
  | _ => False
inductive Args (κ : Kx) (Hi : Hp) : List V → List Sl → Prop where
  | nil : Args κ Hi [] []
  | cons {v : V} {s : Sl} {vs : List V} {ss : List Sl} (h : SlV κ Hi v s) (t : Args κ Hi vs ss) : Args κ Hi (v :: vs) (s :: ss)
theorem Args.length {κ : Kx} {Hi : Hp} : ∀ {vs : List V} {ss : List Sl}, Args κ Hi vs ss → vs.length = ss.length
  | _, _, .nil => rfl
  | _, _, .cons _ t => congrArg (· + 1) t.length
theorem Args.get {κ : Kx} {Hi : Hp} : ∀ {vs : List V} {ss : List Sl}, Args κ Hi vs ss → ∀ {i : Nat} {s : Sl}, ss[i]? = some s → ∃ v, vs[i]? = some v ∧ SlV κ Hi v s
  | _, _, .nil, _, _, e => by simp at e
  | _, _, .cons r _, 0, _, e => by simp at e; subst e; exact ⟨_, rfl, r⟩
  | _, _, .cons _ t, i + 1, b, e => by
    obtain ⟨a, h1, h2⟩ := t.get (i := i) (s := b) (by simpa using e)
    exact ⟨a, by simpa using h1, h2⟩
theorem Args.map {κ : Kx} {Hi Hi' : Hp} : ∀ {vs : List V} {ss : List Sl}, Args κ Hi vs ss → (∀ v s, SlV κ Hi v s → SlV κ Hi' v s) → Args κ Hi' vs ss
  | _, _, .nil, _ => .nil
  | _, _, .cons r t, f => .cons (f _ _ r) (t.map f)
theorem SlV.mono {κ : Kx} {Hi Hi' : Hp} {v : V} {s : Sl} (e : Same Hi Hi') (h : SlV κ Hi v s) : SlV κ Hi' v s := by
  cases s with
  | un => trivial
  | im a => exact Rp.mono e h
  | ml xs => exact h.elim
  | md xs => exact h.elim
  | mt xs => exact h.elim
  | mi C dx xs => exact h.elim
def EvA (κ : Kx) (t : TA) (Γ : List Sl) (as : List Sl) : Prop := ∀ (B : Bs) (H Hi : Hp) (σ : Sg), EO κ B H Hi σ Γ → ∀ Q : List V → Hp → Prop, (∀ vs H' Hi', Gr H Hi H' Hi' → Args κ Hi' vs as → Q vs H') → t σ H Q
def EvO (κ : Kx) (t : TO) (Γ : List Sl) (o : Option Int) : Prop := ∀ (B : Bs) (H Hi : Hp) (σ : Sg), EO κ B H Hi σ Γ → ∀ Q : Option Int → Hp → Prop, (∀ H' Hi', Gr H Hi H' Hi' → Q o H') → t σ H Q
/-- a two-place operation on values; its result -/
def RV (κ : Kx) (r : R2) {α β γ : Type} [Rp α] [Rp β] [Rp γ] (a : α) (b : β) (c : γ) : Prop := ∀ (H Hi : Hp) (x y : V), Same Hi H → rp κ Hi x a → rp κ Hi y b → ∀ Q : VK, (∀ v H' Hi', Gr H Hi H' Hi' → rp κ Hi' v c → Q v H') → r x y H Q
/-- .. a new list -/
def RM (κ : Kx) (r : R2) {α β γ : Type} [Rp α] [Rp β] [Rp γ] (a : α) (b : β) (xs : List γ) : Prop := ∀ (H Hi : Hp) (x y : V), Same Hi H → rp κ Hi x a → rp κ Hi y b → ∀ Q : VK,
  (∀ l vs H' Hi', Gr H Hi H' Hi' → H' l = some (.lst vs) → H l = none → Hi' l = none → Paired (rp κ Hi') vs xs → Q (.ref l) H') → r x y H Q
/-- a call on values -/
def RC (κ : Kx) (r : List V → Hp → VK → Prop) (as : List Sl) {α : Type} [Rp α] (a : α) : Prop := ∀ (H Hi : Hp) (vs : List V), Same Hi H → Args κ Hi vs as → ∀ Q : VK, (∀ v H' Hi', Gr H Hi H' Hi' → rp κ Hi' v a → Q v H') → r vs H Q
def RCM (κ : Kx) (r : List V → Hp → VK → Prop) (as : List Sl) {α : Type} [Rp α] (xs : List α) : Prop := ∀ (H Hi : Hp) (vs : List V), Same Hi H → Args κ Hi vs as → ∀ Q : VK,
  (∀ l ws H' Hi', Gr H Hi H' Hi' → H' l = some (.lst ws) → H l = none → Hi' l = none → Paired (rp κ Hi') ws xs → Q (.ref l) H') → r vs H Q
def Cn (κ : Kx) (B : Bs) (Γ : List Sl) (p : Sg → Hp → Prop) : Prop := ∀ (H Hi : Hp) (σ : Sg), EO κ B H Hi σ Γ → p σ H
def RtOk (κ : Kx) (B : Bs) (rt : VK) {α : Type} [Rp α] (a : α) : Prop := ∀ (v : V) (H Hi : Hp), Gr B.Hs B.His H Hi → rp κ Hi v a → rt v H
/-- W holds of the slots -/
def NP (κ : Kx) (B : Bs) (W : List Sl → Prop)   : Sg → Hp → Prop := fun σ H => ∃ Γ Hi, W Γ ∧ EO κ B H Hi σ Γ

section
variable {κ : Kx} {B : Bs} {Γ : List Sl} {te ta tb : TE} {t u : TT}
theorem EvM.ev {α : Type} [Rp α] {xs : List α} (h : EvM κ te Γ xs) : Ev κ te Γ xs := fun B H Hi σ g Q q => h B H Hi σ g Q fun l vs H' Hi' k h1 h2 h3 h4 => by
  have s1 : Same Hi' (upd Hi' l (.lst vs)) := fun a u x => by rw [upd_ne (ne_of_none x h3)]; exact x
  refine q (.ref l) H' (upd Hi' l (.lst vs)) ⟨k.ex, k.exi.trans s1, fun a u x => ?_, fun a x y => ?_⟩ ⟨l, vs, rfl, .inl (.inl upd_same), pmap h4 fun _ _ => mono s1⟩
  · by_cases q : a = l
    · subst q; rw [upd_same] at x; cases x; exact h1
    · rw [upd_ne q] at x; exact k.sub a u x
  · by_cases q : a = l
    · subst q; exact absurd h2 x
    · rw [upd_ne q]; exact k.new a x y
theorem ev_var {α : Type} [Rp α] {a : α} {i : Nat} (h : Γ[i]? = some (.im a)) : Ev κ (tVar i) Γ a := fun B H Hi σ g Q q => by
  obtain ⟨v, h1, h2⟩ := g.im h
  exact ⟨v, h1, q v H Hi (.refl g.sub) h2⟩
theorem ev_c {α : Type} [Rp α] {a : α} {v : V} (h : ∀ H, rp κ H v a) : Ev κ (tC v) Γ a := fun B H Hi σ g Q q => q v H Hi (.refl g.sub) (h Hi)
theorem ev_int {i : Int} : Ev κ (tC (.int i)) Γ i := ev_c fun _ => rfl
theorem ev_bl {b : Bool} : Ev κ (tC (.bl b)) Γ b := ev_c fun _ => rfl
theorem ev_non : Ev κ (tC .non) Γ () := ev_c fun _ => rfl
theorem ev_str {s : Str} (l : Tx) (h : s = mkS l := by decide +kernel) : Ev κ (tC (.str s)) Γ l := ev_c fun _ => by rw [h]; rfl
theorem ev_is {α : Type} [Rp α] {a b : α} (h : Ev κ te Γ a) (e : a = b) : Ev κ te Γ b := e ▸ h
theorem ev_some {α : Type} [Rp α] {a : α} (h : Ev κ te Γ a) : Ev κ te Γ (some a) := h
theorem ev_none {α : Type} [Rp α] (h : Ev κ te Γ ()) : Ev κ te Γ (none : Option α) := h
theorem ev_unsome {α : Type} [Rp α] {a : α} (h : Ev κ te Γ (some a)) : Ev κ te Γ a := h
theorem ev_op {r : R2} {α β γ : Type} [Rp α] [Rp β] [Rp γ] {a : α} {b : β} {c : γ} (ha : Ev κ ta Γ a) (hb : Ev κ tb Γ b) (hr : RV κ r a b c) : Ev κ (tOp r ta tb) Γ c := fun B H Hi σ g Q q =>
  ha B H Hi σ g _ fun x H1 Hi1 g1 r1 => hb B H1 Hi1 σ (g.grow g1) _ fun y H2 Hi2 g2 r2 => hr H2 Hi2 x y g2.sub (mono g2.exi r1) r2 Q fun v H3 Hi3 g3 r3 => q v H3 Hi3 ((g1.trans g2).trans g3) r3
theorem ev_opM {r : R2} {α β γ : Type} [Rp α] [Rp β] [Rp γ] {a : α} {b : β} {c : List γ} (ha : Ev κ ta Γ a) (hb : Ev κ tb Γ b) (hr : RM κ r a b c) : EvM κ (tOp r ta tb) Γ c := fun B H Hi σ g Q q =>
  ha B H Hi σ g _ fun x H1 Hi1 g1 r1 => hb B H1 Hi1 σ (g.grow g1) _ fun y H2 Hi2 g2 r2 => hr H2 Hi2 x y g2.sub (mono g2.exi r1) r2 Q fun l vs H3 Hi3 g3 a1 a2 a3 a4 => q l vs H3 Hi3 ((g1.trans g2).trans g3) a1 (by
    cases e : H l with
    | none => rfl
    | some o => rw [(g1.ex.trans g2.ex) l o e] at a2; cases a2) a3 a4
theorem ev_un {r : V → Hp → VK → Prop} {i j : Int} (ha : Ev κ ta Γ i) (hr : ∀ H (Q : VK), Q (.int j) H → r (.int i) H Q) : Ev κ (tUn r ta) Γ j := fun B H Hi σ g Q q =>
  ha B H Hi σ g _ fun x H1 Hi1 g1 r1 => by
    obtain rfl : x = .int i := r1
    exact hr H1 Q (q _ H1 Hi1 g1 rfl)
theorem ev_neg {i : Int} (ha : Ev κ ta Γ i) : Ev κ (tUn (rU fun i => .int (-i)) ta) Γ (-i) := ev_un ha fun _ _ q => ⟨i, rfl, q⟩
/-! operators on whole numbers -/
theorem rv_I0 {g : Int → Int → V} {γ : Type} [Rp γ] {i j : Int} {c : γ} (h : ∀ H, rp κ H (g i j) c) : RV κ (rI0 g) i j c := fun H Hi x y s rx ry Q q => ⟨i, j, rx, ry, q _ H Hi (.refl s) (h Hi)⟩
theorem rv_I {C : Int → Int → Prop} {g : Int → Int → V} {γ : Type} [Rp γ] {i j : Int} {c : γ} (hc : C i j) (h : ∀ H, rp κ H (g i j) c) : RV κ (rI C g) i j c := fun H Hi x y s rx ry Q q => ⟨i, j, rx, ry, hc, q _ H Hi (.refl s) (h Hi)⟩
theorem rv_add {i j : Int} : RV κ (rI0 fun i j => .int (i + j)) i j (i + j) := rv_I0 fun _ => rfl
theorem rv_sub {i j : Int} : RV κ (rI0 fun i j => .int (i - j)) i j (i - j) := rv_I0 fun _ => rfl
theorem rv_mul {i j : Int} (h : CMul i j) : RV κ (rI CMul fun i j => .int (i * j)) i j (i * j) := rv_I h fun _ => rfl
theorem rv_fdiv {i j : Int} (h : CDiv i j) : RV κ (rI CDiv fun i j => .int (i / j)) i j (i / j) := rv_I h fun _ => rfl
theorem rv_mod {i j : Int} (h : 0 < j) : RV κ (rI (fun _ j => 0 < j) fun i j => .int (i % j)) i j (i % j) := rv_I h fun _ => rfl
theorem rv_pow {i j : Int} (h : CPow i j) : RV κ (rI CPow fun i j => .int (i ^ j.toNat)) i j (i ^ j.toNat) := rv_I h fun _ => rfl
theorem rv_lt {i j : Int} : RV κ (rI0 fun i j => .bl (decide (i < j))) i j (decide (i < j)) := rv_I0 fun _ => rfl
theorem rv_le {i j : Int} : RV κ (rI0 fun i j => .bl (decide (i ≤ j))) i j (decide (i ≤ j)) := rv_I0 fun _ => rfl
theorem rv_gt {i j : Int} : RV κ (rI0 fun i j => .bl (decide (j < i))) i j (decide (j < i)) := rv_I0 fun _ => rfl
theorem rv_ge {i j : Int} : RV κ (rI0 fun i j => .bl (decide (j ≤ i))) i j (decide (j ≤ i)) := rv_I0 fun _ => rfl
theorem rv_eqI {i j : Int} : RV κ rEq i j (decide (i = j)) := fun H Hi x y s rx ry Q q => by
  obtain rfl : x = .int i := rx
  obtain rfl : y = .int j := ry
  refine ⟨rfl, ?_⟩
  have e : decide (V.int i = V.int j) = decide (i = j) := by simp
  rw [e]
  exact q _ H Hi (.refl s) rfl
theorem rv_neI {i j : Int} : RV κ rNe i j (!decide (i = j)) := fun H Hi x y s rx ry Q q => by
  obtain rfl : x = .int i := rx
  obtain rfl : y = .int j := ry
  refine ⟨rfl, ?_⟩
  have e : decide (V.int i = V.int j) = decide (i = j) := by simp
  rw [e]
  exact q _ H Hi (.refl s) rfl
theorem rv_eqB {i j : Bool} : RV κ rEq i j (decide (i = j)) := fun H Hi x y s rx ry Q q => by
  obtain rfl : x = .bl i := rx
  obtain rfl : y = .bl j := ry
  refine ⟨rfl, ?_⟩
  have e : decide (V.bl i = V.bl j) = decide (i = j) := by simp
  rw [e]
  exact q _ H Hi (.refl s) rfl
theorem rv_neB {i j : Bool} : RV κ rNe i j (!decide (i = j)) := fun H Hi x y s rx ry Q q => by
  obtain rfl : x = .bl i := rx
  obtain rfl : y = .bl j := ry
  refine ⟨rfl, ?_⟩
  have e : decide (V.bl i = V.bl j) = decide (i = j) := by simp
  rw [e]
  exact q _ H Hi (.refl s) rfl
theorem dec_str (a b : Tx) : decide (V.str (mkS a) = V.str (mkS b)) = decide (a = b) := by
  by_cases e : a = b
  · subst e; simp
  · rw [decide_eq_false e, decide_eq_false]
    intro h
    exact e (mkS_inj (V.str.inj h))
theorem rv_eqS {i j : Tx} : RV κ rEq i j (decide (i = j)) := fun H Hi x y s rx ry Q q => by
  obtain rfl : x = .str (mkS i) := rx
  obtain rfl : y = .str (mkS j) := ry
  refine ⟨rfl, ?_⟩
  rw [dec_str]
  exact q _ H Hi (.refl s) rfl
theorem rv_neS {i j : Tx} : RV κ rNe i j (!decide (i = j)) := fun H Hi x y s rx ry Q q => by
  obtain rfl : x = .str (mkS i) := rx
  obtain rfl : y = .str (mkS j) := ry
  refine ⟨rfl, ?_⟩
  rw [dec_str]
  exact q _ H Hi (.refl s) rfl
def rCatS' : R2 := fun x y H Q => ∃ i j, x = .str i ∧ y = .str j ∧ i.length + j.length ≤ sizeLine ∧ Q (.str (i ++ j)) H
theorem rv_addS {a b : Tx} (h : a.length + b.length ≤ 16777216) : RV κ (fun x y H Q => ∃ i j, x = .str i ∧ y = .str j ∧ i.length + j.length ≤ sizeLine ∧ Q (.str (i ++ j)) H) a b (a ++ b) := fun H Hi x y s rx ry Q q =>
  ⟨mkS a, mkS b, rx, ry, by rw [mkS_len, mkS_len, sizeLine_eq]; exact h, by rw [mkS_app]; exact q _ H Hi (.refl s) rfl⟩
theorem rv_inSign {c : Nat} {z : Tx} : RV κ (fun x y H Q => ∃ (c : Nat) (z : Str), x = .str ⟨#[c]⟩ ∧ y = .str z ∧ Q (.bl (decide (c ∈ z.cps.toList))) H) [c] z (decide (c ∈ z)) := fun H Hi x y s rx ry Q q =>
  ⟨c, mkS z, rx, ry, by rw [mkS_cps]; exact q _ H Hi (.refl s) rfl⟩
theorem rv_notInSign {c : Nat} {z : Tx} : RV κ (fun x y H Q => ∃ (c : Nat) (z : Str), x = .str ⟨#[c]⟩ ∧ y = .str z ∧ Q (.bl (!decide (c ∈ z.cps.toList))) H) [c] z (!decide (c ∈ z)) := fun H Hi x y s rx ry Q q =>
  ⟨c, mkS z, rx, ry, by rw [mkS_cps]; exact q _ H Hi (.refl s) rfl⟩
/-! subscripts -/
theorem atI_rel {α : Type} {F : V → α → Prop} {vs : List V} {xs : List α} {i : Int} {a : α} (p : Paired F vs xs) (h : atI xs i = some a) : ∃ v, atI vs i = some v ∧ F v a := by
  unfold atI at h ⊢
  rw [p.length]
  cases e : ixN xs.length i with
  | none => rw [e] at h; cases h
  | some j =>
    rw [e] at h
    exact pget p (show xs[j]? = some a from h)
theorem rv_ixL {α : Type} [Rp α] {xs : List α} {i : Int} {a : α} (h : atI xs i = some a) : RV κ (rIxL κ.K) xs i a := fun H Hi x y s ⟨p, vs, e, hs, hp⟩ ry Q q => by
  obtain ⟨v, h1, h2⟩ := atI_rel hp h
  exact ⟨p, vs, i, v, e, ry, s.seq hs, h1, q v H Hi (.refl s) h2⟩
theorem rv_ixT0 {α β : Type} [Rp α] [Rp β] {p : α × β} : RV κ (rIxT κ.K) p (0 : Int) p.1 := fun H Hi x y s ⟨a, u, w, e, hs, h1, h2⟩ ry Q q =>
  ⟨a, [u, w], 0, u, e, ry, Same.tup s hs, rfl, q u H Hi (.refl s) h1⟩
theorem rv_ixT1 {α β : Type} [Rp α] [Rp β] {p : α × β} : RV κ (rIxT κ.K) p (1 : Int) p.2 := fun H Hi x y s ⟨a, u, w, e, hs, h1, h2⟩ ry Q q =>
  ⟨a, [u, w], 1, w, e, ry, Same.tup s hs, rfl, q w H Hi (.refl s) h2⟩
theorem rv_ixS {z : Tx} {i : Int} {c : Nat} (hl : z.length ≤ 16777216) (h : atI z i = some c) : RV κ rIxS z i [c] := fun H Hi x y s rx ry Q q =>
  ⟨mkS z, i, c, rx, ry, by rw [mkS_len, sizeLine_eq]; exact hl, by rw [mkS_cps]; exact h, q _ H Hi (.refl s) rfl⟩
/-! slices -/
theorem eo_none : EvO κ tNoPart Γ none := fun B H Hi σ g Q q => q H Hi (.refl g.sub)
theorem eo_some {i : Int} (h : Ev κ te Γ i) : EvO κ (tPart te) Γ (some i) := fun B H Hi σ g Q q => h B H Hi σ g _ fun x H1 Hi1 g1 r1 => ⟨i, r1, q H1 Hi1 g1⟩
def cutL {α : Type} (xs : List α) (lo hi : Option Int) : List α := (xs.drop (HT.sIx xs.length 0 lo)).take (HT.sIx xs.length xs.length hi - HT.sIx xs.length 0 lo)
theorem cut_rel {α : Type} {F : V → α → Prop} {vs : List V} {xs : List α} (p : Paired F vs xs) (lo hi : Option Int) : Paired F (cutV vs lo hi) (cutL xs lo hi) := by
  unfold cutV cutL
  rw [p.length]
  exact ptake _ (pdrop _ p)
theorem em_slice {α : Type} [Rp α] {xs : List α} {tl th : TO} {lo hi : Option Int} (h : Ev κ te Γ xs) (h1 : EvO κ tl Γ lo) (h2 : EvO κ th Γ hi) : EvM κ (tSl (rSlL κ.K) te tl th) Γ (cutL xs lo hi) := fun B H Hi σ g Q q =>
  h B H Hi σ g _ fun x H1 Hi1 g1 r1 => h1 B H1 Hi1 σ (g.grow g1) _ fun H2 Hi2 g2 => h2 B H2 Hi2 σ ((g.grow g1).grow g2) _ fun H3 Hi3 g3 => by
    obtain ⟨p, vs, e, hs, hp⟩ := r1
    have e3 := g2.exi.trans g3.exi
    refine ⟨p, vs, e, g3.sub.seq (e3.seq hs), fun l hl => ?_⟩
    have nl : ∀ {K : Hp}, Same K H3 → K l = none := fun {K} s => by
      cases z : K l with
      | none => rfl
      | some o => rw [s l o z] at hl; cases hl
    have g4 : Gr H Hi H3 Hi3 := (g1.trans g2).trans g3
    exact q l _ _ Hi3 (g4.trans (.own g4.sub hl)) upd_same (nl g4.ex) (nl g4.sub) (cut_rel (pmap hp fun _ _ => mono e3) lo hi)
/-! tests -/
theorem eb_test {b : Bool} (h : Ev κ te Γ b) : EvB κ (tTest te) Γ b := fun B H Hi σ g Q q => h B H Hi σ g _ fun x H1 Hi1 g1 r1 => ⟨b, r1, q H1 Hi1 g1⟩
theorem eb_B {b : Bool} (h : Ev κ te Γ b) : EvB κ (tB te) Γ b := fun B H Hi σ g Q q => h B H Hi σ g _ fun x H1 Hi1 g1 r1 => ⟨b, r1, q H1 Hi1 g1⟩
theorem eb_is {a b : Bool} (h : EvB κ t Γ a) (e : a = b) : EvB κ t Γ b := e ▸ h
theorem eb_and {a b : Bool} (h1 : EvB κ t Γ a) (h2 : a = true → EvB κ u Γ b) : EvB κ (tAnd t u) Γ (a && b) := fun B H Hi σ g Q q => h1 B H Hi σ g _ fun H1 Hi1 g1 => by
  cases a with
  | true => exact iteT (h2 rfl B H1 Hi1 σ (g.grow g1) Q fun H2 Hi2 g2 => q H2 Hi2 (g1.trans g2))
  | false => exact iteF (q H1 Hi1 g1)
theorem eb_or {a b : Bool} (h1 : EvB κ t Γ a) (h2 : a = false → EvB κ u Γ b) : EvB κ (tOr t u) Γ (a || b) := fun B H Hi σ g Q q => h1 B H Hi σ g _ fun H1 Hi1 g1 => by
  cases a with
  | true => exact iteT (q H1 Hi1 g1)
  | false => exact iteF (h2 rfl B H1 Hi1 σ (g.grow g1) Q fun H2 Hi2 g2 => q H2 Hi2 (g1.trans g2))
theorem eb_not {a : Bool} (h : EvB κ t Γ a) : EvB κ (tNot t) Γ (!a) := fun B H Hi σ g Q q => h B H Hi σ g _ fun H1 Hi1 g1 => q H1 Hi1 g1
theorem ev_andV {a b : Bool} (h1 : Ev κ ta Γ a) (h2 : a = true → Ev κ tb Γ b) : Ev κ (tAndV ta tb) Γ (a && b) := fun B H Hi σ g Q q => h1 B H Hi σ g _ fun x H1 Hi1 g1 r1 => ⟨a, r1, by
  cases a with
  | true => exact iteT (h2 rfl B H1 Hi1 σ (g.grow g1) Q fun v H2 Hi2 g2 => q v H2 Hi2 (g1.trans g2))
  | false => exact iteF (q _ H1 Hi1 g1 rfl)⟩
theorem ev_orV {a b : Bool} (h1 : Ev κ ta Γ a) (h2 : a = false → Ev κ tb Γ b) : Ev κ (tOrV ta tb) Γ (a || b) := fun B H Hi σ g Q q => h1 B H Hi σ g _ fun x H1 Hi1 g1 r1 => ⟨a, r1, by
  cases a with
  | true => exact iteT (q _ H1 Hi1 g1 rfl)
  | false => exact iteF (h2 rfl B H1 Hi1 σ (g.grow g1) Q fun v H2 Hi2 g2 => q v H2 Hi2 (g1.trans g2))⟩
theorem ev_notV {a : Bool} (h : Ev κ ta Γ a) : Ev κ (tNotV ta) Γ (!a) := fun B H Hi σ g Q q => h B H Hi σ g _ fun x H1 Hi1 g1 r1 => ⟨a, r1, q _ H1 Hi1 g1 rfl⟩
theorem ev_if {α : Type} [Rp α] {x y : α} {b : Bool} (h : EvB κ t Γ b) (h1 : b = true → Ev κ ta Γ x) (h2 : b = false → Ev κ tb Γ y) : Ev κ (tIf t ta tb) Γ (if b = true then x else y) := fun B H Hi σ g Q q => h B H Hi σ g _ fun H1 Hi1 g1 => by
  cases b with
  | true => exact iteT (h1 rfl B H1 Hi1 σ (g.grow g1) Q fun v H2 Hi2 g2 r2 => q v H2 Hi2 (g1.trans g2) r2)
  | false => exact iteF (h2 rfl B H1 Hi1 σ (g.grow g1) Q fun v H2 Hi2 g2 r2 => q v H2 Hi2 (g1.trans g2) r2)
theorem ev_isN {α : Type} [Rp α] {o : Option α} (h : Ev κ te Γ o) (nn : ∀ H (a : α) v, rp κ H v a → v ≠ .non) : Ev κ (tIsN te) Γ o.isNone := fun B H Hi σ g Q q => h B H Hi σ g _ fun x H1 Hi1 g1 r1 => by
  cases o with
  | none =>
    obtain rfl : x = .non := r1
    exact q _ H1 Hi1 g1 rfl
  | some a =>
    rw [decide_eq_false (nn Hi1 a x r1)]
    exact q _ H1 Hi1 g1 rfl
/-! arguments, displays -/
theorem ea_nil : EvA κ tNil Γ [] := fun B H Hi σ g Q q => q [] H Hi (.refl g.sub) .nil
theorem ea_cons {α : Type} [Rp α] {a : α} {tr : TA} {as : List Sl} (h : Ev κ te Γ a) (hr : EvA κ tr Γ as) : EvA κ (tCons te tr) Γ (.im a :: as) := fun B H Hi σ g Q q =>
  h B H Hi σ g _ fun x H1 Hi1 g1 r1 => hr B H1 Hi1 σ (g.grow g1) _ fun vs H2 Hi2 g2 r2 => q _ H2 Hi2 (g1.trans g2) (.cons (show SlV κ Hi2 x (.im a) from mono g2.exi r1) r2)
theorem ev_tup {tr : TA} {as : List Sl} {α : Type} [Rp α] {a : α} (h : EvA κ tr Γ as) (hl : as.length ≤ 1000) (hr : ∀ Hi vs p, Args κ Hi vs as → SqT κ.K Hi p vs → rp κ Hi (.ref p) a) : Ev κ (tTup tr) Γ a := fun B H Hi σ g Q q =>
  h B H Hi σ g _ fun vs H1 Hi1 g1 r1 => ⟨by rw [r1.length]; exact Nat.le_trans hl (by decide), fun p hp => by
    have g2 : Gr H1 Hi1 (upd H1 p (.tup vs)) (upd Hi1 p (.tup vs)) := .put g1.sub hp
    exact q _ _ (upd Hi1 p (.tup vs)) (g1.trans g2) (hr _ vs p (r1.map fun _ _ => SlV.mono g2.exi) (.inl (.inl upd_same)))⟩
theorem ev_pair {α β : Type} [Rp α] [Rp β] {a : α} {b : β} (h1 : Ev κ ta Γ a) (h2 : Ev κ tb Γ b) : Ev κ (tTup (tCons ta (tCons tb tNil))) Γ (a, b) :=
  ev_tup (ea_cons h1 (ea_cons h2 ea_nil)) (show 2 ≤ 1000 by decide) fun Hi vs p r s => by
    cases r with
    | cons r1 r2 =>
      cases r2 with
      | cons r3 r4 => cases r4; exact ⟨p, _, _, rfl, s, r1, r3⟩
theorem ev_t3 {α β γ : Type} [Rp α] [Rp β] [Rp γ] {a : α} {b : β} {c : γ} {tc : TE} (h1 : Ev κ ta Γ a) (h2 : Ev κ tb Γ b) (h3 : Ev κ tc Γ c) : Ev κ (tTup (tCons ta (tCons tb (tCons tc tNil)))) Γ (T3.mk a b c) :=
  ev_tup (ea_cons h1 (ea_cons h2 (ea_cons h3 ea_nil))) (show 3 ≤ 1000 by decide) fun Hi vs p r s => by
    cases r with
    | cons r1 r2 =>
      cases r2 with
      | cons r3 r4 =>
        cases r4 with
        | cons r5 r6 => cases r6; exact ⟨p, _, _, _, rfl, s, r1, r3, r5⟩
theorem ev_t4 {α β γ δ : Type} [Rp α] [Rp β] [Rp γ] [Rp δ] {a : α} {b : β} {c : γ} {d : δ} {tc td : TE} (h1 : Ev κ ta Γ a) (h2 : Ev κ tb Γ b) (h3 : Ev κ tc Γ c) (h4 : Ev κ td Γ d) : Ev κ (tTup (tCons ta (tCons tb (tCons tc (tCons td tNil))))) Γ (T4.mk a b c d) :=
  ev_tup (ea_cons h1 (ea_cons h2 (ea_cons h3 (ea_cons h4 ea_nil)))) (show 4 ≤ 1000 by decide) fun Hi vs p r s => by
    cases r with
    | cons r1 r2 =>
      cases r2 with
      | cons r3 r4 =>
        cases r4 with
        | cons r5 r6 =>
          cases r6 with
          | cons r7 r8 => cases r8; exact ⟨p, _, _, _, _, rfl, s, r1, r3, r5, r7⟩
/-- a list's items, as written -/
def EvAs (κ : Kx) (t : TA) (Γ : List Sl) {α : Type} [Rp α] (xs : List α) : Prop := ∀ (B : Bs) (H Hi : Hp) (σ : Sg), EO κ B H Hi σ Γ → ∀ Q : List V → Hp → Prop, (∀ vs H' Hi', Gr H Hi H' Hi' → Paired (rp κ Hi') vs xs → Q vs H') → t σ H Q
theorem eas_nil {α : Type} [Rp α] : EvAs κ tNil Γ ([] : List α) := fun B H Hi σ g Q q => q [] H Hi (.refl g.sub) .nil
theorem eas_cons {α : Type} [Rp α] {a : α} {tr : TA} {as : List α} (h : Ev κ te Γ a) (hr : EvAs κ tr Γ as) : EvAs κ (tCons te tr) Γ (a :: as) := fun B H Hi σ g Q q =>
  h B H Hi σ g _ fun x H1 Hi1 g1 r1 => hr B H1 Hi1 σ (g.grow g1) _ fun vs H2 Hi2 g2 r2 => q _ H2 Hi2 (g1.trans g2) (.cons (mono g2.exi r1) r2)
theorem em_lst {α : Type} [Rp α] {tr : TA} {xs : List α} (h : EvAs κ tr Γ xs) (hl : xs.length ≤ 1000) : EvM κ (tLst tr) Γ xs := fun B H Hi σ g Q q =>
  h B H Hi σ g _ fun vs H1 Hi1 g1 r1 => ⟨by rw [r1.length]; exact Nat.le_trans hl (by decide), fun p hp => by
    have nl : ∀ {K : Hp}, Same K H1 → K p = none := fun {K} s => by
      cases z : K p with
      | none => rfl
      | some o => rw [s p o z] at hp; cases hp
    exact q p vs _ Hi1 (g1.trans (.own g1.sub hp)) upd_same (nl g1.ex) (nl g1.sub) r1⟩
/-! calls -/
theorem ev_cb {r : List V → Hp → VK → Prop} {tr : TA} {as : List Sl} {α : Type} [Rp α] {a : α} (h : EvA κ tr Γ as) (hr : RC κ r as a) : Ev κ (tCB r tr) Γ a := fun B H Hi σ g Q q =>
  h B H Hi σ g _ fun vs H1 Hi1 g1 r1 => hr H1 Hi1 vs g1.sub r1 Q fun v H2 Hi2 g2 r2 => q v H2 Hi2 (g1.trans g2) r2
theorem em_cb {r : List V → Hp → VK → Prop} {tr : TA} {as : List Sl} {α : Type} [Rp α] {a : List α} (h : EvA κ tr Γ as) (hr : RCM κ r as a) : EvM κ (tCB r tr) Γ a := fun B H Hi σ g Q q =>
  h B H Hi σ g _ fun vs H1 Hi1 g1 r1 => hr H1 Hi1 vs g1.sub r1 Q fun l ws H2 Hi2 g2 a1 a2 a3 a4 => q l ws H2 Hi2 (g1.trans g2) a1 (by
    cases e : H l with
    | none => rfl
    | some o => rw [g1.ex l o e] at a2; cases a2) a3 a4
theorem args1 {Hi : Hp} {vs : List V} {s : Sl} (h : Args κ Hi vs [s]) : ∃ v, vs = [v] ∧ SlV κ Hi v s := by
  cases h with
  | cons r t => cases t; exact ⟨_, rfl, r⟩
theorem args2 {Hi : Hp} {vs : List V} {s t : Sl} (h : Args κ Hi vs [s, t]) : ∃ v u, vs = [v, u] ∧ SlV κ Hi v s ∧ SlV κ Hi u t := by
  cases h with
  | cons r q =>
    obtain ⟨u, e, h⟩ := args1 q
    subst e
    exact ⟨_, u, rfl, r, h⟩
def rLenQ (K : PySem.W.Frag) : List V → Hp → VK → Prop := fun xs H Q => ∃ x n, xs = [x] ∧ LenV K x H n ∧ Q (.int n) H
theorem rc_lenS {z : Tx} (h : z.length ≤ 16777216) : RC κ (fun xs H Q => ∃ x n, xs = [x] ∧ LenV κ.K x H n ∧ Q (.int n) H) [.im z] (z.length : Int) := fun H Hi vs s r Q q => by
  obtain ⟨v, rfl, r1⟩ := args1 r
  obtain rfl : v = .str (mkS z) := r1
  exact ⟨_, z.length, rfl, ⟨by rw [mkS_len, sizeLine_eq]; exact h, (mkS_len z)⟩, q _ H Hi (.refl s) rfl⟩
theorem rc_lenL {α : Type} [Rp α] {xs : List α} : RC κ (fun xs H Q => ∃ x n, xs = [x] ∧ LenV κ.K x H n ∧ Q (.int n) H) [.im xs] (xs.length : Int) := fun H Hi vs s r Q q => by
  obtain ⟨v, rfl, p, ws, rfl, hs, hp⟩ := args1 r
  exact ⟨_, xs.length, rfl, .inl ⟨ws, s.seq hs, hp.length.symm⟩, q _ H Hi (.refl s) rfl⟩
theorem rc_lenP {α β : Type} [Rp α] [Rp β] {p : α × β} : RC κ (fun xs H Q => ∃ x n, xs = [x] ∧ LenV κ.K x H n ∧ Q (.int n) H) [.im p] (2 : Int) := fun H Hi vs s r Q q => by
  obtain ⟨v, rfl, a, x, y, rfl, hs, h1, h2⟩ := args1 r
  exact ⟨_, 2, rfl, .inr ⟨_, Same.tup s hs, rfl⟩, q _ H Hi (.refl s) rfl⟩
theorem rc_max2 {i j : Int} : RC κ (fun xs H Q => ∃ i j, xs = [.int i, .int j] ∧ Q (.int (if j > i then j else i)) H) [.im i, .im j] (max i j) := fun H Hi vs s r Q q => by
  obtain ⟨v, u, rfl, r1, r2⟩ := args2 r
  obtain rfl : v = .int i := r1
  obtain rfl : u = .int j := r2
  refine ⟨i, j, rfl, ?_⟩
  have e : (if j > i then j else i) = max i j := by
    by_cases h : j > i
    · rw [if_pos h]; omega
    · rw [if_neg h]; omega
  rw [e]
  exact q _ H Hi (.refl s) rfl
theorem rc_min2 {i j : Int} : RC κ (fun xs H Q => ∃ i j, xs = [.int i, .int j] ∧ Q (.int (if j < i then j else i)) H) [.im i, .im j] (min i j) := fun H Hi vs s r Q q => by
  obtain ⟨v, u, rfl, r1, r2⟩ := args2 r
  obtain rfl : v = .int i := r1
  obtain rfl : u = .int j := r2
  refine ⟨i, j, rfl, ?_⟩
  have e : (if j < i then j else i) = min i j := by
    by_cases h : j < i
    · rw [if_pos h]; omega
    · rw [if_neg h]; omega
  rw [e]
  exact q _ H Hi (.refl s) rfl
/-- a def's promise: of such arguments, if pre holds, f of them -/
def PSp (κ : Kx) {ι α : Type} [Rp α] (as : ι → List Sl) (pre : ι → Prop) (f : ι → α) : Sp := fun vs H Q _ => ∃ d Hi, pre d ∧ Same Hi H ∧ Args κ Hi vs (as d) ∧ ∀ v H' Hi', Gr H Hi H' Hi' → rp κ Hi' v (f d) → Q v H'
theorem ev_call {ι α : Type} [Rp α] {as : ι → List Sl} {pre : ι → Prop} {f : ι → α} {E : XK} {tr : TA} (d : ι) (h : EvA κ tr Γ (as d)) (hp : pre d) : Ev κ (tCall (PSp κ as pre f) [] E tr) Γ (f d) := fun B H Hi σ g Q q =>
  h B H Hi σ g _ fun vs H1 Hi1 g1 r1 => ⟨d, Hi1, hp, g1.sub, by rw [List.append_nil]; exact r1, fun v H2 Hi2 g2 r2 => q v H2 Hi2 (g1.trans g2) r2⟩
end

/-! ### statements -/
section
variable {κ : Kx} {B : Bs} {Γ : List Sl} {te ta tb : TE} {t u : TT} {ts us : TS} {D : Ends} {p : Sg → Hp → Prop}
theorem c_seq (h : Cn κ B Γ (ts { D with nx := us D })) : Cn κ B Γ (tSeq ts us D) := h
theorem c_cut (N : List Sl → Prop) (h1 : Cn κ B Γ (ts { D with nx := NP κ B N })) (h2 : ∀ Γ', N Γ' → Cn κ B Γ' (us D)) : Cn κ B Γ (tCut ts us D) := fun H Hi σ g =>
  ⟨NP κ B N, h1 H Hi σ g, fun σ' H' ⟨Γ', Hi', hN, g'⟩ => h2 Γ' hN H' Hi' σ' g'⟩
theorem c_to {N : List Sl → Prop} (h : N Γ) : Cn κ B Γ (NP κ B N) := fun H Hi σ g => ⟨Γ, Hi, h, g⟩
theorem c_nx (h : Cn κ B Γ D.nx) : Cn κ B Γ (tNext D) := h
theorem c_brk (h : Cn κ B Γ D.bk) : Cn κ B Γ (tBreak D) := h
theorem c_cnt (h : Cn κ B Γ D.ct) : Cn κ B Γ (tCont D) := h
theorem c_asg {α : Type} [Rp α] {a : α} {i : Nat} (h : Ev κ te Γ a) (k : Cn κ B (Γ.set i (.im a)) D.nx) : Cn κ B Γ (tAsg te (gName i) D) := fun H Hi σ g => h B H Hi σ g _ fun v H1 Hi1 g1 r1 => k H1 Hi1 _ ((g.grow g1).set i r1)
theorem c_asgM {α : Type} [Rp α] {xs : List α} {i : Nat} (h : EvM κ te Γ xs) (k : Cn κ B (Γ.set i (.ml xs)) D.nx) : Cn κ B Γ (tAsg te (gName i) D) := fun H Hi σ g => h B H Hi σ g _ fun l vs H1 Hi1 g1 h1 h2 h3 h4 => k H1 Hi1 _ (by
  have hs : B.Hs l = none := by
    cases e : B.Hs l with
    | none => rfl
    | some o => rw [g.gr.ex l o e] at h2; cases h2
  exact (g.grow g1).setM i ⟨l, vs, rfl, h1, h3, hs, h4⟩ fun j t _ e m => g.fresh h2 j t e m)
/-- a target takes plain data -/
def TgOk (κ : Kx) (g : TG) {α : Type} [Rp α] (a : α) (Γ Γ' : List Sl) : Prop := ∀ (B : Bs) (H Hi : Hp) (σ : Sg) (v : V), EO κ B H Hi σ Γ → rp κ Hi v a → ∀ p : Sg → Hp → Prop, (∀ σ', EO κ B H Hi σ' Γ' → p σ' H) → g v σ H p
theorem tg_name {α : Type} [Rp α] {a : α} (i : Nat) : TgOk κ (gName i) a Γ (Γ.set i (.im a)) := fun B H Hi σ v g r p q => q _ (g.set i r)
theorem tg_pair {α β : Type} [Rp α] [Rp β] {x : α × β} {g1 g2 : TG} {Γ1 Γ2 : List Sl} (h1 : TgOk κ g1 x.1 Γ Γ1) (h2 : TgOk κ g2 x.2 Γ1 Γ2) : TgOk κ (gTup κ.K 2 (gCons g1 (gCons g2 gNil))) x Γ Γ2 := fun B H Hi σ v g ⟨a, y, z, e, hs, r1, r2⟩ p q =>
  ⟨a, [y, z], e, Same.tup g.sub hs, rfl, y, [z], rfl, h1 B H Hi σ y g r1 _ fun σ1 e1 => ⟨z, [], rfl, h2 B H Hi σ1 z e1 r2 _ fun σ2 e2 => ⟨rfl, q σ2 e2⟩⟩⟩
theorem c_asgT {α : Type} [Rp α] {a : α} {g : TG} {Γ' : List Sl} (h : Ev κ te Γ a) (hg : TgOk κ g a Γ Γ') (k : Cn κ B Γ' D.nx) : Cn κ B Γ (tAsg te g D) := fun H Hi σ e => h B H Hi σ e _ fun v H1 Hi1 g1 r1 => hg B H1 Hi1 σ v (e.grow g1) r1 _ fun σ' e' => k H1 Hi1 σ' e'
theorem c_if {b : Bool} (h : EvB κ t Γ b) (h1 : b = true → Cn κ B Γ (ts D)) (h2 : b = false → Cn κ B Γ (us D)) : Cn κ B Γ (tIfS t ts us D) := fun H Hi σ g => h B H Hi σ g _ fun H1 Hi1 g1 => by
  cases b with
  | true => exact iteT (h1 rfl H1 Hi1 σ (g.grow g1))
  | false => exact iteF (h2 rfl H1 Hi1 σ (g.grow g1))
theorem c_ret {α : Type} [Rp α] {a : α} (h : Ev κ te Γ a) (k : RtOk κ B D.rt a) : Cn κ B Γ (tRet te D) := fun H Hi σ g => h B H Hi σ g _ fun v H1 Hi1 g1 r1 => k v H1 Hi1 (g.gr.trans g1) r1
theorem rt_is {α : Type} [Rp α] {rt : VK} {a b : α} (h : RtOk κ B rt a) (e : b = a) : RtOk κ B rt b := e ▸ h
theorem c_drop {α : Type} [Rp α] {a : α} (h : Ev κ te Γ a) (k : Cn κ B Γ D.nx) : Cn κ B Γ (tDrop te D) := fun H Hi σ g => h B H Hi σ g _ fun v H1 Hi1 g1 r1 => k H1 Hi1 σ (g.grow g1)
theorem c_freeze {α : Type} [Rp α] {xs : List α} (i : Nat) (e : Γ[i]? = some (.ml xs)) (k : Cn κ B (Γ.set i (.im xs)) p) : Cn κ B Γ p := fun H Hi σ g => by
  obtain ⟨l, vs, _, _, _, _, g'⟩ := g.freeze e
  exact k H _ σ g'
theorem c_forget (i : Nat) (k : Cn κ B (Γ.set i .un) p) : Cn κ B Γ p := fun H Hi σ g => k H Hi σ (g.forget i)
/-- xs.append(e), xs an own list -/
theorem c_append {α : Type} [Rp α] {a : α} {xs : List α} {i : Nat} (e : Γ[i]? = some (.ml xs)) (h : Ev κ te Γ a) (hl : xs.length < 16777216) (k : Cn κ B (Γ.set i (.ml (xs ++ [a]))) D.nx) : Cn κ B Γ (tDrop (tBM κ.K "list" rAppend (tVar i) (tCons te tNil)) D) := fun H Hi σ g => by
  obtain ⟨v, q, l, vs, ev, h1, h2, h3, h4⟩ := g.sl i _ e
  subst ev
  refine ⟨_, q, .inl ⟨rfl, vs, .inl (.inl h1)⟩, h B H Hi σ g _ fun x H1 Hi1 g1 r1 => ?_⟩
  refine ⟨l, vs, x, rfl, rfl, g1.ex _ _ h1, by rw [h4.length, sizeLine_eq]; exact hl, ?_⟩
  have g' := g.grow g1
  have hl1 : H1 l = some (.lst vs) := g1.ex _ _ h1
  have hi1 : Hi1 l = none := g1.new l (by rw [h1]; exact fun z => nomatch z) h2
  exact k _ Hi1 σ (g'.write e rfl q (by rw [hl1]; exact fun z => nomatch z) hi1 h3 ⟨l, vs ++ [x], rfl, upd_same, hi1, h3, papp (pmap h4 fun _ _ => mono g1.exi) (.cons r1 .nil)⟩)
/-- an item of an own list -/
theorem ev_ixM {α : Type} [Rp α] {xs : List α} {i : Nat} {j : Int} {a : α} (e : Γ[i]? = some (.ml xs)) (h : Ev κ te Γ j) (hj : atI xs j = some a) : Ev κ (tOp (rIxL κ.K) (tVar i) te) Γ a := fun B H Hi σ g Q q => by
  obtain ⟨v, hv, l, vs, ev, h1, h2, h3, h4⟩ := g.sl i _ e
  subst ev
  refine ⟨_, hv, h B H Hi σ g _ fun x H1 Hi1 g1 r1 => ?_⟩
  obtain ⟨w, a1, a2⟩ := atI_rel h4 hj
  exact ⟨l, vs, j, w, rfl, r1, .inl (.inl (g1.ex _ _ h1)), a1, q w H1 Hi1 g1 (mono g1.exi a2)⟩
theorem ev_lenM {α : Type} [Rp α] {xs : List α} {i : Nat} (e : Γ[i]? = some (.ml xs)) : Ev κ (tCB (fun xs H Q => ∃ x n, xs = [x] ∧ LenV κ.K x H n ∧ Q (.int n) H) (tCons (tVar i) tNil)) Γ (xs.length : Int) := fun B H Hi σ g Q q => by
  obtain ⟨v, hv, l, vs, ev, h1, h2, h3, h4⟩ := g.sl i _ e
  subst ev
  exact ⟨_, hv, _, xs.length, rfl, .inl ⟨vs, .inl (.inl h1), h4.length.symm⟩, q _ H Hi (.refl g.sub) rfl⟩
/-- what reads an own list and tells scalar data -/
theorem ev_lend {α β : Type} [Rp α] [Rp β] [Sc β] {xs : List α} {b : β} (i : Nat) (e : Γ[i]? = some (.ml xs)) (h : Ev κ te (Γ.set i (.im xs)) b) : Ev κ te Γ b := fun B H Hi σ g Q q => by
  obtain ⟨l, vs, _, h2, h3, h4, g2⟩ := g.freeze e
  refine h B H _ σ g2 Q fun v H' Hi' k r => ?_
  refine q v H' (fun a => if a = l then none else Hi' a) ⟨k.ex, fun a o x => ?_, fun a o x => ?_, fun a x y => ?_⟩ (Sc.sc r)
  · have n : a ≠ l := ne_of_none x h3
    show (if a = l then none else Hi' a) = some o
    rw [if_neg n]
    exact k.exi a o (by rw [upd_ne n]; exact x)
  · have x' : (if a = l then none else Hi' a) = some o := x
    by_cases n : a = l
    · rw [if_pos n] at x'; cases x'
    · rw [if_neg n] at x'; exact k.sub a o x'
  · show (if a = l then none else Hi' a) = none
    by_cases n : a = l
    · rw [if_pos n]
    · rw [if_neg n]; exact k.new a x (by rw [upd_ne n]; exact y)
end
end G

set_option Elab.async false
set_option linter.all false
set_option maxRecDepth 100000
set_option maxHeartbeats 2000000
/-! G2: loops, comprehensions, defs. -/
namespace G
open PySem PySem.Spec PyProof.Rows L2
open C8 (tCut pss_cut)
open Rp

/-! ### slots forgotten -/
def unsl (Γ : List Sl) : List Nat → List Sl
  | [] => Γ
  | v :: vs => (unsl Γ vs).set v .un
theorem EO.setNone {κ : Kx} {B : Bs} {H Hi : Hp} {σ : Sg} {Γ : List Sl} (i : Nat) (h : EO κ B H Hi σ Γ) : EO κ B H Hi (σ.set i none) (Γ.set i .un) := by
  refine ⟨h.gr, h.pin, by simpa using h.len, fun j t f => ?_, fun j k t u a ne e1 e2 m1 m2 q1 q2 => ?_⟩
  · by_cases hj : j = i
    · subst hj
      rcases Nat.lt_or_ge j Γ.length with z | z
      · rw [List.getElem?_set_self z] at f
        cases f
        exact ⟨none, by rw [List.getElem?_set_self (by rw [h.len]; exact z)], True.intro⟩
      · rw [List.set_eq_of_length_le z, List.getElem?_eq_none_iff.mpr z] at f; cases f
    · rw [List.getElem?_set_ne (Ne.symm hj)] at f
      obtain ⟨v, h1, h2⟩ := h.sl j t f
      exact ⟨v, by rw [List.getElem?_set_ne (Ne.symm hj)]; exact h1, h2⟩
  · have fi : ∀ (j : Nat) (s : Sl), (Γ.set i .un)[j]? = some s → s.mut = true → j ≠ i ∧ Γ[j]? = some s := fun j s f m => by
      by_cases hj : j = i
      · subst hj
        rcases Nat.lt_or_ge j Γ.length with z | z
        · rw [List.getElem?_set_self z] at f; cases f; cases m
        · rw [List.set_eq_of_length_le z, List.getElem?_eq_none_iff.mpr z] at f; cases f
      · rw [List.getElem?_set_ne (Ne.symm hj)] at f; exact ⟨hj, f⟩
    obtain ⟨n1, f1⟩ := fi j t e1 m1
    obtain ⟨n2, f2⟩ := fi k u e2 m2
    rw [List.getElem?_set_ne (Ne.symm n1)] at q1
    rw [List.getElem?_set_ne (Ne.symm n2)] at q2
    exact h.sep j k t u a ne f1 f2 m1 m2 q1 q2
theorem EO.wiped {κ : Kx} {B : Bs} {H Hi : Hp} {σ : Sg} {Γ : List Sl} (h : EO κ B H Hi σ Γ) : ∀ vs : List Nat, EO κ B H Hi (wipe σ vs) (unsl Γ vs)
  | [] => h
  | v :: vs => (h.wiped vs).setNone v
theorem wipe_at (σ : Sg) (i : Nat) : ∀ vs : List Nat, (wipe σ vs)[i]? = if i ∈ vs ∧ i < σ.length then some none else σ[i]?
  | [] => by simp [wipe]
  | v :: vs => by
    unfold wipe
    rw [List.getElem?_set, wipe_length, wipe_at σ i vs]
    by_cases h : v = i
    · subst h
      by_cases hl : v < σ.length
      · simp [hl]
      · simp [hl, List.getElem?_eq_none_iff.mpr (Nat.le_of_not_lt hl)]
    · have h' : ¬ i = v := fun e => h e.symm
      simp [h, h']
theorem wipe_set (σ : Sg) {i : Nat} (x : Option V) {vs : List Nat} (h : i ∈ vs) : wipe (σ.set i x) vs = wipe σ vs := by
  apply List.ext_getElem?
  intro j
  rw [wipe_at, wipe_at, List.length_set]
  by_cases hj : j ∈ vs ∧ j < σ.length
  · rw [if_pos hj, if_pos hj]
  · rw [if_neg hj, if_neg hj]
    by_cases e : j = i
    · subst e
      have z : σ.length ≤ j := Nat.le_of_not_lt fun q => hj ⟨h, q⟩
      rw [List.set_eq_of_length_le z]
    · rw [List.getElem?_set_ne (Ne.symm e)]
theorem wipe_wipe (σ : Sg) (vs : List Nat) : wipe (wipe σ vs) vs = wipe σ vs := by
  apply List.ext_getElem?
  intro j
  rw [wipe_at, wipe_at, wipe_length]
  by_cases hj : j ∈ vs ∧ j < σ.length
  · rw [if_pos hj, if_pos hj]
  · rw [if_neg hj]

/-! ### what is walked -/
/-- the walked thing goes through the plain data xs -/
def EvI (κ : Kx) (wi : TI) (Γ : List Sl) {α : Type} [Rp α] (xs : List α) : Prop := ∀ (B : Bs) (H Hi : Hp) (σ : Sg), EO κ B H Hi σ Γ → ∀ R : It → Hp → Prop,
  (∀ (J : It) (H' Hi' : Hp) (P : Hp → Prop), Gr H Hi H' Hi' → P Hi' → (∀ a b, Same a b → P a → P b) →
    (∀ i Hx Hix x, Same Hix Hx → P Hix → xs[i]? = some x → J.go i Hx ∧ ∀ v Hy, J.yld i Hx v Hy → ∃ Hiy, Gr Hx Hix Hy Hiy ∧ rp κ Hiy v x) →
    (∀ Hx Hix, Same Hix Hx → P Hix → J.stop xs.length Hx) → R J H') → wi σ H R

section
variable {κ : Kx} {B : Bs} {Γ : List Sl} {te ta tb : TE}
theorem ei_list {α : Type} [Rp α] {xs : List α} (h : Ev κ te Γ xs) : EvI κ (iList κ.K te) Γ xs := fun B H Hi σ g R q => h B H Hi σ g _ fun v H1 Hi1 g1 ⟨a, vs, e, hs, hp⟩ => by
  refine ⟨a, e, ⟨vs, g1.sub.seq hs⟩, q _ H1 Hi1 (fun K => SqL κ.K K a vs ∧ Paired (rp κ K) vs xs) g1 ⟨hs, hp⟩ (fun x y s z => ⟨s.seq z.1, pmap z.2 fun _ _ => mono s⟩) (fun i Hx Hix x s p ex => ?_) fun Hx Hix s p => ⟨vs, s.seq p.1, Nat.le_of_eq hp.length⟩⟩
  obtain ⟨w, h1, h2⟩ := pget p.2 ex
  have hx := s.seq p.1
  refine ⟨⟨vs, w, hx, h1⟩, fun v Hy y => ?_⟩
  obtain ⟨rfl, y2⟩ := y
  have z := (y2 vs hx).symm.trans h1
  cases z
  exact ⟨Hix, .refl s, h2⟩
/-- a pair walked -/
theorem ei_tup2 {α : Type} [Rp α] {x y : α} (h : Ev κ te Γ (x, y)) : EvI κ (iTup κ.K te) Γ [x, y] := fun B H Hi σ g R q => h B H Hi σ g _ fun v H1 Hi1 g1 ⟨a, u, w, e, hs, h1, h2⟩ => by
  refine ⟨a, e, ⟨[u, w], Same.tup g1.sub hs⟩, q _ H1 Hi1 (fun K => SqT κ.K K a [u, w] ∧ rp κ K u x ∧ rp κ K w y) g1 ⟨hs, h1, h2⟩ (fun _ _ s z => ⟨Same.tup s z.1, mono s z.2.1, mono s z.2.2⟩) (fun i Hx Hix x' s p ex => ?_) fun Hx Hix s p => ⟨[u, w], Same.tup s p.1, Nat.le_refl _⟩⟩
  have hx := Same.tup s p.1
  have hi : ∃ z, [u, w][i]? = some z ∧ rp κ Hix z x' := by
    match i with
    | 0 => simp at ex; subst ex; exact ⟨u, rfl, p.2.1⟩
    | 1 => simp at ex; subst ex; exact ⟨w, rfl, p.2.2⟩
    | i + 2 => simp at ex
  obtain ⟨z, e1, e2⟩ := hi
  refine ⟨⟨_, z, hx, e1⟩, fun v Hy y => ?_⟩
  obtain ⟨rfl, y2⟩ := y
  have z := (y2 _ hx).symm.trans e1
  cases z
  exact ⟨Hix, .refl s, e2⟩
/-- a text's signs -/
theorem ei_str {z : Tx} (h : Ev κ te Γ z) : EvI κ (iStr te) Γ (z.map fun c => ([c] : Tx)) := fun B H Hi σ g R q => h B H Hi σ g _ fun v H1 Hi1 g1 r1 => by
  refine ⟨mkS z, r1, q _ H1 Hi1 (fun _ => True) g1 trivial (fun _ _ _ _ => trivial) (fun i Hx Hix x s _ ex => ?_) fun Hx Hix s _ => by show (mkS z).cps.size ≤ _; simp [mkS]⟩
  rw [List.getElem?_map] at ex
  cases ez : z[i]? with
  | none => rw [ez] at ex; cases ex
  | some c =>
    rw [ez] at ex
    cases ex
    have hl : i < z.length := (List.getElem?_eq_some_iff.mp ez).1
    refine ⟨by show i < (mkS z).cps.size; simpa [mkS] using hl, fun v Hy y => ?_⟩
    obtain ⟨rfl, c', e1, rfl⟩ := y
    have e2 : z[i]? = some c' := by simpa [mkS] using e1
    rw [ez] at e2
    cases e2
    exact ⟨Hix, .refl s, rfl⟩
def rangeI (lo : Int) (n : Nat) : List Int := (List.range n).map fun (k : Nat) => lo + (k : Int)
theorem rangeI_get {lo : Int} {n i : Nat} {x : Int} (h : (rangeI lo n)[i]? = some x) : i < n ∧ x = lo + (i : Int) := by
  unfold rangeI at h
  rw [List.getElem?_map] at h
  by_cases hi : i < n
  · rw [List.getElem?_range hi] at h
    exact ⟨hi, (Option.some.inj h).symm⟩
  · rw [List.getElem?_eq_none_iff.mpr (by simpa using hi)] at h
    cases h
theorem rangeI_len {lo : Int} {n : Nat} : (rangeI lo n).length = n := by simp [rangeI]
theorem ei_range1 {j : Int} (h : Ev κ te Γ j) (hl : -(2 ^ 62) ≤ j ∧ j < 2 ^ 62) : EvI κ (iRng1 (tCons te tNil)) Γ (rangeI 0 j.toNat) := fun B H Hi σ g R q => h B H Hi σ g _ fun v H1 Hi1 g1 r1 => by
  obtain rfl : v = .int j := r1
  refine ⟨j, rfl, hl.1, hl.2, q _ H1 Hi1 (fun _ => True) g1 trivial (fun _ _ _ _ => trivial) (fun i Hx Hix x s _ ex => ?_) fun Hx Hix s _ => by show _ ≤ _; rw [rangeI_len]; exact Nat.le_refl _⟩
  obtain ⟨h1, rfl⟩ := rangeI_get ex
  refine ⟨h1, fun v Hy y => ?_⟩
  obtain ⟨rfl, rfl⟩ := y
  exact ⟨Hix, .refl s, rfl⟩
theorem ei_range2 {a j : Int} (ha : Ev κ ta Γ a) (h : Ev κ te Γ j) (hl : -(2 ^ 62) ≤ a ∧ a < 2 ^ 62 ∧ -(2 ^ 62) ≤ j ∧ j < 2 ^ 62) : EvI κ (iRng2 (tCons ta (tCons te tNil))) Γ (rangeI a (j - a).toNat) := fun B H Hi σ g R q =>
  ha B H Hi σ g _ fun u H0 Hi0 g0 r0 => h B H0 Hi0 σ (g.grow g0) _ fun v H1 Hi1 g1 r1 => by
  obtain rfl : v = .int j := r1
  obtain rfl : u = .int a := r0
  refine ⟨a, j, rfl, hl, q _ H1 Hi1 (fun _ => True) (g0.trans g1) trivial (fun _ _ _ _ => trivial) (fun i Hx Hix x s _ ex => ?_) fun Hx Hix s _ => by show _ ≤ _; rw [rangeI_len]; exact Nat.le_refl _⟩
  obtain ⟨h1, rfl⟩ := rangeI_get ex
  refine ⟨h1, fun v Hy y => ?_⟩
  obtain ⟨rfl, rfl⟩ := y
  exact ⟨Hix, .refl s, rfl⟩
/-- zip of two lists -/
theorem ei_zip {α β : Type} [Rp α] [Rp β] {xs : List α} {ys : List β} (ha : Ev κ ta Γ xs) (hb : Ev κ tb Γ ys) : EvI κ (iZip κ.K (tCons ta (tCons tb tNil))) Γ (xs.zip ys) := fun B H Hi σ g R q =>
  ha B H Hi σ g _ fun u H0 Hi0 g0 r0 => hb B H0 Hi0 σ (g.grow g0) _ fun v H1 Hi1 g1 r1 => by
  obtain ⟨a, vs, rfl, hs, hp⟩ := mono g1.exi r0
  obtain ⟨b, ws, rfl, ht, hq⟩ := r1
  refine ⟨a, b, vs, ws, rfl, g1.sub.seq hs, g1.sub.seq ht, q _ H1 Hi1 (fun K => (SqL κ.K K a vs ∧ Paired (rp κ K) vs xs) ∧ SqL κ.K K b ws ∧ Paired (rp κ K) ws ys) (g0.trans g1) ⟨⟨hs, hp⟩, ht, hq⟩ (fun x y s z => ⟨⟨s.seq z.1.1, pmap z.1.2 fun _ _ => mono s⟩, s.seq z.2.1, pmap z.2.2 fun _ _ => mono s⟩)
    (fun i Hx Hix x s p ex => ?_) fun Hx Hix s p => ⟨vs, ws, s.seq p.1.1, s.seq p.2.1, ?_⟩⟩
  · obtain ⟨ex1, ex2⟩ : xs[i]? = some x.1 ∧ ys[i]? = some x.2 := by
      have := List.getElem?_zip_eq_some.mp ex
      exact this
    obtain ⟨v1, e1, f1⟩ := pget p.1.2 ex1
    obtain ⟨v2, e2, f2⟩ := pget p.2.2 ex2
    have h1 := s.seq p.1.1
    have h2 := s.seq p.2.1
    refine ⟨⟨vs, ws, v1, v2, h1, h2, e1, e2⟩, fun v Hy y => ?_⟩
    obtain ⟨T, y1, y2, rfl, nT, rfl, z1, z2⟩ := y
    have a1 := (z1 _ h1).symm.trans e1
    have a2 := (z2 _ h2).symm.trans e2
    cases a1
    cases a2
    have g2 : Gr Hx Hix (upd Hx T (.tup [v1, v2])) (upd Hix T (.tup [v1, v2])) := .put s nT
    exact ⟨_, g2, T, v1, v2, rfl, .inl (.inl upd_same), mono g2.exi f1, mono g2.exi f2⟩
  · rw [List.length_zip, hp.length, hq.length]
    omega
/-- a target takes plain data; is: the slots that it sets -/
def TgA (κ : Kx) (g : TG) (is : List Nat) {α : Type} [Rp α] (a : α) (Γ Γ' : List Sl) : Prop := ∀ (B : Bs) (H Hi : Hp) (σ : Sg) (v : V), EO κ B H Hi σ Γ → rp κ Hi v a → ∀ p : Sg → Hp → Prop, (∀ σ', EO κ B H Hi σ' Γ' → (∀ vs, (∀ i ∈ is, i ∈ vs) → wipe σ' vs = wipe σ vs) → p σ' H) → g v σ H p
theorem ta_name {α : Type} [Rp α] {a : α} {i : Nat} : TgA κ (gName i) [i] a Γ (Γ.set i (.im a)) := fun B H Hi σ v g r p q => q _ (g.set i r) fun vs h => wipe_set σ _ (h i (by simp))
theorem ta_pair {α β : Type} [Rp α] [Rp β] {x : α × β} {g1 g2 : TG} {is js : List Nat} {Γ1 Γ2 : List Sl} (h1 : TgA κ g1 is x.1 Γ Γ1) (h2 : TgA κ g2 js x.2 Γ1 Γ2) : TgA κ (gTup κ.K 2 (gCons g1 (gCons g2 gNil))) (is ++ js) x Γ Γ2 := fun B H Hi σ v g ⟨a, y, z, e, hs, r1, r2⟩ p q =>
  ⟨a, [y, z], e, Same.tup g.sub hs, rfl, y, [z], rfl, h1 B H Hi σ y g r1 _ fun σ1 e1 w1 => ⟨z, [], rfl, h2 B H Hi σ1 z e1 r2 _ fun σ2 e2 w2 => ⟨rfl, q σ2 e2 fun vs hv => (w2 vs fun i hi => hv i (List.mem_append_right _ hi)).trans (w1 vs fun i hi => hv i (List.mem_append_left _ hi))⟩⟩⟩
theorem c_asgA {α : Type} [Rp α] {a : α} {g : TG} {is : List Nat} {Γ' : List Sl} {D : Ends} (h : Ev κ te Γ a) (hg : TgA κ g is a Γ Γ') (k : Cn κ B Γ' D.nx) : Cn κ B Γ (tAsg te g D) := fun H Hi σ e => h B H Hi σ e _ fun v H1 Hi1 g1 r1 => hg B H1 Hi1 σ v (e.grow g1) r1 _ fun σ' e' _ => k H1 Hi1 σ' e'
theorem c_unpin {P : Hp → Prop} {k : ∀ Hi Hi', Same Hi Hi' → P Hi → P Hi'} {p : Sg → Hp → Prop} (h : Cn κ B Γ p) : Cn κ (B.and P k) Γ p := fun H Hi σ g => h H Hi σ g.unpin
/-- what follows holds also where more is known to stay -/
structure Bs.Le (B B' : Bs) : Prop where
  hs : B'.Hs = B.Hs
  his : B'.His = B.His
  pin : ∀ Hi, B'.pin Hi → B.pin Hi
theorem EO.le {B' : Bs} {H Hi : Hp} {σ : Sg} (l : B.Le B') (h : EO κ B' H Hi σ Γ) : EO κ B H Hi σ Γ := by
  obtain ⟨h1, h2, h3⟩ := l
  refine ⟨?_, h3 _ h.pin, h.len, fun i s e => ?_, h.sep⟩
  · rw [← h1, ← h2]; exact h.gr
  · rw [← h1]; exact h.sl i s e
theorem c_le {B' : Bs} {p : Sg → Hp → Prop} (l : B.Le B') (h : Cn κ B Γ p) : Cn κ B' Γ p := fun H Hi σ g => h H Hi σ (g.le l)
theorem RtOk.le {B' : Bs} {rt : VK} {α : Type} [Rp α] {a : α} (l : B.Le B') (h : RtOk κ B rt a) : RtOk κ B' rt a := fun v H Hi g r => h v H Hi (by rw [← l.hs, ← l.his]; exact g) r
theorem Bs.Le.refl : B.Le B := ⟨rfl, rfl, fun _ h => h⟩
theorem Bs.Le.trans {B' B'' : Bs} (a : B.Le B') (b : B'.Le B'') : B.Le B'' := ⟨b.hs.trans a.hs, b.his.trans a.his, fun _ h => a.pin _ (b.pin _ h)⟩
/-- for: W by the turn and the slots -/
theorem c_for {α : Type} [Rp α] {xs : List α} {wi : TI} {g : TG} {is : List Nat} {tb : TS} {D : Ends} (T : α → List Sl → List Sl) (h : EvI κ wi Γ xs) (hg : ∀ x Γ', TgA κ g is x Γ' (T x Γ')) (W : Nat → List Sl → Prop) (h0 : W 0 Γ)
    (hs : ∀ B', B.Le B' → ∀ i x Γ', xs[i]? = some x → W i Γ' → Cn κ B' (T x Γ') (tb { D with nx := NP κ B' (W (i + 1)), ct := NP κ B' (W (i + 1)), bk := D.nx }))
    (hd : ∀ Γ', W xs.length Γ' → Cn κ B Γ' D.nx) : Cn κ B Γ (tFor wi g tb D) := fun H Hi σ e => h B H Hi σ e _ fun J H1 Hi1 P g1 p1 kP hgo hst => by
  let B' : Bs := B.and P kP
  have le : B.Le B' := ⟨rfl, rfl, fun _ z => z.1⟩
  refine ⟨fun i m σ H => m = xs.length - i ∧ i ≤ xs.length ∧ NP κ B' (W i) σ H, ⟨xs.length, by simp, Nat.zero_le _, Γ, Hi1, h0, (e.grow g1).pinned p1⟩, ?_⟩
  rintro i m σ2 H2 ⟨rfl, hi, Γ2, Hi2, w2, e2⟩
  by_cases hlt : i < xs.length
  · obtain ⟨a1, a2⟩ := hgo i H2 Hi2 xs[i] e2.sub e2.pin.2 (List.getElem?_eq_getElem hlt)
    refine .inr ⟨a1, NP κ B' (W (i + 1)), fun σ' H' z => ⟨xs.length - (i + 1), by omega, rfl, hlt, z⟩, fun v Hy y => ?_⟩
    obtain ⟨Hiy, g3, r3⟩ := a2 v Hy y
    exact hg xs[i] Γ2 B' Hy Hiy σ2 v (e2.grow g3) r3 _ fun σ' e' _ => hs B' le i xs[i] Γ2 (List.getElem?_eq_getElem hlt) w2 Hy Hiy σ' e'
  · have ei : i = xs.length := by omega
    subst ei
    exact .inl ⟨hst H2 Hi2 e2.sub e2.pin.2, hd Γ2 w2 H2 Hi2 σ2 e2.unpin⟩
/-- [f x for x in xs if pt x] -/
theorem em_lc {α β : Type} [Rp α] [Rp β] {xs : List α} {wi : TI} {g : TG} {is vs : List Nat} {tt : TT} (T : α → List Sl → List Sl) (h : EvI κ wi Γ xs) (hg : ∀ x Γ', TgA κ g is x Γ' (T x Γ')) (hv : ∀ i ∈ is, i ∈ vs) (pt : α → Bool) (f : α → β) (hl : xs.length ≤ 16777216)
    (ht : ∀ x ∈ xs, EvB κ tt (T x (unsl Γ vs)) (pt x)) (he : ∀ x ∈ xs, pt x = true → Ev κ te (T x (unsl Γ vs)) (f x)) : EvM κ (tLc wi g tt te vs) Γ ((xs.filter pt).map f) := fun B H Hi σ e Q q => h B H Hi σ e _ fun J H1 Hi1 P g1 p1 kP hgo hst => by
  intro D0 hD
  have e1 := e.grow g1
  have nl : ∀ {K : Hp}, Same K H1 → K D0 = none := fun {K} s => by
    cases z : K D0 with
    | none => rfl
    | some o => rw [s D0 o z] at hD; cases hD
  let Inv := fun (i : Nat) (H2 : Hp) => ∃ (acc : List V) (Hi2 : Hp), Gr H1 Hi1 H2 Hi2 ∧ Hi2 D0 = none ∧ H2 D0 = some (.lst acc) ∧ Paired (rp κ Hi2) acc (((xs.take i).filter pt).map f)
  refine ⟨fun i m H2 => m = xs.length - i ∧ i ≤ xs.length ∧ Inv i H2, ⟨xs.length, by simp, Nat.zero_le _, [], Hi1, .own g1.sub hD, nl g1.sub, upd_same, .nil⟩, ?_⟩
  rintro i m H2 ⟨rfl, hi, acc, Hi2, g2, n2, d2, r2⟩
  have p2 : P Hi2 := kP _ _ g2.exi p1
  have lacc : acc.length ≤ i := by
    rw [r2.length, List.length_map]
    refine Nat.le_trans (List.length_filter_le _ _) ?_
    rw [List.length_take]; omega
  by_cases hlt : i < xs.length
  · have ex : xs[i]? = some xs[i] := List.getElem?_eq_getElem hlt
    have mem : xs[i] ∈ xs := List.getElem_mem hlt
    have etk : xs.take (i + 1) = xs.take i ++ [xs[i]] := by rw [List.take_add_one, ex]; rfl
    obtain ⟨a1, a2⟩ := hgo i H2 Hi2 xs[i] g2.sub p2 ex
    refine .inr ⟨a1, fun H' => Inv (i + 1) H', fun H' z => ⟨xs.length - (i + 1), by omega, rfl, hlt, z⟩, fun v Hy y => ?_⟩
    obtain ⟨Hiy, g3, r3⟩ := a2 v Hy y
    have ew : EO κ B Hy Hiy (wipe σ vs) (unsl Γ vs) := ((e1.grow g2).grow g3).wiped vs
    refine hg xs[i] _ B Hy Hiy _ v ew r3 _ fun σ' e' w' => ⟨(w' vs hv).trans (wipe_wipe σ vs), ?_⟩
    have hd3 : Hy D0 = some (.lst acc) := g3.ex _ _ d2
    have hn3 : Hiy D0 = none := g3.new D0 (by rw [d2]; exact fun z => nomatch z) n2
    refine ht _ mem B Hy Hiy σ' e' _ fun H4 Hi4 g4 => ?_
    have hd4 : H4 D0 = some (.lst acc) := g4.ex _ _ hd3
    have hn4 : Hi4 D0 = none := g4.new D0 (by rw [hd3]; exact fun z => nomatch z) hn3
    refine ite2 (fun hb => ?_) fun hb => ?_
    · refine he _ mem hb B H4 Hi4 σ' (e'.grow g4) _ fun u H5 Hi5 g5 r5 => ?_
      have hd5 : H5 D0 = some (.lst acc) := g5.ex _ _ hd4
      have hn5 : Hi5 D0 = none := g5.new D0 (by rw [hd4]; exact fun z => nomatch z) hn4
      have gg := ((g2.trans g3).trans g4).trans g5
      refine ⟨acc, hd5, by rw [sizeLine_eq]; omega, acc ++ [u], Hi5, ⟨fun a o z => ?_, gg.exi, fun a o z => ?_, gg.new⟩, hn5, upd_same, ?_⟩
      · rw [upd_ne (ne_of_none z hD)]; exact gg.ex a o z
      · rw [upd_ne (ne_of_none z hn5)]; exact gg.sub a o z
      · rw [etk, List.filter_append, List.map_append]
        refine papp (pmap r2 fun _ _ => mono ((g3.exi.trans g4.exi).trans g5.exi)) ?_
        rw [List.filter_cons, if_pos hb]
        exact .cons r5 .nil
    · refine ⟨acc, Hi4, (g2.trans g3).trans g4, hn4, hd4, ?_⟩
      rw [etk, List.filter_append, List.map_append, List.filter_cons, if_neg hb]
      simpa using pmap r2 fun _ _ => mono (g3.exi.trans g4.exi)
  · have ei : i = xs.length := by omega
    subst ei
    refine .inl ⟨hst H2 Hi2 g2.sub p2, q D0 acc H2 Hi2 (g1.trans g2) d2 (nl g1.ex) n2 ?_⟩
    rw [List.take_length] at r2
    exact r2
theorem eb_yes : EvB κ tYes Γ true := fun B H Hi σ g Q q => q H Hi (.refl g.sub)
/-- [f x for x in xs] -/
theorem em_lcA {α β : Type} [Rp α] [Rp β] {xs : List α} {wi : TI} {g : TG} {is vs : List Nat} (T : α → List Sl → List Sl) (h : EvI κ wi Γ xs) (hg : ∀ x Γ', TgA κ g is x Γ' (T x Γ')) (hv : ∀ i ∈ is, i ∈ vs) (f : α → β) (hl : xs.length ≤ 16777216)
    (he : ∀ x ∈ xs, Ev κ te (T x (unsl Γ vs)) (f x)) : EvM κ (tLc wi g tYes te vs) Γ (xs.map f) := by
  have z := em_lc (tt := tYes) T h hg hv (fun _ => true) f hl (fun _ _ => eb_yes) fun x hx _ => he x hx
  have e : xs.filter (fun _ => true) = xs := List.filter_eq_self.mpr fun _ _ => rfl
  rw [e] at z
  exact z
end

/-! ### defs -/
section
variable {P : Program} {w : World} {κ : Kx} {base : Heap}
/-- a def that raises nothing -/
theorem fn_ok {x qual : Str} {st : Stmt} {f : Addr} {fd : FuncData} {N ps : List Str} {k : Nat} {ι α : Type} [Rp α] {as : ι → List Sl} {pre : ι → Prop} {fn : ι → α} (F : Fun κ.K x qual st f fd) (S : FnScope N ps (defScope st)) (hl : ∀ d, (as d).length = ps.length)
    (body : ∀ (cdv : Value) (A : Around) (outer : List Env) (s : Shared) (H : Hp) (E : XK), Room k (A.deeper (envOfC qual (defScope st) s.heap.objs.size f cdv)) →
      ∃ t, PSs (cxOf CX0 P w κ.K κ.mg base N qual (defScope st) f cdv A outer s H E).nox (defBody st) t ∧
        ∀ (d : ι) (B : Bs) (Q : VK), pre d → RtOk κ B Q (fn d) → Cn κ B (as d ++ List.replicate (N.length - ps.length) .un) (t { nx := fun _ H' => Q .non H', rt := Q })) :
    FnOk P w κ.K κ.mg base CX0 (k + 1) f fd ps (PSp κ as pre fn) := by
  have hlen : ∀ {vs : List V} {Hi : Hp} {d : ι}, Args κ Hi vs (as d) → vs.length = ps.length := fun a => by rw [a.length, hl]
  refine F.ok S (fun vs H Q E ⟨d, Hi, _, _, a, _⟩ => hlen a) (fun cdv A outer s H vs Q E hr h => ?_)
  obtain ⟨t, ht, q⟩ := body cdv A outer s H E hr
  obtain ⟨d, Hi, hp, hs, ha, hq⟩ := h
  refine ⟨t, ht, q d ⟨H, Hi, fun _ => True, fun _ _ _ _ => trivial⟩ Q hp (fun v H' Hi' g r => hq v H' Hi' g r) H Hi _ ?_⟩
  have l1 : vs.length = ps.length := hlen ha
  refine ⟨.refl hs, trivial, ?_, fun i s e => ?_, fun i j s t l ne e1 e2 m1 m2 q1 q2 => ?_⟩
  · unfold L2.start
    rw [List.length_append, List.length_append, List.length_map, List.length_replicate, List.length_replicate, l1, hl]
  · unfold L2.start
    by_cases hi : i < (as d).length
    · rw [List.getElem?_append_left hi] at e
      obtain ⟨v, h1, h2⟩ := ha.get e
      refine ⟨some v, ?_, ?_⟩
      · rw [List.getElem?_append_left (by rw [List.length_map, ha.length]; exact hi), List.getElem?_map, h1]; rfl
      · cases s with
        | un => trivial
        | im a => exact ⟨v, rfl, h2⟩
        | ml xs => exact h2.elim
        | md xs => exact h2.elim
        | mt xs => exact h2.elim
        | mi C dx xs => exact h2.elim
    · have hge := Nat.le_of_not_lt hi
      rw [List.getElem?_append_right hge, List.getElem?_replicate] at e
      split at e
      · rename_i hlt
        cases e
        refine ⟨none, ?_, True.intro⟩
        rw [List.getElem?_append_right (by rw [List.length_map, ha.length]; exact hge), List.length_map, List.getElem?_replicate, ha.length, if_pos ?_]
        rw [hl] at hlt ⊢
        exact hlt
      · cases e
  · have no : ∀ (i : Nat) (s : Sl), (as d ++ List.replicate (N.length - ps.length) Sl.un)[i]? = some s → s.mut = true → False := fun i s e m => by
      by_cases hi : i < (as d).length
      · rw [List.getElem?_append_left hi] at e
        obtain ⟨v, h1, h2⟩ := ha.get e
        cases s with
        | un => cases m
        | im a => cases m
        | ml xs => exact h2.elim
        | md xs => exact h2.elim
        | mt xs => exact h2.elim
        | mi C dx xs => exact h2.elim
      · rw [List.getElem?_append_right (Nat.le_of_not_lt hi), List.getElem?_replicate] at e
        split at e
        · cases e; cases m
        · cases e
    exact no i s e1 m1
end
end G

set_option Elab.async false
set_option linter.all false
set_option maxRecDepth 100000
set_option maxHeartbeats 2000000
/-! G3: more rules: places, slices, texts, types, equality of data. -/
namespace G
open PySem PySem.Spec PyProof.Rows L2
open C8 (tCut pss_cut)
open Rp
section
variable {κ : Kx} {B : Bs} {Γ : List Sl} {te ta tb : TE}
/-! ### places -/
/-- the item at a place told by a whole number from 0 on -/
def getI {α : Type} [Inhabited α] (xs : List α) (i : Int) : α := xs.getD i.toNat default
theorem getI_nat {α : Type} [Inhabited α] (xs : List α) (n : Nat) : getI xs (n : Int) = xs.getD n default := rfl
theorem atI_in {α : Type} [Inhabited α] {xs : List α} {i : Int} (h : 0 ≤ i ∧ i < xs.length) : atI xs i = some (getI xs i) := by
  have e : ixN xs.length i = some i.toNat := by
    unfold ixN
    rw [if_pos h.1, if_pos h.2]
  have hl : i.toNat < xs.length := by omega
  unfold atI getI
  rw [e]
  show xs[i.toNat]? = _
  rw [List.getD_eq_getElem?_getD, List.getElem?_eq_getElem hl]
  rfl
theorem atI_neg {α : Type} [Inhabited α] {xs : List α} {k : Nat} (h : 1 ≤ k ∧ k ≤ xs.length) : atI xs (-(k : Int)) = some (xs.getD (xs.length - k) default) := by
  have e : ixN xs.length (-(k : Int)) = some (xs.length - k) := by
    unfold ixN
    rw [if_neg (by omega), if_pos (by omega)]
    congr 1
    omega
  have hl : xs.length - k < xs.length := by omega
  unfold atI
  rw [e]
  show xs[xs.length - k]? = _
  rw [List.getD_eq_getElem?_getD, List.getElem?_eq_getElem hl]
  rfl
theorem rv_ixLI {α : Type} [Rp α] [Inhabited α] {xs : List α} {i : Int} (h : 0 ≤ i ∧ i < xs.length) : RV κ (rIxL κ.K) xs i (getI xs i) := rv_ixL (atI_in h)
theorem ev_ixMI {α : Type} [Rp α] [Inhabited α] {xs : List α} {i : Nat} {j : Int} (e : Γ[i]? = some (.ml xs)) (h : Ev κ te Γ j) (hj : 0 ≤ j ∧ j < xs.length) : Ev κ (tOp (rIxL κ.K) (tVar i) te) Γ (getI xs j) := ev_ixM e h (atI_in hj)
theorem rv_ixSI {z : Tx} {i : Int} (h : (0 ≤ i ∧ i < z.length) ∧ z.length ≤ 16777216) : RV κ rIxS z i ([getI z i] : Tx) := rv_ixS h.2 (atI_in h.1)
theorem rv_ixSN {z : Tx} {k : Nat} (h : (1 ≤ k ∧ k ≤ z.length) ∧ z.length ≤ 16777216) : RV κ rIxS z (-(k : Int)) ([z.getD (z.length - k) default] : Tx) := rv_ixS h.2 (atI_neg h.1)
theorem rv_ixLN {α : Type} [Rp α] [Inhabited α] {xs : List α} {k : Nat} (h : 1 ≤ k ∧ k ≤ xs.length) : RV κ (rIxL κ.K) xs (-(k : Int)) (xs.getD (xs.length - k) default) := rv_ixL (atI_neg h)
theorem rv_ixT3a {α β γ : Type} [Rp α] [Rp β] [Rp γ] {p : T3 α β γ} : RV κ (rIxT κ.K) p (0 : Int) p.a := fun H Hi x y s ⟨a, u, w, z, e, hs, h1, h2, h3⟩ ry Q q =>
  ⟨a, [u, w, z], 0, u, e, ry, Same.tup s hs, rfl, q u H Hi (.refl s) h1⟩
theorem rv_ixT3b {α β γ : Type} [Rp α] [Rp β] [Rp γ] {p : T3 α β γ} : RV κ (rIxT κ.K) p (1 : Int) p.b := fun H Hi x y s ⟨a, u, w, z, e, hs, h1, h2, h3⟩ ry Q q =>
  ⟨a, [u, w, z], 1, w, e, ry, Same.tup s hs, rfl, q w H Hi (.refl s) h2⟩
theorem rv_ixT3c {α β γ : Type} [Rp α] [Rp β] [Rp γ] {p : T3 α β γ} : RV κ (rIxT κ.K) p (2 : Int) p.c := fun H Hi x y s ⟨a, u, w, z, e, hs, h1, h2, h3⟩ ry Q q =>
  ⟨a, [u, w, z], 2, z, e, ry, Same.tup s hs, rfl, q z H Hi (.refl s) h3⟩
/-! ### slices -/
theorem sIx_nat' {n d : Nat} {i : Int} (h : 0 ≤ i) : HT.sIx n d (some i) = min i.toNat n := by
  obtain ⟨k, rfl⟩ := Int.eq_ofNat_of_zero_le h
  exact HT.sIx_nat n d k
theorem cutL_from {α : Type} {xs : List α} {i : Int} (h : 0 ≤ i) : cutL xs (some i) none = xs.drop i.toNat := by
  unfold cutL
  rw [sIx_nat' h, HT.sIx_none]
  by_cases hl : i.toNat ≤ xs.length
  · rw [Nat.min_eq_left hl]
    exact List.take_of_length_le (by rw [List.length_drop]; omega)
  · rw [Nat.min_eq_right (by omega), List.drop_of_length_le (Nat.le_refl _), List.drop_of_length_le (by omega)]
    simp
theorem cutL_to {α : Type} {xs : List α} {i : Int} (h : 0 ≤ i) : cutL xs none (some i) = xs.take i.toNat := by
  unfold cutL
  rw [sIx_nat' h, HT.sIx_none, List.drop_zero, Nat.sub_zero]
  by_cases hl : i.toNat ≤ xs.length
  · rw [Nat.min_eq_left hl]
  · rw [Nat.min_eq_right (by omega), List.take_length, List.take_of_length_le (by omega)]
theorem cutL_init {α : Type} {xs : List α} : cutL xs none (some (-1)) = xs.dropLast := by
  unfold cutL
  rw [HT.sIx_none, List.drop_zero, Nat.sub_zero, List.dropLast_eq_take]
  congr 1
  show (if (-1 : Int) < 0 then ((-1 : Int) + (xs.length : Int)).toNat else min (-1 : Int).toNat xs.length) = xs.length - 1
  rw [if_pos (by decide)]
  omega
theorem cutL_all {α : Type} {xs : List α} : cutL xs none none = xs := by
  unfold cutL
  rw [HT.sIx_none, HT.sIx_none]
  simp
theorem cutL_len {α : Type} (xs : List α) (lo hi : Option Int) : (cutL xs lo hi).length ≤ xs.length := by
  unfold cutL
  rw [List.length_take, List.length_drop]
  omega
theorem ev_sliceS {z : Tx} {tl th : TO} {lo hi : Option Int} (h : Ev κ te Γ z) (h1 : EvO κ tl Γ lo) (h2 : EvO κ th Γ hi) (hl : z.length ≤ 16777216) : Ev κ (tSl rSlS te tl th) Γ (cutL z lo hi) := fun B H Hi σ g Q q =>
  h B H Hi σ g _ fun x H1 Hi1 g1 r1 => h1 B H1 Hi1 σ (g.grow g1) _ fun H2 Hi2 g2 => h2 B H2 Hi2 σ ((g.grow g1).grow g2) _ fun H3 Hi3 g3 => by
    refine ⟨mkS z, r1, by rw [mkS_len, sizeLine_eq]; exact hl, ?_⟩
    have e : cutS (mkS z) lo hi = mkS (cutL z lo hi) := by
      unfold cutS cutL
      rw [mkS_len, mkS_cps]
      rfl
    rw [e]
    exact q _ H3 Hi3 ((g1.trans g2).trans g3) rfl
/-! ### texts -/
def rMulS : R2 := fun x y H Q => ∃ (z : Str) (n : Int), x = .str z ∧ y = .int n ∧ MulOk z n ∧ Q (.str (Txt.mul z n)) H
theorem op_mul_str {X : Cx} : OpR X (binaryOp .Mult) rMulS := by
  intro pins s σ H x y v u Q I rx ry h
  obtain ⟨z, n, rfl, rfl, hz, q⟩ := h
  obtain ⟨t, rfl⟩ := rx
  obtain ⟨t', rfl⟩ := ry
  exact SB.mul hz fun t' k => ⟨.str (Txt.mul z n), H, I.tok _, ⟨_, rfl⟩, q⟩
def repT (z : Tx) (n : Int) : Tx := (List.replicate n.toNat z).flatten
theorem repT_len (z : Tx) (n : Int) : (repT z n).length = n.toNat * z.length := by
  unfold repT
  rw [List.length_flatten, List.map_replicate, List.sum_replicate_nat]
theorem fold_rep (a : Array Nat) : ∀ (n : Nat) (c : Array Nat), ((List.replicate n a).foldl (· ++ ·) c).toList = c.toList ++ (List.replicate n a.toList).flatten
  | 0, c => by simp
  | n + 1, c => by
    rw [List.replicate_succ, List.foldl_cons, fold_rep a n (c ++ a), List.replicate_succ]
    simp
theorem mul_rep (z : Tx) (n : Int) : Txt.mul (mkS z) n = mkS (repT z n) := by
  unfold Txt.mul
  by_cases h1 : n < 1
  · rw [if_pos h1]
    have e : n.toNat = 0 := by omega
    unfold repT
    rw [e]
    rfl
  · rw [if_neg h1]
    by_cases h2 : (n == 1 || (mkS z).length == 0) = true
    · rw [if_pos h2]
      rw [Bool.or_eq_true, beq_iff_eq, beq_iff_eq, mkS_len] at h2
      rcases h2 with rfl | h2
      · simp [repT]
      · have e : z = [] := List.eq_nil_of_length_eq_zero h2
        subst e
        exact congrArg mkS (List.eq_nil_of_length_eq_zero (by rw [repT_len, List.length_nil, Nat.mul_zero])).symm
    · rw [if_neg h2]
      have := fold_rep z.toArray n.toNat #[]
      unfold repT mkS
      congr 1
      apply Array.ext'
      rw [this]
      simp
theorem rv_mulS {z : Tx} {n : Int} (h : (-(2 ^ 63) ≤ n ∧ n < 2 ^ 63) ∧ z.length * n.toNat ≤ 16777216) : RV κ rMulS z n (repT z n) := fun H Hi x y s rx ry Q q => by
  refine ⟨mkS z, n, rx, ry, ⟨?_, fun h1 h2 => ?_, fun h1 h2 => ?_⟩, by rw [mul_rep]; exact q _ H Hi (.refl s) rfl⟩
  · rw [Bool.or_eq_false_iff, decide_eq_false_iff_not, decide_eq_false_iff_not]
    omega
  · rw [mkS_len]
    have hn : 0 < n := by omega
    intro hc
    have h3 : (z.length : Int) * n ≤ 16777216 := by
      obtain ⟨m, rfl⟩ := Int.eq_ofNat_of_zero_le (Int.le_of_lt hn)
      have h6 : z.length * m ≤ 16777216 := h.2
      rw [← Int.natCast_mul]
      omega
    have h4 : (2 ^ 63 - 1 : Int) < ((2 ^ 63 - 1) / n + 1) * n := Int.lt_ediv_add_one_mul_self _ hn
    have h5 : ((2 ^ 63 - 1) / n + 1) * n ≤ (z.length : Int) * n := Int.mul_le_mul_of_nonneg_right (by omega) (Int.le_of_lt hn)
    omega
  · rw [mkS_len]
    unfold Builtin.Str.tooLong
    rw [decide_eq_false_iff_not, sizeLine_eq]
    omega
/-! ### types -/
/-- a built-in class as a value -/
structure PyTy where
  n : String
instance : Rp PyTy := ⟨fun _ _ v t => v = .ty t.n, fun _ h => h⟩
/-- the class of such data -/
class Ty (α : Type) [Rp α] where
  ty : String
  is : ∀ {κ : Kx} {H : Hp} {v : V} {a : α}, rp κ H v a → TyX κ.K H v (.type ty)
instance : Ty Int := ⟨"int", fun {κ H v a} h => by obtain rfl : v = .int a := h; exact .base (.int a)⟩
instance : Ty Bool := ⟨"bool", fun {κ H v a} h => by obtain rfl : v = .bl a := h; exact .base (.bl a)⟩
instance : Ty Unit := ⟨"NoneType", fun {κ H v a} h => by obtain rfl : v = .non := h; exact .base .non⟩
instance : Ty (List Nat) := ⟨"str", fun {κ H v a} h => by obtain rfl : v = .str (mkS a) := h; exact .base (.str _)⟩
theorem tyx_tup {K : PySem.W.Frag} {H : Hp} {a : Addr} {xs : List V} (h : SqT K H a xs) : TyX K H (.ref a) (.type "tuple") := by
  rcases h with (h | ⟨o, h⟩) | h
  · exact .base (.tup h)
  · exact .fTuple h
  · obtain ⟨o, _, _, e, h, _⟩ := h
    exact .kTuple e h
theorem tyx_lst {K : PySem.W.Frag} {H : Hp} {a : Addr} {xs : List V} (h : SqL K H a xs) : TyX K H (.ref a) (.type "list") := by
  rcases h with (h | ⟨o, h⟩) | h
  · exact .base (.lst h)
  · exact .base (.frz h)
  · obtain ⟨o, _, _, e, h, _⟩ := h
    exact .kList e h
instance {α β : Type} [Rp α] [Rp β] : Ty (α × β) := ⟨"tuple", fun h => by obtain ⟨a, x, y, rfl, hs, _⟩ := h; exact tyx_tup hs⟩
instance {α β γ : Type} [Rp α] [Rp β] [Rp γ] : Ty (T3 α β γ) := ⟨"tuple", fun h => by obtain ⟨a, x, y, z, rfl, hs, _⟩ := h; exact tyx_tup hs⟩
instance {α β γ δ : Type} [Rp α] [Rp β] [Rp γ] [Rp δ] : Ty (T4 α β γ δ) := ⟨"tuple", fun h => by obtain ⟨a, x, y, z, u, rfl, hs, _⟩ := h; exact tyx_tup hs⟩
instance tyList {α : Type} [Rp α] : Ty (List α) := ⟨"list", fun h => by obtain ⟨a, vs, rfl, hs, _⟩ := h; exact tyx_lst hs⟩
theorem rc_isi {α : Type} [Rp α] [Ty α] {a : α} {t : String} {b : Bool} (h : kitB (Ty.ty α) t = some b) : RC κ (rIsi κ.K) [.im a, .im (PyTy.mk t)] b := fun H Hi vs s r Q q => by
  obtain ⟨v, u, rfl, r1, r2⟩ := args2 r
  obtain rfl : u = .ty t := r2
  have r1' : rp κ H v a := mono s r1
  exact ⟨v, .ty t, _, _, b, rfl, .ty t, Ty.is r1', kit_ty h, q _ H Hi (.refl s) rfl⟩
theorem ev_ty {t : String} : Ev κ (tC (.ty t)) Γ (PyTy.mk t) := ev_c fun _ => rfl
/-! ### equality of data -/
class Py (α : Type) [Rp α] where
  py : α → PyData
  ok : α → Prop
  dp : ∀ {κ : Kx} {H : Hp} {v : V} {a : α}, rp κ H v a → Dp κ.K H v (py a)
  can : ∀ a, ok a → (py a).canLay0 = true
  deep : Nat
  dle : ∀ a, (py a).depth ≤ deep
  eqv : ∀ a b, PyData.eqv (py a) (py b) = true ↔ a = b
instance : Py Int := ⟨fun i => .int i, fun _ => True, fun {κ H v a} h => by obtain rfl : v = .int a := h; exact .int a, fun _ _ => rfl, 0, fun _ => Nat.le_refl _, fun a b => by simp [PyData.eqv]⟩
instance : Py Bool := ⟨fun i => .bool i, fun _ => True, fun {κ H v a} h => by obtain rfl : v = .bl a := h; exact .bl a, fun _ _ => rfl, 0, fun _ => Nat.le_refl _, fun a b => by simp [PyData.eqv]⟩
theorem mkS_beq (a b : Tx) : (mkS a == mkS b) = true ↔ a = b := by
  rw [beq_iff_eq]
  exact ⟨mkS_inj, fun h => h ▸ rfl⟩
instance : Py (List Nat) := ⟨fun l => .str (mkS l), fun l => ∀ c ∈ l, c < 0x110000, fun {κ H v a} h => by obtain rfl : v = .str (mkS a) := h; exact .str _, fun a h => by
    show PyData.strOk (mkS a) = true
    unfold PyData.strOk mkS
    simpa using h, 0, fun _ => Nat.le_refl _, fun a b => by rw [PyData.eqv]; exact mkS_beq a b⟩
instance {α β : Type} [Rp α] [Rp β] [Py α] [Py β] : Py (α × β) := ⟨fun p => .tuple [Py.py p.1, Py.py p.2], fun p => Py.ok p.1 ∧ Py.ok p.2, fun h => by
    obtain ⟨a, x, y, rfl, hs, h1, h2⟩ := h
    exact .tup hs (.cons (Py.dp h1) (.cons (Py.dp h2) .nil)), fun a h => by
    simp only [PyData.canLay0, PyData.canLayAll0, Py.can _ h.1, Py.can _ h.2, Bool.and_self], max (Py.deep α) (Py.deep β) + 1, fun a => by
    have h1 := Py.dle a.1
    have h2 := Py.dle a.2
    simp only [PyData.depth, PyData.depthAll]
    omega, fun a b => by
    simp only [PyData.eqv, PyData.eqvAll, Bool.and_true, Bool.and_eq_true, Py.eqv]
    exact ⟨fun h => Prod.ext h.1 h.2, fun h => h ▸ ⟨rfl, rfl⟩⟩⟩
theorem pyAll_can {α : Type} [Rp α] [Py α] : ∀ xs : List α, (∀ x ∈ xs, Py.ok x) → PyData.canLayAll0 (xs.map Py.py) = true
  | [], _ => rfl
  | x :: xs, h => by
    rw [List.map_cons, PyData.canLayAll0, Py.can x (h x List.mem_cons_self), pyAll_can xs fun y hy => h y (List.mem_cons_of_mem _ hy)]
    rfl
theorem pyAll_depth {α : Type} [Rp α] [Py α] : ∀ xs : List α, PyData.depthAll (xs.map Py.py) ≤ Py.deep α
  | [] => Nat.zero_le _
  | x :: xs => by
    rw [List.map_cons, PyData.depthAll]
    exact Nat.max_le.mpr ⟨Py.dle x, pyAll_depth xs⟩
theorem pyAll_eqv {α : Type} [Rp α] [Py α] : ∀ xs ys : List α, PyData.eqvAll (xs.map Py.py) (ys.map Py.py) = true ↔ xs = ys
  | [], [] => by simp [PyData.eqvAll]
  | [], _ :: _ => by simp [PyData.eqvAll]
  | _ :: _, [] => by simp [PyData.eqvAll]
  | x :: xs, y :: ys => by
    rw [List.map_cons, List.map_cons, PyData.eqvAll, Bool.and_eq_true, Py.eqv, pyAll_eqv xs ys]
    exact ⟨fun h => by rw [h.1, h.2], fun h => by cases h; exact ⟨rfl, rfl⟩⟩
theorem dpAll {α : Type} [Rp α] [Py α] {κ : Kx} {H : Hp} : ∀ {vs : List V} {xs : List α}, Paired (rp κ H) vs xs → DpAll κ.K H vs (xs.map Py.py)
  | _, _, .nil => .nil
  | _, _, .cons r t => .cons (Py.dp r) (dpAll t)
instance pyList {α : Type} [Rp α] [Py α] : Py (List α) := ⟨fun xs => .list (xs.map Py.py), fun xs => ∀ x ∈ xs, Py.ok x, fun h => by
    obtain ⟨a, vs, rfl, hs, hp⟩ := h
    exact .lst hs (dpAll hp), fun a h => by rw [PyData.canLay0]; exact pyAll_can a h, Py.deep α + 1, fun a => by
    rw [PyData.depth]
    exact Nat.succ_le_succ (pyAll_depth a), fun a b => by rw [PyData.eqv]; exact pyAll_eqv a b⟩
theorem py_shaped {α : Type} [Rp α] [Py α] {a : α} (h : Py.ok a) (hd : Py.deep α ≤ 64) : SeqAt.shaped (Py.py a) = true := by
  unfold SeqAt.shaped
  rw [Py.can a h, decide_eq_true (Nat.le_trans (Py.dle a) hd)]
  rfl
theorem py_dec {α : Type} [Rp α] [Py α] [DecidableEq α] (a b : α) : PyData.eqv (Py.py a) (Py.py b) = decide (a = b) := by
  by_cases h : a = b
  · rw [decide_eq_true h]; exact (Py.eqv a b).mpr h
  · rw [decide_eq_false h, ← Bool.not_eq_true]; exact fun z => h ((Py.eqv a b).mp z)
theorem dp_mono {K : PySem.W.Frag} {H H' : Hp} (e : Same H H') : ∀ (d : PyData) (v : V), Dp K H v d → Dp K H' v d := fun d v h => by
  refine Dp.rec (motive_1 := fun v d _ => Dp K H' v d) (motive_2 := fun vs ds _ => DpAll K H' vs ds) ?_ ?_ ?_ ?_ ?_ ?_ ?_ ?_ h
  · exact .non
  · exact fun b => .bl b
  · exact fun b => .int b
  · exact fun b => .str b
  · exact fun hs _ ih => .lst (e.seq hs) ih
  · exact fun hs _ ih => .tup (Same.tup e hs) ih
  · exact .nil
  · exact fun _ _ h1 h2 => .cons h1 h2
theorem rv_eqD {α : Type} [Rp α] [Py α] [DecidableEq α] {a b : α} (h : (Py.ok a ∧ Py.ok b)) (hd : Py.deep α ≤ 64 := by decide) : RV κ (rEqD κ.K) a b (decide (a = b)) := fun H Hi x y s rx ry Q q =>
  ⟨_, _, dp_mono s _ _ (Py.dp rx), dp_mono s _ _ (Py.dp ry), py_shaped h.1 hd, py_shaped h.2 hd, by rw [py_dec]; exact q _ H Hi (.refl s) rfl⟩
theorem rv_neD {α : Type} [Rp α] [Py α] [DecidableEq α] {a b : α} (h : (Py.ok a ∧ Py.ok b)) (hd : Py.deep α ≤ 64 := by decide) : RV κ (rNeD κ.K) a b (!decide (a = b)) := fun H Hi x y s rx ry Q q =>
  ⟨_, _, dp_mono s _ _ (Py.dp rx), dp_mono s _ _ (Py.dp ry), py_shaped h.1 hd, py_shaped h.2 hd, by rw [py_dec]; exact q _ H Hi (.refl s) rfl⟩
end
theorem rangeI_mem {lo x : Int} {n : Nat} (h : x ∈ rangeI lo n) : lo ≤ x ∧ x < lo + (n : Int) := by
  obtain ⟨i, hi⟩ := List.getElem?_of_mem h
  obtain ⟨h1, h2⟩ := rangeI_get hi
  omega
theorem ints_paired {κ : Kx} {H : Hp} : ∀ ns : List Int, Paired (rp κ H) (ns.map V.int) ns
  | [] => .nil
  | n :: ns => .cons rfl (ints_paired ns)
/-! ### loops and cuts whose word speaks of the slots as they were -/
section
variable {κ : Kx} {B : Bs} {Γ : List Sl}
theorem c_forS {α : Type} [Rp α] {xs : List α} {wi : TI} {g : TG} {is : List Nat} {tb : TS} {D : Ends} (W : List Sl → Nat → List Sl → Prop) (T : α → List Sl → List Sl) (h : EvI κ wi Γ xs) (hg : ∀ x Γ', TgA κ g is x Γ' (T x Γ')) (h0 : W Γ 0 Γ)
    (hs : ∀ B', B.Le B' → ∀ i x Γ', xs[i]? = some x → W Γ i Γ' → Cn κ B' (T x Γ') (tb { D with nx := NP κ B' (W Γ (i + 1)), ct := NP κ B' (W Γ (i + 1)), bk := D.nx }))
    (hd : ∀ Γ', W Γ xs.length Γ' → Cn κ B Γ' D.nx) : Cn κ B Γ (tFor wi g tb D) := c_for T h hg (W Γ) h0 hs hd
theorem c_cutS {ts us : TS} {D : Ends} (N : List Sl → List Sl → Prop) (h1 : Cn κ B Γ (ts { D with nx := NP κ B (N Γ) })) (h2 : ∀ Γ', N Γ Γ' → Cn κ B Γ' (us D)) : Cn κ B Γ (tCut ts us D) := c_cut (N Γ) h1 h2
end
/-- while: W by a measure and the slots -/
theorem c_whileS {κ : Kx} {B : Bs} {Γ : List Sl} {t : TT} {tb : TS} {D : Ends} (W : List Sl → Nat → List Sl → Prop) (h0 : ∃ m, W Γ m Γ)
    (hs : ∀ m Γ', W Γ m Γ' → ∃ b, EvB κ t Γ' b ∧ (b = true → Cn κ B Γ' (tb { D with nx := NP κ B (fun Γ'' => ∃ m', W Γ m' Γ'' ∧ m' < m), ct := NP κ B (fun Γ'' => ∃ m', W Γ m' Γ'' ∧ m' < m), bk := D.nx })) ∧ (b = false → Cn κ B Γ' D.nx)) :
    Cn κ B Γ (tWhile t tb D) := fun H Hi σ g => by
  obtain ⟨m, h0⟩ := h0
  refine ⟨fun m σ H => NP κ B (W Γ m) σ H, ⟨m, Γ, Hi, h0, g⟩, fun m σ1 H1 ⟨Γ1, Hi1, w1, g1⟩ => ?_⟩
  obtain ⟨b, hb, ht, hf⟩ := hs m Γ1 w1
  refine hb B H1 Hi1 σ1 g1 _ fun H2 Hi2 g2 => ?_
  cases b with
  | true => exact iteT ⟨_, fun σ' H' ⟨Γ2, Hi2, ⟨m', w2, lt⟩, e⟩ => ⟨m', lt, Γ2, Hi2, w2, e⟩, ht rfl H2 Hi2 σ1 (g1.grow g2)⟩
  | false => exact iteF (hf rfl H2 Hi2 σ1 (g1.grow g2))
def spEnd (K : PySem.W.Frag) : Sp := fun vs H Q _ => ∃ (a : Addr) (ns : List Int), vs = [.ref a] ∧ SqL K H a (ns.map V.int) ∧ ns.length ≤ 63 ∧ ∀ H', Q (.bl true) H'
/-! ### a statement ahead of others -/
section
variable {κ : Kx} {B : Bs} {Γ : List Sl} {te : TE} {t : TT} {ts us vs : TS} {D : Ends}
theorem c_sasg {α : Type} [Rp α] {a : α} {i : Nat} (h : Ev κ te Γ a) (k : Cn κ B (Γ.set i (.im a)) (us D)) : Cn κ B Γ (tSeq (tAsg te (gName i)) us D) := c_seq (c_asg h k)
theorem c_sasgM {α : Type} [Rp α] {xs : List α} {i : Nat} (h : EvM κ te Γ xs) (k : Cn κ B (Γ.set i (.ml xs)) (us D)) : Cn κ B Γ (tSeq (tAsg te (gName i)) us D) := c_seq (c_asgM h k)
theorem c_sasgA {α : Type} [Rp α] {a : α} {g : TG} {is : List Nat} {Γ' : List Sl} (h : Ev κ te Γ a) (hg : TgA κ g is a Γ Γ') (k : Cn κ B Γ' (us D)) : Cn κ B Γ (tSeq (tAsg te g) us D) := c_seq (c_asgA h hg k)
theorem c_sdrop {α : Type} [Rp α] {a : α} (h : Ev κ te Γ a) (k : Cn κ B Γ (us D)) : Cn κ B Γ (tSeq (tDrop te) us D) := c_seq (c_drop h k)
theorem c_sappend {α : Type} [Rp α] {a : α} {xs : List α} {i : Nat} (e : Γ[i]? = some (.ml xs)) (h : Ev κ te Γ a) (hl : xs.length < 16777216) (k : Cn κ B (Γ.set i (.ml (xs ++ [a]))) (us D)) : Cn κ B Γ (tSeq (tDrop (tBM κ.K "list" rAppend (tVar i) (tCons te tNil))) us D) := c_seq (c_append e h hl k)
/-- an if without an else, its suite never falling through -/
theorem c_sif {b : Bool} (h : EvB κ t Γ b) (h1 : b = true → Cn κ B Γ (ts { D with nx := us D })) (h2 : b = false → Cn κ B Γ (us D)) : Cn κ B Γ (tSeq (tIfS t ts tNext) us D) := c_seq (c_if h h1 h2)
theorem c_sif2 {b : Bool} (h : EvB κ t Γ b) (h1 : b = true → Cn κ B Γ (ts { D with nx := us D })) (h2 : b = false → Cn κ B Γ (vs { D with nx := us D })) : Cn κ B Γ (tSeq (tIfS t ts vs) us D) := c_seq (c_if h h1 h2)
end
end G

set_option Elab.async false
set_option linter.all false
set_option maxRecDepth 100000
set_option maxHeartbeats 2000000
/-! M1: the laws' own cells, texts, words, in plain Lean. -/
namespace G
open PySem PySem.Spec PyProof.Rows L2

/-! ### the script's cells, texts, words -/
def cellAt (ns : List Int) (k : Int) : Int := if k < ns.length then getI ns k else 0
/-- the letters made, the digits left, the number: behind k turns -/
def textUp (cell many : Int) : Nat → Tx × Int × Int
  | 0 => ([], cell / 2, cell / 2 % 2147483629 + 7)
  | k + 1 =>
    let s := textUp cell many k
    let n := (s.2.2 * s.2.2 + 48271 * s.2.2 + 7919 * (k : Int) + 11) % 2147483629
    if cell % 2 = 1 then (s.1 ++ [getI [97, 98, 99] (s.2.1 % many)], s.2.1 / many, n)
    else (s.1 ++ [getI [97, 98, 99] (n * n % 2147483587 / 64 % many)], s.2.1, n)
def textOf (cell size many : Int) : Tx := (textUp cell many size.toNat).1
theorem textUp_len (cell many : Int) : ∀ k, (textUp cell many k).1.length = k
  | 0 => rfl
  | k + 1 => by
    rw [textUp]
    split <;> simp [textUp_len cell many k]
theorem textOf_len (cell size many : Int) : (textOf cell size many).length = size.toNat := textUp_len _ _ _
/-- of the first letters -/
def Lets (many : Int) (l : Tx) : Prop := ∀ c ∈ l, 97 ≤ c ∧ (c : Int) < 97 + many
theorem abc_at {i many : Int} (h : 0 < many ∧ many ≤ 3) : 97 ≤ getI [97, 98, 99] (i % many) ∧ ((getI [97, 98, 99] (i % many) : Nat) : Int) < 97 + many := by
  have h1 : 0 ≤ i % many := Int.emod_nonneg i (by omega)
  have h2 : i % many < many := Int.emod_lt_of_pos i h.1
  generalize i % many = j at h1 h2
  have : j = 0 ∨ j = 1 ∨ j = 2 := by omega
  rcases this with rfl | rfl | rfl <;> simp [getI] <;> omega
theorem textUp_lets {cell many : Int} (h : 0 < many ∧ many ≤ 3) : ∀ k, Lets many (textUp cell many k).1
  | 0 => fun c hc => by simp [textUp] at hc
  | k + 1 => by
    have ih := textUp_lets (cell := cell) h k
    rw [textUp]
    split
    · intro c hc
      simp only [List.mem_append, List.mem_singleton] at hc
      rcases hc with hc | rfl
      · exact ih c hc
      · exact abc_at h
    · intro c hc
      simp only [List.mem_append, List.mem_singleton] at hc
      rcases hc with hc | rfl
      · exact ih c hc
      · exact abc_at h
theorem textOf_lets {cell size many : Int} (h : 0 < many ∧ many ≤ 3) : Lets many (textOf cell size many) := textUp_lets h _
theorem textUp_num (cell many : Int) : ∀ k, 0 ≤ (textUp cell many k).2.2 ∧ (textUp cell many k).2.2 < 2147483640
  | 0 => by simp only [textUp]; omega
  | k + 1 => by
    have h1 : 0 ≤ ((textUp cell many k).2.2 * (textUp cell many k).2.2 + 48271 * (textUp cell many k).2.2 + 7919 * (k : Int) + 11) % 2147483629 := Int.emod_nonneg _ (by decide)
    have h2 : ((textUp cell many k).2.2 * (textUp cell many k).2.2 + 48271 * (textUp cell many k).2.2 + 7919 * (k : Int) + 11) % 2147483629 < 2147483629 := Int.emod_lt_of_pos _ (by decide)
    rw [textUp]
    split <;> (dsimp only; omega)
def sizeOf' (cell some far : Int) : Int := if cell % 7 = 3 then cell / 7 % far else cell / 7 % some
theorem sizeOf'_lt {cell some far : Int} (h : 0 < some ∧ some ≤ far) : 0 ≤ sizeOf' cell some far ∧ sizeOf' cell some far < far := by
  unfold sizeOf'
  split
  · exact ⟨Int.emod_nonneg _ (by omega), Int.emod_lt_of_pos _ (by omega)⟩
  · have := Int.emod_nonneg (cell / 7) (b := some) (by omega)
    have := Int.emod_lt_of_pos (cell / 7) h.1
    omega
theorem sizeOf'_le {cell some far : Int} (h : 0 < some ∧ 0 < far) : 0 ≤ sizeOf' cell some far ∧ sizeOf' cell some far < max some far := by
  unfold sizeOf'
  split
  · have := Int.emod_nonneg (cell / 7) (b := far) (by omega)
    have := Int.emod_lt_of_pos (cell / 7) h.2
    omega
  · have := Int.emod_nonneg (cell / 7) (b := some) (by omega)
    have := Int.emod_lt_of_pos (cell / 7) h.1
    omega
theorem Lets.app {many : Int} {a b : Tx} (h1 : Lets many a) (h2 : Lets many b) : Lets many (a ++ b) := fun c hc => (List.mem_append.mp hc).elim (h1 c) (h2 c)
theorem Lets.drop {many : Int} {a : Tx} (n : Nat) (h : Lets many a) : Lets many (a.drop n) := fun c hc => h c (List.mem_of_mem_drop hc)
theorem Lets.take {many : Int} {a : Tx} (n : Nat) (h : Lets many a) : Lets many (a.take n) := fun c hc => h c (List.mem_of_mem_take hc)
theorem Lets.rep {many : Int} {a : Tx} (n : Int) (h : Lets many a) : Lets many (repT a n) := fun c hc => by
  unfold repT at hc
  obtain ⟨l, hl, hc⟩ := List.mem_flatten.mp hc
  rw [List.mem_replicate] at hl
  rw [hl.2] at hc
  exact h c hc
/-- an endless word of the script -/
def wordTail (c2 : Int) (n : Nat) : Int := if c2 / 1000 % 3 = 0 then 0 else c2 % (2 * (n : Int) + 1)
theorem wordTail_le (c2 : Int) (n : Nat) : 0 ≤ wordTail c2 n ∧ wordTail c2 n ≤ 2 * (n : Int) := by
  unfold wordTail
  split
  · omega
  · have := Int.emod_nonneg c2 (b := 2 * (n : Int) + 1) (by omega)
    have := Int.emod_lt_of_pos c2 (b := 2 * (n : Int) + 1) (by omega)
    omega
def wordRing (cs : List Int) (many : Int) : Tx := repT (textOf (getI cs 0 / 420) (1 + sizeOf' (getI cs 0) 4 60) many) (1 + getI cs 1 % 4)
def wordOf (cs : List Int) (many : Int) : Tx × Tx :=
  (textOf (getI cs 1 / 2520) (sizeOf' (getI cs 1 / 4) 5 90) many ++ (wordRing cs many ++ wordRing cs many).drop (2 * ((wordRing cs many).length : Int) - wordTail (getI cs 2) (wordRing cs many).length).toNat, wordRing cs many)
theorem wordRoot_len (cs : List Int) (many : Int) : 1 ≤ (textOf (getI cs 0 / 420) (1 + sizeOf' (getI cs 0) 4 60) many).length ∧ (textOf (getI cs 0 / 420) (1 + sizeOf' (getI cs 0) 4 60) many).length ≤ 60 := by
  have h1 := sizeOf'_le (cell := getI cs 0) (some := 4) (far := 60) (by decide)
  rw [textOf_len]
  omega
theorem wordRing_len (cs : List Int) (many : Int) : 1 ≤ (wordRing cs many).length ∧ (wordRing cs many).length ≤ 240 := by
  have h1 := wordRoot_len cs many
  unfold wordRing
  rw [repT_len]
  generalize (textOf (getI cs 0 / 420) (1 + sizeOf' (getI cs 0) 4 60) many).length = L at h1 ⊢
  have h2 : 0 ≤ getI cs 1 % 4 := Int.emod_nonneg _ (by decide)
  have h3 : getI cs 1 % 4 < 4 := Int.emod_lt_of_pos _ (by decide)
  generalize getI cs 1 % 4 = r at h2 h3 ⊢
  have : r = 0 ∨ r = 1 ∨ r = 2 ∨ r = 3 := by omega
  rcases this with rfl | rfl | rfl | rfl <;> (show 1 ≤ _ * L ∧ _ * L ≤ 240) <;> simp <;> omega
structure WordOk (many : Int) (w : Tx × Tx) : Prop where
  r1 : 1 ≤ w.2.length
  r2 : w.2.length ≤ 240
  f2 : w.1.length ≤ 600
  lf : Lets many w.1
  lr : Lets many w.2
theorem wordOf_ok (cs : List Int) {many : Int} (h : 0 < many ∧ many ≤ 3) : WordOk many (wordOf cs many) := by
  have h1 := wordRing_len cs many
  have h2 := sizeOf'_le (cell := getI cs 1 / 4) (some := 5) (far := 90) (by decide)
  have lr : Lets many (wordRing cs many) := Lets.rep _ (textOf_lets h)
  refine ⟨h1.1, h1.2, ?_, ?_, lr⟩
  · show (textOf _ _ many ++ _).length ≤ 600
    rw [List.length_append, textOf_len, List.length_drop, List.length_append]
    omega
  · exact (textOf_lets h).app ((lr.app lr).drop _)
theorem many_ok (x : Int) : 0 < 1 + x % 3 ∧ 1 + x % 3 ≤ 3 := by
  have := Int.emod_nonneg x (b := 3) (by decide)
  have := Int.emod_lt_of_pos x (b := 3) (by decide)
  omega

end G

set_option Elab.async false
set_option linter.all false
set_option maxRecDepth 100000
set_option maxHeartbeats 2000000
/-! M2: endless words: their letters, roots, shortest tellings. -/
namespace G
open PySem PySem.Spec PyProof.Rows L2

/-- the letter at place i of the endless word -/
def infAt (w : Tx × Tx) (i : Nat) : Nat := if i < w.1.length then w.1.getD i 0 else w.2.getD ((i - w.1.length) % w.2.length) 0
/-- the first n letters -/
def infTake (w : Tx × Tx) (n : Nat) : Tx := (List.range n).map (infAt w)
theorem infTake_len (w : Tx × Tx) (n : Nat) : (infTake w n).length = n := by simp [infTake]
theorem infTake_get (w : Tx × Tx) {n i : Nat} (h : i < n) : (infTake w n)[i]? = some (infAt w i) := by
  unfold infTake
  rw [List.getElem?_map, List.getElem?_range h]
  rfl
theorem getD_get {l : Tx} {i : Nat} (h : i < l.length) : l[i]? = some (l.getD i 0) := by
  rw [List.getD_eq_getElem?_getD, List.getElem?_eq_getElem h]
  rfl
theorem flat_get (z : Tx) : ∀ (n i : Nat), i < n * z.length → ((List.replicate n z).flatten)[i]? = some (z.getD (i % z.length) 0)
  | 0, i, h => by simp at h
  | n + 1, i, h => by
    rw [List.replicate_succ, List.flatten_cons]
    by_cases hi : i < z.length
    · rw [List.getElem?_append_left hi, Nat.mod_eq_of_lt hi]
      exact getD_get hi
    · have hi' := Nat.le_of_not_lt hi
      rw [List.getElem?_append_right hi', flat_get z n (i - z.length) (by rw [Nat.add_mul, Nat.one_mul] at h; omega), ← Nat.mod_eq_sub_mod hi']
theorem repT_get (z : Tx) (n : Int) {i : Nat} (h : i < n.toNat * z.length) : (repT z n)[i]? = some (z.getD (i % z.length) 0) := flat_get z n.toNat i h
/-- front + ring * k, cut to n letters, where k rounds are enough -/
theorem first_eq (w : Tx × Tx) (n : Nat) (k : Int) (hr : 0 < w.2.length) (h : n ≤ w.1.length + k.toNat * w.2.length) : (w.1 ++ repT w.2 k).take n = infTake w n := by
  apply List.ext_getElem?
  intro i
  by_cases hi : i < n
  · rw [List.getElem?_take_of_lt hi, infTake_get w hi]
    unfold infAt
    by_cases hf : i < w.1.length
    · rw [List.getElem?_append_left hf, if_pos hf]
      exact getD_get hf
    · rw [List.getElem?_append_right (Nat.le_of_not_lt hf), if_neg hf]
      exact repT_get w.2 k (by omega)
  · rw [List.getElem?_eq_none_iff.mpr (by rw [List.length_take]; omega), List.getElem?_eq_none_iff.mpr (by rw [infTake_len]; omega)]
theorem infTake_inj {u w : Tx × Tx} {n : Nat} : infTake u n = infTake w n ↔ ∀ i, i < n → infAt u i = infAt w i := by
  refine ⟨fun h i hi => ?_, fun h => List.ext_getElem? fun i => ?_⟩
  · have := congrArg (fun l : Tx => l[i]?) h
    rw [infTake_get u hi, infTake_get w hi] at this
    exact Option.some.inj this
  · by_cases hi : i < n
    · rw [infTake_get u hi, infTake_get w hi, h i hi]
    · rw [List.getElem?_eq_none_iff.mpr (by rw [infTake_len]; omega), List.getElem?_eq_none_iff.mpr (by rw [infTake_len]; omega)]

/-! ### roots -/
/-- a round is the word of its first s letters, told several times -/
def isRoot (r : Tx) (s : Nat) : Prop := r.length % s = 0 ∧ repT (r.take s) ((r.length / s : Nat) : Int) = r
instance (r : Tx) (s : Nat) : Decidable (isRoot r s) := inferInstanceAs (Decidable (_ ∧ _))
def rootOf (r : Tx) : Tx := match (List.range r.length).find? (fun s => decide (1 ≤ s ∧ isRoot r s)) with
  | some s => r.take s
  | none => r
theorem rootOf_at {r : Tx} {s : Nat} (h : s < r.length) (h1 : 1 ≤ s) (hs : isRoot r s) (ho : ∀ u, 1 ≤ u → u < s → ¬ isRoot r u) : rootOf r = r.take s := by
  unfold rootOf
  have e : (List.range r.length).find? (fun s => decide (1 ≤ s ∧ isRoot r s)) = some s := by
    rw [List.find?_range_eq_some]
    refine ⟨by simp [h1, hs], by simpa using h, fun j hj => ?_⟩
    simp only [Bool.not_eq_true', decide_eq_false_iff_not]
    exact fun z => ho j z.1 hj z.2
  rw [e]
theorem rootOf_no {r : Tx} (ho : ∀ u, 1 ≤ u → u < r.length → ¬ isRoot r u) : rootOf r = r := by
  unfold rootOf
  have e : (List.range r.length).find? (fun s => decide (1 ≤ s ∧ isRoot r s)) = none := by
    rw [List.find?_eq_none]
    intro u hu
    rw [List.mem_range] at hu
    simp only [decide_eq_true_eq]
    exact fun z => ho u z.1 hu z.2
  rw [e]
theorem rootOf_cases (r : Tx) : (∃ s, 1 ≤ s ∧ s < r.length ∧ isRoot r s ∧ (∀ u, 1 ≤ u → u < s → ¬ isRoot r u) ∧ rootOf r = r.take s) ∨ ((∀ u, 1 ≤ u → u < r.length → ¬ isRoot r u) ∧ rootOf r = r) := by
  by_cases h : ∃ s, 1 ≤ s ∧ s < r.length ∧ isRoot r s
  · obtain ⟨s, ⟨h1, h2, h3⟩, hm⟩ : ∃ s, (1 ≤ s ∧ s < r.length ∧ isRoot r s) ∧ ∀ u, u < s → ¬ (1 ≤ u ∧ u < r.length ∧ isRoot r u) := by
      obtain ⟨s, hs⟩ := h
      induction s using Nat.strongRecOn with
      | _ s ih =>
        by_cases q : ∃ u, u < s ∧ (1 ≤ u ∧ u < r.length ∧ isRoot r u)
        · obtain ⟨u, hu, z⟩ := q
          exact ih u hu z
        · exact ⟨s, hs, fun u hu z => q ⟨u, hu, z⟩⟩
    have ho : ∀ u, 1 ≤ u → u < s → ¬ isRoot r u := fun u a b z => hm u b ⟨a, by omega, z⟩
    exact .inl ⟨s, h1, h2, h3, ho, rootOf_at h2 h1 h3 ho⟩
  · have ho : ∀ u, 1 ≤ u → u < r.length → ¬ isRoot r u := fun u a b z => h ⟨u, a, b, z⟩
    exact .inr ⟨ho, rootOf_no ho⟩
/-- told k times -/
theorem repT_nat_len (z : Tx) (k : Nat) : (repT z (k : Int)).length = k * z.length := by rw [repT_len, Int.toNat_natCast]
/-- a word with no shorter root -/
def Prim (r : Tx) : Prop := ∀ u, 1 ≤ u → u < r.length → ¬ isRoot r u
theorem isRoot_len {r : Tx} {s : Nat} (h : isRoot r s) (h1 : 1 ≤ s) (h2 : s ≤ r.length) : ∃ k : Nat, 1 ≤ k ∧ r = repT (r.take s) (k : Int) ∧ r.length = k * s := by
  refine ⟨r.length / s, ?_, h.2.symm, (Nat.div_mul_cancel (Nat.dvd_of_mod_eq_zero h.1)).symm⟩
  exact Nat.div_pos h2 h1
theorem isRoot_of {r z : Tx} {k : Nat} (h : r = repT z (k : Int)) (hz : 1 ≤ z.length) (hk : 1 ≤ k) : isRoot r z.length := by
  have hl : r.length = k * z.length := by rw [h, repT_nat_len]
  have ht : r.take z.length = z := by
    obtain ⟨j, rfl⟩ : ∃ j, k = j + 1 := ⟨k - 1, by omega⟩
    rw [h]
    unfold repT
    rw [Int.toNat_natCast, List.replicate_succ, List.flatten_cons, List.take_left]
  refine ⟨?_, ?_⟩
  · rw [hl, Nat.mul_mod_left]
  · rw [ht, hl, Nat.mul_div_cancel _ hz]
    exact h.symm
theorem repT_repT (z : Tx) (j k : Nat) : repT (repT z (j : Int)) (k : Int) = repT z ((k * j : Nat) : Int) := by
  unfold repT
  simp only [Int.toNat_natCast]
  induction k with
  | zero => simp
  | succ k ih => rw [List.replicate_succ, List.flatten_cons, ih, Nat.succ_mul, Nat.add_comm, ← List.replicate_append_replicate, List.flatten_append]
theorem rootOf_spec (r : Tx) (hr : 1 ≤ r.length) : Prim (rootOf r) ∧ ∃ k : Nat, 1 ≤ k ∧ r = repT (rootOf r) (k : Int) ∧ 1 ≤ (rootOf r).length ∧ (rootOf r).length ≤ r.length := by
  rcases rootOf_cases r with ⟨s, h1, h2, h3, ho, e⟩ | ⟨ho, e⟩
  · rw [e]
    have hl : (r.take s).length = s := by rw [List.length_take]; omega
    obtain ⟨k, hk, hrk, hlk⟩ := isRoot_len h3 h1 (by omega)
    refine ⟨fun u u1 u2 z => ?_, k, hk, hrk, by omega, by omega⟩
    rw [hl] at u2
    obtain ⟨j, hj, hzj, _⟩ := isRoot_len z u1 (by omega)
    have hul : ((r.take s).take u).length = u := by rw [List.length_take, hl]; omega
    rw [hzj, repT_repT] at hrk
    have := isRoot_of hrk (by omega) (Nat.mul_pos hk hj)
    rw [hul] at this
    exact ho u u1 u2 this
  · rw [e]
    refine ⟨ho, 1, Nat.le_refl 1, ?_, hr, Nat.le_refl _⟩
    unfold repT
    simp
theorem rootOf_prim {r : Tx} (h : Prim r) : rootOf r = r := rootOf_no h
theorem getD_rep {z : Tx} {k : Nat} (hz : 1 ≤ z.length) (hk : 1 ≤ k) (j : Nat) : (repT z (k : Int)).getD (j % (repT z (k : Int)).length) 0 = z.getD (j % z.length) 0 := by
  rw [repT_nat_len]
  have hlt : j % (k * z.length) < k * z.length := Nat.mod_lt _ (Nat.mul_pos hk hz)
  rw [List.getD_eq_getElem?_getD, repT_get z (k : Int) (by rw [Int.toNat_natCast]; exact hlt)]
  show z.getD (j % (k * z.length) % z.length) 0 = _
  rw [Nat.mod_mul_left_mod]
theorem infAt_rep (f : Tx) {z : Tx} {k : Nat} (hz : 1 ≤ z.length) (hk : 1 ≤ k) (i : Nat) : infAt (f, repT z (k : Int)) i = infAt (f, z) i := by
  unfold infAt
  dsimp only
  split
  · rfl
  · exact getD_rep hz hk _
theorem infAt_root (f : Tx) {r : Tx} (hr : 1 ≤ r.length) (i : Nat) : infAt (f, rootOf r) i = infAt (f, r) i := by
  obtain ⟨_, k, hk, e, h1, _⟩ := rootOf_spec r hr
  have := infAt_rep f h1 hk i
  rw [← e] at this
  exact this.symm

/-! ### turning the round back -/
/-- ring[-1] + ring[:-1] -/
def turnBack (r : Tx) : Tx := r.getD (r.length - 1) 0 :: r.dropLast
theorem turnBack_len {r : Tx} (h : 1 ≤ r.length) : (turnBack r).length = r.length := by
  unfold turnBack
  rw [List.length_cons, List.length_dropLast]
  omega
theorem turnBack_snoc (r : Tx) (c : Nat) : turnBack (r ++ [c]) = c :: r := by
  unfold turnBack
  rw [List.dropLast_concat, List.length_append, List.length_singleton, Nat.add_sub_cancel, List.getD_eq_getElem?_getD, List.getElem?_append_right (Nat.le_refl _)]
  simp
/-- the same endless word, the round turned back where the beginning ends as the round does -/
theorem infAt_turn (f r : Tx) (c : Nat) (i : Nat) : infAt (f ++ [c], r ++ [c]) i = infAt (f, c :: r) i := by
  unfold infAt
  dsimp only
  rw [List.length_append, List.length_append, List.length_singleton, List.length_cons]
  by_cases h1 : i < f.length
  · rw [if_pos (by omega), if_pos h1, List.getD_eq_getElem?_getD, List.getD_eq_getElem?_getD, List.getElem?_append_left h1]
  · rw [if_neg h1]
    by_cases h2 : i = f.length
    · subst h2
      rw [if_pos (by omega), Nat.sub_self, Nat.zero_mod, List.getD_eq_getElem?_getD, List.getElem?_append_right (Nat.le_refl _)]
      simp
    · rw [if_neg (by omega)]
      have e : i - f.length = (i - (f.length + 1)) + 1 := by omega
      rw [e]
      generalize i - (f.length + 1) = j
      have hn : 0 < r.length + 1 := by omega
      by_cases h3 : j % (r.length + 1) = r.length
      · have : (j + 1) % (r.length + 1) = 0 := by
          rw [Nat.add_mod, h3]
          by_cases h0 : r.length = 0
          · rw [h0]
          · rw [Nat.mod_eq_of_lt (show 1 < r.length + 1 by omega)]; exact Nat.mod_self _
        rw [this, h3, List.getD_eq_getElem?_getD, List.getElem?_append_right (Nat.le_refl _)]
        simp
      · have h4 : j % (r.length + 1) < r.length := by
          have := Nat.mod_lt j hn
          omega
        have : (j + 1) % (r.length + 1) = j % (r.length + 1) + 1 := by
          rw [Nat.add_mod, Nat.mod_eq_of_lt (show 1 < r.length + 1 by omega), Nat.mod_eq_of_lt (by omega)]
        rw [this, List.getD_cons_succ, List.getD_eq_getElem?_getD, List.getD_eq_getElem?_getD, List.getElem?_append_left h4]
/-- the loop: the beginning's end turned into the round -/
def spinR : Tx → Tx → Tx × Tx
  | [], r => ([], r)
  | c :: f, r => if c = r.getD (r.length - 1) 0 then spinR f (turnBack r) else ((c :: f).reverse, r)
def spin (f r : Tx) : Tx × Tx := spinR f.reverse r
def shortest (w : Tx × Tx) : Tx × Tx := spin w.1 (rootOf w.2)
theorem spin_nil (r : Tx) : spin [] r = ([], r) := rfl
theorem spin_stop {f r : Tx} (h : f ≠ []) (hc : f.getD (f.length - 1) 0 ≠ r.getD (r.length - 1) 0) : spin f r = (f, r) := by
  unfold spin
  obtain ⟨g, c, rfl⟩ : ∃ g c, f = g ++ [c] := ⟨f.dropLast, f.getLast h, (List.dropLast_concat_getLast h).symm⟩
  rw [List.reverse_append, List.reverse_singleton]
  show (if c = _ then _ else ((c :: g.reverse).reverse, r)) = _
  have e : (g ++ [c]).getD ((g ++ [c]).length - 1) 0 = c := by
    rw [List.length_append, List.length_singleton, Nat.add_sub_cancel, List.getD_eq_getElem?_getD, List.getElem?_append_right (Nat.le_refl _)]
    simp
  rw [e] at hc
  rw [if_neg hc]
  simp
theorem spin_go {f r : Tx} (h : f ≠ []) (hc : f.getD (f.length - 1) 0 = r.getD (r.length - 1) 0) : spin f r = spin f.dropLast (turnBack r) := by
  unfold spin
  obtain ⟨g, c, rfl⟩ : ∃ g c, f = g ++ [c] := ⟨f.dropLast, f.getLast h, (List.dropLast_concat_getLast h).symm⟩
  rw [List.reverse_append, List.reverse_singleton, List.dropLast_concat]
  show (if c = _ then _ else _) = _
  have e : (g ++ [c]).getD ((g ++ [c]).length - 1) 0 = c := by
    rw [List.length_append, List.length_singleton, Nat.add_sub_cancel, List.getD_eq_getElem?_getD, List.getElem?_append_right (Nat.le_refl _)]
    simp
  rw [e] at hc
  rw [if_pos hc]
  rfl
theorem last_snoc {r : Tx} (h : 1 ≤ r.length) : ∃ s c, r = s ++ [c] ∧ r.getD (r.length - 1) 0 = c := by
  have hn : r ≠ [] := fun z => by rw [z] at h; simp at h
  refine ⟨r.dropLast, r.getLast hn, (List.dropLast_concat_getLast hn).symm, ?_⟩
  rw [List.getD_eq_getElem?_getD, List.getElem?_eq_getElem (by omega), List.getLast_eq_getElem]
  rfl
/-- turning keeps a word without a shorter root so -/
theorem isRoot_get {r : Tx} {s : Nat} (h1 : 1 ≤ s) (hs : s ≤ r.length) : isRoot r s ↔ r.length % s = 0 ∧ ∀ i, i < r.length → r.getD i 0 = r.getD (i % s) 0 := by
  have ht : (r.take s).length = s := by rw [List.length_take]; omega
  refine ⟨fun h => ⟨h.1, fun i hi => ?_⟩, fun h => ⟨h.1, ?_⟩⟩
  · have hl : r.length = r.length / s * s := (Nat.div_mul_cancel (Nat.dvd_of_mod_eq_zero h.1)).symm
    have e := repT_get (r.take s) ((r.length / s : Nat) : Int) (i := i) (by rw [Int.toNat_natCast, ht]; omega)
    rw [h.2, ht] at e
    rw [List.getD_eq_getElem?_getD, e]
    show (r.take s).getD (i % s) 0 = _
    rw [List.getD_eq_getElem?_getD, List.getD_eq_getElem?_getD, List.getElem?_take_of_lt (Nat.mod_lt _ h1)]
  · have hl : r.length / s * s = r.length := Nat.div_mul_cancel (Nat.dvd_of_mod_eq_zero h.1)
    apply List.ext_getElem?
    intro i
    by_cases hi : i < r.length
    · rw [repT_get _ _ (by rw [Int.toNat_natCast, ht, hl]; exact hi), ht, getD_get hi, h.2 i hi]
      congr 1
      rw [List.getD_eq_getElem?_getD, List.getD_eq_getElem?_getD, List.getElem?_take_of_lt (Nat.mod_lt _ h1)]
    · rw [List.getElem?_eq_none_iff.mpr (by rw [repT_nat_len, ht, hl]; omega), List.getElem?_eq_none_iff.mpr (by omega)]
theorem mod_succ {i s : Nat} (h1 : 1 ≤ s) : (i + 1) % s = if i % s = s - 1 then 0 else i % s + 1 := by
  have hl := Nat.mod_lt i h1
  split
  · rename_i h
    rw [Nat.add_mod, h]
    by_cases h2 : s = 1
    · subst h2; rfl
    · rw [Nat.mod_eq_of_lt (show 1 < s by omega), show s - 1 + 1 = s by omega, Nat.mod_self]
  · rename_i h
    have : 1 < s := by omega
    rw [Nat.add_mod, Nat.mod_eq_of_lt this, Nat.mod_eq_of_lt (show i % s + 1 < s by omega)]
theorem turn_root {r : Tx} {c s : Nat} (h1 : 1 ≤ s) (hs : s ≤ r.length + 1) (h : isRoot (c :: r) s) : isRoot (r ++ [c]) s := by
  rw [isRoot_get h1 (by rw [List.length_cons]; exact hs)] at h
  rw [isRoot_get h1 (by rw [List.length_append, List.length_singleton]; exact hs)]
  obtain ⟨hd, hg⟩ := h
  rw [List.length_cons] at hd hg
  rw [List.length_append, List.length_singleton]
  refine ⟨hd, ?_⟩
  have key : ∀ j, j < r.length + 1 → (r ++ [c]).getD j 0 = (c :: r).getD ((j + 1) % (r.length + 1)) 0 := fun j hj => by
    by_cases hj2 : j < r.length
    · rw [Nat.mod_eq_of_lt (by omega), List.getD_cons_succ, List.getD_eq_getElem?_getD, List.getD_eq_getElem?_getD, List.getElem?_append_left hj2]
    · have : j = r.length := by omega
      subst this
      rw [Nat.mod_self, List.getD_eq_getElem?_getD, List.getElem?_append_right (Nat.le_refl _)]
      simp
  intro i hi
  have him : i % s < r.length + 1 := by
    have := Nat.mod_le i s
    omega
  rw [key i hi, key (i % s) him, hg _ (Nat.mod_lt _ (by omega)), hg ((i % s + 1) % (r.length + 1)) (Nat.mod_lt _ (by omega))]
  congr 1
  have hdv : s ∣ r.length + 1 := Nat.dvd_of_mod_eq_zero hd
  rw [Nat.mod_mod_of_dvd _ hdv, Nat.mod_mod_of_dvd _ hdv]
  simp
theorem turnBack_prim {r : Tx} (h : Prim r) (hr : 1 ≤ r.length) : Prim (turnBack r) := by
  obtain ⟨s, c, rfl, _⟩ := last_snoc hr
  rw [turnBack_snoc]
  intro u u1 u2 z
  rw [List.length_cons] at u2
  exact h u u1 (by rw [List.length_append, List.length_singleton]; exact u2) (turn_root u1 (by omega) z)
/-- what the loop leaves -/
structure SpinOk (f r : Tx) (w : Tx × Tx) : Prop where
  len : w.2.length = r.length
  prim : Prim r → Prim w.2
  inf : ∀ i, infAt w i = infAt (f, r) i
  ends : w.1 = [] ∨ w.1.getD (w.1.length - 1) 0 ≠ w.2.getD (w.2.length - 1) 0
  fl : w.1.length ≤ f.length
  lets : ∀ many, Lets many f → Lets many r → Lets many w.1 ∧ Lets many w.2
theorem spin_ok : ∀ (n : Nat) (f r : Tx), f.length = n → 1 ≤ r.length → SpinOk f r (spin f r)
  | 0, f, r, h, hr => by
    have : f = [] := List.eq_nil_of_length_eq_zero h
    subst this
    exact ⟨rfl, fun z => z, fun _ => rfl, .inl rfl, Nat.le_refl _, fun _ a b => ⟨a, b⟩⟩
  | n + 1, f, r, h, hr => by
    have hn : f ≠ [] := fun z => by rw [z] at h; cases h
    by_cases hc : f.getD (f.length - 1) 0 = r.getD (r.length - 1) 0
    · rw [spin_go hn hc]
      have hl := turnBack_len hr
      have ih := spin_ok n f.dropLast (turnBack r) (by rw [List.length_dropLast]; omega) (by omega)
      obtain ⟨g, c, rfl, hg⟩ := last_snoc (r := f) (by omega)
      obtain ⟨s, d, rfl, hd⟩ := last_snoc hr
      rw [hg, hd] at hc
      subst hc
      rw [List.dropLast_concat, turnBack_snoc] at ih ⊢
      have hls : (c :: s).length = (s ++ [c]).length := by simp
      refine ⟨ih.len.trans hls, fun z => ih.prim ?_, fun i => (ih.inf i).trans (infAt_turn g s c i).symm, ih.ends, Nat.le_trans ih.fl (by simp), fun many a b => ?_⟩
      · have := turnBack_prim z hr
        rw [turnBack_snoc] at this
        exact this
      · refine ih.lets many (fun x hx => a x (List.mem_append_left _ hx)) fun x hx => ?_
        rcases List.mem_cons.mp hx with rfl | hx
        · exact b x (List.mem_append_right _ (by simp))
        · exact b x (List.mem_append_left _ hx)
    · rw [spin_stop hn hc]
      exact ⟨rfl, fun z => z, fun _ => rfl, .inr hc, Nat.le_refl _, fun _ a b => ⟨a, b⟩⟩
structure ShortOk (w u : Tx × Tx) : Prop where
  r1 : 1 ≤ u.2.length
  rl : u.2.length ≤ w.2.length
  fl : u.1.length ≤ w.1.length
  prim : Prim u.2
  inf : ∀ i, infAt u i = infAt w i
  ends : u.1 = [] ∨ u.1.getD (u.1.length - 1) 0 ≠ u.2.getD (u.2.length - 1) 0
  lets : ∀ many, Lets many w.1 → Lets many w.2 → Lets many u.1 ∧ Lets many u.2
theorem Lets.of_rep {many : Int} {z : Tx} {k : Nat} (hk : 1 ≤ k) (h : Lets many (repT z (k : Int))) : Lets many z := fun c hc => h c (by
  unfold repT
  rw [Int.toNat_natCast]
  exact List.mem_flatten.mpr ⟨z, List.mem_replicate.mpr ⟨by omega, rfl⟩, hc⟩)
theorem short_ok (w : Tx × Tx) (hr : 1 ≤ w.2.length) : ShortOk w (shortest w) := by
  obtain ⟨hp, k, hk, e, h1, h2⟩ := rootOf_spec w.2 hr
  have s := spin_ok _ w.1 (rootOf w.2) rfl h1
  refine ⟨by have := s.len; unfold shortest; omega, by have := s.len; unfold shortest; omega, s.fl, s.prim hp, fun i => (s.inf i).trans (infAt_root w.1 hr i), s.ends, fun many a b => s.lets many a ?_⟩
  rw [e] at b
  exact Lets.of_rep hk b
/-- a shortest telling is its own -/
theorem short_self {u : Tx × Tx} (hp : Prim u.2) (he : u.1 = [] ∨ u.1.getD (u.1.length - 1) 0 ≠ u.2.getD (u.2.length - 1) 0) : shortest u = u := by
  unfold shortest
  rw [rootOf_prim hp]
  rcases he with h | h
  · rw [h, spin_nil, ← h]
  · by_cases hn : u.1 = []
    · rw [hn, spin_nil, ← hn]
    · rw [spin_stop hn h]
end G

set_option Elab.async false
set_option linter.all false
set_option maxRecDepth 100000
set_option maxHeartbeats 2000000
/-! M3: what the laws' helpers about words ask of places and numbers. -/
namespace G
open PySem PySem.Spec PyProof.Rows L2
theorem isRoot_int {r : Tx} {s : Nat} : isRoot r s ↔ (r.length : Int) % (s : Int) = 0 ∧ repT (r.take (s : Int).toNat) ((r.length : Int) / (s : Int)) = r := by
  unfold isRoot
  rw [Int.toNat_natCast, ← Int.natCast_ediv, ← Int.natCast_emod]
  constructor
  · exact fun h => ⟨by rw [h.1]; rfl, h.2⟩
  · exact fun h => ⟨Int.natCast_inj.mp h.1, h.2⟩
theorem rounds_ok {n L : Int} (hn : 0 ≤ n) (hL : 1 ≤ L) : 0 ≤ n / L ∧ n ≤ (n / L + 1) * L ∧ (n / L + 1) * L ≤ n + L := by
  have h1 : 0 ≤ n / L := Int.ediv_nonneg hn (by omega)
  have h2 : n % L + L * (n / L) = n := Int.emod_add_mul_ediv n L
  have h3 : 0 ≤ n % L := Int.emod_nonneg n (by omega)
  have h4 : n % L < L := Int.emod_lt_of_pos n (by omega)
  have h5 : (n / L + 1) * L = L * (n / L) + L := by rw [Int.add_mul, Int.one_mul, Int.mul_comm]
  omega
/-- how many rounds are enough, as lists reckon -/
theorem rounds_nat {n : Int} {r : Tx} (hn : 0 ≤ n) (hL : 1 ≤ r.length) : 0 ≤ n / (r.length : Int) + 1 ∧ n / (r.length : Int) + 1 ≤ n + 1 ∧ n.toNat ≤ (n / (r.length : Int) + 1).toNat * r.length ∧ r.length * (n / (r.length : Int) + 1).toNat ≤ n.toNat + r.length := by
  obtain ⟨h1, h2, h3⟩ := rounds_ok (n := n) (L := r.length) hn (by omega)
  have h6 : n / (r.length : Int) ≤ n := Int.ediv_le_self _ hn
  obtain ⟨k, hk⟩ := Int.eq_ofNat_of_zero_le (show 0 ≤ n / (r.length : Int) + 1 by omega)
  rw [hk] at h2 h3 ⊢
  rw [Int.toNat_natCast, Nat.mul_comm r.length k]
  have e : ((k : Int) * (r.length : Int)) = ((k * r.length : Nat) : Int) := (Int.natCast_mul k r.length).symm
  rw [e] at h2 h3
  omega
theorem first_eq' (w : Tx × Tx) {n : Int} (hn : 0 ≤ n) (hr : 1 ≤ w.2.length) : (w.1 ++ repT w.2 (n / (w.2.length : Int) + 1)).take n.toNat = infTake w n.toNat := by
  have h := rounds_nat (r := w.2) hn hr
  exact first_eq w n.toNat _ hr (by omega)
theorem lets_mem {many : Int} {c : Nat} (h : 0 < many ∧ many ≤ 3) (h1 : 97 ≤ c) (h2 : (c : Int) < 97 + many) : c ∈ ([97, 98, 99] : List Nat).take many.toNat := by
  have : many = 1 ∨ many = 2 ∨ many = 3 := by omega
  rcases this with rfl | rfl | rfl
  · have : c = 97 := by omega
    subst this; decide
  · have : c = 97 ∨ c = 98 := by omega
    rcases this with rfl | rfl <;> decide
  · have : c = 97 ∨ c = 98 ∨ c = 99 := by omega
    rcases this with rfl | rfl | rfl <;> decide
theorem mem_lets {many : Int} {c : Nat} (h : 0 < many ∧ many ≤ 3) (hc : c ∈ ([97, 98, 99] : List Nat).take many.toNat) : 97 ≤ c ∧ (c : Int) < 97 + many := by
  have : many = 1 ∨ many = 2 ∨ many = 3 := by omega
  rcases this with rfl | rfl | rfl
  · simp at hc; omega
  · simp at hc; omega
  · simp at hc; omega
theorem lets_ok {many : Int} {l : Tx} (h : many ≤ 3) (hl : Lets many l) : Py.ok l := fun c hc => by
  have := hl c hc
  omega
theorem signs_get {z : Tx} {i : Nat} {x : Tx} (h : (z.map fun c => ([c] : Tx))[i]? = some x) : ∃ c, x = [c] ∧ z[i]? = some c ∧ c ∈ z := by
  rw [List.getElem?_map] at h
  cases e : z[i]? with
  | none => rw [e] at h; cases h
  | some c =>
    rw [e] at h
    cases h
    exact ⟨c, rfl, rfl, List.mem_of_getElem? e⟩
theorem two_get {α : Type} {a b x : α} {i : Nat} (h : [a, b][i]? = some x) : x = a ∨ x = b := by
  match i with
  | 0 => simp at h; exact .inl h.symm
  | 1 => simp at h; exact .inr h.symm
  | i + 2 => simp at h
def agreeLen (u w : Tx × Tx) : Nat := max u.1.length w.1.length + u.2.length + w.2.length
def agree (u w : Tx × Tx) : Bool := decide (infTake u (agreeLen u w) = infTake w (agreeLen u w))
theorem agree_of {u w : Tx × Tx} (h : ∀ i, infAt u i = infAt w i) : agree u w = true := decide_eq_true (infTake_inj.mpr fun i _ => h i)
/-- a shortest telling, as the laws look at it -/
structure Tell (many : Int) (u : Tx × Tx) : Prop where
  r1 : 1 ≤ u.2.length
  rl : u.2.length ≤ 100000
  fl : u.1.length ≤ 100000
  l1 : Lets many u.1
  l2 : Lets many u.2
structure Shorts (u : Tx × Tx) : Prop where
  prim : Prim u.2
  ends : u.1 = [] ∨ u.1.getD (u.1.length - 1) 0 ≠ u.2.getD (u.2.length - 1) 0
end G

set_option Elab.async false
set_option linter.all false
set_option maxRecDepth 100000
set_option maxHeartbeats 2000000
/-! M4: tellings of one endless word: one shortest telling; words alike for long enough are the same; what is left behind. -/
namespace G
open PySem PySem.Spec PyProof.Rows L2
theorem infAt_per {w : Tx × Tx} {i : Nat} (h : w.1.length ≤ i) : infAt w (i + w.2.length) = infAt w i := by
  unfold infAt
  rw [if_neg (by omega), if_neg (by omega)]
  have : i + w.2.length - w.1.length = (i - w.1.length) + w.2.length := by omega
  rw [this, Nat.add_mod_right]
theorem infAt_perk {w : Tx × Tx} {i : Nat} (h : w.1.length ≤ i) : ∀ k, infAt w (i + k * w.2.length) = infAt w i
  | 0 => by simp
  | k + 1 => by
    rw [Nat.succ_mul, ← Nat.add_assoc, infAt_per (by omega), infAt_perk h k]
def Per (a : Nat → Nat) (p : Nat) : Prop := ∃ N, ∀ i, N ≤ i → a (i + p) = a i
theorem Per.sub {a : Nat → Nat} {p q : Nat} (hp : Per a p) (hq : Per a q) (h : p ≤ q) : Per a (q - p) := by
  obtain ⟨N, hN⟩ := hp
  obtain ⟨M, hM⟩ := hq
  refine ⟨max N M, fun i hi => ?_⟩
  rw [← hN (i + (q - p)) (by omega), show i + (q - p) + p = i + q by omega]
  exact hM i (by omega)
theorem Per.gcd {a : Nat → Nat} : ∀ (n p q : Nat), p + q ≤ n → Per a p → Per a q → Per a (Nat.gcd p q)
  | 0, p, q, h, hp, hq => by
    have : p = 0 ∧ q = 0 := by omega
    obtain ⟨rfl, rfl⟩ := this
    exact hp
  | n + 1, p, q, h, hp, hq => by
    by_cases h0 : p = 0
    · subst h0; rw [Nat.gcd_zero_left]; exact hq
    · by_cases h1 : q = 0
      · subst h1; rw [Nat.gcd_zero_right]; exact hp
      · by_cases hle : p ≤ q
        · have := Per.gcd n p (q - p) (by omega) hp (hp.sub hq hle)
          rwa [Nat.gcd_sub_self_right hle] at this
        · have := Per.gcd n (p - q) q (by omega) (hq.sub hp (by omega)) hq
          rwa [Nat.gcd_sub_self_left (by omega)] at this
theorem Per.mul {a : Nat → Nat} {p : Nat} : Per a p → ∀ k, Per a (k * p)
  | _, 0 => ⟨0, fun i _ => by simp⟩
  | ⟨N, hN⟩, k + 1 => by
    obtain ⟨M, hM⟩ := Per.mul ⟨N, hN⟩ k
    exact ⟨max N M, fun i hi => by rw [Nat.succ_mul, ← Nat.add_assoc, hN _ (by omega), hM _ (by omega)]⟩
theorem infAt_Per (w : Tx × Tx) : Per (infAt w) w.2.length := ⟨w.1.length, fun _ h => infAt_per h⟩
/-- a period that divides the round's length is a root -/
theorem per_root {w : Tx × Tx} {g : Nat} (h1 : 1 ≤ g) (hd : g ∣ w.2.length) (hr : 1 ≤ w.2.length) (h : Per (infAt w) g) : isRoot w.2 g := by
  have hg : g ≤ w.2.length := Nat.le_of_dvd hr hd
  rw [isRoot_get h1 hg]
  refine ⟨Nat.mod_eq_zero_of_dvd hd, fun i hi => ?_⟩
  obtain ⟨N, hN⟩ := h.mul (i / g)
  have at' : ∀ j, j < w.2.length → infAt w (w.1.length + j + N * w.2.length) = w.2.getD j 0 := fun j hj => by
    rw [infAt_perk (by omega)]
    unfold infAt
    rw [if_neg (by omega), Nat.add_sub_cancel_left, Nat.mod_eq_of_lt hj]
  have hm : i % g < w.2.length := by
    have := Nat.mod_le i g
    omega
  rw [← at' i hi, ← at' (i % g) hm]
  have e : w.1.length + i + N * w.2.length = (w.1.length + i % g + N * w.2.length) + i / g * g := by
    have := Nat.mod_add_div i g
    rw [Nat.mul_comm] at this
    omega
  rw [e]
  refine hN _ ?_
  have : N * 1 ≤ N * w.2.length := Nat.mul_le_mul_left N hr
  omega
theorem ring_len_eq {u w : Tx × Tx} (hu : 1 ≤ u.2.length) (hw : 1 ≤ w.2.length) (pu : Prim u.2) (pw : Prim w.2) (h : ∀ i, infAt u i = infAt w i) : u.2.length = w.2.length := by
  have e : infAt u = infAt w := funext h
  have p1 := infAt_Per u
  have p2 := infAt_Per w
  rw [← e] at p2
  have g := Per.gcd _ _ _ (Nat.le_refl _) p1 p2
  have hg1 : 1 ≤ Nat.gcd u.2.length w.2.length := Nat.gcd_pos_of_pos_left _ hu
  have r1 := per_root hg1 (Nat.gcd_dvd_left _ _) hu g
  rw [e] at g
  have r2 := per_root hg1 (Nat.gcd_dvd_right _ _) hw g
  have l1 : ¬ Nat.gcd u.2.length w.2.length < u.2.length := fun z => pu _ hg1 z r1
  have l2 : ¬ Nat.gcd u.2.length w.2.length < w.2.length := fun z => pw _ hg1 z r2
  have := Nat.gcd_le_left w.2.length hu
  have := Nat.gcd_le_right u.2.length hw
  omega
theorem front_len_le {u w : Tx × Tx} (hu : 1 ≤ u.2.length) (hl : u.2.length = w.2.length) (he : w.1 = [] ∨ w.1.getD (w.1.length - 1) 0 ≠ w.2.getD (w.2.length - 1) 0) (h : ∀ i, infAt u i = infAt w i) : w.1.length ≤ u.1.length := by
  by_cases hlt : u.1.length < w.1.length
  · exfalso
    rcases he with he | he
    · rw [he] at hlt; simp at hlt
    · apply he
      have h1 : infAt w (w.1.length - 1) = w.1.getD (w.1.length - 1) 0 := by
        unfold infAt
        rw [if_pos (by omega)]
      have h2 : infAt w (w.1.length - 1 + w.2.length) = w.2.getD (w.2.length - 1) 0 := by
        unfold infAt
        rw [if_neg (by omega), show w.1.length - 1 + w.2.length - w.1.length = w.2.length - 1 by omega, Nat.mod_eq_of_lt (by omega)]
      rw [← h1, ← h2, ← h, ← h, ← hl, infAt_per (by omega)]
  · omega
theorem ext_getD {a b : Tx} (hl : a.length = b.length) (h : ∀ i, i < a.length → a.getD i 0 = b.getD i 0) : a = b := by
  apply List.ext_getElem?
  intro i
  by_cases hi : i < a.length
  · rw [getD_get hi, getD_get (by omega), h i hi]
  · rw [List.getElem?_eq_none_iff.mpr (by omega), List.getElem?_eq_none_iff.mpr (by omega)]
/-- ONE SHORTEST TELLING -/
theorem short_one {u w : Tx × Tx} (hu : 1 ≤ u.2.length) (hw : 1 ≤ w.2.length) (su : Shorts u) (sw : Shorts w) (h : ∀ i, infAt u i = infAt w i) : u = w := by
  have hl := ring_len_eq hu hw su.prim sw.prim h
  have f1 := front_len_le hu hl sw.ends h
  have f2 := front_len_le hw hl.symm su.ends fun i => (h i).symm
  have hf : u.1.length = w.1.length := by omega
  have e1 : u.1 = w.1 := ext_getD hf fun i hi => by
    have := h i
    unfold infAt at this
    rw [if_pos hi, if_pos (by omega)] at this
    exact this
  have e2 : u.2 = w.2 := ext_getD hl fun i hi => by
    have := h (u.1.length + i)
    unfold infAt at this
    rw [if_neg (by omega), if_neg (by omega), Nat.add_sub_cancel_left, hf, Nat.add_sub_cancel_left, Nat.mod_eq_of_lt hi, Nat.mod_eq_of_lt (by omega)] at this
    exact this
  exact Prod.ext e1 e2
theorem ShortOk.shorts {w u : Tx × Tx} (h : ShortOk w u) : Shorts u := ⟨h.prim, h.ends⟩
/-- two tellings tell the same word just where their shortest tellings are equal -/
theorem shortest_eq_iff {u w : Tx × Tx} (hu : 1 ≤ u.2.length) (hw : 1 ≤ w.2.length) : shortest u = shortest w ↔ ∀ i, infAt u i = infAt w i := by
  have su := short_ok u hu
  have sw := short_ok w hw
  refine ⟨fun h i => ?_, fun h => short_one su.r1 sw.r1 su.shorts sw.shorts fun i => ?_⟩
  · rw [← su.inf i, ← sw.inf i, h]
  · rw [su.inf i, sw.inf i]; exact h i
/-- ALIKE FOR LONG ENOUGH -/
theorem alike_long {u w : Tx × Tx} (hu : 1 ≤ u.2.length) (hw : 1 ≤ w.2.length) (h : ∀ i, i < agreeLen u w → infAt u i = infAt w i) : ∀ i, infAt u i = infAt w i := by
  intro i
  induction i using Nat.strongRecOn with
  | _ i ih =>
    by_cases hi : i < agreeLen u w
    · exact h i hi
    · have hl : max u.1.length w.1.length + u.2.length + w.2.length ≤ i := by unfold agreeLen at hi; omega
      have a1 : infAt u i = infAt u (i - u.2.length) := by
        rw [← infAt_per (w := u) (i := i - u.2.length) (by omega), Nat.sub_add_cancel (by omega)]
      have a2 : infAt w (i - u.2.length) = infAt w (i - u.2.length - w.2.length) := by
        rw [← infAt_per (w := w) (i := i - u.2.length - w.2.length) (by omega), Nat.sub_add_cancel (by omega)]
      have a3 : infAt u (i - w.2.length) = infAt u (i - u.2.length - w.2.length) := by
        rw [← infAt_per (w := u) (i := i - u.2.length - w.2.length) (by omega), show i - u.2.length - w.2.length + u.2.length = i - w.2.length by omega]
      have a4 : infAt w i = infAt w (i - w.2.length) := by
        rw [← infAt_per (w := w) (i := i - w.2.length) (by omega), Nat.sub_add_cancel (by omega)]
      rw [a1, ih _ (by omega), a2, ← ih _ (by omega), ← a3, ih _ (by omega), ← a4]
theorem agree_iff {u w : Tx × Tx} (hu : 1 ≤ u.2.length) (hw : 1 ≤ w.2.length) : agree u w = true ↔ ∀ i, infAt u i = infAt w i := by
  unfold agree
  rw [decide_eq_true_eq, infTake_inj]
  exact ⟨fun h => alike_long hu hw h, fun h i _ => h i⟩

/-! ### ahead and behind -/
def rotL (r : Tx) (t : Nat) : Tx := r.drop t ++ r.take t
theorem rotL_len {r : Tx} (t : Nat) : (rotL r t).length = r.length := by
  unfold rotL
  rw [List.length_append, List.length_drop, List.length_take]
  omega
theorem rotL_get {r : Tx} {t i : Nat} (ht : t ≤ r.length) (hi : i < r.length) : (rotL r t).getD i 0 = r.getD ((t + i) % r.length) 0 := by
  unfold rotL
  by_cases h : i < r.length - t
  · rw [Nat.mod_eq_of_lt (by omega), List.getD_eq_getElem?_getD, List.getD_eq_getElem?_getD, List.getElem?_append_left (by rw [List.length_drop]; exact h), List.getElem?_drop]
  · have e : (t + i) % r.length = t + i - r.length := by rw [Nat.mod_eq_sub_mod (by omega), Nat.mod_eq_of_lt (by omega)]
    rw [e, List.getD_eq_getElem?_getD, List.getD_eq_getElem?_getD, List.getElem?_append_right (by rw [List.length_drop]; omega), List.length_drop, List.getElem?_take_of_lt (by omega)]
    congr 2
    omega
theorem infAt_rot {r : Tx} {t : Nat} (ht : t ≤ r.length) (hr : 1 ≤ r.length) (i : Nat) : infAt ([], rotL r t) i = r.getD ((t + i) % r.length) 0 := by
  unfold infAt
  dsimp only
  rw [if_neg (by simp), List.length_nil, Nat.sub_zero, rotL_len, rotL_get ht (Nat.mod_lt _ hr)]
  congr 1
  simp
def behindOf (w : Tx × Tx) (c : Int) : Tx × Tx := if c ≤ w.1.length then (w.1.drop c.toNat, w.2) else ([], rotL w.2 ((c - w.1.length) % w.2.length).toNat)
theorem behind_ok {w : Tx × Tx} {c : Int} (hc : 0 ≤ c) (hr : 1 ≤ w.2.length) : (∀ i, infAt (behindOf w c) i = infAt w (i + c.toNat)) ∧ (behindOf w c).2.length = w.2.length ∧ (behindOf w c).1.length ≤ w.1.length ∧ ∀ many, Lets many w.1 → Lets many w.2 → Lets many (behindOf w c).1 ∧ Lets many (behindOf w c).2 := by
  obtain ⟨n, rfl⟩ := Int.eq_ofNat_of_zero_le hc
  unfold behindOf
  split
  · rename_i h
    rw [Int.toNat_natCast]
    refine ⟨fun i => ?_, rfl, by rw [List.length_drop]; omega, fun many a b => ⟨a.drop _, b⟩⟩
    unfold infAt
    dsimp only
    rw [List.length_drop]
    by_cases hi : i < w.1.length - n
    · rw [if_pos hi, if_pos (by omega), List.getD_eq_getElem?_getD, List.getD_eq_getElem?_getD, List.getElem?_drop, Nat.add_comm]
    · rw [if_neg hi, if_neg (by omega)]
      congr 2
      omega
  · rename_i h
    have hm := Int.emod_nonneg ((n : Int) - (w.1.length : Int)) (b := (w.2.length : Int)) (by omega)
    have hm2 := Int.emod_lt_of_pos ((n : Int) - (w.1.length : Int)) (b := (w.2.length : Int)) (by omega)
    have e : (((n : Int) - (w.1.length : Int)) % (w.2.length : Int)).toNat = (n - w.1.length) % w.2.length := by
      rw [show (n : Int) - (w.1.length : Int) = ((n - w.1.length : Nat) : Int) by omega, ← Int.natCast_emod, Int.toNat_natCast]
    rw [Int.toNat_natCast, e]
    have hlt : (n - w.1.length) % w.2.length < w.2.length := Nat.mod_lt _ hr
    refine ⟨fun i => ?_, rotL_len _, Nat.zero_le _, fun many a b => ⟨fun c hc => by simp at hc, (b.drop _).app (b.take _)⟩⟩
    rw [infAt_rot (by omega) hr]
    unfold infAt
    rw [if_neg (by omega), Nat.mod_add_mod]
    congr 2
    omega
def leftBehind (w : Tx × Tx) (c : Int) : Tx × Tx := shortest (behindOf w c)
theorem infAt_app (a : Tx) (w : Tx × Tx) (i : Nat) : infAt (a ++ w.1, w.2) (i + a.length) = infAt w i := by
  unfold infAt
  dsimp only
  rw [List.length_append]
  by_cases h : i < w.1.length
  · rw [if_pos (by omega), if_pos h, List.getD_eq_getElem?_getD, List.getD_eq_getElem?_getD, List.getElem?_append_right (by omega)]
    congr 2
    omega
  · rw [if_neg (by omega), if_neg h]
    congr 2
    omega
end G

set_option Elab.async false
set_option linter.all false
set_option maxRecDepth 100000
set_option maxHeartbeats 2000000
/-! G4: none or not, places in texts, lists put together, in a list, things of any kind. -/
namespace G
open PySem PySem.Spec PyProof.Rows L2
open C8 (tCut pss_cut)
open Rp
section
variable {κ : Kx} {B : Bs} {Γ : List Sl} {te ta tb : TE} {p : Sg → Hp → Prop}
/-! ### none or not -/
class Nn (α : Type) [Rp α] : Prop where
  nn : ∀ {κ : Kx} {H : Hp} {v : V} {a : α}, rp κ H v a → v ≠ .non
instance : Nn Int := ⟨fun {κ H v a} h => by obtain rfl : v = .int a := h; exact fun z => nomatch z⟩
instance : Nn Bool := ⟨fun {κ H v a} h => by obtain rfl : v = .bl a := h; exact fun z => nomatch z⟩
instance : Nn (List Nat) := ⟨fun {κ H v a} h => by obtain rfl : v = .str (mkS a) := h; exact fun z => nomatch z⟩
instance {α β : Type} [Rp α] [Rp β] : Nn (α × β) := ⟨fun h => by obtain ⟨a, x, y, rfl, _⟩ := h; exact fun z => nomatch z⟩
instance nnList {α : Type} [Rp α] : Nn (List α) := ⟨fun h => by obtain ⟨a, x, rfl, _⟩ := h; exact fun z => nomatch z⟩
theorem rv_isN {α : Type} [Rp α] [Nn α] {o : Option α} : RV κ (fun x y H Q => y = .non ∧ Q (.bl (decide (x = .non))) H) o () o.isNone := fun H Hi x y s rx ry Q q => by
  refine ⟨ry, ?_⟩
  cases o with
  | none =>
    obtain rfl : x = .non := rx
    exact q _ H Hi (.refl s) rfl
  | some a =>
    rw [decide_eq_false (Nn.nn (α := α) rx)]
    exact q _ H Hi (.refl s) rfl
theorem rv_notN {α : Type} [Rp α] [Nn α] {o : Option α} : RV κ (fun x y H Q => y = .non ∧ Q (.bl (!decide (x = .non))) H) o () (!o.isNone) := fun H Hi x y s rx ry Q q => by
  refine ⟨ry, ?_⟩
  cases o with
  | none =>
    obtain rfl : x = .non := rx
    exact q _ H Hi (.refl s) rfl
  | some a =>
    rw [decide_eq_false (Nn.nn (α := α) rx)]
    exact q _ H Hi (.refl s) rfl
theorem rc_isiO {α : Type} [Rp α] [Ty α] {o : Option α} {t : String} {b : Bool} (h : kitB (Ty.ty α) t = some b) (h0 : kitB "NoneType" t = some false) : RC κ (rIsi κ.K) [.im o, .im (PyTy.mk t)] (o.isSome && b) := fun H Hi vs s r Q q => by
  obtain ⟨v, u, rfl, r1, r2⟩ := args2 r
  obtain rfl : u = .ty t := r2
  cases o with
  | none =>
    obtain rfl : v = .non := r1
    exact ⟨.non, .ty t, _, _, false, rfl, .ty t, .base .non, kit_ty h0, q _ H Hi (.refl s) rfl⟩
  | some a =>
    have r1' : rp κ H v a := mono (α := α) s r1
    exact ⟨v, .ty t, _, _, b, rfl, .ty t, Ty.is r1', kit_ty h, q _ H Hi (.refl s) rfl⟩
instance : Py (Option Int) := ⟨fun o => match o with | none => .none | some i => .int i, fun _ => True, fun {κ H v a} h => by
    cases a with
    | none => obtain rfl : v = .non := h; exact .non
    | some i => obtain rfl : v = .int i := h; exact .int i, fun a _ => by cases a <;> rfl, 0, fun a => by cases a <;> exact Nat.le_refl _, fun a b => by cases a <;> cases b <;> simp [PyData.eqv]⟩
instance : Py Unit := ⟨fun _ => .none, fun _ => True, fun {κ H v a} h => by obtain rfl : v = .non := h; exact .non, fun _ _ => rfl, 0, fun _ => Nat.le_refl _, fun a b => by simp [PyData.eqv]⟩
/-! ### is True, is False -/
theorem rv_isB {a b : Bool} : RV κ (fun x y H Q => ∃ a b, x = .bl a ∧ y = .bl b ∧ Q (.bl (decide (a = b))) H) a b (decide (a = b)) := fun H Hi x y s rx ry Q q => ⟨a, b, rx, ry, q _ H Hi (.refl s) rfl⟩
theorem rv_isnotB {a b : Bool} : RV κ (fun x y H Q => ∃ a b, x = .bl a ∧ y = .bl b ∧ Q (.bl (!decide (a = b))) H) a b (!decide (a = b)) := fun H Hi x y s rx ry Q q => ⟨a, b, rx, ry, q _ H Hi (.refl s) rfl⟩
/-! ### a slot seen otherwise -/
theorem EO.view {H Hi : Hp} {σ : Sg} {α β : Type} [Rp α] [Rp β] {a : α} {b : β} {i : Nat} (h : EO κ B H Hi σ Γ) (e : Γ[i]? = some (.im a)) (f : ∀ (Hi : Hp) (v : V), rp κ Hi v a → rp κ Hi v b) : EO κ B H Hi σ (Γ.set i (.im b)) := by
  obtain ⟨v, h1, h2⟩ := h.im e
  have z := h.set (a := b) i (f Hi v h2)
  have e2 : σ.set i (some v) = σ := by
    apply List.ext_getElem?
    intro j
    by_cases hj : j = i
    · subst hj
      rw [List.getElem?_set_self (by rw [List.getElem?_eq_some_iff] at h1; exact h1.1), h1]
    · rw [List.getElem?_set_ne (Ne.symm hj)]
  rwa [e2] at z
theorem c_view {α β : Type} [Rp α] [Rp β] {a : α} (i : Nat) (b : β) (e : Γ[i]? = some (.im a)) (f : ∀ (Hi : Hp) (v : V), rp κ Hi v a → rp κ Hi v b) (k : Cn κ B (Γ.set i (.im b)) p) : Cn κ B Γ p := fun H Hi σ g => k H Hi σ (g.view e f)
theorem ev_as {α β : Type} [Rp α] [Rp β] {a : α} {b : β} (h : Ev κ te Γ a) (f : ∀ (Hi : Hp) (v : V), rp κ Hi v a → rp κ Hi v b) : Ev κ te Γ b := fun B H Hi σ g Q q => h B H Hi σ g Q fun v H' Hi' k r => q v H' Hi' k (f Hi' v r)
/-! ### places in texts -/
def rSIndex : V → List V → Hp → VK → Prop := fun x xs H Q => ∃ a b i rest, x = .str a ∧ xs = [.str b] ∧ Builtin.Str.occurrences a b 0 a.length 1 = i :: rest ∧ Q (.int (i : Nat)) H
theorem mt_indexG {X : Cx} : MtR X "str.index" rSIndex := mt_sindex
theorem occ_abc {c : Nat} (h : 97 ≤ c ∧ c < 100) : Builtin.Str.occurrences (mkS [97, 98, 99]) (mkS [c]) 0 3 1 = [c - 97] := by
  have : c = 97 ∨ c = 98 ∨ c = 99 := by omega
  rcases this with rfl | rfl | rfl <;> decide +kernel
theorem ev_indexS {z : Tx} (hz : Ev κ te Γ ([97, 98, 99] : Tx)) (hc : Ev κ ta Γ z) (h : ∃ c, z = [c] ∧ 97 ≤ c ∧ c < 100) : Ev κ (tBM κ.K "str" rSIndex te (tCons ta tNil)) Γ (((getI z 0 : Nat) : Int) - 97) := fun B H Hi σ g Q q => hz B H Hi σ g _ fun x H1 Hi1 g1 r1 => by
  obtain ⟨c, rfl, h⟩ := h
  obtain rfl : x = .str (mkS [97, 98, 99]) := r1
  refine ⟨rfl, hc B H1 Hi1 σ (g.grow g1) _ fun y H2 Hi2 g2 r2 => ?_⟩
  obtain rfl : y = .str (mkS [c]) := r2
  refine ⟨_, _, c - 97, [], rfl, rfl, occ_abc h, q _ H2 Hi2 (g1.trans g2) ?_⟩
  show V.int _ = V.int _
  congr 1
  show ((c - 97 : Nat) : Int) = (c : Int) - 97
  omega
/-! ### lists put together -/
def rCatL (K : PySem.W.Frag) : R2 := fun x y H Q => ∃ l b xs zs, x = .ref l ∧ y = .ref b ∧ SqL K H l xs ∧ SqL K H b zs ∧ xs.length + zs.length ≤ sizeLine ∧ ∀ p, H p = none → Q (.ref p) (upd H p (.lst (xs ++ zs)))
theorem op_catG {X : Cx} : OpR X (binaryOp .Add) (rCatL X.K) := by
  intro pins s σ H x y v u Q I rx ry h
  obtain ⟨l, b, xs, zs, rfl, rfl, hH, hB, hz, q⟩ := h
  cases rx
  cases ry
  obtain ⟨its, r, pl, hl⟩ := I.list hH
  obtain ⟨its2, r2, pl2, hl2⟩ := I.list hB
  have n1 := r.length
  have n2 := r2.length
  have hsz : its.toArray.size + its2.toArray.size ≤ sizeLine := by rw [List.size_toArray, List.size_toArray]; omega
  obtain ⟨⟨cl1, d1, k1, sl1⟩, m1, e1, a1, b1, g1⟩ := pl
  obtain ⟨⟨cl2, d2, k2, sl2⟩, m2, e2, a2, b2, g2⟩ := pl2
  simp only at a1 b1 g1 a2 b2 g2
  subst a1 b1 g1 a2 b2 g2
  have W := list_addW l b its.toArray its2.toArray m1 m2 none none sl1 sl2 hsz
  refine concat_meets ⟨_, e1, rfl⟩ ⟨_, e2, rfl⟩ noFill_list_add seq_list_add PySem.F.slot_list_add PySem.F.entry_list_add (PySem.F.args_list_add_2 _ _) W ⟨e1, e2, ?_⟩
  have ea : its.toArray ++ its2.toArray = (its ++ its2).toArray := by simp
  rw [ea]
  exact ⟨.ref _, _, I.lnew (t' := s.toks) (r.append r2) (by rw [List.length_append]; omega), rfl, q _ I.fresh⟩
theorem rm_catL {α : Type} [Rp α] {xs ys : List α} (h : xs.length + ys.length ≤ 16777216) : RM κ (rCatL κ.K) xs ys (xs ++ ys) := fun H Hi x y s ⟨a, vs, e1, h1, p1⟩ ⟨b, ws, e2, h2, p2⟩ Q q => by
  refine ⟨a, b, vs, ws, e1, e2, s.seq h1, s.seq h2, by rw [p1.length, p2.length, sizeLine_eq]; exact h, fun p hp => ?_⟩
  have ni : Hi p = none := by
    cases z : Hi p with
    | none => rfl
    | some o => rw [s p o z] at hp; cases hp
  exact q p _ _ Hi (.own s hp) upd_same hp ni (papp p1 p2)
theorem em_catL {α : Type} [Rp α] {xs ys : List α} (h1 : Ev κ ta Γ xs) (h2 : Ev κ tb Γ ys) (h : xs.length + ys.length ≤ 16777216) : EvM κ (tOp (rCatL κ.K) ta tb) Γ (xs ++ ys) := ev_opM h1 h2 (rm_catL h)
theorem em_is {α : Type} [Rp α] {a b : List α} (h : EvM κ te Γ a) (e : a = b) : EvM κ te Γ b := e ▸ h
/-- list(x) -/
theorem rc_listL {α : Type} [Rp α] {xs : List α} : RCM κ (fun vs H Q => ∃ p ys, vs = [.ref p] ∧ (SqL κ.K H p ys ∨ SqT κ.K H p ys) ∧ ∀ l, H l = none → Q (.ref l) (upd H l (.lst ys))) [.im xs] xs := fun H Hi vs s r Q q => by
  obtain ⟨v, rfl, r1⟩ := args1 r
  obtain ⟨a, ws, rfl, hs, hp⟩ := r1
  refine ⟨a, ws, rfl, .inl (s.seq hs), fun l hl => ?_⟩
  have ni : Hi l = none := by
    cases z : Hi l with
    | none => rfl
    | some o => rw [s l o z] at hl; cases hl
  exact q l _ _ Hi (.own s hl) upd_same hl ni hp
instance : Inhabited PyData := ⟨.none⟩
/-- xs[i] = e, xs an own list -/
theorem c_setitem {α : Type} [Rp α] {a : α} {xs : List α} {k : Nat} {j : Int} {D : Ends} (e : Γ[k]? = some (.ml xs)) (h : Ev κ te Γ a) (hi : Ev κ ta Γ j) (hj : 0 ≤ j ∧ j < xs.length) (n : Cn κ B (Γ.set k (.ml (xs.set j.toNat a))) D.nx) : Cn κ B Γ (tAsg te (gSub (tVar k) ta rSetL) D) := fun H Hi σ g => h B H Hi σ g _ fun x H1 Hi1 g1 r1 => by
  have g' := g.grow g1
  obtain ⟨v, q, l, vs, ev, h1, h2, h3, h4⟩ := g'.sl k _ e
  subst ev
  refine ⟨_, q, hi B H1 Hi1 σ g' _ fun y H2 Hi2 g2 r2 => ?_⟩
  have g'' := g'.grow g2
  have hl2 : H2 l = some (.lst vs) := g2.ex _ _ h1
  have hi2 : Hi2 l = none := g2.new l (by rw [h1]; exact fun z => nomatch z) h2
  have ix : ixN vs.length j = some j.toNat := by
    rw [h4.length]
    unfold ixN
    rw [if_pos hj.1, if_pos hj.2]
  exact ⟨l, vs, j, j.toNat, rfl, r2, hl2, ix, n _ Hi2 σ (g''.write e rfl q (by rw [hl2]; exact fun z => nomatch z) hi2 h3 ⟨l, vs.set j.toNat x, rfl, upd_same, hi2, h3, pset (mono g2.exi r1) _ (pmap h4 fun _ _ => mono g2.exi)⟩)⟩
theorem c_ssetitem {α : Type} [Rp α] {a : α} {xs : List α} {k : Nat} {j : Int} {D : Ends} {us : TS} (e : Γ[k]? = some (.ml xs)) (h : Ev κ te Γ a) (hi : Ev κ ta Γ j) (hj : 0 ≤ j ∧ j < xs.length) (n : Cn κ B (Γ.set k (.ml (xs.set j.toNat a))) (us D)) : Cn κ B Γ (tSeq (tAsg te (gSub (tVar k) ta rSetL)) us D) := c_seq (c_setitem e h hi hj n)
theorem two_of {α : Type} [Inhabited α] {xs : List α} (h : xs.length = 2) : xs = [getI xs 0, getI xs 1] := by
  match xs, h with
  | [a, b], _ => rfl
/-- a, b = a list of two -/
theorem ta_lst2 {α : Type} [Rp α] [Inhabited α] {xs : List α} {i j : Nat} (h : xs.length = 2) : TgA κ (gLst κ.K 2 (gCons (gName i) (gCons (gName j) gNil))) [i, j] xs Γ ((Γ.set i (.im (getI xs 0))).set j (.im (getI xs 1))) := fun B H Hi σ v g r p q => by
  rw [two_of h] at r
  obtain ⟨a, vs, e, hs, hp⟩ := r
  cases hp with
  | cons r1 hp =>
    cases hp with
    | cons r2 hp =>
      cases hp
      exact ⟨a, _, e, g.sub.seq hs, rfl, _, _, rfl, _, _, rfl, rfl, q _ ((g.set i r1).set j r2) fun vs hv => by rw [wipe_set _ _ (hv j (by simp)), wipe_set _ _ (hv i (by simp))]⟩
/-! ### in a list -/
class Fl (α : Type) [Rp α] : Prop where
  fl : ∀ {κ : Kx} {H : Hp} {v : V} {a : α}, rp κ H v a → flatV v = true
  eq : ∀ {κ : Kx} {H : Hp} {v w : V} {a b : α}, rp κ H v a → rp κ H w b → (eqV v w = true ↔ a = b)
instance : Fl Int := ⟨fun {κ H v a} h => by obtain rfl : v = .int a := h; rfl, fun {κ H v w a b} h h2 => by
  obtain rfl : v = .int a := h
  obtain rfl : w = .int b := h2
  exact beq_iff_eq⟩
instance : Fl (List Nat) := ⟨fun {κ H v a} h => by obtain rfl : v = .str (mkS a) := h; rfl, fun {κ H v w a b} h h2 => by
  obtain rfl : v = .str (mkS a) := h
  obtain rfl : w = .str (mkS b) := h2
  exact mkS_beq a b⟩
theorem inV_dec {α : Type} [Rp α] [Fl α] [DecidableEq α] {H : Hp} {v : V} {a : α} (r : rp κ H v a) : ∀ {vs : List V} {xs : List α}, Paired (rp κ H) vs xs → vs.all flatV = true ∧ inV v vs = decide (a ∈ xs)
  | _, _, .nil => ⟨rfl, by simp [inV]⟩
  | w :: vs, x :: xs, .cons q t => by
    obtain ⟨h1, h2⟩ := inV_dec r t
    have e := Fl.eq q r
    refine ⟨by rw [List.all_cons, Fl.fl q, h1]; rfl, ?_⟩
    unfold inV at h2 ⊢
    rw [List.any_cons, h2]
    by_cases z : x = a
    · rw [e.mpr z]
      simp [z]
    · have : eqV w v = false := by
        cases hh : eqV w v with
        | false => rfl
        | true => exact absurd (e.mp hh) z
      rw [this]
      have z' : ¬ a = x := fun e => z e.symm
      simp [z']
theorem rv_inL {α : Type} [Rp α] [Fl α] [DecidableEq α] {a : α} {xs : List α} : RV κ (rIn κ.K false) a xs (decide (a ∈ xs)) := fun H Hi x y s rx ⟨b, vs, e, hs, hp⟩ Q q => by
  obtain ⟨h1, h2⟩ := inV_dec rx hp
  refine ⟨b, vs, e, .inl (s.seq hs), Fl.fl rx, h1, ?_⟩
  have : (if false = true then !inV x vs else inV x vs) = decide (a ∈ xs) := by rw [if_neg Bool.false_ne_true, h2]
  rw [this]
  exact q _ H Hi (.refl s) rfl
theorem rv_notInL {α : Type} [Rp α] [Fl α] [DecidableEq α] {a : α} {xs : List α} : RV κ (rIn κ.K true) a xs (!decide (a ∈ xs)) := fun H Hi x y s rx ⟨b, vs, e, hs, hp⟩ Q q => by
  obtain ⟨h1, h2⟩ := inV_dec rx hp
  refine ⟨b, vs, e, .inl (s.seq hs), Fl.fl rx, h1, ?_⟩
  have : (if true = true then !inV x vs else inV x vs) = !decide (a ∈ xs) := by rw [if_pos rfl, h2]
  rw [this]
  exact q _ H Hi (.refl s) rfl
/-! ### things of any kind -/
instance : Rp PyData := ⟨fun κ H v d => Dp κ.K H v d, fun e h => dp_mono e _ _ h⟩
theorem ev_dat {α : Type} [Rp α] [Py α] {a : α} (h : Ev κ te Γ a) : Ev κ te Γ (Py.py a) := ev_as h fun _ _ r => Py.dp r
theorem ev_datN (h : Ev κ te Γ ()) : Ev κ te Γ PyData.none := ev_dat h
theorem ev_datI {i : Int} (h : Ev κ te Γ i) : Ev κ te Γ (PyData.int i) := ev_dat h
theorem ev_datB {i : Bool} (h : Ev κ te Γ i) : Ev κ te Γ (PyData.bool i) := ev_dat h
theorem ev_datS {i : Tx} (h : Ev κ te Γ i) : Ev κ te Γ (PyData.str (mkS i)) := ev_dat h
theorem dp_all {K : PySem.W.Frag} {H : Hp} : ∀ {vs : List V} {ds : List PyData}, Paired (fun v d => Dp K H v d) vs ds → DpAll K H vs ds
  | _, _, .nil => .nil
  | _, _, .cons r t => .cons r (dp_all t)
theorem dp_pair {K : PySem.W.Frag} {H : Hp} : ∀ {vs : List V} {ds : List PyData}, DpAll K H vs ds → Paired (fun v d => Dp K H v d) vs ds
  | _, _, .nil => .nil
  | _, _, .cons r t => .cons r (dp_pair t)
/-- a tuple of things -/
theorem ev_tupD {tr : TA} {ds : List PyData} (h : EvAs κ tr Γ ds) (hl : ds.length ≤ 1000) : Ev κ (tTup tr) Γ (PyData.tuple ds) := fun B H Hi σ g Q q =>
  h B H Hi σ g _ fun vs H1 Hi1 g1 r1 => ⟨by rw [r1.length]; exact Nat.le_trans hl (by decide), fun p hp => by
    have g2 : Gr H1 Hi1 (upd H1 p (.tup vs)) (upd Hi1 p (.tup vs)) := .put g1.sub hp
    exact q _ _ (upd Hi1 p (.tup vs)) (g1.trans g2) (.tup (.inl (.inl upd_same)) (dp_all (pmap r1 fun _ _ => mono g2.exi)))⟩
theorem ev_lstD (h : Ev κ te Γ (ds : List PyData)) : Ev κ te Γ (PyData.list ds) := ev_as h fun Hi v ⟨a, vs, e, hs, hp⟩ => by
  subst e
  exact .lst hs (dp_all hp)
def tyD : PyData → String
  | .none => "NoneType"
  | .bool _ => "bool"
  | .int _ => "int"
  | .str _ => "str"
  | .list _ => "list"
  | .tuple _ => "tuple"
  | .dict _ => "dict"
theorem dp_ty {H : Hp} {v : V} {d : PyData} (h : Dp κ.K H v d) : TyX κ.K H v (.type (tyD d)) := by
  cases h with
  | non => exact .base .non
  | bl b => exact .base (.bl b)
  | int i => exact .base (.int i)
  | str x => exact .base (.str x)
  | lst hs _ => exact tyx_lst hs
  | tup hs _ => exact tyx_tup hs
def isD : PyData → String → Bool
  | .none, _ => false
  | .bool _, t => t == "bool" || t == "int"
  | .int _, t => t == "int"
  | .str _, t => t == "str"
  | .list _, t => t == "list"
  | .tuple _, t => t == "tuple"
  | .dict _, t => t == "dict"
theorem isD_kit (d : PyData) {t : String} (ht : t = "str" ∨ t = "tuple" ∨ t = "list" ∨ t = "int" ∨ t = "bool") : kitB (tyD d) t = some (isD d t) := by
  rcases ht with rfl | rfl | rfl | rfl | rfl <;> cases d <;> (simp only [tyD, isD]; decide +kernel)
theorem rc_isiD {d : PyData} {t : String} (ht : t = "str" ∨ t = "tuple" ∨ t = "list" ∨ t = "int" ∨ t = "bool") : RC κ (rIsi κ.K) [.im d, .im (PyTy.mk t)] (isD d t) := fun H Hi vs s r Q q => by
  obtain ⟨v, u, rfl, r1, r2⟩ := args2 r
  obtain rfl : u = .ty t := r2
  have r1' : Dp κ.K H v d := dp_mono s _ _ r1
  exact ⟨v, .ty t, _, _, _, rfl, .ty t, dp_ty r1', kit_ty (isD_kit d ht), q _ H Hi (.refl s) rfl⟩
theorem isD_str {d : PyData} (h : isD d "str" = true) : ∃ l : Tx, d = .str (mkS l) := by
  cases d with
  | str s => exact ⟨s.cps.toList, by rw [mkS_of]⟩
  | _ => simp [isD] at h
theorem isD_tup {d : PyData} (h : isD d "tuple" = true) : ∃ l : List PyData, d = .tuple l := by
  cases d with
  | tuple l => exact ⟨l, rfl⟩
  | _ => simp [isD] at h
theorem isD_lst {d : PyData} (h : isD d "list" = true) : ∃ l : List PyData, d = .list l := by
  cases d with
  | list l => exact ⟨l, rfl⟩
  | _ => simp [isD] at h
theorem isD_int {d : PyData} (h : isD d "int" = true) (h2 : isD d "bool" = false) : ∃ i : Int, d = .int i := by
  cases d with
  | int i => exact ⟨i, rfl⟩
  | _ => simp [isD] at h h2
theorem vw_str {l : Tx} (Hi : Hp) (v : V) (h : rp κ Hi v (PyData.str (mkS l))) : rp κ Hi v l := by
  cases (show Dp κ.K Hi v (.str (mkS l)) from h); exact rfl
theorem vw_int {l : Int} (Hi : Hp) (v : V) (h : rp κ Hi v (PyData.int l)) : rp κ Hi v l := by
  cases (show Dp κ.K Hi v (.int l) from h); exact rfl
theorem vw_lst {l : List PyData} (Hi : Hp) (v : V) (h : rp κ Hi v (PyData.list l)) : rp κ Hi v l := by
  cases (show Dp κ.K Hi v (.list l) from h) with
  | lst hs ha => exact ⟨_, _, rfl, hs, dp_pair ha⟩
theorem vw_pair {a b : PyData} (Hi : Hp) (v : V) (h : rp κ Hi v (PyData.tuple [a, b])) : rp κ Hi v (a, b) := by
  cases (show Dp κ.K Hi v (.tuple [a, b]) from h) with
  | tup hs ha =>
    cases ha with
    | cons h1 ha =>
      cases ha with
      | cons h2 ha => cases ha; exact ⟨_, _, _, rfl, hs, h1, h2⟩
theorem rc_lenTD {l : List PyData} : RC κ (fun xs H Q => ∃ x n, xs = [x] ∧ LenV κ.K x H n ∧ Q (.int n) H) [.im (PyData.tuple l)] (l.length : Int) := fun H Hi vs s r Q q => by
  obtain ⟨v, rfl, r1⟩ := args1 r
  cases (show Dp κ.K Hi v (.tuple l) from r1) with
  | tup hs ha => exact ⟨_, l.length, rfl, .inr ⟨_, Same.tup s hs, (dp_pair ha).length.symm⟩, q _ H Hi (.refl s) rfl⟩
theorem rc_lenLD {l : List PyData} : RC κ (fun xs H Q => ∃ x n, xs = [x] ∧ LenV κ.K x H n ∧ Q (.int n) H) [.im (PyData.list l)] (l.length : Int) := fun H Hi vs s r Q q => by
  obtain ⟨v, rfl, r1⟩ := args1 r
  cases (show Dp κ.K Hi v (.list l) from r1) with
  | lst hs ha => exact ⟨_, l.length, rfl, .inl ⟨_, s.seq hs, (dp_pair ha).length.symm⟩, q _ H Hi (.refl s) rfl⟩
/-- what len tells of a tuple, a list -/
def lenD : PyData → Nat
  | .tuple l => l.length
  | .list l => l.length
  | _ => 0
theorem rc_lenD {d : PyData} (h : isD d "tuple" = true ∨ isD d "list" = true) : RC κ (fun xs H Q => ∃ x n, xs = [x] ∧ LenV κ.K x H n ∧ Q (.int n) H) [.im d] (lenD d : Int) := by
  rcases h with h | h
  · obtain ⟨l, rfl⟩ := isD_tup h; exact rc_lenTD
  · obtain ⟨l, rfl⟩ := isD_lst h; exact rc_lenLD
theorem rv_eqDD {a b : PyData} (h : SeqAt.shaped a = true ∧ SeqAt.shaped b = true) : RV κ (rEqD κ.K) a b (PyData.eqv a b) := fun H Hi x y s rx ry Q q => ⟨a, b, dp_mono s _ _ rx, dp_mono s _ _ ry, h.1, h.2, q _ H Hi (.refl s) rfl⟩
theorem rv_neDD {a b : PyData} (h : SeqAt.shaped a = true ∧ SeqAt.shaped b = true) : RV κ (rNeD κ.K) a b (!PyData.eqv a b) := fun H Hi x y s rx ry Q q => ⟨a, b, dp_mono s _ _ rx, dp_mono s _ _ ry, h.1, h.2, q _ H Hi (.refl s) rfl⟩
/-- .. or a new dict of nothing -/
inductive Thg where
  | d (x : PyData)
  | e
instance : Inhabited Thg := ⟨.e⟩
instance : Rp Thg := ⟨fun κ H v t => match t with | .d x => Dp κ.K H v x | .e => ∃ a, v = .ref a ∧ H a = some (.dK []), fun {κ H H' v a} e h => by
  cases a with
  | d x => exact dp_mono e _ _ h
  | e => obtain ⟨a, h1, h2⟩ := h; exact ⟨a, h1, e _ _ h2⟩⟩
theorem ev_thg {d : PyData} (h : Ev κ te Γ d) : Ev κ te Γ (Thg.d d) := ev_as h fun _ _ r => r
theorem ev_dict0 : Ev κ tDNewK Γ Thg.e := fun B H Hi σ g Q q => fun p hp => by
  have g2 : Gr H Hi (upd H p (.dK [])) (upd Hi p (.dK [])) := .put g.sub hp
  exact q _ _ _ g2 ⟨p, rfl, upd_same⟩
def isT : Thg → String → Bool
  | .d x, t => isD x t
  | .e, t => t == "dict"
theorem rc_isiT {d : Thg} {t : String} (ht : t = "str" ∨ t = "tuple" ∨ t = "list" ∨ t = "int" ∨ t = "bool") : RC κ (rIsi κ.K) [.im d, .im (PyTy.mk t)] (isT d t) := fun H Hi vs s r Q q => by
  cases d with
  | d x => exact rc_isiD (d := x) ht H Hi vs s (by cases r with | cons h t => exact .cons h t) Q q
  | e =>
    obtain ⟨v, u, rfl, r1, r2⟩ := args2 r
    obtain rfl : u = .ty t := r2
    obtain ⟨a, rfl, ha⟩ := (show ∃ a, v = .ref a ∧ Hi a = some (.dK []) from r1)
    have e : kitB "dict" t = some (isT .e t) := by
      rcases ht with rfl | rfl | rfl | rfl | rfl <;> (simp only [isT]; decide +kernel)
    exact ⟨_, .ty t, _, _, _, rfl, .ty t, .base (.dK (s _ _ ha)), kit_ty e, q _ H Hi (.refl s) rfl⟩
theorem isT_d {d : Thg} {t : String} (ht : t = "str" ∨ t = "tuple" ∨ t = "list" ∨ t = "int" ∨ t = "bool") (h : isT d t = true) : ∃ x, d = .d x ∧ isD x t = true := by
  cases d with
  | d x => exact ⟨x, rfl, h⟩
  | e => rcases ht with rfl | rfl | rfl | rfl | rfl <;> simp [isT] at h
theorem vw_thg {x : PyData} (Hi : Hp) (v : V) (h : rp κ Hi v (Thg.d x)) : rp κ Hi v x := h
def lenT : Thg → Nat
  | .d x => lenD x
  | .e => 0
theorem rc_lenT {d : Thg} (h : isT d "tuple" = true ∨ isT d "list" = true) : RC κ (fun xs H Q => ∃ x n, xs = [x] ∧ LenV κ.K x H n ∧ Q (.int n) H) [.im d] (lenT d : Int) := by
  cases d with
  | d x => exact fun H Hi vs s r Q q => rc_lenD (d := x) h H Hi vs s (by cases r with | cons h t => exact .cons h t) Q q
  | e => simp [isT] at h
end
end G
namespace G
open PySem PySem.Spec PyProof.Rows L2
def rListQ (K : PySem.W.Frag) : List V → Hp → VK → Prop := fun vs H Q => ∃ p ys, vs = [.ref p] ∧ (SqL K H p ys ∨ SqT K H p ys) ∧ ∀ l, H l = none → Q (.ref l) (upd H l (.lst ys))
end G

set_option Elab.async false
set_option linter.all false
set_option maxRecDepth 100000
set_option maxHeartbeats 2000000
/-! M5: the first place where two words are unlike; which telling comes ahead. -/
namespace G
open PySem PySem.Spec PyProof.Rows L2
open Rp
theorem Lets.le {a b : Int} {l : Tx} (h : a ≤ b) (q : Lets a l) : Lets b l := fun c hc => ⟨(q c hc).1, by have := (q c hc).2; omega⟩
theorem Tell.three {many : Int} {u : Tx × Tx} (h : many ≤ 3) (q : Tell many u) : Tell 3 u := by
  obtain ⟨h1, h2, h3, h4, h5⟩ := q
  exact ⟨h1, h2, h3, h4.le h, h5.le h⟩
theorem Tell.ok {many : Int} {u : Tx × Tx} (h : many ≤ 3) (q : Tell many u) : Py.ok u := by
  obtain ⟨h1, h2, h3, h4, h5⟩ := q
  exact ⟨lets_ok h h4, lets_ok h h5⟩
theorem Tell.shortest {many : Int} {u : Tx × Tx} (q : Tell many u) : Tell many (shortest u) := by
  obtain ⟨h1, h2, h3, h4, h5⟩ := q
  have s := short_ok u h1
  have l := s.lets many h4 h5
  have := s.rl
  have := s.fl
  exact ⟨s.r1, by omega, by omega, l.1, l.2⟩
/-- the first place at which both are unlike -/
def unlike (u w : Tx × Tx) : Option Int := ((List.range (agreeLen u w)).find? fun i => decide (infAt u i ≠ infAt w i)).map fun (i : Nat) => (i : Int)
theorem unlike_at {u w : Tx × Tx} {i : Nat} (hi : i < agreeLen u w) (h : ∀ j, j < i → infAt u j = infAt w j) (ne : infAt u i ≠ infAt w i) : unlike u w = some (i : Int) := by
  unfold unlike
  have e : (List.range (agreeLen u w)).find? (fun i => decide (infAt u i ≠ infAt w i)) = some i := by
    rw [List.find?_range_eq_some]
    refine ⟨by simpa using ne, by simpa using hi, fun j hj => by simpa using h j hj⟩
  rw [e]
  rfl
theorem unlike_none {u w : Tx × Tx} (h : ∀ j, j < agreeLen u w → infAt u j = infAt w j) : unlike u w = none := by
  unfold unlike
  have e : (List.range (agreeLen u w)).find? (fun i => decide (infAt u i ≠ infAt w i)) = none := by
    rw [List.find?_range_eq_none]
    intro j hj
    simpa using h j hj
  rw [e]
  rfl
theorem unlike_iff {u w : Tx × Tx} (hu : 1 ≤ u.2.length) (hw : 1 ≤ w.2.length) : unlike u w = none ↔ ∀ i, infAt u i = infAt w i := by
  refine ⟨fun h => alike_long hu hw fun i hi => ?_, fun h => unlike_none fun j _ => h j⟩
  have key : ∀ n, n ≤ i → ∀ j, j < n → infAt u j = infAt w j := by
    intro n
    induction n with
    | zero => intro _ j hj; omega
    | succ n ih =>
      intro hn j hj
      by_cases e : j = n
      · subst e
        refine Decidable.byContradiction fun ne => ?_
        rw [unlike_at (by omega) (ih (by omega)) ne] at h
        cases h
      · exact ih (by omega) j (by omega)
  refine Decidable.byContradiction fun ne => ?_
  rw [unlike_at hi (fun j hj => key i (Nat.le_refl _) j hj) ne] at h
  cases h
theorem short_same {u w : Tx × Tx} (hu : 1 ≤ u.2.length) (hw : 1 ≤ w.2.length) : decide (shortest u = shortest w) = (unlike u w).isNone := by
  by_cases h : unlike u w = none
  · rw [h, decide_eq_true ((shortest_eq_iff hu hw).mpr ((unlike_iff hu hw).mp h))]; rfl
  · rw [decide_eq_false fun e => h ((unlike_iff hu hw).mpr ((shortest_eq_iff hu hw).mp e))]
    cases e : unlike u w with
    | none => exact absurd e h
    | some _ => rfl

/-! ### which comes ahead -/
def ordOf (w : Tx × Tx) : T4 Int Int Tx Tx := ⟨(w.1.length : Int) + w.2.length, w.1.length, w.1, w.2⟩
def ltQ (a b : T4 Int Int Tx Tx) : Bool := if a.a = b.a then if a.b = b.b then if a.c = b.c then if a.d = b.d then false else decide (a.d < b.d) else decide (a.c < b.c) else decide (a.b < b.b) else decide (a.a < b.a)
/-- t < u of such tuples -/
def rLtQ (K : PySem.W.Frag) : R2 := fun x y H Q => ∃ (a b : Addr) (p q : T4 Int Int Tx Tx), x = .ref a ∧ y = .ref b ∧ SqT K H a [.int p.a, .int p.b, .str (mkS p.c), .str (mkS p.d)] ∧ SqT K H b [.int q.a, .int q.b, .str (mkS q.c), .str (mkS q.d)] ∧ Q (.bl (ltQ p q)) H
theorem mkS_beqd (a b : Tx) : (mkS a == mkS b) = decide (a = b) := by
  by_cases e : a = b
  · rw [decide_eq_true e]; exact (mkS_beq a b).mpr e
  · rw [decide_eq_false e, ← Bool.not_eq_true]; exact fun z => e ((mkS_beq a b).mp z)
theorem int_beqd (a b : Int) : (a == b) = decide (a = b) := by
  by_cases e : a = b
  · rw [decide_eq_true e]; exact beq_iff_eq.mpr e
  · rw [decide_eq_false e]; exact beq_eq_false_iff_ne.mpr e
theorem op_ltQ {X : Cx} (hu : X.A.units < cLine) : OpR X (compareOp .Lt) (rLtQ X.K) := by
  intro pins s σ H x y v u Q I rx ry h
  obtain ⟨a, b, p, r, rfl, rfl, ha, hb, q⟩ := h
  cases rx
  cases ry
  obtain ⟨its, r1, p1, _⟩ := I.tuple ha
  obtain ⟨its2, r2, p2, _⟩ := I.tuple hb
  obtain ⟨u0, us, rfl, v0, r1⟩ : ∃ u0 us, its = u0 :: us ∧ RelV (.int p.a) u0 ∧ Vals [.int p.b, .str (mkS p.c), .str (mkS p.d)] us := by cases r1 with | cons h t => exact ⟨_, _, rfl, h, t⟩
  obtain ⟨u1, us, rfl, v1, r1⟩ : ∃ u0 us', us = u0 :: us' ∧ RelV (.int p.b) u0 ∧ Vals [.str (mkS p.c), .str (mkS p.d)] us' := by cases r1 with | cons h t => exact ⟨_, _, rfl, h, t⟩
  obtain ⟨u2, us, rfl, v2, r1⟩ : ∃ u0 us', us = u0 :: us' ∧ RelV (.str (mkS p.c)) u0 ∧ Vals [.str (mkS p.d)] us' := by cases r1 with | cons h t => exact ⟨_, _, rfl, h, t⟩
  obtain ⟨u3, us, rfl, v3, r1⟩ : ∃ u0 us', us = u0 :: us' ∧ RelV (.str (mkS p.d)) u0 ∧ Vals [] us' := by cases r1 with | cons h t => exact ⟨_, _, rfl, h, t⟩
  cases r1
  obtain ⟨w0, ws, rfl, z0, r2⟩ : ∃ u0 us, its2 = u0 :: us ∧ RelV (.int r.a) u0 ∧ Vals [.int r.b, .str (mkS r.c), .str (mkS r.d)] us := by cases r2 with | cons h t => exact ⟨_, _, rfl, h, t⟩
  obtain ⟨w1, ws, rfl, z1, r2⟩ : ∃ u0 us', ws = u0 :: us' ∧ RelV (.int r.b) u0 ∧ Vals [.str (mkS r.c), .str (mkS r.d)] us' := by cases r2 with | cons h t => exact ⟨_, _, rfl, h, t⟩
  obtain ⟨w2, ws, rfl, z2, r2⟩ : ∃ u0 us', ws = u0 :: us' ∧ RelV (.str (mkS r.c)) u0 ∧ Vals [.str (mkS r.d)] us' := by cases r2 with | cons h t => exact ⟨_, _, rfl, h, t⟩
  obtain ⟨w3, ws, rfl, z3, r2⟩ : ∃ u0 us', ws = u0 :: us' ∧ RelV (.str (mkS r.d)) u0 ∧ Vals [] us' := by cases r2 with | cons h t => exact ⟨_, _, rfl, h, t⟩
  cases r2
  obtain ⟨t0, rfl⟩ := v0
  obtain ⟨t1, rfl⟩ := v1
  obtain ⟨t2, rfl⟩ := v2
  obtain ⟨t3, rfl⟩ := v3
  obtain ⟨k0, rfl⟩ := z0
  obtain ⟨k1, rfl⟩ := z1
  obtain ⟨k2, rfl⟩ := z2
  obtain ⟨k3, rfl⟩ := z3
  let e : Nat → Bool := fun j => match j with | 0 => p.a == r.a | 1 => p.b == r.b | 2 => mkS p.c == mkS r.c | _ => mkS p.d == mkS r.d
  let m : Nat → Bool := fun j => match j with | 0 => decide (p.a < r.a) | 1 => decide (p.b < r.b) | 2 => decide ((mkS p.c).cps.toList < (mkS r.c).cps.toList) | _ => decide ((mkS p.d).cps.toList < (mkS r.d).cps.toList)
  have R := Ob.RcOp.tuples_lt (A := X.A) (s := s) (e := e) (r := m) p1 p2 hu (fun j h1 h2 => by
    match j, h1 with
    | 0, _ => exact SeqAt.EqAt.int_int _ _ _ _
    | 1, _ => exact SeqAt.EqAt.int_int _ _ _ _
    | 2, _ => exact SeqAt.EqAt.str_str _ _ _ _
    | 3, _ => exact SeqAt.EqAt.str_str _ _ _ _
    | j + 4, h1 => simp at h1; omega) (fun j h1 h2 _ => by
    match j, h1 with
    | 0, _ => exact Ob.RcOp.lt_int _ _ _ _
    | 1, _ => exact Ob.RcOp.lt_int _ _ _ _
    | 2, _ => exact fun _ _ _ _ h => lt_str h
    | 3, _ => exact fun _ _ _ _ h => lt_str h
    | j + 4, h1 => simp at h1; omega)
  have z : wpAny (model X.prog X.w) X.A (compareOp .Lt (.ref a) (.ref b)) (EP X pins σ Q) X.xe s := R X.prog X.w X.xe (EP X pins σ Q) ⟨.bl _, H, I, rfl, by
    have : (Ob.lexAt e m (decide (#[Value.int p.a t0, .int p.b t1, .str (mkS p.c) t2, .str (mkS p.d) t3].size < #[Value.int r.a k0, .int r.b k1, .str (mkS r.c) k2, .str (mkS r.d) k3].size)) 0 (min #[Value.int p.a t0, .int p.b t1, .str (mkS p.c) t2, .str (mkS p.d) t3].size #[Value.int r.a k0, .int r.b k1, .str (mkS r.c) k2, .str (mkS r.d) k3].size)) = ltQ p r := by
      show Ob.lexAt e m false 0 4 = ltQ p r
      unfold ltQ
      simp only [Ob.lexAt, e, m, int_beqd, mkS_beqd, mkS_cps, decide_eq_true_eq]
    rw [← this] at q
    exact q⟩
  exact z
theorem rv_ltQ {κ : Kx} {p q : T4 Int Int Tx Tx} : RV κ (rLtQ κ.K) p q (ltQ p q) := fun H Hi x y s ⟨a, x0, x1, x2, x3, e1, hs, h0, h1, h2, h3⟩ ⟨b, y0, y1, y2, y3, e2, ht, k0, k1, k2, k3⟩ Q k => by
  obtain rfl : x0 = .int p.a := h0
  obtain rfl : x1 = .int p.b := h1
  obtain rfl : x2 = .str (mkS p.c) := h2
  obtain rfl : x3 = .str (mkS p.d) := h3
  obtain rfl : y0 = .int q.a := k0
  obtain rfl : y1 = .int q.b := k1
  obtain rfl : y2 = .str (mkS q.c) := k2
  obtain rfl : y3 = .str (mkS q.d) := k3
  exact ⟨a, b, p, q, e1, e2, Same.tup s hs, Same.tup s ht, k _ H Hi (.refl s) rfl⟩
/-- letters told as numbers -/
def numsOf (l : Tx) : List Int := l.map fun (c : Nat) => (c : Int) - 97
theorem numsOf_len (l : Tx) : (numsOf l).length = l.length := List.length_map _
theorem numsOf_get {l : Tx} {i : Nat} (h : i < l.length) : (numsOf l).getD i 0 = (l.getD i 0 : Int) - 97 := by
  unfold numsOf
  rw [List.getD_eq_getElem?_getD, List.getElem?_map, List.getD_eq_getElem?_getD, List.getElem?_eq_getElem h]
  rfl
theorem lex_at : ∀ {a b : Tx} {k : Nat}, a.length = b.length → k < a.length → (∀ j, j < k → a.getD j 0 = b.getD j 0) → a.getD k 0 ≠ b.getD k 0 → a ≠ b ∧ decide (a < b) = decide (a.getD k 0 < b.getD k 0)
  | [], _, _, _, h, _, _ => by simp at h
  | _ :: _, [], _, h, _, _, _ => by simp at h
  | x :: a, y :: b, 0, h, _, _, ne => by
    have ne' : x ≠ y := ne
    refine ⟨fun e => ne' (List.cons.inj e).1, ?_⟩
    show decide (x :: a < y :: b) = decide (x < y)
    rw [decide_eq_decide, List.cons_lt_cons_iff]
    exact ⟨fun h => h.elim id fun h => absurd h.1 ne', .inl⟩
  | x :: a, y :: b, k + 1, h, hk, hj, ne => by
    have e : x = y := hj 0 (Nat.succ_pos _)
    subst e
    obtain ⟨h1, h2⟩ := lex_at (a := a) (b := b) (k := k) (by simpa using h) (by simpa using hk) (fun j q => hj (j + 1) (Nat.succ_lt_succ q)) ne
    refine ⟨fun e => h1 (List.cons.inj e).2, ?_⟩
    show decide (x :: a < x :: b) = decide (a.getD k 0 < b.getD k 0)
    rw [← h2, decide_eq_decide, List.cons_lt_cons_iff]
    exact ⟨fun h => h.elim (fun h => absurd h (Nat.lt_irrefl _)) fun h => h.2, fun h => .inr ⟨rfl, h⟩⟩
/-- the letters at k behind both lengths are the first that differ -/
theorem ltQ_at {u w : Tx × Tx} {k : Nat} (h1 : u.1.length = w.1.length) (h2 : u.2.length = w.2.length) (hk : k < (u.1 ++ u.2).length) (hj : ∀ j, j < k → (u.1 ++ u.2).getD j 0 = (w.1 ++ w.2).getD j 0) (ne : (u.1 ++ u.2).getD k 0 ≠ (w.1 ++ w.2).getD k 0) :
    ltQ (ordOf u) (ordOf w) = decide ((u.1 ++ u.2).getD k 0 < (w.1 ++ w.2).getD k 0) := by
  unfold ltQ ordOf
  dsimp only
  rw [if_pos (by omega), if_pos (by omega)]
  have left : ∀ {a b : Tx} {j : Nat}, j < a.length → (a ++ b).getD j 0 = a.getD j 0 := fun {a b j} q => by
    rw [List.getD_eq_getElem?_getD, List.getElem?_append_left q, List.getD_eq_getElem?_getD]
  have right : ∀ {a b : Tx} {j : Nat}, (a ++ b).getD (a.length + j) 0 = b.getD j 0 := fun {a b j} => by
    rw [List.getD_eq_getElem?_getD, List.getElem?_append_right (by omega), List.getD_eq_getElem?_getD, Nat.add_sub_cancel_left]
  by_cases hlt : k < u.1.length
  · obtain ⟨a1, a2⟩ := lex_at (a := u.1) (b := w.1) (k := k) h1 hlt (fun j q => by rw [← left (b := u.2) (by omega), ← left (a := w.1) (b := w.2) (by omega)]; exact hj j q) (by rw [← left (b := u.2) hlt, ← left (a := w.1) (b := w.2) (by omega)]; exact ne)
    rw [if_neg a1, a2, left hlt, left (by omega)]
  · obtain ⟨n, rfl⟩ : ∃ n, k = u.1.length + n := ⟨k - u.1.length, by omega⟩
    have e1 : u.1 = w.1 := ext_getD h1 fun j q => by rw [← left (b := u.2) q, ← left (a := w.1) (b := w.2) (by omega)]; exact hj j (by omega)
    have rw' : ∀ j, (w.1 ++ w.2).getD (u.1.length + j) 0 = w.2.getD j 0 := fun j => by rw [h1]; exact right
    obtain ⟨a1, a2⟩ := lex_at (a := u.2) (b := w.2) (k := n) h2 (by rw [List.length_append] at hk; omega) (fun j q => by rw [← right (a := u.1), ← rw']; exact hj _ (by omega)) (by rw [← right (a := u.1), ← rw']; exact ne)
    rw [if_pos e1, if_neg a1, a2, right, rw']
theorem ltQ_self (u : Tx × Tx) : ltQ (ordOf u) (ordOf u) = false := by
  unfold ltQ
  simp
theorem same_of {u w : Tx × Tx} (h1 : u.1.length = w.1.length) (h2 : u.2.length = w.2.length) (hj : ∀ j, j < (u.1 ++ u.2).length → (u.1 ++ u.2).getD j 0 = (w.1 ++ w.2).getD j 0) : u = w := by
  have e : u.1 ++ u.2 = w.1 ++ w.2 := ext_getD (by simp only [List.length_append]; omega) hj
  have := List.append_inj e h1
  exact Prod.ext this.1 this.2
end G

set_option Elab.async false
set_option linter.all false
set_option maxRecDepth 100000
set_option maxHeartbeats 2000000
/-! M6: the same word told otherwise; one letter put otherwise. -/
namespace G
open PySem PySem.Spec PyProof.Rows L2
theorem infAt_unroll (f r : Tx) (k : Int) (hr : 1 ≤ r.length) (i : Nat) : infAt (f ++ repT r k, r) i = infAt (f, r) i := by
  unfold infAt
  dsimp only
  rw [List.length_append, repT_len]
  by_cases h1 : i < f.length
  · rw [if_pos (by omega), if_pos h1, List.getD_eq_getElem?_getD, List.getElem?_append_left h1, List.getD_eq_getElem?_getD]
  · by_cases h2 : i < f.length + k.toNat * r.length
    · rw [if_pos h2, if_neg h1, List.getD_eq_getElem?_getD, List.getElem?_append_right (by omega), repT_get _ _ (by omega)]
      rfl
    · rw [if_neg h2, if_neg h1]
      congr 1
      obtain ⟨m, rfl⟩ : ∃ m, i = f.length + k.toNat * r.length + m := ⟨i - (f.length + k.toNat * r.length), by omega⟩
      rw [show f.length + k.toNat * r.length + m - (f.length + k.toNat * r.length) = m by omega, show f.length + k.toNat * r.length + m - f.length = m + k.toNat * r.length by omega, Nat.add_mul_mod_self_right]
theorem infAt_roll (f r : Tx) (t : Nat) (hr : 1 ≤ r.length) (ht : t ≤ r.length) (i : Nat) : infAt (f ++ r.take t, rotL r t) i = infAt (f, r) i := by
  unfold infAt
  dsimp only
  rw [List.length_append, List.length_take, Nat.min_eq_left ht, rotL_len]
  by_cases h1 : i < f.length
  · rw [if_pos (by omega), if_pos h1, List.getD_eq_getElem?_getD, List.getElem?_append_left h1, List.getD_eq_getElem?_getD]
  · by_cases h2 : i < f.length + t
    · rw [if_pos h2, if_neg h1, List.getD_eq_getElem?_getD, List.getElem?_append_right (by omega), List.getElem?_take_of_lt (by omega), List.getD_eq_getElem?_getD, Nat.mod_eq_of_lt (by omega)]
    · rw [if_neg h2, if_neg h1, rotL_get ht (Nat.mod_lt _ hr), Nat.add_mod_mod]
      congr 2
      omega
def turnedOf (w : Tx × Tx) (cell : Int) : Tx × Tx :=
  let t := (cell % w.2.length).toNat
  (w.1 ++ repT w.2 (cell / 100 % 3) ++ w.2.take t, repT (w.2.drop t ++ w.2.take t) (1 + cell / 300 % 3))
theorem mod_at {cell : Int} {n : Nat} (h : 1 ≤ n) : 0 ≤ cell % (n : Int) ∧ cell % (n : Int) < n ∧ (cell % (n : Int)).toNat < n := by
  have h1 := Int.emod_nonneg cell (b := (n : Int)) (by omega)
  have h2 := Int.emod_lt_of_pos cell (b := (n : Int)) (by omega)
  omega
theorem turned_ok {many : Int} {w : Tx × Tx} {cell : Int} (h : WordOk many w) : Tell many (turnedOf w cell) ∧ ∀ i, infAt (turnedOf w cell) i = infAt w i := by
  obtain ⟨h1, h2, h3, h4, h5⟩ := h
  have hm := mod_at (cell := cell) h1
  have k1 : 0 ≤ cell / 100 % 3 := Int.emod_nonneg _ (by decide)
  have k2 : cell / 100 % 3 < 3 := Int.emod_lt_of_pos _ (by decide)
  have k3 : 0 ≤ cell / 300 % 3 := Int.emod_nonneg _ (by decide)
  have k4 : cell / 300 % 3 < 3 := Int.emod_lt_of_pos _ (by decide)
  unfold turnedOf
  dsimp only
  generalize (cell % (w.2.length : Int)).toNat = t at hm
  generalize cell / 100 % 3 = a at k1 k2
  generalize cell / 300 % 3 = b at k3 k4
  obtain ⟨a, rfl⟩ := Int.eq_ofNat_of_zero_le k1
  obtain ⟨b, rfl⟩ := Int.eq_ofNat_of_zero_le k3
  have hl : (rotL w.2 t).length = w.2.length := rotL_len t
  have la : a * w.2.length ≤ 2 * 240 := Nat.mul_le_mul (by omega) h2
  have lb : (1 + b) * w.2.length ≤ 3 * 240 := Nat.mul_le_mul (by omega) h2
  have lb1 : 1 * 1 ≤ (1 + b) * w.2.length := Nat.mul_le_mul (by omega) h1
  have e : (1 + (b : Int)) = ((1 + b : Nat) : Int) := by omega
  refine ⟨⟨?_, ?_, ?_, ?_, ?_⟩, fun i => ?_⟩
  · show 1 ≤ (repT (rotL w.2 t) _).length
    rw [e, repT_nat_len, hl]; exact lb1
  · show (repT (rotL w.2 t) _).length ≤ 100000
    rw [e, repT_nat_len, hl]; omega
  · show (w.1 ++ repT w.2 _ ++ w.2.take t).length ≤ 100000
    rw [List.length_append, List.length_append, repT_nat_len, List.length_take]
    omega
  · exact (h4.app (h5.rep _)).app (h5.take _)
  · exact Lets.rep _ ((h5.drop _).app (h5.take _))
  · show infAt (_, repT (rotL w.2 t) (1 + (b : Int))) i = _
    rw [e, infAt_rep _ (by omega) (by omega), infAt_roll _ _ _ h1 (by omega), infAt_unroll _ _ _ h1]
def putAt (l : Tx) (t : Nat) (s : Nat) : Tx := l.take t ++ [s] ++ l.drop (t + 1)
theorem putAt_len {l : Tx} {t s : Nat} (h : t < l.length) : (putAt l t s).length = l.length := by
  unfold putAt
  simp only [List.length_append, List.length_take, List.length_drop, List.length_cons, List.length_nil]
  omega
theorem putAt_lets {many : Int} {l : Tx} {t s : Nat} (h : Lets many l) (hs : 97 ≤ s ∧ (s : Int) < 97 + many) : Lets many (putAt l t s) := by
  refine ((h.take _).app ?_).app (h.drop _)
  intro c hc
  simp at hc
  subst hc
  exact hs
def splitAt' (w : Tx × Tx) (t s : Nat) : Tx × Tx := ((putAt (w.1 ++ w.2) t s).take w.1.length, (putAt (w.1 ++ w.2) t s).drop w.1.length)
theorem splitAt_ok {many : Int} {w : Tx × Tx} {t s : Nat} (h : Tell many w) (ht : t < (w.1 ++ w.2).length) (hs : 97 ≤ s ∧ (s : Int) < 97 + many) : Tell many (splitAt' w t s) := by
  obtain ⟨h1, h2, h3, h4, h5⟩ := h
  have hl := putAt_len (s := s) ht
  rw [List.length_append] at hl
  have hq := putAt_lets (t := t) (h4.app h5) hs
  unfold splitAt'
  refine ⟨?_, ?_, ?_, hq.take _, hq.drop _⟩
  · dsimp only; rw [List.length_drop]; omega
  · dsimp only; rw [List.length_drop]; omega
  · dsimp only; rw [List.length_take]; omega
def signOf (c : Nat) (cell many : Int) : Nat := getI [97, 98, 99] (((c : Int) - 97 + 1 + cell / 1000 % 2) % many)
def spoiltOf (w : Tx × Tx) (cell many : Int) : Tx × Tx :=
  let t := (cell % ((w.1 ++ w.2).length : Int)).toNat
  splitAt' w t (signOf ((w.1 ++ w.2).getD t 0) cell many)
theorem spoilt_ok {many : Int} {w : Tx × Tx} {cell : Int} (hm : 0 < many ∧ many ≤ 3) (h : Tell many w) : Tell many (spoiltOf w cell many) := by
  have h1 := h.1
  exact splitAt_ok h (mod_at (by rw [List.length_append]; omega)).2.2 (abc_at hm)
theorem getI_lets {many : Int} {l : Tx} {i : Int} (h : Lets many l) (hi : 0 ≤ i ∧ i < l.length) : 97 ≤ getI l i ∧ ((getI l i : Nat) : Int) < 97 + many := by
  obtain ⟨n, rfl⟩ := Int.eq_ofNat_of_zero_le hi.1
  have hn : n < l.length := by omega
  refine h _ ?_
  unfold getI
  rw [Int.toNat_natCast, List.getD_eq_getElem?_getD, List.getElem?_eq_getElem hn]
  exact List.getElem_mem hn
theorem WordOk.tell {many : Int} {w : Tx × Tx} (h : WordOk many w) : Tell many w := by
  obtain ⟨h1, h2, h3, h4, h5⟩ := h
  exact ⟨h1, by omega, by omega, h4, h5⟩
theorem letter_inf {f r : Tx} {p : Int} (hp : 0 ≤ p) : (p < f.length → infAt (f, r) p.toNat = getI f p) ∧ (¬ p < f.length → 1 ≤ r.length → infAt (f, r) p.toNat = getI r ((p - f.length) % r.length)) := by
  obtain ⟨n, rfl⟩ := Int.eq_ofNat_of_zero_le hp
  rw [Int.toNat_natCast]
  unfold infAt getI
  dsimp only
  refine ⟨fun h => ?_, fun h hr => ?_⟩
  · rw [if_pos (by omega), Int.toNat_natCast]; rfl
  · rw [if_neg (by omega), show (n : Int) - (f.length : Int) = ((n - f.length : Nat) : Int) by omega, ← Int.natCast_emod, Int.toNat_natCast]; rfl
theorem infTake_getI {w : Tx × Tx} {n i : Nat} (h : i < n) : getI (infTake w n) (i : Int) = infAt w i := by
  unfold getI
  rw [Int.toNat_natCast, List.getD_eq_getElem?_getD, infTake_get _ h]
  rfl
end G

set_option Elab.async false
set_option linter.all false
set_option maxRecDepth 100000
set_option maxHeartbeats 2000000
/-! M7: what is a word; the key by which tellings are laid out; other words. -/
namespace G
open PySem PySem.Spec PyProof.Rows L2
open Rp
def lettersOk (l : Tx) (many : Int) : Bool := decide (∀ c ∈ l, c ∈ ([97, 98, 99] : Tx).take many.toNat)
def isWordD : PyData → Int → Bool
  | .str s, m => lettersOk s.cps.toList m
  | _, _ => false
def isWordT : Thg → Int → Bool
  | .d x, m => isWordD x m
  | .e, _ => false
def isEndD : PyData → Int → Bool
  | .tuple [x, y], m => isWordD x m && (isWordD y m && !PyData.eqv y (.str (mkS [])))
  | _, _ => false
def isEndT : Thg → Int → Bool
  | .d x, m => isEndD x m
  | .e, _ => false
theorem isWordT_not {t : Thg} {m : Int} (h : isT t "str" = false) : isWordT t m = false := by
  cases t with
  | e => rfl
  | d x => cases x <;> first | rfl | (simp [isT, isD] at h)
theorem isEndT_not {t : Thg} {m : Int} (h : isT t "tuple" = false ∨ ¬ (lenT t : Int) = 2) : isEndT t m = false := by
  cases t with
  | e => rfl
  | d x =>
    cases x with
    | tuple l =>
      match l with
      | [] => rfl
      | [_] => rfl
      | [_, _] => rcases h with h | h <;> simp [isT, isD, lenT, lenD] at h
      | _ :: _ :: _ :: _ => rfl
    | _ => rfl
theorem isT_pair {t : Thg} (h : isT t "tuple" = true) (h2 : (lenT t : Int) = 2) : ∃ x y, t = .d (.tuple [x, y]) := by
  obtain ⟨d, rfl, hd⟩ := isT_d (.inr (.inl rfl)) h
  obtain ⟨l, rfl⟩ := isD_tup hd
  match l with
  | [] => simp [lenT, lenD] at h2
  | [_] => simp [lenT, lenD] at h2
  | [x, y] => exact ⟨x, y, rfl⟩
  | _ :: _ :: _ :: _ => simp [lenT, lenD] at h2; omega
theorem abc_take {m : Int} {c : Nat} (h : c ∈ ([97, 98, 99] : Tx).take m.toNat) : 97 ≤ c ∧ c < 100 := by
  have := List.mem_of_mem_take h
  simp at this
  omega
theorem lettersOk_iff {l : Tx} {m : Int} : lettersOk l m = true ↔ ∀ c ∈ l, c ∈ ([97, 98, 99] : Tx).take m.toNat := by
  unfold lettersOk
  exact decide_eq_true_iff
theorem lettersOk_no {l : Tx} {m : Int} {c : Nat} (hc : c ∈ l) (h : ¬ c ∈ ([97, 98, 99] : Tx).take m.toNat) : lettersOk l m = false := by
  rw [← Bool.not_eq_true, lettersOk_iff]
  exact fun z => h (z c hc)
theorem lettersOk_up {l : Tx} {m : Int} (h : ∀ j, j < l.length → ∀ c, l[j]? = some c → c ∈ ([97, 98, 99] : Tx).take m.toNat) : lettersOk l m = true := by
  rw [lettersOk_iff]
  intro c hc
  obtain ⟨j, hj⟩ := List.mem_iff_getElem?.mp hc
  exact h j (List.getElem?_eq_some_iff.mp hj).1 c hj
theorem word_shaped {y : PyData} {m : Int} (h : isWordD y m = true) : SeqAt.shaped y = true := by
  cases y with
  | str s =>
    have h' := lettersOk_iff.mp h
    have z := py_shaped (α := List Nat) (a := s.cps.toList) (fun c hc => by have := abc_take (h' c hc); omega) (by decide)
    rw [show (PyData.str s) = Py.py s.cps.toList by show _ = PyData.str (mkS s.cps.toList); rw [mkS_of]]
    exact z
  | _ => simp [isWordD] at h
theorem shaped0 : SeqAt.shaped (.str (mkS [])) = true := by decide +kernel
theorem vw_strT {κ : Kx} {l : Tx} (Hi : Hp) (v : V) (h : rp κ Hi v (Thg.d (PyData.str (mkS l)))) : rp κ Hi v l := vw_str Hi v h
theorem vw_pairT {κ : Kx} {a b : PyData} (Hi : Hp) (v : V) (h : rp κ Hi v (Thg.d (PyData.tuple [a, b]))) : rp κ Hi v (a, b) := vw_pair Hi v h
theorem isWordT_str (l : Tx) (m : Int) : isWordT (.d (.str (mkS l))) m = lettersOk l m := by
  show lettersOk (mkS l).cps.toList m = _
  rw [mkS_cps]
theorem isEndT_two (a b : Tx) (m : Int) : isEndT (.d (.tuple [.str (mkS a), .str (mkS b)])) m = (lettersOk a m && lettersOk b m && !decide (b = [])) := by
  show (isWordT (.d (.str (mkS a))) m && (isWordT (.d (.str (mkS b))) m && !PyData.eqv (Py.py b) (Py.py ([] : Tx)))) = _
  rw [isWordT_str, isWordT_str, py_dec, Bool.and_assoc]
def thingsOf (a b : Tx) : List Thg :=
  [.d .none, .d (.bool true), .d (.int 3), .d (.list [.str (mkS a), .str (mkS b)]), .d (.tuple [.str (mkS a)]), .d (.tuple [.str (mkS a), .str (mkS b), .str (mkS b)]), .d (.tuple [.str (mkS a), .none]), .d (.tuple [.int 1, .str (mkS b)]), .e, .d (.list []), .d (.tuple [])] ++
  [.d (.tuple [.tuple [.str (mkS a), .str (mkS b)], .str (mkS b)]), .d (.tuple [.str (mkS a), .list [.str (mkS b)]]), .d (.list [.str (mkS a)]), .d (.tuple [.none, .str (mkS b)])]
theorem thingsOf_no {a b : Tx} {m : Int} {x : Thg} (h : x ∈ thingsOf a b) : isWordT x m = false ∧ isEndT x m = false := by
  unfold thingsOf at h
  simp only [List.cons_append, List.nil_append, List.mem_cons, List.not_mem_nil, or_false] at h
  rcases h with rfl | rfl | rfl | rfl | rfl | rfl | rfl | rfl | rfl | rfl | rfl | rfl | rfl | rfl | rfl <;> simp [isWordT, isEndT, isWordD, isEndD]
theorem sign8 (i : Int) : (getI ([[97], [98], [99], [100], [65], [32], [49], [40]] : List Tx) (i % 8)).length = 1 := by
  have h1 := Int.emod_nonneg i (b := 8) (by decide)
  have h2 := Int.emod_lt_of_pos i (b := 8) (by decide)
  generalize i % 8 = j at h1 h2
  have : j = 0 ∨ j = 1 ∨ j = 2 ∨ j = 3 ∨ j = 4 ∨ j = 5 ∨ j = 6 ∨ j = 7 := by omega
  rcases this with rfl | rfl | rfl | rfl | rfl | rfl | rfl | rfl <;> rfl
/-! ### laid out -/
def keyL (w : Tx × Tx) : List Int := [(w.1.length : Int) + (w.2.length : Int), (w.1.length : Int)] ++ List.map (fun lx => ((getI lx 0 : Nat) : Int) - 97) (List.map (fun c => ([c] : Tx)) (w.1 ++ w.2))
theorem keyL_len (w : Tx × Tx) : (keyL w).length = w.1.length + w.2.length + 2 := by
  unfold keyL
  simp only [List.length_append, List.length_map, List.length_cons, List.length_nil]
  omega
theorem keyL_0 (w : Tx × Tx) : getI (keyL w) 0 = (w.1.length : Int) + (w.2.length : Int) := rfl
theorem keyL_1 (w : Tx × Tx) : getI (keyL w) 1 = (w.1.length : Int) := rfl
theorem keyL_at (w : Tx × Tx) {k : Nat} (h : k < (w.1 ++ w.2).length) : getI (keyL w) ((k + 2 : Nat) : Int) = (((w.1 ++ w.2).getD k 0 : Nat) : Int) - 97 := by
  unfold getI keyL
  rw [Int.toNat_natCast, List.getD_eq_getElem?_getD, List.getElem?_append_right (by simp)]
  show ((List.map _ (List.map _ (w.1 ++ w.2)))[k + 2 - 2]?).getD default = _
  rw [Nat.add_sub_cancel, List.getElem?_map, List.getElem?_map, List.getElem?_eq_getElem h, List.getD_eq_getElem?_getD, List.getElem?_eq_getElem h]
  rfl
theorem key_lens {u w : Tx × Tx} {i : Nat} (hi : i < (keyL u).length) (hj : ∀ j : Nat, j < i → getI (keyL u) (j : Int) = getI (keyL w) (j : Int)) : i < (keyL w).length := by
  rw [keyL_len] at hi ⊢
  by_cases h : i = 0
  · omega
  · have := hj 0 (by omega)
    rw [show ((0 : Nat) : Int) = 0 from rfl, keyL_0, keyL_0] at this
    omega
theorem ltQ_key {u w : Tx × Tx} {i : Nat} (hi : i < (keyL u).length) (hj : ∀ j : Nat, j < i → getI (keyL u) (j : Int) = getI (keyL w) (j : Int)) (ne : ¬ getI (keyL u) (i : Int) = getI (keyL w) (i : Int)) : ltQ (ordOf u) (ordOf w) = decide (getI (keyL u) (i : Int) < getI (keyL w) (i : Int)) := by
  have hw := key_lens hi hj
  match i with
  | 0 =>
    have ne' : ¬ ((u.1.length : Int) + (u.2.length : Int)) = (w.1.length : Int) + (w.2.length : Int) := ne
    unfold ltQ ordOf
    dsimp only
    rw [if_neg ne']
    rfl
  | 1 =>
    have e0 := hj 0 (by omega)
    rw [show ((0 : Nat) : Int) = 0 from rfl, keyL_0, keyL_0] at e0
    have ne' : ¬ (u.1.length : Int) = (w.1.length : Int) := ne
    unfold ltQ ordOf
    dsimp only
    rw [if_pos e0, if_neg ne']
    rfl
  | k + 2 =>
    have e0 := hj 0 (by omega)
    have e1 := hj 1 (by omega)
    rw [show ((0 : Nat) : Int) = 0 from rfl, keyL_0, keyL_0] at e0
    rw [show ((1 : Nat) : Int) = 1 from rfl, keyL_1, keyL_1] at e1
    rw [keyL_len] at hi hw
    have h1 : k < (u.1 ++ u.2).length := by rw [List.length_append]; omega
    have h2 : k < (w.1 ++ w.2).length := by rw [List.length_append]; omega
    rw [keyL_at u h1, keyL_at w h2] at ne ⊢
    rw [ltQ_at (k := k) (by omega) (by omega) h1 (fun j q => ?_) (by omega), decide_eq_decide]
    · omega
    · have := hj (j + 2) (by omega)
      rw [keyL_at u (by omega), keyL_at w (by omega)] at this
      omega
theorem key_same {u w : Tx × Tx} (hj : ∀ j : Nat, j < (keyL u).length → getI (keyL u) (j : Int) = getI (keyL w) (j : Int)) : ltQ (ordOf u) (ordOf w) = false := by
  have hl := keyL_len u
  have e0 := hj 0 (by omega)
  have e1 := hj 1 (by omega)
  rw [show ((0 : Nat) : Int) = 0 from rfl, keyL_0, keyL_0] at e0
  rw [show ((1 : Nat) : Int) = 1 from rfl, keyL_1, keyL_1] at e1
  have : u = w := same_of (by omega) (by omega) fun j q => by
    rw [List.length_append] at q
    have := hj (j + 2) (by omega)
    rw [keyL_at u (by rw [List.length_append]; omega), keyL_at w (by rw [List.length_append]; omega)] at this
    omega
  rw [this, ltQ_self]
def otherOf (w : Tx × Tx) (cell more many : Int) : Tx × Tx :=
  if cell % 5 = 0 then (w.1 ++ w.2.take 1, w.2) else if cell % 5 = 1 then (w.1, w.2.drop 1 ++ w.2.take 1) else if cell % 5 = 2 then w else
    splitAt' w (cell / 5 % ((w.1 ++ w.2).length : Int)).toNat (getI [97, 98, 99] (more % many))
theorem other_ok {w : Tx × Tx} {cell more many : Int} (hm : 0 < many ∧ many ≤ 3) (h : WordOk many w) : Tell many (otherOf w cell more many) := by
  have ht := h.tell
  obtain ⟨h1, h2, h3, h4, h5⟩ := h
  unfold otherOf
  split
  · exact ⟨h1, by dsimp only; omega, by rw [List.length_append, List.length_take]; omega, h4.app (h5.take _), h5⟩
  · split
    · refine ⟨?_, ?_, by dsimp only; omega, h4, (h5.drop _).app (h5.take _)⟩ <;> (rw [List.length_append, List.length_drop, List.length_take]; omega)
    · split
      · exact ht
      · exact splitAt_ok ht (mod_at (by rw [List.length_append]; omega)).2.2 (abc_at hm)
end G

set_option Elab.async false
set_option linter.all false
set_option maxRecDepth 100000
set_option maxHeartbeats 40000000

namespace G
open PySem PySem.Spec PyProof.Rows L2
open C8 (tCut pss_cut)
open Rp

/-! ### the text -/
def topS (i : Nat) : Stmt := PySem.Challenge.pw_looprank_k01_what_is_a_word.main.body.getD i (.Pass ⟨0, 0, 0, 0⟩)
/-- what the top has written -/
structure Txt (κ : Kx) where
  a__law_cell_at : Addr
  d__law_cell_at : FuncData
  F__law_cell_at : Fun κ.K "_law_cell_at" "_law_cell_at" (topS 5) a__law_cell_at d__law_cell_at
  b__law_cell_at : Binds κ.K d__law_cell_at ["_law_script", "_law_k"] []
  g__law_cell_at : κ.mg "_law_cell_at" = some (.ref a__law_cell_at)
  a__law_things : Addr
  d__law_things : FuncData
  F__law_things : Fun κ.K "_law_things" "_law_things" (topS 10) a__law_things d__law_things
  b__law_things : Binds κ.K d__law_things ["_law_one", "_law_other"] []
  g__law_things : κ.mg "_law_things" = some (.ref a__law_things)
  a__law_good : Addr
  d__law_good : FuncData
  F__law_good : Fun κ.K "_law_good" "_law_good" (topS 8) a__law_good d__law_good
  b__law_good : Binds κ.K d__law_good ["_law_text_here", "_law_many"] []
  g__law_good : κ.mg "_law_good" = some (.ref a__law_good)
  a__law_same : Addr
  d__law_same : FuncData
  F__law_same : Fun κ.K "_law_same" "_law_same" (topS 9) a__law_same d__law_same
  b__law_same : Binds κ.K d__law_same ["_law_found", "_law_due"] []
  g__law_same : κ.mg "_law_same" = some (.ref a__law_same)
  a__law_text : Addr
  d__law_text : FuncData
  F__law_text : Fun κ.K "_law_text" "_law_text" (topS 6) a__law_text d__law_text
  b__law_text : Binds κ.K d__law_text ["_law_cell", "_law_size_here", "_law_many"] []
  g__law_text : κ.mg "_law_text" = some (.ref a__law_text)
  a_is_word : Addr
  d_is_word : FuncData
  F_is_word : Fun κ.K "is_word" "is_word" (topS 2) a_is_word d_is_word
  b_is_word : Binds κ.K d_is_word ["thing", "many"] []
  g_is_word : κ.mg "is_word" = some (.ref a_is_word)
  a_is_endless : Addr
  d_is_endless : FuncData
  F_is_endless : Fun κ.K "is_endless" "is_endless" (topS 3) a_is_endless d_is_endless
  b_is_endless : Binds κ.K d_is_endless ["thing", "many"] []
  g_is_endless : κ.mg "is_endless" = some (.ref a_is_endless)
  a__law_size : Addr
  d__law_size : FuncData
  F__law_size : Fun κ.K "_law_size" "_law_size" (topS 7) a__law_size d__law_size
  b__law_size : Binds κ.K d__law_size ["_law_cell", "_law_some", "_law_far"] []
  g__law_size : κ.mg "_law_size" = some (.ref a__law_size)
  a_law : Addr
  d_law : FuncData
  F_law : Fun κ.K "law" "law" (topS 11) a_law d_law
  t_LETTERS : Tok
  g_LETTERS : κ.mg "LETTERS" = some (.str "abc" t_LETTERS)
  m_bool : κ.mg "bool" = none
  m_isinstance : κ.mg "isinstance" = none
  m_len : κ.mg "len" = none
  m_range : κ.mg "range" = none
  m_str : κ.mg "str" = none
  m_tuple : κ.mg "tuple" = none
/-! ### _law_cell_at -/
abbrev s__law_cell_at : Stmt := topS 5
theorem sc__law_cell_at : FnScope ["_law_script", "_law_k"] ["_law_script", "_law_k"] (defScope s__law_cell_at) := ⟨rfl, rfl, rfl, by decide +kernel, rfl, by decide +kernel, by decide +kernel⟩
def sp__law_cell_at (κ : Kx) : Sp := PSp κ (ι := (List Int) × Int) (fun d => [.im d.1, .im d.2]) (fun d => (fun (ns : List Int) (k : Int) => 0 ≤ k) d.1 d.2) (fun d => (fun (ns : List Int) (k : Int) => (cellAt ns k : Int)) d.1 d.2)
theorem cl__law_cell_at {κ : Kx} {Γ : List Sl} {tr : TA} {ns : List Int} {k : Int} (h : EvA κ tr Γ [.im ns, .im k]) (hp : 0 ≤ k) : Ev κ (tCall (sp__law_cell_at κ) [] E0 tr) Γ (cellAt ns k : Int) := ev_call (ι := (List Int) × Int) (ns, k) h hp
theorem ok__law_cell_at {P : Program} {w : World} {κ : Kx} {base : Heap} (T : Txt κ) : FnOk P w κ.K κ.mg base CX0 1 T.a__law_cell_at T.d__law_cell_at ["_law_script", "_law_k"] (sp__law_cell_at κ) := by
  refine fn_ok T.F__law_cell_at sc__law_cell_at (fun _ => rfl) fun cdv A outer s H E hr => ⟨_,
      (pss_cons (ps_if (pt_cmpR op_lt (pv 1) (pe_callB call_len (by rfl) T.m_len PySem.boot_len (pa_cons (pv 0) pa_nil)) (nomark _))
        (pss_one (ps_ret (pe_ix ix_list (pv 0) (pv 1) (fun _ _ => rfl))))
        pss_nil)
      (pss_one (ps_ret pe_int))), fun d B Q hp hrt => ?_⟩
  obtain ⟨ns, k⟩ := d
  show Cn κ B [.im ns, .im k] _
  replace hp : 0 ≤ k := hp
  replace hrt : RtOk κ B Q (cellAt ns k : Int) := hrt
  refine c_sif (eb_test (ev_op (ev_var rfl) (ev_cb (ea_cons (ev_var rfl) ea_nil) rc_lenL) rv_lt)) (fun c1 => ?_) (fun c1 => ?_)
  · try simp only [Bool.and_eq_true, Bool.or_eq_true, Bool.and_eq_false_iff, Bool.or_eq_false_iff, Bool.not_eq_true', Bool.not_eq_false', decide_eq_true_eq, decide_eq_false_iff_not, Int.not_lt, Int.not_le, Decidable.not_not] at c1
    refine c_ret (ev_op (ev_var rfl) (ev_var rfl) (rv_ixLI (by /-ix1-/ first | omega | (dsimp only; omega) | (refine ⟨?_, ?_⟩ <;> omega) | (simp only [List.length_append, List.length_cons, List.length_nil]; omega)))) (rt_is hrt ?_)
    -- ret1
    simp [cellAt, c1]
  · try simp only [Bool.and_eq_true, Bool.or_eq_true, Bool.and_eq_false_iff, Bool.or_eq_false_iff, Bool.not_eq_true', Bool.not_eq_false', decide_eq_true_eq, decide_eq_false_iff_not, Int.not_lt, Int.not_le, Decidable.not_not] at c1
    refine c_ret ev_int (rt_is hrt ?_)
    -- ret2
    simp only [cellAt]; rw [if_neg (by omega)]
/-! ### _law_things -/
abbrev s__law_things : Stmt := topS 10
theorem sc__law_things : FnScope ["_law_one", "_law_other", "_law_some"] ["_law_one", "_law_other"] (defScope s__law_things) := ⟨rfl, rfl, rfl, by decide +kernel, rfl, by decide +kernel, by decide +kernel⟩
def sp__law_things (κ : Kx) : Sp := PSp κ (ι := Tx × Tx) (fun d => [.im d.1, .im d.2]) (fun d => (fun (a : Tx) (b : Tx) => True) d.1 d.2) (fun d => (fun (a : Tx) (b : Tx) => (thingsOf a b : List Thg)) d.1 d.2)
theorem cl__law_things {κ : Kx} {Γ : List Sl} {tr : TA} {a : Tx} {b : Tx} (h : EvA κ tr Γ [.im a, .im b]) (hp : True) : Ev κ (tCall (sp__law_things κ) [] E0 tr) Γ (thingsOf a b : List Thg) := ev_call (ι := Tx × Tx) (a, b) h hp
theorem ok__law_things {P : Program} {w : World} {κ : Kx} {base : Heap} (T : Txt κ) : FnOk P w κ.K κ.mg base CX0 1 T.a__law_things T.d__law_things ["_law_one", "_law_other"] (sp__law_things κ) := by
  refine fn_ok T.F__law_things sc__law_things (fun _ => rfl) fun cdv A outer s H E hr => ⟨_,
      (pss_cons (ps_set (i := 2) sc__law_things.nd rfl (by first | exact .inl rfl | exact .inr rfl) (pe_lst (pa_cons pe_non (pa_cons pe_bl (pa_cons pe_int (pa_cons (pe_lst (pa_cons (pv 0) (pa_cons (pv 1) pa_nil))) (pa_cons (pe_tup (pa_cons (pv 0) pa_nil)) (pa_cons (pe_tup (pa_cons (pv 0) (pa_cons (pv 1) (pa_cons (pv 1) pa_nil)))) (pa_cons (pe_tup (pa_cons (pv 0) (pa_cons pe_non pa_nil))) (pa_cons (pe_tup (pa_cons pe_int (pa_cons (pv 1) pa_nil))) (pa_cons pe_dnewK (pa_cons (pe_lst pa_nil) (pa_cons (pe_tup pa_nil) pa_nil)))))))))))))
      (pss_one (ps_ret (pe_op op_catG (pv 2) (pe_lst (pa_cons (pe_tup (pa_cons (pe_tup (pa_cons (pv 0) (pa_cons (pv 1) pa_nil))) (pa_cons (pv 1) pa_nil))) (pa_cons (pe_tup (pa_cons (pv 0) (pa_cons (pe_lst (pa_cons (pv 1) pa_nil)) pa_nil))) (pa_cons (pe_lst (pa_cons (pv 0) pa_nil)) (pa_cons (pe_tup (pa_cons pe_non (pa_cons (pv 1) pa_nil))) pa_nil))))))))), fun d B Q hp hrt => ?_⟩
  obtain ⟨a, b⟩ := d
  show Cn κ B [.im a, .im b, .un] _
  replace hrt : RtOk κ B Q (thingsOf a b : List Thg) := hrt
  refine c_sasg ((em_lst (eas_cons (ev_thg (ev_datN ev_non)) (eas_cons (ev_thg (ev_datB ev_bl)) (eas_cons (ev_thg (ev_datI ev_int)) (eas_cons (ev_thg (ev_lstD (em_lst (eas_cons (ev_datS (ev_var rfl)) (eas_cons (ev_datS (ev_var rfl)) (eas_nil (α := PyData)))) (by first | decide | (simp only [List.length_cons, List.length_nil]; decide))).ev)) (eas_cons (ev_thg (ev_tupD (eas_cons (ev_datS (ev_var rfl)) (eas_nil (α := PyData))) (by first | decide | (simp only [List.length_cons, List.length_nil]; decide)))) (eas_cons (ev_thg (ev_tupD (eas_cons (ev_datS (ev_var rfl)) (eas_cons (ev_datS (ev_var rfl)) (eas_cons (ev_datS (ev_var rfl)) (eas_nil (α := PyData))))) (by first | decide | (simp only [List.length_cons, List.length_nil]; decide)))) (eas_cons (ev_thg (ev_tupD (eas_cons (ev_datS (ev_var rfl)) (eas_cons (ev_datN ev_non) (eas_nil (α := PyData)))) (by first | decide | (simp only [List.length_cons, List.length_nil]; decide)))) (eas_cons (ev_thg (ev_tupD (eas_cons (ev_datI ev_int) (eas_cons (ev_datS (ev_var rfl)) (eas_nil (α := PyData)))) (by first | decide | (simp only [List.length_cons, List.length_nil]; decide)))) (eas_cons ev_dict0 (eas_cons (ev_thg (ev_lstD (em_lst (eas_nil (α := PyData)) (by first | decide | (simp only [List.length_cons, List.length_nil]; decide))).ev)) (eas_cons (ev_thg (ev_tupD (eas_nil (α := PyData)) (by first | decide | (simp only [List.length_cons, List.length_nil]; decide)))) eas_nil))))))))))) (by first | decide | (simp only [List.length_cons, List.length_nil]; decide)))).ev ?_
  try dsimp only [List.set_cons_succ, List.set_cons_zero]
  refine c_ret ((em_catL (ev_var rfl) ((em_lst (eas_cons (ev_thg (ev_tupD (eas_cons (ev_tupD (eas_cons (ev_datS (ev_var rfl)) (eas_cons (ev_datS (ev_var rfl)) (eas_nil (α := PyData)))) (by first | decide | (simp only [List.length_cons, List.length_nil]; decide))) (eas_cons (ev_datS (ev_var rfl)) (eas_nil (α := PyData)))) (by first | decide | (simp only [List.length_cons, List.length_nil]; decide)))) (eas_cons (ev_thg (ev_tupD (eas_cons (ev_datS (ev_var rfl)) (eas_cons (ev_lstD (em_lst (eas_cons (ev_datS (ev_var rfl)) (eas_nil (α := PyData))) (by first | decide | (simp only [List.length_cons, List.length_nil]; decide))).ev) (eas_nil (α := PyData)))) (by first | decide | (simp only [List.length_cons, List.length_nil]; decide)))) (eas_cons (ev_thg (ev_lstD (em_lst (eas_cons (ev_datS (ev_var rfl)) (eas_nil (α := PyData))) (by first | decide | (simp only [List.length_cons, List.length_nil]; decide))).ev)) (eas_cons (ev_thg (ev_tupD (eas_cons (ev_datN ev_non) (eas_cons (ev_datS (ev_var rfl)) (eas_nil (α := PyData)))) (by first | decide | (simp only [List.length_cons, List.length_nil]; decide)))) eas_nil)))) (by first | decide | (simp only [List.length_cons, List.length_nil]; decide)))).ev (by /-catL1-/ simp only [List.length_cons, List.length_nil]; decide))).ev (rt_is hrt ?_)
  -- ret1
  rfl
/-! ### _law_good -/
abbrev s__law_good : Stmt := topS 8
theorem sc__law_good : FnScope ["_law_text_here", "_law_many", "_law_sign"] ["_law_text_here", "_law_many"] (defScope s__law_good) := ⟨rfl, rfl, rfl, by decide +kernel, rfl, by decide +kernel, by decide +kernel⟩
def sp__law_good (κ : Kx) : Sp := PSp κ (ι := Tx × Int) (fun d => [.im d.1, .im d.2]) (fun d => (fun (l : Tx) (many : Int) => 0 ≤ many) d.1 d.2) (fun d => (fun (l : Tx) (many : Int) => (lettersOk l many : Bool)) d.1 d.2)
theorem cl__law_good {κ : Kx} {Γ : List Sl} {tr : TA} {l : Tx} {many : Int} (h : EvA κ tr Γ [.im l, .im many]) (hp : 0 ≤ many) : Ev κ (tCall (sp__law_good κ) [] E0 tr) Γ (lettersOk l many : Bool) := ev_call (ι := Tx × Int) (l, many) h hp
theorem ok__law_good {P : Program} {w : World} {κ : Kx} {base : Heap} (T : Txt κ) : FnOk P w κ.K κ.mg base CX0 1 T.a__law_good T.d__law_good ["_law_text_here", "_law_many"] (sp__law_good κ) := by
  refine fn_ok T.F__law_good sc__law_good (fun _ => rfl) fun cdv A outer s H E hr => ⟨_,
      (C8.pss_cut (ps_for PassesOwn.never rfl (pi_str (pv 0)) (pg_name (i := 2) sc__law_good.nd rfl (by first | exact .inl rfl | exact .inr rfl))
        (pss_one (ps_if (pt_cmpR op_notIn_seq (pv 2) (pe_slice sl_list (pe_lst (pa_cons pe_str (pa_cons pe_str (pa_cons pe_str pa_nil)))) po_none (po_some (pv 1))) (by rfl))
          (pss_one (ps_ret pe_bl))
          pss_nil)))
      (pss_one (ps_ret pe_bl))), fun d B Q hp hrt => ?_⟩
  obtain ⟨l, many⟩ := d
  show Cn κ B [.im l, .im many, .un] _
  replace hp : 0 ≤ many := hp
  replace hrt : RtOk κ B Q (lettersOk l many : Bool) := hrt
  refine c_cutS (fun Γ0 Γ => ∃ (sv : Sl), Γ = (List.set Γ0 2 sv) ∧ (lettersOk l many = true)) (c_forS (fun Γ0 i Γ => ∃ (sv : Sl), Γ = (List.set Γ0 2 sv) ∧ (∀ j, j < i → ∀ c, l[j]? = some c → c ∈ ([97, 98, 99] : Tx).take many.toNat)) (fun x Γ => (List.set Γ 2 (Sl.im x))) (ei_str (ev_var rfl)) (fun _ _ => ta_name) ?_ (fun B1 le1 i x Γ hx hW => ?_) (fun Γ hW => ?_)) ?_
  · exact ⟨_, rfl, fun j q => by omega⟩ -- for1_h0
  · obtain ⟨sv, rfl, hP⟩ := hW
    obtain ⟨c, rfl, hc1, hc2⟩ := signs_get hx
    have key : ∀ n : Nat, ([c] : Tx) ∈ List.take n [[97], [98], [99]] ↔ c ∈ ([97, 98, 99] : Tx).take n := fun n => by
      rw [show ([[97], [98], [99]] : List Tx) = List.map (fun c => ([c] : Tx)) [97, 98, 99] from rfl, ← List.map_take, List.mem_map]
      exact ⟨fun ⟨d, h1, h2⟩ => by cases h2; exact h1, fun h => ⟨c, h, rfl⟩⟩
    refine c_if (eb_test (ev_op (ev_var rfl) ((em_is (em_slice ((em_lst (eas_cons (ev_str [97]) (eas_cons (ev_str [98]) (eas_cons (ev_str [99]) eas_nil))) (by first | decide | (simp only [List.length_cons, List.length_nil]; decide)))).ev eo_none (eo_some (ev_var rfl))) (cutL_to (by /-nn1-/ omega)))).ev rv_notInL)) (fun c1 => ?_) (fun c1 => ?_)
    · try simp only [Bool.and_eq_true, Bool.or_eq_true, Bool.and_eq_false_iff, Bool.or_eq_false_iff, Bool.not_eq_true', Bool.not_eq_false', decide_eq_true_eq, decide_eq_false_iff_not, Int.not_lt, Int.not_le, Decidable.not_not] at c1
      refine c_ret ev_bl (rt_is (hrt.le le1) ?_)
      -- ret1
      rw [key] at c1; exact (lettersOk_no hc2 c1).symm
    · try simp only [Bool.and_eq_true, Bool.or_eq_true, Bool.and_eq_false_iff, Bool.or_eq_false_iff, Bool.not_eq_true', Bool.not_eq_false', decide_eq_true_eq, decide_eq_false_iff_not, Int.not_lt, Int.not_le, Decidable.not_not] at c1
      refine c_nx ?_
      rw [key] at c1
      exact c_to ⟨_, rfl, fun j q d hd => by
        by_cases e : j = i
        · subst e; rw [hc1] at hd; cases hd; exact c1
        · exact hP j (by omega) d hd⟩ -- for1_step
  · obtain ⟨sv, rfl, hP⟩ := hW
    exact c_to ⟨_, rfl, lettersOk_up fun j q => hP j (by rw [List.length_map]; exact q)⟩ -- for1_end
  · intro Γ hW
    obtain ⟨sv, rfl, hP⟩ := hW
    try dsimp only [List.set_cons_succ, List.set_cons_zero]
    refine c_ret ev_bl (rt_is hrt ?_)
    -- ret2
    exact hP.symm
/-! ### _law_same -/
abbrev s__law_same : Stmt := topS 9
theorem sc__law_same : FnScope ["_law_found", "_law_due"] ["_law_found", "_law_due"] (defScope s__law_same) := ⟨rfl, rfl, rfl, by decide +kernel, rfl, by decide +kernel, by decide +kernel⟩
def sp__law_same (κ : Kx) : Sp := PSp κ (ι := Bool × Bool) (fun d => [.im d.1, .im d.2]) (fun d => (fun (a : Bool) (b : Bool) => True) d.1 d.2) (fun d => (fun (a : Bool) (b : Bool) => (decide (a = b) : Bool)) d.1 d.2)
theorem cl__law_same {κ : Kx} {Γ : List Sl} {tr : TA} {a : Bool} {b : Bool} (h : EvA κ tr Γ [.im a, .im b]) (hp : True) : Ev κ (tCall (sp__law_same κ) [] E0 tr) Γ (decide (a = b) : Bool) := ev_call (ι := Bool × Bool) (a, b) h hp
theorem ok__law_same {P : Program} {w : World} {κ : Kx} {base : Heap} (T : Txt κ) : FnOk P w κ.K κ.mg base CX0 1 T.a__law_same T.d__law_same ["_law_found", "_law_due"] (sp__law_same κ) := by
  refine fn_ok T.F__law_same sc__law_same (fun _ => rfl) fun cdv A outer s H E hr => ⟨_,
      (pss_one (ps_ret (pe_and (pe_callB call_isi (by rfl) T.m_isinstance (by decide +kernel) (pa_cons (pv 0) (pa_cons (pe_bltn (v := .ty "bool") (by rfl) T.m_bool (by decide +kernel) rfl) pa_nil))) (pe_one (pe_cmpR op_eq (pv 0) (pv 1) (nomark _)))))), fun d B Q hp hrt => ?_⟩
  obtain ⟨a, b⟩ := d
  show Cn κ B [.im a, .im b] _
  replace hrt : RtOk κ B Q (decide (a = b) : Bool) := hrt
  refine c_ret (ev_andV (ev_cb (ea_cons (ev_var rfl) (ea_cons ev_ty ea_nil)) (rc_isi (b := true) (by decide +kernel))) (fun hb0 => (ev_op (ev_var rfl) (ev_var rfl) rv_eqB))) (rt_is hrt ?_)
  -- ret1
  simp
/-! ### _law_text -/
abbrev s__law_text : Stmt := topS 6
theorem sc__law_text : FnScope ["_law_cell", "_law_size_here", "_law_many", "_law_made", "_law_digits", "_law_number", "_law_k"] ["_law_cell", "_law_size_here", "_law_many"] (defScope s__law_text) := ⟨rfl, rfl, rfl, by decide +kernel, rfl, by decide +kernel, by decide +kernel⟩
def sp__law_text (κ : Kx) : Sp := PSp κ (ι := Int × Int × Int) (fun d => [.im d.1, .im d.2.1, .im d.2.2]) (fun d => (fun (cell : Int) (size : Int) (many : Int) => (0 < many ∧ many ≤ 3) ∧ 0 ≤ size ∧ size ≤ 100000) d.1 d.2.1 d.2.2) (fun d => (fun (cell : Int) (size : Int) (many : Int) => (textOf cell size many : Tx)) d.1 d.2.1 d.2.2)
theorem cl__law_text {κ : Kx} {Γ : List Sl} {tr : TA} {cell : Int} {size : Int} {many : Int} (h : EvA κ tr Γ [.im cell, .im size, .im many]) (hp : (0 < many ∧ many ≤ 3) ∧ 0 ≤ size ∧ size ≤ 100000) : Ev κ (tCall (sp__law_text κ) [] E0 tr) Γ (textOf cell size many : Tx) := ev_call (ι := Int × Int × Int) (cell, size, many) h hp
theorem ok__law_text {P : Program} {w : World} {κ : Kx} {base : Heap} (T : Txt κ) : FnOk P w κ.K κ.mg base CX0 1 T.a__law_text T.d__law_text ["_law_cell", "_law_size_here", "_law_many"] (sp__law_text κ) := by
  refine fn_ok T.F__law_text sc__law_text (fun _ => rfl) fun cdv A outer s H E hr => ⟨_,
      (pss_cons (ps_set (i := 3) sc__law_text.nd rfl (by first | exact .inl rfl | exact .inr rfl) pe_str)
      (pss_cons (ps_set (i := 4) sc__law_text.nd rfl (by first | exact .inl rfl | exact .inr rfl) (pe_op op_fdiv (pv 0) pe_int))
      (pss_cons (ps_set (i := 5) sc__law_text.nd rfl (by first | exact .inl rfl | exact .inr rfl) (pe_op op_add (pe_op op_mod (pe_op op_fdiv (pv 0) pe_int) pe_int) pe_int))
      (C8.pss_cut (ps_for PassesOwn.never rfl (pi_range1 (by rfl) T.m_range (pa_cons (pv 1) pa_nil)) (pg_name (i := 6) sc__law_text.nd rfl (by first | exact .inl rfl | exact .inr rfl))
        (pss_cons (ps_set (i := 5) sc__law_text.nd rfl (by first | exact .inl rfl | exact .inr rfl) (pe_op op_mod (pe_op op_add (pe_op op_add (pe_op op_add (pe_op op_mul (pv 5) (pv 5)) (pe_op op_mul pe_int (pv 5))) (pe_op op_mul pe_int (pv 6))) pe_int) pe_int))
        (pss_one (ps_if (pt_cmpR op_eq (pe_op op_mod (pv 0) pe_int) pe_int (nomark _))
          (pss_cons (ps_set (i := 3) sc__law_text.nd rfl (by first | exact .inl rfl | exact .inr rfl) (pe_op op_add_str (pv 3) (pe_ix ix_str pe_str (pe_op op_mod (pv 4) (pv 2)) (fun _ _ => rfl))))
          (pss_one (ps_set (i := 4) sc__law_text.nd rfl (by first | exact .inl rfl | exact .inr rfl) (pe_op op_fdiv (pv 4) (pv 2)))))
          (pss_one (ps_set (i := 3) sc__law_text.nd rfl (by first | exact .inl rfl | exact .inr rfl) (pe_op op_add_str (pv 3) (pe_ix ix_str pe_str (pe_op op_mod (pe_op op_fdiv (pe_op op_mod (pe_op op_mul (pv 5) (pv 5)) pe_int) pe_int) (pv 2)) (fun _ _ => rfl)))))))))
      (pss_one (ps_ret (pv 3))))))), fun d B Q hp hrt => ?_⟩
  obtain ⟨cell, size, many⟩ := d
  show Cn κ B [.im cell, .im size, .im many, .un, .un, .un, .un] _
  replace hp : (0 < many ∧ many ≤ 3) ∧ 0 ≤ size ∧ size ≤ 100000 := hp
  replace hrt : RtOk κ B Q (textOf cell size many : Tx) := hrt
  refine c_sasg (ev_str []) ?_
  try dsimp only [List.set_cons_succ, List.set_cons_zero]
  refine c_sasg (ev_op (ev_var rfl) ev_int (rv_fdiv (by /-div1-/ constructor <;> first | decide | omega))) ?_
  try dsimp only [List.set_cons_succ, List.set_cons_zero]
  refine c_sasg (ev_op (ev_op (ev_op (ev_var rfl) ev_int (rv_fdiv (by /-div2-/ constructor <;> first | decide | omega))) ev_int (rv_mod (by /-mod1-/ first | decide | omega | (dsimp only; omega)))) ev_int rv_add) ?_
  try dsimp only [List.set_cons_succ, List.set_cons_zero]
  refine c_cutS (fun Γ0 Γ => ∃ (made : Tx) (digits : Int) (number : Int) (kv : Sl), Γ = (List.set (List.set (List.set (List.set Γ0 3 (Sl.im made)) 4 (Sl.im digits)) 5 (Sl.im number)) 6 kv) ∧ (made = (textUp cell many size.toNat).1)) (c_forS (fun Γ0 i Γ => ∃ (made : Tx) (digits : Int) (number : Int) (kv : Sl), Γ = (List.set (List.set (List.set (List.set Γ0 3 (Sl.im made)) 4 (Sl.im digits)) 5 (Sl.im number)) 6 kv) ∧ (made = (textUp cell many i).1 ∧ digits = (textUp cell many i).2.1 ∧ number = (textUp cell many i).2.2)) (fun x Γ => (List.set Γ 6 (Sl.im x))) (ei_range1 (ev_var rfl) (by /-rng1-/ first | decide | omega | (dsimp only; omega) | (simp only [List.length_append, List.length_cons, List.length_nil, List.length_take, List.length_drop, List.length_dropLast, List.length_map, repT_len]; omega))) (fun _ _ => ta_name) ?_ (fun B1 le1 i x Γ hx hW => ?_) (fun Γ hW => ?_)) ?_
  · exact ⟨_, _, _, _, rfl, rfl, rfl, rfl⟩ -- for1_h0
  · obtain ⟨made, digits, number, kv, rfl, hP⟩ := hW
    obtain ⟨hi, rfl⟩ := rangeI_get hx
    obtain ⟨rfl, rfl, rfl⟩ := hP
    have hn := textUp_num cell many i
    have hl := textUp_len cell many i
    refine c_sasg (ev_op (ev_op (ev_op (ev_op (ev_op (ev_var rfl) (ev_var rfl) (rv_mul (by /-mul1-/ first | exact .inl (by constructor <;> omega) | exact .inr (by constructor <;> omega)))) (ev_op ev_int (ev_var rfl) (rv_mul (by /-mul2-/ first | exact .inl (by constructor <;> omega) | exact .inr (by constructor <;> omega)))) rv_add) (ev_op ev_int (ev_var rfl) (rv_mul (by /-mul3-/ first | exact .inl (by constructor <;> omega) | exact .inr (by constructor <;> omega)))) rv_add) ev_int rv_add) ev_int (rv_mod (by /-mod2-/ first | decide | omega | (dsimp only; omega)))) ?_
    try dsimp only [List.set_cons_succ, List.set_cons_zero]
    refine c_if (eb_test (ev_op (ev_op (ev_var rfl) ev_int (rv_mod (by /-mod3-/ first | decide | omega | (dsimp only; omega)))) ev_int rv_eqI)) (fun c1 => ?_) (fun c1 => ?_)
    · try simp only [Bool.and_eq_true, Bool.or_eq_true, Bool.and_eq_false_iff, Bool.or_eq_false_iff, Bool.not_eq_true', Bool.not_eq_false', decide_eq_true_eq, decide_eq_false_iff_not, Int.not_lt, Int.not_le, Decidable.not_not] at c1
      refine c_sasg (ev_op (ev_var rfl) (ev_op (ev_str [97, 98, 99]) (ev_op (ev_var rfl) (ev_var rfl) (rv_mod (by /-mod4-/ first | decide | omega | (dsimp only; omega)))) (rv_ixSI (by /-ix1-/ exact ⟨⟨Int.emod_nonneg _ (by omega), Int.lt_of_lt_of_le (Int.emod_lt_of_pos _ (by omega)) (by simp; omega)⟩, by simp⟩))) (rv_addS (by /-cat1-/ simp only [List.length_cons, List.length_nil]; omega))) ?_
      try dsimp only [List.set_cons_succ, List.set_cons_zero]
      refine c_asg (ev_op (ev_var rfl) (ev_var rfl) (rv_fdiv (by /-div3-/ constructor <;> first | decide | omega))) ?_
      try dsimp only [List.set_cons_succ, List.set_cons_zero]
      exact c_to ⟨_, _, _, _, rfl, by simp [textUp, c1], by simp [textUp, c1], by simp [textUp, c1]⟩ -- for1_step
    · try simp only [Bool.and_eq_true, Bool.or_eq_true, Bool.and_eq_false_iff, Bool.or_eq_false_iff, Bool.not_eq_true', Bool.not_eq_false', decide_eq_true_eq, decide_eq_false_iff_not, Int.not_lt, Int.not_le, Decidable.not_not] at c1
      refine c_asg (ev_op (ev_var rfl) (ev_op (ev_str [97, 98, 99]) (ev_op (ev_op (ev_op (ev_op (ev_var rfl) (ev_var rfl) (rv_mul (by /-mul4-/ exact .inl ⟨Int.lt_of_lt_of_le (by decide) (Int.emod_nonneg _ (by decide)), Int.lt_trans (Int.emod_lt_of_pos _ (by decide)) (by decide)⟩))) ev_int (rv_mod (by /-mod6-/ first | decide | omega | (dsimp only; omega)))) ev_int (rv_fdiv (by /-div4-/ constructor <;> first | decide | omega))) (ev_var rfl) (rv_mod (by /-mod5-/ first | decide | omega | (dsimp only; omega)))) (rv_ixSI (by /-ix2-/ exact ⟨⟨Int.emod_nonneg _ (by omega), Int.lt_of_lt_of_le (Int.emod_lt_of_pos _ (by omega)) (by simp; omega)⟩, by simp⟩))) (rv_addS (by /-cat2-/ simp only [List.length_cons, List.length_nil]; omega))) ?_
      try dsimp only [List.set_cons_succ, List.set_cons_zero]
      exact c_to ⟨_, _, _, _, rfl, by simp [textUp, c1], by simp [textUp, c1], by simp [textUp, c1]⟩ -- for1_step
  · obtain ⟨made, digits, number, kv, rfl, hP⟩ := hW
    exact c_to ⟨_, _, _, _, rfl, by rw [hP.1, rangeI_len]⟩ -- for1_end
  · intro Γ hW
    obtain ⟨made, digits, number, kv, rfl, hP⟩ := hW
    try dsimp only [List.set_cons_succ, List.set_cons_zero]
    refine c_ret (ev_var rfl) (rt_is hrt ?_)
    -- ret1
    exact hP
/-! ### is_word -/
abbrev s_is_word : Stmt := topS 2
theorem sc_is_word : FnScope ["thing", "many", "sign"] ["thing", "many"] (defScope s_is_word) := ⟨rfl, rfl, rfl, by decide +kernel, rfl, by decide +kernel, by decide +kernel⟩
def sp_is_word (κ : Kx) : Sp := PSp κ (ι := Thg × Int) (fun d => [.im d.1, .im d.2]) (fun d => (fun (thing : Thg) (many : Int) => 0 ≤ many) d.1 d.2) (fun d => (fun (thing : Thg) (many : Int) => (isWordT thing many : Bool)) d.1 d.2)
theorem cl_is_word {κ : Kx} {Γ : List Sl} {tr : TA} {thing : Thg} {many : Int} (h : EvA κ tr Γ [.im thing, .im many]) (hp : 0 ≤ many) : Ev κ (tCall (sp_is_word κ) [] E0 tr) Γ (isWordT thing many : Bool) := ev_call (ι := Thg × Int) (thing, many) h hp
theorem ok_is_word {P : Program} {w : World} {κ : Kx} {base : Heap} (T : Txt κ) : FnOk P w κ.K κ.mg base CX0 1 T.a_is_word T.d_is_word ["thing", "many"] (sp_is_word κ) := by
  refine fn_ok T.F_is_word sc_is_word (fun _ => rfl) fun cdv A outer s H E hr => ⟨_,
      (pss_cons (ps_if (pt_not (pt_val (pe_callB call_isi (by rfl) T.m_isinstance (by decide +kernel) (pa_cons (pv 0) (pa_cons (pe_bltn (v := .ty "str") (by rfl) T.m_str (by decide +kernel) rfl) pa_nil)))))
        (pss_one (ps_ret pe_bl))
        pss_nil)
      (C8.pss_cut (ps_for PassesOwn.never rfl (pi_str (pv 0)) (pg_name (i := 2) sc_is_word.nd rfl (by first | exact .inl rfl | exact .inr rfl))
        (pss_one (ps_if (pt_cmpR op_notIn_sign (pv 2) (pe_slice sl_str (pe_glob (v := .str "abc") (by rfl) T.g_LETTERS ⟨_, rfl⟩) po_none (po_some (pv 1))) (by rfl))
          (pss_one (ps_ret pe_bl))
          pss_nil)))
      (pss_one (ps_ret pe_bl)))), fun d B Q hp hrt => ?_⟩
  obtain ⟨thing, many⟩ := d
  show Cn κ B [.im thing, .im many, .un] _
  replace hp : 0 ≤ many := hp
  replace hrt : RtOk κ B Q (isWordT thing many : Bool) := hrt
  refine c_sif (eb_not (eb_B (ev_cb (ea_cons (ev_var rfl) (ea_cons ev_ty ea_nil)) (rc_isiT (by decide))))) (fun c1 => ?_) (fun c1 => ?_)
  · try simp only [Bool.and_eq_true, Bool.or_eq_true, Bool.and_eq_false_iff, Bool.or_eq_false_iff, Bool.not_eq_true', Bool.not_eq_false', decide_eq_true_eq, decide_eq_false_iff_not, Int.not_lt, Int.not_le, Decidable.not_not] at c1
    refine c_ret ev_bl (rt_is hrt ?_)
    -- ret1
    exact (isWordT_not c1).symm
  · try simp only [Bool.and_eq_true, Bool.or_eq_true, Bool.and_eq_false_iff, Bool.or_eq_false_iff, Bool.not_eq_true', Bool.not_eq_false', decide_eq_true_eq, decide_eq_false_iff_not, Int.not_lt, Int.not_le, Decidable.not_not] at c1
    obtain ⟨d, rfl, hd⟩ := isT_d (.inl rfl) c1
    obtain ⟨l, rfl⟩ := isD_str hd
    refine c_view 0 l rfl vw_strT ?_
    rw [isWordT_str] at hrt
    refine c_cutS (fun Γ0 Γ => ∃ (sv : Sl), Γ = (List.set Γ0 2 sv) ∧ (lettersOk l many = true)) (c_forS (fun Γ0 i Γ => ∃ (sv : Sl), Γ = (List.set Γ0 2 sv) ∧ (∀ j, j < i → ∀ c, l[j]? = some c → c ∈ ([97, 98, 99] : Tx).take many.toNat)) (fun x Γ => (List.set Γ 2 (Sl.im x))) (ei_str (ev_var rfl)) (fun _ _ => ta_name) ?_ (fun B1 le1 i x Γ hx hW => ?_) (fun Γ hW => ?_)) ?_
    · exact ⟨_, rfl, fun j q => by omega⟩ -- for1_h0
    · obtain ⟨sv, rfl, hP⟩ := hW
      obtain ⟨c, rfl, hc1, hc2⟩ := signs_get hx
      refine c_if (eb_test (ev_op (ev_var rfl) (ev_is (ev_sliceS (ev_str [97, 98, 99]) eo_none (eo_some (ev_var rfl)) (by /-sl1-/ first | decide | omega | (dsimp only; omega) | (simp only [List.length_append, List.length_cons, List.length_nil, List.length_take, List.length_drop, List.length_dropLast, List.length_map, repT_len]; omega))) (cutL_to (by /-nn1-/ omega))) rv_notInSign)) (fun c2 => ?_) (fun c2 => ?_)
      · try simp only [Bool.and_eq_true, Bool.or_eq_true, Bool.and_eq_false_iff, Bool.or_eq_false_iff, Bool.not_eq_true', Bool.not_eq_false', decide_eq_true_eq, decide_eq_false_iff_not, Int.not_lt, Int.not_le, Decidable.not_not] at c2
        refine c_ret ev_bl (rt_is (hrt.le le1) ?_)
        -- ret2
        exact (lettersOk_no hc2 c2).symm
      · try simp only [Bool.and_eq_true, Bool.or_eq_true, Bool.and_eq_false_iff, Bool.or_eq_false_iff, Bool.not_eq_true', Bool.not_eq_false', decide_eq_true_eq, decide_eq_false_iff_not, Int.not_lt, Int.not_le, Decidable.not_not] at c2
        refine c_nx ?_
        exact c_to ⟨_, rfl, fun j q d hd => by
          by_cases e : j = i
          · subst e; rw [hc1] at hd; cases hd; exact c2
          · exact hP j (by omega) d hd⟩ -- for1_step
    · obtain ⟨sv, rfl, hP⟩ := hW
      exact c_to ⟨_, rfl, lettersOk_up fun j q => hP j (by rw [List.length_map]; exact q)⟩ -- for1_end
    · intro Γ hW
      obtain ⟨sv, rfl, hP⟩ := hW
      try dsimp only [List.set_cons_succ, List.set_cons_zero]
      refine c_ret ev_bl (rt_is hrt ?_)
      -- ret3
      exact hP.symm
/-! ### is_endless -/
abbrev s_is_endless : Stmt := topS 3
theorem sc_is_endless : FnScope ["thing", "many"] ["thing", "many"] (defScope s_is_endless) := ⟨rfl, rfl, rfl, by decide +kernel, rfl, by decide +kernel, by decide +kernel⟩
def sp_is_endless (κ : Kx) : Sp := PSp κ (ι := Thg × Int) (fun d => [.im d.1, .im d.2]) (fun d => (fun (thing : Thg) (many : Int) => 0 ≤ many) d.1 d.2) (fun d => (fun (thing : Thg) (many : Int) => (isEndT thing many : Bool)) d.1 d.2)
theorem cl_is_endless {κ : Kx} {Γ : List Sl} {tr : TA} {thing : Thg} {many : Int} (h : EvA κ tr Γ [.im thing, .im many]) (hp : 0 ≤ many) : Ev κ (tCall (sp_is_endless κ) [] E0 tr) Γ (isEndT thing many : Bool) := ev_call (ι := Thg × Int) (thing, many) h hp
theorem ok_is_endless {P : Program} {w : World} {κ : Kx} {base : Heap} (T : Txt κ) : FnOk P w κ.K κ.mg base CX0 2 T.a_is_endless T.d_is_endless ["thing", "many"] (sp_is_endless κ) := by
  refine fn_ok T.F_is_endless sc_is_endless (fun _ => rfl) fun cdv A outer s H E hr => ⟨_,
      (pss_cons (ps_if (PW.pt (pw_or (pt_not (pt_val (pe_callB call_isi (by rfl) T.m_isinstance (by decide +kernel) (pa_cons (pv 0) (pa_cons (pe_bltn (v := .ty "tuple") (by rfl) T.m_tuple (by decide +kernel) rfl) pa_nil))))) (pw_or1 (pt_cmpR op_ne (pe_callB call_len (by rfl) T.m_len PySem.boot_len (pa_cons (pv 0) pa_nil)) pe_int (nomark _)))))
        (pss_one (ps_ret pe_bl))
        pss_nil)
      (pss_one (ps_ret (pe_and (pe_call (ok_is_word T) (hr.mono (by decide)) (by rfl) T.g_is_word T.F_is_word.kp T.b_is_word .nil pass0 (pa_cons (pe_ix ix_tup (pv 0) pe_int (fun _ _ => rfl)) (pa_cons (pv 1) pa_nil))) (pe_and (pe_call (ok_is_word T) (hr.mono (by decide)) (by rfl) T.g_is_word T.F_is_word.kp T.b_is_word .nil pass0 (pa_cons (pe_ix ix_tup (pv 0) pe_int (fun _ _ => rfl)) (pa_cons (pv 1) pa_nil))) (pe_one (pe_cmpR (op_neD hr.units) (pe_ix ix_tup (pv 0) pe_int (fun _ _ => rfl)) pe_str (nomark _)))))))), fun d B Q hp hrt => ?_⟩
  obtain ⟨thing, many⟩ := d
  show Cn κ B [.im thing, .im many] _
  replace hp : 0 ≤ many := hp
  replace hrt : RtOk κ B Q (isEndT thing many : Bool) := hrt
  refine c_sif (eb_or (eb_not (eb_B (ev_cb (ea_cons (ev_var rfl) (ea_cons ev_ty ea_nil)) (rc_isiT (by decide))))) (fun hb0 => (eb_test (ev_op (ev_cb (ea_cons (ev_var rfl) ea_nil) (rc_lenT (by /-len1-/ simp_all))) ev_int rv_neI)))) (fun c1 => ?_) (fun c1 => ?_)
  · try simp only [Bool.and_eq_true, Bool.or_eq_true, Bool.and_eq_false_iff, Bool.or_eq_false_iff, Bool.not_eq_true', Bool.not_eq_false', decide_eq_true_eq, decide_eq_false_iff_not, Int.not_lt, Int.not_le, Decidable.not_not] at c1
    refine c_ret ev_bl (rt_is hrt ?_)
    -- ret1
    exact (isEndT_not c1).symm
  · try simp only [Bool.and_eq_true, Bool.or_eq_true, Bool.and_eq_false_iff, Bool.or_eq_false_iff, Bool.not_eq_true', Bool.not_eq_false', decide_eq_true_eq, decide_eq_false_iff_not, Int.not_lt, Int.not_le, Decidable.not_not] at c1
    obtain ⟨a, b, rfl⟩ := isT_pair c1.1 c1.2
    refine c_view 0 (a, b) rfl vw_pairT ?_
    refine c_ret (ev_andV (cl_is_word (ea_cons (ev_thg (ev_op (ev_var rfl) ev_int rv_ixT0)) (ea_cons (ev_var rfl) ea_nil)) (by /-pre1-/ first | trivial | omega | (dsimp only; omega) | assumption | (have h_ := rangeI_mem hx; omega) | (have h_ := rangeI_get hx; omega) | (simp only [List.length_append, List.length_cons, List.length_nil, List.length_take, List.length_drop, List.length_dropLast, List.length_map, repT_len, rangeI_len]; omega))) (fun hb0 => (ev_andV (cl_is_word (ea_cons (ev_thg (ev_op (ev_var rfl) ev_int rv_ixT1)) (ea_cons (ev_var rfl) ea_nil)) (by /-pre2-/ first | trivial | omega | (dsimp only; omega) | assumption | (have h_ := rangeI_mem hx; omega) | (have h_ := rangeI_get hx; omega) | (simp only [List.length_append, List.length_cons, List.length_nil, List.length_take, List.length_drop, List.length_dropLast, List.length_map, repT_len, rangeI_len]; omega))) (fun hb1 => (ev_op (ev_op (ev_var rfl) ev_int rv_ixT1) (ev_datS (ev_str [])) (rv_neDD (by /-eq1-/ exact ⟨word_shaped hb1, shaped0⟩))))))) (rt_is hrt ?_)
    -- ret2
    rfl
/-! ### _law_size -/
abbrev s__law_size : Stmt := topS 7
theorem sc__law_size : FnScope ["_law_cell", "_law_some", "_law_far"] ["_law_cell", "_law_some", "_law_far"] (defScope s__law_size) := ⟨rfl, rfl, rfl, by decide +kernel, rfl, by decide +kernel, by decide +kernel⟩
def sp__law_size (κ : Kx) : Sp := PSp κ (ι := Int × Int × Int) (fun d => [.im d.1, .im d.2.1, .im d.2.2]) (fun d => (fun (cell : Int) (some : Int) (far : Int) => 0 < some ∧ 0 < far) d.1 d.2.1 d.2.2) (fun d => (fun (cell : Int) (some : Int) (far : Int) => (sizeOf' cell some far : Int)) d.1 d.2.1 d.2.2)
theorem cl__law_size {κ : Kx} {Γ : List Sl} {tr : TA} {cell : Int} {some : Int} {far : Int} (h : EvA κ tr Γ [.im cell, .im some, .im far]) (hp : 0 < some ∧ 0 < far) : Ev κ (tCall (sp__law_size κ) [] E0 tr) Γ (sizeOf' cell some far : Int) := ev_call (ι := Int × Int × Int) (cell, some, far) h hp
theorem ok__law_size {P : Program} {w : World} {κ : Kx} {base : Heap} (T : Txt κ) : FnOk P w κ.K κ.mg base CX0 1 T.a__law_size T.d__law_size ["_law_cell", "_law_some", "_law_far"] (sp__law_size κ) := by
  refine fn_ok T.F__law_size sc__law_size (fun _ => rfl) fun cdv A outer s H E hr => ⟨_,
      (pss_cons (ps_if (pt_cmpR op_eq (pe_op op_mod (pv 0) pe_int) pe_int (nomark _))
        (pss_one (ps_ret (pe_op op_mod (pe_op op_fdiv (pv 0) pe_int) (pv 2))))
        pss_nil)
      (pss_one (ps_ret (pe_op op_mod (pe_op op_fdiv (pv 0) pe_int) (pv 1))))), fun d B Q hp hrt => ?_⟩
  obtain ⟨cell, some, far⟩ := d
  show Cn κ B [.im cell, .im some, .im far] _
  replace hp : 0 < some ∧ 0 < far := hp
  replace hrt : RtOk κ B Q (sizeOf' cell some far : Int) := hrt
  refine c_sif (eb_test (ev_op (ev_op (ev_var rfl) ev_int (rv_mod (by /-mod1-/ first | decide | omega | (dsimp only; omega)))) ev_int rv_eqI)) (fun c1 => ?_) (fun c1 => ?_)
  · try simp only [Bool.and_eq_true, Bool.or_eq_true, Bool.and_eq_false_iff, Bool.or_eq_false_iff, Bool.not_eq_true', Bool.not_eq_false', decide_eq_true_eq, decide_eq_false_iff_not, Int.not_lt, Int.not_le, Decidable.not_not] at c1
    refine c_ret (ev_op (ev_op (ev_var rfl) ev_int (rv_fdiv (by /-div1-/ constructor <;> first | decide | omega))) (ev_var rfl) (rv_mod (by /-mod2-/ first | decide | omega | (dsimp only; omega)))) (rt_is hrt ?_)
    -- ret1
    simp [sizeOf', c1]
  · try simp only [Bool.and_eq_true, Bool.or_eq_true, Bool.and_eq_false_iff, Bool.or_eq_false_iff, Bool.not_eq_true', Bool.not_eq_false', decide_eq_true_eq, decide_eq_false_iff_not, Int.not_lt, Int.not_le, Decidable.not_not] at c1
    refine c_ret (ev_op (ev_op (ev_var rfl) ev_int (rv_fdiv (by /-div2-/ constructor <;> first | decide | omega))) (ev_var rfl) (rv_mod (by /-mod3-/ first | decide | omega | (dsimp only; omega)))) (rt_is hrt ?_)
    -- ret2
    simp [sizeOf', c1]
/-! ### law -/
abbrev s_law : Stmt := topS 11
theorem sc_law : FnScope ["_law_script", "_law_many", "_law_words", "_law_k", "_law_cell", "_law_at", "_law_sign", "_law_one", "_law_other", "_law_text_here", "_law_due", "_law_thing"] ["_law_script"] (defScope s_law) := ⟨rfl, rfl, rfl, by decide +kernel, rfl, by decide +kernel, by decide +kernel⟩
def sp_law (κ : Kx) : Sp := PSp κ (ι := (List Int)) (fun d => [.im d]) (fun d => (fun (ns : List Int) => ns.length ≤ 63) d) (fun d => (fun (ns : List Int) => (true : Bool)) d)
theorem cl_law {κ : Kx} {Γ : List Sl} {tr : TA} {ns : List Int} (h : EvA κ tr Γ [.im ns]) (hp : ns.length ≤ 63) : Ev κ (tCall (sp_law κ) [] E0 tr) Γ (true : Bool) := ev_call (ι := (List Int)) ns h hp
theorem ok_law {P : Program} {w : World} {κ : Kx} {base : Heap} (T : Txt κ) : FnOk P w κ.K κ.mg base CX0 3 T.a_law T.d_law ["_law_script"] (sp_law κ) := by
  refine fn_ok T.F_law sc_law (fun _ => rfl) fun cdv A outer s H E hr => ⟨_,
      (pss_cons (ps_set (i := 1) sc_law.nd rfl (by first | exact .inl rfl | exact .inr rfl) (pe_op op_add pe_int (pe_op op_mod (pe_call (ok__law_cell_at T) (hr.mono (by decide)) (by rfl) T.g__law_cell_at T.F__law_cell_at.kp T.b__law_cell_at .nil pass0 (pa_cons (pv 0) (pa_cons pe_int pa_nil))) pe_int)))
      (pss_cons (ps_set (i := 2) sc_law.nd rfl (by first | exact .inl rfl | exact .inr rfl) (pe_lst pa_nil))
      (C8.pss_cut (ps_for PassesOwn.never rfl (pi_range1 (by rfl) T.m_range (pa_cons pe_int pa_nil)) (pg_name (i := 3) sc_law.nd rfl (by first | exact .inl rfl | exact .inr rfl))
        (pss_cons (ps_set (i := 4) sc_law.nd rfl (by first | exact .inl rfl | exact .inr rfl) (pe_call (ok__law_cell_at T) (hr.mono (by decide)) (by rfl) T.g__law_cell_at T.F__law_cell_at.kp T.b__law_cell_at .nil pass0 (pa_cons (pv 0) (pa_cons (pe_op op_add pe_int (pv 3)) pa_nil))))
        (pss_one (ps_expr (pe_bm PySem.F.plainAttrs_list PySem.F.slot_list_append PySem.F.type_list_append mt_append (pv 2) (pa_cons (pe_call (ok__law_text T) (hr.mono (by decide)) (by rfl) T.g__law_text T.F__law_text.kp T.b__law_text .nil pass0 (pa_cons (pe_op op_fdiv (pv 4) pe_int) (pa_cons (pe_call (ok__law_size T) (hr.mono (by decide)) (by rfl) T.g__law_size T.F__law_size.kp T.b__law_size .nil pass0 (pa_cons (pv 4) (pa_cons pe_int (pa_cons pe_int pa_nil)))) (pa_cons (pv 1) pa_nil)))) pa_nil))))))
      (pss_cons (ps_set (i := 4) sc_law.nd rfl (by first | exact .inl rfl | exact .inr rfl) (pe_call (ok__law_cell_at T) (hr.mono (by decide)) (by rfl) T.g__law_cell_at T.F__law_cell_at.kp T.b__law_cell_at .nil pass0 (pa_cons (pv 0) (pa_cons pe_int pa_nil))))
      (pss_cons (ps_set (i := 3) sc_law.nd rfl (by first | exact .inl rfl | exact .inr rfl) (pe_op op_mod (pv 4) pe_int))
      (pss_cons (ps_set (i := 5) sc_law.nd rfl (by first | exact .inl rfl | exact .inr rfl) (pe_op op_mod (pe_op op_fdiv (pv 4) pe_int) (pe_op op_add (pe_callB call_len (by rfl) T.m_len PySem.boot_len (pa_cons (pe_ix ix_list (pv 2) (pv 3) (fun _ _ => rfl)) pa_nil)) pe_int)))
      (C8.pss_cut (ps_if (pt_cmpR op_gt (pe_op op_mod (pe_op op_fdiv (pv 4) pe_int) pe_int) pe_int (nomark _))
        (pss_cons (ps_set (i := 6) sc_law.nd rfl (by first | exact .inl rfl | exact .inr rfl) (pe_ix ix_list (pe_lst (pa_cons pe_str (pa_cons pe_str (pa_cons pe_str (pa_cons pe_str (pa_cons pe_str (pa_cons pe_str (pa_cons pe_str (pa_cons pe_str pa_nil))))))))) (pe_op op_mod (pe_call (ok__law_cell_at T) (hr.mono (by decide)) (by rfl) T.g__law_cell_at T.F__law_cell_at.kp T.b__law_cell_at .nil pass0 (pa_cons (pv 0) (pa_cons pe_int pa_nil))) pe_int) (fun _ _ => rfl)))
        (pss_one (ps_asg (pe_op op_add_str (pe_op op_add_str (pe_slice sl_str (pe_ix ix_list (pv 2) (pv 3) (fun _ _ => rfl)) po_none (po_some (pv 5))) (pv 6)) (pe_slice sl_str (pe_ix ix_list (pv 2) (pv 3) (fun _ _ => rfl)) (po_some (pv 5)) po_none)) (pg_sub (pv 2) (pv 3) set_list))))
        pss_nil)
      (pss_cons (ps_asg (pv 2) (pg_lst (by rfl) (pgs_cons (pg_name (i := 7) sc_law.nd rfl (by first | exact .inl rfl | exact .inr rfl)) (pgs_cons (pg_name (i := 8) sc_law.nd rfl (by first | exact .inl rfl | exact .inr rfl)) pgs_nil))))
      (C8.pss_cut (ps_for PassesOwn.never rfl (pi_list (pv 2)) (pg_name (i := 9) sc_law.nd rfl (by first | exact .inl rfl | exact .inr rfl))
        (pss_cons (ps_if (pt_not (pt_val (pe_call (ok__law_same T) (hr.mono (by decide)) (by rfl) T.g__law_same T.F__law_same.kp T.b__law_same .nil pass0 (pa_cons (pe_call (ok_is_word T) (hr.mono (by decide)) (by rfl) T.g_is_word T.F_is_word.kp T.b_is_word .nil pass0 (pa_cons (pv 9) (pa_cons (pv 1) pa_nil))) (pa_cons (pe_call (ok__law_good T) (hr.mono (by decide)) (by rfl) T.g__law_good T.F__law_good.kp T.b__law_good .nil pass0 (pa_cons (pv 9) (pa_cons (pv 1) pa_nil))) pa_nil)))))
          (pss_one (ps_ret pe_bl))
          pss_nil)
        (pss_one (ps_if (pt_not (pt_val (pe_call (ok__law_same T) (hr.mono (by decide)) (by rfl) T.g__law_same T.F__law_same.kp T.b__law_same .nil pass0 (pa_cons (pe_call (ok_is_endless T) (hr.mono (by decide)) (by rfl) T.g_is_endless T.F_is_endless.kp T.b_is_endless .nil pass0 (pa_cons (pv 9) (pa_cons (pv 1) pa_nil))) (pa_cons pe_bl pa_nil)))))
          (pss_one (ps_ret pe_bl))
          pss_nil))))
      (pss_cons (ps_set (i := 10) sc_law.nd rfl (by first | exact .inl rfl | exact .inr rfl) (pe_and (pe_call (ok__law_good T) (hr.mono (by decide)) (by rfl) T.g__law_good T.F__law_good.kp T.b__law_good .nil pass0 (pa_cons (pv 7) (pa_cons (pv 1) pa_nil))) (pe_one (pe_call (ok__law_good T) (hr.mono (by decide)) (by rfl) T.g__law_good T.F__law_good.kp T.b__law_good .nil pass0 (pa_cons (pv 8) (pa_cons (pv 1) pa_nil))))))
      (pss_cons (ps_if (pt_not (pt_val (pe_call (ok__law_same T) (hr.mono (by decide)) (by rfl) T.g__law_same T.F__law_same.kp T.b__law_same .nil pass0 (pa_cons (pe_call (ok_is_endless T) (hr.mono (by decide)) (by rfl) T.g_is_endless T.F_is_endless.kp T.b_is_endless .nil pass0 (pa_cons (pe_tup (pa_cons (pv 7) (pa_cons (pv 8) pa_nil))) (pa_cons (pv 1) pa_nil))) (pa_cons (pe_and (pv 10) (pe_one (pe_cmpR op_ne (pv 8) pe_str (nomark _)))) pa_nil)))))
        (pss_one (ps_ret pe_bl))
        pss_nil)
      (pss_cons (ps_if (pt_not (pt_val (pe_call (ok__law_same T) (hr.mono (by decide)) (by rfl) T.g__law_same T.F__law_same.kp T.b__law_same .nil pass0 (pa_cons (pe_call (ok_is_endless T) (hr.mono (by decide)) (by rfl) T.g_is_endless T.F_is_endless.kp T.b_is_endless .nil pass0 (pa_cons (pe_tup (pa_cons (pv 8) (pa_cons (pv 7) pa_nil))) (pa_cons (pv 1) pa_nil))) (pa_cons (pe_and (pv 10) (pe_one (pe_cmpR op_ne (pv 7) pe_str (nomark _)))) pa_nil)))))
        (pss_one (ps_ret pe_bl))
        pss_nil)
      (C8.pss_cut (ps_for PassesOwn.never rfl (pi_list (pe_call (ok__law_things T) (hr.mono (by decide)) (by rfl) T.g__law_things T.F__law_things.kp T.b__law_things .nil pass0 (pa_cons (pv 7) (pa_cons (pv 8) pa_nil)))) (pg_name (i := 11) sc_law.nd rfl (by first | exact .inl rfl | exact .inr rfl))
        (pss_one (ps_if (PW.pt (pw_or (pt_not (pt_val (pe_call (ok__law_same T) (hr.mono (by decide)) (by rfl) T.g__law_same T.F__law_same.kp T.b__law_same .nil pass0 (pa_cons (pe_call (ok_is_word T) (hr.mono (by decide)) (by rfl) T.g_is_word T.F_is_word.kp T.b_is_word .nil pass0 (pa_cons (pv 11) (pa_cons (pv 1) pa_nil))) (pa_cons pe_bl pa_nil))))) (pw_or1 (pt_not (pt_val (pe_call (ok__law_same T) (hr.mono (by decide)) (by rfl) T.g__law_same T.F__law_same.kp T.b__law_same .nil pass0 (pa_cons (pe_call (ok_is_endless T) (hr.mono (by decide)) (by rfl) T.g_is_endless T.F_is_endless.kp T.b_is_endless .nil pass0 (pa_cons (pv 11) (pa_cons (pv 1) pa_nil))) (pa_cons pe_bl pa_nil))))))))
          (pss_one (ps_ret pe_bl))
          pss_nil)))
      (pss_one (ps_ret (pe_and (pe_call (ok__law_same T) (hr.mono (by decide)) (by rfl) T.g__law_same T.F__law_same.kp T.b__law_same .nil pass0 (pa_cons (pe_call (ok_is_word T) (hr.mono (by decide)) (by rfl) T.g_is_word T.F_is_word.kp T.b_is_word .nil pass0 (pa_cons pe_str (pa_cons (pv 1) pa_nil))) (pa_cons pe_bl pa_nil))) (pe_one (pe_call (ok__law_same T) (hr.mono (by decide)) (by rfl) T.g__law_same T.F__law_same.kp T.b__law_same .nil pass0 (pa_cons (pe_call (ok_is_endless T) (hr.mono (by decide)) (by rfl) T.g_is_endless T.F_is_endless.kp T.b_is_endless .nil pass0 (pa_cons (pe_tup (pa_cons pe_str (pa_cons pe_str pa_nil))) (pa_cons (pv 1) pa_nil))) (pa_cons pe_bl pa_nil)))))))))))))))))))), fun d B Q hp hrt => ?_⟩
  revert hp hrt; revert d; intro ns hp hrt
  show Cn κ B [.im ns, .un, .un, .un, .un, .un, .un, .un, .un, .un, .un, .un] _
  replace hp : ns.length ≤ 63 := hp
  replace hrt : RtOk κ B Q (true : Bool) := hrt
  refine c_sasg (ev_op ev_int (ev_op (cl__law_cell_at (ea_cons (ev_var rfl) (ea_cons ev_int ea_nil)) (by /-pre1-/ first | exact Int.le_of_lt hm.1 | trivial | omega | (dsimp only; omega) | assumption)) ev_int (rv_mod (by /-mod1-/ first | decide | omega | (dsimp only; omega)))) rv_add) ?_
  try dsimp only [List.set_cons_succ, List.set_cons_zero]
  have hm := many_ok (cellAt ns 0)
  generalize 1 + cellAt ns 0 % 3 = many at hm ⊢
  refine c_sasgM (em_lst (eas_nil (α := Tx)) (by first | decide | (simp only [List.length_cons, List.length_nil]; decide))) ?_
  try dsimp only [List.set_cons_succ, List.set_cons_zero]
  refine c_cutS (fun Γ0 Γ => ∃ (kv : Sl) (ws : List Tx) (cv : Sl), Γ = (List.set (List.set (List.set Γ0 3 kv) 2 (Sl.ml ws)) 4 cv) ∧ (ws.length = 2 ∧ ∀ x ∈ ws, x.length ≤ 200)) (c_forS (fun Γ0 i Γ => ∃ (kv : Sl) (ws : List Tx) (cv : Sl), Γ = (List.set (List.set (List.set Γ0 3 kv) 2 (Sl.ml ws)) 4 cv) ∧ (ws.length = i ∧ ∀ x ∈ ws, x.length ≤ 200)) (fun x Γ => (List.set Γ 3 (Sl.im x))) (ei_range1 ev_int (by /-rng1-/ first | decide | omega | (dsimp only; omega) | (simp only [List.length_append, List.length_cons, List.length_nil, List.length_take, List.length_drop, List.length_dropLast, List.length_map, repT_len]; omega))) (fun _ _ => ta_name) ?_ (fun B1 le1 i x Γ hx hW => ?_) (fun Γ hW => ?_)) ?_
  · exact ⟨_, _, _, rfl, rfl, fun x hx => by simp at hx⟩ -- for1_h0
  · obtain ⟨kv, ws, cv, rfl, hP⟩ := hW
    obtain ⟨hi, rfl⟩ := rangeI_get hx
    obtain ⟨hP1, hP2⟩ := hP
    have h2 : i < 2 := hi
    have hsz := sizeOf'_le (cell := cellAt ns (1 + (0 + (i : Int)))) (some := 6) (far := 200) (by decide)
    have htl := textOf_len (cellAt ns (1 + (0 + (i : Int))) / 1400) (sizeOf' (cellAt ns (1 + (0 + (i : Int)))) 6 200) many
    refine c_sasg (cl__law_cell_at (ea_cons (ev_var rfl) (ea_cons (ev_op ev_int (ev_var rfl) rv_add) ea_nil)) (by /-pre2-/ first | exact Int.le_of_lt hm.1 | trivial | omega | (dsimp only; omega) | assumption)) ?_
    try dsimp only [List.set_cons_succ, List.set_cons_zero]
    refine c_append rfl (cl__law_text (ea_cons (ev_op (ev_var rfl) ev_int (rv_fdiv (by /-div1-/ constructor <;> first | decide | omega))) (ea_cons (cl__law_size (ea_cons (ev_var rfl) (ea_cons ev_int (ea_cons ev_int ea_nil))) (by /-pre3-/ first | exact Int.le_of_lt hm.1 | trivial | omega | (dsimp only; omega) | assumption)) (ea_cons (ev_var rfl) ea_nil))) (by /-pre4-/ first | exact Int.le_of_lt hm.1 | trivial | omega | (dsimp only; omega) | assumption)) (by /-app1-/ first | decide | omega | (dsimp only; omega) | (simp only [List.length_append, List.length_cons, List.length_nil, List.length_take, List.length_drop, List.length_dropLast, List.length_map, repT_len]; omega)) ?_
    exact c_to ⟨_, _, _, rfl, by rw [List.length_append]; exact congrArg (· + 1) hP1, fun x hx => by
      rcases List.mem_append.mp hx with h | h
      · exact hP2 x h
      · rw [List.mem_singleton] at h
        rw [h, htl]; omega⟩ -- for1_step
  · obtain ⟨kv, ws, cv, rfl, hP⟩ := hW
    exact c_to ⟨_, _, _, rfl, hP⟩ -- for1_end
  · intro Γ hW
    obtain ⟨kv, ws, cv, rfl, hP⟩ := hW
    try dsimp only [List.set_cons_succ, List.set_cons_zero]
    obtain ⟨hl, hall⟩ := hP
    refine c_sasg (cl__law_cell_at (ea_cons (ev_var rfl) (ea_cons ev_int ea_nil)) (by /-pre5-/ first | exact Int.le_of_lt hm.1 | trivial | omega | (dsimp only; omega) | assumption)) ?_
    try dsimp only [List.set_cons_succ, List.set_cons_zero]
    have hk1 := Int.emod_nonneg (cellAt ns 3) (b := 2) (by decide)
    have hk2 := Int.emod_lt_of_pos (cellAt ns 3) (b := 2) (by decide)
    have hkl : (getI ws (cellAt ns 3 % 2)).length ≤ 200 := hall _ (by
      unfold getI
      rw [List.getD_eq_getElem?_getD, List.getElem?_eq_getElem (by omega)]
      exact List.getElem_mem _)
    refine c_sasg (ev_op (ev_var rfl) ev_int (rv_mod (by /-mod2-/ first | decide | omega | (dsimp only; omega)))) ?_
    try dsimp only [List.set_cons_succ, List.set_cons_zero]
    have ha1 := Int.emod_nonneg (cellAt ns 3 / 2) (b := ((getI ws (cellAt ns 3 % 2)).length : Int) + 1) (by omega)
    refine c_sasg (ev_op (ev_op (ev_var rfl) ev_int (rv_fdiv (by /-div2-/ constructor <;> first | decide | omega))) (ev_op (ev_cb (ea_cons (ev_ixMI rfl (ev_var rfl) (by /-ix1-/ first | omega | (dsimp only; omega) | (refine ⟨?_, ?_⟩ <;> omega) | (simp only [List.length_append, List.length_cons, List.length_nil]; omega))) ea_nil) (rc_lenS (by /-len1-/ first | decide | omega | (dsimp only; omega) | (simp only [List.length_append, List.length_cons, List.length_nil, List.length_take, List.length_drop, List.length_dropLast, List.length_map, repT_len]; omega)))) ev_int rv_add) (rv_mod (by /-mod3-/ first | decide | omega | (dsimp only; omega)))) ?_
    try dsimp only [List.set_cons_succ, List.set_cons_zero]
    refine c_cutS (fun Γ0 Γ => ∃ (ws : List Tx) (sv : Sl), Γ = (List.set (List.set Γ0 2 (Sl.ml ws)) 6 sv) ∧ (ws.length = 2)) (c_if (eb_test (ev_op (ev_op (ev_op (ev_var rfl) ev_int (rv_fdiv (by /-div3-/ constructor <;> first | decide | omega))) ev_int (rv_mod (by /-mod4-/ first | decide | omega | (dsimp only; omega)))) ev_int rv_gt)) (fun c1 => ?_) (fun c1 => ?_)) ?_
    · try simp only [Bool.and_eq_true, Bool.or_eq_true, Bool.and_eq_false_iff, Bool.or_eq_false_iff, Bool.not_eq_true', Bool.not_eq_false', decide_eq_true_eq, decide_eq_false_iff_not, Int.not_lt, Int.not_le, Decidable.not_not] at c1
      refine c_sasg (ev_op ((em_lst (eas_cons (ev_str [97]) (eas_cons (ev_str [98]) (eas_cons (ev_str [99]) (eas_cons (ev_str [100]) (eas_cons (ev_str [65]) (eas_cons (ev_str [32]) (eas_cons (ev_str [49]) (eas_cons (ev_str [40]) eas_nil)))))))) (by first | decide | (simp only [List.length_cons, List.length_nil]; decide)))).ev (ev_op (cl__law_cell_at (ea_cons (ev_var rfl) (ea_cons ev_int ea_nil)) (by /-pre6-/ first | exact Int.le_of_lt hm.1 | trivial | omega | (dsimp only; omega) | assumption)) ev_int (rv_mod (by /-mod5-/ first | decide | omega | (dsimp only; omega)))) (rv_ixLI (by /-ix2-/ first | omega | (dsimp only; omega) | (refine ⟨?_, ?_⟩ <;> omega) | (simp only [List.length_append, List.length_cons, List.length_nil]; omega)))) ?_
      try dsimp only [List.set_cons_succ, List.set_cons_zero]
      have hs8 := sign8 (cellAt ns 4)
      refine c_setitem rfl (ev_op (ev_op (ev_is (ev_sliceS (ev_ixMI rfl (ev_var rfl) (by /-ix3-/ first | omega | (dsimp only; omega) | (refine ⟨?_, ?_⟩ <;> omega) | (simp only [List.length_append, List.length_cons, List.length_nil]; omega))) eo_none (eo_some (ev_var rfl)) (by /-sl1-/ first | decide | omega | (dsimp only; omega) | (simp only [List.length_append, List.length_cons, List.length_nil, List.length_take, List.length_drop, List.length_dropLast, List.length_map, repT_len]; omega))) (cutL_to (by /-nn1-/ first | decide | omega))) (ev_var rfl) (rv_addS (by /-cat2-/ simp only [List.length_append, List.length_take, List.length_drop, hs8]; omega))) (ev_is (ev_sliceS (ev_ixMI rfl (ev_var rfl) (by /-ix4-/ first | omega | (dsimp only; omega) | (refine ⟨?_, ?_⟩ <;> omega) | (simp only [List.length_append, List.length_cons, List.length_nil]; omega))) (eo_some (ev_var rfl)) eo_none (by /-sl2-/ first | decide | omega | (dsimp only; omega) | (simp only [List.length_append, List.length_cons, List.length_nil, List.length_take, List.length_drop, List.length_dropLast, List.length_map, repT_len]; omega))) (cutL_from (by /-nn2-/ first | decide | omega))) (rv_addS (by /-cat1-/ simp only [List.length_append, List.length_take, List.length_drop, hs8]; omega))) (ev_var rfl) (by /-ix5-/ first | omega | (dsimp only; omega) | (refine ⟨?_, ?_⟩ <;> omega) | (simp only [List.length_append, List.length_cons, List.length_nil]; omega)) ?_
      try dsimp only [List.set_cons_succ, List.set_cons_zero]
      have hl2 : (List.set ws (cellAt ns 3 % 2).toNat (List.take (cellAt ns 3 / 2 % (((getI ws (cellAt ns 3 % 2)).length : Int) + 1)).toNat (getI ws (cellAt ns 3 % 2)) ++ getI [[97], [98], [99], [100], [65], [32], [49], [40]] (cellAt ns 4 % 8) ++ List.drop (cellAt ns 3 / 2 % (((getI ws (cellAt ns 3 % 2)).length : Int) + 1)).toNat (getI ws (cellAt ns 3 % 2)))).length = 2 := by rw [List.length_set]; exact hl
      exact c_to ⟨_, _, rfl, (by first | trivial | assumption | omega)⟩
    · try simp only [Bool.and_eq_true, Bool.or_eq_true, Bool.and_eq_false_iff, Bool.or_eq_false_iff, Bool.not_eq_true', Bool.not_eq_false', decide_eq_true_eq, decide_eq_false_iff_not, Int.not_lt, Int.not_le, Decidable.not_not] at c1
      refine c_nx ?_
      exact c_to ⟨_, _, rfl, (by first | trivial | assumption | omega)⟩
    · intro Γ hN
      obtain ⟨ws, sv, rfl, hP⟩ := hN
      try dsimp only [List.set_cons_succ, List.set_cons_zero]
      refine c_freeze 2 rfl ?_
      refine c_sasgA (ev_var rfl) (ta_lst2 (by /-two1-/ first | decide | omega | (dsimp only; omega) | (simp only [List.length_append, List.length_cons, List.length_nil, List.length_take, List.length_drop, List.length_dropLast, List.length_map, repT_len]; omega))) ?_
      try dsimp only
      try dsimp only [List.set_cons_succ, List.set_cons_zero]
      generalize getI ws 0 = a
      generalize getI ws 1 = b
      refine c_cutS (fun Γ0 Γ => ∃ (tv : Sl), Γ = (List.set Γ0 9 tv) ∧ (True)) (c_forS (fun Γ0 i Γ => ∃ (tv : Sl), Γ = (List.set Γ0 9 tv) ∧ (True)) (fun x Γ => (List.set Γ 9 (Sl.im x))) (ei_list (ev_var rfl)) (fun _ _ => ta_name) ?_ (fun B2 le2 i x Γ hx hW => ?_) (fun Γ hW => ?_)) ?_
      · exact ⟨_, rfl, (by first | trivial | assumption | omega)⟩ -- for2_h0
      · obtain ⟨tv, rfl, hP⟩ := hW
        refine c_sif (eb_not (eb_B (cl__law_same (ea_cons (cl_is_word (ea_cons (ev_thg (ev_datS (ev_var rfl))) (ea_cons (ev_var rfl) ea_nil)) (by /-pre7-/ first | exact Int.le_of_lt hm.1 | trivial | omega | (dsimp only; omega) | assumption)) (ea_cons (cl__law_good (ea_cons (ev_var rfl) (ea_cons (ev_var rfl) ea_nil)) (by /-pre8-/ first | exact Int.le_of_lt hm.1 | trivial | omega | (dsimp only; omega) | assumption)) ea_nil)) (by /-pre9-/ first | exact Int.le_of_lt hm.1 | trivial | omega | (dsimp only; omega) | assumption)))) (fun c2 => ?_) (fun c2 => ?_)
        · try simp only [Bool.and_eq_true, Bool.or_eq_true, Bool.and_eq_false_iff, Bool.or_eq_false_iff, Bool.not_eq_true', Bool.not_eq_false', decide_eq_true_eq, decide_eq_false_iff_not, Int.not_lt, Int.not_le, Decidable.not_not] at c2
          refine c_ret ev_bl (rt_is (hrt.le le2) ?_)
          -- ret1
          exact absurd (isWordT_str _ _) c2
        · try simp only [Bool.and_eq_true, Bool.or_eq_true, Bool.and_eq_false_iff, Bool.or_eq_false_iff, Bool.not_eq_true', Bool.not_eq_false', decide_eq_true_eq, decide_eq_false_iff_not, Int.not_lt, Int.not_le, Decidable.not_not] at c2
          refine c_if (eb_not (eb_B (cl__law_same (ea_cons (cl_is_endless (ea_cons (ev_thg (ev_datS (ev_var rfl))) (ea_cons (ev_var rfl) ea_nil)) (by /-pre10-/ first | exact Int.le_of_lt hm.1 | trivial | omega | (dsimp only; omega) | assumption)) (ea_cons ev_bl ea_nil)) (by /-pre11-/ first | exact Int.le_of_lt hm.1 | trivial | omega | (dsimp only; omega) | assumption)))) (fun c3 => ?_) (fun c3 => ?_)
          · try simp only [Bool.and_eq_true, Bool.or_eq_true, Bool.and_eq_false_iff, Bool.or_eq_false_iff, Bool.not_eq_true', Bool.not_eq_false', decide_eq_true_eq, decide_eq_false_iff_not, Int.not_lt, Int.not_le, Decidable.not_not] at c3
            refine c_ret ev_bl (rt_is (hrt.le le2) ?_)
            -- ret2
            simp [isEndT, isEndD] at c3
          · try simp only [Bool.and_eq_true, Bool.or_eq_true, Bool.and_eq_false_iff, Bool.or_eq_false_iff, Bool.not_eq_true', Bool.not_eq_false', decide_eq_true_eq, decide_eq_false_iff_not, Int.not_lt, Int.not_le, Decidable.not_not] at c3
            refine c_nx ?_
            exact c_to ⟨_, rfl, (by first | trivial | assumption | omega)⟩ -- for2_step
      · obtain ⟨tv, rfl, hP⟩ := hW
        exact c_to ⟨_, rfl, (by first | trivial | assumption | omega)⟩ -- for2_end
      · intro Γ hW
        obtain ⟨tv, rfl, hP⟩ := hW
        try dsimp only [List.set_cons_succ, List.set_cons_zero]
        refine c_sasg (ev_andV (cl__law_good (ea_cons (ev_var rfl) (ea_cons (ev_var rfl) ea_nil)) (by /-pre12-/ first | exact Int.le_of_lt hm.1 | trivial | omega | (dsimp only; omega) | assumption)) (fun hb0 => (cl__law_good (ea_cons (ev_var rfl) (ea_cons (ev_var rfl) ea_nil)) (by /-pre13-/ first | exact Int.le_of_lt hm.1 | trivial | omega | (dsimp only; omega) | assumption)))) ?_
        try dsimp only [List.set_cons_succ, List.set_cons_zero]
        refine c_sif (eb_not (eb_B (cl__law_same (ea_cons (cl_is_endless (ea_cons (ev_thg (ev_tupD (eas_cons (ev_datS (ev_var rfl)) (eas_cons (ev_datS (ev_var rfl)) (eas_nil (α := PyData)))) (by first | decide | (simp only [List.length_cons, List.length_nil]; decide)))) (ea_cons (ev_var rfl) ea_nil)) (by /-pre14-/ first | exact Int.le_of_lt hm.1 | trivial | omega | (dsimp only; omega) | assumption)) (ea_cons (ev_andV (ev_var rfl) (fun hb0 => (ev_op (ev_var rfl) (ev_str []) rv_neS))) ea_nil)) (by /-pre15-/ first | exact Int.le_of_lt hm.1 | trivial | omega | (dsimp only; omega) | assumption)))) (fun c4 => ?_) (fun c4 => ?_)
        · try simp only [Bool.and_eq_true, Bool.or_eq_true, Bool.and_eq_false_iff, Bool.or_eq_false_iff, Bool.not_eq_true', Bool.not_eq_false', decide_eq_true_eq, decide_eq_false_iff_not, Int.not_lt, Int.not_le, Decidable.not_not] at c4
          refine c_ret ev_bl (rt_is hrt ?_)
          -- ret3
          exact absurd (isEndT_two _ _ _) c4
        · try simp only [Bool.and_eq_true, Bool.or_eq_true, Bool.and_eq_false_iff, Bool.or_eq_false_iff, Bool.not_eq_true', Bool.not_eq_false', decide_eq_true_eq, decide_eq_false_iff_not, Int.not_lt, Int.not_le, Decidable.not_not] at c4
          refine c_sif (eb_not (eb_B (cl__law_same (ea_cons (cl_is_endless (ea_cons (ev_thg (ev_tupD (eas_cons (ev_datS (ev_var rfl)) (eas_cons (ev_datS (ev_var rfl)) (eas_nil (α := PyData)))) (by first | decide | (simp only [List.length_cons, List.length_nil]; decide)))) (ea_cons (ev_var rfl) ea_nil)) (by /-pre16-/ first | exact Int.le_of_lt hm.1 | trivial | omega | (dsimp only; omega) | assumption)) (ea_cons (ev_andV (ev_var rfl) (fun hb0 => (ev_op (ev_var rfl) (ev_str []) rv_neS))) ea_nil)) (by /-pre17-/ first | exact Int.le_of_lt hm.1 | trivial | omega | (dsimp only; omega) | assumption)))) (fun c5 => ?_) (fun c5 => ?_)
          · try simp only [Bool.and_eq_true, Bool.or_eq_true, Bool.and_eq_false_iff, Bool.or_eq_false_iff, Bool.not_eq_true', Bool.not_eq_false', decide_eq_true_eq, decide_eq_false_iff_not, Int.not_lt, Int.not_le, Decidable.not_not] at c5
            refine c_ret ev_bl (rt_is hrt ?_)
            -- ret4
            exact absurd (by rw [isEndT_two, Bool.and_comm (lettersOk b many)]) c5
          · try simp only [Bool.and_eq_true, Bool.or_eq_true, Bool.and_eq_false_iff, Bool.or_eq_false_iff, Bool.not_eq_true', Bool.not_eq_false', decide_eq_true_eq, decide_eq_false_iff_not, Int.not_lt, Int.not_le, Decidable.not_not] at c5
            refine c_cutS (fun Γ0 Γ => ∃ (tv : Sl), Γ = (List.set Γ0 11 tv) ∧ (True)) (c_forS (fun Γ0 i Γ => ∃ (tv : Sl), Γ = (List.set Γ0 11 tv) ∧ (True)) (fun x Γ => (List.set Γ 11 (Sl.im x))) (ei_list (cl__law_things (ea_cons (ev_var rfl) (ea_cons (ev_var rfl) ea_nil)) (by /-pre18-/ first | exact Int.le_of_lt hm.1 | trivial | omega | (dsimp only; omega) | assumption))) (fun _ _ => ta_name) ?_ (fun B3 le3 i x Γ hx hW => ?_) (fun Γ hW => ?_)) ?_
            · exact ⟨_, rfl, (by first | trivial | assumption | omega)⟩ -- for3_h0
            · obtain ⟨tv, rfl, hP⟩ := hW
              have hno := thingsOf_no (m := many) (List.mem_of_getElem? hx)
              clear hx
              refine c_if (eb_or (eb_not (eb_B (cl__law_same (ea_cons (cl_is_word (ea_cons (ev_var rfl) (ea_cons (ev_var rfl) ea_nil)) (by /-pre19-/ first | exact Int.le_of_lt hm.1 | trivial | omega | (dsimp only; omega) | assumption)) (ea_cons ev_bl ea_nil)) (by /-pre20-/ first | exact Int.le_of_lt hm.1 | trivial | omega | (dsimp only; omega) | assumption)))) (fun hb0 => (eb_not (eb_B (cl__law_same (ea_cons (cl_is_endless (ea_cons (ev_var rfl) (ea_cons (ev_var rfl) ea_nil)) (by /-pre21-/ first | exact Int.le_of_lt hm.1 | trivial | omega | (dsimp only; omega) | assumption)) (ea_cons ev_bl ea_nil)) (by /-pre22-/ first | exact Int.le_of_lt hm.1 | trivial | omega | (dsimp only; omega) | assumption)))))) (fun c6 => ?_) (fun c6 => ?_)
              · try simp only [Bool.and_eq_true, Bool.or_eq_true, Bool.and_eq_false_iff, Bool.or_eq_false_iff, Bool.not_eq_true', Bool.not_eq_false', decide_eq_true_eq, decide_eq_false_iff_not, Int.not_lt, Int.not_le, Decidable.not_not] at c6
                refine c_ret ev_bl (rt_is (hrt.le le3) ?_)
                -- ret5
                simp [hno.1, hno.2] at c6
              · try simp only [Bool.and_eq_true, Bool.or_eq_true, Bool.and_eq_false_iff, Bool.or_eq_false_iff, Bool.not_eq_true', Bool.not_eq_false', decide_eq_true_eq, decide_eq_false_iff_not, Int.not_lt, Int.not_le, Decidable.not_not] at c6
                refine c_nx ?_
                exact c_to ⟨_, rfl, (by first | trivial | assumption | omega)⟩ -- for3_step
            · obtain ⟨tv, rfl, hP⟩ := hW
              exact c_to ⟨_, rfl, (by first | trivial | assumption | omega)⟩ -- for3_end
            · intro Γ hW
              obtain ⟨tv, rfl, hP⟩ := hW
              try dsimp only [List.set_cons_succ, List.set_cons_zero]
              refine c_ret (ev_andV (cl__law_same (ea_cons (cl_is_word (ea_cons (ev_thg (ev_datS (ev_str []))) (ea_cons (ev_var rfl) ea_nil)) (by /-pre23-/ first | exact Int.le_of_lt hm.1 | trivial | omega | (dsimp only; omega) | assumption)) (ea_cons ev_bl ea_nil)) (by /-pre24-/ first | exact Int.le_of_lt hm.1 | trivial | omega | (dsimp only; omega) | assumption)) (fun hb0 => (cl__law_same (ea_cons (cl_is_endless (ea_cons (ev_thg (ev_tupD (eas_cons (ev_datS (ev_str [])) (eas_cons (ev_datS (ev_str [])) (eas_nil (α := PyData)))) (by first | decide | (simp only [List.length_cons, List.length_nil]; decide)))) (ea_cons (ev_var rfl) ea_nil)) (by /-pre25-/ first | exact Int.le_of_lt hm.1 | trivial | omega | (dsimp only; omega) | assumption)) (ea_cons ev_bl ea_nil)) (by /-pre26-/ first | exact Int.le_of_lt hm.1 | trivial | omega | (dsimp only; omega) | assumption)))) (rt_is hrt ?_)
              -- ret6
              rw [isWordT_str, isEndT_two]; simp [lettersOk]
theorem law_start {K : PySem.W.Frag} {mg : Str → Option Value} {vs : List V} {H : Hp} {Q : VK} {E : XK} (h : spEnd K vs H Q E) : sp_law ⟨K, mg⟩ vs H Q E := by
  obtain ⟨a, ns, rfl, hS, hl, q⟩ := h
  exact ⟨ns, H, hl, Same.refl H, .cons (show SlV _ _ _ (.im ns) from ⟨a, ns.map V.int, rfl, hS, ints_paired ns⟩) .nil, fun v H' Hi' g r => by cases r; exact q H'⟩
/-! ### what the top has left -/
theorem all_mk {l : PySem.W.OpenLaw} {w : World} {K : PySem.W.Frag} {h : Heap} {mg : Str → Option Value} {fa f0 f1 f2 f3 f4 f5 f6 f7 f8 : Addr} (X : K.In h) (G : h.Ns mainGlobals mg) (hfa : mg "law" = some (.ref fa))
    {od0 an0 od1 an1 od2 an2 od3 an3 od4 an4 od5 an5 od6 an6 od7 an7 od8 an8 : Option Addr} {sl0 sl1 sl2 sl3 sl4 sl5 sl6 sl7 sl8 : Array (Option Value)} {oc0 kV0 dc0 pm0 cd0 ct0 oc1 kV1 dc1 pm1 cd1 ct1 oc2 kV2 dc2 pm2 cd2 ct2 oc3 kV3 dc3 pm3 cd3 ct3 oc4 kV4 dc4 pm4 cd4 ct4 oc5 kV5 dc5 pm5 cd5 ct5 oc6 kV6 dc6 pm6 cd6 ct6 oc7 kV7 dc7 pm7 cd7 ct7 oc8 kV8 dc8 pm8 cd8 ct8 : Value} {tk_LETTERS : Tok}
    (a0 : PySem.W.nsIn K mainGlobals "_law_cell_at" = some (some (.ref f0))) (l0 : K.lookup f0 = some ⟨oc0, od0, .func (PySem.W.fnOf "_law_cell_at" "_law_cell_at" (defArgs (topS 5)) (defBody (topS 5)) (defScope (topS 5)) .none kV0 dc0 pm0 an0 cd0 ct0), sl0⟩) (c0 : PySem.W.codeIn K cd0 "_law_cell_at" = true) (k0 : PySem.W.keepIn K (.ref f0) = true)
    (a1 : PySem.W.nsIn K mainGlobals "_law_things" = some (some (.ref f1))) (l1 : K.lookup f1 = some ⟨oc1, od1, .func (PySem.W.fnOf "_law_things" "_law_things" (defArgs (topS 10)) (defBody (topS 10)) (defScope (topS 10)) .none kV1 dc1 pm1 an1 cd1 ct1), sl1⟩) (c1 : PySem.W.codeIn K cd1 "_law_things" = true) (k1 : PySem.W.keepIn K (.ref f1) = true)
    (a2 : PySem.W.nsIn K mainGlobals "_law_good" = some (some (.ref f2))) (l2 : K.lookup f2 = some ⟨oc2, od2, .func (PySem.W.fnOf "_law_good" "_law_good" (defArgs (topS 8)) (defBody (topS 8)) (defScope (topS 8)) .none kV2 dc2 pm2 an2 cd2 ct2), sl2⟩) (c2 : PySem.W.codeIn K cd2 "_law_good" = true) (k2 : PySem.W.keepIn K (.ref f2) = true)
    (a3 : PySem.W.nsIn K mainGlobals "_law_same" = some (some (.ref f3))) (l3 : K.lookup f3 = some ⟨oc3, od3, .func (PySem.W.fnOf "_law_same" "_law_same" (defArgs (topS 9)) (defBody (topS 9)) (defScope (topS 9)) .none kV3 dc3 pm3 an3 cd3 ct3), sl3⟩) (c3 : PySem.W.codeIn K cd3 "_law_same" = true) (k3 : PySem.W.keepIn K (.ref f3) = true)
    (a4 : PySem.W.nsIn K mainGlobals "_law_text" = some (some (.ref f4))) (l4 : K.lookup f4 = some ⟨oc4, od4, .func (PySem.W.fnOf "_law_text" "_law_text" (defArgs (topS 6)) (defBody (topS 6)) (defScope (topS 6)) .none kV4 dc4 pm4 an4 cd4 ct4), sl4⟩) (c4 : PySem.W.codeIn K cd4 "_law_text" = true) (k4 : PySem.W.keepIn K (.ref f4) = true)
    (a5 : PySem.W.nsIn K mainGlobals "is_word" = some (some (.ref f5))) (l5 : K.lookup f5 = some ⟨oc5, od5, .func (PySem.W.fnOf "is_word" "is_word" (defArgs (topS 2)) (defBody (topS 2)) (defScope (topS 2)) .none kV5 dc5 pm5 an5 cd5 ct5), sl5⟩) (c5 : PySem.W.codeIn K cd5 "is_word" = true) (k5 : PySem.W.keepIn K (.ref f5) = true)
    (a6 : PySem.W.nsIn K mainGlobals "is_endless" = some (some (.ref f6))) (l6 : K.lookup f6 = some ⟨oc6, od6, .func (PySem.W.fnOf "is_endless" "is_endless" (defArgs (topS 3)) (defBody (topS 3)) (defScope (topS 3)) .none kV6 dc6 pm6 an6 cd6 ct6), sl6⟩) (c6 : PySem.W.codeIn K cd6 "is_endless" = true) (k6 : PySem.W.keepIn K (.ref f6) = true)
    (a7 : PySem.W.nsIn K mainGlobals "_law_size" = some (some (.ref f7))) (l7 : K.lookup f7 = some ⟨oc7, od7, .func (PySem.W.fnOf "_law_size" "_law_size" (defArgs (topS 7)) (defBody (topS 7)) (defScope (topS 7)) .none kV7 dc7 pm7 an7 cd7 ct7), sl7⟩) (c7 : PySem.W.codeIn K cd7 "_law_size" = true) (k7 : PySem.W.keepIn K (.ref f7) = true)
    (a8 : PySem.W.nsIn K mainGlobals "law" = some (some (.ref f8))) (l8 : K.lookup f8 = some ⟨oc8, od8, .func (PySem.W.fnOf "law" "law" (defArgs (topS 11)) (defBody (topS 11)) (defScope (topS 11)) .none kV8 dc8 pm8 an8 cd8 ct8), sl8⟩) (c8 : PySem.W.codeIn K cd8 "law" = true) (k8 : PySem.W.keepIn K (.ref f8) = true)
    (y_LETTERS : PySem.W.nsIn K mainGlobals "LETTERS" = some (some (.str "abc" tk_LETTERS)))
    (z_bool : PySem.W.nsIn K mainGlobals "bool" = some none)
    (z_isinstance : PySem.W.nsIn K mainGlobals "isinstance" = some none)
    (z_len : PySem.W.nsIn K mainGlobals "len" = some none)
    (z_range : PySem.W.nsIn K mainGlobals "range" = some none)
    (z_str : PySem.W.nsIn K mainGlobals "str" = some none)
    (z_tuple : PySem.W.nsIn K mainGlobals "tuple" = some none)
    : ∃ fd : FuncData, (∀ (s : Shared) (v : Value), BindsTo s fd ⟨[v], []⟩ [("_law_script", v)]) ∧ ∀ base : Heap, K.In base → base.Ns mainGlobals mg → FnOk l.prog w K mg base CX0 3 fa fd ["_law_script"] (spEnd K) := by
  have e := hfa.symm.trans (PySem.W.mg_of X G a8)
  cases e
  have F0 := fun_mk (st := topS 5) l0 c0 k0
  have b0 := F0.binds (ps := ["_law_script", "_law_k"]) fun _ _ _ _ _ _ us hl => match us, hl with | [_, _], _ => rfl
  have F1 := fun_mk (st := topS 10) l1 c1 k1
  have b1 := F1.binds (ps := ["_law_one", "_law_other"]) fun _ _ _ _ _ _ us hl => match us, hl with | [_, _], _ => rfl
  have F2 := fun_mk (st := topS 8) l2 c2 k2
  have b2 := F2.binds (ps := ["_law_text_here", "_law_many"]) fun _ _ _ _ _ _ us hl => match us, hl with | [_, _], _ => rfl
  have F3 := fun_mk (st := topS 9) l3 c3 k3
  have b3 := F3.binds (ps := ["_law_found", "_law_due"]) fun _ _ _ _ _ _ us hl => match us, hl with | [_, _], _ => rfl
  have F4 := fun_mk (st := topS 6) l4 c4 k4
  have b4 := F4.binds (ps := ["_law_cell", "_law_size_here", "_law_many"]) fun _ _ _ _ _ _ us hl => match us, hl with | [_, _, _], _ => rfl
  have F5 := fun_mk (st := topS 2) l5 c5 k5
  have b5 := F5.binds (ps := ["thing", "many"]) fun _ _ _ _ _ _ us hl => match us, hl with | [_, _], _ => rfl
  have F6 := fun_mk (st := topS 3) l6 c6 k6
  have b6 := F6.binds (ps := ["thing", "many"]) fun _ _ _ _ _ _ us hl => match us, hl with | [_, _], _ => rfl
  have F7 := fun_mk (st := topS 7) l7 c7 k7
  have b7 := F7.binds (ps := ["_law_cell", "_law_some", "_law_far"]) fun _ _ _ _ _ _ us hl => match us, hl with | [_, _, _], _ => rfl
  have F8 := fun_mk (st := topS 11) l8 c8 k8
  have T : Txt ⟨K, mg⟩ := ⟨_, _, F0, b0, PySem.W.mg_of X G a0, _, _, F1, b1, PySem.W.mg_of X G a1, _, _, F2, b2, PySem.W.mg_of X G a2, _, _, F3, b3, PySem.W.mg_of X G a3, _, _, F4, b4, PySem.W.mg_of X G a4, _, _, F5, b5, PySem.W.mg_of X G a5, _, _, F6, b6, PySem.W.mg_of X G a6, _, _, F7, b7, PySem.W.mg_of X G a7, _, _, F8, _, PySem.W.mg_of X G y_LETTERS, PySem.W.mg_none_of X G z_bool, PySem.W.mg_none_of X G z_isinstance, PySem.W.mg_none_of X G z_len, PySem.W.mg_none_of X G z_range, PySem.W.mg_none_of X G z_str, PySem.W.mg_none_of X G z_tuple⟩
  exact ⟨_, fun s v => .of_eq rfl, fun base _ _ => (ok_law (κ := ⟨K, mg⟩) ⟨_, _, F0, b0, PySem.W.mg_of X G a0, _, _, F1, b1, PySem.W.mg_of X G a1, _, _, F2, b2, PySem.W.mg_of X G a2, _, _, F3, b3, PySem.W.mg_of X G a3, _, _, F4, b4, PySem.W.mg_of X G a4, _, _, F5, b5, PySem.W.mg_of X G a5, _, _, F6, b6, PySem.W.mg_of X G a6, _, _, F7, b7, PySem.W.mg_of X G a7, _, _, F8, _, PySem.W.mg_of X G y_LETTERS, PySem.W.mg_none_of X G z_bool, PySem.W.mg_none_of X G z_isinstance, PySem.W.mg_none_of X G z_len, PySem.W.mg_none_of X G z_range, PySem.W.mg_none_of X G z_str, PySem.W.mg_none_of X G z_tuple⟩).imp fun _ _ _ _ h => law_start h⟩
end G
open PySem PySem.W PyProof.Rows
set_option maxHeartbeats 0 in
theorem PySem.Challenge.cw_looprank_k01_what_is_a_word_holds : PySem.Challenge.rw_looprank_k01_what_is_a_word.Holds := by
  w_on; o_law; k_head; (case hw => w_witness2)
  k_fill
  refine L2.walk_of (l := PySem.Challenge.rw_looprank_k01_what_is_a_word) (n := 63) (k := 3) (x := "_law_script") (CX := fun _ => L2.CX0) (sp := fun w => G.spEnd _) rfl (by decide) rfl ⟨rfl, by decide, by decide⟩ (fun w h Y => PySem.W.kIn_of Y) ?F (fun _ _ a ns hl _ hS => ⟨a, ns, rfl, hS, hl, fun _ => rfl⟩) (fun _ _ _ _ _ h => h)
  case F =>
    intro w mg fa h KX GG hmg
    refine' G.all_mk KX GG hmg ?a0 ?l0 ?c0 ?k0 ?a1 ?l1 ?c1 ?k1 ?a2 ?l2 ?c2 ?k2 ?a3 ?l3 ?c3 ?k3 ?a4 ?l4 ?c4 ?k4 ?a5 ?l5 ?c5 ?k5 ?a6 ?l6 ?c6 ?k6 ?a7 ?l7 ?c7 ?k7 ?a8 ?l8 ?c8 ?k8 ?y_LETTERS ?z_bool ?z_isinstance ?z_len ?z_range ?z_str ?z_tuple
    (case a0 => k_is); (case l0 => k_is); (case c0 => k_is); (case k0 => k_is); (case a1 => k_is); (case l1 => k_is); (case c1 => k_is); (case k1 => k_is); (case a2 => k_is); (case l2 => k_is); (case c2 => k_is); (case k2 => k_is); (case a3 => k_is); (case l3 => k_is); (case c3 => k_is); (case k3 => k_is); (case a4 => k_is); (case l4 => k_is); (case c4 => k_is); (case k4 => k_is); (case a5 => k_is); (case l5 => k_is); (case c5 => k_is); (case k5 => k_is); (case a6 => k_is); (case l6 => k_is); (case c6 => k_is); (case k6 => k_is); (case a7 => k_is); (case l7 => k_is); (case c7 => k_is); (case k7 => k_is); (case a8 => k_is); (case l8 => k_is); (case c8 => k_is); (case k8 => k_is); (case y_LETTERS => k_is); (case z_bool => k_is); (case z_isinstance => k_is); (case z_len => k_is); (case z_range => k_is); (case z_str => k_is); (case z_tuple => k_is)
