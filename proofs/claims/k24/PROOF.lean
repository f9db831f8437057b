import PyProof.Rows.All
import Wide.All
import OpenK.AllK
import Wide.FinOn
import HandS.ForMost
import HandS.Wide
import HandS.ForExc
import HandS.ExcIs
import KE.KExcSuper
import KE.KxField
import HandS.FStr
import HandS.IsInst
import HandS.RaiseMore
import PySem.Challenge.RW_everyparcel_k24_events_table_lines
-- part GBase
set_option Elab.async false
set_option linter.all false
set_option maxRecDepth 100000
set_option maxHeartbeats 1000000
/-! My layer over HandS: what an expression of the text evaluates to, as plain data, over a frozen heap G and owned cells S. -/
namespace Gx
abbrev St := L2.St
open PySem PySem.Spec PyProof.Rows L2

abbrev Sto := List (Addr × HO)
abbrev dom (S : Sto) : List Addr := S.map (·.1)

/-- the heap H holds the frozen part G and, apart from it, the owned cells S -/
structure Hold (G : Hp) (S : Sto) (H : Hp) : Prop where
  ex : Same G H
  own : ∀ p ∈ S, H p.1 = some p.2
  sep : ∀ a ∈ dom S, G a = none
  nd : (dom S).Nodup

structure Stp (G : Hp) (S : Sto) (H : Hp) (G' : Hp) (S' : Sto) (H' : Hp) : Prop where
  hold : Hold G' S' H'
  gg : Same G G'
  fr : ∀ b o, b ∉ dom S → H b = some o → H' b = some o
  new : ∀ b o, G b = none → H b = some o → G' b = none
  dm : ∀ b ∈ dom S', b ∈ dom S ∨ H b = none
  th : ∀ b o, H b = some o → ∃ o', H' b = some o'

theorem Stp.refl {G : Hp} {S : Sto} {H : Hp} (h : Hold G S H) : Stp G S H G S H :=
  ⟨h, Same.refl G, fun _ _ _ e => e, fun _ _ e _ => e, fun _ h => .inl h, fun _ o e => ⟨o, e⟩⟩
theorem Stp.trans {G G1 G2 : Hp} {S S1 S2 : Sto} {H H1 H2 : Hp} (a : Stp G S H G1 S1 H1) (b : Stp G1 S1 H1 G2 S2 H2) : Stp G S H G2 S2 H2 where
  hold := b.hold
  gg := a.gg.trans b.gg
  fr := fun c o hc e => by
    refine b.fr c o (fun m => ?_) (a.fr c o hc e)
    rcases a.dm c m with q | q
    · exact hc q
    · rw [e] at q; cases q
  new := fun c o g e => by
    obtain ⟨o', e'⟩ := a.th c o e
    exact b.new c o' (a.new c o g e) e'
  dm := fun c m => by
    rcases b.dm c m with q | q
    · exact a.dm c q
    · right
      cases e : H c with
      | none => rfl
      | some o =>
        obtain ⟨o', e'⟩ := a.th c o e
        rw [q] at e'; cases e'
  th := fun c o e => by
    obtain ⟨o', e'⟩ := a.th c o e
    exact b.th c o' e'
/-- what is new in the frozen part may be forgotten -/
theorem Hold.less {G G1 : Hp} {S : Sto} {H : Hp} (e : Same G G1) (h : Hold G1 S H) : Hold G S H :=
  ⟨e.trans h.ex, h.own, fun a m => e.free (h.sep a m), h.nd⟩
theorem Stp.forget {G G1 G' : Hp} {S S' : Sto} {H H' : Hp} (e : Same G G1) (a : Stp G1 S H G' S' H') : Stp G S H G S' H' :=
  ⟨a.hold.less (e.trans a.gg), Same.refl G, a.fr, fun _ _ g _ => g, a.dm, a.th⟩

/-- a new frozen object -/
theorem Stp.alloc {G : Hp} {S : Sto} {H : Hp} (h : Hold G S H) {p : Addr} (hp : H p = none) (o : HO) : Stp G S H (upd G p o) S (upd H p o) where
  hold := {
    ex := fun b u e => by
      by_cases hb : b = p
      · subst hb; rw [upd_same] at e ⊢; exact e
      · rw [upd_ne hb] at e ⊢; exact h.ex b u e
    own := fun q m => by
      rw [upd_ne (ne_of_none (h.own q m) hp)]; exact h.own q m
    sep := fun a m => by
      have hne : a ≠ p := by
        rintro rfl
        obtain ⟨q, hq, rfl⟩ := List.mem_map.mp m
        rw [h.own q hq] at hp; cases hp
      rw [upd_ne hne]; exact h.sep a m
    nd := h.nd }
  gg := fun b u e => by
    rw [upd_ne (ne_of_none (h.ex b u e) hp)]; exact e
  fr := fun b u _ e => by rw [upd_ne (ne_of_none e hp)]; exact e
  new := fun b u g e => by rw [upd_ne (ne_of_none e hp)]; exact g
  dm := fun b m => .inl m
  th := fun b u e => ⟨u, by rw [upd_ne (ne_of_none e hp)]; exact e⟩
/-- a new owned cell -/
theorem Stp.own {G : Hp} {S : Sto} {H : Hp} (h : Hold G S H) {p : Addr} (hp : H p = none) (o : HO) : Stp G S H G ((p, o) :: S) (upd H p o) where
  hold := {
    ex := fun b u e => by rw [upd_ne (ne_of_none (h.ex b u e) hp)]; exact h.ex b u e
    own := fun q m => by
      rcases List.mem_cons.mp m with rfl | m
      · exact upd_same
      · rw [upd_ne (ne_of_none (h.own q m) hp)]; exact h.own q m
    sep := fun a m => by
      rcases List.mem_cons.mp m with e | m
      · cases e
        exact h.ex.free hp
      · exact h.sep a m
    nd := by
      refine List.nodup_cons.mpr ⟨fun m => ?_, h.nd⟩
      obtain ⟨q, hq, e⟩ := List.mem_map.mp m
      have e' : q.1 = p := e
      have z := h.own q hq
      rw [e', hp] at z; cases z }
  gg := Same.refl G
  fr := fun b u _ e => by rw [upd_ne (ne_of_none e hp)]; exact e
  new := fun b u g _ => g
  dm := fun b m => by
    rcases List.mem_cons.mp m with e | m
    · cases e; exact .inr hp
    · exact .inl m
  th := fun b u e => ⟨u, by rw [upd_ne (ne_of_none e hp)]; exact e⟩

theorem nodup_key {S : Sto} (nd : (dom S).Nodup) {i j : Nat} {a : Addr} {o u : HO} (h1 : S[i]? = some (a, o)) (h2 : S[j]? = some (a, u)) : i = j := by
  have e1 : (dom S)[i]? = some a := by simp [dom, h1]
  have e2 : (dom S)[j]? = some a := by simp [dom, h2]
  obtain ⟨l1, q1⟩ := List.getElem?_eq_some_iff.mp e1
  obtain ⟨l2, q2⟩ := List.getElem?_eq_some_iff.mp e2
  exact (List.getElem_inj nd).mp (q1.trans q2.symm)
theorem dom_set {S : Sto} {i : Nat} {a : Addr} {o u : HO} (h : S[i]? = some (a, o)) : dom (S.set i (a, u)) = dom S := by
  unfold dom
  rw [List.map_set]
  refine List.ext_getElem? fun j => ?_
  by_cases hj : i = j
  · subst hj
    have hl : i < S.length := (List.getElem?_eq_some_iff.mp h).1
    rw [List.getElem?_set_self (by simpa using hl)]
    simp [h]
  · rw [List.getElem?_set_ne hj]
/-- an owned cell is written -/
theorem Stp.write {G : Hp} {S : Sto} {H : Hp} (h : Hold G S H) {i : Nat} {a : Addr} {o u : HO} (hi : S[i]? = some (a, o)) : Stp G S H G (S.set i (a, u)) (upd H a u) where
  hold := {
    ex := fun b v e => by
      have ne : b ≠ a := by
        rintro rfl
        have : b ∈ dom S := List.mem_map.mpr ⟨(b, o), List.mem_of_getElem? hi, rfl⟩
        rw [h.sep b this] at e; cases e
      rw [upd_ne ne]; exact h.ex b v e
    own := fun q m => by
      obtain ⟨j, hj⟩ := List.getElem?_of_mem m
      by_cases e : i = j
      · subst e
        have hl : i < S.length := (List.getElem?_eq_some_iff.mp hi).1
        rw [List.getElem?_set_self hl] at hj
        cases hj
        exact upd_same
      · rw [List.getElem?_set_ne e] at hj
        have ne : q.1 ≠ a := by
          intro z
          obtain ⟨q1, q2⟩ := q
          have z' : q1 = a := z
          subst z'
          exact e (nodup_key h.nd hi hj)
        rw [upd_ne ne]
        exact h.own q (List.mem_of_getElem? hj)
    sep := fun b m => by rw [dom_set hi] at m; exact h.sep b m
    nd := by rw [dom_set hi]; exact h.nd }
  gg := Same.refl G
  fr := fun b v hb e => by
    have ne : b ≠ a := by
      rintro rfl
      exact hb (List.mem_map.mpr ⟨(b, o), List.mem_of_getElem? hi, rfl⟩)
    rw [upd_ne ne]; exact e
  new := fun _ _ g _ => g
  dm := fun b m => by rw [dom_set hi] at m; exact .inl m
  th := fun b v e => by
    by_cases hb : b = a
    · exact ⟨u, by rw [hb]; exact upd_same⟩
    · exact ⟨v, by rw [upd_ne hb]; exact e⟩
/-- the newest own cell, younger than the base, is frozen -/
theorem Hold.freeze {G : Hp} {S : Sto} {H : Hp} {i : Nat} {a : Addr} {o : HO} (h : Hold G S H) (hi : S[i]? = some (a, o)) : Hold (upd G a o) (S.eraseIdx i) H where
  ex := fun b u e => by
    by_cases hb : b = a
    · subst hb; rw [upd_same] at e; cases e
      exact h.own (b, o) (List.mem_of_getElem? hi)
    · rw [upd_ne hb] at e; exact h.ex b u e
  own := fun q m => h.own q (List.mem_of_mem_eraseIdx m)
  sep := fun b m => by
    obtain ⟨q, hq, rfl⟩ := List.mem_map.mp m
    have ne : q.1 ≠ a := by
      intro z
      obtain ⟨j, hj⟩ := List.getElem?_of_mem hq
      obtain ⟨q1, q2⟩ := q
      have z' : q1 = a := z
      subst z'
      rw [List.getElem?_eraseIdx] at hj
      split at hj
      · rename_i hlt
        have := nodup_key h.nd hi hj
        omega
      · rename_i hlt
        have := nodup_key h.nd hi hj
        omega
    rw [upd_ne ne]
    exact h.sep _ (List.mem_map.mpr ⟨q, List.mem_of_mem_eraseIdx hq, rfl⟩)
  nd := by
    exact h.nd.sublist ((List.eraseIdx_sublist _ _).map _)
theorem Stp.freeze {G0 G : Hp} {S0 S : Sto} {H0 H : Hp} {i : Nat} {a : Addr} {o : HO} (s : Stp G0 S0 H0 G S H) (hi : S[i]? = some (a, o)) (hn : H0 a = none) : Stp G0 S0 H0 (upd G a o) (S.eraseIdx i) H where
  hold := s.hold.freeze hi
  gg := fun b u e => by
    have ne : b ≠ a := by
      rintro rfl
      have := s.hold.sep b (List.mem_map.mpr ⟨(b, o), List.mem_of_getElem? hi, rfl⟩)
      rw [s.gg b u e] at this; cases this
    rw [upd_ne ne]; exact s.gg b u e
  fr := s.fr
  new := fun b u g e => by
    have ne : b ≠ a := by rintro rfl; rw [hn] at e; cases e
    rw [upd_ne ne]; exact s.new b u g e
  dm := fun b m => by
    obtain ⟨q, hq, rfl⟩ := List.mem_map.mp m
    exact s.dm _ (List.mem_map.mpr ⟨q, List.mem_of_mem_eraseIdx hq, rfl⟩)
  th := s.th
end Gx

-- part GEval
set_option Elab.async false
set_option linter.all false
set_option maxRecDepth 100000
set_option maxHeartbeats 1000000
namespace Gx
open PySem PySem.Spec PyProof.Rows L2

/-! ### data and how a value bears it -/
class Rp (α : Type) where
  rp : PySem.W.Frag → α → V → Hp → Prop
  mono : ∀ {K : PySem.W.Frag} {x : α} {v : V} {G G' : Hp}, Same G G' → rp K x v G → rp K x v G'
open Rp (rp)
/-- data that is a value by itself -/
class Sc (α : Type) extends Rp α where
  toV : α → V
  rp_iff : ∀ {K : PySem.W.Frag} {x : α} {v : V} {G : Hp}, Rp.rp K x v G ↔ v = toV x
open Sc (toV)
instance : Sc Int where
  rp := fun _ x v _ => v = .int x
  mono := fun _ h => h
  toV := .int
  rp_iff := Iff.rfl
instance : Sc Bool where
  rp := fun _ x v _ => v = .bl x
  mono := fun _ h => h
  toV := .bl
  rp_iff := Iff.rfl
instance : Sc Str where
  rp := fun _ x v _ => v = .str x
  mono := fun _ h => h
  toV := .str
  rp_iff := Iff.rfl
instance : Sc Unit where
  rp := fun _ _ v _ => v = .non
  mono := fun _ h => h
  toV := fun _ => .non
  rp_iff := Iff.rfl
theorem Sc.refl {α : Type} [Sc α] {K : PySem.W.Frag} {x : α} {G : Hp} : rp K x (toV x) G := Sc.rp_iff.mpr rfl
theorem Pd.mono {α β : Type} {F F' : α → β → Prop} (h : ∀ a b, F a b → F' a b) : ∀ {l : List α} {m : List β}, Paired F l m → Paired F' l m
  | _, _, .nil => .nil
  | _, _, .cons r t => .cons (h _ _ r) (Pd.mono h t)
theorem Pd.get {α β : Type} {F : α → β → Prop} : ∀ {l : List α} {m : List β} {i : Nat} {y : β}, Paired F l m → m[i]? = some y → ∃ x, l[i]? = some x ∧ F x y
  | _, _, _, _, .nil, e => by simp at e
  | _, _, 0, _, .cons r _, e => by simp at e; subst e; exact ⟨_, rfl, r⟩
  | _, _, i + 1, y, .cons _ t, e => by
    obtain ⟨x, h1, h2⟩ := Pd.get (i := i) (y := y) t (by simpa using e)
    exact ⟨x, by simpa using h1, h2⟩
theorem Pd.getL {α β : Type} {F : α → β → Prop} : ∀ {l : List α} {m : List β} {i : Nat} {x : α}, Paired F l m → l[i]? = some x → ∃ y, m[i]? = some y ∧ F x y
  | _, _, _, _, .nil, e => by simp at e
  | _, _, 0, _, .cons r _, e => by simp at e; subst e; exact ⟨_, rfl, r⟩
  | _, _, i + 1, y, .cons _ t, e => by
    obtain ⟨x, h1, h2⟩ := Pd.getL (i := i) t (by simpa using e)
    exact ⟨x, by simpa using h1, h2⟩
theorem Pd.app {α β : Type} {F : α → β → Prop} : ∀ {l l' : List α} {m m' : List β}, Paired F l m → Paired F l' m' → Paired F (l ++ l') (m ++ m')
  | _, _, _, _, .nil, s => s
  | _, _, _, _, .cons r t, s => .cons r (Pd.app t s)
theorem Pd.take {α β : Type} {F : α → β → Prop} : ∀ {l : List α} {m : List β} (n : Nat), Paired F l m → Paired F (l.take n) (m.take n)
  | _, _, 0, _ => .nil
  | _, _, _ + 1, .nil => .nil
  | _, _, n + 1, .cons r t => .cons r (Pd.take n t)
theorem Pd.drop {α β : Type} {F : α → β → Prop} : ∀ {l : List α} {m : List β} (n : Nat), Paired F l m → Paired F (l.drop n) (m.drop n)
  | _, _, 0, r => r
  | _, _, _ + 1, .nil => .nil
  | _, _, n + 1, .cons _ t => Pd.drop n t
theorem Pd.set {α β : Type} {F : α → β → Prop} {x : α} {y : β} (r : F x y) : ∀ {l : List α} {m : List β} (i : Nat), Paired F l m → Paired F (l.set i x) (m.set i y)
  | _, _, _, .nil => .nil
  | _, _, 0, .cons _ t => .cons r t
  | _, _, i + 1, .cons q t => .cons q (Pd.set r i t)
theorem Pd.len {α β : Type} {F : α → β → Prop} : ∀ {l : List α} {m : List β}, Paired F l m → l.length = m.length
  | _, _, .nil => rfl
  | _, _, .cons _ t => by simp [Pd.len t]
theorem Pd.map {α β : Type} {F : α → β → Prop} (f : α → β) (h : ∀ x, F x (f x)) : ∀ l : List α, Paired F l (l.map f)
  | [] => .nil
  | x :: r => .cons (h x) (Pd.map f h r)
theorem Pd.eqMap {α β : Type} {F : α → β → Prop} {f : α → β} (h : ∀ x y, F x y → y = f x) : ∀ {l : List α} {m : List β}, Paired F l m → m = l.map f
  | _, _, .nil => rfl
  | _, _, .cons r t => by rw [List.map_cons, ← h _ _ r, ← Pd.eqMap h t]
/-- the items xs of a list's values vs -/
abbrev Its {α : Type} [Rp α] (K : PySem.W.Frag) (xs : List α) (vs : List V) (G : Hp) : Prop := Paired (fun x v => rp K x v G) xs vs
theorem Its.mono {α : Type} [Rp α] {K : PySem.W.Frag} {xs : List α} {vs : List V} {G G' : Hp} (e : Same G G') (h : Its K xs vs G) : Its K xs vs G' := Pd.mono (fun _ _ r => Rp.mono e r) h
theorem Its.sc {α : Type} [Sc α] {K : PySem.W.Frag} {xs : List α} {vs : List V} {G : Hp} (h : Its K xs vs G) : vs = xs.map toV := Pd.eqMap (fun _ _ r => Sc.rp_iff.mp r) h
theorem Its.ofSc {α : Type} [Sc α] {K : PySem.W.Frag} (xs : List α) {G : Hp} : Its K xs (xs.map toV) G := Pd.map toV (fun _ => Sc.refl) xs
instance {α : Type} [Rp α] : Rp (List α) where
  rp := fun K xs v G => ∃ a vs, v = .ref a ∧ G a = some (.lst vs) ∧ Its K xs vs G
  mono := fun e ⟨a, vs, h1, h2, h3⟩ => ⟨a, vs, h1, e _ _ h2, h3.mono e⟩
instance {α : Type} [Rp α] : Rp (Option α) where
  rp := fun K x v G => match x with
    | none => v = .non
    | some y => rp K y v G
  mono := fun {K x v G G'} e h => by
    cases x with
    | none => exact h
    | some y => exact Rp.mono e h
/-- the script: a list that is read only -/
structure Scr where
  ns : List Int
instance : Rp Scr where
  rp := fun K x v G => ∃ a, v = .ref a ∧ SqL K G a (x.ns.map V.int)
  mono := fun e ⟨a, h1, h2⟩ => ⟨a, h1, e.seq h2⟩
/-- tuples -/
structure P2 (α β : Type) where
  f0 : α
  f1 : β
  deriving DecidableEq
structure P3 (α β γ : Type) where
  f0 : α
  f1 : β
  f2 : γ
  deriving DecidableEq
structure P4 (α β γ δ : Type) where
  f0 : α
  f1 : β
  f2 : γ
  f3 : δ
  deriving DecidableEq
instance {α β : Type} [Rp α] [Rp β] : Rp (P2 α β) where
  rp := fun K x v G => ∃ a v0 v1, v = .ref a ∧ SqT K G a [v0, v1] ∧ rp K x.f0 v0 G ∧ rp K x.f1 v1 G
  mono := fun e ⟨a, v0, v1, h, h2, h3, h4⟩ => ⟨a, v0, v1, h, Evl_t e h2, Rp.mono e h3, Rp.mono e h4⟩
where
  Evl_t {K : PySem.W.Frag} {H H' : Hp} {a : Addr} {xs : List V} (e : Same H H') (h : SqT K H a xs) : SqT K H' a xs := by
    rcases h with (h | ⟨o, h⟩) | h
    · exact .inl (.inl (e _ _ h))
    · exact .inl (.inr ⟨o, e _ _ h⟩)
    · exact .inr h
theorem sameT {K : PySem.W.Frag} {H H' : Hp} {a : Addr} {xs : List V} (e : Same H H') (h : SqT K H a xs) : SqT K H' a xs := by
  rcases h with (h | ⟨o, h⟩) | h
  · exact .inl (.inl (e _ _ h))
  · exact .inl (.inr ⟨o, e _ _ h⟩)
  · exact .inr h
instance {α β γ : Type} [Rp α] [Rp β] [Rp γ] : Rp (P3 α β γ) where
  rp := fun K x v G => ∃ a v0 v1 v2, v = .ref a ∧ SqT K G a [v0, v1, v2] ∧ rp K x.f0 v0 G ∧ rp K x.f1 v1 G ∧ rp K x.f2 v2 G
  mono := fun e ⟨a, v0, v1, v2, h, h2, h3, h4, h5⟩ => ⟨a, v0, v1, v2, h, sameT e h2, Rp.mono e h3, Rp.mono e h4, Rp.mono e h5⟩
instance {α β γ δ : Type} [Rp α] [Rp β] [Rp γ] [Rp δ] : Rp (P4 α β γ δ) where
  rp := fun K x v G => ∃ a v0 v1 v2 v3, v = .ref a ∧ SqT K G a [v0, v1, v2, v3] ∧ rp K x.f0 v0 G ∧ rp K x.f1 v1 G ∧ rp K x.f2 v2 G ∧ rp K x.f3 v3 G
  mono := fun e ⟨a, v0, v1, v2, v3, h, h2, h3, h4, h5, h6⟩ => ⟨a, v0, v1, v2, v3, h, sameT e h2, Rp.mono e h3, Rp.mono e h4, Rp.mono e h5, Rp.mono e h6⟩

/-! ### the readings that are the machine's own -/
def cE (X : Cx) (e : Expr) : TE := fun σ H Q => ∀ pins s, Inv X pins σ H s → wpAny (model X.prog X.w) X.A (eval e X.env) (EP X pins σ Q) X.xe s
def cT (X : Cx) (e : Expr) : TT := fun σ H Q => ∀ pins s, Inv X pins σ H s → wpAny (model X.prog X.w) X.A (isTrue e X.env (eval e X.env)) (TP X pins σ Q) X.xe s
def cW (X : Cx) (e : Expr) : TT := fun σ H Q => ∀ whole pins s, Inv X pins σ H s → wpAny (model X.prog X.w) X.A (isTrue e X.env whole) (TP X pins σ Q) X.xe s
def cA (X : Cx) (es : List Expr) : TA := fun σ H Q => ∀ pos pins s, Inv X pins σ H s → wpAny (model X.prog X.w) X.A (spliced (backTo pos (starEach es X.env))) (AP X pins σ Q) X.xe s
def cS (X : Cx) (st : Stmt) : TS := fun D σ H => ∀ pins s, Inv X pins σ H s → wpAny (model X.prog X.w) X.A (exec st X.env) (SP X pins D) X.xe s
def cB (X : Cx) (sts : List Stmt) : TS := fun D σ H => ∀ pins s, Inv X pins σ H s → wpAny (model X.prog X.w) X.A (execs sts X.env) (SP X pins D) X.xe s
section
variable {X : Cx}
theorem pE (e : Expr) : PE X e (cE X e) := ⟨fun pins s σ H Q I h => h pins s I⟩
theorem pT (e : Expr) : PT X e (cT X e) := ⟨fun pins s σ H Q I h => h pins s I⟩
theorem pW (e : Expr) : PW X e (cW X e) := ⟨fun wh pins s σ H Q I h => h wh pins s I⟩
theorem pA (es : List Expr) : PA X es (cA X es) := ⟨fun pos pins s σ H Q I h => h pos pins s I⟩
theorem pS (st : Stmt) : PS X st (cS X st) := ⟨fun pins s σ H D I h => h pins s I⟩
theorem pB (sts : List Stmt) : PSs X sts (cB X sts) := ⟨fun pins s σ H D I h => h pins s I⟩
theorem toE {e : Expr} {t : TE} (p : PE X e t) {σ : St} {H : Hp} {Q : VK} (h : t σ H Q) : cE X e σ H Q := fun pins s I => p.run pins s σ H Q I h
theorem toT {e : Expr} {t : TT} (p : PT X e t) {σ : St} {H : Hp} {Q : Bool → Hp → Prop} (h : t σ H Q) : cT X e σ H Q := fun pins s I => p.run pins s σ H Q I h
theorem toW {e : Expr} {t : TT} (p : PW X e t) {σ : St} {H : Hp} {Q : Bool → Hp → Prop} (h : t σ H Q) : cW X e σ H Q := fun wh pins s I => p.run wh pins s σ H Q I h
theorem toA {es : List Expr} {t : TA} (p : PA X es t) {σ : St} {H : Hp} {Q : List V → Hp → Prop} (h : t σ H Q) : cA X es σ H Q := fun pos pins s I => p.run pos pins s σ H Q I h
theorem toS {st : Stmt} {t : TS} (p : PS X st t) {σ : St} {H : Hp} {D : Ends} (h : t D σ H) : cS X st D σ H := fun pins s I => p.run pins s σ H D I h
theorem toB {sts : List Stmt} {t : TS} (p : PSs X sts t) {σ : St} {H : Hp} {D : Ends} (h : t D σ H) : cB X sts D σ H := fun pins s I => p.run pins s σ H D I h
end

/-! ### what an expression evaluates to -/
def Ev {α : Type} [Rp α] (K : PySem.W.Frag) (te : TE) (σ : St) (G : Hp) (S : Sto) (x : α) (S' : Sto) : Prop :=
  ∀ G1 H, Same G G1 → Hold G1 S H → ∀ Q : VK, (∀ v G' H', Stp G1 S H G' S' H' → rp K x v G' → Q v H') → te σ H Q
def EvT (tt : TT) (σ : St) (G : Hp) (S : Sto) (b : Bool) (S' : Sto) : Prop :=
  ∀ G1 H, Same G G1 → Hold G1 S H → ∀ Q : Bool → Hp → Prop, (∀ G' H', Stp G1 S H G' S' H' → Q b H') → tt σ H Q
/-- arguments: what is true of their values -/
def EvA (ta : TA) (σ : St) (G : Hp) (S : Sto) (P : List V → Hp → Prop) (S' : Sto) : Prop :=
  ∀ G1 H, Same G G1 → Hold G1 S H → ∀ Q : List V → Hp → Prop, (∀ vs G' H', Stp G1 S H G' S' H' → P vs G' → Q vs H') → ta σ H Q
section
variable {K : PySem.W.Frag} {σ : St} {G G' : Hp} {S S1 S2 S3 : Sto} {te ta tb : TE}
theorem Ev.mono {α : Type} [Rp α] {x : α} (h : Ev K te σ G S x S1) (e : Same G G') : Ev K te σ G' S x S1 := fun G1 H a => h G1 H (e.trans a)
theorem EvT.mono {tt : TT} {b : Bool} (h : EvT tt σ G S b S1) (e : Same G G') : EvT tt σ G' S b S1 := fun G1 H a => h G1 H (e.trans a)
theorem Ev.is {α : Type} [Rp α] {x y : α} (h : Ev K te σ G S x S1) (e : x = y) : Ev K te σ G S y S1 := e ▸ h
theorem EvT.is {tt : TT} {a b : Bool} (h : EvT tt σ G S a S1) (e : a = b) : EvT tt σ G S b S1 := e ▸ h
/-- one value after another -/
theorem ev_then {α : Type} [Rp α] {x : α} {G1 : Hp} {H : Hp} (h : Ev K te σ G S x S1) (e : Same G G1) (hd : Hold G1 S H) {Q : VK} (k : ∀ v G' H', Stp G1 S H G' S1 H' → rp K x v G' → Q v H') : te σ H Q := h G1 H e hd Q k
theorem ev_op {α β γ : Type} [Rp α] [Rp β] [Rp γ] {x : α} {y : β} {z : γ} {r : R2} (ha : Ev K ta σ G S x S1) (hb : Ev K tb σ G S1 y S2)
    (hr : ∀ v u G1 H1, Same G G1 → Hold G1 S2 H1 → rp K x v G1 → rp K y u G1 → ∀ Q : VK, (∀ w G' H', Stp G1 S2 H1 G' S3 H' → rp K z w G' → Q w H') → r v u H1 Q) : Ev K (tOp r ta tb) σ G S z S3 := by
  intro G1 H e hd Q k
  refine ha G1 H e hd _ fun v G2 H2 s2 r2 => ?_
  refine hb G2 H2 (e.trans s2.gg) s2.hold _ fun u G3 H3 s3 r3 => ?_
  exact hr v u G3 H3 ((e.trans s2.gg).trans s3.gg) s3.hold (Rp.mono s3.gg r2) r3 Q fun w G4 H4 s4 r4 => k w G4 H4 ((s2.trans s3).trans s4) r4
/-- two scalars and a scalar -/
theorem ev_opS {α β γ : Type} [Sc α] [Sc β] [Sc γ] {x : α} {y : β} {z : γ} {r : R2} (ha : Ev K ta σ G S x S1) (hb : Ev K tb σ G S1 y S2)
    (hr : ∀ (H : Hp) (Q : VK), Q (toV z) H → r (toV x) (toV y) H Q) : Ev K (tOp r ta tb) σ G S z S2 :=
  ev_op ha hb fun v u G1 H1 e hd rv ru Q k => by
    rw [Sc.rp_iff.mp rv, Sc.rp_iff.mp ru]
    exact hr H1 Q (k _ G1 H1 (.refl hd) Sc.refl)
theorem ev_un {α γ : Type} [Rp α] [Rp γ] {x : α} {z : γ} {r : V → Hp → VK → Prop} (ha : Ev K ta σ G S x S1)
    (hr : ∀ v G1 H1, Same G G1 → Hold G1 S1 H1 → rp K x v G1 → ∀ Q : VK, (∀ w G' H', Stp G1 S1 H1 G' S2 H' → rp K z w G' → Q w H') → r v H1 Q) : Ev K (tUn r ta) σ G S z S2 := by
  intro G1 H e hd Q k
  refine ha G1 H e hd _ fun v G2 H2 s2 r2 => ?_
  exact hr v G2 H2 (e.trans s2.gg) s2.hold r2 Q fun w G4 H4 s4 r4 => k w G4 H4 (s2.trans s4) r4
/-- a scalar's evaluation may read an owned cell as if it were frozen -/
theorem Ev.borrow {γ : Type} [Sc γ] {z : γ} {i : Nat} {a : Addr} {o : HO} (hi : S[i]? = some (a, o)) (h : Ev K te σ (upd G a o) (S.eraseIdx i) z (S.eraseIdx i)) : Ev K te σ G S z S := by
  intro G1 H e hd Q k
  have hf := hd.freeze hi
  have e1 : Same (upd G a o) (upd G1 a o) := fun b u q => by
    by_cases hb : b = a
    · subst hb; rw [upd_same] at q ⊢; exact q
    · rw [upd_ne hb] at q ⊢; exact e b u q
  refine h (upd G1 a o) H e1 hf Q fun v G' H' s r => ?_
  refine k v G1 H' ?_ (Sc.rp_iff.mpr (Sc.rp_iff.mp r))
  have ina : a ∈ dom S := List.mem_map.mpr ⟨(a, o), List.mem_of_getElem? hi, rfl⟩
  have hHa : H a = some o := hd.own (a, o) (List.mem_of_getElem? hi)
  have hG1 : Same G1 H' := fun b u q => by
    refine s.hold.ex b u (s.gg b u ?_)
    have ne : b ≠ a := by rintro rfl; rw [hd.sep b ina] at q; cases q
    rw [upd_ne ne]; exact q
  have hH'a : H' a = some o := s.hold.ex a o (s.gg a o upd_same)
  have hin : ∀ p ∈ S, p ∈ S.eraseIdx i ∨ p = (a, o) := fun p hp => by
    obtain ⟨j, hj⟩ := List.getElem?_of_mem hp
    by_cases hji : j = i
    · subst hji
      rw [hi] at hj; exact .inr (Option.some.inj hj).symm
    · left
      rcases Nat.lt_or_ge j i with q | q
      · exact List.mem_of_getElem? (i := j) (by rw [List.getElem?_eraseIdx, if_pos q]; exact hj)
      · have q' : i < j := by omega
        exact List.mem_of_getElem? (i := j - 1) (by rw [List.getElem?_eraseIdx, if_neg (by omega), show j - 1 + 1 = j by omega]; exact hj)
  have hdm : ∀ b, b ∈ dom S → b ∈ dom (S.eraseIdx i) ∨ b = a := fun b m => by
    obtain ⟨p, hp, rfl⟩ := List.mem_map.mp m
    rcases hin p hp with q | q
    · exact .inl (List.mem_map.mpr ⟨p, q, rfl⟩)
    · exact .inr (by rw [q])
  refine ⟨⟨hG1, fun p hp => ?_, hd.sep, hd.nd⟩, Same.refl G1, fun b u hb q => ?_, fun _ _ g _ => g, fun b m => .inl m, s.th⟩
  · rcases hin p hp with q | q
    · exact s.hold.own p q
    · rw [q]; exact hH'a
  · exact s.fr b u (fun m => hb (by
      obtain ⟨p, hp, rfl⟩ := List.mem_map.mp m
      exact List.mem_map.mpr ⟨p, List.mem_of_mem_eraseIdx hp, rfl⟩)) q
end
end Gx

-- part GRules
set_option Elab.async false
set_option linter.all false
set_option maxRecDepth 100000
set_option maxHeartbeats 1000000
namespace Gx
open PySem PySem.Spec PyProof.Rows L2
open Rp (rp)
open Sc (toV)

abbrev EX (X : Cx) {α : Type} [Rp α] (e : Expr) (σ : St) (G : Hp) (S : Sto) (x : α) (S' : Sto) : Prop := Ev X.K (cE X e) σ G S x S'
abbrev ET (X : Cx) (e : Expr) (σ : St) (G : Hp) (S : Sto) (b : Bool) (S' : Sto) : Prop := EvT (cT X e) σ G S b S'
abbrev EW (X : Cx) (e : Expr) (σ : St) (G : Hp) (S : Sto) (b : Bool) (S' : Sto) : Prop := EvT (cW X e) σ G S b S'
abbrev EA (X : Cx) (es : List Expr) (σ : St) (G : Hp) (S : Sto) (P : List V → Hp → Prop) (S' : Sto) : Prop := EvA (cA X es) σ G S P S'
section
variable {X : Cx} {σ : St} {G : Hp} {S S1 S2 S3 : Sto} {e a b c : Expr} {es rest : List Expr} {pos : Pos}
theorem Ev.to {α : Type} [Rp α] {x : α} {t : TE} (p : PE X e t) (h : Ev X.K t σ G S x S1) : EX X e σ G S x S1 := fun G1 H e hd Q k => toE p (h G1 H e hd Q k)
theorem EvT.to {k : Bool} {t : TT} (p : PT X e t) (h : EvT t σ G S k S1) : ET X e σ G S k S1 := fun G1 H e hd Q k => toT p (h G1 H e hd Q k)
theorem EvT.toW {k : Bool} {t : TT} (p : PW X e t) (h : EvT t σ G S k S1) : EW X e σ G S k S1 := fun G1 H e hd Q k => Gx.toW p (h G1 H e hd Q k)
theorem EvA.to {P : List V → Hp → Prop} {t : TA} (p : PA X es t) (h : EvA t σ G S P S1) : EA X es σ G S P S1 := fun G1 H e hd Q k => toA p (h G1 H e hd Q k)
theorem fromE {α : Type} [Rp α] {x : α} {t : TE} (h : EX X e σ G S x S1) : EX X e σ G S x S1 := h

/-! ### names, constants -/
theorem ev_var {α : Type} [Rp α] {K : PySem.W.Frag} {x : α} {i : Nat} {v : V} (h : σ[i]? = some (some v)) (r : rp K x v G) : Ev K (tVar i) σ G S x S :=
  fun G1 H e hd Q k => ⟨v, h, k v G1 H (.refl hd) (Rp.mono e r)⟩
theorem ev_c {α : Type} [Sc α] {K : PySem.W.Frag} {x : α} : Ev K (tC (toV x)) σ G S x S := fun G1 H e hd Q k => k _ G1 H (.refl hd) Sc.refl
theorem ex_var {α : Type} [Rp α] {x : α} (i : Nat) {n : Str} {v : V} (h : σ[i]? = some (some v)) (r : rp X.K x v G) (hN : X.N[i]? = some n := by rfl)
    (hv : Vis X.env.scope n := by first | exact Or.inl rfl | exact Or.inr (Or.inl rfl) | exact Or.inr (Or.inr rfl)) (hd : (n == ("__debug__" : Str)) = false := by decide) (hcd : (n == ("__classdict__" : Str)) = false := by decide) :
    EX X (.Name n pos) σ G S x S := Ev.to (pe_var hN hv hd hcd) (ev_var h r)
/-- a name that holds a scalar -/
theorem ex_nm {α : Type} [Sc α] {x : α} (i : Nat) {n : Str} (h : σ[i]? = some (some (toV x))) (hN : X.N[i]? = some n := by rfl)
    (hv : Vis X.env.scope n := by first | exact Or.inl rfl | exact Or.inr (Or.inl rfl) | exact Or.inr (Or.inr rfl)) (hd : (n == ("__debug__" : Str)) = false := by decide) (hcd : (n == ("__classdict__" : Str)) = false := by decide) :
    EX X (.Name n pos) σ G S x S := ex_var i h Sc.refl hN hv hd hcd
theorem ex_int {n : Int} {j : Nat} : EX X (.Constant (.int n) j pos) σ G S n S := Ev.to pe_int (ev_c (x := n))
theorem ex_bl {n : Bool} {j : Nat} : EX X (.Constant (.bool n) j pos) σ G S n S := Ev.to pe_bl (ev_c (x := n))
theorem ex_str {n : Str} {j : Nat} : EX X (.Constant (.str n) j pos) σ G S n S := Ev.to pe_str (ev_c (x := n))
theorem ex_non {j : Nat} : EX X (.Constant .none j pos) σ G S () S := Ev.to pe_non (ev_c (x := ()))
theorem ex_gl {α : Type} [Sc α] {x : α} {n : Str} {u : Value} (hm : X.mg n = some u) (r : RelV (toV x) u) (hg : Gl X n := by rfl) (hd : (n == ("__debug__" : Str)) = false := by decide) : EX X (.Name n pos) σ G S x S :=
  Ev.to (pe_glob hg hm r hd) ev_c

/-! ### whole numbers -/
theorem ex_add {i j : Int} (ha : EX X a σ G S i S1) (hb : EX X b σ G S1 j S2) : EX X (.BinOp a .Add b pos) σ G S (i + j) S2 := Ev.to (pe_op op_add (pE a) (pE b)) (ev_opS ha hb fun H Q q => ⟨i, j, rfl, rfl, q⟩)
theorem ex_sub {i j : Int} (ha : EX X a σ G S i S1) (hb : EX X b σ G S1 j S2) : EX X (.BinOp a .Sub b pos) σ G S (i - j) S2 := Ev.to (pe_op op_sub (pE a) (pE b)) (ev_opS ha hb fun H Q q => ⟨i, j, rfl, rfl, q⟩)
theorem ex_mul {i j : Int} (ha : EX X a σ G S i S1) (hb : EX X b σ G S1 j S2) (hc : CMulW i j) : EX X (.BinOp a .Mult b pos) σ G S (i * j) S2 := Ev.to (pe_op op_mulW (pE a) (pE b)) (ev_opS ha hb fun H Q q => ⟨i, j, rfl, rfl, hc, q⟩)
/-- one factor below 2^64: the other of any size -/
theorem ex_mulS {i j : Int} (ha : EX X a σ G S i S1) (hb : EX X b σ G S1 j S2) (hc : CMul i j) : EX X (.BinOp a .Mult b pos) σ G S (i * j) S2 := Ev.to (pe_op op_mul (pE a) (pE b)) (ev_opS ha hb fun H Q q => ⟨i, j, rfl, rfl, hc, q⟩)
theorem ex_div {i j : Int} (ha : EX X a σ G S i S1) (hb : EX X b σ G S1 j S2) (hc : CDivW i j) : EX X (.BinOp a .FloorDiv b pos) σ G S (i / j) S2 := Ev.to (pe_op op_fdivW (pE a) (pE b)) (ev_opS ha hb fun H Q q => ⟨i, j, rfl, rfl, hc, q⟩)
theorem ex_mod {i j : Int} (ha : EX X a σ G S i S1) (hb : EX X b σ G S1 j S2) (hc : 0 < j) : EX X (.BinOp a .Mod b pos) σ G S (i % j) S2 := Ev.to (pe_op op_mod (pE a) (pE b)) (ev_opS ha hb fun H Q q => ⟨i, j, rfl, rfl, hc, q⟩)
theorem ex_pow {i j : Int} (ha : EX X a σ G S i S1) (hb : EX X b σ G S1 j S2) (hc : CPow i j) : EX X (.BinOp a .Pow b pos) σ G S (i ^ j.toNat) S2 := Ev.to (pe_op op_pow (pE a) (pE b)) (ev_opS ha hb fun H Q q => ⟨i, j, rfl, rfl, hc, q⟩)
theorem ex_neg {i : Int} (ha : EX X a σ G S i S1) : EX X (.UnaryOp .USub a pos) σ G S (-i) S1 := Ev.to (pe_un un_neg (pE a)) (ev_un ha fun v G1 H1 e hd rv Q k => ⟨i, rv, k _ G1 H1 (.refl hd) rfl⟩)

/-! ### comparisons -/
theorem ex_cmp {op : CmpOp} {r : R2} {k : Bool} (ho : OpR X (compareOp op) r) (hm : behindInMarks op b = false) (h : Ev X.K (tOp r (cE X a) (cE X b)) σ G S k S1) : EX X (.Compare a [op] [b] pos) σ G S k S1 := Ev.to (pe_cmpR ho (pE a) (pE b) hm) h
theorem evt_of {k : Bool} {t : TE} {K : PySem.W.Frag} (h : Ev K t σ G S k S1) : EvT (tTest t) σ G S k S1 := fun G1 H e hd Q q => h G1 H e hd _ fun v G' H' s r => ⟨k, r, q G' H' s⟩
theorem et_cmp {op : CmpOp} {r : R2} {k : Bool} (ho : OpR X (compareOp op) r) (hm : behindInMarks op b = false) (h : Ev X.K (tOp r (cE X a) (cE X b)) σ G S k S1) : ET X (.Compare a [op] [b] pos) σ G S k S1 := EvT.to (pt_cmpR ho (pE a) (pE b) hm) (evt_of h)
theorem vl_I0 {i j : Int} {g : Int → Int → Bool} (ha : EX X a σ G S i S1) (hb : EX X b σ G S1 j S2) : Ev X.K (tOp (rI0 fun i j => .bl (g i j)) (cE X a) (cE X b)) σ G S (g i j) S2 := ev_opS ha hb fun H Q q => ⟨i, j, rfl, rfl, q⟩
theorem ex_lt {i j : Int} (ha : EX X a σ G S i S1) (hb : EX X b σ G S1 j S2) : EX X (.Compare a [.Lt] [b] pos) σ G S (decide (i < j)) S2 := ex_cmp op_lt (nomark _) (vl_I0 ha hb)
theorem ex_le {i j : Int} (ha : EX X a σ G S i S1) (hb : EX X b σ G S1 j S2) : EX X (.Compare a [.LtE] [b] pos) σ G S (decide (i ≤ j)) S2 := ex_cmp op_le (nomark _) (vl_I0 ha hb)
theorem ex_gt {i j : Int} (ha : EX X a σ G S i S1) (hb : EX X b σ G S1 j S2) : EX X (.Compare a [.Gt] [b] pos) σ G S (decide (j < i)) S2 := ex_cmp op_gt (nomark _) (vl_I0 ha hb)
theorem ex_ge {i j : Int} (ha : EX X a σ G S i S1) (hb : EX X b σ G S1 j S2) : EX X (.Compare a [.GtE] [b] pos) σ G S (decide (j ≤ i)) S2 := ex_cmp op_ge (nomark _) (vl_I0 ha hb)
theorem et_lt {i j : Int} (ha : EX X a σ G S i S1) (hb : EX X b σ G S1 j S2) : ET X (.Compare a [.Lt] [b] pos) σ G S (decide (i < j)) S2 := et_cmp op_lt (nomark _) (vl_I0 ha hb)
theorem et_le {i j : Int} (ha : EX X a σ G S i S1) (hb : EX X b σ G S1 j S2) : ET X (.Compare a [.LtE] [b] pos) σ G S (decide (i ≤ j)) S2 := et_cmp op_le (nomark _) (vl_I0 ha hb)
theorem et_gt {i j : Int} (ha : EX X a σ G S i S1) (hb : EX X b σ G S1 j S2) : ET X (.Compare a [.Gt] [b] pos) σ G S (decide (j < i)) S2 := et_cmp op_gt (nomark _) (vl_I0 ha hb)
theorem et_ge {i j : Int} (ha : EX X a σ G S i S1) (hb : EX X b σ G S1 j S2) : ET X (.Compare a [.GtE] [b] pos) σ G S (decide (j ≤ i)) S2 := et_cmp op_ge (nomark _) (vl_I0 ha hb)
/-- scalars of one kind that == tells apart by their values -/
class Eqb (α : Type) extends Sc α where
  dec : DecidableEq α
  ok : ∀ x y : α, scal (toV x) (toV y) = true ∧ decide (toV x = toV y) = @decide (x = y) (dec x y)
instance : Eqb Int where
  dec := inferInstance
  ok := fun x y => ⟨rfl, by
    rw [Bool.eq_iff_iff, decide_eq_true_iff, decide_eq_true_iff]
    exact ⟨fun h => by cases h; rfl, fun h => by rw [h]⟩⟩
instance : Eqb Str where
  dec := inferInstance
  ok := fun x y => ⟨rfl, by
    rw [Bool.eq_iff_iff, decide_eq_true_iff, decide_eq_true_iff]
    exact ⟨fun h => by cases h; rfl, fun h => by rw [h]⟩⟩
instance : Eqb Bool where
  dec := inferInstance
  ok := fun x y => ⟨rfl, by
    rw [Bool.eq_iff_iff, decide_eq_true_iff, decide_eq_true_iff]
    exact ⟨fun h => by cases h; rfl, fun h => by rw [h]⟩⟩
theorem vl_eq {α : Type} [q : Eqb α] [d : DecidableEq α] {x y : α} (ha : EX X a σ G S x S1) (hb : EX X b σ G S1 y S2) : Ev X.K (tOp rEq (cE X a) (cE X b)) σ G S (decide (x = y)) S2 := by
  refine ev_opS ha hb fun H Q k => ⟨(q.ok x y).1, ?_⟩
  have e := (q.ok x y).2
  have e2 : @decide (x = y) (q.dec x y) = @decide (x = y) (d x y) := by congr
  rw [e, e2]; exact k
theorem vl_ne {α : Type} [q : Eqb α] [d : DecidableEq α] {x y : α} (ha : EX X a σ G S x S1) (hb : EX X b σ G S1 y S2) : Ev X.K (tOp rNe (cE X a) (cE X b)) σ G S (!decide (x = y)) S2 := by
  refine ev_opS ha hb fun H Q k => ⟨(q.ok x y).1, ?_⟩
  have e := (q.ok x y).2
  have e2 : @decide (x = y) (q.dec x y) = @decide (x = y) (d x y) := by congr
  rw [e, e2]; exact k
theorem ex_eq {α : Type} [Eqb α] [DecidableEq α] {x y : α} (ha : EX X a σ G S x S1) (hb : EX X b σ G S1 y S2) : EX X (.Compare a [.Eq] [b] pos) σ G S (decide (x = y)) S2 := ex_cmp op_eq (nomark _) (vl_eq ha hb)
theorem ex_ne {α : Type} [Eqb α] [DecidableEq α] {x y : α} (ha : EX X a σ G S x S1) (hb : EX X b σ G S1 y S2) : EX X (.Compare a [.NotEq] [b] pos) σ G S (!decide (x = y)) S2 := ex_cmp op_ne (nomark _) (vl_ne ha hb)
theorem et_eq {α : Type} [Eqb α] [DecidableEq α] {x y : α} (ha : EX X a σ G S x S1) (hb : EX X b σ G S1 y S2) : ET X (.Compare a [.Eq] [b] pos) σ G S (decide (x = y)) S2 := et_cmp op_eq (nomark _) (vl_eq ha hb)
theorem et_ne {α : Type} [Eqb α] [DecidableEq α] {x y : α} (ha : EX X a σ G S x S1) (hb : EX X b σ G S1 y S2) : ET X (.Compare a [.NotEq] [b] pos) σ G S (!decide (x = y)) S2 := et_cmp op_ne (nomark _) (vl_ne ha hb)

/-! ### and, or, not, if -/
theorem evt_and {t u : TT} {x y : Bool} (h : EvT t σ G S x S1) (h2 : x = true → EvT u σ G S1 y S1) : EvT (tAnd t u) σ G S (x && y) S1 := fun G1 H e hd Q q => h G1 H e hd _ fun G' H' s => by
  cases x with
  | true =>
    show u σ H' Q
    exact h2 rfl G' H' (e.trans s.gg) s.hold Q fun G2 H2 s2 => q G2 H2 (s.trans s2)
  | false =>
    show Q false H'
    exact q G' H' s
theorem evt_or {t u : TT} {x y : Bool} (h : EvT t σ G S x S1) (h2 : x = false → EvT u σ G S1 y S1) : EvT (tOr t u) σ G S (x || y) S1 := fun G1 H e hd Q q => h G1 H e hd _ fun G' H' s => by
  cases x with
  | false =>
    show u σ H' Q
    exact h2 rfl G' H' (e.trans s.gg) s.hold Q fun G2 H2 s2 => q G2 H2 (s.trans s2)
  | true =>
    show Q true H'
    exact q G' H' s
theorem ew_and1 {x : Bool} (h : ET X a σ G S x S1) : EW X (.BoolOp .And [a] pos) σ G S x S1 := EvT.toW (pw_and1 (pT a)) h
theorem ew_or1 {x : Bool} (h : ET X a σ G S x S1) : EW X (.BoolOp .Or [a] pos) σ G S x S1 := EvT.toW (pw_or1 (pT a)) h
theorem ew_and {x y : Bool} (h : ET X a σ G S x S1) (h2 : x = true → EW X (.BoolOp .And (b :: rest) pos) σ G S1 y S1) : EW X (.BoolOp .And (a :: b :: rest) pos) σ G S (x && y) S1 := EvT.toW (pw_and (pT a) (pW _)) (evt_and h h2)
theorem ew_or {x y : Bool} (h : ET X a σ G S x S1) (h2 : x = false → EW X (.BoolOp .Or (b :: rest) pos) σ G S1 y S1) : EW X (.BoolOp .Or (a :: b :: rest) pos) σ G S (x || y) S1 := EvT.toW (pw_or (pT a) (pW _)) (evt_or h h2)
theorem et_w {x : Bool} (h : EW X e σ G S x S1) : ET X e σ G S x S1 := EvT.to (pW e).pt h
theorem et_not {x : Bool} (h : ET X a σ G S x S1) : ET X (.UnaryOp .Not a pos) σ G S (!x) S1 := EvT.to (pt_not (pT a)) (fun G1 H e hd Q q => h G1 H e hd _ fun G' H' s => q G' H' s)
/-- an expression whose value is True or False, as a test -/
theorem et_val {x : Bool} (h : EX X e σ G S x S1) (he : ∀ whole, isTrue e X.env whole = (do let v ← whole; standAt e.pos; holding [v] (truthy v)) := by intro _; rfl) : ET X e σ G S x S1 :=
  EvT.to (pt_val (pE e) he) (evt_of h)
theorem ex_one {op} {α : Type} [Rp α] {x : α} (h : EX X a σ G S x S1) : EX X (.BoolOp op [a] pos) σ G S x S1 := Ev.to (pe_one (pE a)) h
theorem ex_and {x y : Bool} (h : EX X a σ G S x S1) (h2 : x = true → EX X (.BoolOp .And (b :: rest) pos) σ G S1 y S1) : EX X (.BoolOp .And (a :: b :: rest) pos) σ G S (x && y) S1 :=
  Ev.to (pe_and (pE a) (pE _)) fun G1 H e hd Q q => h G1 H e hd _ fun v G' H' s r => ⟨x, r, by
    cases x with
    | true => exact h2 rfl G' H' (e.trans s.gg) s.hold Q fun w G2 H2 s2 r2 => q w G2 H2 (s.trans s2) r2
    | false => exact q _ G' H' s rfl⟩
theorem ex_or {x y : Bool} (h : EX X a σ G S x S1) (h2 : x = false → EX X (.BoolOp .Or (b :: rest) pos) σ G S1 y S1) : EX X (.BoolOp .Or (a :: b :: rest) pos) σ G S (x || y) S1 :=
  Ev.to (pe_or (pE a) (pE _)) fun G1 H e hd Q q => h G1 H e hd _ fun v G' H' s r => ⟨x, r, by
    cases x with
    | false => exact h2 rfl G' H' (e.trans s.gg) s.hold Q fun w G2 H2 s2 r2 => q w G2 H2 (s.trans s2) r2
    | true => exact q _ G' H' s rfl⟩
theorem ex_not {x : Bool} (h : EX X a σ G S x S1) : EX X (.UnaryOp .Not a pos) σ G S (!x) S1 :=
  Ev.to (pe_not (pE a)) fun G1 H e hd Q q => h G1 H e hd _ fun v G' H' s r => ⟨x, r, q _ G' H' s rfl⟩
theorem ex_if {α : Type} [Rp α] {k : Bool} {x y : α} (h : ET X c σ G S k S1) (h1 : k = true → EX X a σ G S1 x S2) (h2 : k = false → EX X b σ G S1 y S2) : EX X (.IfExp c a b pos) σ G S (bif k then x else y) S2 :=
  Ev.to (pe_ifExp (pT c) (pE a) (pE b)) fun G1 H e hd Q q => h G1 H e hd _ fun G' H' s => by
    cases k with
    | true => exact h1 rfl G' H' (e.trans s.gg) s.hold Q fun w G2 H2 s2 r2 => q w G2 H2 (s.trans s2) r2
    | false => exact h2 rfl G' H' (e.trans s.gg) s.hold Q fun w G2 H2 s2 r2 => q w G2 H2 (s.trans s2) r2

/-! ### arguments, calls -/
def A0 : List V → Hp → Prop := fun vs _ => vs = []
def A1 {α : Type} [Rp α] (K : PySem.W.Frag) (x : α) (P : List V → Hp → Prop) : List V → Hp → Prop := fun vs G => ∃ v r, vs = v :: r ∧ rp K x v G ∧ P r G
/-- an owned object, named by its address -/
structure Ow where
  a : Addr
instance : Sc Ow where
  rp := fun _ x v _ => v = .ref x.a
  mono := fun _ h => h
  toV := fun x => .ref x.a
  rp_iff := Iff.rfl
theorem ea_nil : EA X [] σ G S A0 S := EvA.to pa_nil fun G1 H e hd Q q => q [] G1 H (.refl hd) rfl
theorem ea_cons {α : Type} [Rp α] {x : α} {P : List V → Hp → Prop} (h : EX X e σ G S x S1) (hr : EA X es σ G S1 P S2) (hs : starEach (e :: es) X.env = (false, eval e X.env) :: starEach es X.env := by rfl) : EA X (e :: es) σ G S (A1 X.K x P) S2 :=
  EvA.to (pa_cons (pE e) (pA es) hs) fun G1 H e hd Q q => h G1 H e hd _ fun v G' H' s r => hr G' H' (e.trans s.gg) s.hold _ fun vs G2 H2 s2 r2 => q (v :: vs) G2 H2 (s.trans s2) ⟨v, vs, rfl, Rp.mono s2.gg r, r2⟩
/-- a def's promise as a step: from arguments of which A holds to the data y -/
def Does {β : Type} [Rp β] (K : PySem.W.Frag) (sp : Sp) (A : List V → Hp → Prop) (S : Sto) (y : β) (S' : Sto) : Prop :=
  ∀ vs G H Q E, Hold G S H → A vs G → (∀ v G' H', Stp G S H G' S' H' → rp K y v G' → Q v H') → sp vs H Q E
theorem ex_call {β : Type} [Rp β] {y : β} {x : Str} {p : Pos} {f : Addr} {fd : FuncData} {ps : List Str} {sp : Sp} {CX : CXT} {k : Nat} {A : List V → Hp → Prop} (D : Does X.K sp A S1 y S2)
    (F : FnOk X.prog X.w X.K X.mg X.base CX k f fd ps sp) (hr : Room k X.A) (hm : X.mg x = some (.ref f)) (hk : PySem.W.keepIn X.K (.ref f) = true) (hb : Binds X.K fd ps []) {E : XK} (hx : Passes CX X E) (ha : EA X (e :: es) σ G S A S1) (hg : Gl X x := by rfl) (hdb : (x == ("__debug__" : Str)) = false := by decide)
    (hpl : (backTo pos (starEach es X.env)).any (·.1) = false := by rfl) (he : starEach (e :: es) X.env = (false, eval e X.env) :: starEach es X.env := by rfl) : EX X (.Call (.Name x p) (e :: es) [] pos) σ G S y S2 :=
  Ev.to (pe_call F hr hg hm hk hb .nil hx (pA (e :: es)) (hdb := hdb) (he := he) (hpl := hpl)) fun G1 H e hd Q q => ha G1 H e hd _ fun vs G2 H2 s2 r2 => by
    show sp (vs ++ []) H2 Q E
    rw [List.append_nil]
    exact D vs G2 H2 Q E s2.hold r2 fun v G3 H3 s3 r3 => q v G3 H3 (s2.trans s3) r3
end
end Gx

-- part GStat
set_option Elab.async false
set_option linter.all false
set_option maxRecDepth 100000
set_option maxHeartbeats 1000000
namespace Gx
open PySem PySem.Spec PyProof.Rows L2
open Rp (rp)
open Sc (toV)

/-- where a def's run began -/
structure Bs where
  G : Hp
  S : Sto
  H : Hp
/-- from the base B, wherever frozen G and owned S are held, T is wished of the slots σ -/
def At (B : Bs) (T : St → Hp → Prop) (σ : St) (G : Hp) (S : Sto) : Prop := ∀ H, Stp B.G B.S B.H G S H → T σ H
theorem at_start {T : St → Hp → Prop} {σ : St} {G : Hp} {S : Sto} {H : Hp} (hd : Hold G S H) (h : At ⟨G, S, H⟩ T σ G S) : T σ H := h H (.refl hd)

/-- the owned cells of a def's promise are the caller's i-th; or it has none -/
theorem Does.frame0 {β : Type} [Rp β] {K : PySem.W.Frag} {sp : Sp} {A : List V → Hp → Prop} {y : β} {S : Sto} (d : Does K sp A [] y []) : Does K sp A S y S := fun vs G H Q E hd a k => by
  refine d vs G H Q E ⟨hd.ex, (fun _ m => nomatch m), (fun _ m => nomatch m), List.nodup_nil⟩ a fun v G' H' s r => k v G' H' ?_ r
  have fr : ∀ b o, H b = some o → H' b = some o := fun b o e => s.fr b o (fun m => nomatch m) e
  refine ⟨⟨s.hold.ex, fun p m => fr _ _ (hd.own p m), fun a m => ?_, hd.nd⟩, s.gg, fun b o _ e => fr b o e, s.new, fun b m => .inl m, s.th⟩
  obtain ⟨p, hp, rfl⟩ := List.mem_map.mp m
  exact s.new _ _ (hd.sep _ m) (hd.own p hp)
theorem Does.frame1 {β : Type} [Rp β] {K : PySem.W.Frag} {sp : Sp} {A : List V → Hp → Prop} {y : β} {S : Sto} {i : Nat} {a : Addr} {o u : HO} (d : Does K sp A [(a, o)] y [(a, u)]) (hi : S[i]? = some (a, o)) : Does K sp A S y (S.set i (a, u)) := fun vs G H Q E hd ar k => by
  have hin : (a, o) ∈ S := List.mem_of_getElem? hi
  have hda : a ∈ dom S := List.mem_map.mpr ⟨_, hin, rfl⟩
  refine d vs G H Q E ⟨hd.ex, fun p m => by rw [List.mem_singleton.mp m]; exact hd.own _ hin, fun b m => by rw [List.mem_singleton.mp m]; exact hd.sep a hda, by simp⟩ ar fun v G' H' s r => k v G' H' ?_ r
  have fr : ∀ b o, b ≠ a → H b = some o → H' b = some o := fun b o ne e => s.fr b o (fun m => ne (List.mem_singleton.mp m)) e
  refine ⟨⟨s.hold.ex, fun p m => ?_, fun b m => ?_, by rw [dom_set hi]; exact hd.nd⟩, s.gg, fun b o' hb e => fr b o' (fun z => hb (z ▸ hda)) e, s.new, fun b m => by rw [dom_set hi] at m; exact .inl m, s.th⟩
  · obtain ⟨j, hj⟩ := List.getElem?_of_mem m
    by_cases e : i = j
    · subst e
      have hl : i < S.length := (List.getElem?_eq_some_iff.mp hi).1
      rw [List.getElem?_set_self hl] at hj
      cases hj
      exact s.hold.own (a, u) (List.mem_singleton.mpr rfl)
    · rw [List.getElem?_set_ne e] at hj
      have ne : p.1 ≠ a := by
        intro z
        obtain ⟨q1, q2⟩ := p
        have z' : q1 = a := z
        subst z'
        exact e (nodup_key hd.nd hi hj)
      exact fr _ _ ne (hd.own p (List.mem_of_getElem? hj))
  · rw [dom_set hi] at m
    obtain ⟨p, hp, rfl⟩ := List.mem_map.mp m
    exact s.new _ _ (hd.sep _ m) (hd.own p hp)

section
variable {X : Cx} {B : Bs} {D : Ends} {σ : St} {G : Hp} {S S1 S2 : Sto} {e c : Expr} {rest body els : List Stmt} {st : Stmt} {pos pos' : Pos}
theorem b_nil (h : At B D.nx σ G S) : At B (cB X [] D) σ G S := fun H s => toB pss_nil (h H s)
theorem b_cons (h : At B (cS X st { D with nx := cB X rest D }) σ G S) : At B (cB X (st :: rest) D) σ G S := fun H s => toB (pss_cons (pS st) (pB rest)) (h H s)
/-- behind an expression -/
theorem at_ev {α : Type} [Rp α] {x : α} {te : TE} {K : PySem.W.Frag} {Q : V → Hp → Prop} {σ : St} (h : Ev K te σ G S x S1) (k : ∀ v G1, Same G G1 → rp K x v G1 → At B (fun _ H => Q v H) σ G1 S1) : At B (fun σ H => te σ H Q) σ G S :=
  fun H s => h G H (Same.refl G) s.hold _ fun v G1 H1 s1 r => k v G1 s1.gg r H1 (s.trans s1)
/-- .. a scalar: the frozen part stays -/
theorem at_evS {α : Type} [Sc α] {x : α} {te : TE} {K : PySem.W.Frag} {Q : V → Hp → Prop} {σ : St} (h : Ev K te σ G S x S1) (k : At B (fun _ H => Q (toV x) H) σ G S1) : At B (fun σ H => te σ H Q) σ G S :=
  fun H s => h G H (Same.refl G) s.hold _ fun v G1 H1 s1 r => by
    rw [Sc.rp_iff.mp r]
    exact k H1 (s.trans (s1.forget (Same.refl G)))
/-- x = e -/
theorem b_set {α : Type} [Rp α] {x : α} (i : Nat) {n : Str} (he : EX X e σ G S x S1) (k : ∀ v G1, Same G G1 → rp X.K x v G1 → At B (cB X rest D) (σ.set i (some v)) G1 S1) (hN : X.N.Nodup) (hi : X.N[i]? = some n := by rfl)
    (hx : Loc X.env.scope n := by first | exact .inl rfl | exact .inr rfl) (hs : swapsWith e (some (.Name n pos')) pos.line X.env = pure false := by rfl) (hf : X.fn n = true ∨ X.env.scope.names.lookup n = some .local := by first | exact .inl rfl | exact .inr rfl) :
    At B (cB X (.Assign [.Name n pos'] e pos :: rest) D) σ G S := b_cons fun H s => toS (ps_set hN hi hx (pE e) hs hf) (at_ev (Q := fun v H => cB X rest D (σ.set i (some v)) H) he (fun v G1 a r H1 s1 => k v G1 a r H1 s1) H s)
theorem b_setS {α : Type} [Sc α] {x : α} (i : Nat) {n : Str} (he : EX X e σ G S x S1) (k : At B (cB X rest D) (σ.set i (some (toV x))) G S1) (hN : X.N.Nodup) (hi : X.N[i]? = some n := by rfl)
    (hx : Loc X.env.scope n := by first | exact .inl rfl | exact .inr rfl) (hs : swapsWith e (some (.Name n pos')) pos.line X.env = pure false := by rfl) (hf : X.fn n = true ∨ X.env.scope.names.lookup n = some .local := by first | exact .inl rfl | exact .inr rfl) :
    At B (cB X (.Assign [.Name n pos'] e pos :: rest) D) σ G S := b_cons fun H s => toS (ps_set hN hi hx (pE e) hs hf) (at_evS (Q := fun v H => cB X rest D (σ.set i (some v)) H) he (fun H1 s1 => k H1 s1) H s)
/-- e, its value dropped -/
theorem b_expr {α : Type} [Rp α] {x : α} (he : EX X e σ G S x S1) (k : ∀ v G1, Same G G1 → rp X.K x v G1 → At B (cB X rest D) σ G1 S1) (hs : swapsWith e none pos.line X.env = pure false := by rfl) : At B (cB X (.Expr e pos :: rest) D) σ G S :=
  b_cons fun H s => toS (ps_expr (pE e) hs) (at_ev (Q := fun v H => cB X rest D σ H) he (fun v G1 a r H1 s1 => k v G1 a r H1 s1) H s)
theorem b_exprS {α : Type} [Sc α] {x : α} (he : EX X e σ G S x S1) (k : At B (cB X rest D) σ G S1) (hs : swapsWith e none pos.line X.env = pure false := by rfl) : At B (cB X (.Expr e pos :: rest) D) σ G S :=
  b_cons fun H s => toS (ps_expr (pE e) hs) (at_evS (Q := fun v H => cB X rest D σ H) he (fun H1 s1 => k H1 s1) H s)
/-- return e -/
theorem b_ret {α : Type} [Rp α] {x : α} (he : EX X e σ G S x S1) (k : ∀ v G1 H1, Same G G1 → Stp B.G B.S B.H G1 S1 H1 → rp X.K x v G1 → D.rt v H1) : At B (cB X (.Return (some e) pos :: rest) D) σ G S :=
  b_cons fun H s => toS (ps_ret (pE e)) (at_ev (Q := fun v H => D.rt v H) he (fun v G1 a r H1 s1 => k v G1 H1 a s1 r) H s)
theorem b_retN (k : ∀ H1, Stp B.G B.S B.H G S H1 → D.rt .non H1) : At B (cB X (.Return none pos :: rest) D) σ G S := b_cons fun H s => toS ps_retN (k H s)
/-- if -/
theorem b_if {k : Bool} (ht : ET X c σ G S k S1) (h1 : k = true → At B (cB X body { D with nx := cB X rest D }) σ G S1) (h2 : k = false → At B (cB X els { D with nx := cB X rest D }) σ G S1) : At B (cB X (.If c body els pos :: rest) D) σ G S :=
  b_cons fun H s => toS (ps_if (pT c) (pB body) (pB els)) (ht G H (Same.refl G) s.hold _ fun G1 H1 s1 => by
    have s2 := s.trans (s1.forget (Same.refl G))
    cases k with
    | true => exact h1 rfl H1 s2
    | false => exact h2 rfl H1 s2)
/-- if without else -/
theorem b_when {k : Bool} (ht : ET X c σ G S k S1) (h1 : k = true → At B (cB X body { D with nx := cB X rest D }) σ G S1) (h2 : k = false → At B (cB X rest D) σ G S1) : At B (cB X (.If c body [] pos :: rest) D) σ G S :=
  b_if ht h1 fun q => b_nil (h2 q)
theorem b_pass (h : At B (cB X rest D) σ G S) : At B (cB X (.Pass pos :: rest) D) σ G S := b_cons fun H s => toS ps_pass (h H s)
theorem b_break (h : At B D.bk σ G S) : At B (cB X (.Break pos :: rest) D) σ G S := b_cons fun H s => toS ps_break (h H s)
theorem b_cont (h : At B D.ct σ G S) : At B (cB X (.Continue pos :: rest) D) σ G S := b_cons fun H s => toS ps_continue (h H s)
/-- a statement, then a word that what follows is shown from -/
theorem b_cut (M : St → Hp → Sto → Prop) (h : At B (cS X st { D with nx := fun σ H => ∃ G1 S1, Stp B.G B.S B.H G1 S1 H ∧ M σ G1 S1 }) σ G S) (k : ∀ σ1 G1 S1, M σ1 G1 S1 → At B (cB X rest D) σ1 G1 S1) : At B (cB X (st :: rest) D) σ G S := by
  intro H s pins sh I
  refine wpAny_execs_cons (thn (h H s pins sh I) fun f s1 q => ?_)
  cases f with
  | next =>
    obtain ⟨σ', H', I', G1, S1, st1, m⟩ := q
    exact k σ' G1 S1 m H' st1 pins s1 I'
  | ret v => exact q
  | brk => exact q
  | cont => exact q
/-- an if alone, for b_cut -/
theorem s_if {k : Bool} (ht : ET X c σ G S k S1) (h1 : k = true → At B (cB X body D) σ G S1) (h2 : k = false → At B (cB X els D) σ G S1) : At B (cS X (.If c body els pos) D) σ G S :=
  fun H s => toS (ps_if (pT c) (pB body) (pB els)) (ht G H (Same.refl G) s.hold _ fun G1 H1 s1 => by
    have s2 := s.trans (s1.forget (Same.refl G))
    cases k with
    | true => exact h1 rfl H1 s2
    | false => exact h2 rfl H1 s2)
/-- the end of a cut's part -/
theorem at_cut {M : St → Hp → Sto → Prop} (h : M σ G S) : At B (fun σ H => ∃ G1 S1, Stp B.G B.S B.H G1 S1 H ∧ M σ G1 S1) σ G S := fun H s => ⟨G, S, s, h⟩
end
end Gx

-- part GList
set_option Elab.async false
set_option linter.all false
set_option maxRecDepth 100000
set_option maxHeartbeats 1000000
namespace Gx
open PySem PySem.Spec PyProof.Rows L2
open Rp (rp)
open Sc (toV)

theorem mem_dom {S : Sto} {a : Addr} {o : HO} (h : (a, o) ∈ S) : a ∈ dom S := List.mem_map.mpr ⟨_, h, rfl⟩
/-- a list that may be read: frozen, of the written part, or owned -/
def LV {α : Type} [Rp α] (K : PySem.W.Frag) (xs : List α) (v : V) (G : Hp) (S : Sto) : Prop := ∃ a vs, v = .ref a ∧ (SqL K G a vs ∨ (a, HO.lst vs) ∈ S) ∧ Its K xs vs G
theorem LV.sq {α : Type} [Rp α] {K : PySem.W.Frag} {xs : List α} {v : V} {G H : Hp} {S : Sto} (h : LV K xs v G S) (hd : Hold G S H) : ∃ a vs, v = .ref a ∧ SqL K H a vs ∧ Its K xs vs G := by
  obtain ⟨a, vs, rfl, h | h, hi⟩ := h
  · exact ⟨a, vs, rfl, hd.ex.seq h, hi⟩
  · exact ⟨a, vs, rfl, SqL.of (hd.own _ h), hi⟩
theorem LV.mono {α : Type} [Rp α] {K : PySem.W.Frag} {xs : List α} {v : V} {G G' : Hp} {S : Sto} (h : LV K xs v G S) (e : Same G G') : LV K xs v G' S := by
  obtain ⟨a, vs, rfl, h | h, hi⟩ := h
  · exact ⟨a, vs, rfl, .inl (e.seq h), hi.mono e⟩
  · exact ⟨a, vs, rfl, .inr h, hi.mono e⟩
def EvL {α : Type} [Rp α] (K : PySem.W.Frag) (te : TE) (σ : St) (G : Hp) (S : Sto) (xs : List α) (S' : Sto) : Prop :=
  ∀ G1 H, Same G G1 → Hold G1 S H → ∀ Q : VK, (∀ v G' H', Stp G1 S H G' S' H' → LV K xs v G' S' → Q v H') → te σ H Q
/-- a new list, owned -/
def EvN {α : Type} [Rp α] (K : PySem.W.Frag) (te : TE) (σ : St) (G : Hp) (S : Sto) (xs : List α) (S' : Sto) : Prop :=
  ∀ G1 H, Same G G1 → Hold G1 S H → ∀ Q : VK, (∀ p vs G' H', H p = none → Stp G1 S H G' ((p, .lst vs) :: S') H' → Its K xs vs G' → Q (.ref p) H') → te σ H Q
abbrev EL (X : Cx) {α : Type} [Rp α] (e : Expr) (σ : St) (G : Hp) (S : Sto) (x : List α) (S' : Sto) : Prop := EvL X.K (cE X e) σ G S x S'
abbrev EN (X : Cx) {α : Type} [Rp α] (e : Expr) (σ : St) (G : Hp) (S : Sto) (x : List α) (S' : Sto) : Prop := EvN X.K (cE X e) σ G S x S'
section
variable {X : Cx} {K : PySem.W.Frag} {B : Bs} {D : Ends} {σ : St} {G : Hp} {S S1 S2 S3 : Sto} {e a b c : Expr} {es rest body els : List Stmt} {ess : List Expr} {st : Stmt} {pos pos' : Pos} {te : TE}
theorem EvL.to {α : Type} [Rp α] {x : List α} {t : TE} (p : PE X e t) (h : EvL X.K t σ G S x S1) : EL X e σ G S x S1 := fun G1 H e hd Q k => toE p (h G1 H e hd Q k)
theorem EvN.to {α : Type} [Rp α] {x : List α} {t : TE} (p : PE X e t) (h : EvN X.K t σ G S x S1) : EN X e σ G S x S1 := fun G1 H e hd Q k => toE p (h G1 H e hd Q k)
theorem EvN.frz {α : Type} [Rp α] {xs : List α} (h : EvN K te σ G S xs S1) : Ev K te σ G S xs S1 := fun G1 H e hd Q k => h G1 H e hd Q fun p vs G' H' hp s hi =>
  have s' := s.freeze (i := 0) (a := p) (o := .lst vs) rfl hp
  k (.ref p) _ H' s' ⟨p, vs, rfl, upd_same, hi.mono fun b u q => by
    have ne : b ≠ p := by
      rintro rfl
      rw [s.hold.sep b (List.mem_cons_self)] at q; cases q
    rw [upd_ne ne]; exact q⟩
theorem Ev.lv {α : Type} [Rp α] {xs : List α} (h : Ev K te σ G S xs S1) : EvL K te σ G S xs S1 := fun G1 H e hd Q k => h G1 H e hd Q fun v G' H' s ⟨a, vs, r, h1, hi⟩ => k v G' H' s ⟨a, vs, r, .inl (SqL.of h1), hi⟩
theorem EvN.lv {α : Type} [Rp α] {xs : List α} (h : EvN K te σ G S xs S1) : EvL K te σ G S xs S1 := (EvN.frz h).lv
theorem Ev.scr {ns : List Int} (h : Ev K te σ G S (Scr.mk ns) S1) : EvL K te σ G S ns S1 := fun G1 H e hd Q k => h G1 H e hd Q fun v G' H' s ⟨a, r, h1⟩ => k v G' H' s ⟨a, _, r, .inl h1, Its.ofSc ns⟩
/-- an owned list at a name -/
theorem el_own {α : Type} [Rp α] {xs : List α} {vs : List V} {l : Addr} (i j : Nat) {n : Str} (h : σ[i]? = some (some (.ref l))) (hj : S[j]? = some (l, .lst vs)) (hi : Its X.K xs vs G) (hN : X.N[i]? = some n := by rfl)
    (hv : Vis X.env.scope n := by first | exact Or.inl rfl | exact Or.inr (Or.inl rfl) | exact Or.inr (Or.inr rfl)) (hd : (n == ("__debug__" : Str)) = false := by decide) (hcd : (n == ("__classdict__" : Str)) = false := by decide) :
    EL X (.Name n pos) σ G S xs S := EvL.to (pe_var hN hv hd hcd) fun G1 H e hd Q k => ⟨_, h, k _ G1 H (.refl hd) ⟨l, vs, rfl, .inr (List.mem_of_getElem? hj), hi.mono e⟩⟩

theorem atI_its {α : Type} [Rp α] {xs : List α} {vs : List V} {i : Int} {x : α} (hi : Its K xs vs G) (h : atI xs i = some x) : ∃ v, atI vs i = some v ∧ rp K x v G := by
  unfold atI at h ⊢
  rw [← Pd.len hi]
  cases e : ixN xs.length i with
  | none => rw [e] at h; cases h
  | some j =>
    rw [e] at h
    obtain ⟨v, h1, h2⟩ := Pd.getL hi (show xs[j]? = some x from h)
    exact ⟨v, h1, h2⟩
/-- xs[i], a list that may be owned: the index changes nothing owned -/
theorem ex_ix {α : Type} [Rp α] {xs : List α} {i : Int} {x : α} (ha : EL X a σ G S xs S1) (hb : EX X b σ G S1 i S1) (hx : atI xs i = some x) (hs : PlainIx b := by exact fun _ _ => rfl) : EX X (.Subscript a b pos) σ G S x S1 :=
  Ev.to (pe_ix ix_list (pE a) (pE b) hs) fun G1 H e hd Q k => ha G1 H e hd _ fun v G2 H2 s2 r2 => hb G2 H2 (e.trans s2.gg) s2.hold _ fun u G3 H3 s3 r3 => by
    obtain ⟨l, vs, rfl, hq, hi⟩ := (r2.mono s3.gg).sq s3.hold
    obtain ⟨w, hw, rw'⟩ := atI_its hi hx
    exact ⟨l, vs, i, w, rfl, r3, hq, hw, k w G3 H3 (s2.trans s3) rw'⟩
/-- xs[i], xs frozen: the index may do what it likes -/
theorem ex_ixF {α : Type} [Rp α] {xs : List α} {i : Int} {x : α} (ha : EX X a σ G S xs S1) (hb : EX X b σ G S1 i S2) (hx : atI xs i = some x) (hs : PlainIx b := by exact fun _ _ => rfl) : EX X (.Subscript a b pos) σ G S x S2 :=
  Ev.to (pe_ix ix_list (pE a) (pE b) hs) (ev_op ha hb fun v u G1 H1 e hd ⟨l, vs, h1, h2, hi⟩ ru Q k => by
    obtain ⟨w, hw, rw'⟩ := atI_its hi hx
    exact ⟨l, vs, i, w, h1, ru, SqL.of (hd.ex _ _ h2), hw, k w G1 H1 (.refl hd) rw'⟩)
theorem ex_len {α : Type} [Rp α] {xs : List α} {p : Pos} (ha : EL X a σ G S xs S1) (hm : X.mg "len" = none) (hg : Gl X "len" := by rfl) (hse : starEach [a] X.env = (false, eval a X.env) :: starEach [] X.env := by rfl) : EX X (.Call (.Name "len" p) [a] [] pos) σ G S (xs.length : Int) S1 :=
  Ev.to (pe_callB call_len_seq hg hm PySem.boot_len (pa_cons (pE a) pa_nil hse) (he := hse)) fun G1 H e hd Q k => ha G1 H e hd _ fun v G2 H2 s2 r2 => by
    obtain ⟨l, vs, rfl, hq, hi⟩ := r2.sq s2.hold
    refine ⟨l, vs, rfl, .inl hq, ?_⟩
    rw [← Pd.len hi]
    exact k _ G2 H2 s2 rfl
theorem map_int (xs : List Int) : xs.map (toV : Int → V) = xs.map V.int := rfl
theorem ex_sum {xs : List Int} {p : Pos} (hc : X.calm = true) (ha : EL X a σ G S xs S1) (hm : X.mg "sum" = none) (hg : Gl X "sum" := by rfl) (hse : starEach [a] X.env = (false, eval a X.env) :: starEach [] X.env := by rfl) : EX X (.Call (.Name "sum" p) [a] [] pos) σ G S xs.sum S1 :=
  Ev.to (pe_callB (cr_sum hc) hg hm (by decide +kernel) (pa_cons (pE a) pa_nil hse) (he := hse)) fun G1 H e hd Q k => ha G1 H e hd _ fun v G2 H2 s2 r2 => by
    obtain ⟨l, vs, rfl, hq, hi⟩ := r2.sq s2.hold
    rw [Its.sc hi] at hq
    exact ⟨l, xs, rfl, hq, k _ G2 H2 s2 rfl⟩
theorem ex_any {xs : List Bool} {p : Pos} (hc : X.calm = true) (ha : EL X a σ G S xs S1) (hm : X.mg "any" = none) (hg : Gl X "any" := by rfl) (hse : starEach [a] X.env = (false, eval a X.env) :: starEach [] X.env := by rfl) : EX X (.Call (.Name "any" p) [a] [] pos) σ G S (xs.any id) S1 :=
  Ev.to (pe_callB (cr_any hc) hg hm (by decide +kernel) (pa_cons (pE a) pa_nil hse) (he := hse)) fun G1 H e hd Q k => ha G1 H e hd _ fun v G2 H2 s2 r2 => by
    obtain ⟨l, vs, rfl, hq, hi⟩ := r2.sq s2.hold
    rw [Its.sc hi] at hq
    exact ⟨l, xs, rfl, hq, k _ G2 H2 s2 rfl⟩
theorem ex_all {xs : List Bool} {p : Pos} (hc : X.calm = true) (ha : EL X a σ G S xs S1) (hm : X.mg "all" = none) (hg : Gl X "all" := by rfl) (hse : starEach [a] X.env = (false, eval a X.env) :: starEach [] X.env := by rfl) : EX X (.Call (.Name "all" p) [a] [] pos) σ G S (xs.all id) S1 :=
  Ev.to (pe_callB (cr_all hc) hg hm (by decide +kernel) (pa_cons (pE a) pa_nil hse) (he := hse)) fun G1 H e hd Q k => ha G1 H e hd _ fun v G2 H2 s2 r2 => by
    obtain ⟨l, vs, rfl, hq, hi⟩ := r2.sq s2.hold
    rw [Its.sc hi] at hq
    exact ⟨l, xs, rfl, hq, k _ G2 H2 s2 rfl⟩
/-- int(n), int(True) -/
theorem ex_toInt {n : Int} {p : Pos} (ha : EX X a σ G S n S1) (hm : X.mg "int" = none) (hg : Gl X "int" := by rfl) (hse : starEach [a] X.env = (false, eval a X.env) :: starEach [] X.env := by rfl) : EX X (.Call (.Name "int" p) [a] [] pos) σ G S n S1 :=
  Ev.to (pe_callTy call_int1 hg hm (by decide +kernel) (pa_cons (pE a) pa_nil hse) (he := hse)) fun G1 H e hd Q k => ha G1 H e hd _ fun v G2 H2 s2 r2 => .inl ⟨n, by rw [show v = .int n from r2], k _ G2 H2 s2 rfl⟩
theorem ex_toIntB {n : Bool} {p : Pos} (ha : EX X a σ G S n S1) (hm : X.mg "int" = none) (hg : Gl X "int" := by rfl) (hse : starEach [a] X.env = (false, eval a X.env) :: starEach [] X.env := by rfl) : EX X (.Call (.Name "int" p) [a] [] pos) σ G S (if n then 1 else 0 : Int) S1 :=
  Ev.to (pe_callTy call_int1 hg hm (by decide +kernel) (pa_cons (pE a) pa_nil hse) (he := hse)) fun G1 H e hd Q k => ha G1 H e hd _ fun v G2 H2 s2 r2 => .inr ⟨n, by rw [show v = .bl n from r2], k _ G2 H2 s2 rfl⟩

/-! ### new lists -/
/-- items of a display -/
def ItA {α : Type} [Rp α] (K : PySem.W.Frag) (xs : List α) : List V → Hp → Prop := fun vs G => Its K xs vs G
theorem ei_nil {α : Type} [Rp α] : EA X [] σ G S (ItA X.K ([] : List α)) S := EvA.to pa_nil fun G1 H e hd Q q => q [] G1 H (.refl hd) .nil
theorem ei_cons {α : Type} [Rp α] {x : α} {xs : List α} (h : EX X e σ G S x S1) (hr : EA X ess σ G S1 (ItA X.K xs) S2) (hs : starEach (e :: ess) X.env = (false, eval e X.env) :: starEach ess X.env := by rfl) : EA X (e :: ess) σ G S (ItA X.K (x :: xs)) S2 :=
  EvA.to (pa_cons (pE e) (pA ess) hs) fun G1 H e hd Q q => h G1 H e hd _ fun v G' H' s r => hr G' H' (e.trans s.gg) s.hold _ fun vs G2 H2 s2 r2 => q (v :: vs) G2 H2 (s.trans s2) (.cons (Rp.mono s2.gg r) r2)
theorem en_lst {α : Type} [Rp α] {xs : List α} (h : EA X ess σ G S (ItA X.K xs) S1) (hl : xs.length ≤ 100000) : EN X (.List ess pos) σ G S xs S1 :=
  EvN.to (pe_lst (pA ess)) fun G1 H e hd Q k => h G1 H e hd _ fun vs G2 H2 s2 r2 => ⟨by rw [← Pd.len r2]; exact Nat.le_trans hl (by decide), fun p hp => by
    have hHp : H p = none := by
      cases q : H p with
      | none => rfl
      | some o =>
        obtain ⟨o', e'⟩ := s2.th p o q
        rw [hp] at e'; cases e'
    exact k p vs G2 _ hHp (s2.trans (Stp.own s2.hold hp (.lst vs))) r2⟩
theorem en_list {α : Type} [Rp α] {xs : List α} {p : Pos} (ha : EL X a σ G S xs S1) (hm : X.mg "list" = none) (hg : Gl X "list" := by rfl) (hse : starEach [a] X.env = (false, eval a X.env) :: starEach [] X.env := by rfl) : EN X (.Call (.Name "list" p) [a] [] pos) σ G S xs S1 :=
  EvN.to (pe_callTy call_list_of hg hm (by decide +kernel) (pa_cons (pE a) pa_nil hse) (he := hse)) fun G1 H e hd Q k => ha G1 H e hd _ fun v G2 H2 s2 r2 => by
    obtain ⟨l, vs, rfl, hq, hi⟩ := r2.sq s2.hold
    refine ⟨l, vs, rfl, .inl hq, fun p hp => ?_⟩
    have hHp : H p = none := by
      cases q : H p with
      | none => rfl
      | some o =>
        obtain ⟨o', e'⟩ := s2.th p o q
        rw [hp] at e'; cases e'
    exact k p vs G2 _ hHp (s2.trans (Stp.own s2.hold hp (.lst vs))) hi
/-- a slice's part -/
def EvO (to : TO) (σ : St) (G : Hp) (S : Sto) (o : Option Int) (S' : Sto) : Prop :=
  ∀ G1 H, Same G G1 → Hold G1 S H → ∀ Q : Option Int → Hp → Prop, (∀ G' H', Stp G1 S H G' S' H' → Q o H') → to σ H Q
theorem eo_none : EvO tNoPart σ G S none S := fun G1 H e hd Q k => k G1 H (.refl hd)
theorem eo_some {i : Int} {te : TE} (h : Ev K te σ G S i S1) : EvO (tPart te) σ G S (some i) S1 := fun G1 H e hd Q k => h G1 H e hd _ fun v G' H' s r => ⟨i, r, k G' H' s⟩
def cutL {α : Type} (xs : List α) (lo hi : Option Int) : List α := (xs.drop (HT.sIx xs.length 0 lo)).take (HT.sIx xs.length xs.length hi - HT.sIx xs.length 0 lo)
theorem Its.cut {α : Type} [Rp α] {xs : List α} {vs : List V} (lo hi : Option Int) (h : Its K xs vs G) : Its K (cutL xs lo hi) (cutV vs lo hi) G := by
  unfold cutL cutV
  rw [← Pd.len h]
  exact Pd.take _ (Pd.drop _ h)
theorem en_slice {α : Type} [Rp α] {xs : List α} {lo hi : Option Expr} {tl th : TO} {l u : Option Int} {p2 : Pos} (pl : PO X lo tl) (pu : PO X hi th) (ha : EL X a σ G S xs S1) (hl : ∀ G, EvO tl σ G S1 l S1) (hu : ∀ G, EvO th σ G S1 u S1) :
    EN X (.Subscript a (.Slice lo hi none p2) pos) σ G S (cutL xs l u) S1 :=
  EvN.to (pe_slice sl_list (pE a) pl pu) fun G1 H e hd Q k => ha G1 H e hd _ fun v G2 H2 s2 r2 => hl G2 G2 H2 (Same.refl _) s2.hold _ fun G3 H3 s3 => hu G3 G3 H3 (Same.refl _) s3.hold _ fun G4 H4 s4 => by
    obtain ⟨x, vs, rfl, hq, hi⟩ := ((r2.mono s3.gg).mono s4.gg).sq s4.hold
    refine ⟨x, vs, rfl, hq, fun p hp => ?_⟩
    have s := (s2.trans s3).trans s4
    have hHp : H p = none := by
      cases q : H p with
      | none => rfl
      | some o =>
        obtain ⟨o', e'⟩ := s.th p o q
        rw [hp] at e'; cases e'
    exact k p _ G4 _ hHp (s.trans (Stp.own s4.hold hp _)) (hi.cut l u)
/-! ### statements about owned lists -/
/-- x = a new list -/
theorem b_setN {α : Type} [Rp α] {xs : List α} (i : Nat) {n : Str} (he : EN X e σ G S xs S1) (k : ∀ p vs G1, Same G G1 → Its X.K xs vs G1 → B.H p = none → At B (cB X rest D) (σ.set i (some (.ref p))) G1 ((p, .lst vs) :: S1)) (hN : X.N.Nodup) (hi : X.N[i]? = some n := by rfl)
    (hx : Loc X.env.scope n := by first | exact .inl rfl | exact .inr rfl) (hs : swapsWith e (some (.Name n pos')) pos.line X.env = pure false := by rfl) (hf : X.fn n = true ∨ X.env.scope.names.lookup n = some .local := by first | exact .inl rfl | exact .inr rfl) :
    At B (cB X (.Assign [.Name n pos'] e pos :: rest) D) σ G S := b_cons fun H s => toS (ps_set hN hi hx (pE e) hs hf) (he G H (Same.refl G) s.hold _ fun p vs G1 H1 hp s1 r => k p vs G1 s1.gg r (by
      cases q : B.H p with
      | none => rfl
      | some o =>
        obtain ⟨o', e'⟩ := s.th p o q
        rw [hp] at e'; cases e') H1 (s.trans s1))
/-- xs[i] = e, the list owned at place j -/
theorem b_setix {α : Type} [Rp α] {x : α} {vs : List V} {l : Addr} {kx : Int} {m : Nat} (j : Nat) (he : EX X e σ G S x S1) (ho : ∀ G, EX X a σ G S1 (Ow.mk l) S1) (hi : ∀ G, EX X b σ G S1 kx S1) (hj : S1[j]? = some (l, .lst vs)) (hk : ixN vs.length kx = some m)
    (k : ∀ v G1, Same G G1 → rp X.K x v G1 → At B (cB X rest D) σ G1 (S1.set j (l, .lst (vs.set m v))))
    (hs : swapsWithSole [.Subscript a b pos'] e pos.line X.env = pure false := by rfl) (hw : swappedStores [.Subscript a b pos'] e X.env = pure none := by rfl)
    (h1 : (assignEach [.Subscript a b pos'] X.env).map (·.2) = [assign (.Subscript a b pos') X.env] := by rfl)
    (hasg : ∀ v, assign (.Subscript a b pos') X.env v = (do
      let ov ← holding [v] (eval a X.env)
      let iv ← holding [v, ov] (eval b X.env)
      standAt pos'
      holding [v, ov, iv] (setItem ov iv v)
      release [v, ov, iv] []) := by intro _; rfl) : At B (cB X (.Assign [.Subscript a b pos'] e pos :: rest) D) σ G S :=
  b_cons fun H s => toS (ps_asg (pE e) (pg_sub (pE a) (pE b) set_list hasg) hs hw h1) (he G H (Same.refl G) s.hold _ fun v G1 H1 s1 r1 => ho G1 G1 H1 (Same.refl _) s1.hold _ fun o G2 H2 s2 r2 => hi G2 G2 H2 (Same.refl _) s2.hold _ fun i G3 H3 s3 r3 => by
    have e := s1.gg.trans (s2.gg.trans s3.gg)
    have sx := ((s.trans s1).trans s2).trans s3
    refine ⟨l, vs, kx, m, r2, r3, s3.hold.own _ (List.mem_of_getElem? hj), hk, ?_⟩
    exact k v G3 e (Rp.mono (s2.gg.trans s3.gg) r1) _ (sx.trans (Stp.write s3.hold hj)))
theorem b_setixS {α : Type} [Sc α] {x : α} {vs : List V} {l : Addr} {kx : Int} {m : Nat} (j : Nat) (he : EX X e σ G S x S1) (ho : ∀ G, EX X a σ G S1 (Ow.mk l) S1) (hi : ∀ G, EX X b σ G S1 kx S1) (hj : S1[j]? = some (l, .lst vs)) (hk : ixN vs.length kx = some m)
    (k : At B (cB X rest D) σ G (S1.set j (l, .lst (vs.set m (toV x)))))
    (hs : swapsWithSole [.Subscript a b pos'] e pos.line X.env = pure false := by rfl) (hw : swappedStores [.Subscript a b pos'] e X.env = pure none := by rfl)
    (h1 : (assignEach [.Subscript a b pos'] X.env).map (·.2) = [assign (.Subscript a b pos') X.env] := by rfl)
    (hasg : ∀ v, assign (.Subscript a b pos') X.env v = (do
      let ov ← holding [v] (eval a X.env)
      let iv ← holding [v, ov] (eval b X.env)
      standAt pos'
      holding [v, ov, iv] (setItem ov iv v)
      release [v, ov, iv] []) := by intro _; rfl) : At B (cB X (.Assign [.Subscript a b pos'] e pos :: rest) D) σ G S := by
  refine b_cons fun H s => toS (ps_asg (pE e) (pg_sub (pE a) (pE b) set_list hasg) hs hw h1) (he G H (Same.refl G) s.hold _ fun v G1 H1 s1 r1 => ho G1 G1 H1 (Same.refl _) s1.hold _ fun o G2 H2 s2 r2 => hi G2 G2 H2 (Same.refl _) s2.hold _ fun i G3 H3 s3 r3 => ?_)
  have e := s1.gg.trans (s2.gg.trans s3.gg)
  have sx := ((s.trans s1).trans s2).trans s3
  refine ⟨l, vs, kx, m, r2, r3, s3.hold.own _ (List.mem_of_getElem? hj), hk, ?_⟩
  rw [Sc.rp_iff.mp r1]
  have sf : Stp B.G B.S B.H G S1 H3 := s.trans ((s1.trans (s2.trans s3)).forget (Same.refl G))
  exact k _ (sf.trans (Stp.write sf.hold hj))
/-- xs.append(e), the list owned at place j -/
theorem b_app {α : Type} [Rp α] {x : α} {vs : List V} {l : Addr} {apos cpos : Pos} (j : Nat) (ho : EX X a σ G S (Ow.mk l) S) (he : EX X e σ G S x S1) (hj : S1[j]? = some (l, .lst vs)) {vs0 : List V} (hj0 : (l, HO.lst vs0) ∈ S) (hl : vs.length < 100000)
    (k : ∀ v G1, Same G G1 → rp X.K x v G1 → At B (cB X rest D) σ G1 (S1.set j (l, .lst (vs ++ [v]))))
    (hp : PE X (.Call (.Attribute a "append" apos) [e] [] cpos) (tBM X.K "list" rAppend (cE X a) (tCons (cE X e) tNil)) := by exact pe_bm PySem.F.plainAttrs_list PySem.F.slot_list_append PySem.F.type_list_append mt_append (pE _) (pa_cons (pE _) pa_nil))
    (hsw : swapsWith (.Call (.Attribute a "append" apos) [e] [] cpos) none pos.line X.env = pure false := by rfl) :
    At B (cB X (.Expr (.Call (.Attribute a "append" apos) [e] [] cpos) pos :: rest) D) σ G S :=
  b_cons fun H s => toS (ps_expr hp hsw) (ho G H (Same.refl G) s.hold _ fun o G1 H1 s1 r1 => by
    refine ⟨by rw [show o = V.ref l from r1]; exact .inl ⟨rfl, _, SqL.of (s1.hold.own _ hj0)⟩, he G1 H1 s1.gg s1.hold _ fun v G2 H2 s2 r2 => ?_⟩
    refine ⟨l, vs, v, r1, rfl, s2.hold.own _ (List.mem_of_getElem? hj), Nat.lt_of_lt_of_le hl (by decide), ?_⟩
    exact k v G2 (s1.gg.trans s2.gg) r2 _ (((s.trans s1).trans s2).trans (Stp.write s2.hold hj)))
end
end Gx

-- part GDef
set_option Elab.async false
set_option linter.all false
set_option maxRecDepth 100000
set_option maxHeartbeats 1000000
namespace Gx
open PySem PySem.Spec PyProof.Rows L2
open Rp (rp)
open Sc (toV)

/-- a promise: the arguments, by their data i, are A i; the owned cells S i become S' i; the answer is y i -/
def Pm {ι β : Type} [Rp β] (K : PySem.W.Frag) (A : ι → List V → Hp → Prop) (S : ι → Sto) (pre : ι → Prop) (y : ι → β) (S' : ι → Sto) : Sp :=
  fun vs H Q _ => ∃ (i : ι) (G : Hp), Hold G (S i) H ∧ A i vs G ∧ pre i ∧ ∀ v G' H', Stp G (S i) H G' (S' i) H' → rp K (y i) v G' → Q v H'
theorem Pm.does {ι β : Type} [Rp β] {K : PySem.W.Frag} {A : ι → List V → Hp → Prop} {S : ι → Sto} {pre : ι → Prop} {y : ι → β} {S' : ι → Sto} (i : ι) (h : pre i) : Does K (Pm K A S pre y S') (A i) (S i) (y i) (S' i) :=
  fun vs G H Q E hd a k => ⟨i, G, hd, a, h, k⟩
/-- .. a new list is handed back, owned -/
def PmN {ι β : Type} [Rp β] (K : PySem.W.Frag) (A : ι → List V → Hp → Prop) (S : ι → Sto) (pre : ι → Prop) (y : ι → List β) (S' : ι → Sto) : Sp :=
  fun vs H Q _ => ∃ (i : ι) (G : Hp), Hold G (S i) H ∧ A i vs G ∧ pre i ∧ ∀ p us G' H', H p = none → Stp G (S i) H G' ((p, .lst us) :: S' i) H' → Its K (y i) us G' → Q (.ref p) H'
def DoesN {β : Type} [Rp β] (K : PySem.W.Frag) (sp : Sp) (A : List V → Hp → Prop) (S : Sto) (y : List β) (S' : Sto) : Prop :=
  ∀ vs G H Q E, Hold G S H → A vs G → (∀ p us G' H', H p = none → Stp G S H G' ((p, .lst us) :: S') H' → Its K y us G' → Q (.ref p) H') → sp vs H Q E
theorem PmN.does {ι β : Type} [Rp β] {K : PySem.W.Frag} {A : ι → List V → Hp → Prop} {S : ι → Sto} {pre : ι → Prop} {y : ι → List β} {S' : ι → Sto} (i : ι) (h : pre i) : DoesN K (PmN K A S pre y S') (A i) (S i) (y i) (S' i) :=
  fun vs G H Q E hd a k => ⟨i, G, hd, a, h, k⟩
theorem DoesN.frame0 {β : Type} [Rp β] {K : PySem.W.Frag} {sp : Sp} {A : List V → Hp → Prop} {y : List β} {S : Sto} (d : DoesN K sp A [] y []) : DoesN K sp A S y S := fun vs G H Q E hd a k => by
  refine d vs G H Q E ⟨hd.ex, (fun _ m => nomatch m), (fun _ m => nomatch m), List.nodup_nil⟩ a fun p us G' H' hp s r => k p us G' H' hp ?_ r
  have fr : ∀ b o, H b = some o → H' b = some o := fun b o e => s.fr b o (fun m => nomatch m) e
  have np : ∀ b ∈ dom S, b ≠ p := fun b m z => by
    obtain ⟨q, hq, e⟩ := List.mem_map.mp m
    have e' : q.1 = b := e
    have := hd.own q hq
    rw [e', z, hp] at this; cases this
  refine ⟨⟨s.hold.ex, fun q m => ?_, fun a m => ?_, ?_⟩, s.gg, fun b o _ e => fr b o e, s.new, fun b m => ?_, s.th⟩
  · rcases List.mem_cons.mp m with e | m
    · rw [e]; exact s.hold.own _ (List.mem_cons_self)
    · exact fr _ _ (hd.own q m)
  · rcases List.mem_cons.mp m with e | m
    · rw [e]; exact s.hold.sep p List.mem_cons_self
    · obtain ⟨q, hq, rfl⟩ := List.mem_map.mp m
      exact s.new _ _ (hd.sep _ m) (hd.own q hq)
  · exact List.nodup_cons.mpr ⟨fun m => np p m rfl, hd.nd⟩
  · rcases List.mem_cons.mp m with e | m
    · rw [e]; exact .inr hp
    · exact .inl m
theorem DoesN.frame1 {β : Type} [Rp β] {K : PySem.W.Frag} {sp : Sp} {A : List V → Hp → Prop} {y : List β} {S : Sto} {i : Nat} {a : Addr} {o u : HO} (d : DoesN K sp A [(a, o)] y [(a, u)]) (hi : S[i]? = some (a, o)) : DoesN K sp A S y (S.set i (a, u)) := fun vs G H Q E hd ar k => by
  have hin : (a, o) ∈ S := List.mem_of_getElem? hi
  have hda : a ∈ dom S := List.mem_map.mpr ⟨_, hin, rfl⟩
  refine d vs G H Q E ⟨hd.ex, fun p m => by rw [List.mem_singleton.mp m]; exact hd.own _ hin, fun b m => by rw [List.mem_singleton.mp m]; exact hd.sep a hda, by simp⟩ ar fun p us G' H' hp s r => k p us G' H' hp ?_ r
  have fr : ∀ b o, b ≠ a → H b = some o → H' b = some o := fun b o ne e => s.fr b o (fun m => ne (List.mem_singleton.mp m)) e
  have np : ∀ b ∈ dom S, b ≠ p := fun b m z => by
    obtain ⟨q, hq, e⟩ := List.mem_map.mp m
    have e' : q.1 = b := e
    have := hd.own q hq
    rw [e', z, hp] at this; cases this
  refine ⟨⟨s.hold.ex, fun q m => ?_, fun b m => ?_, ?_⟩, s.gg, fun b o' hb e => fr b o' (fun z => hb (z ▸ hda)) e, s.new, fun b m => ?_, s.th⟩
  · rcases List.mem_cons.mp m with e | m
    · rw [e]; exact s.hold.own _ (List.mem_cons_self)
    · obtain ⟨j, hj⟩ := List.getElem?_of_mem m
      by_cases e : i = j
      · subst e
        have hl : i < S.length := (List.getElem?_eq_some_iff.mp hi).1
        rw [List.getElem?_set_self hl] at hj
        cases hj
        exact s.hold.own (a, u) (List.mem_cons_of_mem _ (List.mem_singleton.mpr rfl))
      · rw [List.getElem?_set_ne e] at hj
        have ne : q.1 ≠ a := by
          intro z
          obtain ⟨q1, q2⟩ := q
          have z' : q1 = a := z
          subst z'
          exact e (nodup_key hd.nd hi hj)
        exact fr _ _ ne (hd.own q (List.mem_of_getElem? hj))
  · rcases List.mem_cons.mp m with e | m
    · rw [e]; exact s.hold.sep p List.mem_cons_self
    · have m : b ∈ dom (S.set i (a, u)) := m
      rw [dom_set hi] at m
      obtain ⟨q, hq, rfl⟩ := List.mem_map.mp m
      exact s.new _ _ (hd.sep _ m) (hd.own q hq)
  · refine List.nodup_cons.mpr ⟨fun m => ?_, (by show (dom (S.set i (a, u))).Nodup; rw [dom_set hi]; exact hd.nd)⟩
    have m : p ∈ dom (S.set i (a, u)) := m
    rw [dom_set hi] at m
    exact np p m rfl
  · rcases List.mem_cons.mp m with e | m
    · rw [e]; exact .inr hp
    · have m : b ∈ dom (S.set i (a, u)) := m
      rw [dom_set hi] at m; exact .inl m
section
variable {X : Cx} {σ : St} {G : Hp} {S S1 S2 : Sto} {e : Expr} {es rest : List Expr} {pos : Pos}
theorem en_call {β : Type} [Rp β] {y : List β} {x : Str} {p : Pos} {f : Addr} {fd : FuncData} {ps : List Str} {sp : Sp} {CX : CXT} {k : Nat} {A : List V → Hp → Prop} (D : DoesN X.K sp A S1 y S2)
    (F : FnOk X.prog X.w X.K X.mg X.base CX k f fd ps sp) (hr : Room k X.A) (hm : X.mg x = some (.ref f)) (hk : PySem.W.keepIn X.K (.ref f) = true) (hb : Binds X.K fd ps []) {E : XK} (hx : Passes CX X E) (ha : EA X (e :: es) σ G S A S1) (hg : Gl X x := by rfl) (hdb : (x == ("__debug__" : Str)) = false := by decide)
    (hpl : (backTo pos (starEach es X.env)).any (·.1) = false := by rfl) (he : starEach (e :: es) X.env = (false, eval e X.env) :: starEach es X.env := by rfl) : EN X (.Call (.Name x p) (e :: es) [] pos) σ G S y S2 :=
  EvN.to (pe_call F hr hg hm hk hb .nil hx (pA (e :: es)) (hdb := hdb) (he := he) (hpl := hpl)) fun G1 H e hd Q q => ha G1 H e hd _ fun vs G2 H2 s2 r2 => by
    show sp (vs ++ []) H2 Q E
    rw [List.append_nil]
    exact D vs G2 H2 Q E s2.hold r2 fun p us G3 H3 hp s3 r3 => q p us G3 H3 (by
      cases z : H p with
      | none => rfl
      | some o =>
        obtain ⟨o', e'⟩ := s2.th p o z
        rw [hp] at e'; cases e') (s2.trans s3) r3
end
/-- what is wished of the answer -/
def Kq {β : Type} [Rp β] (K : PySem.W.Frag) (B : Bs) (y : β) (S' : Sto) (Q : VK) : Prop := ∀ v G1 H1, Stp B.G B.S B.H G1 S' H1 → rp K y v G1 → Q v H1
def KqN {β : Type} [Rp β] (K : PySem.W.Frag) (B : Bs) (y : List β) (S' : Sto) (Q : VK) : Prop := ∀ p us G1 H1, B.H p = none → Stp B.G B.S B.H G1 ((p, .lst us) :: S') H1 → Its K y us G1 → Q (.ref p) H1
section
variable {X : Cx} {B : Bs} {D : Ends} {σ : St} {G : Hp} {S S1 S2 : Sto} {e c : Expr} {rest : List Stmt} {pos : Pos}
theorem b_retq {β : Type} [Rp β] {x y : β} (kq : Kq X.K B y S1 D.rt) (he : EX X e σ G S x S1) (hx : x = y) : At B (cB X (.Return (some e) pos :: rest) D) σ G S :=
  b_ret he fun v G1 H1 _ s r => kq v G1 H1 s (hx ▸ r)
theorem b_retL {β : Type} [Rp β] {x y : List β} (kq : KqN X.K B y S1 D.rt) (he : EN X e σ G S x S1) (hx : x = y) : At B (cB X (.Return (some e) pos :: rest) D) σ G S :=
  b_cons fun H s => toS (ps_ret (pE e)) (he G H (Same.refl G) s.hold _ fun p vs G1 H1 hp s1 r => kq p vs G1 H1 (by
    cases q : B.H p with
    | none => rfl
    | some o =>
      obtain ⟨o', e'⟩ := s.th p o q
      rw [hp] at e'; cases e') (s.trans s1) (hx ▸ r))
/-- return xs, xs a new list owned at place 0 -/
theorem b_retOwn {β : Type} [Rp β] {x y : List β} {us : List V} {l : Addr} (kq : KqN X.K B y S1 D.rt) (hl : B.H l = none) (he : EX X e σ G ((l, .lst us) :: S1) (Ow.mk l) ((l, .lst us) :: S1)) (hi : Its X.K x us G) (hx : x = y) : At B (cB X (.Return (some e) pos :: rest) D) σ G ((l, .lst us) :: S1) :=
  b_ret he fun v G1 H1 a s r => by
    rw [show v = V.ref l from r]
    exact kq l us G1 H1 hl s (hx ▸ hi.mono a)
end
section
variable {P : Program} {w : World} {K : PySem.W.Frag} {mg : Str → Option Value} {base : Heap}
theorem fn_pm {ι β : Type} [Rp β] {A : ι → List V → Hp → Prop} {S : ι → Sto} {pre : ι → Prop} {y : ι → β} {S' : ι → Sto} {x qual : Str} {st : Stmt} {f : Addr} {fd : FuncData} {N ps : List Str} {k : Nat}
    (F : Fun K x qual st f fd) (sc : FnScope N ps (defScope st)) (len : ∀ i vs G, A i vs G → vs.length = ps.length)
    (h : ∀ (cdv : Value) (A' : Around) (outer : List Env) (s : Shared) (H : Hp) (vs : List V) (Q : VK) (E : XK) (i : ι) (G : Hp), Room k (A'.deeper (envOfC qual (defScope st) s.heap.objs.size f cdv)) → pre i → A i vs G → Kq K ⟨G, S i, H⟩ (y i) (S' i) Q →
      At ⟨G, S i, H⟩ (cB (cxOf CX0 P w K mg base N qual (defScope st) f cdv A' outer s H E).nox (defBody st) { nx := fun _ H' => Q .non H', rt := Q }) (start N vs) G (S i)) :
    FnOk P w K mg base CX0 (k + 1) f fd ps (Pm K A S pre y S') :=
  F.ok sc (fun vs H Q E ⟨i, G, _, a, _⟩ => len i vs G a) fun cdv A' outer s H vs Q E hr ⟨i, G, hd, a, hp, kq⟩ => ⟨cB _ _, pB _, at_start hd (h cdv A' outer s H vs Q E i G hr hp a kq)⟩
theorem fn_pmN {ι β : Type} [Rp β] {A : ι → List V → Hp → Prop} {S : ι → Sto} {pre : ι → Prop} {y : ι → List β} {S' : ι → Sto} {x qual : Str} {st : Stmt} {f : Addr} {fd : FuncData} {N ps : List Str} {k : Nat}
    (F : Fun K x qual st f fd) (sc : FnScope N ps (defScope st)) (len : ∀ i vs G, A i vs G → vs.length = ps.length)
    (h : ∀ (cdv : Value) (A' : Around) (outer : List Env) (s : Shared) (H : Hp) (vs : List V) (Q : VK) (E : XK) (i : ι) (G : Hp), Room k (A'.deeper (envOfC qual (defScope st) s.heap.objs.size f cdv)) → pre i → A i vs G → KqN K ⟨G, S i, H⟩ (y i) (S' i) Q →
      At ⟨G, S i, H⟩ (cB (cxOf CX0 P w K mg base N qual (defScope st) f cdv A' outer s H E).nox (defBody st) { nx := fun _ H' => Q .non H', rt := Q }) (start N vs) G (S i)) :
    FnOk P w K mg base CX0 (k + 1) f fd ps (PmN K A S pre y S') :=
  F.ok sc (fun vs H Q E ⟨i, G, _, a, _⟩ => len i vs G a) fun cdv A' outer s H vs Q E hr ⟨i, G, hd, a, hp, kq⟩ => ⟨cB _ _, pB _, at_start hd (h cdv A' outer s H vs Q E i G hr hp a kq)⟩
end
end Gx

-- part GExc
set_option Elab.async false
set_option linter.all false
set_option maxRecDepth 100000
set_option maxHeartbeats 2000000
/-! An own error class over an own base over ValueError whose __init__ says super().__init__(text) and keeps its one argument. -/
namespace PySem
namespace ErrX
open PySem.W PySem.Calls PyProof.Rows PySem.HandSPX
def iA (x : Str) (p1 p2 : Pos) : Arguments := { posonlyargs := [], args := [{ arg := "self", annotation := none, pos := p1 }, { arg := x, annotation := none, pos := p2 }], vararg := none, kwonlyargs := [], kw_defaults := [], kwarg := none, defaults := [] }
def iB (x txt : Str) (j : Nat) (a1 a2 a3 a4 a5 a6 q1 q2 q3 q4 : Pos) : List Stmt :=
  [.Expr (.Call (.Attribute (.Call (.Name "super" a1) [] [] a2) "__init__" a3) [.Constant (.str txt) j a4] [] a5) a6, .Assign [.Attribute (.Name "self" q1) x q2] (.Name x q3) q4]
def iS (x : Str) : Scope := { kind := .function, names := [(PySem.Str.ofString "self", .local), (x, .local), (PySem.Str.ofString "__class__", .free), (PySem.Str.ofString "super", .globalImplicit)], isGenerator := false, isCoroutine := false, more := [] }
/-- how the call of super().__init__ is read -/
def SupEval (txt : Str) (j : Nat) (a1 a2 a3 a4 a5 : Pos) : Prop := ∀ env : Env, ∃ pl : Sem Bool, eval (.Call (.Attribute (.Call (.Name "super" a1) [] [] a2) "__init__" a3) [.Constant (.str txt) j a4] [] a5) env = (do
      let ov ← attributeBase (.Call (.Name "super" a1) [] [] a2) "__init__" env (eval (.Call (.Name "super" a1) [] [] a2) env)
      standAt a3.atName
      let (f, first) ← holding [ov] (getMethod ov "__init__" pl)
      callWith a5 f first (backTo a5 (starEach [.Constant (.str txt) j a4] env)) [])
/-- the name of the one argument -/
structure OkName (x : Str) : Prop where
  self : x ≠ ("self" : Str)
  cls : x ≠ ("__class__" : Str)
  sup : x ≠ ("super" : Str)
  dbg : (x == ("__debug__" : Str)) = false
/-- what the written part says of the class at C and of its __init__ at fI -/
structure ErrTxt (P : Program) (K : Frag) (C fI : Addr) (nm x : Str) : Prop where
  cls : ∃ nm q N bs bm sn sub ab col dd k0 k1 k2 k3 k5, K.lookup C = some (excClassObj nm q C N bs bm true sn sub ab col dd k0 k1 k2 k3 k5 "ValueError.__new__") ∧ refsVE bm = true
  sa : findIn K (.ref C) "__setattr__" = some (some (.builtin "object.__setattr__"))
  ga : findIn K (.ref C) "__getattribute__" = some (some (.builtin "BaseException.__getattribute__"))
  gg : findIn K (.ref C) "__getattr__" = some none
  noN : findIn K (.ref C) x = some none
  iC : findIn K (.ref C) "__init__" = some (some (.ref fI))
  tC : typeIn K (.ref fI) = some (.type "function")
  kC : keepIn K (.ref C) = true
  exC : subIn K (.ref C) (.type "BaseException") = some true
  veC : subIn K (.ref C) (.type "ValueError") = some true
  tyC : typeIn K (.ref C) = some (.type "type")
  hdC : hasDictIn K C = true
  te : exmOne K (.ref C) (.ref C) = some true
  mro : mroIn K C (.ref C) = some true
  sup : ks_superIn K C C "__init__" = some (some (.builtin "ValueError.__init__"))
  any : nsIn K cStatics "thirdparty.any" = some none
  sg : nsIn K mainGlobals "super" = some none
  top : (P.main.scope.names.lookup ("super" : Str)).isSome = false
  ok : OkName x
  fn : ∃ (oc : Value) (od : Option Addr) (kV doc pm : Value) (an : Option Addr) (cda cc : Addr) (ct : Value) (osl : Array (Option Value)) (txt : Str) (j : Nat) (p1 p2 a1 a2 a3 a4 a5 a6 q1 q2 q3 q4 : Pos),
    K.lookup fI = some ⟨oc, od, .func (fnX "__init__" (nm ++ ".__init__") (iA x p1 p2) (iB x txt j a1 a2 a3 a4 a5 a6 q1 q2 q3 q4) (iS x) [("__class__", cc)] .none kV doc pm an (.ref cda) ct), osl⟩ ∧ codeIn K (.ref cda) (nm ++ ".__init__") = true ∧
    (∃ ccl cdd vs ccs file tf, K.lookup cda = some ⟨ccl, cdd, .fields vs, ccs⟩ ∧ vs[2]? = some (.str file tf) ∧ ((P.main.file : Str) == file) = true) ∧
    (∃ cl cld csl, K.lookup cc = some ⟨cl, cld, .cell (some (.ref C)), csl⟩) ∧
    SupEval txt j a1 a2 a3 a4 a5 ∧ txt.length ≤ sizeLine ∧
    ∀ a b : Value, bindArgs (fnX "__init__" (nm ++ ".__init__") (iA x p1 p2) (iB x txt j a1 a2 a3 a4 a5 a6 q1 q2 q3 q4) (iS x) [("__class__", cc)] .none kV doc pm an (.ref cda) ct) ⟨[a, b], []⟩ = pure [(("self" : Str), a), (x, b)]
theorem kept_but {K : Frag} {h h' : Heap} {x : Addr} (X : K.In h) (hx : K.lookup x = none) (k : ∀ b o, b ≠ x → h.get? b = some o → h'.get? b = some o) : K.In h' := fun a o e =>
  k a o (fun z => by rw [z, hx] at e; cases e) (X a o e)
/-- what __init__ leaves of a fresh exception at x -/
structure InitEnd (h h' : Heap) (x C dx t1 : Addr) (f : Str) (v : Value) : Prop where
  keep : ∀ b o, b ≠ x → h.get? b = some o → h'.get? b = some o
  obj : h'.get? x = some { cls := .ref C, dict := some dx, data := .fields #[.ref t1, .none, .none, .none, .bool false, .none] }
  dbig : h.objs.size ≤ dx
  dne : dx ≠ x
  ns : h'.Ns1 dx (fun y => if y = f then some v else none)
section
variable {prog : Program} {w : World} {M : Model} {A : Around} {E : Value → Shared → Prop} {R : Result → Shared → Prop} {s : Shared} {K : Frag} {mg : Str → Option Value} {C fI : Addr} {nm x : Str}
theorem sup_call {h : Heap} {g : Array GenState} {d : Drawn} {t : Nat} {os : OsState} {e u t0 : Addr} {rest : List Value} {Q : Value → Shared → Prop} {nm q : Str} {N : Addr} {bs bm : List Value} {hdct : Bool} {sn : List Str} {sub : List Value} {ab : Bool} {col : Option Bool} {dd : Option Addr} {k0 k1 k2 k3 k5 : Option Value}
    (hC : h.get? C = some (excClassObj nm q C N bs bm hdct sn sub ab col dd k0 k1 k2 k3 k5 "ValueError.__new__")) (hu : h.get? u = some (kxs_mw "ValueError.__init__" e)) (he : h.get? e = some (excO C t0)) (hz : rest.length ≤ sizeLine)
    (hq : ∀ h', (∀ b o, b ≠ e → h.get? b = some o → h'.get? b = some o) → h'.get? e = some (excO C h.objs.size) → Q .none ⟨h', g, d, t, os⟩) :
    wpAny (model prog w) A (call (.ref u) rest) Q E ⟨h, g, d, t, os⟩ := by
  refine wpAny_call (codeAny_of_tree ?_)
  show wpAny _ A.in1 (callAny (.ref u) ⟨rest, []⟩) _ _ _
  simp only [callAny]
  refine wpAny_bind (wpAny_load hu ?_)
  simp only [kxs_mw, show (Value.type "method-wrapper" == Value.type "method" || Value.type "method-wrapper" == Value.type "builtin_function_or_method" || Value.type "method-wrapper" == Value.type "method-wrapper") = true by decide, if_true]
  refine KFB.if_so (by decide) ?_
  refine wpAny_bind (check_bound_init F.excBase_ValueError.toExcCallFacts hC he rfl ?_)
  refine wpAny_bind (wpAny_pure (wpAny_pure ?_))
  refine ⟨plainId_quiet F.excBase_ValueError.init.plain _, codeAny_builtin F.excBase_ValueError.initEntry ?_⟩
  exact exc_init_tree (cls := .ref C) (t0 := t0) (dv := none) (c2 := .none) (c3 := .none) (b4 := .bool false) he hz fun h' k e' _ => hq h' k e'
theorem err_init (T : ErrTxt prog K C fI nm x) {xe t0 : Addr} {v : Value} (X : K.In s.heap) (hlim : s.heap.NoLimit) (hG : s.heap.Ns mainGlobals mg) (hB : ∃ mb, s.heap.Ns builtinsNs mb ∧ ∀ y : Str, y ≠ "__name__" → mb y = bootBuiltins y)
    (hx : s.heap.get? xe = some (excO C t0)) (hnx : K.lookup xe = none) (hroom : A.depth < recursionLimit)
    (hq : ∀ h' tk dx t1, InitEnd s.heap h' xe C dx t1 x v → R (.ok (.ret .none)) { s with heap := h', toks := tk }) :
    codeAny (model prog w) A (.call (.ref fI) ⟨[.ref xe, v], []⟩) R s := by
  obtain ⟨oc, od, kV, doc, pm, an, cda, cc, ct, osl, txt, j, p1, p2, a1, a2, a3, a4, a5, a6, q1, q2, q3, q4, ho, hcd, ⟨ccl, cdd, vs, ccs, file, tf, hcda, hvs, hfile⟩, ⟨cl, cld, csl, hcc⟩, hev, htx, hbd⟩ := T.fn
  obtain ⟨nm', q, N, bs, bm, sn, sub, ab, col, dd, k0, k1, k2, k3, k5, hC, hbm⟩ := T.cls
  obtain ⟨okS, okC, okP, okD⟩ := T.ok
  have hclD : clsIn K C = some { name := nm', bases := bs, mro := .ref C :: bm, ns := N, qualname := q, hasDict := true, slotNames := sn, subclasses := sub, abstract := ab, collection := col, hasDel := false } := by unfold clsIn; rw [hC] <;> rfl
  have lkS : (iS x).names.lookup ("self" : Str) = some .local := rfl
  have lkX : (iS x).names.lookup x = some .local := by
    show List.lookup x [(PySem.Str.ofString "self", NameKind.local), (x, .local), _, _] = _
    have e1 : (x == PySem.Str.ofString "self") = false := beq_eq_false_iff_ne.mpr okS
    simp only [List.lookup, e1, beq_self_eq_true]
  have lkC : (iS x).names.lookup ("__class__" : Str) = some .free := by
    show List.lookup (PySem.Str.ofString "__class__") [(PySem.Str.ofString "self", NameKind.local), (x, .local), (PySem.Str.ofString "__class__", .free), _] = _
    have e1 : (PySem.Str.ofString "__class__" == PySem.Str.ofString "self") = false := by decide +kernel
    have e2 : (PySem.Str.ofString "__class__" == x) = false := beq_eq_false_iff_ne.mpr (Ne.symm okC)
    simp only [List.lookup, e1, e2, beq_self_eq_true]
  have lkP : (iS x).names.lookup ("super" : Str) = some .globalImplicit := by
    show List.lookup (PySem.Str.ofString "super") [(PySem.Str.ofString "self", NameKind.local), (x, .local), (PySem.Str.ofString "__class__", .free), (PySem.Str.ofString "super", .globalImplicit)] = _
    have e1 : (PySem.Str.ofString "super" == PySem.Str.ofString "self") = false := by decide +kernel
    have e2 : (PySem.Str.ofString "super" == x) = false := beq_eq_false_iff_ne.mpr (Ne.symm okP)
    have e3 : (PySem.Str.ofString "super" == PySem.Str.ofString "__class__") = false := by decide +kernel
    simp only [List.lookup, e1, e2, e3, beq_self_eq_true]
  refine ks_codeAny_call_defAt (body := iB x txt j a1 a2 a3 a4 a5 a6 q1 q2 q3 q4) (binds := [("self", .ref xe), (x, v)]) hroom (X _ _ ho) rfl hlim (codeRec_of X hcd) rfl (BindsTo.of_eq (hbd _ _)) ?_ ?_ (fun h₁ hns hk₁ => ?_)
  · intro y hy
    rcases List.mem_cons.mp hy with rfl | hy
    · intro z; cases z
    rcases List.mem_cons.mp hy with rfl | hy
    · intro z; cases z
    rcases List.mem_cons.mp hy with rfl | hy
    · intro z; cases z
    rcases List.mem_cons.mp hy with rfl | hy
    · intro z; cases z
    · cases hy
  · intro y hy
    rcases List.mem_cons.mp hy with rfl | hy
    · exact lkS
    rcases List.mem_cons.mp hy with rfl | hy
    · exact lkX
    · cases hy
  have hS : h₁.Ns s.heap.objs.size (fun y => if y = x then some v else if y = "self" then some (.ref xe) else none) := by
    have e : (fun y => List.lookup y (List.reverse [(("self" : Str), Value.ref xe), (x, v)])) = (fun y => if y = x then some v else if y = ("self" : Str) then some (.ref xe) else none) := by
      funext y
      show List.lookup y [(x, v), (("self" : Str), Value.ref xe)] = _
      by_cases h1 : y = x
      · subst h1
        simp only [List.lookup, beq_self_eq_true, if_true]
      · have e1 : (y == x) = false := beq_eq_false_iff_ne.mpr h1
        by_cases h2 : y = ("self" : Str)
        · subst h2
          simp only [List.lookup, e1, beq_self_eq_true, if_true, if_neg h1]
        · have e2 : (y == ("self" : Str)) = false := beq_eq_false_iff_ne.mpr h2
          simp only [List.lookup, e1, e2, if_neg h1, if_neg h2]
    rw [← e]
    exact hns
  have mS : (fun y => if y = x then some v else if y = ("self" : Str) then some (Value.ref xe) else none) ("self" : Str) = some (.ref xe) := by
    dsimp only
    rw [if_neg (Ne.symm okS), if_pos rfl]
  have mX : (fun y => if y = x then some v else if y = ("self" : Str) then some (Value.ref xe) else none) x = some v := by
    dsimp only
    rw [if_pos rfl]
  have X₁ : K.In h₁ := X.keeps hk₁
  have hx₁ := hk₁ _ _ hx
  have hne : xe ≠ C := by
    rintro rfl
    rw [X _ _ hC] at hx
    cases hx
  generalize hm : (fun y => if y = x then some v else if y = ("self" : Str) then some (Value.ref xe) else none) = m at hS mS mX
  obtain ⟨pl, hev⟩ := hev (callEnv (fnX "__init__" (nm ++ ".__init__") (iA x p1 p2) (iB x txt j a1 a2 a3 a4 a5 a6 q1 q2 q3 q4) (iS x) [("__class__", cc)] .none kV doc pm an (.ref cda) ct) s.heap.objs.size fI)
  obtain ⟨mb, hb1, hb2⟩ := hB
  have oD : h₁.get? C = some (excClassObj nm' q C N bs bm true sn sub ab col dd k0 k1 k2 k3 k5 "ValueError.__new__") := X₁ _ _ hC
  -- super().__init__(text)
  refine ks_wpAt_execs_cons (ks_wpAt_Expr_any (ks_wpAt_MethodCall (pl := pl) (ks_wpAt_super_base (f := fI) (cc := cda) (ar := { arg := "self", annotation := none, pos := p1 }) lkP lkC (by decide +kernel) rfl (X₁ _ _ ho) rfl rfl rfl (X₁ _ _ hcda) rfl hvs hfile T.top ?_) hev))
  refine ks_loadName_global rfl lkP (loadGlobal_builtin (hG.keeps hk₁) (mg_none_of X hG T.sg) (hb1.keeps hk₁) ((hb2 _ (by decide +kernel)).trans (by decide +kernel)) ⟨rfl, ?_⟩)
  refine wpAny_loadName_free rfl lkC rfl ⟨_, X₁ _ _ hcc, rfl⟩ ?_
  refine wpAny_loadName_local rfl lkS hS mS ?_
  refine ks_wpAny_isType_cls oD rfl ⟨rfl, ?_⟩
  refine ks_wpAny_call_super oD rfl hx₁ rfl (fun c e => by cases e) (looks_mroIn X₁ T.mro) (fun h2 e2 k2 => ?_)
  have X2 : K.In h2 := X₁.keeps k2
  have hx2 := k2 _ _ hx₁
  have hI : Looks (model prog w) h2 (isInstance (.ref xe) (.type "ValueError")) true := (show InstAt h2 xe (excO C t0) C none from ⟨hx2, rfl, rfl, trivial⟩).type.andThen (looks_subIn X2 T.veC)
  have hsup : alongIn K "__init__" (((Value.ref C :: bm).dropWhile (· != .ref C)).drop 1) = some (some (.builtin "ValueError.__init__")) := by
    have z := T.sup
    unfold ks_superIn at z
    rw [hclD] at z
    exact z
  refine kxs_getMethod kxs_ValueError e2 (looks_opaque X2 T.any) (l₀ := .ref C :: bm) (fun A Q E s k q => wpAny_bind ((looks_clsIn X2 hclD) A _ E s k (wpAny_pure q))) rfl X2 hsup hI hne (by decide +kernel) ?_
  have hu : (h2.push (kxs_mw "ValueError.__init__" xe)).get? h2.objs.size = some (kxs_mw "ValueError.__init__" xe) := Heap.get?_push_size _ rfl
  have k3 : ∀ b o, h2.get? b = some o → (h2.push (kxs_mw "ValueError.__init__" xe)).get? b = some o := fun b o e => Heap.get?_push_of_some _ e
  refine kxs_callWith (i := "ValueError.__init__") (x := xe) (by first | rfl | (simp [starEach, backTo]; done)) ?_
  refine evalArgs_plain ?_
  refine spliced_cons ?_
  show wpAny _ _ (eval (.Constant (.str txt) j a4) _) _ _ _
  refine Constant_str (spliced_nil ⟨hu, ?_⟩)
  refine sup_call (k3 _ _ (k2 _ _ oD)) hu (k3 _ _ hx2) (by show 1 ≤ sizeLine; decide) (fun h4 k4 e4 => ?_)
  -- self.x = x
  have K4 : ∀ b o, b ≠ xe → s.heap.get? b = some o → h4.get? b = some o := fun b o hb e => k4 b o hb (k3 _ _ (k2 _ _ (hk₁ _ _ e)))
  have X4 : K.In h4 := kept_but X hnx K4
  have hLx : s.heap.objs.size ≠ xe := Nat.ne_of_gt (Heap.lt_size hx)
  have hS4 : h4.Ns s.heap.objs.size m := by
    obtain ⟨oL, es, ep, hL, r⟩ := hS
    exact ⟨oL, es, ep, k4 _ _ hLx (k3 _ _ (k2 _ _ hL)), r⟩
  refine ks_wpAt_execs_cons (wpAt_of_wpAny (plainObj_wpAny_Assign_Attribute ?_))
  refine wpAny_Name (wpAny_loadName_local rfl lkX hS4 mX ?_) okD
  refine wpAny_Name (wpAny_loadName_local rfl lkS hS4 mS ?_) (by decide +kernel)
  refine set_plain X4 (ox := excO C (h2.push (kxs_mw "ValueError.__init__" xe)).objs.size) (od := none) ⟨e4, rfl, rfl, trivial⟩ T.sa ?_
  refine exc_osa X4 e4 hclD (show refsVE (.ref C :: bm) = true from hbm) rfl T.noN (fun h5 tk5 dx k5' dn dne hx5 hn5 => ?_)
  refine wpAt_of_wpAny (wpAny_execs_nil ?_)
  have z : s.heap.objs.size ≤ h4.objs.size := by
    obtain ⟨oL, _, _, hL, _⟩ := hS4
    exact Nat.le_of_lt (Heap.lt_size hL)
  exact hq h5 tk5 dx _ ⟨fun b o hb e => k5' b o hb (K4 b o hb e), hx5, Nat.le_trans z dn, dne, hn5⟩
/-- a made error -/
structure OwnMade (h h' : Heap) (e C d : Addr) (f : Str) (v : Value) : Prop where
  keep : ∀ b o, h.get? b = some o → h'.get? b = some o
  new : h.objs.size ≤ e
  obj : ∃ oe vs, h'.get? e = some oe ∧ oe.cls = .ref C ∧ oe.dict = some d ∧ oe.data = .fields vs ∧ vs[1]? = some .none
  dbig : h.objs.size ≤ d
  dne : d ≠ e
  ns : h'.Ns1 d (fun y => if y = f then some v else none)
theorem one_size (v : Value) : [v].length ≤ sizeLine := by
  rw [sizeLine_eq]
  exact (by decide : 1 ≤ 16777216)
theorem err_made (T : ErrTxt prog K C fI nm x) {v : Value} (X : K.In s.heap) (hlim : s.heap.NoLimit) (hG : s.heap.Ns mainGlobals mg) (hB : ∃ mb, s.heap.Ns builtinsNs mb ∧ ∀ y : Str, y ≠ "__name__" → mb y = bootBuiltins y) (hroom : A.depth + 1 < recursionLimit)
    (hq : ∀ h' tk e d, OwnMade s.heap h' e C d x v → R (.ok (.ret (.ref e))) { s with heap := h', toks := tk }) :
    codeAny (model prog w) A (.call (.ref C) ⟨[v], []⟩) R s := by
  obtain ⟨nm', q, N, bs, bm, sn, sub, ab, col, dd, k0, k1, k2, k3, k5, hC, hbm⟩ := T.cls
  obtain ⟨hp, g, dr, tk, os⟩ := s
  have k : ∀ b o, hp.get? b = some o → ((hp.push (kdv_tup [v])).push (excO C hp.objs.size)).get? b = some o := fun b o e => Heap.get?_push_of_some _ (Heap.get?_push_of_some _ e)
  have hget : ((hp.push (kdv_tup [v])).push (excO C hp.objs.size)).get? (hp.objs.size + 1) = some (excO C hp.objs.size) := by heap_get
  have hnx : K.lookup (hp.objs.size + 1) = none := by
    cases e : K.lookup (hp.objs.size + 1) with
    | none => rfl
    | some o =>
      have z : hp.get? (hp.objs.size + 1) = some o := X _ _ e
      exact absurd (Nat.lt_of_succ_lt (Heap.lt_size z)) (Nat.lt_irrefl _)
  obtain ⟨mb, hb1, hb2⟩ := hB
  refine call_own F.excBase_ValueError (fun X => refsVE_contains X bm hbm) (X _ _ hC) (looks_findIn X T.iC) (fun self => bind_fn X self T.tC) (one_size v) ?_
  refine err_init (s := ⟨(hp.push (kdv_tup [v])).push (excO C hp.objs.size), g, dr, tk, os⟩) T (X.keeps k) (hlim.keeps k) (hG.keeps k) ⟨mb, hb1.keeps k, hb2⟩ hget hnx ?_ fun h' tk' dx t1 ⟨k', hx, dn, dne, hns⟩ => ?_
  · show A.depth + 1 < recursionLimit
    exact hroom
  · have old : ∀ b o, hp.get? b = some o → h'.get? b = some o := fun b o e => k' b o (Nat.ne_of_lt (Nat.lt_succ_of_lt (Heap.lt_size e))) (k b o e)
    have z : hp.objs.size + 1 + 1 ≤ dx := by
      first
        | (simpa only [Heap.size_push] using dn)
        | exact dn
        | (have q := dn; rw [Heap.size_push, Heap.size_push] at q; exact q)
    exact ⟨rfl, hq h' tk' (hp.objs.size + 1) dx ⟨old, Nat.le_succ _, ⟨_, _, hx, rfl, rfl, rfl, rfl⟩, Nat.le_trans (Nat.le_trans (Nat.le_succ _) (Nat.le_succ _)) z, dne, hns⟩⟩
end
end ErrX
end PySem

namespace Gx
open PySem PySem.Spec PyProof.Rows L2
theorem relO_err {v : V} {v' : Value} (r : RelV v v') (n f : Str) : RelO (List.lookup f [(n, v)]) (if f = n then some v' else none) := by
  by_cases hw : f = n
  · subst hw
    rw [if_pos rfl]
    have q : List.lookup f [(f, v)] = some v := by simp [List.lookup]
    rw [q]
    exact r
  · rw [if_neg hw]
    have qw : (f == n) = false := by simpa using hw
    have q2 : List.lookup f [(n, v)] = none := by simp [List.lookup, qw]
    rw [q2]
    trivial
section
variable {X : Cx} {C fI : Addr} {nm f : Str}
/-- C(e) -/
def tMkErr (C : Addr) (f : Str) (ta : TA) : St → Hp → XK → Prop := fun σ H Q => ta σ H fun vs H1 => ∃ v, vs = [v] ∧ ∀ d, H1 d = none → Q (.ref C) (some d) (upd H1 d (.xd [(f, v)]))
theorem pmk_err {a : Expr} {ta : TA} {p pos : Pos} {k : Nat} (T : PySem.ErrX.ErrTxt X.prog X.K C fI nm f) (gC : X.mg nm = some (.ref C)) (hr : Room k X.A) (ha : PA X [a] ta) (hg : Gl X nm := by rfl)
    (hdb : (nm == ("__debug__" : Str)) = false := by decide)
    (he : starEach (a :: []) X.env = (false, eval a X.env) :: starEach [] X.env := by rfl) (hpl : (backTo pos (starEach [] X.env)).any (·.1) = false := by rfl) :
    PMk X (.Call (.Name nm p) [a] [] pos) (tMkErr C f ta) := by
  intro pins s σ H Q I h
  refine wpAny_Call_Name_kw (ld_glob I hg gC ?_ hdb)
  refine PySem.W.callWith_K (h₀ := X.base) I.ok.mod.kin T.kC (thn (ha.run pos pins s σ H _ I h) fun us s1 hh => ?_) he hpl
  obtain ⟨vs, H1, I1, r1, v, ev, q1⟩ := hh
  subst ev
  refine ⟨I1.kIn, ?_⟩
  cases r1 with
  | cons rv rn =>
    rename_i v' us'
    cases rn
    show wpAny _ _ (call (.ref C) [v']) _ _ _
    have hlim := I1.nolimit
    have hG := I1.mod.glob.keeps I1.bk
    obtain ⟨mb, hb1, hb2⟩ := I1.mod.blt
    have hB : ∃ mb, s1.heap.Ns builtinsNs mb ∧ ∀ y : Str, y ≠ "__name__" → mb y = bootBuiltins y := ⟨mb, hb1.keeps I1.bk, hb2⟩
    obtain ⟨hp, g, dr, tk, os⟩ := s1
    refine wpAny_call (PySem.ErrX.err_made T I1.kIn hlim hG hB (by have := hr.dp; omega) fun h' tk' e d M => ?_)
    show MkP X pins σ Q (.ref e) ⟨h', g, dr, tk', os⟩
    obtain ⟨oe, fv, hoe, hc, hd, hdat, h1⟩ := M.obj
    have hns := M.ns
    obtain ⟨G', g1, g2⟩ := restrict h' fun b => decide (b ≠ e)
    have gk : ∀ b, b ≠ e → G'.get? b = h'.get? b := fun b hb => g1 b (decide_eq_true hb)
    have ge : G'.get? e = none := g2 e (by simp)
    have old : ∀ b o, hp.get? b = some o → G'.get? b = some o := fun b o q => (gk b (Nat.ne_of_lt (Nat.lt_of_lt_of_le (Heap.lt_size q) M.new))).trans (M.keep b o q)
    have ob : ObjOk X.prog X.w (upd H1 d (.xd [(f, v)])) G' d (.xd [(f, v)]) :=
      ⟨_, hns.at (fun o q => (gk d M.dne).trans q), fun g => relO_err rv f g⟩
    have J : Inv X pins σ (upd H1 d (.xd [(f, v)])) ⟨G', g, dr, tk', os⟩ := I1.laid (t' := tk') old M.dbig ob
    refine ⟨e, oe, fv, ⟨G', g, dr, tk', os⟩, _, .ref C, some d, rfl, J, fun b o q => ?_, ge, hoe, ⟨hc, hd⟩, hdat, h1, ?_, rfl, I1.bare, raises_own T.exC T.tyC, q1 d (I1.hok.fresh M.dbig)⟩
    · by_cases hb : b = e
      · have q' : G'.get? b = some o := q
        rw [hb, ge] at q'; cases q'
      · exact (gk b hb).symm.trans q
    · rw [upd_ne (Ne.symm M.dne)]
      exact I1.hok.fresh M.new
/-- raise C(e) -/
def tRaiseErr (C : Addr) (f : Str) (W : WX) (ta : TA) : TS := fun _ σ H => tMkErr C f ta σ H fun cls d H' => W cls d σ H'
theorem ps_raiseErr {a : Expr} {ta : TA} {W : WX} {p pos pos2 : Pos} {k : Nat} (hc : X.calm = true) (T : PySem.ErrX.ErrTxt X.prog X.K C fI nm f) (gC : X.mg nm = some (.ref C)) (hr : Room k X.A) (tk : Takes X W) (ha : PA X [a] ta) (hg : Gl X nm := by rfl)
    (hdb : (nm == ("__debug__" : Str)) = false := by decide)
    (he : starEach (a :: []) X.env = (false, eval a X.env) :: starEach [] X.env := by rfl) (hpl : (backTo pos (starEach [] X.env)).any (·.1) = false := by rfl) :
    PS X (.Raise (some (.Call (.Name nm p) [a] [] pos)) none pos2) (tRaiseErr C f W ta) := ps_raise hc tk (pmk_err T gC hr ha hg hdb he hpl)
/-- e.f, e the exception that the suite holds (at a; its class cls, its dict d) -/
def tErrF (C : Addr) (f : Str) (a : Addr) (cls : Value) (d : Option Addr) (te : TE) : TE := fun σ H Q => te σ H fun x H1 => x = .ref a ∧ cls = .ref C ∧ ∃ (dd : Addr) (v : V), d = some dd ∧ H1 dd = some (.xd [(f, v)]) ∧ Q v H1
theorem pe_errF {a : Addr} {oe : Obj} {cls : Value} {d : Option Addr} {pn : List (Addr × Obj)} {e : Expr} {te : TE} {pos : Pos} (T : PySem.ErrX.ErrTxt X.prog X.K C fI nm f) (hz : Zc cls d oe) (hf : ∃ vs, oe.data = .fields vs) (he : PE (X.suite a ((a, oe) :: pn)) e te)
    (hb : attributeBase e f X.env (eval e X.env) = eval e X.env := by rfl) :
    PE (X.suite a ((a, oe) :: pn)) (.Attribute e f pos) (tErrF C f a cls d te) := by
  refine ⟨fun pins s σ H Q I h => ?_⟩
  refine attr_of hb (thn (he.run pins s σ H _ I h) fun u s1 hh => ?_)
  obtain ⟨x, H1, I1, rx, ex, ec, dd, v, ed, ea, q⟩ := hh
  subst ex
  obtain rfl : u = Value.ref a := rx
  subst ec
  subst ed
  obtain ⟨ha, _⟩ := I1.pin (a, oe) (List.mem_append_left _ List.mem_cons_self)
  obtain ⟨vs, hd⟩ := hf
  have hx : ObjOk X.prog X.w H1 s1.heap dd (.xd [(f, v)]) := I1.hok dd _ ea
  obtain ⟨mA, hns, hr⟩ := hx
  obtain ⟨od, ho, hl⟩ := lookIn_ns hns
  have l : List.lookup f [(f, v)] = some v := by simp [List.lookup]
  obtain ⟨u, hu, ru⟩ := RelO.some_of (v := v) (o := mA f) (by rw [← l]; exact hr f)
  have J : PySem.W.InstAt s1.heap a oe C (some od) := ⟨ha, hz.1, by unfold PySem.W.notCls; rw [hd] <;> rfl, by rw [hz.2]; exact ho⟩
  exact HandSPX.exc_get I1.kIn J T.ga T.gg T.exC (PySem.W.findObj_own T.hdC T.noN rfl (by rw [hl, hu])) (handed_of ru) ⟨v, H1, I1.tok _, ru, q⟩
end
end Gx

-- part GLoop
set_option Elab.async false
set_option linter.all false
set_option maxRecDepth 100000
set_option maxHeartbeats 1000000
namespace Gx
open PySem PySem.Spec PyProof.Rows L2
open Rp (rp)
open Sc (toV)

/-! ### owned cells that an evaluation does not see -/
theorem Hold.drop {G : Hp} {R S : Sto} {H : Hp} (h : Hold G (R ++ S) H) : Hold G S H :=
  ⟨h.ex, fun p m => h.own p (List.mem_append_right _ m), fun a m => h.sep a (by unfold dom at m ⊢; rw [List.map_append]; exact List.mem_append_right _ m), by
    have e := h.nd
    unfold dom at e ⊢
    rw [List.map_append] at e
    exact (List.nodup_append.mp e).2.1⟩
theorem Stp.frame {G G' : Hp} {R S S' : Sto} {H H' : Hp} (h : Hold G (R ++ S) H) (s : Stp G S H G' S' H') : Stp G (R ++ S) H G' (R ++ S') H' := by
  have nd := h.nd
  unfold dom at nd
  rw [List.map_append] at nd
  have hR : ∀ p ∈ R, H p.1 = some p.2 := fun p m => h.own p (List.mem_append_left _ m)
  have dR : ∀ a, a ∈ dom R → ∃ o, H a = some o ∧ (a, o) ∈ R := fun a m => by
    obtain ⟨p, hp, rfl⟩ := List.mem_map.mp m
    exact ⟨p.2, hR p hp, hp⟩
  have disj : ∀ a, a ∈ dom R → a ∉ dom S := fun a m n => (List.nodup_append.mp nd).2.2 a m a n rfl
  have da : ∀ S : Sto, dom (R ++ S) = dom R ++ dom S := fun S => List.map_append
  refine ⟨⟨s.hold.ex, fun p m => ?_, fun a m => ?_, ?_⟩, s.gg, fun b o hb e => s.fr b o (fun z => hb (by rw [da]; exact List.mem_append_right _ z)) e, s.new, fun b m => ?_, s.th⟩
  · rcases List.mem_append.mp m with m | m
    · exact s.fr _ _ (disj _ (List.mem_map.mpr ⟨p, m, rfl⟩)) (hR p m)
    · exact s.hold.own p m
  · rw [da] at m
    rcases List.mem_append.mp m with m | m
    · obtain ⟨o, ho, _⟩ := dR a m
      exact s.new a o (h.sep a (by rw [da]; exact List.mem_append_left _ m)) ho
    · exact s.hold.sep a m
  · rw [da]
    refine List.nodup_append.mpr ⟨(List.nodup_append.mp nd).1, s.hold.nd, fun a ha b hb e => ?_⟩
    subst e
    obtain ⟨o, ho, _⟩ := dR a ha
    rcases s.dm a hb with z | z
    · exact disj a ha z
    · rw [ho] at z; cases z
  · rw [da] at m ⊢
    rcases List.mem_append.mp m with m | m
    · exact .inl (List.mem_append_left _ m)
    · rcases s.dm b m with z | z
      · exact .inl (List.mem_append_right _ z)
      · exact .inr z
theorem Ev.frame {α : Type} [Rp α] {K : PySem.W.Frag} {te : TE} {σ : St} {G : Hp} {S S' : Sto} {x : α} (R : Sto) (h : Ev K te σ G S x S') : Ev K te σ G (R ++ S) x (R ++ S') := fun G1 H e hd Q k =>
  h G1 H e hd.drop Q fun v G' H' s r => k v G' H' (s.frame hd) r
theorem EvT.frame {tt : TT} {σ : St} {G : Hp} {S S' : Sto} {b : Bool} (R : Sto) (h : EvT tt σ G S b S') : EvT tt σ G (R ++ S) b (R ++ S') := fun G1 H e hd Q k =>
  h G1 H e hd.drop Q fun G' H' s => k G' H' (s.frame hd)

/-! ### a frozen list to be walked -/
def EvF {α : Type} [Rp α] (K : PySem.W.Frag) (te : TE) (σ : St) (G : Hp) (S : Sto) (xs : List α) (S' : Sto) : Prop :=
  ∀ G1 H, Same G G1 → Hold G1 S H → ∀ Q : VK, (∀ a vs G' H', Stp G1 S H G' S' H' → SqL K G' a vs → Its K xs vs G' → Q (.ref a) H') → te σ H Q
theorem Ev.fz {α : Type} [Rp α] {K : PySem.W.Frag} {te : TE} {σ : St} {G : Hp} {S S' : Sto} {xs : List α} (h : Ev K te σ G S xs S') : EvF K te σ G S xs S' := fun G1 H e hd Q k => h G1 H e hd Q fun v G' H' s ⟨a, vs, r, h1, hi⟩ => by
  rw [r]; exact k a vs G' H' s (SqL.of h1) hi
theorem EvN.fz {α : Type} [Rp α] {K : PySem.W.Frag} {te : TE} {σ : St} {G : Hp} {S S' : Sto} {xs : List α} (h : EvN K te σ G S xs S') : EvF K te σ G S xs S' := (EvN.frz h).fz
theorem Ev.scrF {K : PySem.W.Frag} {te : TE} {σ : St} {G : Hp} {S S' : Sto} {ns : List Int} (h : Ev K te σ G S (Scr.mk ns) S') : EvF K te σ G S ns S' := fun G1 H e hd Q k => h G1 H e hd Q fun v G' H' s ⟨a, r, h1⟩ => by
  rw [r]; exact k a _ G' H' s h1 (Its.ofSc ns)

/-! ### what a for walks, as data -/
/-- J gives the items xs, wherever C holds of the frozen part -/
structure Runs {α : Type} [Rp α] (K : PySem.W.Frag) (J : It) (xs : List α) (C : Hp → Prop) : Prop where
  mono : ∀ G G', Same G G' → C G → C G'
  go : ∀ i G H, i < xs.length → Same G H → C G → J.go i H
  stop : ∀ G H, Same G H → C G → J.stop xs.length H
  yld : ∀ i G S H v H' x, Hold G S H → C G → J.yld i H v H' → xs[i]? = some x → ∃ G', Stp G S H G' S H' ∧ rp K x v G'
def EvI {α : Type} [Rp α] (K : PySem.W.Frag) (wi : TI) (σ : St) (G : Hp) (S : Sto) (xs : List α) (S' : Sto) : Prop :=
  ∀ G1 H, Same G G1 → Hold G1 S H → ∀ R : It → Hp → Prop, (∀ J C G' H', Stp G1 S H G' S' H' → Runs K J xs C → C G' → R J H') → wi σ H R
/-- a target: F is true of the parts that are stored by U -/
def Tg {α : Type} [Rp α] (K : PySem.W.Frag) (g : TG) (F : α → List V → Hp → Prop) (U : List V → St → St) : Prop :=
  ∀ (x : α) (v : V) (σ : St) (G H : Hp) (Q : St → Hp → Prop), Same G H → rp K x v G → (∀ vs, F x vs G → Q (U vs σ) H) → g v σ H Q
section
variable {K : PySem.W.Frag} {X : Cx} {σ : St} {G : Hp} {S S' S1 S2 : Sto} {te : TE} {B : Bs} {D : Ends}
abbrev F1 {α : Type} [Rp α] (K : PySem.W.Frag) : α → List V → Hp → Prop := fun x vs G => ∃ v, vs = [v] ∧ rp K x v G
abbrev U1 (j : Nat) : List V → St → St := fun vs σ => match vs with | v :: _ => σ.set j (some v) | _ => σ
theorem tg_nm {α : Type} [Rp α] {j : Nat} : Tg (α := α) K (gName j) (F1 K) (U1 j) := fun x v σ G H Q e r k => k [v] ⟨v, rfl, r⟩
abbrev F2 {α β : Type} [Rp α] [Rp β] (K : PySem.W.Frag) : P2 α β → List V → Hp → Prop := fun x vs G => ∃ v0 v1, vs = [v0, v1] ∧ rp K x.f0 v0 G ∧ rp K x.f1 v1 G
abbrev U2 (i j : Nat) : List V → St → St := fun vs σ => match vs with | v0 :: v1 :: _ => (σ.set i (some v0)).set j (some v1) | _ => σ
theorem tg_2 {α β : Type} [Rp α] [Rp β] {i j : Nat} : Tg (α := P2 α β) K (gTup K 2 (gCons (gName i) (gCons (gName j) gNil))) (F2 K) (U2 i j) := fun x v σ G H Q e ⟨a, v0, v1, r, h, h0, h1⟩ k =>
  ⟨a, [v0, v1], r, sameT e h, rfl, v0, [v1], rfl, v1, [], rfl, rfl, k [v0, v1] ⟨v0, v1, rfl, h0, h1⟩⟩
abbrev F3 {α β γ : Type} [Rp α] [Rp β] [Rp γ] (K : PySem.W.Frag) : P3 α β γ → List V → Hp → Prop := fun x vs G => ∃ v0 v1 v2, vs = [v0, v1, v2] ∧ rp K x.f0 v0 G ∧ rp K x.f1 v1 G ∧ rp K x.f2 v2 G
abbrev U3 (i j l : Nat) : List V → St → St := fun vs σ => match vs with | v0 :: v1 :: v2 :: _ => ((σ.set i (some v0)).set j (some v1)).set l (some v2) | _ => σ
theorem tg_3 {α β γ : Type} [Rp α] [Rp β] [Rp γ] {i j l : Nat} : Tg (α := P3 α β γ) K (gTup K 3 (gCons (gName i) (gCons (gName j) (gCons (gName l) gNil)))) (F3 K) (U3 i j l) := fun x v σ G H Q e ⟨a, v0, v1, v2, r, h, h0, h1, h2⟩ k =>
  ⟨a, [v0, v1, v2], r, sameT e h, rfl, v0, _, rfl, v1, _, rfl, v2, _, rfl, rfl, k [v0, v1, v2] ⟨v0, v1, v2, rfl, h0, h1, h2⟩⟩
abbrev F4 {α β γ δ : Type} [Rp α] [Rp β] [Rp γ] [Rp δ] (K : PySem.W.Frag) : P4 α β γ δ → List V → Hp → Prop := fun x vs G => ∃ v0 v1 v2 v3, vs = [v0, v1, v2, v3] ∧ rp K x.f0 v0 G ∧ rp K x.f1 v1 G ∧ rp K x.f2 v2 G ∧ rp K x.f3 v3 G
abbrev U4 (i j l m : Nat) : List V → St → St := fun vs σ => match vs with | v0 :: v1 :: v2 :: v3 :: _ => (((σ.set i (some v0)).set j (some v1)).set l (some v2)).set m (some v3) | _ => σ
theorem tg_4 {α β γ δ : Type} [Rp α] [Rp β] [Rp γ] [Rp δ] {i j l m : Nat} : Tg (α := P4 α β γ δ) K (gTup K 4 (gCons (gName i) (gCons (gName j) (gCons (gName l) (gCons (gName m) gNil))))) (F4 K) (U4 i j l m) := fun x v σ G H Q e ⟨a, v0, v1, v2, v3, r, h, h0, h1, h2, h3⟩ k =>
  ⟨a, [v0, v1, v2, v3], r, sameT e h, rfl, v0, _, rfl, v1, _, rfl, v2, _, rfl, v3, _, rfl, rfl, k [v0, v1, v2, v3] ⟨v0, v1, v2, v3, rfl, h0, h1, h2, h3⟩⟩

/-! ### lists, ranges -/
theorem ei_list {α : Type} [Rp α] {xs : List α} (h : EvF K te σ G S xs S') : EvI K (iList K te) σ G S xs S' := fun G1 H e hd R k => h G1 H e hd _ fun a vs G' H' s hq hi =>
  ⟨a, rfl, ⟨vs, s.hold.ex.seq hq⟩, k _ (fun G => SqL K G a vs ∧ Its K xs vs G) G' H' s
    ⟨fun G G' e ⟨h1, h2⟩ => ⟨e.seq h1, h2.mono e⟩, fun i G H hl e ⟨h1, h2⟩ => by
        obtain ⟨v, hv, _⟩ := Pd.getL h2 (List.getElem?_eq_getElem hl)
        exact ⟨vs, v, e.seq h1, hv⟩,
      fun G H e ⟨h1, h2⟩ => ⟨vs, e.seq h1, by rw [Pd.len h2]; exact Nat.le_refl _⟩,
      fun i G S H v H' x hd ⟨h1, h2⟩ ⟨e1, y⟩ hx => by
        subst e1
        obtain ⟨w, hw, r⟩ := Pd.getL h2 hx
        have := y vs (hd.ex.seq h1)
        rw [hw] at this
        cases this
        exact ⟨G, .refl hd, r⟩⟩ ⟨hq, hi⟩⟩
/-- 0, 1, .. n - 1 -/
def rgU (n : Int) : List Int := (List.range n.toNat).map fun (k : Nat) => (k : Int)
def rgF (a b : Int) : List Int := (List.range (b - a).toNat).map fun (k : Nat) => a + (k : Int)
theorem runs_range (lo : Int) (n : Nat) : Runs K (Itr lo n) ((List.range n).map fun (k : Nat) => lo + (k : Int)) fun _ => True :=
  ⟨fun _ _ _ h => h, fun i G H hl _ _ => (by simpa using hl : i < n), fun G H _ _ => (by simp : n ≤ ((List.range n).map fun (k : Nat) => lo + (k : Int)).length), fun i G S H v H' x hd _ ⟨e1, e2⟩ hx => by
    subst e1
    refine ⟨G, .refl hd, ?_⟩
    rw [List.getElem?_map] at hx
    by_cases hl : i < n
    · rw [List.getElem?_range hl] at hx
      cases hx
      exact e2
    · rw [List.getElem?_eq_none_iff.mpr (by simpa using hl)] at hx
      cases hx⟩
theorem ei_range1 {n : Int} (h : Ev K te σ G S n S') (hb : -(2 ^ 62) ≤ n ∧ n < 2 ^ 62) : EvI K (iRng1 (tCons te tNil)) σ G S (rgU n) S' := fun G1 H e hd R k => h G1 H e hd _ fun v G' H' s r =>
  ⟨n, by rw [show v = .int n from r], hb.1, hb.2, k _ (fun _ => True) G' H' s (by
    have z := runs_range (K := K) 0 n.toNat
    unfold rgU
    simpa using z) trivial⟩
theorem ei_range2 {a b : Int} {ta tb : TE} (h : Ev K ta σ G S a S1) (h2 : Ev K tb σ G S1 b S') (hb : (-(2 ^ 62) ≤ a ∧ a < 2 ^ 62) ∧ -(2 ^ 62) ≤ b ∧ b < 2 ^ 62) : EvI K (iRng2 (tCons ta (tCons tb tNil))) σ G S (rgF a b) S' := fun G1 H e hd R k => h G1 H e hd _ fun v G' H' s r => h2 G' H' (e.trans s.gg) s.hold _ fun u G2 H2 s2 r2 =>
  ⟨a, b, by rw [show v = .int a from r, show u = .int b from r2], ⟨hb.1.1, hb.1.2, hb.2.1, hb.2.2⟩, k _ (fun _ => True) G2 H2 (s.trans s2) (runs_range (K := K) a (b - a).toNat) trivial⟩

/-! ### for -/
/-- behind a turn's body: the invariant again, over what was frozen at the body's beginning -/
def NX (B : Bs) (G : Hp) (I : St → Hp → Sto → Prop) : St → Hp → Prop := fun σ H => ∃ G2 S2, Stp B.G B.S B.H G2 S2 H ∧ Same G G2 ∧ I σ G2 S2
theorem at_nx {I : St → Hp → Sto → Prop} {G' : Hp} (e : Same G' G) (h : I σ G S) : At B (NX B G' I) σ G S := fun H s => ⟨G, S, s, e, h⟩
/-- for target in iter: the rest of the items is told to the invariant -/
theorem s_for {α : Type} [Rp α] {xs : List α} {tg iter : Expr} {body : List Stmt} {wi : TI} {g : TG} {F : α → List V → Hp → Prop} {U : List V → St → St} {pos : Pos} (Inv : List α → St → Hp → Sto → Prop) (hi : EvI X.K wi σ G S xs S1) (ht : Tg X.K g F U)
    (h0 : ∀ G1, Same G G1 → Inv xs σ G1 S1)
    (hs : ∀ x r vs σ' G2 G' S', Same G G2 → Same G2 G' → x :: r <:+ xs → Inv (x :: r) σ' G2 S' → F x vs G' → At B (cB X body { D with nx := NX B G2 (Inv r), ct := NX B G2 (Inv r), bk := D.nx }) (U vs σ') G' S')
    (hd : ∀ σ' G' S', Same G G' → Inv [] σ' G' S' → At B D.nx σ' G' S') (hp : PassesOwn (model X.prog X.w) X.A X.env X.xe) (hc : X.calm = true) (pi : PI X tg iter wi) (pg : PG X tg g)
    (hfs : ∀ x, foldedSetIterable iter X.env x = pure x := by intro _; rfl) : At B (cS X (.For tg iter body [] pos) D) σ G S := fun H s => toS (ps_for hp hc pi pg (pB body) hfs) (by
  refine hi G H (Same.refl G) s.hold _ fun J C G1 H1 s1 rn c1 => ?_
  refine ⟨fun i m σ' H' => m = xs.length - i ∧ i ≤ xs.length ∧ ∃ G2 S2, Stp B.G B.S B.H G2 S2 H' ∧ Same G G2 ∧ C G2 ∧ Inv (xs.drop i) σ' G2 S2, ⟨xs.length, rfl, Nat.zero_le _, G1, S1, s.trans s1, s1.gg, c1, by simpa using h0 G1 s1.gg⟩, ?_⟩
  rintro i m σ' H' ⟨rfl, hle, G2, S2, st, sg, c2, iv⟩
  by_cases hlt : i < xs.length
  · have hx : xs[i]? = some xs[i] := List.getElem?_eq_getElem hlt
    have hdr : xs.drop i = xs[i] :: xs.drop (i + 1) := List.drop_eq_getElem_cons hlt
    refine .inr ⟨rn.go i G2 H' hlt st.hold.ex c2, NX B G2 (Inv (xs.drop (i + 1))), fun σ3 H3 ⟨G3, S3, a, b, c⟩ => ⟨xs.length - (i + 1), by omega, rfl, hlt, G3, S3, a, sg.trans b, rn.mono _ _ b c2, c⟩, fun x H3 y => ?_⟩
    obtain ⟨G3, s3, r3⟩ := rn.yld i G2 S2 H' x H3 xs[i] st.hold c2 y hx
    refine ht xs[i] x σ' G3 H3 _ s3.hold.ex r3 fun vs fv => ?_
    rw [hdr] at iv
    exact hs xs[i] (xs.drop (i + 1)) vs σ' G2 G3 S2 sg s3.gg (by rw [← hdr]; exact List.drop_suffix i xs) iv fv H3 (st.trans s3)
  · have e : i = xs.length := by omega
    subst e
    refine .inl ⟨rn.stop G2 H' st.hold.ex c2, hd σ' G2 S2 sg ?_ H' st⟩
    simpa using iv)
theorem b_for {α : Type} [Rp α] {xs : List α} {tg iter : Expr} {body rest : List Stmt} {wi : TI} {g : TG} {F : α → List V → Hp → Prop} {U : List V → St → St} {pos : Pos} (Inv : List α → St → Hp → Sto → Prop) (hi : EvI X.K wi σ G S xs S1) (ht : Tg X.K g F U)
    (h0 : ∀ G1, Same G G1 → Inv xs σ G1 S1)
    (hs : ∀ x r vs σ' G2 G' S', Same G G2 → Same G2 G' → x :: r <:+ xs → Inv (x :: r) σ' G2 S' → F x vs G' → At B (cB X body { D with nx := NX B G2 (Inv r), ct := NX B G2 (Inv r), bk := cB X rest D }) (U vs σ') G' S')
    (hd : ∀ σ' G' S', Same G G' → Inv [] σ' G' S' → At B (cB X rest D) σ' G' S') (pi : PI X tg iter wi) (pg : PG X tg g) (hp : PassesOwn (model X.prog X.w) X.A X.env X.xe) (hc : X.calm = true := by rfl)
    (hfs : ∀ x, foldedSetIterable iter X.env x = pure x := by intro _; rfl) : At B (cB X (.For tg iter body [] pos :: rest) D) σ G S :=
  b_cons (s_for (D := { D with nx := cB X rest D }) Inv hi ht h0 hs hd hp hc pi pg hfs)
/-- while: an invariant and a measure of its own -/
theorem b_while {τ : Type} {c : Expr} {body rest : List Stmt} {pos : Pos} (Inv : τ → St → Hp → Sto → Prop) (μ : τ → Nat) (t0 : τ) (h0 : Inv t0 σ G S)
    (hs : ∀ t σ' G' S', Same G G' → Inv t σ' G' S' → ∃ b S2, ET X c σ' G' S' b S2 ∧ (b = true → At B (cB X body { D with nx := NX B G' (fun σ G S => ∃ t', μ t' < μ t ∧ Inv t' σ G S), ct := NX B G' (fun σ G S => ∃ t', μ t' < μ t ∧ Inv t' σ G S), bk := cB X rest D }) σ' G' S2) ∧
      (b = false → At B (cB X rest D) σ' G' S2)) (hp : PassesOwn (model X.prog X.w) X.A X.env X.xe) : At B (cB X (.While c body [] pos :: rest) D) σ G S :=
  b_cons fun H s => toS (ps_while hp (pT c) (pB body)) (by
    refine ⟨fun m σ' H' => ∃ t G2 S2, m = μ t ∧ Stp B.G B.S B.H G2 S2 H' ∧ Same G G2 ∧ Inv t σ' G2 S2, ⟨μ t0, t0, G, S, rfl, s, Same.refl G, h0⟩, ?_⟩
    rintro m σ' H' ⟨t, G2, S2, rfl, st, sg, iv⟩
    obtain ⟨b, S3, ht, h1, h2⟩ := hs t σ' G2 S2 sg iv
    refine ht G2 H' (Same.refl G2) st.hold _ fun G3 H3 s3 => ?_
    have sx := st.trans (s3.forget (Same.refl G2))
    cases b with
    | true =>
      refine ⟨NX B G2 (fun σ G S => ∃ t', μ t' < μ t ∧ Inv t' σ G S), fun σ4 H4 ⟨G4, S4, a, b, t', hl, c⟩ => ⟨μ t', hl, t', G4, S4, rfl, a, sg.trans b, c⟩, ?_⟩
      exact h1 rfl H3 sx
    | false => exact h2 rfl H3 sx)
end
end Gx

-- part GComp
set_option Elab.async false
set_option linter.all false
set_option maxRecDepth 100000
set_option maxHeartbeats 1000000
namespace Gx
open PySem PySem.Spec PyProof.Rows L2
open Rp (rp)
open Sc (toV)
def cEB (X : Cx) (scope : Scope) (e : Expr) : TE := fun σ H Q => ∀ (s : Shared) (H0 : Hp) (C : Addr) (cl : List (Str × Addr)) (fp : List Addr), cE (X.blk s H0 scope (compEnvC scope cl C X.env) fp) e σ H Q
def cTB (X : Cx) (scope : Scope) (e : Expr) : TT := fun σ H Q => ∀ (s : Shared) (H0 : Hp) (C : Addr) (cl : List (Str × Addr)) (fp : List Addr), cT (X.blk s H0 scope (compEnvC scope cl C X.env) fp) e σ H Q
section
variable {X : Cx} {K : PySem.W.Frag} {σ : St} {G : Hp} {S S1 Se : Sto} {scope : Scope} {e : Expr}
theorem pEB (s : Shared) (H0 : Hp) (C : Addr) (cl : List (Str × Addr)) (fp : List Addr) : PE (X.blk s H0 scope (compEnvC scope cl C X.env) fp) e (cEB X scope e) := ⟨fun pins s' σ H Q I h => h s H0 C cl fp pins s' I⟩
theorem pTB (s : Shared) (H0 : Hp) (C : Addr) (cl : List (Str × Addr)) (fp : List Addr) : PT (X.blk s H0 scope (compEnvC scope cl C X.env) fp) e (cTB X scope e) := ⟨fun pins s' σ H Q I h => h s H0 C cl fp pins s' I⟩
theorem evB {α : Type} [Rp α] {x : α} (h : ∀ (s : Shared) (H0 : Hp) (C : Addr) (cl : List (Str × Addr)) (fp : List Addr), EX (X.blk s H0 scope (compEnvC scope cl C X.env) fp) e σ G S x S1) : Ev X.K (cEB X scope e) σ G S x S1 :=
  fun G1 H e hd Q k s H0 C cl fp => h s H0 C cl fp G1 H e hd Q k
theorem etB {b : Bool} (h : ∀ (s : Shared) (H0 : Hp) (C : Addr) (cl : List (Str × Addr)) (fp : List Addr), ET (X.blk s H0 scope (compEnvC scope cl C X.env) fp) e σ G S b S1) : EvT (cTB X scope e) σ G S b S1 :=
  fun G1 H e hd Q k s H0 C cl fp => h s H0 C cl fp G1 H e hd Q k
theorem et_yes : EvT tYes σ G S true S := fun G1 H e hd Q k => k G1 H (.refl hd)

theorem evn_lc {α β : Type} [Rp α] [Rp β] {xs : List α} {ys : List β} {wi : TI} {g : TG} {tt : TT} {te : TE} {vs : List Nat} {F : α → List V → Hp → Prop} {U : List V → St → St} (Inv : List α → List β → Hp → Sto → Prop) (hi : EvI K wi σ G S xs S1) (ht : Tg K g F U) (hl : xs.length ≤ 100000)
    (hw : ∀ x vs' G, F x vs' G → wipe (U vs' (wipe σ vs)) vs = wipe σ vs) (h0 : ∀ G1, Same G G1 → Inv xs [] G1 S1)
    (hs : ∀ x r acc vs' G2 G' S', Same G G2 → Same G2 G' → x :: r <:+ xs → Inv (x :: r) acc G2 S' → F x vs' G' →
      ∃ b S2, EvT tt (U vs' (wipe σ vs)) G' S' b S2 ∧ (b = true → ∃ y S3, Ev K te (U vs' (wipe σ vs)) G' S2 y S3 ∧ ∀ G3, Same G' G3 → Inv r (acc ++ [y]) G3 S3) ∧ (b = false → ∀ G3, Same G' G3 → Inv r acc G3 S2))
    (hd : ∀ acc G' S', Same G G' → Inv [] acc G' S' → acc = ys ∧ S' = Se) : EvN K (tLc wi g tt te vs) σ G S ys Se := by
  intro G0 H eg hd0 Q k
  refine hi G0 H eg hd0 _ fun J C G1 H1 s1 rn c1 Dl hDl => ?_
  have hHD : H Dl = none := by
    cases q : H Dl with
    | none => rfl
    | some o =>
      obtain ⟨o', e'⟩ := s1.th Dl o q
      rw [hDl] at e'; cases e'
  refine ⟨fun i m H' => m = xs.length - i ∧ i ≤ xs.length ∧ ∃ G2 S2 acc vacc, Stp G0 S H G2 ((Dl, .lst vacc) :: S2) H' ∧ Same G1 G2 ∧ C G2 ∧ acc.length ≤ i ∧ Its K acc vacc G2 ∧ Inv (xs.drop i) acc G2 S2,
    ⟨xs.length, rfl, Nat.zero_le _, G1, S1, [], [], s1.trans (Stp.own s1.hold hDl (.lst [])), Same.refl G1, c1, Nat.le_refl _, .nil, by simpa using h0 G1 (eg.trans s1.gg)⟩, ?_⟩
  rintro i m H' ⟨rfl, hle, G2, S2, acc, vacc, st, sg, c2, al, hi2, iv⟩
  have sgG : Same G G2 := (eg.trans s1.gg).trans sg
  by_cases hlt : i < xs.length
  · have hx : xs[i]? = some xs[i] := List.getElem?_eq_getElem hlt
    have hdr : xs.drop i = xs[i] :: xs.drop (i + 1) := List.drop_eq_getElem_cons hlt
    rw [hdr] at iv
    refine .inr ⟨rn.go i G2 H' hlt st.hold.ex c2, fun H3 => ∃ G3 S3 acc' vacc', Stp G0 S H G3 ((Dl, .lst vacc') :: S3) H3 ∧ Same G2 G3 ∧ acc'.length ≤ i + 1 ∧ Its K acc' vacc' G3 ∧ Inv (xs.drop (i + 1)) acc' G3 S3, fun H3 ⟨G3, S3, acc', vacc', a, b, c, d, e⟩ => ⟨xs.length - (i + 1), by omega, rfl, hlt, G3, S3, acc', vacc', a, sg.trans b, rn.mono _ _ b c2, c, d, e⟩, fun x H3 y => ?_⟩
    obtain ⟨G3, s3, r3⟩ := rn.yld i G2 _ H' x H3 xs[i] st.hold c2 y hx
    refine ht xs[i] x (wipe σ vs) G3 H3 _ s3.hold.ex r3 fun vs' fv => ⟨hw _ _ _ fv, ?_⟩
    obtain ⟨b, S4, tb, h1, h2⟩ := hs xs[i] (xs.drop (i + 1)) acc vs' G2 G3 S2 sgG s3.gg (by rw [← hdr]; exact List.drop_suffix i xs) iv fv
    have st3 := st.trans s3
    refine tb.frame [(Dl, .lst vacc)] G3 H3 (Same.refl G3) s3.hold _ fun G4 H4 s4 => ?_
    cases b with
    | true =>
      rw [if_pos rfl]
      obtain ⟨y, S5, te5, iv5⟩ := h1 rfl
      refine te5.frame [(Dl, .lst vacc)] G4 H4 s4.gg s4.hold _ fun v G5 H5 s5 r5 => ?_
      have sx := (st3.trans s4).trans s5
      have hD5 : H5 Dl = some (.lst vacc) := s5.hold.own (Dl, .lst vacc) (List.mem_cons_self)
      have g25 : Same G2 G5 := s3.gg.trans (s4.gg.trans s5.gg)
      have hlen : vacc.length = acc.length := (Pd.len hi2).symm
      refine ⟨vacc, hD5, by rw [hlen]; exact Nat.lt_of_le_of_lt (Nat.le_trans al (Nat.le_trans hle hl)) (by decide), G5, S5, acc ++ [y], vacc ++ [v], ?_, g25, ?_, ?_, iv5 G5 (s4.gg.trans s5.gg)⟩
      · exact sx.trans (Stp.write (i := 0) s5.hold rfl)
      · rw [List.length_append]; simp; omega
      · exact Pd.app (hi2.mono g25) (.cons r5 .nil)
    | false =>
      rw [if_neg Bool.false_ne_true]
      have g24 : Same G2 G4 := s3.gg.trans s4.gg
      exact ⟨G4, S4, acc, vacc, st3.trans s4, g24, by omega, hi2.mono g24, h2 rfl G4 s4.gg⟩
  · have e : i = xs.length := by omega
    subst e
    refine .inl ⟨rn.stop G2 H' st.hold.ex c2, ?_⟩
    obtain ⟨rfl, rfl⟩ := hd acc G2 S2 sgG (by simpa using iv)
    exact k Dl vacc G2 H' hHD st hi2
/-- [f x for x in xs], nothing owned changes -/
theorem evn_map {α β : Type} [Rp α] [Rp β] {xs : List α} {wi : TI} {g : TG} {te : TE} {vs : List Nat} {F : α → List V → Hp → Prop} {U : List V → St → St} (f : α → β) (hi : EvI K wi σ G S xs S1) (ht : Tg K g F U) (hl : xs.length ≤ 100000)
    (he : ∀ x vs' G2, x ∈ xs → Same G G2 → F x vs' G2 → Ev K te (U vs' (wipe σ vs)) G2 S1 (f x) S1) (hw : ∀ x vs' G, F x vs' G → wipe (U vs' (wipe σ vs)) vs = wipe σ vs) : EvN K (tLc wi g tYes te vs) σ G S (xs.map f) S1 :=
  evn_lc (fun r acc _ S' => acc ++ r.map f = xs.map f ∧ S' = S1) hi ht hl hw (fun _ _ => ⟨rfl, rfl⟩) (fun x r acc vs' G2 G' S' e1 e2 hm ⟨h1, h2⟩ fv => by
    subst h2
    refine ⟨true, _, et_yes, fun _ => ⟨f x, _, he x vs' G' (hm.subset (List.mem_cons_self)) (e1.trans e2) fv, fun _ _ => ⟨?_, rfl⟩⟩, fun z => by cases z⟩
    rw [← h1]; simp) (fun acc G' S' _ ⟨h1, h2⟩ => ⟨by simpa using h1, h2⟩)
/-- [f x for x in xs if p x] -/
theorem evn_filter {α β : Type} [Rp α] [Rp β] {xs : List α} {wi : TI} {g : TG} {tt : TT} {te : TE} {vs : List Nat} {F : α → List V → Hp → Prop} {U : List V → St → St} (p : α → Bool) (f : α → β) (hi : EvI K wi σ G S xs S1) (ht : Tg K g F U) (hl : xs.length ≤ 100000)
    (hp : ∀ x vs' G2, x ∈ xs → Same G G2 → F x vs' G2 → EvT tt (U vs' (wipe σ vs)) G2 S1 (p x) S1)
    (he : ∀ x vs' G2, x ∈ xs → p x = true → Same G G2 → F x vs' G2 → Ev K te (U vs' (wipe σ vs)) G2 S1 (f x) S1) (hw : ∀ x vs' G, F x vs' G → wipe (U vs' (wipe σ vs)) vs = wipe σ vs) : EvN K (tLc wi g tt te vs) σ G S ((xs.filter p).map f) S1 :=
  evn_lc (fun r acc _ S' => acc ++ (r.filter p).map f = (xs.filter p).map f ∧ S' = S1) hi ht hl hw (fun _ _ => ⟨rfl, rfl⟩) (fun x r acc vs' G2 G' S' e1 e2 hm ⟨h1, h2⟩ fv => by
    subst h2
    have hx : x ∈ xs := hm.subset (List.mem_cons_self)
    refine ⟨p x, _, hp x vs' G' hx (e1.trans e2) fv, fun q => ⟨f x, _, he x vs' G' hx q (e1.trans e2) fv, fun _ _ => ⟨?_, rfl⟩⟩, fun q _ _ => ⟨?_, rfl⟩⟩
    · rw [← h1, List.filter_cons, if_pos q]; simp
    · rw [← h1, List.filter_cons, if_neg (by rw [q]; decide)]) (fun acc G' S' _ ⟨h1, h2⟩ => ⟨by simpa using h1, h2⟩)
/-- what a list of draws makes, the state handed on -/
def mapS {τ α β : Type} (f : τ → α → β) (n : τ → α → τ) : τ → List α → List β × τ
  | t, [] => ([], t)
  | t, x :: r => let q := mapS f n (n t x) r; (f t x :: q.1, q.2)
/-- [f x for x in xs], each turn changes the owned cells from those of a state to those of the next -/
theorem evn_mapS {τ α β : Type} [Rp α] [Rp β] {xs : List α} {wi : TI} {g : TG} {te : TE} {vs : List Nat} {F : α → List V → Hp → Prop} {U : List V → St → St} (P : τ → Prop) (f : τ → α → β) (n : τ → α → τ) (Sf : τ → Sto) (t0 : τ) (p0 : P t0) (hi : EvI K wi σ G S xs (Sf t0)) (ht : Tg K g F U) (hl : xs.length ≤ 100000)
    (he : ∀ t x vs' G2, P t → x ∈ xs → Same G G2 → F x vs' G2 → P (n t x) ∧ Ev K te (U vs' (wipe σ vs)) G2 (Sf t) (f t x) (Sf (n t x))) (hw : ∀ x vs' G, F x vs' G → wipe (U vs' (wipe σ vs)) vs = wipe σ vs) :
    EvN K (tLc wi g tYes te vs) σ G S (mapS f n t0 xs).1 (Sf (mapS f n t0 xs).2) :=
  evn_lc (fun r acc _ S' => ∃ t, P t ∧ S' = Sf t ∧ acc ++ (mapS f n t r).1 = (mapS f n t0 xs).1 ∧ (mapS f n t r).2 = (mapS f n t0 xs).2) hi ht hl hw (fun _ _ => ⟨t0, p0, rfl, rfl, rfl⟩) (fun x r acc vs' G2 G' S' e1 e2 hm ⟨t, pt, hS, h1, h2⟩ fv => by
    subst hS
    obtain ⟨pn, ev⟩ := he t x vs' G' pt (hm.subset (List.mem_cons_self)) (e1.trans e2) fv
    refine ⟨true, _, et_yes, fun _ => ⟨f t x, _, ev, fun _ _ => ⟨n t x, pn, rfl, ?_, h2⟩⟩, fun z => by cases z⟩
    rw [← h1]
    show acc ++ [f t x] ++ (mapS f n (n t x) r).1 = acc ++ (f t x :: (mapS f n (n t x) r).1)
    simp) (fun acc G' S' _ ⟨t, _, hS, h1, h2⟩ => ⟨by simpa [mapS] using h1, by rw [hS, ← h2]; rfl⟩)
theorem mapS_all {τ α β : Type} {f : τ → α → β} {n : τ → α → τ} {P : τ → Prop} {R : β → Prop} : ∀ (xs : List α) (t : τ), P t → (∀ t x, x ∈ xs → P t → R (f t x) ∧ P (n t x)) → (∀ y ∈ (mapS f n t xs).1, R y) ∧ P (mapS f n t xs).2 ∧ (mapS f n t xs).1.length = xs.length
  | [], t, pt, _ => ⟨fun _ h => (nomatch h), pt, rfl⟩
  | x :: r, t, pt, h => by
    obtain ⟨h1, h2⟩ := h t x (List.mem_cons_self) pt
    obtain ⟨i1, i2, i3⟩ := mapS_all (f := f) (n := n) (P := P) (R := R) r (n t x) h2 fun t x m p => h t x (List.mem_cons_of_mem _ m) p
    refine ⟨fun y m => ?_, i2, by show (f t x :: (mapS f n (n t x) r).1).length = _; simp [i3]⟩
    have m : y ∈ f t x :: (mapS f n (n t x) r).1 := m
    rcases List.mem_cons.mp m with rfl | m
    · exact h1
    · exact i1 y m
end
end Gx

-- part GFmt
set_option Elab.async false
set_option linter.all false
set_option maxRecDepth 100000
set_option maxHeartbeats 1000000
namespace Gx
open PySem PySem.Spec PyProof.Rows L2 Builtin Builtin.Str Builtin.Int Builtin.Float PySem.W
/-- n blanks ahead of x; behind it -/
def blanks (n : Int) : Str := ⟨(List.replicate n.toNat 32).toArray⟩
def padL (n : Nat) (x : Str) : Str := blanks ((n : Int) - (x.length : Int)) ++ x
def padR (n : Nat) (x : Str) : Str := x ++ blanks ((n : Int) - (x.length : Int))
theorem app_nil (x : Str) : x ++ (⟨#[]⟩ : Str) = x := by
  show (⟨x.cps ++ #[]⟩ : Str) = x
  rw [Array.append_empty]
theorem nil_app (x : Str) : (⟨#[]⟩ : Str) ++ x = x := by
  show (⟨#[] ++ x.cps⟩ : Str) = x
  rw [Array.empty_append]
theorem padL_long {n : Nat} {x : Str} (h : n ≤ x.length) : padL n x = x := by
  have e : ((n : Int) - (x.length : Int)).toNat = 0 := by omega
  unfold padL blanks
  rw [e]
  exact nil_app x
theorem padR_long {n : Nat} {x : Str} (h : n ≤ x.length) : padR n x = x := by
  have e : ((n : Int) - (x.length : Int)).toNat = 0 := by omega
  unfold padR blanks
  rw [e]
  exact app_nil x
def specL (n : Nat) : FormatSpec := { fill := 32, align := 62, width := some n }
def specR (n : Nat) : FormatSpec := { fill := 32, align := 60, width := some n }
theorem strSub_all (x : Str) : strSub x 0 x.length = x := by
  unfold strSub
  first
    | (simp [Str.length]; done)
    | (cases x; simp [Str.length])
theorem field_long {x : Str} {n : Nat} {f : FormatSpec} {name : String} (hf : f = specL n ∨ f = specR n) (h : n ≤ x.length) : strField x f name = .ok none := by
  rcases hf with rfl | rfl
  · unfold strField specL; simp [h, pure, Except.pure, bind, Except.bind]
  · unfold strField specR; simp [h, pure, Except.pure, bind, Except.bind]
theorem field_L {x : Str} {n : Nat} {name : String} (h : ¬ n ≤ x.length) : strField x (specL n) name = .ok (some (padL n x)) := by
  have e : strField x (specL n) name = .ok (some (padded (strSub x 0 x.length) (n - (strSub x 0 x.length).length) (n - (strSub x 0 x.length).length - (n - (strSub x 0 x.length).length)) 32)) := by
    unfold strField specL
    simp [h, pure, Except.pure, bind, Except.bind]
  rw [e, strSub_all, Nat.sub_self]
  have e2 : ((n : Int) - (x.length : Int)).toNat = n - x.length := by omega
  unfold padded padL blanks
  rw [e2]
  congr 2
theorem field_R {x : Str} {n : Nat} {name : String} (h : ¬ n ≤ x.length) : strField x (specR n) name = .ok (some (padR n x)) := by
  have e : strField x (specR n) name = .ok (some (padded (strSub x 0 x.length) 0 (n - (strSub x 0 x.length).length - 0) 32)) := by
    unfold strField specR
    simp [h, pure, Except.pure, bind, Except.bind]
  rw [e, strSub_all, Nat.sub_zero]
  have e2 : ((n : Int) - (x.length : Int)).toNat = n - x.length := by omega
  unfold padded padR blanks
  rw [e2]
  congr 2
  show (⟨_⟩ : Str) = ⟨_⟩
  congr 1
  try simp
section
variable {prog : Program} {w : World} {A : Around} {E : Value → Shared → Prop} {s : Shared} {t : Tok} {x y spec : Str}
/-- a text by a width alone -/
theorem fmt_str {n : Nat} {f : FormatSpec} {Q : Value → Shared → Prop} (hp : ∀ name, parseFormatSpec spec.cps.toList name 60 = .ok f) (hf : (f = specL n ∧ y = padL n x) ∨ (f = specR n ∧ y = padR n x)) (hne : (spec.length == 0) = false)
    (hasc : ((spec.cps.toList.drop 1).any (· ≥ 128) || (spec.cps.getD 0 0 ≥ 128 && !([60, 62, 61, 94] : List Nat).contains (spec.cps.getD 1 0))) = false) (hb : (f.type.isNone && spec.cps.back? == some 0) = false)
    (hsz : spec.length ≤ sizeLine) (hn : n ≤ 1000) (hL : y.length ≤ sizeLine) (h : ∀ t' k, Q (.str y t') { s with toks := k }) : wpAny (model prog w) A (formatField (.str x t) spec) Q E s := by
  refine KXf.field_meets hne (fun s' => typeIs_str s' x t) F.slot_str_format F.entry_str_format F.args_str_format_2 hsz (fun u => ?_) h
  apply KPc.meets_of
  intro prog w A s R E hR
  unfold Builtin.«str.__format__»
  refine wpAny_bind (wpAny_of_eq (a := (_, _, _)) rfl ?_)
  refine wpAny_bind (wpAny_of_eq (a := some spec) rfl ?_)
  dsimp only
  rw [if_neg (by rw [hne]; decide), if_neg (by rw [hasc]; decide)]
  refine wpAny_bind (KXf.cut_str ?_)
  have htl : tooLong (f.width.getD 0) = false := by
    have : f.width.getD 0 = n := by rcases hf with ⟨rfl, _⟩ | ⟨rfl, _⟩ <;> rfl
    rw [this]
    unfold tooLong
    first
      | (simp [sizeLine_eq]; omega)
      | (simp; omega)
  simp only [hp, pure_bind, hb, Bool.false_eq_true, if_false, bind, Except.bind, htl]
  by_cases hle : n ≤ x.length
  · have e : strField x f "str" = .ok none := field_long (n := n) (by rcases hf with ⟨h, _⟩ | ⟨h, _⟩ <;> simp [h]) hle
    rw [e]
    have ey : x = y := by
      rcases hf with ⟨_, h⟩ | ⟨_, h⟩
      · rw [h, padL_long hle]
      · rw [h, padR_long hle]
    exact wpAny_bind (wpAny_rule (KXf.ret_same ey hR))
  · have e : strField x f "str" = .ok (some y) := by
      rcases hf with ⟨h1, h2⟩ | ⟨h1, h2⟩
      · rw [h1, h2]; exact field_L hle
      · rw [h1, h2]; exact field_R hle
    rw [e]
    exact KXf.ret_text rfl hL hR
theorem toDigits_str {a : Int} (h : 0 ≤ a) : Str.ofString (toString a) = ⟨((Nat.toDigits 10 a.natAbs).map Char.toNat).toArray⟩ := by
  obtain ⟨n, rfl⟩ := Int.eq_ofNat_of_zero_le h
  exact text_ofNat n
theorem intText_L {a : Int} {n : Nat} (h : 0 ≤ a) : intSpecText (specL n) a = padL n (Str.ofString (toString a)) := by
  rw [toDigits_str h]
  have hneg : decide (a < 0) = false := decide_eq_false (by omega)
  have hne : ((Nat.toDigits 10 a.natAbs).map fun c => (if ((100 : Nat) == 88) = true then c.toUpper else c).toNat) = (Nat.toDigits 10 a.natAbs).map Char.toNat := by
    congr 1
  have h0 : ((Nat.toDigits 10 a.natAbs).map Char.toNat).isEmpty = false := by
    have : 0 < (Nat.toDigits 10 a.natAbs).length := Nat.length_toDigits_pos
    cases e : Nat.toDigits 10 a.natAbs with
    | nil => rw [e] at this; cases this
    | cons c r => rfl
  unfold intSpecText intField' specL
  rw [hneg, hne]
  simp only [h0, Bool.false_eq_true, if_false, show ((62 : Nat) == 60) = false by decide, show ((62 : Nat) == 94) = false by decide, show ((62 : Nat) == 61) = false by decide, show ((32 : Nat) == 48) = false by decide, Bool.false_and, List.length_nil, List.replicate_zero, List.nil_append, List.append_nil]
  unfold padL blanks
  show (⟨_⟩ : Str) = ⟨_ ++ _⟩
  congr 1
  simp [Str.length]
theorem len_toDigits {a : Int} (h : a.natAbs < 10 ^ 100) : (Nat.toDigits 10 a.natAbs).length ≤ 100 := by
  have e := (Nat.length_repr_le_iff (n := a.natAbs) (by decide : 0 < 100)).mpr h
  rwa [← String.length_toList, Nat.toList_repr] at e
/-- a whole number by a width alone, to the right -/
theorem fmt_int {a : Int} {n : Nat} {Q : Value → Shared → Prop} (h0 : 0 ≤ a) (hlt : a.natAbs < 10 ^ 100) (hp : parseFormatSpec spec.cps.toList "int" 62 = .ok (specL n)) (hne : (spec.length == 0) = false)
    (hasc : ((spec.cps.toList.drop 1).any (· ≥ 128) || (spec.cps.getD 0 0 ≥ 128 && !([60, 62, 61, 94] : List Nat).contains (spec.cps.getD 1 0))) = false) (hb : (spec.cps.back? == some 0) = false)
    (hsz : spec.length ≤ sizeLine) (hn : n ≤ 1000) (h : ∀ t' k, Q (.str (padL n (Str.ofString (toString a))) t') { s with toks := k }) : wpAny (model prog w) A (formatField (.int a t) spec) Q E s := by
  have hlog : a.natAbs.log2 < 1920 := by
    by_cases z : a.natAbs = 0
    · rw [z]; decide
    · exact (Nat.log2_lt z).mpr (Nat.lt_trans hlt (by decide))
  have hL : (padL n (Str.ofString (toString a))).length ≤ sizeLine := by
    have e := len_toDigits hlt
    rw [toDigits_str h0]
    show (Array.size _) ≤ _
    unfold padL blanks
    show (_ ++ _ : Array Nat).size ≤ sizeLine
    rw [Array.size_append]
    simp only [List.size_toArray, List.length_replicate, List.length_map]
    have : (sizeLine : Nat) = 16777216 := sizeLine_eq
    omega
  refine KXf.field_meets hne (fun s' => typeIs_int s' a t) F.slot_int_format F.entry_int_format F.args_int_format_2 hsz (fun u => ?_) h
  apply KPc.meets_of
  intro prog w A s R E hR
  unfold Builtin.«int.__format__»
  refine wpAny_bind (wpAny_of_eq (a := (_, _)) rfl ?_)
  refine wpAny_bind (wpAny_of_eq (a := _) rfl ?_)
  dsimp only
  rw [if_neg (by simp)]
  refine wpAny_bind (wpAny_typeNameOf (T := "str") (typeIs_str _ _ _) (by decide) fun _ => ?_)
  refine wpAny_bind (wpAny_of_eq (a := some _) rfl ?_)
  dsimp only
  rw [if_neg (by rw [hne]; decide), if_neg (by rw [hasc]; decide)]
  refine wpAny_bind (wpAny_typeNameOfCut_int ?_)
  simp only [hp]
  have ht : (specL n).type.getD (if (spec.cps.back? == some 0) = true then 0 else 100) = 100 := by rw [hb]; rfl
  rw [ht]
  rw [if_pos (by decide)]
  show wpAny _ _ (do let r ← Builtin.overDigitLimit? a; _) _ _ _
  refine wpAny_bind (wpAny_of_eq (PySem.overDigitLimit_small hlog) ?_)
  show wpAny _ _ (if (specL n).width.getD 0 > 100000 then _ else _) _ _ _
  rw [if_neg (by show ¬ n > 100000; omega)]
  have key : ∀ X : Str, X = intSpecText (specL n) a → X = padL n (Str.ofString (toString a)) ∧ X.length ≤ sizeLine := fun X e => by
    rw [e, intText_L h0]
    exact ⟨rfl, hL⟩
  refine (fun z => KXf.ret_text (key _ z).1 (key _ z).2 hR) ?_
  rw [intText_L h0, toDigits_str h0]
  conv => lhs; whnf
  have hna : ¬ a < 0 := by omega
  simp [specL, hna]
  unfold padL blanks
  show (⟨_⟩ : Str) = ⟨_ ++ _⟩
  congr 1
  simp [Str.length]
end
/-! ### rules -/
section
variable {X : Cx} {e : Expr} {te : TE} {pos p1 p2 : Pos} {sp : Str} {j : Nat}
/-- {x:>n}, x a whole number from 0 on -/
def tFmtI (n : Nat) (te : TE) : TE := fun σ H Q => te σ H fun x H1 => ∃ i : Int, x = .int i ∧ 0 ≤ i ∧ i.natAbs < 10 ^ 100 ∧ Q (.str (padL n (Str.ofString (toString i)))) H1
theorem pe_fmtI (n : Nat) (he : PE X e te) (hp : parseFormatSpec sp.cps.toList "int" 62 = .ok (specL n)) (hne : (sp.length == 0) = false)
    (hasc : ((sp.cps.toList.drop 1).any (· ≥ 128) || (sp.cps.getD 0 0 ≥ 128 && !([60, 62, 61, 94] : List Nat).contains (sp.cps.getD 1 0))) = false) (hb : (sp.cps.back? == some 0) = false)
    (hsz : sp.length ≤ sizeLine) (hn : n ≤ 1000) : PE X (.FormattedValue e (-1) (some (.JoinedStr [.Constant (.str sp) j p1] p2)) pos) (tFmtI n te) := by
  refine ⟨fun pins s σ H Q I h => ?_⟩
  refine wpAny_FormattedValue_spec (thn (he.run pins s σ H _ I h) fun v s1 hv => ?_)
  obtain ⟨x, H1, I1, r1, i, rfl, h0, hl, q⟩ := hv
  obtain ⟨t, rfl⟩ := r1
  refine wpAny_JoinedStr_one (Calls.Constant_str ⟨sp, _, rfl, ?_⟩)
  exact fmt_int h0 hl hp hne hasc hb hsz hn fun t' k => ⟨.str (padL n (Str.ofString (toString i))), H1, I1.tok _, ⟨_, rfl⟩, q⟩
/-- {x:<n}, {x:>n}, x a text -/
def tFmtS (y : Str → Str) (te : TE) : TE := fun σ H Q => te σ H fun x H1 => ∃ z : Str, x = .str z ∧ (y z).length ≤ sizeLine ∧ Q (.str (y z)) H1
theorem pe_fmtS (n : Nat) (y : Str → Str) {f : FormatSpec} (he : PE X e te) (hp : ∀ name, parseFormatSpec sp.cps.toList name 60 = .ok f) (hf : (f = specL n ∧ y = padL n) ∨ (f = specR n ∧ y = padR n)) (hne : (sp.length == 0) = false)
    (hasc : ((sp.cps.toList.drop 1).any (· ≥ 128) || (sp.cps.getD 0 0 ≥ 128 && !([60, 62, 61, 94] : List Nat).contains (sp.cps.getD 1 0))) = false) (hb : (sp.cps.back? == some 0) = false)
    (hsz : sp.length ≤ sizeLine) (hn : n ≤ 1000) : PE X (.FormattedValue e (-1) (some (.JoinedStr [.Constant (.str sp) j p1] p2)) pos) (tFmtS y te) := by
  refine ⟨fun pins s σ H Q I h => ?_⟩
  refine wpAny_FormattedValue_spec (thn (he.run pins s σ H _ I h) fun v s1 hv => ?_)
  obtain ⟨x, H1, I1, r1, z, rfl, hl, q⟩ := hv
  obtain ⟨t, rfl⟩ := r1
  refine wpAny_JoinedStr_one (Calls.Constant_str ⟨sp, _, rfl, ?_⟩)
  exact fmt_str (f := f) hp (by rcases hf with ⟨h1, h2⟩ | ⟨h1, h2⟩ <;> simp [h1, h2]) hne hasc (by rw [hb, Bool.and_false]) hsz hn hl fun t' k => ⟨.str (y z), H1, I1.tok _, ⟨_, rfl⟩, q⟩
end
end Gx

-- part GStr
set_option Elab.async false
set_option linter.all false
set_option maxRecDepth 100000
set_option maxHeartbeats 1000000
namespace Gx
open PySem PySem.Spec PyProof.Rows L2
open Rp (rp)
open Sc (toV)
/-! ### a value as it is; one of two kinds -/
instance : Sc V where
  rp := fun _ x v _ => v = x
  mono := fun _ h => h
  toV := id
  rp_iff := Iff.rfl
instance {α β : Type} [Sc α] [Sc β] : Sc (Sum α β) where
  rp := fun _ x v _ => v = match x with | .inl a => toV a | .inr b => toV b
  mono := fun _ h => h
  toV := fun x => match x with | .inl a => toV a | .inr b => toV b
  rp_iff := Iff.rfl
/-- every sign is a code point -/
def cpOk (x : Str) : Prop := PySem.PyData.strOk x = true
section
variable {X : Cx} {K : PySem.W.Frag} {σ : St} {G : Hp} {S S1 S2 : Sto} {e a b c : Expr} {pos : Pos} {te : TE}
theorem Ev.cv {α β : Type} [Rp α] [Rp β] {x : α} {y : β} (h : Ev K te σ G S x S1) (c : ∀ v G', Same G G' → rp K x v G' → rp K y v G') : Ev K te σ G S y S1 := fun G1 H e hd Q k => h G1 H e hd Q fun v G' H' s r => k v G' H' s (c v G' (e.trans s.gg) r)
/-! ### texts -/
def repS (x : Str) (n : Int) : Str := ⟨((List.replicate n.toNat x.cps.toList).flatten).toArray⟩
theorem foldl_app (x : Array Nat) : ∀ (n : Nat) (acc : Array Nat), (List.replicate n x).foldl (· ++ ·) acc = acc ++ ((List.replicate n x.toList).flatten).toArray
  | 0, acc => by simp
  | n + 1, acc => by
    rw [List.replicate_succ, List.foldl_cons, foldl_app x n, List.replicate_succ, List.flatten_cons, ← List.append_toArray, Array.append_assoc]
theorem repS_one (x : Str) : repS x 1 = x := by
  show (⟨((List.replicate 1 x.cps.toList).flatten).toArray⟩ : Str) = x
  simp
theorem repS_empty {x : Str} (h : x.length = 0) (n : Int) : repS x n = x := by
  have e : x.cps = #[] := Array.size_eq_zero_iff.mp h
  unfold repS
  cases x with
  | mk cps =>
    simp only at e
    subst e
    simp
theorem repS_length (x : Str) (n : Int) : (repS x n).length = n.toNat * x.length := by
  unfold repS
  show Array.size _ = _
  simp [Str.length]
theorem op_mulS {X : Cx} : OpR X (binaryOp .Mult) (fun x y H Q => ∃ (z : Str) (n : Int), x = .str z ∧ y = .int n ∧ -100000 ≤ n ∧ n ≤ 100000 ∧ z.length ≤ 100 ∧ Q (.str (repS z n)) H) := by
  intro pins s σ H x y v u Q I rx ry h
  obtain ⟨z, n, rfl, rfl, h0, h1, hz, q⟩ := h
  obtain ⟨t, rfl⟩ := rx
  obtain ⟨t', rfl⟩ := ry
  have hs : sizeLine = 16777216 := sizeLine_eq
  have bnd : n.toNat * z.length ≤ 100000 * 100 := Nat.mul_le_mul (by omega) hz
  refine PySem.P.mul_str (by rw [decide_eq_false (by omega), decide_eq_false (by omega)]; rfl) (fun hn _ => ?_) (fun hn _ => ?_) ?_
  · have hn' : 1 ≤ n := by omega
    have : (92233720368547 : Int) ≤ (2 ^ 63 - 1) / n := by
      refine Int.le_ediv_of_mul_le (by omega) ?_
      have : n * 92233720368547 ≤ 100000 * 92233720368547 := Int.mul_le_mul_of_nonneg_right h1 (by decide)
      omega
    omega
  · unfold Builtin.Str.tooLong
    rw [Nat.mul_comm]
    exact decide_eq_false (by omega)
  · by_cases hn : n < 1
    · rw [if_pos hn]
      have e : repS z n = Str.empty := by
        have : n.toNat = 0 := by omega
        unfold repS
        rw [this]
        rfl
      refine ⟨by decide, .str (repS z n), H, I.tok _, ⟨_, by rw [e]⟩, q⟩
    · rw [if_neg hn]
      by_cases h2 : (n == 1 || z.length == 0) = true
      · rw [if_pos h2]
        have e : repS z n = z := by
          rcases Bool.or_eq_true_iff.mp h2 with h | h
          · rw [beq_iff_eq.mp h]; exact repS_one z
          · exact repS_empty (beq_iff_eq.mp h) n
        exact ⟨.str (repS z n), H, I, ⟨_, by rw [e]⟩, q⟩
      · rw [if_neg h2]
        have e : (⟨(List.replicate n.toNat z.cps).foldl (· ++ ·) #[]⟩ : Str) = repS z n := by
          unfold repS
          rw [foldl_app]
          simp
        refine ⟨?_, .str (repS z n), H, I.tok _, ⟨_, by rw [e]⟩, q⟩
        rw [e, repS_length]
        omega
theorem ex_addS {x y : Str} (ha : EX X a σ G S x S1) (hb : EX X b σ G S1 y S2) (hl : x.length + y.length ≤ 1000000) : EX X (.BinOp a .Add b pos) σ G S (x ++ y) S2 :=
  Ev.to (pe_op op_add_str (pE a) (pE b)) (ev_opS ha hb fun H Q q => ⟨x, y, rfl, rfl, Nat.le_trans hl (by decide), q⟩)
theorem ex_mulS' {x : Str} {n : Int} (ha : EX X a σ G S x S1) (hb : EX X b σ G S1 n S2) (h : -100000 ≤ n ∧ n ≤ 100000) (hz : x.length ≤ 100) : EX X (.BinOp a .Mult b pos) σ G S (repS x n) S2 :=
  Ev.to (pe_op op_mulS (pE a) (pE b)) (ev_opS ha hb fun H Q q => ⟨x, n, rfl, rfl, h.1, h.2, hz, q⟩)
theorem ex_ixS {x : Str} {i : Int} {c : Nat} (ha : EX X a σ G S x S1) (hb : EX X b σ G S1 i S2) (hx : atI x.cps.toList i = some c) (hl : x.length ≤ 1000000) (hs : PlainIx b := by exact fun _ _ => rfl) : EX X (.Subscript a b pos) σ G S (⟨#[c]⟩ : Str) S2 :=
  Ev.to (pe_ix ix_str (pE a) (pE b) hs) (ev_opS ha hb fun H Q q => ⟨x, i, c, rfl, rfl, Nat.le_trans hl (by decide), hx, q⟩)
theorem ex_lenS {x : Str} {p : Pos} (ha : EX X a σ G S x S1) (hm : X.mg "len" = none) (hl : x.length ≤ 1000000) (hg : Gl X "len" := by rfl) (hse : starEach [a] X.env = (false, eval a X.env) :: starEach [] X.env := by rfl) : EX X (.Call (.Name "len" p) [a] [] pos) σ G S (x.length : Int) S1 :=
  Ev.to (pe_callB call_len hg hm PySem.boot_len (pa_cons (pE a) pa_nil hse) (he := hse)) fun G1 H e hd Q k => ha G1 H e hd _ fun v G2 H2 s2 r2 => ⟨v, x.length, rfl, by rw [show v = .str x from r2]; exact ⟨Nat.le_trans hl (by decide), rfl⟩, k _ G2 H2 s2 rfl⟩
theorem ex_sliceS {x : Str} {lo hi : Option Expr} {tl th : TO} {l u : Option Int} {p2 : Pos} (pl : PO X lo tl) (pu : PO X hi th) (ha : EX X a σ G S x S1) (hl : ∀ G, EvO tl σ G S1 l S1) (hu : ∀ G, EvO th σ G S1 u S1) (hx : x.length ≤ 1000000) :
    EX X (.Subscript a (.Slice lo hi none p2) pos) σ G S (cutS x l u) S1 :=
  Ev.to (pe_slice sl_str (pE a) pl pu) fun G1 H e hd Q k => ha G1 H e hd _ fun v G2 H2 s2 r2 => hl G2 G2 H2 (Same.refl _) s2.hold _ fun G3 H3 s3 => hu G3 G3 H3 (Same.refl _) s3.hold _ fun G4 H4 s4 =>
    ⟨x, r2, Nat.le_trans hx (by decide), k _ G4 H4 ((s2.trans s3).trans s4) rfl⟩
/-- the text of a number -/
def numS (n : Int) : Str := Str.ofString (toString n)
theorem ex_strI {n : Int} {p : Pos} (ha : EX X a σ G S n S1) (hn : n.natAbs.log2 < 1920) (hm : X.mg "str" = none) (hg : Gl X "str" := by rfl) (hse : starEach [a] X.env = (false, eval a X.env) :: starEach [] X.env := by rfl) : EX X (.Call (.Name "str" p) [a] [] pos) σ G S (numS n) S1 :=
  Ev.to (pe_callTy call_str_int hg hm (by decide +kernel) (pa_cons (pE a) pa_nil hse) (he := hse)) fun G1 H e hd Q k => ha G1 H e hd _ fun v G2 H2 s2 r2 => ⟨n, by rw [show v = .int n from r2], hn, k _ G2 H2 s2 rfl⟩
/-- str of a number or a text -/
def strU : Sum Int Str → Str
  | .inl n => numS n
  | .inr z => z
theorem ex_strU {u : Sum Int Str} {p : Pos} (ha : EX X a σ G S u S1) (hn : ∀ n, u = .inl n → n.natAbs.log2 < 1920) (hm : X.mg "str" = none) (hg : Gl X "str" := by rfl) (hse : starEach [a] X.env = (false, eval a X.env) :: starEach [] X.env := by rfl) : EX X (.Call (.Name "str" p) [a] [] pos) σ G S (strU u) S1 :=
  Ev.to (pe_callTy (CallR.or call_str_int SkE.call_str_str) hg hm (by decide +kernel) (pa_cons (pE a) pa_nil hse) (he := hse)) fun G1 H e hd Q k => ha G1 H e hd _ fun v G2 H2 s2 r2 => by
    cases u with
    | inl n => exact .inl ⟨n, by rw [show v = .int n from r2], hn n rfl, k _ G2 H2 s2 rfl⟩
    | inr z => exact .inr ⟨z, by rw [show v = .str z from r2], k _ G2 H2 s2 rfl⟩
/-- sep.join(a list of texts) -/
theorem ex_join {x : Str} {ys : List Str} {o : Expr} {apos : Pos} (ho : EX X o σ G S x S1) (ha : EL X a σ G S1 ys S2) (hl : (ys.map (·.length)).sum + ys.length * x.length ≤ 16777216)
    (hp : PE X (.Call (.Attribute o "join" apos) [a] [] pos) (tM1 (fun x xs H Q => ∃ a p, ∃ ys : List Str, x = .str a ∧ xs = [.ref p] ∧ (SqL X.K H p (ys.map V.str) ∨ SqT X.K H p (ys.map V.str)) ∧ (ys.map (·.length)).sum + ys.length * a.length ≤ 16777216 ∧ Q (.str (Txt.join a ys)) H) (cE X o) (cE X a)) := by exact pe_join (pE _) (pE _)) :
    EX X (.Call (.Attribute o "join" apos) [a] [] pos) σ G S (Txt.join x ys) S2 :=
  Ev.to hp fun G1 H e hd Q k => ho G1 H e hd _ fun v G2 H2 s2 r2 => ⟨⟨x, r2⟩, ha G2 H2 (e.trans s2.gg) s2.hold _ fun w G3 H3 s3 r3 => by
    obtain ⟨l, vs, rfl, hq, hi⟩ := r3.sq s3.hold
    rw [Its.sc hi] at hq
    exact ⟨x, l, ys, r2, rfl, .inl hq, hl, k _ G3 H3 (s2.trans s3) rfl⟩⟩
/-! ### f-strings -/
theorem ex_fmtI {i : Int} {n j : Nat} {sp : Str} {p1 p2 : Pos} (he : EX X e σ G S i S1) (h : 0 ≤ i ∧ i.natAbs < 10 ^ 100) (hp : PE X (.FormattedValue e (-1) (some (.JoinedStr [.Constant (.str sp) j p1] p2)) pos) (tFmtI n (cE X e))) :
    EX X (.FormattedValue e (-1) (some (.JoinedStr [.Constant (.str sp) j p1] p2)) pos) σ G S (padL n (numS i)) S1 :=
  Ev.to hp fun G1 H e hd Q k => he G1 H e hd _ fun v G2 H2 s2 r2 => ⟨i, r2, h.1, h.2, k _ G2 H2 s2 rfl⟩
theorem ex_fmtS {z : Str} {y : Str → Str} {j : Nat} {sp : Str} {p1 p2 : Pos} (he : EX X e σ G S z S1) (hl : (y z).length ≤ 1000000) (hp : PE X (.FormattedValue e (-1) (some (.JoinedStr [.Constant (.str sp) j p1] p2)) pos) (tFmtS y (cE X e))) :
    EX X (.FormattedValue e (-1) (some (.JoinedStr [.Constant (.str sp) j p1] p2)) pos) σ G S (y z) S1 :=
  Ev.to hp fun G1 H e hd Q k => he G1 H e hd _ fun v G2 H2 s2 r2 => ⟨z, r2, Nat.le_trans hl (by decide), k _ G2 H2 s2 rfl⟩
theorem ex_fmt {z : Str} (he : EX X e σ G S z S1) (hl : z.length ≤ 1000000) : EX X (.FormattedValue e (-1) none pos) σ G S z S1 :=
  Ev.to (pe_fmt (pE e)) fun G1 H e hd Q k => he G1 H e hd _ fun v G2 H2 s2 r2 => .inl ⟨z, r2, Nat.le_trans hl (by decide), k _ G2 H2 s2 rfl⟩
theorem ex_fmtN {i : Int} (he : EX X e σ G S i S1) (hn : i.natAbs.log2 < 1920) : EX X (.FormattedValue e (-1) none pos) σ G S (numS i) S1 :=
  Ev.to (pe_fmt (pE e)) fun G1 H e hd Q k => he G1 H e hd _ fun v G2 H2 s2 r2 => .inr ⟨i, r2, hn, k _ G2 H2 s2 rfl⟩
/-- the parts of an f-string, glued behind acc -/
def EJ (X : Cx) (es : List Expr) (acc : Str) (σ : St) (G : Hp) (S : Sto) (x : Str) (S' : Sto) : Prop :=
  ∃ ts, PJ X es ts ∧ ∀ G1 H, Same G G1 → Hold G1 S H → ∀ Q : Str → Hp → Prop, (∀ G' H', Stp G1 S H G' S' H' → Q x H') → tJs ts acc σ H Q
theorem ej_nil {acc : Str} : EJ X [] acc σ G S acc S := ⟨[], .nil, fun G1 H e hd Q k => k G1 H (.refl hd)⟩
theorem ej_cons {acc x y : Str} {es : List Expr} (h : EX X e σ G S x S1) (hr : EJ X es (acc ++ x) σ G S1 y S2) (hl : (acc ++ x).length ≤ 1000000) : EJ X (e :: es) acc σ G S y S2 := by
  obtain ⟨ts, pj, r⟩ := hr
  refine ⟨cE X e :: ts, .cons (pE e) pj, fun G1 H e hd Q k => ?_⟩
  refine h G1 H e hd _ fun v G2 H2 s2 r2 => ⟨x, r2, Nat.le_trans hl (by decide), r G2 H2 (e.trans s2.gg) s2.hold Q fun G3 H3 s3 => k G3 H3 (s2.trans s3)⟩
theorem ex_fstr {v1 v2 : Expr} {r : List Expr} {x : Str} (h : EJ X (v1 :: v2 :: r) Str.empty σ G S x S1) : EX X (.JoinedStr (v1 :: v2 :: r) pos) σ G S x S1 := by
  obtain ⟨ts, pj, h⟩ := h
  exact Ev.to (pe_joined pj) fun G1 H e hd Q k => h G1 H e hd _ fun G' H' s => k _ G' H' s rfl

/-! ### deep == -/
class Dt (α : Type) extends Rp α where
  toD : α → PyData
  ok : α → Prop
  deep : Nat
  dp : ∀ {K : PySem.W.Frag} {x : α} {v : V} {G : Hp}, Rp.rp K x v G → Dp K G v (toD x)
  lay : ∀ x, ok x → PyData.canLay0 (toD x) = true
  dep : ∀ x, (toD x).depth ≤ deep
  eqv : ∀ x y, PyData.eqv (toD x) (toD y) = true ↔ x = y
instance : Dt Int where
  toRp := inferInstance
  toD := .int
  ok := fun _ => True
  deep := 0
  dp := fun {K x v G} h => by rw [show v = .int x from h]; exact .int x
  lay := fun _ _ => rfl
  dep := fun _ => Nat.le_refl _
  eqv := fun x y => by simp [PyData.eqv]
instance : Dt Bool where
  toRp := inferInstance
  toD := .bool
  ok := fun _ => True
  deep := 0
  dp := fun {K x v G} h => by rw [show v = .bl x from h]; exact .bl x
  lay := fun _ _ => rfl
  dep := fun _ => Nat.le_refl _
  eqv := fun x y => by simp [PyData.eqv]
instance : Dt Str where
  toRp := inferInstance
  toD := .str
  ok := fun x => cpOk x
  deep := 0
  dp := fun {K x v G} h => by rw [show v = .str x from h]; exact .str x
  lay := fun _ h => h
  dep := fun _ => Nat.le_refl _
  eqv := fun x y => by simp [PyData.eqv]
instance : Dt (Sum Int Str) where
  toRp := inferInstance
  toD := fun x => match x with | .inl a => .int a | .inr b => .str b
  ok := fun x => ∀ z, x = .inr z → cpOk z
  deep := 0
  dp := fun {K x v G} h => by
    cases x with
    | inl a => rw [show v = .int a from h]; exact .int a
    | inr a => rw [show v = .str a from h]; exact .str a
  lay := fun x h => by
    cases x with
    | inl a => rfl
    | inr a => exact h a rfl
  dep := fun x => by cases x <;> exact Nat.le_refl _
  eqv := fun x y => by cases x <;> cases y <;> simp [PyData.eqv]
def allD {α : Type} [Dt α] (xs : List α) : List PyData := xs.map Dt.toD
theorem dpAll {α : Type} [Dt α] : ∀ {xs : List α} {vs : List V}, Its K xs vs G → DpAll K G vs (allD xs)
  | _, _, .nil => .nil
  | _, _, .cons r t => .cons (Dt.dp r) (dpAll t)
theorem layAll {α : Type} [Dt α] : ∀ {xs : List α}, (∀ x ∈ xs, Dt.ok x) → PyData.canLayAll0 (allD xs) = true
  | [], _ => rfl
  | x :: r, h => by
    show (PyData.canLay0 (Dt.toD x) && PyData.canLayAll0 (allD r)) = true
    rw [Dt.lay x (h x List.mem_cons_self), layAll fun y m => h y (List.mem_cons_of_mem _ m)]; rfl
theorem depAll {α : Type} [Dt α] : ∀ (xs : List α), PyData.depthAll (allD xs) ≤ Dt.deep α
  | [] => Nat.zero_le _
  | x :: r => by
    show max (PyData.depth (Dt.toD x)) (PyData.depthAll (allD r)) ≤ _
    exact Nat.max_le.mpr ⟨Dt.dep x, depAll r⟩
theorem eqvAll_iff {α : Type} [Dt α] : ∀ (xs ys : List α), PyData.eqvAll (allD xs) (allD ys) = true ↔ xs = ys
  | [], [] => by simp [allD, PyData.eqvAll]
  | [], y :: s => by simp [allD, PyData.eqvAll]
  | x :: r, [] => by simp [allD, PyData.eqvAll]
  | x :: r, y :: s => by
    show (PyData.eqv (Dt.toD x) (Dt.toD y) && PyData.eqvAll (allD r) (allD s)) = true ↔ _
    rw [Bool.and_eq_true, Dt.eqv, eqvAll_iff r s]
    simp
instance {α : Type} [Dt α] : Dt (List α) where
  toRp := inferInstance
  toD := fun xs => .list (allD xs)
  ok := fun xs => ∀ x ∈ xs, Dt.ok x
  deep := Dt.deep α + 1
  dp := fun {K x v G} ⟨a, vs, e, h, hi⟩ => by rw [e]; exact .lst (SqL.of h) (dpAll hi)
  lay := fun x h => by show PyData.canLayAll0 _ = true; exact layAll h
  dep := fun x => by show PyData.depthAll _ + 1 ≤ _; exact Nat.succ_le_succ (depAll x)
  eqv := fun x y => by show PyData.eqvAll _ _ = true ↔ _; exact eqvAll_iff x y
instance {α β γ δ : Type} [Dt α] [Dt β] [Dt γ] [Dt δ] : Dt (P4 α β γ δ) where
  toRp := inferInstance
  toD := fun x => .tuple [Dt.toD x.f0, Dt.toD x.f1, Dt.toD x.f2, Dt.toD x.f3]
  ok := fun x => Dt.ok x.f0 ∧ Dt.ok x.f1 ∧ Dt.ok x.f2 ∧ Dt.ok x.f3
  deep := max (Dt.deep α) (max (Dt.deep β) (max (Dt.deep γ) (Dt.deep δ))) + 1
  dp := fun {K x v G} ⟨a, v0, v1, v2, v3, e, h, h0, h1, h2, h3⟩ => by rw [e]; exact .tup h (.cons (Dt.dp h0) (.cons (Dt.dp h1) (.cons (Dt.dp h2) (.cons (Dt.dp h3) .nil))))
  lay := fun x ⟨h0, h1, h2, h3⟩ => by
    show (PyData.canLay0 _ && (PyData.canLay0 _ && (PyData.canLay0 _ && (PyData.canLay0 _ && true)))) = true
    rw [Dt.lay _ h0, Dt.lay _ h1, Dt.lay _ h2, Dt.lay _ h3]; rfl
  dep := fun x => by
    show max (PyData.depth _) (max (PyData.depth _) (max (PyData.depth _) (max (PyData.depth _) 0))) + 1 ≤ _
    have := Dt.dep x.f0
    have := Dt.dep x.f1
    have := Dt.dep x.f2
    have := Dt.dep x.f3
    omega
  eqv := fun x y => by
    show (PyData.eqv _ _ && (PyData.eqv _ _ && (PyData.eqv _ _ && (PyData.eqv _ _ && true)))) = true ↔ _
    simp only [Bool.and_eq_true, Dt.eqv, and_true]
    cases x; cases y
    simp
theorem dt_shaped {α : Type} [Dt α] {x : α} (h : Dt.ok x) (hd : Dt.deep α ≤ 64) : SeqAt.shaped (Dt.toD x) = true := by
  unfold SeqAt.shaped
  rw [Dt.lay x h, decide_eq_true (Nat.le_trans (Dt.dep x) hd)]; rfl
/-- a value that is data, owned or not -/
def DV {α : Type} [Dt α] (K : PySem.W.Frag) (x : α) (v : V) (H : Hp) : Prop := Dp K H v (Dt.toD x)
def EvD {α : Type} [Dt α] (K : PySem.W.Frag) (te : TE) (σ : St) (G : Hp) (S : Sto) (x : α) (S' : Sto) : Prop :=
  ∀ G1 H, Same G G1 → Hold G1 S H → ∀ Q : VK, (∀ v G' H', Stp G1 S H G' S' H' → (∀ G2 H2, Stp G' S' H' G2 S' H2 → Dp K H2 v (Dt.toD x)) → Q v H') → te σ H Q
mutual
theorem Dp_mono {K : PySem.W.Frag} {H H' : Hp} (e : Same H H') : ∀ {v : V} {d : PyData}, Dp K H v d → Dp K H' v d
  | _, _, .non => .non
  | _, _, .bl b => .bl b
  | _, _, .int i => .int i
  | _, _, .str x => .str x
  | _, _, .lst h t => .lst (e.seq h) (DpAll_mono e t)
  | _, _, .tup h t => .tup (sameT e h) (DpAll_mono e t)
theorem DpAll_mono {K : PySem.W.Frag} {H H' : Hp} (e : Same H H') : ∀ {vs : List V} {ds : List PyData}, DpAll K H vs ds → DpAll K H' vs ds
  | _, _, .nil => .nil
  | _, _, .cons h t => .cons (Dp_mono e h) (DpAll_mono e t)
end
theorem Ev.dt {α : Type} [Dt α] {x : α} (h : Ev K te σ G S x S1) : EvD K te σ G S x S1 := fun G1 H e hd Q k => h G1 H e hd Q fun v G' H' s r => k v G' H' s fun G2 H2 s2 => Dp_mono (s2.gg.trans s2.hold.ex) (Dt.dp r)
theorem EvL.dt {α : Type} [Dt α] {xs : List α} (h : EvL K te σ G S xs S1) : EvD K te σ G S xs S1 := fun G1 H e hd Q k => h G1 H e hd Q fun v G' H' s r => k v G' H' s fun G2 H2 s2 => by
  obtain ⟨l, vs, rfl, hq, hi⟩ := (r.mono s2.gg).sq s2.hold
  exact .lst hq (DpAll_mono s2.hold.ex (dpAll hi))
theorem _root_.L2.Room.eqU {k : Nat} {A : Around} (r : Room k A) : A.units + 64 < cLine := by have := r.un; omega
theorem vl_eqD {α : Type} [Dt α] [DecidableEq α] {x y : α} (ha : EvD X.K (cE X a) σ G S x S1) (hb : EvD X.K (cE X b) σ G S1 y S1) (h1 : Dt.ok x) (h2 : Dt.ok y) (hd : Dt.deep α ≤ 64) : Ev X.K (tOp (rEqD X.K) (cE X a) (cE X b)) σ G S (decide (x = y)) S1 :=
  fun G1 H e hd0 Q k => ha G1 H e hd0 _ fun v G2 H2 s2 r2 => hb G2 H2 (e.trans s2.gg) s2.hold _ fun u G3 H3 s3 r3 => by
    refine ⟨Dt.toD x, Dt.toD y, r2 G3 H3 s3, r3 G3 H3 (.refl s3.hold), dt_shaped h1 hd, dt_shaped h2 hd, ?_⟩
    have e : PyData.eqv (Dt.toD x) (Dt.toD y) = decide (x = y) := by
      rw [Bool.eq_iff_iff, decide_eq_true_iff]; exact Dt.eqv x y
    rw [e]
    exact k _ G3 H3 (s2.trans s3) rfl
theorem vl_neD {α : Type} [Dt α] [DecidableEq α] {x y : α} (ha : EvD X.K (cE X a) σ G S x S1) (hb : EvD X.K (cE X b) σ G S1 y S1) (h1 : Dt.ok x) (h2 : Dt.ok y) (hd : Dt.deep α ≤ 64) : Ev X.K (tOp (rNeD X.K) (cE X a) (cE X b)) σ G S (!decide (x = y)) S1 :=
  fun G1 H e hd0 Q k => ha G1 H e hd0 _ fun v G2 H2 s2 r2 => hb G2 H2 (e.trans s2.gg) s2.hold _ fun u G3 H3 s3 r3 => by
    refine ⟨Dt.toD x, Dt.toD y, r2 G3 H3 s3, r3 G3 H3 (.refl s3.hold), dt_shaped h1 hd, dt_shaped h2 hd, ?_⟩
    have e : PyData.eqv (Dt.toD x) (Dt.toD y) = decide (x = y) := by
      rw [Bool.eq_iff_iff, decide_eq_true_iff]; exact Dt.eqv x y
    rw [e]
    exact k _ G3 H3 (s2.trans s3) rfl
theorem ex_eqD {α : Type} [Dt α] [DecidableEq α] {x y : α} (hu : X.A.units + 64 < cLine) (ha : EvD X.K (cE X a) σ G S x S1) (hb : EvD X.K (cE X b) σ G S1 y S1) (h1 : Dt.ok x) (h2 : Dt.ok y) (hd : Dt.deep α ≤ 64 := by decide) : EX X (.Compare a [.Eq] [b] pos) σ G S (decide (x = y)) S1 := ex_cmp (op_eqD hu) (nomark _) (vl_eqD ha hb h1 h2 hd)
theorem et_eqD {α : Type} [Dt α] [DecidableEq α] {x y : α} (hu : X.A.units + 64 < cLine) (ha : EvD X.K (cE X a) σ G S x S1) (hb : EvD X.K (cE X b) σ G S1 y S1) (h1 : Dt.ok x) (h2 : Dt.ok y) (hd : Dt.deep α ≤ 64 := by decide) : ET X (.Compare a [.Eq] [b] pos) σ G S (decide (x = y)) S1 := et_cmp (op_eqD hu) (nomark _) (vl_eqD ha hb h1 h2 hd)
theorem ex_neD {α : Type} [Dt α] [DecidableEq α] {x y : α} (hu : X.A.units + 64 < cLine) (ha : EvD X.K (cE X a) σ G S x S1) (hb : EvD X.K (cE X b) σ G S1 y S1) (h1 : Dt.ok x) (h2 : Dt.ok y) (hd : Dt.deep α ≤ 64 := by decide) : EX X (.Compare a [.NotEq] [b] pos) σ G S (!decide (x = y)) S1 := ex_cmp (op_neD hu) (nomark _) (vl_neD ha hb h1 h2 hd)
theorem et_neD {α : Type} [Dt α] [DecidableEq α] {x y : α} (hu : X.A.units + 64 < cLine) (ha : EvD X.K (cE X a) σ G S x S1) (hb : EvD X.K (cE X b) σ G S1 y S1) (h1 : Dt.ok x) (h2 : Dt.ok y) (hd : Dt.deep α ≤ 64 := by decide) : ET X (.Compare a [.NotEq] [b] pos) σ G S (!decide (x = y)) S1 := et_cmp (op_neD hu) (nomark _) (vl_neD ha hb h1 h2 hd)
/-! ### isinstance -/
/-- the type of data -/
class Ty (α : Type) extends Rp α where
  ty : String
  tyx : ∀ {K : PySem.W.Frag} {x : α} {v : V} {G H : Hp}, Same G H → Rp.rp K x v G → TyX K H v (.type ty)
instance : Ty Int := { toRp := inferInstance, ty := "int", tyx := fun {K x v G H} _ h => by rw [show v = .int x from h]; exact .base (.int x) }
instance : Ty Bool := { toRp := inferInstance, ty := "bool", tyx := fun {K x v G H} _ h => by rw [show v = .bl x from h]; exact .base (.bl x) }
instance : Ty Str := { toRp := inferInstance, ty := "str", tyx := fun {K x v G H} _ h => by rw [show v = .str x from h]; exact .base (.str x) }
instance {α : Type} [Rp α] : Ty (List α) := { toRp := inferInstance, ty := "list", tyx := fun {K x v G H} e ⟨a, vs, r, h, _⟩ => by rw [r]; exact .base (.lst (e _ _ h)) }
/-- isinstance(x, T), T a built-in type -/
theorem ex_isi {α : Type} [Ty α] {x : α} {p p2 : Pos} {T : Str} {T' : String} {b : Bool} (ha : EX X a σ G S x S1) (hk : L2.kitB (Ty.ty α) T' = some b) (hmT : X.mg T = none) (hvT : bootBuiltins T = some (.type T')) (hm : X.mg "isinstance" = none) (hg : Gl X "isinstance" := by rfl) (hgT : Gl X T := by rfl) (hnT : T ≠ "__name__" := by decide) (hdT : (T == ("__debug__" : Str)) = false := by decide)
    (hse : starEach [a, .Name T p2] X.env = (false, eval a X.env) :: starEach [.Name T p2] X.env := by rfl) (hse2 : starEach [.Name T p2] X.env = (false, eval (.Name T p2) X.env) :: starEach [] X.env := by rfl) (hpl : (backTo pos (starEach [.Name T p2] X.env)).any (·.1) = false := by rfl) :
    EX X (.Call (.Name "isinstance" p) [a, .Name T p2] [] pos) σ G S b S1 :=
  Ev.to (pe_callB call_isi hg hm (by decide +kernel) (pa_cons (pE a) (pa_cons (pe_bltn (v := .ty T') hgT hmT hvT rfl hnT hdT) pa_nil hse2) hse) (he := hse) (hpl := hpl)) fun G1 H e hd Q k => ha G1 H e hd _ fun v G2 H2 s2 r2 => ⟨v, .ty T', .type (Ty.ty α), .type T', b, rfl, .ty T', Ty.tyx s2.hold.ex r2, kit_ty hk, k _ G2 H2 s2 rfl⟩
end
end Gx

-- part GTup
set_option Elab.async false
set_option linter.all false
set_option maxRecDepth 100000
set_option maxHeartbeats 1000000
namespace Gx
open PySem PySem.Spec PyProof.Rows L2
open Rp (rp)
open Sc (toV)
section
variable {X : Cx} {K : PySem.W.Frag} {B : Bs} {D : Ends} {σ : St} {G : Hp} {S S1 S2 Se : Sto} {e a b c elt tg iter : Expr} {es ifs : List Expr} {rest body : List Stmt} {pos pos' : Pos} {te : TE}
theorem stp_new {G G' : Hp} {S S' : Sto} {H H' : Hp} {p : Addr} (s : Stp G S H G' S' H') (hp : H' p = none) : H p = none := by
  cases q : H p with
  | none => rfl
  | some o =>
    obtain ⟨o', e'⟩ := s.th p o q
    rw [hp] at e'; cases e'
/-! ### arguments and more -/
theorem EvA.imp {ta : TA} {P P' : List V → Hp → Prop} (h : EvA ta σ G S P S1) (i : ∀ vs G', Same G G' → P vs G' → P' vs G') : EvA ta σ G S P' S1 := fun G1 H e hd Q k => h G1 H e hd Q fun vs G' H' s r => k vs G' H' s (i vs G' (e.trans s.gg) r)
/-! ### tuples -/
theorem ex_t1 {α β : Type} [Rp β] {x : β} {P : List V → Hp → Prop} {k : Nat} (h : EA X es σ G S P S1) (hl : ∀ vs G, P vs G → vs.length ≤ 1000) (hm : ∀ p vs G', P vs G' → SqT X.K (upd G' p (.tup vs)) p vs → (∀ G, Same G' G → P vs G) → Same G' (upd G' p (.tup vs)) → rp X.K x (.ref p) (upd G' p (.tup vs))) (hmo : ∀ vs G G', Same G G' → P vs G → P vs G') : EX X (.Tuple es k pos) σ G S x S1 :=
  Ev.to (pe_tup (pA es)) fun G1 H e hd Q q => h G1 H e hd _ fun vs G2 H2 s2 r2 => ⟨Nat.le_trans (hl _ _ r2) (by decide), fun p hp => by
    have s3 := Stp.alloc s2.hold hp (.tup vs)
    exact q _ _ _ (s2.trans s3) (hm p vs G2 r2 (SqT.of upd_same) (fun G' e => hmo _ _ _ e r2) s3.gg)⟩
theorem A0.mono {vs : List V} {G G' : Hp} (e : Same G G') (h : A0 vs G) : A0 vs G' := h
theorem A1.mono {α : Type} [Rp α] {K : PySem.W.Frag} {x : α} {P : List V → Hp → Prop} (hP : ∀ vs G G', Same G G' → P vs G → P vs G') : ∀ vs G G', Same G G' → A1 K x P vs G → A1 K x P vs G' := fun vs G G' e ⟨v, r, h1, h2, h3⟩ => ⟨v, r, h1, Rp.mono e h2, hP _ _ _ e h3⟩
theorem ex_t2 {α β : Type} [Rp α] [Rp β] {x : α} {y : β} {k : Nat} (h : EA X es σ G S (A1 X.K x (A1 X.K y A0)) S1) : EX X (.Tuple es k pos) σ G S (P2.mk x y) S1 :=
  ex_t1 (α := Unit) h (fun vs G ⟨_, _, h1, _, _, _, h2, _, h3⟩ => by subst h1 h2 h3; show 2 ≤ 1000; decide) (fun p vs G' hh sq _ sm => by
    obtain ⟨v0, _, rfl, r0, v1, _, rfl, r1, e⟩ := hh
    subst e
    exact ⟨p, v0, v1, rfl, sq, Rp.mono sm r0, Rp.mono sm r1⟩) (A1.mono (A1.mono fun _ _ _ _ h => h))
theorem ex_t3 {α β γ : Type} [Rp α] [Rp β] [Rp γ] {x : α} {y : β} {z : γ} {k : Nat} (h : EA X es σ G S (A1 X.K x (A1 X.K y (A1 X.K z A0))) S1) : EX X (.Tuple es k pos) σ G S (P3.mk x y z) S1 :=
  ex_t1 (α := Unit) h (fun vs G ⟨_, _, h1, _, _, _, h2, _, _, _, h4, _, h3⟩ => by subst h1 h2 h4 h3; show 3 ≤ 1000; decide) (fun p vs G' hh sq _ sm => by
    obtain ⟨v0, _, rfl, r0, v1, _, rfl, r1, v2, _, rfl, r2, e⟩ := hh
    subst e
    exact ⟨p, v0, v1, v2, rfl, sq, Rp.mono sm r0, Rp.mono sm r1, Rp.mono sm r2⟩) (A1.mono (A1.mono (A1.mono fun _ _ _ _ h => h)))
theorem ex_t4 {α β γ δ : Type} [Rp α] [Rp β] [Rp γ] [Rp δ] {x : α} {y : β} {z : γ} {w : δ} {k : Nat} (h : EA X es σ G S (A1 X.K x (A1 X.K y (A1 X.K z (A1 X.K w A0)))) S1) : EX X (.Tuple es k pos) σ G S (P4.mk x y z w) S1 :=
  ex_t1 (α := Unit) h (fun vs G ⟨_, _, h1, _, _, _, h2, _, _, _, h4, _, _, _, h5, _, h3⟩ => by subst h1 h2 h4 h5 h3; show 4 ≤ 1000; decide) (fun p vs G' hh sq _ sm => by
    obtain ⟨v0, _, rfl, r0, v1, _, rfl, r1, v2, _, rfl, r2, v3, _, rfl, r3, e⟩ := hh
    subst e
    exact ⟨p, v0, v1, v2, v3, rfl, sq, Rp.mono sm r0, Rp.mono sm r1, Rp.mono sm r2, Rp.mono sm r3⟩) (A1.mono (A1.mono (A1.mono (A1.mono fun _ _ _ _ h => h))))
/-- a tuple's item -/
theorem ex_tix {τ β : Type} [Rp τ] [Rp β] {x : τ} {y : β} {i : Int} (hx : ∀ v G, rp X.K x v G → ∃ p vs u, v = .ref p ∧ SqT X.K G p vs ∧ atI vs i = some u ∧ rp X.K y u G) (ha : EX X a σ G S x S1) (hb : EX X b σ G S1 i S2) (hs : PlainIx b := by exact fun _ _ => rfl) : EX X (.Subscript a b pos) σ G S y S2 :=
  Ev.to (pe_ix ix_tup (pE a) (pE b) hs) (ev_op ha hb fun v u G1 H1 e hd rv ru Q k => by
    obtain ⟨p, vs, w, rfl, hq, hw, r⟩ := hx v G1 rv
    exact ⟨p, vs, i, w, rfl, ru, sameT hd.ex hq, hw, k w G1 H1 (.refl hd) r⟩)
abbrev ix0 : Int := 0
abbrev ix1 : Int := 1
abbrev ix2 : Int := 2
abbrev ix3 : Int := 3
theorem x2_0 {α β : Type} [Rp α] [Rp β] {x : P2 α β} (ha : EX X a σ G S x S1) (hb : EX X b σ G S1 ix0 S2) (hs : PlainIx b := by exact fun _ _ => rfl) : EX X (.Subscript a b pos) σ G S x.f0 S2 := ex_tix (x := x) (fun v G ⟨p, v0, v1, e, h, r0, r1⟩ => ⟨p, _, v0, e, h, rfl, r0⟩) ha hb hs
theorem x2_1 {α β : Type} [Rp α] [Rp β] {x : P2 α β} (ha : EX X a σ G S x S1) (hb : EX X b σ G S1 ix1 S2) (hs : PlainIx b := by exact fun _ _ => rfl) : EX X (.Subscript a b pos) σ G S x.f1 S2 := ex_tix (x := x) (fun v G ⟨p, v0, v1, e, h, r0, r1⟩ => ⟨p, _, v1, e, h, rfl, r1⟩) ha hb hs
theorem x3_0 {α β γ : Type} [Rp α] [Rp β] [Rp γ] {x : P3 α β γ} (ha : EX X a σ G S x S1) (hb : EX X b σ G S1 ix0 S2) (hs : PlainIx b := by exact fun _ _ => rfl) : EX X (.Subscript a b pos) σ G S x.f0 S2 := ex_tix (x := x) (fun v G ⟨p, v0, v1, v2, e, h, r0, r1, r2⟩ => ⟨p, _, v0, e, h, rfl, r0⟩) ha hb hs
theorem x3_1 {α β γ : Type} [Rp α] [Rp β] [Rp γ] {x : P3 α β γ} (ha : EX X a σ G S x S1) (hb : EX X b σ G S1 ix1 S2) (hs : PlainIx b := by exact fun _ _ => rfl) : EX X (.Subscript a b pos) σ G S x.f1 S2 := ex_tix (x := x) (fun v G ⟨p, v0, v1, v2, e, h, r0, r1, r2⟩ => ⟨p, _, v1, e, h, rfl, r1⟩) ha hb hs
theorem x3_2 {α β γ : Type} [Rp α] [Rp β] [Rp γ] {x : P3 α β γ} (ha : EX X a σ G S x S1) (hb : EX X b σ G S1 ix2 S2) (hs : PlainIx b := by exact fun _ _ => rfl) : EX X (.Subscript a b pos) σ G S x.f2 S2 := ex_tix (x := x) (fun v G ⟨p, v0, v1, v2, e, h, r0, r1, r2⟩ => ⟨p, _, v2, e, h, rfl, r2⟩) ha hb hs
theorem x4_0 {α β γ δ : Type} [Rp α] [Rp β] [Rp γ] [Rp δ] {x : P4 α β γ δ} (ha : EX X a σ G S x S1) (hb : EX X b σ G S1 ix0 S2) (hs : PlainIx b := by exact fun _ _ => rfl) : EX X (.Subscript a b pos) σ G S x.f0 S2 := ex_tix (x := x) (fun v G ⟨p, v0, v1, v2, v3, e, h, r0, r1, r2, r3⟩ => ⟨p, _, v0, e, h, rfl, r0⟩) ha hb hs
theorem x4_1 {α β γ δ : Type} [Rp α] [Rp β] [Rp γ] [Rp δ] {x : P4 α β γ δ} (ha : EX X a σ G S x S1) (hb : EX X b σ G S1 ix1 S2) (hs : PlainIx b := by exact fun _ _ => rfl) : EX X (.Subscript a b pos) σ G S x.f1 S2 := ex_tix (x := x) (fun v G ⟨p, v0, v1, v2, v3, e, h, r0, r1, r2, r3⟩ => ⟨p, _, v1, e, h, rfl, r1⟩) ha hb hs
theorem x4_2 {α β γ δ : Type} [Rp α] [Rp β] [Rp γ] [Rp δ] {x : P4 α β γ δ} (ha : EX X a σ G S x S1) (hb : EX X b σ G S1 ix2 S2) (hs : PlainIx b := by exact fun _ _ => rfl) : EX X (.Subscript a b pos) σ G S x.f2 S2 := ex_tix (x := x) (fun v G ⟨p, v0, v1, v2, v3, e, h, r0, r1, r2, r3⟩ => ⟨p, _, v2, e, h, rfl, r2⟩) ha hb hs
theorem x4_3 {α β γ δ : Type} [Rp α] [Rp β] [Rp γ] [Rp δ] {x : P4 α β γ δ} (ha : EX X a σ G S x S1) (hb : EX X b σ G S1 ix3 S2) (hs : PlainIx b := by exact fun _ _ => rfl) : EX X (.Subscript a b pos) σ G S x.f3 S2 := ex_tix (x := x) (fun v G ⟨p, v0, v1, v2, v3, e, h, r0, r1, r2, r3⟩ => ⟨p, _, v3, e, h, rfl, r3⟩) ha hb hs
/-! ### comprehensions as written -/
theorem en_lc {β : Type} [Rp β] {ys : List β} {scope : Scope} {own : List (Str × Nat)} {wi : TI} {g : TG} (hN : X.N.Nodup) (hi : PI X tg iter wi) (ok : BlkOk X.N X.env.scope scope own)
    (hg : ∀ (s : Shared) (H : Hp) (C : Addr) (cl : List (Str × Addr)) (fp : List Addr), PG (X.blk s H scope (compEnvC scope cl C X.env) fp) tg g)
    (h : EvN X.K (tLc wi g tYes (cEB X scope elt) (own.map (·.2))) σ G S ys Se) (hc : X.calm = true := by rfl) (hs : ∀ x, foldedSetIterable iter X.env x = pure x := by intro _; rfl) : EN X (.ListComp elt [⟨tg, iter, [], 0⟩] scope pos) σ G S ys Se :=
  EvN.to (pe_lc hc hN hi ok hg (fun _ _ _ _ _ => pts_nil) pEB hs) h
theorem en_lcIf {β : Type} [Rp β] {ys : List β} {scope : Scope} {own : List (Str × Nat)} {wi : TI} {g : TG} (hN : X.N.Nodup) (hi : PI X tg iter wi) (ok : BlkOk X.N X.env.scope scope own)
    (hg : ∀ (s : Shared) (H : Hp) (C : Addr) (cl : List (Str × Addr)) (fp : List Addr), PG (X.blk s H scope (compEnvC scope cl C X.env) fp) tg g)
    (h : EvN X.K (tLc wi g (cTB X scope c) (cEB X scope elt) (own.map (·.2))) σ G S ys Se) (hc : X.calm = true := by rfl) (hs : ∀ x, foldedSetIterable iter X.env x = pure x := by intro _; rfl) : EN X (.ListComp elt [⟨tg, iter, [c], 0⟩] scope pos) σ G S ys Se :=
  EvN.to (pe_lc hc hN hi ok hg (fun s H C cl fp => pts_one (pTB s H C cl fp)) pEB hs) h
theorem b_setLc {β : Type} [Rp β] {ys : List β} {n : Str} {scope : Scope} {own : List (Str × Nat)} {wi : TI} {g : TG} (i : Nat) (hN : X.N.Nodup) (hi : PI X tg iter wi) (ok : BlkOk X.N X.env.scope scope own)
    (hg : ∀ (s : Shared) (H : Hp) (C : Addr) (cl : List (Str × Addr)) (fp : List Addr), PG (X.blk s H scope (compEnvC scope cl C X.env) fp) tg g)
    (h : EvN X.K (tLc wi g tYes (cEB X scope elt) (own.map (·.2))) σ G S ys S1) (k : ∀ p vs G1, Same G G1 → Its X.K ys vs G1 → B.H p = none → At B (cB X rest D) (σ.set i (some (.ref p))) G1 ((p, .lst vs) :: S1))
    {p2 spos : Pos} (hsw : swapsWith (.ListComp elt [⟨tg, iter, [], 0⟩] scope p2) (some (.Name n pos')) spos.line X.env = pure true) (hy : X.N[i]? = some n := by rfl) (hyl : X.env.scope.names.lookup n = some .local := by rfl)
    (hc : X.calm = true := by rfl) (hs : ∀ x, foldedSetIterable iter X.env x = pure x := by intro _; rfl) : At B (cB X (.Assign [.Name n pos'] (.ListComp elt [⟨tg, iter, [], 0⟩] scope p2) spos :: rest) D) σ G S :=
  b_cons fun H s => toS (ps_setLc (i := i) hc hN hy hyl hsw hi ok hg (fun _ _ _ _ _ => pts_nil) pEB hs) (h G H (Same.refl G) s.hold _ fun p vs G1 H1 hp s1 r => k p vs G1 s1.gg r (stp_new s hp) H1 (s.trans s1))
theorem b_setLcIf {β : Type} [Rp β] {ys : List β} {n : Str} {scope : Scope} {own : List (Str × Nat)} {wi : TI} {g : TG} (i : Nat) (hN : X.N.Nodup) (hi : PI X tg iter wi) (ok : BlkOk X.N X.env.scope scope own)
    (hg : ∀ (s : Shared) (H : Hp) (C : Addr) (cl : List (Str × Addr)) (fp : List Addr), PG (X.blk s H scope (compEnvC scope cl C X.env) fp) tg g)
    (h : EvN X.K (tLc wi g (cTB X scope c) (cEB X scope elt) (own.map (·.2))) σ G S ys S1) (k : ∀ p vs G1, Same G G1 → Its X.K ys vs G1 → B.H p = none → At B (cB X rest D) (σ.set i (some (.ref p))) G1 ((p, .lst vs) :: S1))
    {p2 spos : Pos} (hsw : swapsWith (.ListComp elt [⟨tg, iter, [c], 0⟩] scope p2) (some (.Name n pos')) spos.line X.env = pure true) (hy : X.N[i]? = some n := by rfl) (hyl : X.env.scope.names.lookup n = some .local := by rfl)
    (hc : X.calm = true := by rfl) (hs : ∀ x, foldedSetIterable iter X.env x = pure x := by intro _; rfl) : At B (cB X (.Assign [.Name n pos'] (.ListComp elt [⟨tg, iter, [c], 0⟩] scope p2) spos :: rest) D) σ G S :=
  b_cons fun H s => toS (ps_setLc (i := i) hc hN hy hyl hsw hi ok hg (fun s H C cl fp => pts_one (pTB s H C cl fp)) pEB hs) (h G H (Same.refl G) s.hold _ fun p vs G1 H1 hp s1 r => k p vs G1 s1.gg r (stp_new s hp) H1 (s.trans s1))
/-! ### owned cells -/
/-- an owned list that is changed no more is frozen -/
theorem at_freeze {T : St → Hp → Prop} {p : Addr} {o : HO} (i : Nat) (hi : S[i]? = some (p, o)) (hn : B.H p = none) (h : Same G (upd G p o) → At B T σ (upd G p o) (S.eraseIdx i)) : At B T σ G S := fun H s => by
  refine h (fun b u q => ?_) H (s.freeze hi hn)
  have ne : b ≠ p := by
    rintro rfl
    rw [s.hold.sep b (List.mem_map.mpr ⟨(b, o), List.mem_of_getElem? hi, rfl⟩)] at q; cases q
  rw [upd_ne ne]; exact q
theorem rp_frozen {α : Type} [Rp α] {xs : List α} {vs : List V} {p : Addr} (hi : Its K xs vs G) (e : Same G (upd G p (.lst vs))) : rp K xs (.ref p) (upd G p (.lst vs)) := ⟨p, vs, rfl, upd_same, hi.mono e⟩
/-- x = [..], of any kinds -/
theorem b_setA {P : List V → Hp → Prop} (i : Nat) {n : Str} {p2 : Pos} (he : EA X es σ G S P S1) (hl : ∀ vs G, P vs G → vs.length ≤ 1000) (k : ∀ p vs G1, Same G G1 → P vs G1 → B.H p = none → At B (cB X rest D) (σ.set i (some (.ref p))) G1 ((p, .lst vs) :: S1)) (hN : X.N.Nodup) (hi : X.N[i]? = some n := by rfl)
    (hx : Loc X.env.scope n := by first | exact .inl rfl | exact .inr rfl) (hs : swapsWith (.List es p2) (some (.Name n pos')) pos.line X.env = pure false := by rfl) (hf : X.fn n = true ∨ X.env.scope.names.lookup n = some .local := by first | exact .inl rfl | exact .inr rfl) :
    At B (cB X (.Assign [.Name n pos'] (.List es p2) pos :: rest) D) σ G S := b_cons fun H s => toS (ps_set hN hi hx (pe_lst (pA es)) hs hf) (he G H (Same.refl G) s.hold _ fun vs G1 H1 s1 r => ⟨Nat.le_trans (hl _ _ r) (by decide), fun p hp => k p vs G1 s1.gg r (stp_new (s.trans s1) hp) _ (s.trans (s1.trans (Stp.own s1.hold hp (.lst vs))))⟩)
/-- an item of an owned list that holds values of any kinds -/
theorem ex_cellR {α : Type} [Rp α] {x : α} {v : V} {vs : List V} {l : Addr} {k : Int} (j : Nat) (ha : EX X a σ G S (Ow.mk l) S) (hb : EX X b σ G S k S) (hj : S[j]? = some (l, .lst vs)) (hx : atI vs k = some v) (r : rp X.K x v G) (hs : PlainIx b := by exact fun _ _ => rfl) : EX X (.Subscript a b pos) σ G S x S :=
  Ev.to (pe_ix ix_list (pE a) (pE b) hs) (ev_op ha hb fun u w G1 H1 e hd ru rw' Q q => by
    exact ⟨l, vs, k, v, ru, rw', SqL.of (hd.own _ (List.mem_of_getElem? hj)), hx, q v G1 H1 (.refl hd) (Rp.mono e r)⟩)
theorem ex_cell {α : Type} [Sc α] {x : α} {vs : List V} {l : Addr} {k : Int} (j : Nat) (ha : EX X a σ G S (Ow.mk l) S) (hb : EX X b σ G S k S) (hj : S[j]? = some (l, .lst vs)) (hx : atI vs k = some (toV x)) (hs : PlainIx b := by exact fun _ _ => rfl) : EX X (.Subscript a b pos) σ G S x S := ex_cellR j ha hb hj hx Sc.refl hs
/-- xs[i], xs owned: the index changes other cells only -/
theorem ex_ixO {α : Type} [Rp α] {xs : List α} {vs : List V} {l : Addr} {k : Int} {x : α} (ha : EX X a σ G S (Ow.mk l) S) (hb : EX X b σ G S k S2) (hj : (l, HO.lst vs) ∈ S2) (hi : Its X.K xs vs G) (hx : atI xs k = some x) (hs : PlainIx b := by exact fun _ _ => rfl) : EX X (.Subscript a b pos) σ G S x S2 :=
  Ev.to (pe_ix ix_list (pE a) (pE b) hs) (ev_op ha hb fun u w G1 H1 e hd ru rw' Q q => by
    obtain ⟨v, hv, r⟩ := atI_its hi hx
    exact ⟨l, vs, k, v, ru, rw', SqL.of (hd.own _ hj), hv, q v G1 H1 (.refl hd) (Rp.mono e r)⟩)
end
/-! ### defs that draw -/
/-- a def whose first argument is the owned pot: it goes from state t to n t i, the answer is y t i; C is what is true of the frozen part -/
def PmD {τ ι β : Type} [Rp β] (K : PySem.W.Frag) (pot : τ → HO) (C : τ → Hp → Prop) (A : ι → List V → Hp → Prop) (pre : τ → ι → Prop) (y : τ → ι → β) (n : τ → ι → τ) : Sp :=
  Pm K (fun (i : Addr × τ × ι) vs G => A1 K (Ow.mk i.1) (A i.2.2) vs G ∧ C i.2.1 G) (fun i => [(i.1, pot i.2.1)]) (fun i => pre i.2.1 i.2.2) (fun i => y i.2.1 i.2.2) (fun i => [(i.1, pot (n i.2.1 i.2.2))])
theorem PmD.does {τ ι β : Type} [Rp β] {K : PySem.W.Frag} {pot : τ → HO} {C : τ → Hp → Prop} {A : ι → List V → Hp → Prop} {pre : τ → ι → Prop} {y : τ → ι → β} {n : τ → ι → τ} {S : Sto} (j : Nat) (p : Addr) (t : τ) (i : ι) (h : pre t i) (hj : S[j]? = some (p, pot t)) :
    Does K (PmD K pot C A pre y n) (fun vs G => A1 K (Ow.mk p) (A i) vs G ∧ C t G) S (y t i) (S.set j (p, pot (n t i))) := Does.frame1 (Pm.does (p, t, i) h) hj
section
variable {X : Cx} {σ : St} {G : Hp} {S S1 S2 : Sto} {e : Expr} {es rest : List Expr} {pos : Pos}
/-- draw(pot, ..), the pot owned at place j -/
theorem ex_dr {τ ι β : Type} [Rp β] {pot : τ → HO} {C : τ → Hp → Prop} {A : ι → List V → Hp → Prop} {pre : τ → ι → Prop} {y : τ → ι → β} {n : τ → ι → τ} {q : Addr} (j : Nat) (t : τ) (i : ι) {x : Str} {p : Pos} {f : Addr} {fd : FuncData} {ps : List Str} {CX : CXT} {k : Nat}
    (F : FnOk X.prog X.w X.K X.mg X.base CX k f fd ps (PmD X.K pot C A pre y n)) (hb : Binds X.K fd ps []) (hr : Room k X.A) (hm : X.mg x = some (.ref f)) (hk : PySem.W.keepIn X.K (.ref f) = true) (h : pre t i) (hj : S1[j]? = some (q, pot t)) (hC : ∀ G', Same G G' → C t G')
    (ho : EX X e σ G S (Ow.mk q) S) (ha : EA X es σ G S (A i) S1) {E : XK} (hx : Passes CX X E) (hg : Gl X x := by rfl) (hdb : (x == ("__debug__" : Str)) = false := by decide)
    (hpl : (backTo pos (starEach es X.env)).any (·.1) = false := by rfl) (he : starEach (e :: es) X.env = (false, eval e X.env) :: starEach es X.env := by rfl) : EX X (.Call (.Name x p) (e :: es) [] pos) σ G S (y t i) (S1.set j (q, pot (n t i))) :=
  ex_call (PmD.does j q t i h hj) F hr hm hk hb hx (EvA.imp (ea_cons ho ha he) fun vs G' e r => ⟨r, hC G' e⟩) hg hdb hpl he
end
end Gx

-- part GMore
set_option Elab.async false
set_option linter.all false
set_option maxRecDepth 100000
set_option maxHeartbeats 1000000
namespace Gx
open PySem PySem.Spec PyProof.Rows L2
open Rp (rp)
open Sc (toV)
/-! ### lists, texts: plain -/
theorem atI_get {α : Type} {xs : List α} {i : Int} (d : α) (h0 : 0 ≤ i) (h1 : i < (xs.length : Int)) : atI xs i = some (xs.getD i.toNat d) := by
  have hlt : i.toNat < xs.length := by omega
  unfold atI ixN
  rw [if_pos h0, if_pos (by omega)]
  show xs[i.toNat]? = _
  rw [List.getElem?_eq_getElem hlt, List.getD_eq_getElem?_getD, List.getElem?_eq_getElem hlt]; rfl
theorem getD_mem {α : Type} {xs : List α} {i : Int} (d : α) (h0 : 0 ≤ i) (h1 : i < (xs.length : Int)) : xs.getD i.toNat d ∈ xs := by
  have hlt : i.toNat < xs.length := by omega
  rw [List.getD_eq_getElem?_getD, List.getElem?_eq_getElem hlt]
  exact List.getElem_mem hlt
theorem cutL_to {α : Type} (xs : List α) {k : Int} (h : 0 ≤ k) : cutL xs none (some k) = xs.take k.toNat := by
  unfold cutL HT.sIx
  simp only
  rw [if_neg (by omega)]
  simp only [Nat.sub_zero, List.drop_zero]
  rcases Nat.le_total k.toNat xs.length with q | q
  · rw [Nat.min_eq_left q]
  · rw [Nat.min_eq_right q, List.take_of_length_le q]; simp
theorem cutL_from {α : Type} (xs : List α) {k : Int} (h : 0 ≤ k) : cutL xs (some k) none = xs.drop k.toNat := by
  unfold cutL HT.sIx
  simp only
  rw [if_neg (by omega)]
  rcases Nat.le_total k.toNat xs.length with q | q
  · rw [Nat.min_eq_left q, List.take_of_length_le (by simp)]
  · rw [Nat.min_eq_right q]
    simp [List.drop_of_length_le q]
theorem app_assoc (a b c : Str) : (a ++ b) ++ c = a ++ (b ++ c) := by
  show (⟨(a.cps ++ b.cps) ++ c.cps⟩ : Str) = ⟨a.cps ++ (b.cps ++ c.cps)⟩
  rw [Array.append_assoc]
theorem app_len (a b : Str) : (a ++ b).length = a.length + b.length := by
  show (a.cps ++ b.cps).size = _
  rw [Array.size_append]; rfl
theorem join0 (xs : List Str) : (Txt.join Str.empty xs).cps.toList = (xs.map fun x => x.cps.toList).flatten := by
  show (Builtin.Str.glued Str.empty xs).cps.toList = _
  rw [StrLaws.glued_eq_join]
  induction xs with
  | nil => rfl
  | cons x r ih =>
    cases r with
    | nil => simp [Str.join]
    | cons y s =>
      show (x ++ Str.empty ++ Str.join Str.empty (y :: s)).cps.toList = _
      show ((x.cps ++ #[]) ++ (Str.join Str.empty (y :: s)).cps).toList = _
      simp only [Array.append_empty, Array.toList_append]
      rw [ih]; simp
theorem str_ext {a b : Str} (h : a.cps.toList = b.cps.toList) : a = b := by
  cases a; cases b
  have : _ := Array.toList_inj.mp h
  simp only at this
  rw [this]
theorem join0_app (xs ys : List Str) : Txt.join Str.empty (xs ++ ys) = Txt.join Str.empty xs ++ Txt.join Str.empty ys := by
  refine str_ext ?_
  show _ = ((Txt.join Str.empty xs).cps ++ (Txt.join Str.empty ys).cps).toList
  rw [Array.toList_append, join0, join0, join0]; simp
theorem join0_len (xs : List Str) : (Txt.join Str.empty xs).length = (xs.map (·.length)).sum := by
  show (Txt.join Str.empty xs).cps.size = _
  rw [← Array.length_toList, join0]
  induction xs with
  | nil => rfl
  | cons x r ih => simp [Str.length] at ih ⊢; omega
theorem sum_le {α : Type} (f : α → Nat) {n : Nat} : ∀ {xs : List α}, (∀ x ∈ xs, f x ≤ n) → (xs.map f).sum ≤ xs.length * n
  | [], _ => Nat.zero_le _
  | x :: r, h => by
    have h1 := h x List.mem_cons_self
    have h2 := sum_le f (xs := r) fun y m => h y (List.mem_cons_of_mem _ m)
    simp only [List.map_cons, List.sum_cons, List.length_cons, Nat.succ_mul]
    omega
theorem cpOk_app {a b : Str} (ha : cpOk a) (hb : cpOk b) : cpOk (a ++ b) := by
  unfold cpOk PyData.strOk at *
  show (a.cps ++ b.cps).all _ = true
  rw [Array.all_append, ha, hb]; rfl
theorem cpOk_iff {x : Str} : cpOk x ↔ ∀ c ∈ x.cps.toList, c < 0x110000 := by
  unfold cpOk PyData.strOk
  rw [← Array.all_toList, List.all_eq_true]
  simp
theorem cpOk_cut {x : Str} (lo hi : Option Int) (h : cpOk x) : cpOk (cutS x lo hi) := by
  rw [cpOk_iff] at h ⊢
  unfold cutS
  intro c m
  simp only at m
  exact h c (List.mem_of_mem_drop (List.mem_of_mem_take m))
theorem cpOk_rep {x : Str} (n : Int) (h : cpOk x) : cpOk (repS x n) := by
  rw [cpOk_iff] at h ⊢
  unfold repS
  intro c m
  simp only [List.mem_flatten] at m
  obtain ⟨l, hl, hc⟩ := m
  rw [List.mem_replicate] at hl
  rw [hl.2] at hc
  exact h c hc
theorem cut_len_to {x : Str} {k : Int} (h : 0 ≤ k) : (cutS x none (some k)).length = min k.toNat x.length := by
  unfold cutS HT.sIx
  simp only
  rw [if_neg (by omega)]
  show Array.size _ = _
  simp [Str.length]
theorem cut_len_le (x : Str) (lo hi : Option Int) : (cutS x lo hi).length ≤ x.length := by
  unfold cutS
  show Array.size _ ≤ _
  simp only [List.size_toArray, List.length_take, List.length_drop, Array.length_toList]
  show _ ≤ x.cps.size
  omega
theorem numS_len {n : Int} (h0 : 0 ≤ n) (h1 : n < 10 ^ 100) : (numS n).length ≤ 100 := by
  unfold numS
  rw [toDigits_str h0]
  show Array.size _ ≤ _
  simp only [List.size_toArray, List.length_map]
  exact len_toDigits (by omega)
theorem log_small {n : Int} (h : n.natAbs < 10 ^ 100) : n.natAbs.log2 < 1920 := by
  by_cases z : n.natAbs = 0
  · rw [z]; decide
  · exact (Nat.log2_lt z).mpr (Nat.lt_trans h (by decide +kernel))
theorem repS_blank (n : Int) : repS " " n = blanks n := by
  refine str_ext ?_
  unfold repS blanks
  simp only
  have e : (" " : Str).cps.toList = [32] := by decide +kernel
  rw [e]
  induction n.toNat with
  | zero => rfl
  | succ k ih => rw [List.replicate_succ, List.flatten_cons, ih, List.replicate_succ]; rfl
/-! ### callees -/
/-- a def as its callers see it -/
structure Cl (P : Program) (w : World) (K : PySem.W.Frag) (mg : Str → Option Value) (base : Heap) (CX : CXT) (x : Str) (ps : List Str) (k : Nat) (sp : Sp) where
  f : Addr
  fd : FuncData
  ok : FnOk P w K mg base CX k f fd ps sp
  hb : Binds K fd ps []
  hm : mg x = some (.ref f)
  hk : PySem.W.keepIn K (.ref f) = true
theorem Kq.to {β : Type} [Rp β] {K : PySem.W.Frag} {B : Bs} {y y' : β} {S S' : Sto} {Q : VK} (h : Kq K B y S Q) (e : y = y') (e2 : S = S') : Kq K B y' S' Q := by subst e e2; exact h
theorem Ev.st {α : Type} [Rp α] {K : PySem.W.Frag} {te : TE} {σ : St} {G : Hp} {S S1 S2 : Sto} {x y : α} (h : Ev K te σ G S x S1) (e : x = y) (e2 : S1 = S2) : Ev K te σ G S y S2 := by subst e e2; exact h
theorem EvT.st {tt : TT} {σ : St} {G : Hp} {S S1 S2 : Sto} {x y : Bool} (h : EvT tt σ G S x S1) (e : x = y) (e2 : S1 = S2) : EvT tt σ G S y S2 := by subst e e2; exact h
theorem EvN.st {α : Type} [Rp α] {K : PySem.W.Frag} {te : TE} {σ : St} {G : Hp} {S S1 S2 : Sto} {x y : List α} (h : EvN K te σ G S x S1) (e : x = y) (e2 : S1 = S2) : EvN K te σ G S y S2 := by subst e e2; exact h
section
variable {X : Cx} {B : Bs} {D : Ends} {σ : St} {G : Hp} {S S1 S2 S' : Sto} {e a b : Expr} {es : List Expr} {rest : List Stmt} {pos : Pos}
theorem b_retQ {β : Type} [Rp β] {x y : β} (kq : Kq X.K B y S' D.rt) (he : EX X e σ G S x S1) (hx : x = y) (hS : S1 = S') : At B (cB X (.Return (some e) pos :: rest) D) σ G S := by
  subst hS; exact b_retq kq he hx
theorem b_retNq (kq : Kq X.K B () S' D.rt) (hS : S = S') : At B (cB X (.Return none pos :: rest) D) σ G S := by
  subst hS; exact b_retN fun H1 s => kq .non G H1 s rfl
theorem ex_dc {τ ι β : Type} [Rp β] {pot : τ → HO} {C : τ → Hp → Prop} {A : ι → List V → Hp → Prop} {pre : τ → ι → Prop} {y : τ → ι → β} {n : τ → ι → τ} {q : Addr} (j : Nat) (t : τ) (i : ι) {x : Str} {p : Pos} {ps : List Str} {CX : CXT} {k : Nat}
    (c : Cl X.prog X.w X.K X.mg X.base CX x ps k (PmD X.K pot C A pre y n)) (hr : Room k X.A) (h : pre t i) (hj : S1[j]? = some (q, pot t)) (hC : ∀ G', Same G G' → C t G')
    (ho : EX X e σ G S (Ow.mk q) S) (ha : EA X es σ G S (A i) S1) {E : XK} (hx : Passes CX X E) (hg : Gl X x := by rfl) (hdb : (x == ("__debug__" : Str)) = false := by decide)
    (hpl : (backTo pos (starEach es X.env)).any (·.1) = false := by rfl) (he : starEach (e :: es) X.env = (false, eval e X.env) :: starEach es X.env := by rfl) : EX X (.Call (.Name x p) (e :: es) [] pos) σ G S (y t i) (S1.set j (q, pot (n t i))) :=
  ex_dr j t i c.ok c.hb hr c.hm c.hk h hj hC ho ha hx hg hdb hpl he
theorem ex_cl {β : Type} [Rp β] {y : β} {x : Str} {p : Pos} {ps : List Str} {sp : Sp} {CX : CXT} {k : Nat} {A : List V → Hp → Prop} (c : Cl X.prog X.w X.K X.mg X.base CX x ps k sp) (hr : Room k X.A) (D : Does X.K sp A S1 y S2)
    (ha : EA X (e :: es) σ G S A S1) {E : XK} (hx : Passes CX X E) (hg : Gl X x := by rfl) (hdb : (x == ("__debug__" : Str)) = false := by decide)
    (hpl : (backTo pos (starEach es X.env)).any (·.1) = false := by rfl) (he : starEach (e :: es) X.env = (false, eval e X.env) :: starEach es X.env := by rfl) : EX X (.Call (.Name x p) (e :: es) [] pos) σ G S y S2 :=
  ex_call D c.ok hr c.hm c.hk c.hb hx ha hg hdb hpl he
theorem en_cl {β : Type} [Rp β] {y : List β} {x : Str} {p : Pos} {ps : List Str} {sp : Sp} {CX : CXT} {k : Nat} {A : List V → Hp → Prop} (c : Cl X.prog X.w X.K X.mg X.base CX x ps k sp) (hr : Room k X.A) (D : DoesN X.K sp A S1 y S2)
    (ha : EA X (e :: es) σ G S A S1) {E : XK} (hx : Passes CX X E) (hg : Gl X x := by rfl) (hdb : (x == ("__debug__" : Str)) = false := by decide)
    (hpl : (backTo pos (starEach es X.env)).any (·.1) = false := by rfl) (he : starEach (e :: es) X.env = (false, eval e X.env) :: starEach es X.env := by rfl) : EN X (.Call (.Name x p) (e :: es) [] pos) σ G S y S2 :=
  en_call D c.ok hr c.hm c.hk c.hb hx ha hg hdb hpl he
theorem evt_andT {t u : TT} {y : Bool} (h : EvT t σ G S true S1) (h2 : EvT u σ G S1 y S2) : EvT (tAnd t u) σ G S y S2 := fun G1 H e hd Q q => h G1 H e hd _ fun G' H' s => h2 G' H' (e.trans s.gg) s.hold Q fun G2 H2 s2 => q G2 H2 (s.trans s2)
theorem evt_andF {t u : TT} (h : EvT t σ G S false S1) : EvT (tAnd t u) σ G S false S1 := fun G1 H e hd Q q => h G1 H e hd _ fun G' H' s => q G' H' s
theorem evt_orF {t u : TT} {y : Bool} (h : EvT t σ G S false S1) (h2 : EvT u σ G S1 y S2) : EvT (tOr t u) σ G S y S2 := fun G1 H e hd Q q => h G1 H e hd _ fun G' H' s => h2 G' H' (e.trans s.gg) s.hold Q fun G2 H2 s2 => q G2 H2 (s.trans s2)
theorem evt_orT {t u : TT} (h : EvT t σ G S true S1) : EvT (tOr t u) σ G S true S1 := fun G1 H e hd Q q => h G1 H e hd _ fun G' H' s => q G' H' s
theorem ew_andT {y : Bool} {c : Expr} {rs : List Expr} (h : ET X a σ G S true S1) (h2 : EW X (.BoolOp .And (c :: rs) pos) σ G S1 y S2) : EW X (.BoolOp .And (a :: c :: rs) pos) σ G S y S2 := EvT.toW (pw_and (pT a) (pW _)) (evt_andT h h2)
theorem ew_andF {c : Expr} {rs : List Expr} (h : ET X a σ G S false S1) : EW X (.BoolOp .And (a :: c :: rs) pos) σ G S false S1 := EvT.toW (pw_and (pT a) (pW _)) (evt_andF h)
theorem ew_orF {y : Bool} {c : Expr} {rs : List Expr} (h : ET X a σ G S false S1) (h2 : EW X (.BoolOp .Or (c :: rs) pos) σ G S1 y S2) : EW X (.BoolOp .Or (a :: c :: rs) pos) σ G S y S2 := EvT.toW (pw_or (pT a) (pW _)) (evt_orF h h2)
theorem ew_orT {c : Expr} {rs : List Expr} (h : ET X a σ G S true S1) : EW X (.BoolOp .Or (a :: c :: rs) pos) σ G S true S1 := EvT.toW (pw_or (pT a) (pW _)) (evt_orT h)
/-- xs + ys of frozen lists -/
theorem en_cat {α : Type} [Rp α] {xs ys : List α} (ha : EX X a σ G S xs S1) (hb : EX X b σ G S1 ys S2) (hl : xs.length + ys.length ≤ 100000) : EN X (.BinOp a .Add b pos) σ G S (xs ++ ys) S2 :=
  EvN.to (pe_op op_cat (pE a) (pE b)) fun G1 H e hd Q k => ha G1 H e hd _ fun v G2 H2 s2 r2 => hb G2 H2 (e.trans s2.gg) s2.hold _ fun u G3 H3 s3 r3 => by
    obtain ⟨p, vs, rfl, h1, i1⟩ := Rp.mono s3.gg r2
    obtain ⟨q, us, rfl, h2, i2⟩ := r3
    refine ⟨p, q, vs, us, rfl, rfl, s3.hold.ex _ _ h1, s3.hold.ex _ _ h2, by rw [← Pd.len i1, ← Pd.len i2]; exact Nat.le_trans hl (by decide), fun l hp => ?_⟩
    have s := s2.trans s3
    exact k l (vs ++ us) G3 _ (stp_new s hp) (s.trans (Stp.own s3.hold hp _)) (Pd.app i1 i2)
end
end Gx

-- part GLaw
set_option Elab.async false
set_option linter.all false
set_option maxRecDepth 100000
set_option maxHeartbeats 1000000
namespace Gx
open PySem PySem.Spec PyProof.Rows L2
open Rp (rp)
open Sc (toV)
/-! ### the law's own def, the end -/
def spLaw (n : Nat) (K : PySem.W.Frag) : Sp := fun vs H Q _ => ∃ (a : Addr) (ns : List Int), vs = [.ref a] ∧ SqL K H a (ns.map V.int) ∧ ns.length ≤ n ∧ ∀ H', Q (.bl true) H'
theorem hold0 (H : Hp) : Hold H [] H := ⟨fun _ _ h => h, (fun _ m => nomatch m), (fun _ m => nomatch m), List.nodup_nil⟩
theorem fn_law {n : Nat} {P : Program} {w : World} {K : PySem.W.Frag} {mg : Str → Option Value} {base : Heap} {st : Stmt} {f : Addr} {fd : FuncData} {N : List Str} {k : Nat} (F : Fun K "law" "law" st f fd) (sc : FnScope N ["script"] (defScope st))
    (h : ∀ (cdv : Value) (A' : Around) (outer : List Env) (s : Shared) (H : Hp) (Q : VK) (E : XK) (a : Addr) (ns : List Int), Room k (A'.deeper (envOfC "law" (defScope st) s.heap.objs.size f cdv)) → rp K (Scr.mk ns) (.ref a) H → ns.length ≤ n → (∀ S', Kq K ⟨H, [], H⟩ true S' Q) →
      At ⟨H, [], H⟩ (cB (cxOf CX0 P w K mg base N "law" (defScope st) f cdv A' outer s H E).nox (defBody st) { nx := fun _ H' => Q .non H', rt := Q }) (start N [.ref a]) H []) :
    FnOk P w K mg base CX0 (k + 1) f fd ["script"] (spLaw n K) :=
  F.ok sc (fun vs H Q E ⟨a, ns, e, _⟩ => by rw [e]; rfl) fun cdv A' outer s H vs Q E hr ⟨a, ns, e, hs, hl, kq⟩ => by
    subst e
    exact ⟨cB _ _, pB _, at_start (hold0 H) (h cdv A' outer s H Q E a ns hr ⟨a, rfl, hs⟩ hl fun S' v G1 H1 s1 r => by
      rw [show v = .bl true from r]; exact kq H1)⟩
theorem walk {n k : Nat} {l : PySem.W.OpenLaw} {q : Program} {loose : List Str} {XP : (Str → Option Value) → Heap → Prop} {YP : World → Heap → Prop} {d : DefRec} {K : Params → PySem.W.Frag} (hn : l.most = some n) (hn2 : n ≤ sizeLine) (hr : Room k callerA) (hdf : d.params.defaults = [])
    (hY : ∀ (w : World) (h : Heap), YP w h → (K w.params).In h)
    (F : ∀ (w : World) (mg : Str → Option Value) (fa : Addr) (h : Heap), (K w.params).In h → h.Ns mainGlobals mg → mg d.name = some (.ref fa) →
      ∃ fd : FuncData, (∀ (s : Shared) (u : Value), BindsTo s fd ⟨[u], []⟩ [("script", u)]) ∧ ∀ base : Heap, (K w.params).In base → base.Ns mainGlobals mg → FnOk l.prog w (K w.params) mg base CX0 k fa fd ["script"] (spLaw n (K w.params))) :
    PySem.W.WalkO q loose XP YP l.row.toRowW d [] (fun f vs => PySem.call f vs) :=
  L2.walk_of (n := n) (k := k) (x := "script") (CX := fun _ => CX0) (sp := fun w => spLaw n (K w.params)) hn hn2 hdf hr hY F (fun _ _ a ns hl _ hS => ⟨a, ns, rfl, hS, hl, fun _ => rfl⟩) fun _ _ _ _ _ z => z
/-- a def of the text, as its callers see it -/
def Fun.cl {P : Program} {w : World} {K : PySem.W.Frag} {mg : Str → Option Value} {base : Heap} {x qual : Str} {st : Stmt} {f : Addr} {fd : FuncData} {ps : List Str} {k : Nat} {sp : Sp} (F : Fun K x qual st f fd) (ok : FnOk P w K mg base CX0 k f fd ps sp) (hb : Binds K fd ps []) (hm : mg x = some (.ref f)) : Cl P w K mg base CX0 x ps k sp := ⟨f, fd, ok, hb, hm, F.kp⟩
end Gx

-- part K24a
set_option Elab.async false
set_option linter.all false
set_option maxRecDepth 100000
set_option maxHeartbeats 4000000
namespace K24
open PySem L2 Gx
open Rp (rp)
open Sc (toV)
abbrev St := L2.St
def top (i : Nat) : Stmt := PySem.Challenge.pw_everyparcel_k24_events_table_lines.main.body.getD i (.Pass ⟨0, 0, 0, 0⟩)
abbrev sTab : Stmt := top 1
abbrev sDraw : Stmt := top 3
abbrev sWord : Stmt := top 4
abbrev sTick : Stmt := top 5
abbrev sUnit : Stmt := top 6
abbrev sEvent : Stmt := top 7
abbrev sLine : Stmt := top 8
abbrev sLaw : Stmt := top 9
structure Txt (K : PySem.W.Frag) (mg : Str → Option Value) : Prop where
  len : mg "len" = none
  int : mg "int" = none
  str : mg "str" = none
  list : mg "list" = none
  range : mg "range" = none
  isinstance : mg "isinstance" = none
/-! ### the pot -/
structure Pt where
  sc : Addr
  ns : List Int
  p : Int
  q : Int
  r : Int
def potO (t : Pt) : HO := .lst [.ref t.sc, .int t.p, .int t.q, .int t.r]
def potC (t : Pt) : Hp → Prop := fun G => ∃ vs, G t.sc = some (.lst vs) ∧ vs = t.ns.map V.int
def M61 : Int := 2305843009213693951
def fed (t : Pt) : Pt :=
  bif decide (t.q < 2) && decide (t.p < (t.ns.length : Int)) then
    bif decide (1000000000000000000 ≤ t.ns.getD t.p.toNat 0) then ⟨t.sc, t.ns, t.p + 1, t.ns.getD t.p.toNat 0, t.r⟩
    else ⟨t.sc, t.ns, t.p + 1, t.q, (t.r * 1000003 + t.ns.getD t.p.toNat 0 * 69621 + 40503) % M61⟩
  else t
def drN (t : Pt) (m : Int) : Pt := bif decide (1 < (fed t).q) then { fed t with q := (fed t).q / m } else { fed t with r := ((fed t).r * 48271 + 12820163) % M61 }
def drV (t : Pt) (m : Int) : Int := bif decide (1 < (fed t).q) then (fed t).q % m else (((fed t).r * 48271 + 12820163) % M61 / 65537 + ((fed t).r * 48271 + 12820163) % M61 / 4294967311) % m
def Pok (t : Pt) : Prop := 0 ≤ t.p
def Mok (m : Int) : Prop := 0 < m ∧ m ≤ 1000000000000000000
theorem Mok.log {m : Int} (h : Mok m) : CDivW 0 m := by
  refine ⟨h.1, ?_⟩
  have : m.natAbs < 2 ^ 9000 := by
    have h1 : m.natAbs ≤ 1000000000000000000 := by have := h.2; have := h.1; omega
    exact Nat.lt_of_le_of_lt h1 (by decide +kernel)
  exact (Nat.log2_lt (by have := h.1; omega)).mpr this
theorem fed_ok {t : Pt} (h : Pok t) : Pok (fed t) := by
  unfold fed
  cases decide (t.q < 2) && decide (t.p < (t.ns.length : Int))
  · exact h
  · cases decide (1000000000000000000 ≤ t.ns.getD t.p.toNat 0)
    · show 0 ≤ t.p + 1
      have : 0 ≤ t.p := h
      omega
    · show 0 ≤ t.p + 1
      have : 0 ≤ t.p := h
      omega
theorem drN_ok {t : Pt} {m : Int} (h : Pok t) : Pok (drN t m) := by
  unfold drN
  cases decide (1 < (fed t).q)
  · exact fed_ok h
  · exact fed_ok h
theorem drV_lt {t : Pt} {m : Int} (h : 0 < m) : 0 ≤ drV t m ∧ drV t m < m := by
  unfold drV
  cases decide (1 < (fed t).q)
  · exact ⟨Int.emod_nonneg _ (by omega), Int.emod_lt_of_pos _ h⟩
  · exact ⟨Int.emod_nonneg _ (by omega), Int.emod_lt_of_pos _ h⟩
theorem fed_sc (t : Pt) : (fed t).sc = t.sc ∧ (fed t).ns = t.ns := by
  unfold fed
  cases decide (t.q < 2) && decide (t.p < (t.ns.length : Int))
  · exact ⟨rfl, rfl⟩
  · cases decide (1000000000000000000 ≤ t.ns.getD t.p.toNat 0) <;> exact ⟨rfl, rfl⟩
theorem drN_sc (t : Pt) (m : Int) : (drN t m).sc = t.sc ∧ (drN t m).ns = t.ns := by
  unfold drN
  cases decide (1 < (fed t).q)
  · exact fed_sc t
  · exact fed_sc t
theorem C_dr {t : Pt} {m : Int} {G : Hp} (h : potC t G) : potC (drN t m) G := by
  unfold potC
  rw [(drN_sc t m).1, (drN_sc t m).2]
  exact h
theorem C_mono {t : Pt} {G G' : Hp} (e : Same G G') (h : potC t G) : potC t G' := by
  obtain ⟨vs, h1, h2⟩ := h
  exact ⟨vs, e _ _ h1, h2⟩
abbrev spDraw (K : PySem.W.Frag) : Sp := PmD (ι := Int) K potO potC (fun m => A1 K m A0) (fun t m => Pok t ∧ Mok m) drV drN
section
variable {P : Program} {w : World} {K : PySem.W.Frag} {mg : Str → Option Value} {base : Heap}
theorem sc_draw : FnScope ["pot", "many", "cell", "digit"] ["pot", "many"] (defScope sDraw) := ⟨rfl, rfl, rfl, by decide +kernel, rfl, by decide +kernel, by decide +kernel⟩
theorem ok_draw {f : Addr} {fd : FuncData} (F : Fun K "_law_draw" "_law_draw" sDraw f fd) (T : Txt K mg) : FnOk P w K mg base CX0 1 f fd ["pot", "many"] (spDraw K) := by
  refine fn_pm F sc_draw (fun i vs G h => ?_) fun cdv A' outer s H vs Q E ⟨a, t, m⟩ G hr ⟨hp, hm⟩ h kq => ?_
  · obtain ⟨⟨_, _, e, _, _, _, e2, _, e3⟩, _⟩ := h
    subst e e2 e3; rfl
  obtain ⟨⟨_, _, e, ha, _, _, e2, hmm, e3⟩, gs, hsc, hgs⟩ := h
  subst e e2 e3 hgs
  obtain rfl : _ = V.ref a := ha
  obtain rfl : _ = V.int m := hmm
  have hd : CDivW 0 m := hm.log
  refine b_cut (fun σ G1 S1 => ∃ c d, σ = [some (.ref a), some (.int m), c, d] ∧ Same G G1 ∧ S1 = [(a, potO (fed t))]) ?_ ?_
  · refine s_if (k := decide (t.q < 2) && decide (t.p < (t.ns.length : Int))) (et_w (ew_and (et_lt (ex_cell 0 (ex_nm (x := Ow.mk a) 0 rfl) ex_int rfl rfl) ex_int) fun _ => ew_and1 (et_lt (ex_cell 0 (ex_nm (x := Ow.mk a) 0 rfl) ex_int rfl rfl) (ex_len (Ev.lv (ex_cellR (x := t.ns) 0 (ex_nm (x := Ow.mk a) 0 rfl) ex_int rfl rfl ⟨_, _, rfl, hsc, Its.ofSc _⟩)) T.len)))) (fun q => ?_) (fun q => ?_)
    · have q1 := (Bool.and_eq_true_iff.mp q).1
      have q2 := of_decide_eq_true (Bool.and_eq_true_iff.mp q).2
      refine b_setS (x := t.ns.getD t.p.toNat 0) 2 (ex_toInt (ex_ix (Ev.lv (ex_cellR (x := t.ns) 0 (ex_nm (x := Ow.mk a) 0 rfl) ex_int rfl rfl ⟨_, _, rfl, hsc, Its.ofSc _⟩)) (ex_cell (x := t.p) 0 (ex_nm (x := Ow.mk a) 0 rfl) ex_int rfl rfl) (atI_get 0 hp q2)) T.int) ?_ sc_draw.nd
      refine b_setixS (x := t.p + 1) 0 (ex_add (ex_cell (x := t.p) 0 (ex_nm (x := Ow.mk a) 0 rfl) ex_int rfl rfl) ex_int) (fun _ => ex_nm (x := Ow.mk a) 0 rfl) (fun _ => ex_int) rfl rfl ?_
      refine b_if (k := decide (10 ^ (18 : Int).toNat ≤ t.ns.getD t.p.toNat 0)) (et_ge (ex_nm 2 rfl) (ex_pow ex_int ex_int ⟨by decide, by decide, by decide⟩)) (fun z => ?_) (fun z => ?_)
      · refine b_setixS (x := t.ns.getD t.p.toNat 0) 0 (ex_nm 2 rfl) (fun _ => ex_nm (x := Ow.mk a) 0 rfl) (fun _ => ex_int) rfl rfl ?_
        refine b_nil (b_nil (at_cut ⟨_, _, rfl, Same.refl _, ?_⟩))
        unfold fed
        rw [q]
        have z' : decide (1000000000000000000 ≤ t.ns.getD t.p.toNat 0) = true := z
        rw [z']; rfl
      · refine b_setixS (x := (t.r * 1000003 + t.ns.getD t.p.toNat 0 * 69621 + 40503) % M61) 0 (ex_mod (ex_toInt (ex_add (ex_add (ex_mulS (ex_cell (x := t.r) 0 (ex_nm (x := Ow.mk a) 0 rfl) ex_int rfl rfl) ex_int (.inr (by decide))) (ex_mulS (ex_nm 2 rfl) ex_int (.inr (by decide)))) ex_int) T.int) ex_int (by decide)) (fun _ => ex_nm (x := Ow.mk a) 0 rfl) (fun _ => ex_int) rfl rfl ?_
        refine b_nil (b_nil (at_cut ⟨_, _, rfl, Same.refl _, ?_⟩))
        unfold fed
        rw [q]
        have z' : decide (1000000000000000000 ≤ t.ns.getD t.p.toNat 0) = false := z
        rw [z']; rfl
    · refine b_nil (at_cut ⟨_, _, rfl, Same.refl _, ?_⟩)
      unfold fed
      rw [q]; rfl
  · rintro σ1 G1 S1 ⟨c, d, rfl, e1, rfl⟩
    refine b_when (k := decide (1 < (fed t).q)) (et_gt (ex_cell (x := (fed t).q) 0 (ex_nm (x := Ow.mk a) 0 rfl) ex_int rfl rfl) ex_int) (fun q => ?_) (fun q => ?_)
    · refine b_setS (x := (fed t).q % m) 3 (ex_mod (ex_toInt (ex_cell (x := (fed t).q) 0 (ex_nm (x := Ow.mk a) 0 rfl) ex_int rfl rfl) T.int) (ex_nm 1 rfl) hm.1) ?_ sc_draw.nd
      refine b_setixS (x := (fed t).q / m) 0 (ex_div (ex_cell (x := (fed t).q) 0 (ex_nm (x := Ow.mk a) 0 rfl) ex_int rfl rfl) (ex_nm 1 rfl) hd) (fun _ => ex_nm (x := Ow.mk a) 0 rfl) (fun _ => ex_int) rfl rfl ?_
      have en : drN t m = { fed t with q := (fed t).q / m } := by unfold drN; rw [q]; rfl
      have ev : drV t m = (fed t).q % m := by unfold drV; rw [q]; rfl
      unfold Kq at kq
      dsimp only at kq
      rw [en, ev] at kq
      exact b_retq (y := (fed t).q % m) kq (ex_nm 3 rfl) rfl
    · refine b_setixS (x := ((fed t).r * 48271 + 12820163) % M61) 0 (ex_mod (ex_toInt (ex_add (ex_mulS (ex_cell (x := (fed t).r) 0 (ex_nm (x := Ow.mk a) 0 rfl) ex_int rfl rfl) ex_int (.inr (by decide))) ex_int) T.int) ex_int (by decide)) (fun _ => ex_nm (x := Ow.mk a) 0 rfl) (fun _ => ex_int) rfl rfl ?_
      have en : drN t m = { fed t with r := ((fed t).r * 48271 + 12820163) % M61 } := by unfold drN; rw [q]; rfl
      have ev : drV t m = (((fed t).r * 48271 + 12820163) % M61 / 65537 + ((fed t).r * 48271 + 12820163) % M61 / 4294967311) % m := by unfold drV; rw [q]; rfl
      unfold Kq at kq
      dsimp only at kq
      rw [en, ev] at kq
      exact b_retq (y := (((fed t).r * 48271 + 12820163) % M61 / 65537 + ((fed t).r * 48271 + 12820163) % M61 / 4294967311) % m) kq (ex_mod (ex_toInt (ex_add (ex_div (ex_cell (x := ((fed t).r * 48271 + 12820163) % M61) 0 (ex_nm (x := Ow.mk a) 0 rfl) ex_int rfl rfl) ex_int ⟨by decide, by decide +kernel⟩) (ex_div (ex_cell (x := ((fed t).r * 48271 + 12820163) % M61) 0 (ex_nm (x := Ow.mk a) 0 rfl) ex_int rfl rfl) ex_int ⟨by decide, by decide +kernel⟩)) T.int) (ex_nm 1 rfl) hm.1) rfl

/-! ### words, ticks, units -/
def sg : Str := "abcdefghijklmnopqrstuvwxyz0123456789"
theorem sg_len : (sg.cps.toList.length : Int) = 36 := by decide +kernel
theorem sg_ok : ∀ c ∈ sg.cps.toList, c < 0x110000 := by decide +kernel
def ch (k : Int) : Str := ⟨#[sg.cps.toList.getD k.toNat 0]⟩
theorem ch_ok {k : Int} (h : 0 ≤ k ∧ k < 36) : cpOk (ch k) := by
  rw [cpOk_iff]
  intro c m
  have m : c ∈ [sg.cps.toList.getD k.toNat 0] := m
  rw [List.mem_singleton.mp m]
  exact sg_ok _ (getD_mem 0 h.1 (by rw [sg_len]; exact h.2))
def wordN (t : Pt) (m : Int) : Pt := drN (drN (drN t 26) 36) 36
def restV (t : Pt) : Str := ch (drV (drN t 26) 36) ++ ch (drV (drN (drN t 26) 36) 36)
def wordV (t : Pt) (m : Int) : Str := ch (drV t 26) ++ cutS (repS (restV t) m) none (some (m - 1))
def wOk (z : Str) : Prop := z.length ≤ 20 ∧ cpOk z
theorem wordV_ok {t : Pt} {m : Int} (h : 1 ≤ m ∧ m ≤ 16) : wOk (wordV t m) := by
  constructor
  · unfold wordV
    rw [app_len]
    have h1 : (ch (drV t 26)).length = 1 := rfl
    have h2 := cut_len_to (x := repS (restV t) m) (k := m - 1) (by omega)
    omega
  · have d1 := drV_lt (t := t) (m := 26) (by decide)
    have d2 := drV_lt (t := drN t 26) (m := 36) (by decide)
    have d3 := drV_lt (t := drN (drN t 26) 36) (m := 36) (by decide)
    exact cpOk_app (ch_ok ⟨d1.1, by omega⟩) (cpOk_cut _ _ (cpOk_rep _ (cpOk_app (ch_ok d2) (ch_ok d3))))
abbrev spWord (K : PySem.W.Frag) : Sp := PmD (ι := Int) K potO potC (fun m => A1 K m A0) (fun t m => Pok t ∧ 1 ≤ m ∧ m ≤ 16) wordV wordN
abbrev CD (P : Program) (w : World) (K : PySem.W.Frag) (mg : Str → Option Value) (base : Heap) := Cl P w K mg base CX0 "_law_draw" ["pot", "many"] 1 (spDraw K)
theorem m_ok {m : Int} (h1 : 0 < m) (h2 : m ≤ 100000000000000000) : Mok m := ⟨h1, by omega⟩
theorem sc_word : FnScope ["pot", "many", "signs", "head", "rest"] ["pot", "many"] (defScope sWord) := ⟨rfl, rfl, rfl, by decide +kernel, rfl, by decide +kernel, by decide +kernel⟩
theorem ok_word {f : Addr} {fd : FuncData} (F : Fun K "_law_word" "_law_word" sWord f fd) (D : CD P w K mg base) : FnOk P w K mg base CX0 2 f fd ["pot", "many"] (spWord K) := by
  refine fn_pm F sc_word (fun i vs G h => ?_) fun cdv A' outer s H vs Q E ⟨a, t, m⟩ G hr ⟨hp, hm⟩ h kq => ?_
  · obtain ⟨⟨_, _, e, _, _, _, e2, _, e3⟩, _⟩ := h
    subst e e2 e3; rfl
  obtain ⟨⟨_, _, e, ha, _, _, e2, hmm, e3⟩, gs⟩ := h
  subst e e2 e3
  obtain rfl : _ = V.ref a := ha
  obtain rfl : _ = V.int m := hmm
  dsimp only at hp hm gs
  have d1 := drV_lt (t := t) (m := 26) (by decide)
  have d2 := drV_lt (t := drN t 26) (m := 36) (by decide)
  have d3 := drV_lt (t := drN (drN t 26) 36) (m := 36) (by decide)
  refine b_setS (x := sg) 2 ex_str ?_ sc_word.nd
  refine b_setS (x := ch (drV t 26)) 3 (ex_ixS (ex_nm (x := sg) 2 rfl) (ex_dc 0 t 26 D hr ⟨hp, m_ok (by decide) (by decide)⟩ rfl (fun _ e => C_mono e gs) (ex_nm (x := Ow.mk a) 0 rfl) (ea_cons ex_int ea_nil) pass0) (atI_get 0 d1.1 (by rw [sg_len]; omega)) (by decide +kernel)) ?_ sc_word.nd
  refine b_setS (x := restV t) 4 (ex_addS (ex_ixS (ex_nm (x := sg) 2 rfl) (ex_dc 0 (drN t 26) 36 D hr ⟨drN_ok hp, m_ok (by decide) (by decide)⟩ rfl (fun _ e => C_mono e (C_dr gs)) (ex_nm (x := Ow.mk a) 0 rfl) (ea_cons ex_int ea_nil) pass0) (atI_get 0 d2.1 (by rw [sg_len]; omega)) (by decide +kernel))
    (ex_ixS (ex_nm (x := sg) 2 rfl) (ex_dc 0 (drN (drN t 26) 36) 36 D hr ⟨drN_ok (drN_ok hp), m_ok (by decide) (by decide)⟩ rfl (fun _ e => C_mono e (C_dr (C_dr gs))) (ex_nm (x := Ow.mk a) 0 rfl) (ea_cons ex_int ea_nil) pass0) (atI_get 0 d3.1 (by rw [sg_len]; omega)) (by decide +kernel)) (by show 1 + 1 ≤ 1000000; decide)) ?_ sc_word.nd
  have rl : (repS (restV t) m).length ≤ 100 := by
    rw [repS_length]
    have : (restV t).length = 2 := rfl
    rw [this]; omega
  refine b_retQ kq (ex_addS (ex_nm (x := ch (drV t 26)) 3 rfl) (ex_sliceS po_none (po_some (pE _)) (ex_mulS' (ex_nm (x := restV t) 4 rfl) (ex_nm (x := m) 1 rfl) ⟨by omega, by omega⟩ (by show 2 ≤ 100; decide)) (fun _ => eo_none) (fun _ => eo_some (ex_sub (ex_nm (x := m) 1 rfl) ex_int)) (by omega)) ?_) rfl rfl
  have h1 : (ch (drV t 26)).length = 1 := rfl
  have h2 := cut_len_le (repS (restV t) m) none (some (m - 1))
  omega
def tickN (t : Pt) : Pt := let u := drN t 6; let k := drV t 6; bif decide (k = 0) then drN u 100 else bif decide (k = 1) then drN u 7 else bif decide (k = 2) then drN u 90000000 else drN u 1000001
def tickL : List Int := [0, 9, 10, 99, 100, 999999, 1000000]
def tickV (t : Pt) : Int := let u := drN t 6; let k := drV t 6; bif decide (k = 0) then drV u 100 else bif decide (k = 1) then tickL.getD (drV u 7).toNat 0 else bif decide (k = 2) then 10 ^ (7 : Int).toNat + drV u 90000000 else drV u 1000001
theorem tickV_ok {t : Pt} : 0 ≤ tickV t ∧ tickV t < 100000000 := by
  unfold tickV
  dsimp only
  have a1 := drV_lt (t := drN t 6) (m := 100) (by decide)
  have a2 := drV_lt (t := drN t 6) (m := 7) (by decide)
  have a3 := drV_lt (t := drN t 6) (m := 90000000) (by decide)
  have a4 := drV_lt (t := drN t 6) (m := 1000001) (by decide)
  have b : ∀ x ∈ tickL, 0 ≤ x ∧ x < 100000000 := by decide
  have c := b _ (getD_mem (xs := tickL) 0 a2.1 (by show _ < (7 : Int); exact a2.2))
  have e : (10 : Int) ^ (7 : Int).toNat = 10000000 := by decide
  rw [e]
  cases decide (drV t 6 = 0) <;> cases decide (drV t 6 = 1) <;> cases decide (drV t 6 = 2) <;> simp only [cond_true, cond_false] <;> omega
abbrev AU (K : PySem.W.Frag) : Unit → List V → Hp → Prop := fun _ => A0
theorem tickN_ok {t : Pt} (h : Pok t) : Pok (tickN t) := by
  unfold tickN
  dsimp only
  cases decide (drV t 6 = 0) <;> cases decide (drV t 6 = 1) <;> cases decide (drV t 6 = 2) <;> exact drN_ok (drN_ok h)
theorem tickN_C {t : Pt} {G : Hp} (h : potC t G) : potC (tickN t) G := by
  unfold tickN
  dsimp only
  cases decide (drV t 6 = 0) <;> cases decide (drV t 6 = 1) <;> cases decide (drV t 6 = 2) <;> exact C_dr (C_dr h)
abbrev spTick (K : PySem.W.Frag) : Sp := PmD (ι := Unit) K potO potC (AU K) (fun t _ => Pok t) (fun t _ => tickV t) (fun t _ => tickN t)
theorem sc_tick : FnScope ["pot", "way"] ["pot"] (defScope sTick) := ⟨rfl, rfl, rfl, by decide +kernel, rfl, by decide +kernel, by decide +kernel⟩
theorem ok_tick {f : Addr} {fd : FuncData} (F : Fun K "_law_tick" "_law_tick" sTick f fd) (D : CD P w K mg base) : FnOk P w K mg base CX0 2 f fd ["pot"] (spTick K) := by
  refine fn_pm F sc_tick (fun i vs G h => ?_) fun cdv A' outer s H vs Q E ⟨a, t, m⟩ G hr hp h kq => ?_
  · obtain ⟨⟨_, _, e, _, e2⟩, _⟩ := h
    have e2 : _ = [] := e2
    subst e e2; rfl
  obtain ⟨⟨_, _, e, ha, e2⟩, gs⟩ := h
  have e2 : _ = [] := e2
  subst e e2
  obtain rfl : _ = V.ref a := ha
  dsimp only at hp gs kq
  refine b_setS (x := drV t 6) 1 (ex_dc 0 t 6 D hr ⟨hp, m_ok (by decide) (by decide)⟩ rfl (fun _ e => C_mono e gs) (ex_nm (x := Ow.mk a) 0 rfl) (ea_cons ex_int ea_nil) pass0) ?_ sc_tick.nd
  have hp1 := drN_ok (m := 6) hp
  have gs1 := C_dr (m := 6) gs
  refine b_when (et_eq (ex_nm (x := drV t 6) 1 rfl) ex_int) (fun q0 => ?_) (fun q0 => ?_)
  · exact b_retQ kq (ex_dc 0 (drN t 6) 100 D hr ⟨hp1, m_ok (by decide) (by decide)⟩ rfl (fun _ e => C_mono e gs1) (ex_nm (x := Ow.mk a) 0 rfl) (ea_cons ex_int ea_nil) pass0) (by unfold tickV; dsimp only; rw [q0]; rfl) (by unfold tickN; dsimp only; rw [q0]; rfl)
  refine b_when (et_eq (ex_nm (x := drV t 6) 1 rfl) ex_int) (fun q1 => ?_) (fun q1 => ?_)
  · have a2 := drV_lt (t := drN t 6) (m := 7) (by decide)
    exact b_retQ kq (ex_ixF (xs := tickL) (EvN.frz (en_lst (xs := tickL) (ei_cons ex_int (ei_cons ex_int (ei_cons ex_int (ei_cons ex_int (ei_cons ex_int (ei_cons ex_int (ei_cons ex_int ei_nil))))))) (by decide)))
      (ex_dc 0 (drN t 6) 7 D hr ⟨hp1, m_ok (by decide) (by decide)⟩ rfl (fun _ e => C_mono e gs1) (ex_nm (x := Ow.mk a) 0 rfl) (ea_cons ex_int ea_nil) pass0) (atI_get 0 a2.1 (by show _ < (7 : Int); exact a2.2))) (by unfold tickV; dsimp only; rw [q0, q1]; rfl) (by unfold tickN; dsimp only; rw [q0, q1]; rfl)
  refine b_when (et_eq (ex_nm (x := drV t 6) 1 rfl) ex_int) (fun q2 => ?_) (fun q2 => ?_)
  · exact b_retQ kq (ex_add (ex_pow ex_int ex_int ⟨by decide, by decide, by decide⟩) (ex_dc 0 (drN t 6) 90000000 D hr ⟨hp1, m_ok (by decide) (by decide)⟩ rfl (fun _ e => C_mono e gs1) (ex_nm (x := Ow.mk a) 0 rfl) (ea_cons (Ev.is (ex_mulS ex_int (ex_pow ex_int ex_int ⟨by decide, by decide, by decide⟩) (.inl ⟨by decide, by decide⟩)) (by decide)) ea_nil) pass0)) (by unfold tickV; dsimp only; rw [q0, q1, q2]; rfl) (by unfold tickN; dsimp only; rw [q0, q1, q2]; rfl)
  · exact b_retQ kq (ex_dc 0 (drN t 6) 1000001 D hr ⟨hp1, m_ok (by decide) (by decide)⟩ rfl (fun _ e => C_mono e gs1) (ex_nm (x := Ow.mk a) 0 rfl) (ea_cons ex_int ea_nil) pass0) (by unfold tickV; dsimp only; rw [q0, q1, q2]; rfl) (by unfold tickN; dsimp only; rw [q0, q1, q2]; rfl)
end
end K24

-- part K24b
set_option Elab.async false
set_option linter.all false
set_option maxRecDepth 100000
set_option maxHeartbeats 4000000
namespace K24
open PySem L2 Gx
open Rp (rp)
open Sc (toV)
section
variable {P : Program} {w : World} {K : PySem.W.Frag} {mg : Str → Option Value} {base : Heap}
/-! ### units, events -/
def unL : List Int := [9, 90, 900, 99999, 999999999]
def unit1V (t : Pt) : Sum Int Str := .inl (1 + drV (drN t 5) (unL.getD (drV t 5).toNat 0))
def unit1N (t : Pt) : Pt := drN (drN t 5) (unL.getD (drV t 5).toNat 0)
def unitV (t : Pt) : Sum Int Str :=
  let u := drN t 6; let k := drV t 6
  bif decide (k < 2) then unit1V u
  else bif decide (k = 2) && decide (drV u 2 = 1) then .inl (10 ^ (12 : Int).toNat + drV (drN u 2) 9000000000000)
  else bif decide (k = 2) then .inr (wordV (drN (drN u 2) 3) (13 + drV (drN u 2) 3))
  else .inr (wordV (drN u 12) (1 + drV u 12))
def unitN (t : Pt) : Pt :=
  let u := drN t 6; let k := drV t 6
  bif decide (k < 2) then unit1N u
  else bif decide (k = 2) && decide (drV u 2 = 1) then drN (drN u 2) 9000000000000
  else bif decide (k = 2) then wordN (drN (drN u 2) 3) (13 + drV (drN u 2) 3)
  else wordN (drN u 12) (1 + drV u 12)
def uOk : Sum Int Str → Prop
  | .inl n => 0 ≤ n ∧ n < 100000000000000
  | .inr z => wOk z
theorem unL_ok {i : Int} (h : 0 ≤ i ∧ i < 5) : Mok (unL.getD i.toNat 0) ∧ unL.getD i.toNat 0 ≤ 999999999 := by
  have b : ∀ x ∈ unL, 0 < x ∧ x ≤ 999999999 := by decide
  have c := b _ (getD_mem (xs := unL) 0 h.1 (by show _ < (5 : Int); exact h.2))
  exact ⟨m_ok c.1 (by omega), c.2⟩
theorem wordN_ok {t : Pt} {m : Int} (h : Pok t) : Pok (wordN t m) := drN_ok (drN_ok (drN_ok h))
theorem wordN_C {t : Pt} {m : Int} {G : Hp} (h : potC t G) : potC (wordN t m) G := C_dr (C_dr (C_dr h))
theorem unitV_ok {t : Pt} : uOk (unitV t) := by
  unfold unitV
  dsimp only
  have a1 := drV_lt (t := drN t 6) (m := 5) (by decide)
  have a2 := unL_ok a1
  have a3 := drV_lt (t := drN (drN t 6) 5) (m := unL.getD (drV (drN t 6) 5).toNat 0) a2.1.1
  have a4 := drV_lt (t := drN (drN t 6) 2) (m := 9000000000000) (by decide)
  have a5 := drV_lt (t := drN (drN t 6) 2) (m := 3) (by decide)
  have a6 := drV_lt (t := drN t 6) (m := 12) (by decide)
  have e : (10 : Int) ^ (12 : Int).toNat = 1000000000000 := by decide
  cases decide (drV t 6 < 2)
  · cases q : decide (drV t 6 = 2) && decide (drV (drN t 6) 2 = 1)
    · cases decide (drV t 6 = 2)
      · exact wordV_ok ⟨by omega, by omega⟩
      · exact wordV_ok ⟨by omega, by omega⟩
    · show 0 ≤ _ ∧ _ < _
      rw [e]
      omega
  · show 0 ≤ _ ∧ _ < _
    omega
theorem unitN_ok {t : Pt} (h : Pok t) : Pok (unitN t) := by
  unfold unitN
  dsimp only
  cases decide (drV t 6 < 2)
  · cases q : decide (drV t 6 = 2) && decide (drV (drN t 6) 2 = 1)
    · cases decide (drV t 6 = 2)
      · exact wordN_ok (m := 1 + drV (drN t 6) 12) (drN_ok (drN_ok h))
      · exact wordN_ok (m := 13 + drV (drN (drN t 6) 2) 3) (drN_ok (drN_ok (drN_ok h)))
    · exact drN_ok (drN_ok (drN_ok h))
  · exact drN_ok (drN_ok (drN_ok h))
theorem unitN_C {t : Pt} {G : Hp} (h : potC t G) : potC (unitN t) G := by
  unfold unitN
  dsimp only
  cases decide (drV t 6 < 2)
  · cases q : decide (drV t 6 = 2) && decide (drV (drN t 6) 2 = 1)
    · cases decide (drV t 6 = 2)
      · exact wordN_C (m := 1 + drV (drN t 6) 12) (C_dr (C_dr h))
      · exact wordN_C (m := 13 + drV (drN (drN t 6) 2) 3) (C_dr (C_dr (C_dr h)))
    · exact C_dr (C_dr (C_dr h))
  · exact C_dr (C_dr (C_dr h))
abbrev spUnit (K : PySem.W.Frag) : Sp := PmD (ι := Unit) K potO potC (AU K) (fun t _ => Pok t) (fun t _ => unitV t) (fun t _ => unitN t)
abbrev CW (P : Program) (w : World) (K : PySem.W.Frag) (mg : Str → Option Value) (base : Heap) := Cl P w K mg base CX0 "_law_word" ["pot", "many"] 2 (spWord K)
theorem sc_unit : FnScope ["pot", "way"] ["pot"] (defScope sUnit) := ⟨rfl, rfl, rfl, by decide +kernel, rfl, by decide +kernel, by decide +kernel⟩
theorem ok_unit {f : Addr} {fd : FuncData} (F : Fun K "_law_unit" "_law_unit" sUnit f fd) (D : CD P w K mg base) (W : CW P w K mg base) : FnOk P w K mg base CX0 3 f fd ["pot"] (spUnit K) := by
  refine fn_pm F sc_unit (fun i vs G h => ?_) fun cdv A' outer s H vs Q E ⟨a, t, m⟩ G hr hp h kq => ?_
  · obtain ⟨⟨_, _, e, _, e2⟩, _⟩ := h
    have e2 : _ = [] := e2
    subst e e2; rfl
  obtain ⟨⟨_, _, e, ha, e2⟩, gs⟩ := h
  have e2 : _ = [] := e2
  subst e e2
  obtain rfl : _ = V.ref a := ha
  dsimp only at hp gs kq
  have hr1 := hr.mono (j := 1) (by decide)
  have hp1 := drN_ok (m := 6) hp
  have gs1 := C_dr (m := 6) gs
  refine b_setS (x := drV t 6) 1 (ex_dc 0 t 6 D hr1 ⟨hp, m_ok (by decide) (by decide)⟩ rfl (fun _ e => C_mono e gs) (ex_nm (x := Ow.mk a) 0 rfl) (ea_cons ex_int ea_nil) pass0) ?_ sc_unit.nd
  refine b_when (et_lt (ex_nm (x := drV t 6) 1 rfl) ex_int) (fun q0 => ?_) (fun q0 => ?_)
  · have a1 := drV_lt (t := drN t 6) (m := 5) (by decide)
    have a2 := unL_ok a1
    exact b_retQ kq (x := unit1V (drN t 6)) (Ev.cv (ex_add ex_int (ex_dc 0 (drN (drN t 6) 5) (unL.getD (drV (drN t 6) 5).toNat 0) D hr1 ⟨drN_ok hp1, a2.1⟩ rfl (fun _ e => C_mono e (C_dr gs1)) (ex_nm (x := Ow.mk a) 0 rfl)
      (ea_cons (ex_ixF (xs := unL) (EvN.frz (en_lst (xs := unL) (ei_cons ex_int (ei_cons ex_int (ei_cons ex_int (ei_cons ex_int (ei_cons ex_int ei_nil))))) (by decide))) (ex_dc 0 (drN t 6) 5 D hr1 ⟨hp1, m_ok (by decide) (by decide)⟩ rfl (fun _ e => C_mono e gs1) (ex_nm (x := Ow.mk a) 0 rfl) (ea_cons ex_int ea_nil) pass0) (atI_get 0 a1.1 (by show _ < (5 : Int); exact a1.2))) ea_nil) pass0)) fun v G' _ r => r) (by unfold unitV; dsimp only; rw [q0]; rfl) (by unfold unitN; dsimp only; rw [q0]; rfl)
  by_cases k2 : drV t 6 = 2
  · have q2 : decide (drV t 6 = 2) = true := decide_eq_true k2
    refine b_when (k := decide (drV (drN t 6) 2 = 1)) (et_w (ew_andT (EvT.is (et_eq (ex_nm (x := drV t 6) 1 rfl) ex_int) q2) (ew_and1 (et_eq (ex_dc 0 (drN t 6) 2 D hr1 ⟨hp1, m_ok (by decide) (by decide)⟩ rfl (fun _ e => C_mono e gs1) (ex_nm (x := Ow.mk a) 0 rfl) (ea_cons ex_int ea_nil) pass0) ex_int)))) (fun q => ?_) (fun q => ?_)
    · exact b_retQ kq (x := Sum.inl (10 ^ (12 : Int).toNat + drV (drN (drN t 6) 2) 9000000000000)) (Ev.cv (ex_add (ex_pow ex_int ex_int ⟨by decide, by decide, by decide⟩) (ex_dc 0 (drN (drN t 6) 2) 9000000000000 D hr1 ⟨drN_ok hp1, m_ok (by decide) (by decide)⟩ rfl (fun _ e => C_mono e (C_dr gs1)) (ex_nm (x := Ow.mk a) 0 rfl) (ea_cons (Ev.is (ex_mulS ex_int (ex_pow ex_int ex_int ⟨by decide, by decide, by decide⟩) (.inl ⟨by decide, by decide⟩)) (by decide)) ea_nil) pass0)) fun v G' _ r => r)
        (by unfold unitV; dsimp only; rw [q0, q2, q]; rfl) (by unfold unitN; dsimp only; rw [q0, q2, q]; rfl)
    · have a5 := drV_lt (t := drN (drN t 6) 2) (m := 3) (by decide)
      refine b_when (EvT.is (et_eq (ex_nm (x := drV t 6) 1 rfl) ex_int) q2) (fun _ => ?_) (fun z => by cases z)
      exact b_retQ kq (x := Sum.inr (wordV (drN (drN (drN t 6) 2) 3) (13 + drV (drN (drN t 6) 2) 3))) (Ev.cv (ex_dc 0 (drN (drN (drN t 6) 2) 3) (13 + drV (drN (drN t 6) 2) 3) W hr ⟨drN_ok (drN_ok hp1), by omega, by omega⟩ rfl (fun _ e => C_mono e (C_dr (C_dr gs1))) (ex_nm (x := Ow.mk a) 0 rfl)
        (ea_cons (ex_add ex_int (ex_dc 0 (drN (drN t 6) 2) 3 D hr1 ⟨drN_ok hp1, m_ok (by decide) (by decide)⟩ rfl (fun _ e => C_mono e (C_dr gs1)) (ex_nm (x := Ow.mk a) 0 rfl) (ea_cons ex_int ea_nil) pass0)) ea_nil) pass0) fun v G' _ r => r)
        (by unfold unitV; dsimp only; rw [q0, q2, q]; rfl) (by unfold unitN; dsimp only; rw [q0, q2, q]; rfl)
  · have q2 : decide (drV t 6 = 2) = false := decide_eq_false k2
    have a6 := drV_lt (t := drN t 6) (m := 12) (by decide)
    refine b_when (et_w (ew_andF (EvT.is (et_eq (ex_nm (x := drV t 6) 1 rfl) ex_int) q2))) (fun z => by cases z) (fun _ => ?_)
    refine b_when (EvT.is (et_eq (ex_nm (x := drV t 6) 1 rfl) ex_int) q2) (fun z => by cases z) (fun _ => ?_)
    exact b_retQ kq (x := Sum.inr (wordV (drN (drN t 6) 12) (1 + drV (drN t 6) 12))) (Ev.cv (ex_dc 0 (drN (drN t 6) 12) (1 + drV (drN t 6) 12) W hr ⟨drN_ok hp1, by omega, by omega⟩ rfl (fun _ e => C_mono e (C_dr gs1)) (ex_nm (x := Ow.mk a) 0 rfl)
      (ea_cons (ex_add ex_int (ex_dc 0 (drN t 6) 12 D hr1 ⟨hp1, m_ok (by decide) (by decide)⟩ rfl (fun _ e => C_mono e gs1) (ex_nm (x := Ow.mk a) 0 rfl) (ea_cons ex_int ea_nil) pass0)) ea_nil) pass0) fun v G' _ r => r)
      (by unfold unitV; dsimp only; rw [q0, q2]; rfl) (by unfold unitN; dsimp only; rw [q0, q2]; rfl)
abbrev Evt := P4 Int Str (Sum Int Str) Str
def kindL : List Str := ["taken", "packed", "loaded", "mislaid", "landed", "found", "emptied", "cleared", "out"]
def kindV (t : Pt) : Str := (kindL ++ [("claimed" : Str)]).getD (drV t 10).toNat Str.empty
def ev1 (t : Pt) : Pt := drN t 10
def ev2 (t : Pt) : Pt := tickN (ev1 t)
def ev3 (t : Pt) : Pt := unitN (ev2 t)
def evtV (t : Pt) : Evt := ⟨tickV (ev1 t), kindV t, unitV (ev2 t), wordV (drN (ev3 t) 15) (1 + drV (ev3 t) 15)⟩
def evtN (t : Pt) : Pt := wordN (drN (ev3 t) 15) (1 + drV (ev3 t) 15)
def eOk (e : Evt) : Prop := (0 ≤ e.f0 ∧ e.f0 < 100000000) ∧ wOk e.f1 ∧ uOk e.f2 ∧ wOk e.f3
instance (z : Str) : Decidable (wOk z) := by unfold wOk cpOk; infer_instance
theorem kindV_ok {t : Pt} : wOk (kindV t) := by
  have a := drV_lt (t := t) (m := 10) (by decide)
  have b : ∀ x ∈ kindL ++ [("claimed" : Str)], wOk x := by decide +kernel
  exact b _ (getD_mem Str.empty a.1 (by show _ < (10 : Int); exact a.2))
theorem evtV_ok {t : Pt} : eOk (evtV t) := by
  have a := drV_lt (t := ev3 t) (m := 15) (by decide)
  exact ⟨tickV_ok, kindV_ok, unitV_ok, wordV_ok ⟨by omega, by omega⟩⟩
theorem evtN_ok {t : Pt} (h : Pok t) : Pok (evtN t) := wordN_ok (drN_ok (unitN_ok (tickN_ok (drN_ok h))))
theorem evtN_C {t : Pt} {G : Hp} (h : potC t G) : potC (evtN t) G := wordN_C (C_dr (unitN_C (tickN_C (C_dr h))))
abbrev spEvent (K : PySem.W.Frag) : Sp := PmD (ι := Unit) K potO potC (AU K) (fun t _ => Pok t) (fun t _ => evtV t) (fun t _ => evtN t)
abbrev CT (P : Program) (w : World) (K : PySem.W.Frag) (mg : Str → Option Value) (base : Heap) := Cl P w K mg base CX0 "_law_tick" ["pot"] 2 (spTick K)
abbrev CU (P : Program) (w : World) (K : PySem.W.Frag) (mg : Str → Option Value) (base : Heap) := Cl P w K mg base CX0 "_law_unit" ["pot"] 3 (spUnit K)
theorem sc_event : FnScope ["pot", "kinds", "kind"] ["pot"] (defScope sEvent) := ⟨rfl, rfl, rfl, by decide +kernel, rfl, by decide +kernel, by decide +kernel⟩
theorem ok_event {f : Addr} {fd : FuncData} (F : Fun K "_law_event" "_law_event" sEvent f fd) (D : CD P w K mg base) (W : CW P w K mg base) (T : CT P w K mg base) (U : CU P w K mg base) : FnOk P w K mg base CX0 4 f fd ["pot"] (spEvent K) := by
  refine fn_pm F sc_event (fun i vs G h => ?_) fun cdv A' outer s H vs Q E ⟨a, t, m⟩ G hr hp h kq => ?_
  · obtain ⟨⟨_, _, e, _, e2⟩, _⟩ := h
    have e2 : _ = [] := e2
    subst e e2; rfl
  obtain ⟨⟨_, _, e, ha, e2⟩, gs⟩ := h
  have e2 : _ = [] := e2
  subst e e2
  obtain rfl : _ = V.ref a := ha
  dsimp only at hp gs kq
  have hr1 := hr.mono (j := 1) (by decide)
  have hr2 := hr.mono (j := 2) (by decide)
  refine b_set (x := kindL) 1 (EvN.frz (en_lst (xs := kindL) (ei_cons ex_str (ei_cons ex_str (ei_cons ex_str (ei_cons ex_str (ei_cons ex_str (ei_cons ex_str (ei_cons ex_str (ei_cons ex_str (ei_cons ex_str ei_nil))))))))) (by decide))) (fun v G1 e1 hv => ?_) sc_event.nd
  have gs1 := C_mono e1 gs
  have a0 := drV_lt (t := t) (m := 10) (by decide)
  refine b_setS (x := kindV t) 2 (ex_ixF (xs := kindL ++ [("claimed" : Str)]) (EvN.frz (en_cat (ex_var (x := kindL) 1 rfl hv) (EvN.frz (en_lst (xs := [("claimed" : Str)]) (ei_cons ex_str ei_nil) (by decide))) (by decide)))
    (ex_dc 0 t 10 D hr1 ⟨hp, m_ok (by decide) (by decide)⟩ rfl (fun _ e => C_mono e gs1) (ex_nm (x := Ow.mk a) 0 rfl) (ea_cons ex_int ea_nil) pass0) (atI_get Str.empty a0.1 (by show _ < (10 : Int); exact a0.2))) ?_ sc_event.nd
  have hp1 := drN_ok (m := 10) hp
  have gs2 := C_dr (m := 10) gs1
  have hp2 := tickN_ok hp1
  have gs3 := tickN_C gs2
  have hp3 := unitN_ok hp2
  have gs4 := unitN_C gs3
  have a3 := drV_lt (t := ev3 t) (m := 15) (by decide)
  exact b_retQ kq (ex_t4 (ea_cons (ex_dc 0 (ev1 t) () T hr2 hp1 rfl (fun _ e => C_mono e gs2) (ex_nm (x := Ow.mk a) 0 rfl) ea_nil pass0) (ea_cons (ex_nm (x := kindV t) 2 rfl) (ea_cons (ex_dc 0 (ev2 t) () U hr hp2 rfl (fun _ e => C_mono e gs3) (ex_nm (x := Ow.mk a) 0 rfl) ea_nil pass0)
    (ea_cons (ex_dc 0 (drN (ev3 t) 15) (1 + drV (ev3 t) 15) W hr2 ⟨drN_ok hp3, by omega, by omega⟩ rfl (fun _ e => C_mono e (C_dr gs4)) (ex_nm (x := Ow.mk a) 0 rfl)
      (ea_cons (ex_add ex_int (ex_dc 0 (ev3 t) 15 D hr1 ⟨hp3, m_ok (by decide) (by decide)⟩ rfl (fun _ e => C_mono e gs4) (ex_nm (x := Ow.mk a) 0 rfl) (ea_cons ex_int ea_nil) pass0)) ea_nil) pass0) ea_nil))))) rfl rfl
end
end K24

-- part K24c
set_option Elab.async false
set_option linter.all false
set_option maxRecDepth 100000
set_option maxHeartbeats 4000000
namespace K24
open PySem L2 Gx
open Rp (rp)
open Sc (toV)
section
variable {P : Program} {w : World} {K : PySem.W.Frag} {mg : Str → Option Value} {base : Heap}
/-! ### lines -/
theorem numS_len' {n : Int} (h : 0 ≤ n ∧ n < 100000000000000) : (numS n).length ≤ 100 := numS_len h.1 (Int.lt_trans h.2 (by decide +kernel))
theorem log' {n : Int} (h : 0 ≤ n ∧ n < 100000000000000) : n.natAbs.log2 < 1920 := log_small (by
  have : (100000000000000 : Nat) < 10 ^ 100 := by decide +kernel
  omega)
theorem strU_len {u : Sum Int Str} (h : uOk u) : (strU u).length ≤ 100 := by
  cases u with
  | inl n => exact numS_len' h
  | inr z => exact Nat.le_trans h.1 (by decide)
def lineH (e : Evt) : Str := repS " " (7 - ((numS e.f0).length : Int)) ++ numS e.f0 ++ " " ++ e.f1 ++ repS " " (8 - (e.f1.length : Int)) ++ " "
def lineV (e : Evt) : Str := lineH e ++ repS " " (12 - ((strU e.f2).length : Int)) ++ strU e.f2 ++ " " ++ e.f3 ++ "\n"
def rowV (e : Evt) : Str := Str.empty ++ padL 7 (numS e.f0) ++ " " ++ padR 8 e.f1 ++ " " ++ padL 12 (strU e.f2) ++ " " ++ e.f3 ++ "\n"
theorem sp_len : (" " : Str).length = 1 := by decide +kernel
theorem nl_len : ("\n" : Str).length = 1 := by decide +kernel
theorem em_len : Str.empty.length = 0 := rfl
theorem lineH_len {e : Evt} (h : eOk e) : (lineH e).length ≤ 400 := by
  have h0 := numS_len' (n := e.f0) ⟨h.1.1, by have := h.1.2; omega⟩
  have h1 := h.2.1.1
  unfold lineH
  simp only [app_len, repS_length, sp_len]
  omega
theorem lineV_len {e : Evt} (h : eOk e) : (lineV e).length ≤ 800 := by
  have h0 := lineH_len h
  have h1 := strU_len h.2.2.1
  have h2 := h.2.2.2.1
  unfold lineV
  simp only [app_len, repS_length, sp_len, nl_len]
  omega
theorem row_line (e : Evt) : rowV e = lineV e := by
  unfold rowV lineV lineH padL padR
  simp only [repS_blank, app_assoc]
  rw [show Str.empty = (⟨#[]⟩ : Str) from rfl, nil_app]; rfl
abbrev spLine (K : PySem.W.Frag) : Sp := Pm K (fun (e : Evt) => A1 K e A0) (fun _ => []) eOk lineV (fun _ => [])
theorem sc_line : FnScope ["event", "tick", "unit", "line"] ["event"] (defScope sLine) := ⟨rfl, rfl, rfl, by decide +kernel, rfl, by decide +kernel, by decide +kernel⟩
theorem ok_line {f : Addr} {fd : FuncData} (F : Fun K "_law_line" "_law_line" sLine f fd) (T : Txt K mg) : FnOk P w K mg base CX0 1 f fd ["event"] (spLine K) := by
  refine fn_pm F sc_line (fun i vs G h => ?_) fun cdv A' outer s H vs Q E ev G hr hp h kq => ?_
  · obtain ⟨_, _, e, _, e2⟩ := h
    have e2 : _ = [] := e2
    subst e e2; rfl
  obtain ⟨v, _, e, hev, e2⟩ := h
  have e2 : _ = [] := e2
  subst e e2
  have h0 := numS_len' (n := ev.f0) ⟨hp.1.1, by have := hp.1.2; omega⟩
  have h1 := hp.2.1.1
  have h2 := strU_len hp.2.2.1
  have h3 := hp.2.2.2.1
  refine b_setS (x := numS ev.f0) 1 (ex_strI (x4_0 (ex_var (x := ev) 0 rfl hev) ex_int) (log' ⟨hp.1.1, by have := hp.1.2; omega⟩) T.str) ?_ sc_line.nd
  refine b_setS (x := strU ev.f2) 2 (ex_strU (x4_2 (ex_var (x := ev) 0 rfl hev) ex_int) (fun n e => log' (by have z := hp.2.2.1; rw [e] at z; exact z)) T.str) ?_ sc_line.nd
  refine b_setS (x := lineH ev) 3 (ex_addS (ex_addS (ex_addS (ex_addS (ex_addS (ex_mulS' ex_str (ex_sub ex_int (ex_lenS (ex_nm (x := numS ev.f0) 1 rfl) T.len (by omega))) (by omega) (by decide +kernel)) (ex_nm (x := numS ev.f0) 1 rfl) ?_) ex_str ?_) (x4_1 (ex_var (x := ev) 0 rfl hev) ex_int) ?_)
    (ex_mulS' ex_str (ex_sub ex_int (ex_lenS (x4_1 (ex_var (x := ev) 0 rfl hev) ex_int) T.len (by omega))) (by omega) (by decide +kernel)) ?_) ex_str ?_) ?_ sc_line.nd
  · simp only [app_len, repS_length, sp_len]; omega
  · simp only [app_len, repS_length, sp_len]; omega
  · simp only [app_len, repS_length, sp_len]; omega
  · simp only [app_len, repS_length, sp_len]; omega
  · simp only [app_len, repS_length, sp_len]; omega
  have h4 := lineH_len hp
  refine b_retQ kq (ex_addS (ex_addS (ex_addS (ex_addS (ex_addS (ex_nm (x := lineH ev) 3 rfl) (ex_mulS' ex_str (ex_sub ex_int (ex_lenS (ex_nm (x := strU ev.f2) 2 rfl) T.len (by omega))) (by omega) (by decide +kernel)) ?_) (ex_nm (x := strU ev.f2) 2 rfl) ?_) ex_str ?_) (x4_3 (ex_var (x := ev) 0 rfl hev) ex_int) ?_) ex_str ?_) rfl rfl
  · simp only [app_len, repS_length, sp_len]; omega
  · simp only [app_len, repS_length, sp_len]; omega
  · simp only [app_len, repS_length, sp_len]; omega
  · simp only [app_len, repS_length, sp_len]; omega
  · simp only [app_len, repS_length, sp_len, nl_len]; omega
/-! ### the table -/
def tabV (es : List Evt) : Str := Txt.join Str.empty (es.map rowV)
def esOk (es : List Evt) : Prop := es.length ≤ 100 ∧ ∀ e ∈ es, eOk e
abbrev spTab (K : PySem.W.Frag) : Sp := Pm K (fun (es : List Evt) => A1 K es A0) (fun _ => []) esOk tabV (fun _ => [])
theorem rows_len {es : List Evt} (h : ∀ e ∈ es, eOk e) : ((es.map rowV).map (·.length)).sum ≤ es.length * 800 := by
  rw [List.map_map]
  exact sum_le _ fun x m => by
    show (rowV x).length ≤ 800
    rw [row_line]
    exact lineV_len (h x m)
theorem sc_tab : FnScope ["events", "lines", "tick", "kind", "unit", "where", "name"] ["events"] (defScope sTab) := ⟨rfl, rfl, rfl, by decide +kernel, rfl, by decide +kernel, by decide +kernel⟩
theorem em_eq : (("" : String) : Str) = Str.empty := by decide +kernel
theorem ok_tab {f : Addr} {fd : FuncData} (F : Fun K "events_table" "events_table" sTab f fd) (T : Txt K mg) : FnOk P w K mg base CX0 1 f fd ["events"] (spTab K) := by
  refine fn_pm F sc_tab (fun i vs G h => ?_) fun cdv A' outer s H vs Q E es G hr hp h kq => ?_
  · obtain ⟨_, _, e, _, e2⟩ := h
    have e2 : _ = [] := e2
    subst e e2; rfl
  obtain ⟨v, _, e, hes, e2⟩ := h
  have e2 : _ = [] := e2
  subst e e2
  refine b_setN (xs := ([] : List Str)) 1 (en_lst (xs := ([] : List Str)) ei_nil (by decide)) (fun l vs G1 e1 hvs hl => ?_) sc_tab.nd
  have hvs0 : vs = [] := by cases hvs; rfl
  subst hvs0
  have hes1 := Rp.mono e1 hes
  refine b_for (xs := es) (fun r σ G2 S2 => ∃ (done : List Evt) (a b c d n : Option V), es = done ++ r ∧ σ = [some v, some (.ref l), a, b, c, d, n] ∧ S2 = [(l, .lst ((done.map rowV).map toV))])
    (ei_list (Ev.fz (ex_var (x := es) 0 rfl hes1))) (tg_4 (i := 2) (j := 3) (l := 4) (m := 5)) (fun G2 e2 => ⟨[], _, _, _, _, _, rfl, rfl, rfl⟩) ?_ ?_ (pi_list (pE _)) (pg_tup rfl (pgs_cons (pg_name (i := 2) sc_tab.nd rfl (Or.inl rfl)) (pgs_cons (pg_name (i := 3) sc_tab.nd rfl (Or.inl rfl)) (pgs_cons (pg_name (i := 4) sc_tab.nd rfl (Or.inl rfl)) (pgs_cons (pg_name (i := 5) sc_tab.nd rfl (Or.inl rfl)) pgs_nil))))) PassesOwn.never
  · rintro x r vs σ' G2 G' S' ea eb sf ⟨done, a, b, c, d, n, he, rfl, rfl⟩ ⟨v0, v1, v2, v3, rfl, r0, r1, r2, r3⟩
    have hx : eOk x := hp.2 x (sf.subset List.mem_cons_self)
    obtain rfl : v0 = V.int x.f0 := r0
    obtain rfl : v1 = V.str x.f1 := r1
    obtain rfl : v2 = toV x.f2 := r2
    obtain rfl : v3 = V.str x.f3 := r3
    have h0 := numS_len' (n := x.f0) ⟨hx.1.1, by have := hx.1.2; omega⟩
    have h1 := hx.2.1.1
    have h2 := strU_len hx.2.2.1
    have h3 := hx.2.2.2.1
    have bl : ∀ n : Int, n ≤ 100 → (blanks n).length ≤ 100 := fun n h => by
      rw [← repS_blank, repS_length, sp_len]; omega
    have hrow : (rowV x).length ≤ 800 := by rw [row_line]; exact lineV_len hx
    refine b_setS (x := strU x.f2) 6 (ex_strU (ex_nm (x := x.f2) 4 rfl) (fun n e => log' (by have z := hx.2.2.1; rw [e] at z; exact z)) T.str) ?_ sc_tab.nd
    refine b_app (x := rowV x) 0 (ex_nm (x := Ow.mk l) 1 rfl) (ex_fstr (ej_cons (ex_fmtI (n := 7) (ex_nm (x := x.f0) 2 rfl) ⟨hx.1.1, ?_⟩ (pe_fmtI 7 (pE _) (by rfl) (by decide +kernel) (by decide +kernel) (by decide +kernel) (by decide +kernel) (by decide))) (ej_cons ex_str (ej_cons (ex_fmtS (y := padR 8) (ex_nm (x := x.f1) 3 rfl) ?_ (pe_fmtS 8 (padR 8) (pE _) (f := specR 8) (by intro _; rfl) (.inr ⟨rfl, rfl⟩) (by decide +kernel) (by decide +kernel) (by decide +kernel) (by decide +kernel) (by decide)))
      (ej_cons ex_str (ej_cons (ex_fmtS (y := padL 12) (ex_nm (x := strU x.f2) 6 rfl) ?_ (pe_fmtS 12 (padL 12) (pE _) (f := specL 12) (by intro _; rfl) (.inl ⟨rfl, rfl⟩) (by decide +kernel) (by decide +kernel) (by decide +kernel) (by decide +kernel) (by decide))) (ej_cons ex_str (ej_cons (ex_fmt (ex_nm (x := x.f3) 5 rfl) ?_) (ej_cons ex_str ej_nil ?_) ?_) ?_) ?_) ?_) ?_) ?_) ?_)) rfl (List.mem_singleton.mpr rfl) ?_ (fun u G3 e3 hu => ?_)
    all_goals first | exact b_nil (at_nx (eb.trans e3) ⟨done ++ [x], _, _, _, _, _, by rw [he]; simp, rfl, by rw [show u = V.str (rowV x) from hu]; simp; rfl⟩) | skip
    · have z : 0 ≤ x.f0 ∧ x.f0 < 100000000 := hx.1
      exact Nat.lt_trans (m := 100000000) (by omega) (by decide +kernel)
    all_goals try simp only [app_len, em_len, sp_len, nl_len, padL, padR]
    all_goals have b7 := bl ((7 : Nat) - ((numS x.f0).length : Int)) (by omega)
    all_goals have b8 := bl ((8 : Nat) - ((x.f1).length : Int)) (by omega)
    all_goals have b12 := bl ((12 : Nat) - ((strU x.f2).length : Int)) (by omega)
    all_goals first | omega | skip
    all_goals rw [List.length_map, List.length_map]
    all_goals have hn := hp.1
    all_goals rw [he] at hn
    all_goals rw [List.length_append] at hn
    all_goals omega
  · rintro σ' G' S' ea ⟨done, a, b, c, d, n, he, rfl, rfl⟩
    have he : es = done := by simpa using he
    subst he
    have rl := rows_len hp.2
    have hn := hp.1
    refine at_freeze 0 rfl hl (fun e3 => ?_)
    refine b_retQ kq (Ev.is (ex_join (x := (("" : String) : Str)) (ys := es.map rowV) ex_str (Ev.lv (ex_var 1 rfl (rp_frozen (Its.ofSc _) e3))) ?_) (by rw [em_eq]; rfl)) rfl rfl
    rw [em_eq, em_len, List.length_map]; omega
end
end K24

-- part K24d
set_option Elab.async false
set_option linter.all false
set_option maxRecDepth 100000
set_option maxHeartbeats 4000000
namespace K24
open PySem L2 Gx
open Rp (rp)
open Sc (toV)
section
variable {P : Program} {w : World} {K : PySem.W.Frag} {mg : Str → Option Value} {base : Heap}
/-! ### the law -/
abbrev CE (P : Program) (w : World) (K : PySem.W.Frag) (mg : Str → Option Value) (base : Heap) := Cl P w K mg base CX0 "_law_event" ["pot"] 4 (spEvent K)
abbrev CL (P : Program) (w : World) (K : PySem.W.Frag) (mg : Str → Option Value) (base : Heap) := Cl P w K mg base CX0 "_law_line" ["event"] 1 (spLine K)
abbrev CB (P : Program) (w : World) (K : PySem.W.Frag) (mg : Str → Option Value) (base : Heap) := Cl P w K mg base CX0 "events_table" ["events"] 1 (spTab K)
theorem dtOk {e : Evt} (h : eOk e) : Dt.ok e := ⟨trivial, h.2.1.2, (fun z q => by
  have := h.2.2.1
  rw [q] at this; exact this.2), h.2.2.2.2⟩
def eq1 : Evt := ⟨5, "loaded", .inl 3, "t1"⟩
theorem eq1_ok : eOk eq1 := ⟨⟨by decide, by decide⟩, by decide +kernel, ⟨by decide, by decide⟩, by decide +kernel⟩
def Pin (t u : Pt) : Prop := u.sc = t.sc ∧ u.ns = t.ns
theorem Pin.dr {t u : Pt} {m : Int} (h : Pin t u) : Pin t (drN u m) := ⟨(drN_sc u m).1.trans h.1, (drN_sc u m).2.trans h.2⟩
theorem Pin.word {t u : Pt} {m : Int} (h : Pin t u) : Pin t (wordN u m) := h.dr.dr.dr
theorem Pin.tick {t u : Pt} (h : Pin t u) : Pin t (tickN u) := by
  unfold tickN
  dsimp only
  cases decide (drV u 6 = 0) <;> cases decide (drV u 6 = 1) <;> cases decide (drV u 6 = 2) <;> exact h.dr.dr
theorem Pin.unit {t u : Pt} (h : Pin t u) : Pin t (unitN u) := by
  unfold unitN
  dsimp only
  cases decide (drV u 6 < 2)
  · cases q : decide (drV u 6 = 2) && decide (drV (drN u 6) 2 = 1)
    · cases decide (drV u 6 = 2)
      · exact Pin.word (m := 1 + drV (drN u 6) 12) h.dr.dr
      · exact Pin.word (m := 13 + drV (drN (drN u 6) 2) 3) h.dr.dr.dr
    · exact h.dr.dr.dr
  · exact h.dr.dr.dr
theorem evtN_sc (t : Pt) : Pin t (evtN t) := Pin.word (m := 1 + drV (ev3 t) 15) (Pin.dr (Pin.unit (Pin.tick (Pin.dr ⟨rfl, rfl⟩))))
theorem lines_map (es : List Evt) : es.map lineV = es.map rowV := List.map_congr_left fun x _ => (row_line x).symm
abbrev NL : List Str := ["script", "pot", "count", "k", "events", "event", "wanted", "handed", "told", "cut", "head", "rest"]
theorem sc_law : FnScope NL ["script"] (defScope sLaw) := ⟨rfl, rfl, rfl, by decide +kernel, rfl, by decide +kernel, by decide +kernel⟩
theorem does_tab {K : PySem.W.Frag} {es : List Evt} {S : Sto} (h : esOk es) : Does K (spTab K) (A1 K es A0) S (tabV es) S := (Pm.does es h).frame0
theorem does_line {K : PySem.W.Frag} {e : Evt} {S : Sto} (h : eOk e) : Does K (spLine K) (A1 K e A0) S (lineV e) S := (Pm.does e h).frame0
theorem ok_law {f : Addr} {fd : FuncData} (F : Fun K "law" "law" sLaw f fd) (T : Txt K mg) (D : CD P w K mg base) (CEv : CE P w K mg base) (CLn : CL P w K mg base) (CTb : CB P w K mg base) : FnOk P w K mg base CX0 5 f fd ["script"] (spLaw 63 K) := by
  refine fn_law F sc_law fun cdv A' outer s H Q E a ns hr hs hl kq => ?_
  have hr1 := hr.mono (j := 1) (by decide)
  refine b_setA 1 (ea_cons (EvN.frz (en_list (Ev.scr (ex_var 0 rfl hs)) T.list)) (ea_cons ex_int (ea_cons ex_int (ea_cons ex_int ea_nil)))) (fun vs G h => ?_) (fun p vs G1 e1 h hpB => ?_) sc_law.nd
  · obtain ⟨_, _, q1, _, _, _, q2, _, _, _, q3, _, _, _, q4, _, q5⟩ := h
    have q5 : _ = [] := q5
    subst q1 q2 q3 q4 q5; show 4 ≤ 1000; decide
  obtain ⟨v0, _, q1, hsc, v1, _, q2, z1, v2, _, q3, z2, v3, _, q4, z3, q5⟩ := h
  have q5 : _ = [] := q5
  subst q1 q2 q3 q4 q5
  obtain rfl : v1 = V.int 0 := z1
  obtain rfl : v2 = V.int 0 := z2
  obtain rfl : v3 = V.int 0 := z3
  obtain ⟨sc, us, rfl, hsc, hi⟩ := hsc
  have hus := Its.sc hi
  obtain ⟨t0, ht0⟩ : ∃ t0 : Pt, t0 = ⟨sc, ns, 0, 0, 0⟩ := ⟨_, rfl⟩
  have hp0 : Pok t0 := by rw [ht0]; exact Int.le_refl 0
  have gs0 : potC t0 G1 := by rw [ht0]; exact ⟨us, hsc, hus⟩
  have hS : ([(p, HO.lst [V.ref sc, .int 0, .int 0, .int 0])] : Sto) = [(p, potO t0)] := by rw [ht0]; rfl
  rw [hS]
  clear hS ht0 hus hi hsc
  have d1 := drV_lt (t := t0) (m := 7) (by decide)
  refine b_setS (x := drV t0 7) 2 (ex_dc 0 t0 7 D hr1 ⟨hp0, m_ok (by decide) (by decide)⟩ rfl (fun _ e => C_mono e gs0) (ex_nm (x := Ow.mk p) 1 rfl) (ea_cons ex_int ea_nil) pass0) ?_ sc_law.nd
  have hp1 := drN_ok (m := 7) hp0
  have gs1 := C_dr (m := 7) gs0
  refine b_cut (fun σ G2 S2 => ∃ (t : Pt) (c : Int), σ = [some (.ref a), some (.ref p), some (.int c), none, none, none, none, none, none, none, none, none] ∧ S2 = [(p, potO t)] ∧ Pok t ∧ potC t G2 ∧ 0 ≤ c ∧ c ≤ 60) ?_ ?_
  · refine s_if (et_eq (ex_dc 0 (drN t0 7) 8 D hr1 ⟨hp1, m_ok (by decide) (by decide)⟩ rfl (fun _ e => C_mono e gs1) (ex_nm (x := Ow.mk p) 1 rfl) (ea_cons ex_int ea_nil) pass0) ex_int) (fun q => ?_) (fun q => ?_)
    · have d2 := drV_lt (t := drN (drN t0 7) 8) (m := 61) (by decide)
      refine b_setS (x := drV (drN (drN t0 7) 8) 61) 2 (ex_dc 0 (drN (drN t0 7) 8) 61 D hr1 ⟨drN_ok hp1, m_ok (by decide) (by decide)⟩ rfl (fun _ e => C_mono e (C_dr gs1)) (ex_nm (x := Ow.mk p) 1 rfl) (ea_cons ex_int ea_nil) pass0) ?_ sc_law.nd
      exact b_nil (at_cut ⟨drN (drN (drN t0 7) 8) 61, _, rfl, rfl, drN_ok (drN_ok hp1), C_dr (C_dr gs1), d2.1, by omega⟩)
    · exact b_nil (at_cut ⟨drN (drN t0 7) 8, _, rfl, rfl, drN_ok hp1, C_dr gs1, d1.1, by omega⟩)
  rintro σ1 G2 S2 ⟨t, c, rfl, rfl, hp, gs, c0, c1⟩
  clear hp0 gs0 d1 hp1 gs1 t0
  have hn : (rgU c).length ≤ 100 := by unfold rgU; rw [List.length_map, List.length_range]; omega
  refine b_setLc (ys := (mapS (fun t _ => evtV t) (fun t _ => evtN t) t (rgU c)).1) (own := [("k", 3)]) (g := gName 3) 4 sc_law.nd (pi_range1 (by rfl) T.range (pa_cons (pE _) pa_nil)) (blkOk_by (N := NL) (sc := defScope sLaw) (by decide +kernel)) (fun _ _ _ _ _ => pg_name (i := 3) sc_law.nd rfl (Or.inl rfl))
    (evn_mapS (fun u => Pok u ∧ u.sc = t.sc ∧ u.ns = t.ns) (fun t _ => evtV t) (fun t _ => evtN t) (fun u => [(p, potO u)]) t ⟨hp, rfl, rfl⟩ (ei_range1 (ex_nm (x := c) 2 rfl) ⟨by omega, by omega⟩) tg_nm (by omega) ?_ ?_) (fun q vs G3 e3 hvs hqB => ?_) (sw_true rfl rfl rfl (by decide +kernel))
  · rintro u x vs' G4 ⟨hu, hu1, hu2⟩ _ e4 ⟨v4, rfl, _⟩
    have hσ : (U1 3 [v4] (wipe [some (V.ref a), some (.ref p), some (.int c), none, none, none, none, none, none, none, none, none] [3]))[1]? = some (some (toV (Ow.mk p))) := rfl
    have gu : potC u G4 := by
      obtain ⟨us, h1, h2⟩ := C_mono e4 gs
      exact ⟨us, by rw [hu1]; exact h1, by rw [hu2]; exact h2⟩
    refine ⟨⟨evtN_ok hu, (evtN_sc u).1.trans hu1, (evtN_sc u).2.trans hu2⟩, evB fun s H0 C cl fp => ?_⟩
    dsimp only
    exact Ev.st (ex_dc 0 u () CEv hr hu rfl (fun _ e => C_mono e gu) (ex_nm (x := Ow.mk p) 1 hσ) ea_nil pass0) rfl rfl
  · rintro x vs' G4 ⟨v, rfl, r⟩
    rfl
  obtain ⟨hall, hpt, hlen⟩ := mapS_all (f := fun t (_ : Int) => evtV t) (n := fun t _ => evtN t) (P := fun u => Pok u ∧ u.sc = t.sc ∧ u.ns = t.ns) (R := eOk) (rgU c) t ⟨hp, rfl, rfl⟩ fun u x _ ⟨hu, hu1, hu2⟩ => ⟨evtV_ok, evtN_ok hu, (evtN_sc u).1.trans hu1, (evtN_sc u).2.trans hu2⟩
  revert hall hpt hlen hvs
  generalize (mapS (fun t (_ : Int) => evtV t) (fun t _ => evtN t) t (rgU c)).1 = es0
  generalize (mapS (fun t (_ : Int) => evtV t) (fun t _ => evtN t) t (rgU c)).2 = t1
  intro hvs hall ⟨hp1, hpt1, hpt2⟩ hlen
  have gs1 : potC t1 G3 := by
    obtain ⟨us, h1, h2⟩ := C_mono e3 gs
    exact ⟨us, by rw [hpt1]; exact h1, by rw [hpt2]; exact h2⟩
  have hc : (es0.length : Int) = c := by
    rw [hlen]
    unfold rgU
    rw [List.length_map, List.length_range]; omega
  clear hp gs hlen hn
  refine b_cut (fun σ G2 S2 => ∃ (u : Pt) (es : List Evt) (us : List V), σ = [some (.ref a), some (.ref p), some (.int c), none, some (.ref q), none, none, none, none, none, none, none] ∧ S2 = [(q, .lst us), (p, potO u)] ∧ Pok u ∧ potC u G2 ∧ Its K es us G2 ∧ esOk es) ?_ ?_
  · by_cases k0 : 0 < c
    · refine s_if (et_w (ew_andT (EvT.is (et_gt (ex_nm (x := c) 2 rfl) ex_int) (decide_eq_true k0)) (ew_and1 (et_eq (ex_dc 1 t1 3 D hr1 ⟨hp1, m_ok (by decide) (by decide)⟩ rfl (fun _ e => C_mono e gs1) (ex_nm (x := Ow.mk p) 1 rfl) (ea_cons ex_int ea_nil) pass0) ex_int)))) (fun _ => ?_) (fun _ => ?_)
      · have d2 := drV_lt (t := drN t1 3) (m := c) k0
        refine b_app (x := es0.getD (drV (drN t1 3) c).toNat eq1) 0 (ex_nm (x := Ow.mk q) 4 rfl) (ex_ixO (vs := vs) (ex_nm (x := Ow.mk q) 4 rfl) (ex_dc 1 (drN t1 3) c D hr1 ⟨drN_ok hp1, m_ok k0 (by omega)⟩ rfl (fun _ e => C_mono e (C_dr gs1)) (ex_nm (x := Ow.mk p) 1 rfl) (ea_cons (ex_nm (x := c) 2 rfl) ea_nil) pass0) List.mem_cons_self hvs (atI_get eq1 d2.1 (by omega))) rfl (List.mem_cons_self) ?_ (fun v G4 e4 hv => ?_)
        · rw [← Pd.len hvs]; omega
        · refine b_nil (at_cut ⟨drN (drN t1 3) c, es0 ++ [es0.getD (drV (drN t1 3) c).toNat eq1], _, rfl, rfl, drN_ok (drN_ok hp1), C_mono e4 (C_dr (C_dr gs1)), Pd.app (hvs.mono e4) (.cons hv .nil), by rw [List.length_append, List.length_singleton]; omega, fun x m => ?_⟩)
          rcases List.mem_append.mp m with m | m
          · exact hall x m
          · rw [List.mem_singleton.mp m]
            exact hall _ (getD_mem eq1 d2.1 (by omega))
      · exact b_nil (at_cut ⟨drN t1 3, es0, _, rfl, rfl, drN_ok hp1, C_dr gs1, hvs, by omega, hall⟩)
    · refine s_if (et_w (ew_andF (EvT.is (et_gt (ex_nm (x := c) 2 rfl) ex_int) (decide_eq_false k0)))) (fun z => by cases z) (fun _ => ?_)
      exact b_nil (at_cut ⟨t1, es0, _, rfl, rfl, hp1, gs1, hvs, by omega, hall⟩)
  rintro σ2 G5 S5 ⟨u, es, us, rfl, rfl, hpu, gsu, hes, hok⟩
  clear hall hp1 gs1 hpt1 hpt2 hvs
  refine at_freeze 0 rfl hqB (fun e6 => ?_)
  have hv := rp_frozen hes e6
  have gs6 := C_mono e6 gsu
  have hln := hok.1
  have hw : ((es.map lineV).map (·.length)).sum ≤ es.length * 800 := by rw [lines_map]; exact rows_len hok.2
  refine b_setS (x := tabV es) 6 (Ev.is (ex_join (x := (("" : String) : Str)) (ys := es.map lineV) ex_str (EvN.lv (en_lc (own := [("event", 5)]) (g := gName 5) sc_law.nd (pi_list (pE _)) (blkOk_by (N := NL) (sc := defScope sLaw) (by decide +kernel)) (fun _ _ _ _ _ => pg_name (i := 5) sc_law.nd rfl (Or.inl rfl))
    (evn_map lineV (ei_list (Ev.fz (ex_var (x := es) 4 rfl hv))) tg_nm (by omega) (fun x vs' G7 m e7 ⟨v, e8, r⟩ => ?_) (fun x vs' G7 ⟨v, e8, r⟩ => ?_)))) ?_) ?_) ?_ sc_law.nd
  · subst e8
    exact evB fun s H0 C cl fp => ex_cl CLn hr1 (does_line (hok.2 x m)) (ea_cons (ex_var (x := x) 5 rfl r) ea_nil) pass0
  · subst e8; rfl
  · rw [em_eq, em_len, List.length_map]; omega
  · rw [em_eq, lines_map]; rfl
  refine b_set (x := es) 7 (EvN.frz (en_list (Ev.lv (ex_var (x := es) 4 rfl hv)) T.list)) (fun v7 G7 e7 hv7 => ?_) sc_law.nd
  have hv8 := Rp.mono e7 hv
  have gs8 := C_mono e7 gs6
  refine b_setS (x := tabV es) 8 (ex_cl CTb hr1 (does_tab hok) (ea_cons (ex_var (x := es) 7 rfl hv7) ea_nil) pass0) ?_ sc_law.nd
  have hde : Dt.ok es := fun x m => dtOk (hok.2 x m)
  refine b_when (k := false) (EvT.is (et_w (ew_or (et_not (et_val (ex_isi (x := tabV es) (b := true) (T := "str") (T' := "str") (ex_nm (x := tabV es) 8 rfl) rfl T.str (by decide +kernel) T.isinstance))) fun _ => ew_or (et_ne (ex_nm (x := tabV es) 8 rfl) (ex_nm (x := tabV es) 6 rfl)) fun _ => ew_or1 (et_neD hr.eqU (Ev.dt (ex_var (x := es) 7 rfl hv7)) (Ev.dt (ex_var (x := es) 4 rfl hv8)) hde hde))) (by simp)) (fun z => by cases z) (fun _ => ?_)
  have d5 := drV_lt (t := u) (m := (es.length : Int) + 1) (by omega)
  refine b_setS (x := drV u ((es.length : Int) + 1)) 9 (ex_dc 0 u ((es.length : Int) + 1) D hr1 ⟨hpu, m_ok (by omega) (by omega)⟩ rfl (fun _ e => C_mono e gs8) (ex_nm (x := Ow.mk p) 1 rfl) (ea_cons (ex_add (ex_len (Ev.lv (ex_var (x := es) 4 rfl hv8)) T.len) ex_int) ea_nil) pass0) ?_ sc_law.nd
  have hok1 : esOk (cutL es none (some (drV u ((es.length : Int) + 1)))) := by
    rw [cutL_to _ d5.1]
    exact ⟨by rw [List.length_take]; omega, fun x m => hok.2 x (List.mem_of_mem_take m)⟩
  have hok2 : esOk (cutL es (some (drV u ((es.length : Int) + 1))) none) := by
    rw [cutL_from _ d5.1]
    exact ⟨by rw [List.length_drop]; omega, fun x m => hok.2 x (List.mem_of_mem_drop m)⟩
  refine b_setS (x := tabV (cutL es none (some (drV u ((es.length : Int) + 1))))) 10 (ex_cl CTb hr1 (does_tab hok1) (ea_cons (EvN.frz (en_slice po_none (po_some (pE _)) (Ev.lv (ex_var (x := es) 4 rfl hv8)) (fun _ => eo_none) (fun _ => eo_some (ex_nm (x := drV u ((es.length : Int) + 1)) 9 rfl)))) ea_nil) pass0) ?_ sc_law.nd
  refine b_setS (x := tabV (cutL es (some (drV u ((es.length : Int) + 1))) none)) 11 (ex_cl CTb hr1 (does_tab hok2) (ea_cons (EvN.frz (en_slice (po_some (pE _)) po_none (Ev.lv (ex_var (x := es) 4 rfl hv8)) (fun _ => eo_some (ex_nm (x := drV u ((es.length : Int) + 1)) 9 rfl)) (fun _ => eo_none))) ea_nil) pass0) ?_ sc_law.nd
  have hsum : tabV (cutL es none (some (drV u ((es.length : Int) + 1)))) ++ tabV (cutL es (some (drV u ((es.length : Int) + 1))) none) = tabV es := by
    rw [cutL_to _ d5.1, cutL_from _ d5.1]
    unfold tabV
    rw [← join0_app, ← List.map_append, List.take_append_drop]
  have tl : ∀ xs, esOk xs → (tabV xs).length ≤ 80000 := fun xs h => by
    unfold tabV
    rw [join0_len]
    have := rows_len h.2
    have := h.1
    omega
  have tl1 := tl _ hok1
  have tl2 := tl _ hok2
  refine b_when (k := false) (EvT.is (et_w (ew_or (et_not (et_val (ex_isi (x := tabV (cutL es none (some (drV u ((es.length : Int) + 1))))) (b := true) (T := "str") (T' := "str") (ex_nm 10 rfl) rfl T.str (by decide +kernel) T.isinstance))) fun _ => ew_or (et_not (et_val (ex_isi (x := tabV (cutL es (some (drV u ((es.length : Int) + 1))) none)) (b := true) (T := "str") (T' := "str") (ex_nm 11 rfl) rfl T.str (by decide +kernel) T.isinstance))) fun _ => ew_or1 (et_ne (ex_addS (ex_nm (x := tabV (cutL es none (some (drV u ((es.length : Int) + 1))))) 10 rfl) (ex_nm (x := tabV (cutL es (some (drV u ((es.length : Int) + 1))) none)) 11 rfl) (by omega)) (ex_nm (x := tabV es) 6 rfl)))) (by rw [hsum]; simp)) (fun z => by cases z) (fun _ => ?_)
  have hok3 : esOk [eq1] := ⟨by decide, fun x m => by rw [List.mem_singleton.mp m]; exact eq1_ok⟩
  have h5 : tabV [eq1] = repS " " 6 ++ "5 loaded  " ++ repS " " 12 ++ "3 t1\n" := by decide +kernel
  refine b_when (k := false) (EvT.is (et_ne (ex_cl CTb hr1 (does_tab hok3) (ea_cons (EvN.frz (en_lst (xs := [eq1]) (ei_cons (ex_t4 (ea_cons ex_int (ea_cons ex_str (ea_cons (Ev.cv (x := (3 : Int)) ex_int fun v G' _ r => r) (ea_cons ex_str ea_nil))))) ei_nil) (by decide))) ea_nil) pass0)
    (ex_addS (ex_addS (ex_addS (ex_mulS' ex_str ex_int (by decide) (by decide +kernel)) ex_str (by decide +kernel)) (ex_mulS' ex_str ex_int (by decide) (by decide +kernel)) (by decide +kernel)) ex_str (by decide +kernel))) (by rw [h5]; simp)) (fun z => by cases z) (fun _ => ?_)
  have hok0 : esOk [] := ⟨by decide, fun x m => by cases m⟩
  have h0 : tabV [] = (("" : String) : Str) := by decide +kernel
  exact b_retq (y := true) (kq _) (ex_and (ex_eq (ex_cl CTb hr1 (does_tab hok0) (ea_cons (EvN.frz (en_lst (xs := ([] : List Evt)) ei_nil (by decide))) ea_nil) pass0) ex_str) fun _ => ex_one (ex_eq (ex_cl CTb hr1 (does_tab hok) (ea_cons (EvN.frz (en_list (Ev.lv (ex_var (x := es) 4 rfl hv8)) T.list)) ea_nil) pass0) (ex_nm (x := tabV es) 6 rfl))) (by rw [h0]; simp)
end
end K24

-- part K24e
set_option Elab.async false
set_option linter.all false
set_option maxRecDepth 100000
set_option maxHeartbeats 4000000
namespace K24
open PySem L2 Gx
/-! ### what the top has written -/
theorem all_mk {l : PySem.W.OpenLaw} {w : World} {K : PySem.W.Frag} {h : Heap} {mg : Str → Option Value} {fa f1 f2 f3 f4 f5 f6 f7 f8 : Addr} (X : K.In h) (G : h.Ns mainGlobals mg) (hfa : mg "law" = some (.ref fa))
    {od1 an1 od2 an2 od3 an3 od4 an4 od5 an5 od6 an6 od7 an7 od8 an8 : Option Addr} {sl1 sl2 sl3 sl4 sl5 sl6 sl7 sl8 : Array (Option Value)} {oc1 kV1 dc1 pm1 cd1 ct1 oc2 kV2 dc2 pm2 cd2 ct2 oc3 kV3 dc3 pm3 cd3 ct3 oc4 kV4 dc4 pm4 cd4 ct4 oc5 kV5 dc5 pm5 cd5 ct5 oc6 kV6 dc6 pm6 cd6 ct6 oc7 kV7 dc7 pm7 cd7 ct7 oc8 kV8 dc8 pm8 cd8 ct8 : Value}
    (a1 : PySem.W.nsIn K mainGlobals "events_table" = some (some (.ref f1))) (l1 : K.lookup f1 = some ⟨oc1, od1, .func (PySem.W.fnOf "events_table" "events_table" (defArgs sTab) (defBody sTab) (defScope sTab) .none kV1 dc1 pm1 an1 cd1 ct1), sl1⟩) (c1 : PySem.W.codeIn K cd1 "events_table" = true) (k1 : PySem.W.keepIn K (.ref f1) = true)
    (a2 : PySem.W.nsIn K mainGlobals "_law_draw" = some (some (.ref f2))) (l2 : K.lookup f2 = some ⟨oc2, od2, .func (PySem.W.fnOf "_law_draw" "_law_draw" (defArgs sDraw) (defBody sDraw) (defScope sDraw) .none kV2 dc2 pm2 an2 cd2 ct2), sl2⟩) (c2 : PySem.W.codeIn K cd2 "_law_draw" = true) (k2 : PySem.W.keepIn K (.ref f2) = true)
    (a3 : PySem.W.nsIn K mainGlobals "_law_word" = some (some (.ref f3))) (l3 : K.lookup f3 = some ⟨oc3, od3, .func (PySem.W.fnOf "_law_word" "_law_word" (defArgs sWord) (defBody sWord) (defScope sWord) .none kV3 dc3 pm3 an3 cd3 ct3), sl3⟩) (c3 : PySem.W.codeIn K cd3 "_law_word" = true) (k3 : PySem.W.keepIn K (.ref f3) = true)
    (a4 : PySem.W.nsIn K mainGlobals "_law_tick" = some (some (.ref f4))) (l4 : K.lookup f4 = some ⟨oc4, od4, .func (PySem.W.fnOf "_law_tick" "_law_tick" (defArgs sTick) (defBody sTick) (defScope sTick) .none kV4 dc4 pm4 an4 cd4 ct4), sl4⟩) (c4 : PySem.W.codeIn K cd4 "_law_tick" = true) (k4 : PySem.W.keepIn K (.ref f4) = true)
    (a5 : PySem.W.nsIn K mainGlobals "_law_unit" = some (some (.ref f5))) (l5 : K.lookup f5 = some ⟨oc5, od5, .func (PySem.W.fnOf "_law_unit" "_law_unit" (defArgs sUnit) (defBody sUnit) (defScope sUnit) .none kV5 dc5 pm5 an5 cd5 ct5), sl5⟩) (c5 : PySem.W.codeIn K cd5 "_law_unit" = true) (k5 : PySem.W.keepIn K (.ref f5) = true)
    (a6 : PySem.W.nsIn K mainGlobals "_law_event" = some (some (.ref f6))) (l6 : K.lookup f6 = some ⟨oc6, od6, .func (PySem.W.fnOf "_law_event" "_law_event" (defArgs sEvent) (defBody sEvent) (defScope sEvent) .none kV6 dc6 pm6 an6 cd6 ct6), sl6⟩) (c6 : PySem.W.codeIn K cd6 "_law_event" = true) (k6 : PySem.W.keepIn K (.ref f6) = true)
    (a7 : PySem.W.nsIn K mainGlobals "_law_line" = some (some (.ref f7))) (l7 : K.lookup f7 = some ⟨oc7, od7, .func (PySem.W.fnOf "_law_line" "_law_line" (defArgs sLine) (defBody sLine) (defScope sLine) .none kV7 dc7 pm7 an7 cd7 ct7), sl7⟩) (c7 : PySem.W.codeIn K cd7 "_law_line" = true) (k7 : PySem.W.keepIn K (.ref f7) = true)
    (a8 : PySem.W.nsIn K mainGlobals "law" = some (some (.ref f8))) (l8 : K.lookup f8 = some ⟨oc8, od8, .func (PySem.W.fnOf "law" "law" (defArgs sLaw) (defBody sLaw) (defScope sLaw) .none kV8 dc8 pm8 an8 cd8 ct8), sl8⟩) (c8 : PySem.W.codeIn K cd8 "law" = true) (k8 : PySem.W.keepIn K (.ref f8) = true)
    (z_len : PySem.W.nsIn K mainGlobals "len" = some none)
    (z_int : PySem.W.nsIn K mainGlobals "int" = some none)
    (z_str : PySem.W.nsIn K mainGlobals "str" = some none)
    (z_list : PySem.W.nsIn K mainGlobals "list" = some none)
    (z_range : PySem.W.nsIn K mainGlobals "range" = some none)
    (z_isinstance : PySem.W.nsIn K mainGlobals "isinstance" = some none)
    :
    ∃ fd : FuncData, (∀ (s : Shared) (v : Value), BindsTo s fd ⟨[v], []⟩ [("script", v)]) ∧ ∀ base : Heap, K.In base → base.Ns mainGlobals mg → FnOk l.prog w K mg base CX0 5 fa fd ["script"] (spLaw 63 K) := by
  have e := hfa.symm.trans (PySem.W.mg_of X G a8)
  cases e
  have T : Txt K mg := ⟨PySem.W.mg_none_of X G z_len, PySem.W.mg_none_of X G z_int, PySem.W.mg_none_of X G z_str, PySem.W.mg_none_of X G z_list, PySem.W.mg_none_of X G z_range, PySem.W.mg_none_of X G z_isinstance⟩
  have F1 := fun_mk (st := sTab) l1 c1 k1
  have b1 := F1.binds (ps := ["events"]) fun _ _ _ _ _ _ us hl => match us, hl with | [_], _ => rfl
  have F2 := fun_mk (st := sDraw) l2 c2 k2
  have b2 := F2.binds (ps := ["pot", "many"]) fun _ _ _ _ _ _ us hl => match us, hl with | [_, _], _ => rfl
  have F3 := fun_mk (st := sWord) l3 c3 k3
  have b3 := F3.binds (ps := ["pot", "many"]) fun _ _ _ _ _ _ us hl => match us, hl with | [_, _], _ => rfl
  have F4 := fun_mk (st := sTick) l4 c4 k4
  have b4 := F4.binds (ps := ["pot"]) fun _ _ _ _ _ _ us hl => match us, hl with | [_], _ => rfl
  have F5 := fun_mk (st := sUnit) l5 c5 k5
  have b5 := F5.binds (ps := ["pot"]) fun _ _ _ _ _ _ us hl => match us, hl with | [_], _ => rfl
  have F6 := fun_mk (st := sEvent) l6 c6 k6
  have b6 := F6.binds (ps := ["pot"]) fun _ _ _ _ _ _ us hl => match us, hl with | [_], _ => rfl
  have F7 := fun_mk (st := sLine) l7 c7 k7
  have b7 := F7.binds (ps := ["event"]) fun _ _ _ _ _ _ us hl => match us, hl with | [_], _ => rfl
  have F8 := fun_mk (st := sLaw) l8 c8 k8
  refine ⟨PySem.W.fnOf "law" "law" (defArgs sLaw) (defBody sLaw) (defScope sLaw) .none kV8 dc8 pm8 an8 cd8 ct8, fun s v => .of_eq rfl, fun base _ _ => ?_⟩
  have d1 : Cl l.prog w K mg base CX0 "events_table" ["events"] 1 (spTab K) := Fun.cl F1 (ok_tab F1 T) b1 (PySem.W.mg_of X G a1)
  have d2 : Cl l.prog w K mg base CX0 "_law_draw" ["pot", "many"] 1 (spDraw K) := Fun.cl F2 (ok_draw F2 T) b2 (PySem.W.mg_of X G a2)
  have d3 : Cl l.prog w K mg base CX0 "_law_word" ["pot", "many"] 2 (spWord K) := Fun.cl F3 (ok_word F3 d2) b3 (PySem.W.mg_of X G a3)
  have d4 : Cl l.prog w K mg base CX0 "_law_tick" ["pot"] 2 (spTick K) := Fun.cl F4 (ok_tick F4 d2) b4 (PySem.W.mg_of X G a4)
  have d5 : Cl l.prog w K mg base CX0 "_law_unit" ["pot"] 3 (spUnit K) := Fun.cl F5 (ok_unit F5 d2 d3) b5 (PySem.W.mg_of X G a5)
  have d6 : Cl l.prog w K mg base CX0 "_law_event" ["pot"] 4 (spEvent K) := Fun.cl F6 (ok_event F6 d2 d3 d4 d5) b6 (PySem.W.mg_of X G a6)
  have d7 : Cl l.prog w K mg base CX0 "_law_line" ["event"] 1 (spLine K) := Fun.cl F7 (ok_line F7 T) b7 (PySem.W.mg_of X G a7)
  exact ok_law F8 T d2 d6 d7 d1
end K24

open PySem PySem.W PyProof.Rows in
set_option maxRecDepth 100000 in
set_option maxHeartbeats 0 in
theorem PySem.Challenge.cw_everyparcel_k24_events_table_lines_holds : PySem.Challenge.rw_everyparcel_k24_events_table_lines.Holds := by
  w_on; o_law; k_head; (case hw => w_witness2)
  k_fill
  refine Gx.walk (n := 63) (k := 5) (l := PySem.Challenge.rw_everyparcel_k24_events_table_lines) rfl (by decide) ⟨rfl, by decide, by decide⟩ rfl (fun w h Y => PySem.W.kIn_of Y) ?F
  case F =>
    intro w mg fa h KX G hmg
    refine' K24.all_mk KX G hmg ?a1 ?l1 ?c1 ?k1 ?a2 ?l2 ?c2 ?k2 ?a3 ?l3 ?c3 ?k3 ?a4 ?l4 ?c4 ?k4 ?a5 ?l5 ?c5 ?k5 ?a6 ?l6 ?c6 ?k6 ?a7 ?l7 ?c7 ?k7 ?a8 ?l8 ?c8 ?k8 ?z_len ?z_int ?z_str ?z_list ?z_range ?z_isinstance
    (case a1 => k_is)
    (case l1 => k_is)
    (case c1 => k_is)
    (case k1 => k_is)
    (case a2 => k_is)
    (case l2 => k_is)
    (case c2 => k_is)
    (case k2 => k_is)
    (case a3 => k_is)
    (case l3 => k_is)
    (case c3 => k_is)
    (case k3 => k_is)
    (case a4 => k_is)
    (case l4 => k_is)
    (case c4 => k_is)
    (case k4 => k_is)
    (case a5 => k_is)
    (case l5 => k_is)
    (case c5 => k_is)
    (case k5 => k_is)
    (case a6 => k_is)
    (case l6 => k_is)
    (case c6 => k_is)
    (case k6 => k_is)
    (case a7 => k_is)
    (case l7 => k_is)
    (case c7 => k_is)
    (case k7 => k_is)
    (case a8 => k_is)
    (case l8 => k_is)
    (case c8 => k_is)
    (case k8 => k_is)
    (case z_len => k_is)
    (case z_int => k_is)
    (case z_str => k_is)
    (case z_list => k_is)
    (case z_range => k_is)
    (case z_isinstance => k_is)
#print axioms PySem.Challenge.cw_everyparcel_k24_events_table_lines_holds
