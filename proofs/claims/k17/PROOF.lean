import PyProof.Rows.All
import Wide.All
import OpenK.AllK
import Wide.FinOn
import HandS.ForMost
import HandS.Nested
import HandS.Wide
import HandS.ForExc
import HandS.ExcIs
import KE.KExcSuper
import KE.KxField
import HandS.FStr
import HandS.IsInst
import HandS.RaiseMore
import KE.SortData
import KE.SortKeyHeap
import HandS.SortKw
import HandS.Keys
import HandS.Conv
import KE.KExcIs
import HandS.EndTab
import KE.KNestM
import PySem.Challenge.RW_everyparcel_k17_share_out_by_remainders
-- part GBase
set_option Elab.async false
set_option linter.all false
set_option maxRecDepth 100000
set_option maxHeartbeats 1000000
/-! My layer over HandS: what an expression of the text evaluates to, as plain data, over a frozen heap G and owned cells S. -/
namespace Gx
abbrev St := L2.St
open PySem PySem.Spec PyProof.Rows L2

abbrev Sto := List (Addr × HO)
abbrev dom (S : Sto) : List Addr := S.map (·.1)

/-- the code objects' tables of the text's defs that make lambdas or defs: address and names by place -/
class Tb where
  T : List NdefX.NTab
/-- no table, no code object -/
def NotC : HO → Prop
  | .tbl _ => False
  | .ext φ => ∀ c q, HO.ext φ ≠ LamX.CodeO c q
  | _ => True
variable [Tb]
/-- the heap H holds the frozen part G and, apart from it, the owned cells S -/
structure Hold (G : Hp) (S : Sto) (H : Hp) : Prop where
  ex : Same G H
  own : ∀ p ∈ S, H p.1 = some p.2
  sep : ∀ a ∈ dom S, G a = none
  nd : (dom S).Nodup
  nc : ∀ p ∈ S, NotC p.2
  tb : NdefX.TabsN Tb.T H
  tg : ∀ p ∈ Tb.T, G p.1 = none
theorem Hold.tabNe {G : Hp} {S : Sto} {H : Hp} (h : Hold G S H) {p : NdefX.NTab} (hp : p ∈ Tb.T) : p.1 ∉ dom S := fun m => by
  obtain ⟨q, hq, e⟩ := List.mem_map.mp m
  obtain ⟨ps, h1, _⟩ := h.tb p hp
  have e2 := h.own q hq
  have e' : q.1 = p.1 := e
  rw [e', h1] at e2
  have n := h.nc q hq
  rw [← Option.some.inj e2] at n
  exact n
/-- the tables live on where all but owned cells stays -/
theorem Hold.tabs {G : Hp} {S : Sto} {H H' : Hp} (h : Hold G S H) (e : ∀ b o, b ∉ dom S → H b = some o → H' b = some o) : NdefX.TabsN Tb.T H' := fun p hp => by
  obtain ⟨ps, h1, h2, h3⟩ := h.tb p hp
  refine ⟨ps, e _ _ (h.tabNe hp) h1, h2, fun pos cv hc => ?_⟩
  obtain ⟨c, e1, e2⟩ := h3 pos cv hc
  refine ⟨c, e1, e _ _ (fun m => ?_) e2⟩
  obtain ⟨q, hq, eq⟩ := List.mem_map.mp m
  have e3 := h.own q hq
  have eq' : q.1 = c := eq
  rw [eq', e2] at e3
  have n := h.nc q hq
  rw [← Option.some.inj e3] at n
  exact n c _ rfl

structure Stp (G : Hp) (S : Sto) (H : Hp) (G' : Hp) (S' : Sto) (H' : Hp) : Prop where
  hold : Hold G' S' H'
  gg : Same G G'
  fr : ∀ b o, b ∉ dom S → H b = some o → (∀ ps, o ≠ .tbl ps) → H' b = some o
  new : ∀ b o, G b = none → H b = some o → G' b = none
  dm : ∀ b ∈ dom S', b ∈ dom S ∨ H b = none
  th : ∀ b o, H b = some o → ∃ o', H' b = some o'

theorem Stp.refl {G : Hp} {S : Sto} {H : Hp} (h : Hold G S H) : Stp G S H G S H :=
  ⟨h, Same.refl G, fun _ _ _ e _ => e, fun _ _ e _ => e, fun _ h => .inl h, fun _ o e => ⟨o, e⟩⟩
theorem Stp.trans {G G1 G2 : Hp} {S S1 S2 : Sto} {H H1 H2 : Hp} (a : Stp G S H G1 S1 H1) (b : Stp G1 S1 H1 G2 S2 H2) : Stp G S H G2 S2 H2 where
  hold := b.hold
  gg := a.gg.trans b.gg
  fr := fun c o hc e nt => by
    refine b.fr c o (fun m => ?_) (a.fr c o hc e nt) nt
    rcases a.dm c m with q | q
    · exact hc q
    · rw [e] at q; cases q
  new := fun c o g e => by
    obtain ⟨o', e'⟩ := a.th c o e
    exact b.new c o' (a.new c o g e) e'
  dm := fun c m => by
    rcases b.dm c m with q | q
    · exact a.dm c q
    · right
      cases e : H c with
      | none => rfl
      | some o =>
        obtain ⟨o', e'⟩ := a.th c o e
        rw [q] at e'; cases e'
  th := fun c o e => by
    obtain ⟨o', e'⟩ := a.th c o e
    exact b.th c o' e'
/-- what is new in the frozen part may be forgotten -/
theorem Hold.less {G G1 : Hp} {S : Sto} {H : Hp} (e : Same G G1) (h : Hold G1 S H) : Hold G S H :=
  ⟨e.trans h.ex, h.own, fun a m => e.free (h.sep a m), h.nd, h.nc, h.tb, fun p m => e.free (h.tg p m)⟩
theorem Stp.forget {G G1 G' : Hp} {S S' : Sto} {H H' : Hp} (e : Same G G1) (a : Stp G1 S H G' S' H') : Stp G S H G S' H' :=
  ⟨a.hold.less (e.trans a.gg), Same.refl G, a.fr, fun _ _ g _ => g, a.dm, a.th⟩

/-- a new frozen object -/
theorem Stp.alloc {G : Hp} {S : Sto} {H : Hp} (h : Hold G S H) {p : Addr} (hp : H p = none) (o : HO) : Stp G S H (upd G p o) S (upd H p o) where
  hold := {
    ex := fun b u e => by
      by_cases hb : b = p
      · subst hb; rw [upd_same] at e ⊢; exact e
      · rw [upd_ne hb] at e ⊢; exact h.ex b u e
    own := fun q m => by
      rw [upd_ne (ne_of_none (h.own q m) hp)]; exact h.own q m
    sep := fun a m => by
      have hne : a ≠ p := by
        rintro rfl
        obtain ⟨q, hq, rfl⟩ := List.mem_map.mp m
        rw [h.own q hq] at hp; cases hp
      rw [upd_ne hne]; exact h.sep a m
    nd := h.nd
    nc := h.nc
    tb := h.tabs fun b u _ e => by rw [upd_ne (ne_of_none e hp)]; exact e
    tg := fun q m => by
      obtain ⟨ps, h1, _⟩ := h.tb q m
      rw [upd_ne (ne_of_none h1 hp)]; exact h.tg q m }
  gg := fun b u e => by
    rw [upd_ne (ne_of_none (h.ex b u e) hp)]; exact e
  fr := fun b u _ e _ => by rw [upd_ne (ne_of_none e hp)]; exact e
  new := fun b u g e => by rw [upd_ne (ne_of_none e hp)]; exact g
  dm := fun b m => .inl m
  th := fun b u e => ⟨u, by rw [upd_ne (ne_of_none e hp)]; exact e⟩
/-- a new owned cell -/
theorem Stp.own {G : Hp} {S : Sto} {H : Hp} (h : Hold G S H) {p : Addr} (hp : H p = none) (o : HO) (hn : NotC o := by trivial) : Stp G S H G ((p, o) :: S) (upd H p o) where
  hold := {
    ex := fun b u e => by rw [upd_ne (ne_of_none (h.ex b u e) hp)]; exact h.ex b u e
    own := fun q m => by
      rcases List.mem_cons.mp m with rfl | m
      · exact upd_same
      · rw [upd_ne (ne_of_none (h.own q m) hp)]; exact h.own q m
    sep := fun a m => by
      rcases List.mem_cons.mp m with e | m
      · cases e
        exact h.ex.free hp
      · exact h.sep a m
    nd := by
      refine List.nodup_cons.mpr ⟨fun m => ?_, h.nd⟩
      obtain ⟨q, hq, e⟩ := List.mem_map.mp m
      have e' : q.1 = p := e
      have z := h.own q hq
      rw [e', hp] at z; cases z
    nc := fun q m => by
      rcases List.mem_cons.mp m with rfl | m
      · exact hn
      · exact h.nc q m
    tb := h.tabs fun b u _ e => by rw [upd_ne (ne_of_none e hp)]; exact e
    tg := h.tg }
  gg := Same.refl G
  fr := fun b u _ e _ => by rw [upd_ne (ne_of_none e hp)]; exact e
  new := fun b u g _ => g
  dm := fun b m => by
    rcases List.mem_cons.mp m with e | m
    · cases e; exact .inr hp
    · exact .inl m
  th := fun b u e => ⟨u, by rw [upd_ne (ne_of_none e hp)]; exact e⟩

theorem nodup_key {S : Sto} (nd : (dom S).Nodup) {i j : Nat} {a : Addr} {o u : HO} (h1 : S[i]? = some (a, o)) (h2 : S[j]? = some (a, u)) : i = j := by
  have e1 : (dom S)[i]? = some a := by simp [dom, h1]
  have e2 : (dom S)[j]? = some a := by simp [dom, h2]
  obtain ⟨l1, q1⟩ := List.getElem?_eq_some_iff.mp e1
  obtain ⟨l2, q2⟩ := List.getElem?_eq_some_iff.mp e2
  exact (List.getElem_inj nd).mp (q1.trans q2.symm)
theorem dom_set {S : Sto} {i : Nat} {a : Addr} {o u : HO} (h : S[i]? = some (a, o)) : dom (S.set i (a, u)) = dom S := by
  unfold dom
  rw [List.map_set]
  refine List.ext_getElem? fun j => ?_
  by_cases hj : i = j
  · subst hj
    have hl : i < S.length := (List.getElem?_eq_some_iff.mp h).1
    rw [List.getElem?_set_self (by simpa using hl)]
    simp [h]
  · rw [List.getElem?_set_ne hj]
/-- an owned cell is written -/
theorem Stp.write {G : Hp} {S : Sto} {H : Hp} (h : Hold G S H) {i : Nat} {a : Addr} {o u : HO} (hi : S[i]? = some (a, o)) (hn : NotC u := by trivial) : Stp G S H G (S.set i (a, u)) (upd H a u) where
  hold := {
    ex := fun b v e => by
      have ne : b ≠ a := by
        rintro rfl
        have : b ∈ dom S := List.mem_map.mpr ⟨(b, o), List.mem_of_getElem? hi, rfl⟩
        rw [h.sep b this] at e; cases e
      rw [upd_ne ne]; exact h.ex b v e
    own := fun q m => by
      obtain ⟨j, hj⟩ := List.getElem?_of_mem m
      by_cases e : i = j
      · subst e
        have hl : i < S.length := (List.getElem?_eq_some_iff.mp hi).1
        rw [List.getElem?_set_self hl] at hj
        cases hj
        exact upd_same
      · rw [List.getElem?_set_ne e] at hj
        have ne : q.1 ≠ a := by
          intro z
          obtain ⟨q1, q2⟩ := q
          have z' : q1 = a := z
          subst z'
          exact e (nodup_key h.nd hi hj)
        rw [upd_ne ne]
        exact h.own q (List.mem_of_getElem? hj)
    sep := fun b m => by rw [dom_set hi] at m; exact h.sep b m
    nd := by rw [dom_set hi]; exact h.nd
    nc := fun q m => by
      rcases List.mem_or_eq_of_mem_set m with m | rfl
      · exact h.nc q m
      · exact hn
    tb := h.tabs fun b v hb e => by
      have ne : b ≠ a := by
        rintro rfl
        exact hb (List.mem_map.mpr ⟨(b, o), List.mem_of_getElem? hi, rfl⟩)
      rw [upd_ne ne]; exact e
    tg := h.tg }
  gg := Same.refl G
  fr := fun b v hb e _ => by
    have ne : b ≠ a := by
      rintro rfl
      exact hb (List.mem_map.mpr ⟨(b, o), List.mem_of_getElem? hi, rfl⟩)
    rw [upd_ne ne]; exact e
  new := fun _ _ g _ => g
  dm := fun b m => by rw [dom_set hi] at m; exact .inl m
  th := fun b v e => by
    by_cases hb : b = a
    · exact ⟨u, by rw [hb]; exact upd_same⟩
    · exact ⟨v, by rw [upd_ne hb]; exact e⟩
/-- the newest own cell, younger than the base, is frozen -/
theorem Hold.freeze {G : Hp} {S : Sto} {H : Hp} {i : Nat} {a : Addr} {o : HO} (h : Hold G S H) (hi : S[i]? = some (a, o)) : Hold (upd G a o) (S.eraseIdx i) H where
  ex := fun b u e => by
    by_cases hb : b = a
    · subst hb; rw [upd_same] at e; cases e
      exact h.own (b, o) (List.mem_of_getElem? hi)
    · rw [upd_ne hb] at e; exact h.ex b u e
  own := fun q m => h.own q (List.mem_of_mem_eraseIdx m)
  sep := fun b m => by
    obtain ⟨q, hq, rfl⟩ := List.mem_map.mp m
    have ne : q.1 ≠ a := by
      intro z
      obtain ⟨j, hj⟩ := List.getElem?_of_mem hq
      obtain ⟨q1, q2⟩ := q
      have z' : q1 = a := z
      subst z'
      rw [List.getElem?_eraseIdx] at hj
      split at hj
      · rename_i hlt
        have := nodup_key h.nd hi hj
        omega
      · rename_i hlt
        have := nodup_key h.nd hi hj
        omega
    rw [upd_ne ne]
    exact h.sep _ (List.mem_map.mpr ⟨q, List.mem_of_mem_eraseIdx hq, rfl⟩)
  nd := by
    exact h.nd.sublist ((List.eraseIdx_sublist _ _).map _)
  nc := fun q m => h.nc q (List.mem_of_mem_eraseIdx m)
  tb := h.tb
  tg := fun p m => by
    have ne : p.1 ≠ a := fun z => h.tabNe m (by rw [z]; exact List.mem_map.mpr ⟨(a, o), List.mem_of_getElem? hi, rfl⟩)
    rw [upd_ne ne]; exact h.tg p m
theorem Stp.freeze {G0 G : Hp} {S0 S : Sto} {H0 H : Hp} {i : Nat} {a : Addr} {o : HO} (s : Stp G0 S0 H0 G S H) (hi : S[i]? = some (a, o)) (hn : H0 a = none) : Stp G0 S0 H0 (upd G a o) (S.eraseIdx i) H where
  hold := s.hold.freeze hi
  gg := fun b u e => by
    have ne : b ≠ a := by
      rintro rfl
      have := s.hold.sep b (List.mem_map.mpr ⟨(b, o), List.mem_of_getElem? hi, rfl⟩)
      rw [s.gg b u e] at this; cases this
    rw [upd_ne ne]; exact s.gg b u e
  fr := s.fr
  new := fun b u g e => by
    have ne : b ≠ a := by rintro rfl; rw [hn] at e; cases e
    rw [upd_ne ne]; exact s.new b u g e
  dm := fun b m => by
    obtain ⟨q, hq, rfl⟩ := List.mem_map.mp m
    exact s.dm _ (List.mem_map.mpr ⟨q, List.mem_of_mem_eraseIdx hq, rfl⟩)
  th := s.th
end Gx

-- part GEval
set_option Elab.async false
set_option linter.all false
set_option maxRecDepth 100000
set_option maxHeartbeats 1000000
namespace Gx
open PySem PySem.Spec PyProof.Rows L2

/-! ### data and how a value bears it -/
class Rp (α : Type) where
  rp : PySem.W.Frag → α → V → Hp → Prop
  mono : ∀ {K : PySem.W.Frag} {x : α} {v : V} {G G' : Hp}, Same G G' → rp K x v G → rp K x v G'
open Rp (rp)
/-- data that is a value by itself -/
class Sc (α : Type) extends Rp α where
  toV : α → V
  rp_iff : ∀ {K : PySem.W.Frag} {x : α} {v : V} {G : Hp}, Rp.rp K x v G ↔ v = toV x
open Sc (toV)
instance : Sc Int where
  rp := fun _ x v _ => v = .int x
  mono := fun _ h => h
  toV := .int
  rp_iff := Iff.rfl
instance : Sc Bool where
  rp := fun _ x v _ => v = .bl x
  mono := fun _ h => h
  toV := .bl
  rp_iff := Iff.rfl
instance : Sc Str where
  rp := fun _ x v _ => v = .str x
  mono := fun _ h => h
  toV := .str
  rp_iff := Iff.rfl
instance : Sc Unit where
  rp := fun _ _ v _ => v = .non
  mono := fun _ h => h
  toV := fun _ => .non
  rp_iff := Iff.rfl
theorem Sc.refl {α : Type} [Sc α] {K : PySem.W.Frag} {x : α} {G : Hp} : rp K x (toV x) G := Sc.rp_iff.mpr rfl
theorem Pd.mono {α β : Type} {F F' : α → β → Prop} (h : ∀ a b, F a b → F' a b) : ∀ {l : List α} {m : List β}, Paired F l m → Paired F' l m
  | _, _, .nil => .nil
  | _, _, .cons r t => .cons (h _ _ r) (Pd.mono h t)
theorem Pd.get {α β : Type} {F : α → β → Prop} : ∀ {l : List α} {m : List β} {i : Nat} {y : β}, Paired F l m → m[i]? = some y → ∃ x, l[i]? = some x ∧ F x y
  | _, _, _, _, .nil, e => by simp at e
  | _, _, 0, _, .cons r _, e => by simp at e; subst e; exact ⟨_, rfl, r⟩
  | _, _, i + 1, y, .cons _ t, e => by
    obtain ⟨x, h1, h2⟩ := Pd.get (i := i) (y := y) t (by simpa using e)
    exact ⟨x, by simpa using h1, h2⟩
theorem Pd.getL {α β : Type} {F : α → β → Prop} : ∀ {l : List α} {m : List β} {i : Nat} {x : α}, Paired F l m → l[i]? = some x → ∃ y, m[i]? = some y ∧ F x y
  | _, _, _, _, .nil, e => by simp at e
  | _, _, 0, _, .cons r _, e => by simp at e; subst e; exact ⟨_, rfl, r⟩
  | _, _, i + 1, y, .cons _ t, e => by
    obtain ⟨x, h1, h2⟩ := Pd.getL (i := i) t (by simpa using e)
    exact ⟨x, by simpa using h1, h2⟩
theorem Pd.app {α β : Type} {F : α → β → Prop} : ∀ {l l' : List α} {m m' : List β}, Paired F l m → Paired F l' m' → Paired F (l ++ l') (m ++ m')
  | _, _, _, _, .nil, s => s
  | _, _, _, _, .cons r t, s => .cons r (Pd.app t s)
theorem Pd.take {α β : Type} {F : α → β → Prop} : ∀ {l : List α} {m : List β} (n : Nat), Paired F l m → Paired F (l.take n) (m.take n)
  | _, _, 0, _ => .nil
  | _, _, _ + 1, .nil => .nil
  | _, _, n + 1, .cons r t => .cons r (Pd.take n t)
theorem Pd.drop {α β : Type} {F : α → β → Prop} : ∀ {l : List α} {m : List β} (n : Nat), Paired F l m → Paired F (l.drop n) (m.drop n)
  | _, _, 0, r => r
  | _, _, _ + 1, .nil => .nil
  | _, _, n + 1, .cons _ t => Pd.drop n t
theorem Pd.set {α β : Type} {F : α → β → Prop} {x : α} {y : β} (r : F x y) : ∀ {l : List α} {m : List β} (i : Nat), Paired F l m → Paired F (l.set i x) (m.set i y)
  | _, _, _, .nil => .nil
  | _, _, 0, .cons _ t => .cons r t
  | _, _, i + 1, .cons q t => .cons q (Pd.set r i t)
theorem Pd.len {α β : Type} {F : α → β → Prop} : ∀ {l : List α} {m : List β}, Paired F l m → l.length = m.length
  | _, _, .nil => rfl
  | _, _, .cons _ t => by simp [Pd.len t]
theorem Pd.map {α β : Type} {F : α → β → Prop} (f : α → β) (h : ∀ x, F x (f x)) : ∀ l : List α, Paired F l (l.map f)
  | [] => .nil
  | x :: r => .cons (h x) (Pd.map f h r)
theorem Pd.eqMap {α β : Type} {F : α → β → Prop} {f : α → β} (h : ∀ x y, F x y → y = f x) : ∀ {l : List α} {m : List β}, Paired F l m → m = l.map f
  | _, _, .nil => rfl
  | _, _, .cons r t => by rw [List.map_cons, ← h _ _ r, ← Pd.eqMap h t]
/-- the items xs of a list's values vs -/
abbrev Its {α : Type} [Rp α] (K : PySem.W.Frag) (xs : List α) (vs : List V) (G : Hp) : Prop := Paired (fun x v => rp K x v G) xs vs
theorem Its.mono {α : Type} [Rp α] {K : PySem.W.Frag} {xs : List α} {vs : List V} {G G' : Hp} (e : Same G G') (h : Its K xs vs G) : Its K xs vs G' := Pd.mono (fun _ _ r => Rp.mono e r) h
theorem Its.sc {α : Type} [Sc α] {K : PySem.W.Frag} {xs : List α} {vs : List V} {G : Hp} (h : Its K xs vs G) : vs = xs.map toV := Pd.eqMap (fun _ _ r => Sc.rp_iff.mp r) h
theorem Its.ofSc {α : Type} [Sc α] {K : PySem.W.Frag} (xs : List α) {G : Hp} : Its K xs (xs.map toV) G := Pd.map toV (fun _ => Sc.refl) xs
instance {α : Type} [Rp α] : Rp (List α) where
  rp := fun K xs v G => ∃ a vs, v = .ref a ∧ G a = some (.lst vs) ∧ Its K xs vs G
  mono := fun e ⟨a, vs, h1, h2, h3⟩ => ⟨a, vs, h1, e _ _ h2, h3.mono e⟩
instance {α : Type} [Rp α] : Rp (Option α) where
  rp := fun K x v G => match x with
    | none => v = .non
    | some y => rp K y v G
  mono := fun {K x v G G'} e h => by
    cases x with
    | none => exact h
    | some y => exact Rp.mono e h
/-- the script: a list that is read only -/
structure Scr where
  ns : List Int
instance : Rp Scr where
  rp := fun K x v G => ∃ a, v = .ref a ∧ SqL K G a (x.ns.map V.int)
  mono := fun e ⟨a, h1, h2⟩ => ⟨a, h1, e.seq h2⟩
/-- tuples -/
structure P2 (α β : Type) where
  f0 : α
  f1 : β
  deriving DecidableEq
structure P3 (α β γ : Type) where
  f0 : α
  f1 : β
  f2 : γ
  deriving DecidableEq
structure P4 (α β γ δ : Type) where
  f0 : α
  f1 : β
  f2 : γ
  f3 : δ
  deriving DecidableEq
instance {α β : Type} [Rp α] [Rp β] : Rp (P2 α β) where
  rp := fun K x v G => ∃ a v0 v1, v = .ref a ∧ G a = some (.tup [v0, v1]) ∧ rp K x.f0 v0 G ∧ rp K x.f1 v1 G
  mono := fun e ⟨a, v0, v1, h, h2, h3, h4⟩ => ⟨a, v0, v1, h, e _ _ h2, Rp.mono e h3, Rp.mono e h4⟩
theorem sameT {K : PySem.W.Frag} {H H' : Hp} {a : Addr} {xs : List V} (e : Same H H') (h : SqT K H a xs) : SqT K H' a xs := by
  rcases h with (h | ⟨o, h⟩) | h
  · exact .inl (.inl (e _ _ h))
  · exact .inl (.inr ⟨o, e _ _ h⟩)
  · exact .inr h
instance {α β γ : Type} [Rp α] [Rp β] [Rp γ] : Rp (P3 α β γ) where
  rp := fun K x v G => ∃ a v0 v1 v2, v = .ref a ∧ G a = some (.tup [v0, v1, v2]) ∧ rp K x.f0 v0 G ∧ rp K x.f1 v1 G ∧ rp K x.f2 v2 G
  mono := fun e ⟨a, v0, v1, v2, h, h2, h3, h4, h5⟩ => ⟨a, v0, v1, v2, h, e _ _ h2, Rp.mono e h3, Rp.mono e h4, Rp.mono e h5⟩
instance {α β γ δ : Type} [Rp α] [Rp β] [Rp γ] [Rp δ] : Rp (P4 α β γ δ) where
  rp := fun K x v G => ∃ a v0 v1 v2 v3, v = .ref a ∧ G a = some (.tup [v0, v1, v2, v3]) ∧ rp K x.f0 v0 G ∧ rp K x.f1 v1 G ∧ rp K x.f2 v2 G ∧ rp K x.f3 v3 G
  mono := fun e ⟨a, v0, v1, v2, v3, h, h2, h3, h4, h5, h6⟩ => ⟨a, v0, v1, v2, v3, h, e _ _ h2, Rp.mono e h3, Rp.mono e h4, Rp.mono e h5, Rp.mono e h6⟩

/-! ### the readings that are the machine's own -/
def cE (X : Cx) (e : Expr) : TE := fun σ H Q => ∀ pins s, Inv X pins σ H s → wpAny (model X.prog X.w) X.A (eval e X.env) (EP X pins σ Q) X.xe s
def cT (X : Cx) (e : Expr) : TT := fun σ H Q => ∀ pins s, Inv X pins σ H s → wpAny (model X.prog X.w) X.A (isTrue e X.env (eval e X.env)) (TP X pins σ Q) X.xe s
def cW (X : Cx) (e : Expr) : TT := fun σ H Q => ∀ whole pins s, Inv X pins σ H s → wpAny (model X.prog X.w) X.A (isTrue e X.env whole) (TP X pins σ Q) X.xe s
def cA (X : Cx) (es : List Expr) : TA := fun σ H Q => ∀ pos pins s, Inv X pins σ H s → wpAny (model X.prog X.w) X.A (spliced (backTo pos (starEach es X.env))) (AP X pins σ Q) X.xe s
def cS (X : Cx) (st : Stmt) : TS := fun D σ H => ∀ pins s, Inv X pins σ H s → wpAny (model X.prog X.w) X.A (exec st X.env) (SP X pins D) X.xe s
def cB (X : Cx) (sts : List Stmt) : TS := fun D σ H => ∀ pins s, Inv X pins σ H s → wpAny (model X.prog X.w) X.A (execs sts X.env) (SP X pins D) X.xe s
section
variable {X : Cx}
theorem pE (e : Expr) : PE X e (cE X e) := ⟨fun pins s σ H Q I h => h pins s I⟩
theorem pT (e : Expr) : PT X e (cT X e) := ⟨fun pins s σ H Q I h => h pins s I⟩
theorem pW (e : Expr) : PW X e (cW X e) := ⟨fun wh pins s σ H Q I h => h wh pins s I⟩
theorem pA (es : List Expr) : PA X es (cA X es) := ⟨fun pos pins s σ H Q I h => h pos pins s I⟩
theorem pS (st : Stmt) : PS X st (cS X st) := ⟨fun pins s σ H D I h => h pins s I⟩
theorem pB (sts : List Stmt) : PSs X sts (cB X sts) := ⟨fun pins s σ H D I h => h pins s I⟩
theorem toE {e : Expr} {t : TE} (p : PE X e t) {σ : St} {H : Hp} {Q : VK} (h : t σ H Q) : cE X e σ H Q := fun pins s I => p.run pins s σ H Q I h
theorem toT {e : Expr} {t : TT} (p : PT X e t) {σ : St} {H : Hp} {Q : Bool → Hp → Prop} (h : t σ H Q) : cT X e σ H Q := fun pins s I => p.run pins s σ H Q I h
theorem toW {e : Expr} {t : TT} (p : PW X e t) {σ : St} {H : Hp} {Q : Bool → Hp → Prop} (h : t σ H Q) : cW X e σ H Q := fun wh pins s I => p.run wh pins s σ H Q I h
theorem toA {es : List Expr} {t : TA} (p : PA X es t) {σ : St} {H : Hp} {Q : List V → Hp → Prop} (h : t σ H Q) : cA X es σ H Q := fun pos pins s I => p.run pos pins s σ H Q I h
theorem toS {st : Stmt} {t : TS} (p : PS X st t) {σ : St} {H : Hp} {D : Ends} (h : t D σ H) : cS X st D σ H := fun pins s I => p.run pins s σ H D I h
theorem toB {sts : List Stmt} {t : TS} (p : PSs X sts t) {σ : St} {H : Hp} {D : Ends} (h : t D σ H) : cB X sts D σ H := fun pins s I => p.run pins s σ H D I h
end

/-! ### what an expression evaluates to -/
variable [Tb]
def Ev {α : Type} [Rp α] (K : PySem.W.Frag) (te : TE) (σ : St) (G : Hp) (S : Sto) (x : α) (S' : Sto) : Prop :=
  ∀ G1 H, Same G G1 → Hold G1 S H → ∀ Q : VK, (∀ v G' H', Stp G1 S H G' S' H' → rp K x v G' → Q v H') → te σ H Q
def EvT (tt : TT) (σ : St) (G : Hp) (S : Sto) (b : Bool) (S' : Sto) : Prop :=
  ∀ G1 H, Same G G1 → Hold G1 S H → ∀ Q : Bool → Hp → Prop, (∀ G' H', Stp G1 S H G' S' H' → Q b H') → tt σ H Q
/-- arguments: what is true of their values -/
def EvA (ta : TA) (σ : St) (G : Hp) (S : Sto) (P : List V → Hp → Prop) (S' : Sto) : Prop :=
  ∀ G1 H, Same G G1 → Hold G1 S H → ∀ Q : List V → Hp → Prop, (∀ vs G' H', Stp G1 S H G' S' H' → P vs G' → Q vs H') → ta σ H Q
section
variable {K : PySem.W.Frag} {σ : St} {G G' : Hp} {S S1 S2 S3 : Sto} {te ta tb : TE}
theorem Ev.mono {α : Type} [Rp α] {x : α} (h : Ev K te σ G S x S1) (e : Same G G') : Ev K te σ G' S x S1 := fun G1 H a => h G1 H (e.trans a)
theorem EvT.mono {tt : TT} {b : Bool} (h : EvT tt σ G S b S1) (e : Same G G') : EvT tt σ G' S b S1 := fun G1 H a => h G1 H (e.trans a)
theorem Ev.is {α : Type} [Rp α] {x y : α} (h : Ev K te σ G S x S1) (e : x = y) : Ev K te σ G S y S1 := e ▸ h
theorem EvT.is {tt : TT} {a b : Bool} (h : EvT tt σ G S a S1) (e : a = b) : EvT tt σ G S b S1 := e ▸ h
/-- one value after another -/
theorem ev_then {α : Type} [Rp α] {x : α} {G1 : Hp} {H : Hp} (h : Ev K te σ G S x S1) (e : Same G G1) (hd : Hold G1 S H) {Q : VK} (k : ∀ v G' H', Stp G1 S H G' S1 H' → rp K x v G' → Q v H') : te σ H Q := h G1 H e hd Q k
theorem ev_op {α β γ : Type} [Rp α] [Rp β] [Rp γ] {x : α} {y : β} {z : γ} {r : R2} (ha : Ev K ta σ G S x S1) (hb : Ev K tb σ G S1 y S2)
    (hr : ∀ v u G1 H1, Same G G1 → Hold G1 S2 H1 → rp K x v G1 → rp K y u G1 → ∀ Q : VK, (∀ w G' H', Stp G1 S2 H1 G' S3 H' → rp K z w G' → Q w H') → r v u H1 Q) : Ev K (tOp r ta tb) σ G S z S3 := by
  intro G1 H e hd Q k
  refine ha G1 H e hd _ fun v G2 H2 s2 r2 => ?_
  refine hb G2 H2 (e.trans s2.gg) s2.hold _ fun u G3 H3 s3 r3 => ?_
  exact hr v u G3 H3 ((e.trans s2.gg).trans s3.gg) s3.hold (Rp.mono s3.gg r2) r3 Q fun w G4 H4 s4 r4 => k w G4 H4 ((s2.trans s3).trans s4) r4
/-- two scalars and a scalar -/
theorem ev_opS {α β γ : Type} [Sc α] [Sc β] [Sc γ] {x : α} {y : β} {z : γ} {r : R2} (ha : Ev K ta σ G S x S1) (hb : Ev K tb σ G S1 y S2)
    (hr : ∀ (H : Hp) (Q : VK), Q (toV z) H → r (toV x) (toV y) H Q) : Ev K (tOp r ta tb) σ G S z S2 :=
  ev_op ha hb fun v u G1 H1 e hd rv ru Q k => by
    rw [Sc.rp_iff.mp rv, Sc.rp_iff.mp ru]
    exact hr H1 Q (k _ G1 H1 (.refl hd) Sc.refl)
theorem ev_un {α γ : Type} [Rp α] [Rp γ] {x : α} {z : γ} {r : V → Hp → VK → Prop} (ha : Ev K ta σ G S x S1)
    (hr : ∀ v G1 H1, Same G G1 → Hold G1 S1 H1 → rp K x v G1 → ∀ Q : VK, (∀ w G' H', Stp G1 S1 H1 G' S2 H' → rp K z w G' → Q w H') → r v H1 Q) : Ev K (tUn r ta) σ G S z S2 := by
  intro G1 H e hd Q k
  refine ha G1 H e hd _ fun v G2 H2 s2 r2 => ?_
  exact hr v G2 H2 (e.trans s2.gg) s2.hold r2 Q fun w G4 H4 s4 r4 => k w G4 H4 (s2.trans s4) r4
/-- a scalar's evaluation may read an owned cell as if it were frozen -/
theorem Ev.borrow {γ : Type} [Sc γ] {z : γ} {i : Nat} {a : Addr} {o : HO} (hi : S[i]? = some (a, o)) (h : Ev K te σ (upd G a o) (S.eraseIdx i) z (S.eraseIdx i)) : Ev K te σ G S z S := by
  intro G1 H e hd Q k
  have hf := hd.freeze hi
  have e1 : Same (upd G a o) (upd G1 a o) := fun b u q => by
    by_cases hb : b = a
    · subst hb; rw [upd_same] at q ⊢; exact q
    · rw [upd_ne hb] at q ⊢; exact e b u q
  refine h (upd G1 a o) H e1 hf Q fun v G' H' s r => ?_
  refine k v G1 H' ?_ (Sc.rp_iff.mpr (Sc.rp_iff.mp r))
  have ina : a ∈ dom S := List.mem_map.mpr ⟨(a, o), List.mem_of_getElem? hi, rfl⟩
  have hHa : H a = some o := hd.own (a, o) (List.mem_of_getElem? hi)
  have hG1 : Same G1 H' := fun b u q => by
    refine s.hold.ex b u (s.gg b u ?_)
    have ne : b ≠ a := by rintro rfl; rw [hd.sep b ina] at q; cases q
    rw [upd_ne ne]; exact q
  have hH'a : H' a = some o := s.hold.ex a o (s.gg a o upd_same)
  have hin : ∀ p ∈ S, p ∈ S.eraseIdx i ∨ p = (a, o) := fun p hp => by
    obtain ⟨j, hj⟩ := List.getElem?_of_mem hp
    by_cases hji : j = i
    · subst hji
      rw [hi] at hj; exact .inr (Option.some.inj hj).symm
    · left
      rcases Nat.lt_or_ge j i with q | q
      · exact List.mem_of_getElem? (i := j) (by rw [List.getElem?_eraseIdx, if_pos q]; exact hj)
      · have q' : i < j := by omega
        exact List.mem_of_getElem? (i := j - 1) (by rw [List.getElem?_eraseIdx, if_neg (by omega), show j - 1 + 1 = j by omega]; exact hj)
  have hdm : ∀ b, b ∈ dom S → b ∈ dom (S.eraseIdx i) ∨ b = a := fun b m => by
    obtain ⟨p, hp, rfl⟩ := List.mem_map.mp m
    rcases hin p hp with q | q
    · exact .inl (List.mem_map.mpr ⟨p, q, rfl⟩)
    · exact .inr (by rw [q])
  refine ⟨⟨hG1, fun p hp => ?_, hd.sep, hd.nd, hd.nc, s.hold.tb, hd.tg⟩, Same.refl G1, fun b u hb q nt => ?_, fun _ _ g _ => g, fun b m => .inl m, s.th⟩
  · rcases hin p hp with q | q
    · exact s.hold.own p q
    · rw [q]; exact hH'a
  · exact s.fr b u (fun m => hb (by
      obtain ⟨p, hp, rfl⟩ := List.mem_map.mp m
      exact List.mem_map.mpr ⟨p, List.mem_of_mem_eraseIdx hp, rfl⟩)) q nt
end
end Gx

-- part GRules
set_option Elab.async false
set_option linter.all false
set_option maxRecDepth 100000
set_option maxHeartbeats 1000000
namespace Gx
open PySem PySem.Spec PyProof.Rows L2
open Rp (rp)
open Sc (toV)
variable [Tb]

abbrev EX (X : Cx) {α : Type} [Rp α] (e : Expr) (σ : St) (G : Hp) (S : Sto) (x : α) (S' : Sto) : Prop := Ev X.K (cE X e) σ G S x S'
abbrev ET (X : Cx) (e : Expr) (σ : St) (G : Hp) (S : Sto) (b : Bool) (S' : Sto) : Prop := EvT (cT X e) σ G S b S'
abbrev EW (X : Cx) (e : Expr) (σ : St) (G : Hp) (S : Sto) (b : Bool) (S' : Sto) : Prop := EvT (cW X e) σ G S b S'
abbrev EA (X : Cx) (es : List Expr) (σ : St) (G : Hp) (S : Sto) (P : List V → Hp → Prop) (S' : Sto) : Prop := EvA (cA X es) σ G S P S'
section
variable {X : Cx} {σ : St} {G : Hp} {S S1 S2 S3 : Sto} {e a b c : Expr} {es rest : List Expr} {pos : Pos}
theorem Ev.to {α : Type} [Rp α] {x : α} {t : TE} (p : PE X e t) (h : Ev X.K t σ G S x S1) : EX X e σ G S x S1 := fun G1 H e hd Q k => toE p (h G1 H e hd Q k)
theorem EvT.to {k : Bool} {t : TT} (p : PT X e t) (h : EvT t σ G S k S1) : ET X e σ G S k S1 := fun G1 H e hd Q k => toT p (h G1 H e hd Q k)
theorem EvT.toW {k : Bool} {t : TT} (p : PW X e t) (h : EvT t σ G S k S1) : EW X e σ G S k S1 := fun G1 H e hd Q k => Gx.toW p (h G1 H e hd Q k)
theorem EvA.to {P : List V → Hp → Prop} {t : TA} (p : PA X es t) (h : EvA t σ G S P S1) : EA X es σ G S P S1 := fun G1 H e hd Q k => toA p (h G1 H e hd Q k)
theorem fromE {α : Type} [Rp α] {x : α} {t : TE} (h : EX X e σ G S x S1) : EX X e σ G S x S1 := h

/-! ### names, constants -/
theorem ev_var {α : Type} [Rp α] {K : PySem.W.Frag} {x : α} {i : Nat} {v : V} (h : σ[i]? = some (some v)) (r : rp K x v G) : Ev K (tVar i) σ G S x S :=
  fun G1 H e hd Q k => ⟨v, h, k v G1 H (.refl hd) (Rp.mono e r)⟩
theorem ev_c {α : Type} [Sc α] {K : PySem.W.Frag} {x : α} : Ev K (tC (toV x)) σ G S x S := fun G1 H e hd Q k => k _ G1 H (.refl hd) Sc.refl
theorem ex_var {α : Type} [Rp α] {x : α} (i : Nat) {n : Str} {v : V} (h : σ[i]? = some (some v)) (r : rp X.K x v G) (hN : X.N[i]? = some n := by rfl)
    (hv : Vis X.env.scope n := by first | exact Or.inl rfl | exact Or.inr (Or.inl rfl) | exact Or.inr (Or.inr rfl)) (hd : (n == ("__debug__" : Str)) = false := by decide) (hcd : (n == ("__classdict__" : Str)) = false := by decide) :
    EX X (.Name n pos) σ G S x S := Ev.to (pe_var hN hv hd hcd) (ev_var h r)
/-- a name that holds a scalar -/
theorem ex_nm {α : Type} [Sc α] {x : α} (i : Nat) {n : Str} (h : σ[i]? = some (some (toV x))) (hN : X.N[i]? = some n := by rfl)
    (hv : Vis X.env.scope n := by first | exact Or.inl rfl | exact Or.inr (Or.inl rfl) | exact Or.inr (Or.inr rfl)) (hd : (n == ("__debug__" : Str)) = false := by decide) (hcd : (n == ("__classdict__" : Str)) = false := by decide) :
    EX X (.Name n pos) σ G S x S := ex_var i h Sc.refl hN hv hd hcd
theorem ex_int {n : Int} {j : Nat} : EX X (.Constant (.int n) j pos) σ G S n S := Ev.to pe_int (ev_c (x := n))
theorem ex_bl {n : Bool} {j : Nat} : EX X (.Constant (.bool n) j pos) σ G S n S := Ev.to pe_bl (ev_c (x := n))
theorem ex_str {n : Str} {j : Nat} : EX X (.Constant (.str n) j pos) σ G S n S := Ev.to pe_str (ev_c (x := n))
theorem ex_non {j : Nat} : EX X (.Constant .none j pos) σ G S () S := Ev.to pe_non (ev_c (x := ()))
theorem ex_gl {α : Type} [Sc α] {x : α} {n : Str} {u : Value} (hm : X.mg n = some u) (r : RelV (toV x) u) (hg : Gl X n := by rfl) (hd : (n == ("__debug__" : Str)) = false := by decide) : EX X (.Name n pos) σ G S x S :=
  Ev.to (pe_glob hg hm r hd) ev_c

/-! ### whole numbers -/
theorem ex_add {i j : Int} (ha : EX X a σ G S i S1) (hb : EX X b σ G S1 j S2) : EX X (.BinOp a .Add b pos) σ G S (i + j) S2 := Ev.to (pe_op op_add (pE a) (pE b)) (ev_opS ha hb fun H Q q => ⟨i, j, rfl, rfl, q⟩)
theorem ex_sub {i j : Int} (ha : EX X a σ G S i S1) (hb : EX X b σ G S1 j S2) : EX X (.BinOp a .Sub b pos) σ G S (i - j) S2 := Ev.to (pe_op op_sub (pE a) (pE b)) (ev_opS ha hb fun H Q q => ⟨i, j, rfl, rfl, q⟩)
theorem ex_mul {i j : Int} (ha : EX X a σ G S i S1) (hb : EX X b σ G S1 j S2) (hc : CMulW i j) : EX X (.BinOp a .Mult b pos) σ G S (i * j) S2 := Ev.to (pe_op op_mulW (pE a) (pE b)) (ev_opS ha hb fun H Q q => ⟨i, j, rfl, rfl, hc, q⟩)
/-- one factor below 2^64: the other of any size -/
theorem ex_mulS {i j : Int} (ha : EX X a σ G S i S1) (hb : EX X b σ G S1 j S2) (hc : CMul i j) : EX X (.BinOp a .Mult b pos) σ G S (i * j) S2 := Ev.to (pe_op op_mul (pE a) (pE b)) (ev_opS ha hb fun H Q q => ⟨i, j, rfl, rfl, hc, q⟩)
theorem ex_div {i j : Int} (ha : EX X a σ G S i S1) (hb : EX X b σ G S1 j S2) (hc : CDivW i j) : EX X (.BinOp a .FloorDiv b pos) σ G S (i / j) S2 := Ev.to (pe_op op_fdivW (pE a) (pE b)) (ev_opS ha hb fun H Q q => ⟨i, j, rfl, rfl, hc, q⟩)
theorem ex_mod {i j : Int} (ha : EX X a σ G S i S1) (hb : EX X b σ G S1 j S2) (hc : 0 < j) : EX X (.BinOp a .Mod b pos) σ G S (i % j) S2 := Ev.to (pe_op op_mod (pE a) (pE b)) (ev_opS ha hb fun H Q q => ⟨i, j, rfl, rfl, hc, q⟩)
theorem ex_pow {i j : Int} (ha : EX X a σ G S i S1) (hb : EX X b σ G S1 j S2) (hc : CPow i j) : EX X (.BinOp a .Pow b pos) σ G S (i ^ j.toNat) S2 := Ev.to (pe_op op_pow (pE a) (pE b)) (ev_opS ha hb fun H Q q => ⟨i, j, rfl, rfl, hc, q⟩)
theorem ex_neg {i : Int} (ha : EX X a σ G S i S1) : EX X (.UnaryOp .USub a pos) σ G S (-i) S1 := Ev.to (pe_un un_neg (pE a)) (ev_un ha fun v G1 H1 e hd rv Q k => ⟨i, rv, k _ G1 H1 (.refl hd) rfl⟩)

/-! ### comparisons -/
theorem ex_cmp {op : CmpOp} {r : R2} {k : Bool} (ho : OpR X (compareOp op) r) (hm : behindInMarks op b = false) (h : Ev X.K (tOp r (cE X a) (cE X b)) σ G S k S1) : EX X (.Compare a [op] [b] pos) σ G S k S1 := Ev.to (pe_cmpR ho (pE a) (pE b) hm) h
theorem evt_of {k : Bool} {t : TE} {K : PySem.W.Frag} (h : Ev K t σ G S k S1) : EvT (tTest t) σ G S k S1 := fun G1 H e hd Q q => h G1 H e hd _ fun v G' H' s r => ⟨k, r, q G' H' s⟩
theorem et_cmp {op : CmpOp} {r : R2} {k : Bool} (ho : OpR X (compareOp op) r) (hm : behindInMarks op b = false) (h : Ev X.K (tOp r (cE X a) (cE X b)) σ G S k S1) : ET X (.Compare a [op] [b] pos) σ G S k S1 := EvT.to (pt_cmpR ho (pE a) (pE b) hm) (evt_of h)
theorem vl_I0 {i j : Int} {g : Int → Int → Bool} (ha : EX X a σ G S i S1) (hb : EX X b σ G S1 j S2) : Ev X.K (tOp (rI0 fun i j => .bl (g i j)) (cE X a) (cE X b)) σ G S (g i j) S2 := ev_opS ha hb fun H Q q => ⟨i, j, rfl, rfl, q⟩
theorem ex_lt {i j : Int} (ha : EX X a σ G S i S1) (hb : EX X b σ G S1 j S2) : EX X (.Compare a [.Lt] [b] pos) σ G S (decide (i < j)) S2 := ex_cmp op_lt (nomark _) (vl_I0 ha hb)
theorem ex_le {i j : Int} (ha : EX X a σ G S i S1) (hb : EX X b σ G S1 j S2) : EX X (.Compare a [.LtE] [b] pos) σ G S (decide (i ≤ j)) S2 := ex_cmp op_le (nomark _) (vl_I0 ha hb)
theorem ex_gt {i j : Int} (ha : EX X a σ G S i S1) (hb : EX X b σ G S1 j S2) : EX X (.Compare a [.Gt] [b] pos) σ G S (decide (j < i)) S2 := ex_cmp op_gt (nomark _) (vl_I0 ha hb)
theorem ex_ge {i j : Int} (ha : EX X a σ G S i S1) (hb : EX X b σ G S1 j S2) : EX X (.Compare a [.GtE] [b] pos) σ G S (decide (j ≤ i)) S2 := ex_cmp op_ge (nomark _) (vl_I0 ha hb)
theorem et_lt {i j : Int} (ha : EX X a σ G S i S1) (hb : EX X b σ G S1 j S2) : ET X (.Compare a [.Lt] [b] pos) σ G S (decide (i < j)) S2 := et_cmp op_lt (nomark _) (vl_I0 ha hb)
theorem et_le {i j : Int} (ha : EX X a σ G S i S1) (hb : EX X b σ G S1 j S2) : ET X (.Compare a [.LtE] [b] pos) σ G S (decide (i ≤ j)) S2 := et_cmp op_le (nomark _) (vl_I0 ha hb)
theorem et_gt {i j : Int} (ha : EX X a σ G S i S1) (hb : EX X b σ G S1 j S2) : ET X (.Compare a [.Gt] [b] pos) σ G S (decide (j < i)) S2 := et_cmp op_gt (nomark _) (vl_I0 ha hb)
theorem et_ge {i j : Int} (ha : EX X a σ G S i S1) (hb : EX X b σ G S1 j S2) : ET X (.Compare a [.GtE] [b] pos) σ G S (decide (j ≤ i)) S2 := et_cmp op_ge (nomark _) (vl_I0 ha hb)
/-- scalars of one kind that == tells apart by their values -/
class Eqb (α : Type) extends Sc α where
  dec : DecidableEq α
  ok : ∀ x y : α, scal (toV x) (toV y) = true ∧ decide (toV x = toV y) = @decide (x = y) (dec x y)
instance : Eqb Int where
  dec := inferInstance
  ok := fun x y => ⟨rfl, by
    rw [Bool.eq_iff_iff, decide_eq_true_iff, decide_eq_true_iff]
    exact ⟨fun h => by cases h; rfl, fun h => by rw [h]⟩⟩
instance : Eqb Str where
  dec := inferInstance
  ok := fun x y => ⟨rfl, by
    rw [Bool.eq_iff_iff, decide_eq_true_iff, decide_eq_true_iff]
    exact ⟨fun h => by cases h; rfl, fun h => by rw [h]⟩⟩
instance : Eqb Bool where
  dec := inferInstance
  ok := fun x y => ⟨rfl, by
    rw [Bool.eq_iff_iff, decide_eq_true_iff, decide_eq_true_iff]
    exact ⟨fun h => by cases h; rfl, fun h => by rw [h]⟩⟩
theorem vl_eq {α : Type} [q : Eqb α] [d : DecidableEq α] {x y : α} (ha : EX X a σ G S x S1) (hb : EX X b σ G S1 y S2) : Ev X.K (tOp rEq (cE X a) (cE X b)) σ G S (decide (x = y)) S2 := by
  refine ev_opS ha hb fun H Q k => ⟨(q.ok x y).1, ?_⟩
  have e := (q.ok x y).2
  have e2 : @decide (x = y) (q.dec x y) = @decide (x = y) (d x y) := by congr
  rw [e, e2]; exact k
theorem vl_ne {α : Type} [q : Eqb α] [d : DecidableEq α] {x y : α} (ha : EX X a σ G S x S1) (hb : EX X b σ G S1 y S2) : Ev X.K (tOp rNe (cE X a) (cE X b)) σ G S (!decide (x = y)) S2 := by
  refine ev_opS ha hb fun H Q k => ⟨(q.ok x y).1, ?_⟩
  have e := (q.ok x y).2
  have e2 : @decide (x = y) (q.dec x y) = @decide (x = y) (d x y) := by congr
  rw [e, e2]; exact k
theorem ex_eq {α : Type} [Eqb α] [DecidableEq α] {x y : α} (ha : EX X a σ G S x S1) (hb : EX X b σ G S1 y S2) : EX X (.Compare a [.Eq] [b] pos) σ G S (decide (x = y)) S2 := ex_cmp op_eq (nomark _) (vl_eq ha hb)
theorem ex_ne {α : Type} [Eqb α] [DecidableEq α] {x y : α} (ha : EX X a σ G S x S1) (hb : EX X b σ G S1 y S2) : EX X (.Compare a [.NotEq] [b] pos) σ G S (!decide (x = y)) S2 := ex_cmp op_ne (nomark _) (vl_ne ha hb)
theorem et_eq {α : Type} [Eqb α] [DecidableEq α] {x y : α} (ha : EX X a σ G S x S1) (hb : EX X b σ G S1 y S2) : ET X (.Compare a [.Eq] [b] pos) σ G S (decide (x = y)) S2 := et_cmp op_eq (nomark _) (vl_eq ha hb)
theorem et_ne {α : Type} [Eqb α] [DecidableEq α] {x y : α} (ha : EX X a σ G S x S1) (hb : EX X b σ G S1 y S2) : ET X (.Compare a [.NotEq] [b] pos) σ G S (!decide (x = y)) S2 := et_cmp op_ne (nomark _) (vl_ne ha hb)

/-! ### and, or, not, if -/
theorem evt_and {t u : TT} {x y : Bool} (h : EvT t σ G S x S1) (h2 : x = true → EvT u σ G S1 y S1) : EvT (tAnd t u) σ G S (x && y) S1 := fun G1 H e hd Q q => h G1 H e hd _ fun G' H' s => by
  cases x with
  | true =>
    show u σ H' Q
    exact h2 rfl G' H' (e.trans s.gg) s.hold Q fun G2 H2 s2 => q G2 H2 (s.trans s2)
  | false =>
    show Q false H'
    exact q G' H' s
theorem evt_or {t u : TT} {x y : Bool} (h : EvT t σ G S x S1) (h2 : x = false → EvT u σ G S1 y S1) : EvT (tOr t u) σ G S (x || y) S1 := fun G1 H e hd Q q => h G1 H e hd _ fun G' H' s => by
  cases x with
  | false =>
    show u σ H' Q
    exact h2 rfl G' H' (e.trans s.gg) s.hold Q fun G2 H2 s2 => q G2 H2 (s.trans s2)
  | true =>
    show Q true H'
    exact q G' H' s
theorem ew_and1 {x : Bool} (h : ET X a σ G S x S1) : EW X (.BoolOp .And [a] pos) σ G S x S1 := EvT.toW (pw_and1 (pT a)) h
theorem ew_or1 {x : Bool} (h : ET X a σ G S x S1) : EW X (.BoolOp .Or [a] pos) σ G S x S1 := EvT.toW (pw_or1 (pT a)) h
theorem ew_and {x y : Bool} (h : ET X a σ G S x S1) (h2 : x = true → EW X (.BoolOp .And (b :: rest) pos) σ G S1 y S1) : EW X (.BoolOp .And (a :: b :: rest) pos) σ G S (x && y) S1 := EvT.toW (pw_and (pT a) (pW _)) (evt_and h h2)
theorem ew_or {x y : Bool} (h : ET X a σ G S x S1) (h2 : x = false → EW X (.BoolOp .Or (b :: rest) pos) σ G S1 y S1) : EW X (.BoolOp .Or (a :: b :: rest) pos) σ G S (x || y) S1 := EvT.toW (pw_or (pT a) (pW _)) (evt_or h h2)
theorem et_w {x : Bool} (h : EW X e σ G S x S1) : ET X e σ G S x S1 := EvT.to (pW e).pt h
theorem et_not {x : Bool} (h : ET X a σ G S x S1) : ET X (.UnaryOp .Not a pos) σ G S (!x) S1 := EvT.to (pt_not (pT a)) (fun G1 H e hd Q q => h G1 H e hd _ fun G' H' s => q G' H' s)
/-- an expression whose value is True or False, as a test -/
theorem et_val {x : Bool} (h : EX X e σ G S x S1) (he : ∀ whole, isTrue e X.env whole = (do let v ← whole; standAt e.pos; holding [v] (truthy v)) := by intro _; rfl) : ET X e σ G S x S1 :=
  EvT.to (pt_val (pE e) he) (evt_of h)
theorem ex_one {op} {α : Type} [Rp α] {x : α} (h : EX X a σ G S x S1) : EX X (.BoolOp op [a] pos) σ G S x S1 := Ev.to (pe_one (pE a)) h
theorem ex_and {x y : Bool} (h : EX X a σ G S x S1) (h2 : x = true → EX X (.BoolOp .And (b :: rest) pos) σ G S1 y S1) : EX X (.BoolOp .And (a :: b :: rest) pos) σ G S (x && y) S1 :=
  Ev.to (pe_and (pE a) (pE _)) fun G1 H e hd Q q => h G1 H e hd _ fun v G' H' s r => ⟨x, r, by
    cases x with
    | true => exact h2 rfl G' H' (e.trans s.gg) s.hold Q fun w G2 H2 s2 r2 => q w G2 H2 (s.trans s2) r2
    | false => exact q _ G' H' s rfl⟩
theorem ex_or {x y : Bool} (h : EX X a σ G S x S1) (h2 : x = false → EX X (.BoolOp .Or (b :: rest) pos) σ G S1 y S1) : EX X (.BoolOp .Or (a :: b :: rest) pos) σ G S (x || y) S1 :=
  Ev.to (pe_or (pE a) (pE _)) fun G1 H e hd Q q => h G1 H e hd _ fun v G' H' s r => ⟨x, r, by
    cases x with
    | false => exact h2 rfl G' H' (e.trans s.gg) s.hold Q fun w G2 H2 s2 r2 => q w G2 H2 (s.trans s2) r2
    | true => exact q _ G' H' s rfl⟩
theorem ex_not {x : Bool} (h : EX X a σ G S x S1) : EX X (.UnaryOp .Not a pos) σ G S (!x) S1 :=
  Ev.to (pe_not (pE a)) fun G1 H e hd Q q => h G1 H e hd _ fun v G' H' s r => ⟨x, r, q _ G' H' s rfl⟩
theorem ex_if {α : Type} [Rp α] {k : Bool} {x y : α} (h : ET X c σ G S k S1) (h1 : k = true → EX X a σ G S1 x S2) (h2 : k = false → EX X b σ G S1 y S2) : EX X (.IfExp c a b pos) σ G S (bif k then x else y) S2 :=
  Ev.to (pe_ifExp (pT c) (pE a) (pE b)) fun G1 H e hd Q q => h G1 H e hd _ fun G' H' s => by
    cases k with
    | true => exact h1 rfl G' H' (e.trans s.gg) s.hold Q fun w G2 H2 s2 r2 => q w G2 H2 (s.trans s2) r2
    | false => exact h2 rfl G' H' (e.trans s.gg) s.hold Q fun w G2 H2 s2 r2 => q w G2 H2 (s.trans s2) r2

/-! ### arguments, calls -/
def A0 : List V → Hp → Prop := fun vs _ => vs = []
def A1 {α : Type} [Rp α] (K : PySem.W.Frag) (x : α) (P : List V → Hp → Prop) : List V → Hp → Prop := fun vs G => ∃ v r, vs = v :: r ∧ rp K x v G ∧ P r G
/-- an owned object, named by its address -/
structure Ow where
  a : Addr
instance : Sc Ow where
  rp := fun _ x v _ => v = .ref x.a
  mono := fun _ h => h
  toV := fun x => .ref x.a
  rp_iff := Iff.rfl
theorem ea_nil : EA X [] σ G S A0 S := EvA.to pa_nil fun G1 H e hd Q q => q [] G1 H (.refl hd) rfl
theorem ea_cons {α : Type} [Rp α] {x : α} {P : List V → Hp → Prop} (h : EX X e σ G S x S1) (hr : EA X es σ G S1 P S2) (hs : starEach (e :: es) X.env = (false, eval e X.env) :: starEach es X.env := by rfl) : EA X (e :: es) σ G S (A1 X.K x P) S2 :=
  EvA.to (pa_cons (pE e) (pA es) hs) fun G1 H e hd Q q => h G1 H e hd _ fun v G' H' s r => hr G' H' (e.trans s.gg) s.hold _ fun vs G2 H2 s2 r2 => q (v :: vs) G2 H2 (s.trans s2) ⟨v, vs, rfl, Rp.mono s2.gg r, r2⟩
/-- a def's promise as a step: from arguments of which A holds to the data y -/
def Does {β : Type} [Rp β] (K : PySem.W.Frag) (sp : Sp) (A : List V → Hp → Prop) (S : Sto) (y : β) (S' : Sto) : Prop :=
  ∀ vs G H Q E, Hold G S H → A vs G → (∀ v G' H', Stp G S H G' S' H' → rp K y v G' → Q v H') → sp vs H Q E
theorem ex_call {β : Type} [Rp β] {y : β} {x : Str} {p : Pos} {f : Addr} {fd : FuncData} {ps : List Str} {sp : Sp} {CX : CXT} {k : Nat} {A : List V → Hp → Prop} (D : Does X.K sp A S1 y S2)
    (F : FnOk X.prog X.w X.K X.mg X.base CX k f fd ps sp) (hr : Room k X.A) (hm : X.mg x = some (.ref f)) (hk : PySem.W.keepIn X.K (.ref f) = true) (hb : Binds X.K fd ps []) {E : XK} (hx : Passes CX X E) (ha : EA X (e :: es) σ G S A S1) (hg : Gl X x := by rfl) (hdb : (x == ("__debug__" : Str)) = false := by decide)
    (hpl : (backTo pos (starEach es X.env)).any (·.1) = false := by rfl) (he : starEach (e :: es) X.env = (false, eval e X.env) :: starEach es X.env := by rfl) : EX X (.Call (.Name x p) (e :: es) [] pos) σ G S y S2 :=
  Ev.to (pe_call F hr hg hm hk hb .nil hx (pA (e :: es)) (hdb := hdb) (he := he) (hpl := hpl)) fun G1 H e hd Q q => ha G1 H e hd _ fun vs G2 H2 s2 r2 => by
    show sp (vs ++ []) H2 Q E
    rw [List.append_nil]
    exact D vs G2 H2 Q E s2.hold r2 fun v G3 H3 s3 r3 => q v G3 H3 (s2.trans s3) r3
end
end Gx

-- part GStat
set_option Elab.async false
set_option linter.all false
set_option maxRecDepth 100000
set_option maxHeartbeats 1000000
namespace Gx
open PySem PySem.Spec PyProof.Rows L2
open Rp (rp)
open Sc (toV)
variable [Tb]

/-- where a def's run began -/
structure Bs where
  G : Hp
  S : Sto
  H : Hp
/-- from the base B, wherever frozen G and owned S are held, T is wished of the slots σ -/
def At (B : Bs) (T : St → Hp → Prop) (σ : St) (G : Hp) (S : Sto) : Prop := ∀ H, Stp B.G B.S B.H G S H → T σ H
theorem at_start {T : St → Hp → Prop} {σ : St} {G : Hp} {S : Sto} {H : Hp} (hd : Hold G S H) (h : At ⟨G, S, H⟩ T σ G S) : T σ H := h H (.refl hd)

theorem ncT {o : HO} (h : NotC o) : ∀ ps, o ≠ .tbl ps := fun ps z => by rw [z] at h; exact h
/-- the owned cells of a def's promise are the caller's i-th; or it has none -/
theorem Does.frame0 {β : Type} [Rp β] {K : PySem.W.Frag} {sp : Sp} {A : List V → Hp → Prop} {y : β} {S : Sto} (d : Does K sp A [] y []) : Does K sp A S y S := fun vs G H Q E hd a k => by
  refine d vs G H Q E ⟨hd.ex, (fun _ m => nomatch m), (fun _ m => nomatch m), List.nodup_nil, (fun _ m => nomatch m), hd.tb, hd.tg⟩ a fun v G' H' s r => k v G' H' ?_ r
  have fr : ∀ b o, H b = some o → (∀ ps, o ≠ .tbl ps) → H' b = some o := fun b o e nt => s.fr b o (fun m => nomatch m) e nt
  refine ⟨⟨s.hold.ex, fun p m => fr _ _ (hd.own p m) (ncT (hd.nc p m)), fun a m => ?_, hd.nd, hd.nc, s.hold.tb, s.hold.tg⟩, s.gg, fun b o _ e => fr b o e, s.new, fun b m => .inl m, s.th⟩
  obtain ⟨p, hp, rfl⟩ := List.mem_map.mp m
  exact s.new _ _ (hd.sep _ m) (hd.own p hp)
theorem Does.frame1 {β : Type} [Rp β] {K : PySem.W.Frag} {sp : Sp} {A : List V → Hp → Prop} {y : β} {S : Sto} {i : Nat} {a : Addr} {o u : HO} (d : Does K sp A [(a, o)] y [(a, u)]) (hi : S[i]? = some (a, o)) : Does K sp A S y (S.set i (a, u)) := fun vs G H Q E hd ar k => by
  have hin : (a, o) ∈ S := List.mem_of_getElem? hi
  have hda : a ∈ dom S := List.mem_map.mpr ⟨_, hin, rfl⟩
  refine d vs G H Q E ⟨hd.ex, fun p m => by rw [List.mem_singleton.mp m]; exact hd.own _ hin, fun b m => by rw [List.mem_singleton.mp m]; exact hd.sep a hda, by simp, fun p m => by rw [List.mem_singleton.mp m]; exact hd.nc _ hin, hd.tb, hd.tg⟩ ar fun v G' H' s r => k v G' H' ?_ r
  have fr : ∀ b o, b ≠ a → H b = some o → (∀ ps, o ≠ .tbl ps) → H' b = some o := fun b o ne e nt => s.fr b o (fun m => ne (List.mem_singleton.mp m)) e nt
  refine ⟨⟨s.hold.ex, fun p m => ?_, fun b m => ?_, by rw [dom_set hi]; exact hd.nd, fun p m => ?_, s.hold.tb, s.hold.tg⟩, s.gg, fun b o' hb e nt => fr b o' (fun z => hb (z ▸ hda)) e nt, s.new, fun b m => by rw [dom_set hi] at m; exact .inl m, s.th⟩
  · obtain ⟨j, hj⟩ := List.getElem?_of_mem m
    by_cases e : i = j
    · subst e
      have hl : i < S.length := (List.getElem?_eq_some_iff.mp hi).1
      rw [List.getElem?_set_self hl] at hj
      cases hj
      exact s.hold.own (a, u) (List.mem_singleton.mpr rfl)
    · rw [List.getElem?_set_ne e] at hj
      have ne : p.1 ≠ a := by
        intro z
        obtain ⟨q1, q2⟩ := p
        have z' : q1 = a := z
        subst z'
        exact e (nodup_key hd.nd hi hj)
      exact fr _ _ ne (hd.own p (List.mem_of_getElem? hj)) (ncT (hd.nc p (List.mem_of_getElem? hj)))
  · rw [dom_set hi] at m
    obtain ⟨p, hp, rfl⟩ := List.mem_map.mp m
    exact s.new _ _ (hd.sep _ m) (hd.own p hp)
  · rcases List.mem_or_eq_of_mem_set m with m | rfl
    · exact hd.nc p m
    · exact s.hold.nc _ (List.mem_singleton.mpr rfl)

section
variable {X : Cx} {B : Bs} {D : Ends} {σ : St} {G : Hp} {S S1 S2 : Sto} {e c : Expr} {rest body els : List Stmt} {st : Stmt} {pos pos' : Pos}
theorem b_nil (h : At B D.nx σ G S) : At B (cB X [] D) σ G S := fun H s => toB pss_nil (h H s)
theorem b_cons (h : At B (cS X st { D with nx := cB X rest D }) σ G S) : At B (cB X (st :: rest) D) σ G S := fun H s => toB (pss_cons (pS st) (pB rest)) (h H s)
/-- behind an expression -/
theorem at_ev {α : Type} [Rp α] {x : α} {te : TE} {K : PySem.W.Frag} {Q : V → Hp → Prop} {σ : St} (h : Ev K te σ G S x S1) (k : ∀ v G1, Same G G1 → rp K x v G1 → At B (fun _ H => Q v H) σ G1 S1) : At B (fun σ H => te σ H Q) σ G S :=
  fun H s => h G H (Same.refl G) s.hold _ fun v G1 H1 s1 r => k v G1 s1.gg r H1 (s.trans s1)
/-- .. a scalar: the frozen part stays -/
theorem at_evS {α : Type} [Sc α] {x : α} {te : TE} {K : PySem.W.Frag} {Q : V → Hp → Prop} {σ : St} (h : Ev K te σ G S x S1) (k : At B (fun _ H => Q (toV x) H) σ G S1) : At B (fun σ H => te σ H Q) σ G S :=
  fun H s => h G H (Same.refl G) s.hold _ fun v G1 H1 s1 r => by
    rw [Sc.rp_iff.mp r]
    exact k H1 (s.trans (s1.forget (Same.refl G)))
/-- x = e -/
theorem b_set {α : Type} [Rp α] {x : α} (i : Nat) {n : Str} (he : EX X e σ G S x S1) (k : ∀ v G1, Same G G1 → rp X.K x v G1 → At B (cB X rest D) (σ.set i (some v)) G1 S1) (hN : X.N.Nodup) (hi : X.N[i]? = some n := by rfl)
    (hx : Loc X.env.scope n := by first | exact .inl rfl | exact .inr rfl) (hs : swapsWith e (some (.Name n pos')) pos.line X.env = pure false := by rfl) (hf : X.fn n = true ∨ X.env.scope.names.lookup n = some .local := by first | exact .inl rfl | exact .inr rfl) :
    At B (cB X (.Assign [.Name n pos'] e pos :: rest) D) σ G S := b_cons fun H s => toS (ps_set hN hi hx (pE e) hs hf) (at_ev (Q := fun v H => cB X rest D (σ.set i (some v)) H) he (fun v G1 a r H1 s1 => k v G1 a r H1 s1) H s)
theorem b_setS {α : Type} [Sc α] {x : α} (i : Nat) {n : Str} (he : EX X e σ G S x S1) (k : At B (cB X rest D) (σ.set i (some (toV x))) G S1) (hN : X.N.Nodup) (hi : X.N[i]? = some n := by rfl)
    (hx : Loc X.env.scope n := by first | exact .inl rfl | exact .inr rfl) (hs : swapsWith e (some (.Name n pos')) pos.line X.env = pure false := by rfl) (hf : X.fn n = true ∨ X.env.scope.names.lookup n = some .local := by first | exact .inl rfl | exact .inr rfl) :
    At B (cB X (.Assign [.Name n pos'] e pos :: rest) D) σ G S := b_cons fun H s => toS (ps_set hN hi hx (pE e) hs hf) (at_evS (Q := fun v H => cB X rest D (σ.set i (some v)) H) he (fun H1 s1 => k H1 s1) H s)
/-- e, its value dropped -/
theorem b_expr {α : Type} [Rp α] {x : α} (he : EX X e σ G S x S1) (k : ∀ v G1, Same G G1 → rp X.K x v G1 → At B (cB X rest D) σ G1 S1) (hs : swapsWith e none pos.line X.env = pure false := by rfl) : At B (cB X (.Expr e pos :: rest) D) σ G S :=
  b_cons fun H s => toS (ps_expr (pE e) hs) (at_ev (Q := fun v H => cB X rest D σ H) he (fun v G1 a r H1 s1 => k v G1 a r H1 s1) H s)
theorem b_exprS {α : Type} [Sc α] {x : α} (he : EX X e σ G S x S1) (k : At B (cB X rest D) σ G S1) (hs : swapsWith e none pos.line X.env = pure false := by rfl) : At B (cB X (.Expr e pos :: rest) D) σ G S :=
  b_cons fun H s => toS (ps_expr (pE e) hs) (at_evS (Q := fun v H => cB X rest D σ H) he (fun H1 s1 => k H1 s1) H s)
/-- return e -/
theorem b_ret {α : Type} [Rp α] {x : α} (he : EX X e σ G S x S1) (k : ∀ v G1 H1, Same G G1 → Stp B.G B.S B.H G1 S1 H1 → rp X.K x v G1 → D.rt v H1) : At B (cB X (.Return (some e) pos :: rest) D) σ G S :=
  b_cons fun H s => toS (ps_ret (pE e)) (at_ev (Q := fun v H => D.rt v H) he (fun v G1 a r H1 s1 => k v G1 H1 a s1 r) H s)
theorem b_retN (k : ∀ H1, Stp B.G B.S B.H G S H1 → D.rt .non H1) : At B (cB X (.Return none pos :: rest) D) σ G S := b_cons fun H s => toS ps_retN (k H s)
/-- if -/
theorem b_if {k : Bool} (ht : ET X c σ G S k S1) (h1 : k = true → At B (cB X body { D with nx := cB X rest D }) σ G S1) (h2 : k = false → At B (cB X els { D with nx := cB X rest D }) σ G S1) : At B (cB X (.If c body els pos :: rest) D) σ G S :=
  b_cons fun H s => toS (ps_if (pT c) (pB body) (pB els)) (ht G H (Same.refl G) s.hold _ fun G1 H1 s1 => by
    have s2 := s.trans (s1.forget (Same.refl G))
    cases k with
    | true => exact h1 rfl H1 s2
    | false => exact h2 rfl H1 s2)
/-- if without else -/
theorem b_when {k : Bool} (ht : ET X c σ G S k S1) (h1 : k = true → At B (cB X body { D with nx := cB X rest D }) σ G S1) (h2 : k = false → At B (cB X rest D) σ G S1) : At B (cB X (.If c body [] pos :: rest) D) σ G S :=
  b_if ht h1 fun q => b_nil (h2 q)
theorem b_pass (h : At B (cB X rest D) σ G S) : At B (cB X (.Pass pos :: rest) D) σ G S := b_cons fun H s => toS ps_pass (h H s)
theorem b_break (h : At B D.bk σ G S) : At B (cB X (.Break pos :: rest) D) σ G S := b_cons fun H s => toS ps_break (h H s)
theorem b_cont (h : At B D.ct σ G S) : At B (cB X (.Continue pos :: rest) D) σ G S := b_cons fun H s => toS ps_continue (h H s)
/-- a statement, then a word that what follows is shown from -/
theorem b_cut (M : St → Hp → Sto → Prop) (h : At B (cS X st { D with nx := fun σ H => ∃ G1 S1, Stp B.G B.S B.H G1 S1 H ∧ M σ G1 S1 }) σ G S) (k : ∀ σ1 G1 S1, M σ1 G1 S1 → At B (cB X rest D) σ1 G1 S1) : At B (cB X (st :: rest) D) σ G S := by
  intro H s pins sh I
  refine wpAny_execs_cons (thn (h H s pins sh I) fun f s1 q => ?_)
  cases f with
  | next =>
    obtain ⟨σ', H', I', G1, S1, st1, m⟩ := q
    exact k σ' G1 S1 m H' st1 pins s1 I'
  | ret v => exact q
  | brk => exact q
  | cont => exact q
/-- an if alone, for b_cut -/
theorem s_if {k : Bool} (ht : ET X c σ G S k S1) (h1 : k = true → At B (cB X body D) σ G S1) (h2 : k = false → At B (cB X els D) σ G S1) : At B (cS X (.If c body els pos) D) σ G S :=
  fun H s => toS (ps_if (pT c) (pB body) (pB els)) (ht G H (Same.refl G) s.hold _ fun G1 H1 s1 => by
    have s2 := s.trans (s1.forget (Same.refl G))
    cases k with
    | true => exact h1 rfl H1 s2
    | false => exact h2 rfl H1 s2)
/-- the end of a cut's part -/
theorem at_cut {M : St → Hp → Sto → Prop} (h : M σ G S) : At B (fun σ H => ∃ G1 S1, Stp B.G B.S B.H G1 S1 H ∧ M σ G1 S1) σ G S := fun H s => ⟨G, S, s, h⟩
end
end Gx

-- part GList
set_option Elab.async false
set_option linter.all false
set_option maxRecDepth 100000
set_option maxHeartbeats 1000000
namespace Gx
open PySem PySem.Spec PyProof.Rows L2
open Rp (rp)
open Sc (toV)
variable [Tb]

theorem mem_dom {S : Sto} {a : Addr} {o : HO} (h : (a, o) ∈ S) : a ∈ dom S := List.mem_map.mpr ⟨_, h, rfl⟩
/-- a list that may be read: frozen, of the written part, or owned -/
def LV {α : Type} [Rp α] (K : PySem.W.Frag) (xs : List α) (v : V) (G : Hp) (S : Sto) : Prop := ∃ a vs, v = .ref a ∧ (SqL K G a vs ∨ (a, HO.lst vs) ∈ S) ∧ Its K xs vs G
theorem LV.sq {α : Type} [Rp α] {K : PySem.W.Frag} {xs : List α} {v : V} {G H : Hp} {S : Sto} (h : LV K xs v G S) (hd : Hold G S H) : ∃ a vs, v = .ref a ∧ SqL K H a vs ∧ Its K xs vs G := by
  obtain ⟨a, vs, rfl, h | h, hi⟩ := h
  · exact ⟨a, vs, rfl, hd.ex.seq h, hi⟩
  · exact ⟨a, vs, rfl, SqL.of (hd.own _ h), hi⟩
theorem LV.mono {α : Type} [Rp α] {K : PySem.W.Frag} {xs : List α} {v : V} {G G' : Hp} {S : Sto} (h : LV K xs v G S) (e : Same G G') : LV K xs v G' S := by
  obtain ⟨a, vs, rfl, h | h, hi⟩ := h
  · exact ⟨a, vs, rfl, .inl (e.seq h), hi.mono e⟩
  · exact ⟨a, vs, rfl, .inr h, hi.mono e⟩
def EvL {α : Type} [Rp α] (K : PySem.W.Frag) (te : TE) (σ : St) (G : Hp) (S : Sto) (xs : List α) (S' : Sto) : Prop :=
  ∀ G1 H, Same G G1 → Hold G1 S H → ∀ Q : VK, (∀ v G' H', Stp G1 S H G' S' H' → LV K xs v G' S' → Q v H') → te σ H Q
/-- a new list, owned -/
def EvN {α : Type} [Rp α] (K : PySem.W.Frag) (te : TE) (σ : St) (G : Hp) (S : Sto) (xs : List α) (S' : Sto) : Prop :=
  ∀ G1 H, Same G G1 → Hold G1 S H → ∀ Q : VK, (∀ p vs G' H', H p = none → Stp G1 S H G' ((p, .lst vs) :: S') H' → Its K xs vs G' → Q (.ref p) H') → te σ H Q
abbrev EL (X : Cx) {α : Type} [Rp α] (e : Expr) (σ : St) (G : Hp) (S : Sto) (x : List α) (S' : Sto) : Prop := EvL X.K (cE X e) σ G S x S'
abbrev EN (X : Cx) {α : Type} [Rp α] (e : Expr) (σ : St) (G : Hp) (S : Sto) (x : List α) (S' : Sto) : Prop := EvN X.K (cE X e) σ G S x S'
section
variable {X : Cx} {K : PySem.W.Frag} {B : Bs} {D : Ends} {σ : St} {G : Hp} {S S1 S2 S3 : Sto} {e a b c : Expr} {es rest body els : List Stmt} {ess : List Expr} {st : Stmt} {pos pos' : Pos} {te : TE}
theorem EvL.to {α : Type} [Rp α] {x : List α} {t : TE} (p : PE X e t) (h : EvL X.K t σ G S x S1) : EL X e σ G S x S1 := fun G1 H e hd Q k => toE p (h G1 H e hd Q k)
theorem EvN.to {α : Type} [Rp α] {x : List α} {t : TE} (p : PE X e t) (h : EvN X.K t σ G S x S1) : EN X e σ G S x S1 := fun G1 H e hd Q k => toE p (h G1 H e hd Q k)
theorem EvN.frz {α : Type} [Rp α] {xs : List α} (h : EvN K te σ G S xs S1) : Ev K te σ G S xs S1 := fun G1 H e hd Q k => h G1 H e hd Q fun p vs G' H' hp s hi =>
  have s' := s.freeze (i := 0) (a := p) (o := .lst vs) rfl hp
  k (.ref p) _ H' s' ⟨p, vs, rfl, upd_same, hi.mono fun b u q => by
    have ne : b ≠ p := by
      rintro rfl
      rw [s.hold.sep b (List.mem_cons_self)] at q; cases q
    rw [upd_ne ne]; exact q⟩
theorem Ev.lv {α : Type} [Rp α] {xs : List α} (h : Ev K te σ G S xs S1) : EvL K te σ G S xs S1 := fun G1 H e hd Q k => h G1 H e hd Q fun v G' H' s ⟨a, vs, r, h1, hi⟩ => k v G' H' s ⟨a, vs, r, .inl (SqL.of h1), hi⟩
theorem EvN.lv {α : Type} [Rp α] {xs : List α} (h : EvN K te σ G S xs S1) : EvL K te σ G S xs S1 := (EvN.frz h).lv
theorem Ev.scr {ns : List Int} (h : Ev K te σ G S (Scr.mk ns) S1) : EvL K te σ G S ns S1 := fun G1 H e hd Q k => h G1 H e hd Q fun v G' H' s ⟨a, r, h1⟩ => k v G' H' s ⟨a, _, r, .inl h1, Its.ofSc ns⟩
/-- an owned list at a name -/
theorem el_own {α : Type} [Rp α] {xs : List α} {vs : List V} {l : Addr} (i j : Nat) {n : Str} (h : σ[i]? = some (some (.ref l))) (hj : S[j]? = some (l, .lst vs)) (hi : Its X.K xs vs G) (hN : X.N[i]? = some n := by rfl)
    (hv : Vis X.env.scope n := by first | exact Or.inl rfl | exact Or.inr (Or.inl rfl) | exact Or.inr (Or.inr rfl)) (hd : (n == ("__debug__" : Str)) = false := by decide) (hcd : (n == ("__classdict__" : Str)) = false := by decide) :
    EL X (.Name n pos) σ G S xs S := EvL.to (pe_var hN hv hd hcd) fun G1 H e hd Q k => ⟨_, h, k _ G1 H (.refl hd) ⟨l, vs, rfl, .inr (List.mem_of_getElem? hj), hi.mono e⟩⟩

theorem atI_its {α : Type} [Rp α] {xs : List α} {vs : List V} {i : Int} {x : α} (hi : Its K xs vs G) (h : atI xs i = some x) : ∃ v, atI vs i = some v ∧ rp K x v G := by
  unfold atI at h ⊢
  rw [← Pd.len hi]
  cases e : ixN xs.length i with
  | none => rw [e] at h; cases h
  | some j =>
    rw [e] at h
    obtain ⟨v, h1, h2⟩ := Pd.getL hi (show xs[j]? = some x from h)
    exact ⟨v, h1, h2⟩
/-- xs[i], a list that may be owned: the index changes nothing owned -/
theorem ex_ix {α : Type} [Rp α] {xs : List α} {i : Int} {x : α} (ha : EL X a σ G S xs S1) (hb : EX X b σ G S1 i S1) (hx : atI xs i = some x) (hs : PlainIx b := by exact fun _ _ => rfl) : EX X (.Subscript a b pos) σ G S x S1 :=
  Ev.to (pe_ix ix_list (pE a) (pE b) hs) fun G1 H e hd Q k => ha G1 H e hd _ fun v G2 H2 s2 r2 => hb G2 H2 (e.trans s2.gg) s2.hold _ fun u G3 H3 s3 r3 => by
    obtain ⟨l, vs, rfl, hq, hi⟩ := (r2.mono s3.gg).sq s3.hold
    obtain ⟨w, hw, rw'⟩ := atI_its hi hx
    exact ⟨l, vs, i, w, rfl, r3, hq, hw, k w G3 H3 (s2.trans s3) rw'⟩
/-- xs[i], xs frozen: the index may do what it likes -/
theorem ex_ixF {α : Type} [Rp α] {xs : List α} {i : Int} {x : α} (ha : EX X a σ G S xs S1) (hb : EX X b σ G S1 i S2) (hx : atI xs i = some x) (hs : PlainIx b := by exact fun _ _ => rfl) : EX X (.Subscript a b pos) σ G S x S2 :=
  Ev.to (pe_ix ix_list (pE a) (pE b) hs) (ev_op ha hb fun v u G1 H1 e hd ⟨l, vs, h1, h2, hi⟩ ru Q k => by
    obtain ⟨w, hw, rw'⟩ := atI_its hi hx
    exact ⟨l, vs, i, w, h1, ru, SqL.of (hd.ex _ _ h2), hw, k w G1 H1 (.refl hd) rw'⟩)
theorem ex_len {α : Type} [Rp α] {xs : List α} {p : Pos} (ha : EL X a σ G S xs S1) (hm : X.mg "len" = none) (hg : Gl X "len" := by rfl) (hse : starEach [a] X.env = (false, eval a X.env) :: starEach [] X.env := by rfl) : EX X (.Call (.Name "len" p) [a] [] pos) σ G S (xs.length : Int) S1 :=
  Ev.to (pe_callB call_len_seq hg hm PySem.boot_len (pa_cons (pE a) pa_nil hse) (he := hse)) fun G1 H e hd Q k => ha G1 H e hd _ fun v G2 H2 s2 r2 => by
    obtain ⟨l, vs, rfl, hq, hi⟩ := r2.sq s2.hold
    refine ⟨l, vs, rfl, .inl hq, ?_⟩
    rw [← Pd.len hi]
    exact k _ G2 H2 s2 rfl
theorem map_int (xs : List Int) : xs.map (toV : Int → V) = xs.map V.int := rfl
theorem ex_sum {xs : List Int} {p : Pos} (hc : X.calm = true) (ha : EL X a σ G S xs S1) (hm : X.mg "sum" = none) (hg : Gl X "sum" := by rfl) (hse : starEach [a] X.env = (false, eval a X.env) :: starEach [] X.env := by rfl) : EX X (.Call (.Name "sum" p) [a] [] pos) σ G S xs.sum S1 :=
  Ev.to (pe_callB (cr_sum hc) hg hm (by decide +kernel) (pa_cons (pE a) pa_nil hse) (he := hse)) fun G1 H e hd Q k => ha G1 H e hd _ fun v G2 H2 s2 r2 => by
    obtain ⟨l, vs, rfl, hq, hi⟩ := r2.sq s2.hold
    rw [Its.sc hi] at hq
    exact ⟨l, xs, rfl, hq, k _ G2 H2 s2 rfl⟩
theorem ex_any {xs : List Bool} {p : Pos} (hc : X.calm = true) (ha : EL X a σ G S xs S1) (hm : X.mg "any" = none) (hg : Gl X "any" := by rfl) (hse : starEach [a] X.env = (false, eval a X.env) :: starEach [] X.env := by rfl) : EX X (.Call (.Name "any" p) [a] [] pos) σ G S (xs.any id) S1 :=
  Ev.to (pe_callB (cr_any hc) hg hm (by decide +kernel) (pa_cons (pE a) pa_nil hse) (he := hse)) fun G1 H e hd Q k => ha G1 H e hd _ fun v G2 H2 s2 r2 => by
    obtain ⟨l, vs, rfl, hq, hi⟩ := r2.sq s2.hold
    rw [Its.sc hi] at hq
    exact ⟨l, xs, rfl, hq, k _ G2 H2 s2 rfl⟩
theorem ex_all {xs : List Bool} {p : Pos} (hc : X.calm = true) (ha : EL X a σ G S xs S1) (hm : X.mg "all" = none) (hg : Gl X "all" := by rfl) (hse : starEach [a] X.env = (false, eval a X.env) :: starEach [] X.env := by rfl) : EX X (.Call (.Name "all" p) [a] [] pos) σ G S (xs.all id) S1 :=
  Ev.to (pe_callB (cr_all hc) hg hm (by decide +kernel) (pa_cons (pE a) pa_nil hse) (he := hse)) fun G1 H e hd Q k => ha G1 H e hd _ fun v G2 H2 s2 r2 => by
    obtain ⟨l, vs, rfl, hq, hi⟩ := r2.sq s2.hold
    rw [Its.sc hi] at hq
    exact ⟨l, xs, rfl, hq, k _ G2 H2 s2 rfl⟩
/-- int(n), int(True) -/
theorem ex_toInt {n : Int} {p : Pos} (ha : EX X a σ G S n S1) (hm : X.mg "int" = none) (hg : Gl X "int" := by rfl) (hse : starEach [a] X.env = (false, eval a X.env) :: starEach [] X.env := by rfl) : EX X (.Call (.Name "int" p) [a] [] pos) σ G S n S1 :=
  Ev.to (pe_callTy call_int1 hg hm (by decide +kernel) (pa_cons (pE a) pa_nil hse) (he := hse)) fun G1 H e hd Q k => ha G1 H e hd _ fun v G2 H2 s2 r2 => .inl ⟨n, by rw [show v = .int n from r2], k _ G2 H2 s2 rfl⟩
theorem ex_toIntB {n : Bool} {p : Pos} (ha : EX X a σ G S n S1) (hm : X.mg "int" = none) (hg : Gl X "int" := by rfl) (hse : starEach [a] X.env = (false, eval a X.env) :: starEach [] X.env := by rfl) : EX X (.Call (.Name "int" p) [a] [] pos) σ G S (if n then 1 else 0 : Int) S1 :=
  Ev.to (pe_callTy call_int1 hg hm (by decide +kernel) (pa_cons (pE a) pa_nil hse) (he := hse)) fun G1 H e hd Q k => ha G1 H e hd _ fun v G2 H2 s2 r2 => .inr ⟨n, by rw [show v = .bl n from r2], k _ G2 H2 s2 rfl⟩

/-! ### new lists -/
/-- items of a display -/
def ItA {α : Type} [Rp α] (K : PySem.W.Frag) (xs : List α) : List V → Hp → Prop := fun vs G => Its K xs vs G
theorem ei_nil {α : Type} [Rp α] : EA X [] σ G S (ItA X.K ([] : List α)) S := EvA.to pa_nil fun G1 H e hd Q q => q [] G1 H (.refl hd) .nil
theorem ei_cons {α : Type} [Rp α] {x : α} {xs : List α} (h : EX X e σ G S x S1) (hr : EA X ess σ G S1 (ItA X.K xs) S2) (hs : starEach (e :: ess) X.env = (false, eval e X.env) :: starEach ess X.env := by rfl) : EA X (e :: ess) σ G S (ItA X.K (x :: xs)) S2 :=
  EvA.to (pa_cons (pE e) (pA ess) hs) fun G1 H e hd Q q => h G1 H e hd _ fun v G' H' s r => hr G' H' (e.trans s.gg) s.hold _ fun vs G2 H2 s2 r2 => q (v :: vs) G2 H2 (s.trans s2) (.cons (Rp.mono s2.gg r) r2)
theorem en_lst {α : Type} [Rp α] {xs : List α} (h : EA X ess σ G S (ItA X.K xs) S1) (hl : xs.length ≤ 100000) : EN X (.List ess pos) σ G S xs S1 :=
  EvN.to (pe_lst (pA ess)) fun G1 H e hd Q k => h G1 H e hd _ fun vs G2 H2 s2 r2 => ⟨by rw [← Pd.len r2]; exact Nat.le_trans hl (by decide), fun p hp => by
    have hHp : H p = none := by
      cases q : H p with
      | none => rfl
      | some o =>
        obtain ⟨o', e'⟩ := s2.th p o q
        rw [hp] at e'; cases e'
    exact k p vs G2 _ hHp (s2.trans (Stp.own s2.hold hp (.lst vs))) r2⟩
theorem en_list {α : Type} [Rp α] {xs : List α} {p : Pos} (ha : EL X a σ G S xs S1) (hm : X.mg "list" = none) (hg : Gl X "list" := by rfl) (hse : starEach [a] X.env = (false, eval a X.env) :: starEach [] X.env := by rfl) : EN X (.Call (.Name "list" p) [a] [] pos) σ G S xs S1 :=
  EvN.to (pe_callTy call_list_of hg hm (by decide +kernel) (pa_cons (pE a) pa_nil hse) (he := hse)) fun G1 H e hd Q k => ha G1 H e hd _ fun v G2 H2 s2 r2 => by
    obtain ⟨l, vs, rfl, hq, hi⟩ := r2.sq s2.hold
    refine ⟨l, vs, rfl, .inl hq, fun p hp => ?_⟩
    have hHp : H p = none := by
      cases q : H p with
      | none => rfl
      | some o =>
        obtain ⟨o', e'⟩ := s2.th p o q
        rw [hp] at e'; cases e'
    exact k p vs G2 _ hHp (s2.trans (Stp.own s2.hold hp (.lst vs))) hi
/-- a slice's part -/
def EvO (to : TO) (σ : St) (G : Hp) (S : Sto) (o : Option Int) (S' : Sto) : Prop :=
  ∀ G1 H, Same G G1 → Hold G1 S H → ∀ Q : Option Int → Hp → Prop, (∀ G' H', Stp G1 S H G' S' H' → Q o H') → to σ H Q
theorem eo_none : EvO tNoPart σ G S none S := fun G1 H e hd Q k => k G1 H (.refl hd)
theorem eo_some {i : Int} {te : TE} (h : Ev K te σ G S i S1) : EvO (tPart te) σ G S (some i) S1 := fun G1 H e hd Q k => h G1 H e hd _ fun v G' H' s r => ⟨i, r, k G' H' s⟩
def cutL {α : Type} (xs : List α) (lo hi : Option Int) : List α := (xs.drop (HT.sIx xs.length 0 lo)).take (HT.sIx xs.length xs.length hi - HT.sIx xs.length 0 lo)
theorem Its.cut {α : Type} [Rp α] {xs : List α} {vs : List V} (lo hi : Option Int) (h : Its K xs vs G) : Its K (cutL xs lo hi) (cutV vs lo hi) G := by
  unfold cutL cutV
  rw [← Pd.len h]
  exact Pd.take _ (Pd.drop _ h)
theorem en_slice {α : Type} [Rp α] {xs : List α} {lo hi : Option Expr} {tl th : TO} {l u : Option Int} {p2 : Pos} (pl : PO X lo tl) (pu : PO X hi th) (ha : EL X a σ G S xs S1) (hl : ∀ G, EvO tl σ G S1 l S1) (hu : ∀ G, EvO th σ G S1 u S1) :
    EN X (.Subscript a (.Slice lo hi none p2) pos) σ G S (cutL xs l u) S1 :=
  EvN.to (pe_slice sl_list (pE a) pl pu) fun G1 H e hd Q k => ha G1 H e hd _ fun v G2 H2 s2 r2 => hl G2 G2 H2 (Same.refl _) s2.hold _ fun G3 H3 s3 => hu G3 G3 H3 (Same.refl _) s3.hold _ fun G4 H4 s4 => by
    obtain ⟨x, vs, rfl, hq, hi⟩ := ((r2.mono s3.gg).mono s4.gg).sq s4.hold
    refine ⟨x, vs, rfl, hq, fun p hp => ?_⟩
    have s := (s2.trans s3).trans s4
    have hHp : H p = none := by
      cases q : H p with
      | none => rfl
      | some o =>
        obtain ⟨o', e'⟩ := s.th p o q
        rw [hp] at e'; cases e'
    exact k p _ G4 _ hHp (s.trans (Stp.own s4.hold hp _)) (hi.cut l u)
/-! ### statements about owned lists -/
/-- x = a new list -/
theorem b_setN {α : Type} [Rp α] {xs : List α} (i : Nat) {n : Str} (he : EN X e σ G S xs S1) (k : ∀ p vs G1, Same G G1 → Its X.K xs vs G1 → B.H p = none → At B (cB X rest D) (σ.set i (some (.ref p))) G1 ((p, .lst vs) :: S1)) (hN : X.N.Nodup) (hi : X.N[i]? = some n := by rfl)
    (hx : Loc X.env.scope n := by first | exact .inl rfl | exact .inr rfl) (hs : swapsWith e (some (.Name n pos')) pos.line X.env = pure false := by rfl) (hf : X.fn n = true ∨ X.env.scope.names.lookup n = some .local := by first | exact .inl rfl | exact .inr rfl) :
    At B (cB X (.Assign [.Name n pos'] e pos :: rest) D) σ G S := b_cons fun H s => toS (ps_set hN hi hx (pE e) hs hf) (he G H (Same.refl G) s.hold _ fun p vs G1 H1 hp s1 r => k p vs G1 s1.gg r (by
      cases q : B.H p with
      | none => rfl
      | some o =>
        obtain ⟨o', e'⟩ := s.th p o q
        rw [hp] at e'; cases e') H1 (s.trans s1))
/-- xs[i] = e, the list owned at place j -/
theorem b_setix {α : Type} [Rp α] {x : α} {vs : List V} {l : Addr} {kx : Int} {m : Nat} (j : Nat) (he : EX X e σ G S x S1) (ho : ∀ G, EX X a σ G S1 (Ow.mk l) S1) (hi : ∀ G, EX X b σ G S1 kx S1) (hj : S1[j]? = some (l, .lst vs)) (hk : ixN vs.length kx = some m)
    (k : ∀ v G1, Same G G1 → rp X.K x v G1 → At B (cB X rest D) σ G1 (S1.set j (l, .lst (vs.set m v))))
    (hs : swapsWithSole [.Subscript a b pos'] e pos.line X.env = pure false := by rfl) (hw : swappedStores [.Subscript a b pos'] e X.env = pure none := by rfl)
    (h1 : (assignEach [.Subscript a b pos'] X.env).map (·.2) = [assign (.Subscript a b pos') X.env] := by rfl)
    (hasg : ∀ v, assign (.Subscript a b pos') X.env v = (do
      let ov ← holding [v] (eval a X.env)
      let iv ← holding [v, ov] (eval b X.env)
      standAt pos'
      holding [v, ov, iv] (setItem ov iv v)
      release [v, ov, iv] []) := by intro _; rfl) : At B (cB X (.Assign [.Subscript a b pos'] e pos :: rest) D) σ G S :=
  b_cons fun H s => toS (ps_asg (pE e) (pg_sub (pE a) (pE b) set_list hasg) hs hw h1) (he G H (Same.refl G) s.hold _ fun v G1 H1 s1 r1 => ho G1 G1 H1 (Same.refl _) s1.hold _ fun o G2 H2 s2 r2 => hi G2 G2 H2 (Same.refl _) s2.hold _ fun i G3 H3 s3 r3 => by
    have e := s1.gg.trans (s2.gg.trans s3.gg)
    have sx := ((s.trans s1).trans s2).trans s3
    refine ⟨l, vs, kx, m, r2, r3, s3.hold.own _ (List.mem_of_getElem? hj), hk, ?_⟩
    exact k v G3 e (Rp.mono (s2.gg.trans s3.gg) r1) _ (sx.trans (Stp.write s3.hold hj)))
theorem b_setixS {α : Type} [Sc α] {x : α} {vs : List V} {l : Addr} {kx : Int} {m : Nat} (j : Nat) (he : EX X e σ G S x S1) (ho : ∀ G, EX X a σ G S1 (Ow.mk l) S1) (hi : ∀ G, EX X b σ G S1 kx S1) (hj : S1[j]? = some (l, .lst vs)) (hk : ixN vs.length kx = some m)
    (k : At B (cB X rest D) σ G (S1.set j (l, .lst (vs.set m (toV x)))))
    (hs : swapsWithSole [.Subscript a b pos'] e pos.line X.env = pure false := by rfl) (hw : swappedStores [.Subscript a b pos'] e X.env = pure none := by rfl)
    (h1 : (assignEach [.Subscript a b pos'] X.env).map (·.2) = [assign (.Subscript a b pos') X.env] := by rfl)
    (hasg : ∀ v, assign (.Subscript a b pos') X.env v = (do
      let ov ← holding [v] (eval a X.env)
      let iv ← holding [v, ov] (eval b X.env)
      standAt pos'
      holding [v, ov, iv] (setItem ov iv v)
      release [v, ov, iv] []) := by intro _; rfl) : At B (cB X (.Assign [.Subscript a b pos'] e pos :: rest) D) σ G S := by
  refine b_cons fun H s => toS (ps_asg (pE e) (pg_sub (pE a) (pE b) set_list hasg) hs hw h1) (he G H (Same.refl G) s.hold _ fun v G1 H1 s1 r1 => ho G1 G1 H1 (Same.refl _) s1.hold _ fun o G2 H2 s2 r2 => hi G2 G2 H2 (Same.refl _) s2.hold _ fun i G3 H3 s3 r3 => ?_)
  have e := s1.gg.trans (s2.gg.trans s3.gg)
  have sx := ((s.trans s1).trans s2).trans s3
  refine ⟨l, vs, kx, m, r2, r3, s3.hold.own _ (List.mem_of_getElem? hj), hk, ?_⟩
  rw [Sc.rp_iff.mp r1]
  have sf : Stp B.G B.S B.H G S1 H3 := s.trans ((s1.trans (s2.trans s3)).forget (Same.refl G))
  exact k _ (sf.trans (Stp.write sf.hold hj))
/-- xs.append(e), the list owned at place j -/
theorem b_app {α : Type} [Rp α] {x : α} {vs : List V} {l : Addr} {apos cpos : Pos} (j : Nat) (ho : EX X a σ G S (Ow.mk l) S) (he : EX X e σ G S x S1) (hj : S1[j]? = some (l, .lst vs)) {vs0 : List V} (hj0 : (l, HO.lst vs0) ∈ S) (hl : vs.length < 100000)
    (k : ∀ v G1, Same G G1 → rp X.K x v G1 → At B (cB X rest D) σ G1 (S1.set j (l, .lst (vs ++ [v]))))
    (hp : PE X (.Call (.Attribute a "append" apos) [e] [] cpos) (tBM X.K "list" rAppend (cE X a) (tCons (cE X e) tNil)) := by exact pe_bm PySem.F.plainAttrs_list PySem.F.slot_list_append PySem.F.type_list_append mt_append (pE _) (pa_cons (pE _) pa_nil))
    (hsw : swapsWith (.Call (.Attribute a "append" apos) [e] [] cpos) none pos.line X.env = pure false := by rfl) :
    At B (cB X (.Expr (.Call (.Attribute a "append" apos) [e] [] cpos) pos :: rest) D) σ G S :=
  b_cons fun H s => toS (ps_expr hp hsw) (ho G H (Same.refl G) s.hold _ fun o G1 H1 s1 r1 => by
    refine ⟨by rw [show o = V.ref l from r1]; exact .inl ⟨rfl, _, SqL.of (s1.hold.own _ hj0)⟩, he G1 H1 s1.gg s1.hold _ fun v G2 H2 s2 r2 => ?_⟩
    refine ⟨l, vs, v, r1, rfl, s2.hold.own _ (List.mem_of_getElem? hj), Nat.lt_of_lt_of_le hl (by decide), ?_⟩
    exact k v G2 (s1.gg.trans s2.gg) r2 _ (((s.trans s1).trans s2).trans (Stp.write s2.hold hj)))
end
end Gx

-- part GDef
set_option Elab.async false
set_option linter.all false
set_option maxRecDepth 100000
set_option maxHeartbeats 1000000
namespace Gx
open PySem PySem.Spec PyProof.Rows L2
open Rp (rp)
open Sc (toV)
variable [Tb]

/-- a promise: the arguments, by their data i, are A i; the owned cells S i become S' i; the answer is y i -/
def Pm {ι β : Type} [Rp β] (K : PySem.W.Frag) (A : ι → List V → Hp → Prop) (S : ι → Sto) (pre : ι → Prop) (y : ι → β) (S' : ι → Sto) : Sp :=
  fun vs H Q _ => ∃ (i : ι) (G : Hp), Hold G (S i) H ∧ A i vs G ∧ pre i ∧ ∀ v G' H', Stp G (S i) H G' (S' i) H' → rp K (y i) v G' → Q v H'
theorem Pm.does {ι β : Type} [Rp β] {K : PySem.W.Frag} {A : ι → List V → Hp → Prop} {S : ι → Sto} {pre : ι → Prop} {y : ι → β} {S' : ι → Sto} (i : ι) (h : pre i) : Does K (Pm K A S pre y S') (A i) (S i) (y i) (S' i) :=
  fun vs G H Q E hd a k => ⟨i, G, hd, a, h, k⟩
/-- .. a new list is handed back, owned -/
def PmN {ι β : Type} [Rp β] (K : PySem.W.Frag) (A : ι → List V → Hp → Prop) (S : ι → Sto) (pre : ι → Prop) (y : ι → List β) (S' : ι → Sto) : Sp :=
  fun vs H Q _ => ∃ (i : ι) (G : Hp), Hold G (S i) H ∧ A i vs G ∧ pre i ∧ ∀ p us G' H', H p = none → Stp G (S i) H G' ((p, .lst us) :: S' i) H' → Its K (y i) us G' → Q (.ref p) H'
def DoesN {β : Type} [Rp β] (K : PySem.W.Frag) (sp : Sp) (A : List V → Hp → Prop) (S : Sto) (y : List β) (S' : Sto) : Prop :=
  ∀ vs G H Q E, Hold G S H → A vs G → (∀ p us G' H', H p = none → Stp G S H G' ((p, .lst us) :: S') H' → Its K y us G' → Q (.ref p) H') → sp vs H Q E
theorem PmN.does {ι β : Type} [Rp β] {K : PySem.W.Frag} {A : ι → List V → Hp → Prop} {S : ι → Sto} {pre : ι → Prop} {y : ι → List β} {S' : ι → Sto} (i : ι) (h : pre i) : DoesN K (PmN K A S pre y S') (A i) (S i) (y i) (S' i) :=
  fun vs G H Q E hd a k => ⟨i, G, hd, a, h, k⟩
theorem DoesN.frame0 {β : Type} [Rp β] {K : PySem.W.Frag} {sp : Sp} {A : List V → Hp → Prop} {y : List β} {S : Sto} (d : DoesN K sp A [] y []) : DoesN K sp A S y S := fun vs G H Q E hd a k => by
  refine d vs G H Q E ⟨hd.ex, (fun _ m => nomatch m), (fun _ m => nomatch m), List.nodup_nil, (fun _ m => nomatch m), hd.tb, hd.tg⟩ a fun p us G' H' hp s r => k p us G' H' hp ?_ r
  have fr : ∀ b o, H b = some o → (∀ ps, o ≠ .tbl ps) → H' b = some o := fun b o e nt => s.fr b o (fun m => nomatch m) e nt
  have np : ∀ b ∈ dom S, b ≠ p := fun b m z => by
    obtain ⟨q, hq, e⟩ := List.mem_map.mp m
    have e' : q.1 = b := e
    have := hd.own q hq
    rw [e', z, hp] at this; cases this
  refine ⟨⟨s.hold.ex, fun q m => ?_, fun a m => ?_, ?_, fun q m => ?_, s.hold.tb, s.hold.tg⟩, s.gg, fun b o _ e => fr b o e, s.new, fun b m => ?_, s.th⟩
  · rcases List.mem_cons.mp m with e | m
    · rw [e]; exact s.hold.own _ (List.mem_cons_self)
    · exact fr _ _ (hd.own q m) (ncT (hd.nc q m))
  · rcases List.mem_cons.mp m with e | m
    · rw [e]; exact s.hold.sep p List.mem_cons_self
    · obtain ⟨q, hq, rfl⟩ := List.mem_map.mp m
      exact s.new _ _ (hd.sep _ m) (hd.own q hq)
  · exact List.nodup_cons.mpr ⟨fun m => np p m rfl, hd.nd⟩
  · rcases List.mem_cons.mp m with e | m
    · rw [e]; exact s.hold.nc _ List.mem_cons_self
    · exact hd.nc q m
  · rcases List.mem_cons.mp m with e | m
    · rw [e]; exact .inr hp
    · exact .inl m
theorem DoesN.frame1 {β : Type} [Rp β] {K : PySem.W.Frag} {sp : Sp} {A : List V → Hp → Prop} {y : List β} {S : Sto} {i : Nat} {a : Addr} {o u : HO} (d : DoesN K sp A [(a, o)] y [(a, u)]) (hi : S[i]? = some (a, o)) : DoesN K sp A S y (S.set i (a, u)) := fun vs G H Q E hd ar k => by
  have hin : (a, o) ∈ S := List.mem_of_getElem? hi
  have hda : a ∈ dom S := List.mem_map.mpr ⟨_, hin, rfl⟩
  refine d vs G H Q E ⟨hd.ex, fun p m => by rw [List.mem_singleton.mp m]; exact hd.own _ hin, fun b m => by rw [List.mem_singleton.mp m]; exact hd.sep a hda, by simp, fun p m => by rw [List.mem_singleton.mp m]; exact hd.nc _ hin, hd.tb, hd.tg⟩ ar fun p us G' H' hp s r => k p us G' H' hp ?_ r
  have fr : ∀ b o, b ≠ a → H b = some o → (∀ ps, o ≠ .tbl ps) → H' b = some o := fun b o ne e nt => s.fr b o (fun m => ne (List.mem_singleton.mp m)) e nt
  have np : ∀ b ∈ dom S, b ≠ p := fun b m z => by
    obtain ⟨q, hq, e⟩ := List.mem_map.mp m
    have e' : q.1 = b := e
    have := hd.own q hq
    rw [e', z, hp] at this; cases this
  refine ⟨⟨s.hold.ex, fun q m => ?_, fun b m => ?_, ?_, fun q m => ?_, s.hold.tb, s.hold.tg⟩, s.gg, fun b o' hb e nt => fr b o' (fun z => hb (z ▸ hda)) e nt, s.new, fun b m => ?_, s.th⟩
  · rcases List.mem_cons.mp m with e | m
    · rw [e]; exact s.hold.own _ (List.mem_cons_self)
    · obtain ⟨j, hj⟩ := List.getElem?_of_mem m
      by_cases e : i = j
      · subst e
        have hl : i < S.length := (List.getElem?_eq_some_iff.mp hi).1
        rw [List.getElem?_set_self hl] at hj
        cases hj
        exact s.hold.own (a, u) (List.mem_cons_of_mem _ (List.mem_singleton.mpr rfl))
      · rw [List.getElem?_set_ne e] at hj
        have ne : q.1 ≠ a := by
          intro z
          obtain ⟨q1, q2⟩ := q
          have z' : q1 = a := z
          subst z'
          exact e (nodup_key hd.nd hi hj)
        exact fr _ _ ne (hd.own q (List.mem_of_getElem? hj)) (ncT (hd.nc q (List.mem_of_getElem? hj)))
  · rcases List.mem_cons.mp m with e | m
    · rw [e]; exact s.hold.sep p List.mem_cons_self
    · have m : b ∈ dom (S.set i (a, u)) := m
      rw [dom_set hi] at m
      obtain ⟨q, hq, rfl⟩ := List.mem_map.mp m
      exact s.new _ _ (hd.sep _ m) (hd.own q hq)
  · refine List.nodup_cons.mpr ⟨fun m => ?_, (by show (dom (S.set i (a, u))).Nodup; rw [dom_set hi]; exact hd.nd)⟩
    have m : p ∈ dom (S.set i (a, u)) := m
    rw [dom_set hi] at m
    exact np p m rfl
  · rcases List.mem_cons.mp m with e | m
    · rw [e]; exact s.hold.nc _ List.mem_cons_self
    · rcases List.mem_or_eq_of_mem_set m with m | rfl
      · exact hd.nc q m
      · exact s.hold.nc (a, u) (List.mem_cons_of_mem _ (List.mem_singleton.mpr rfl))
  · rcases List.mem_cons.mp m with e | m
    · rw [e]; exact .inr hp
    · have m : b ∈ dom (S.set i (a, u)) := m
      rw [dom_set hi] at m; exact .inl m
section
variable {X : Cx} {σ : St} {G : Hp} {S S1 S2 : Sto} {e : Expr} {es rest : List Expr} {pos : Pos}
theorem en_call {β : Type} [Rp β] {y : List β} {x : Str} {p : Pos} {f : Addr} {fd : FuncData} {ps : List Str} {sp : Sp} {CX : CXT} {k : Nat} {A : List V → Hp → Prop} (D : DoesN X.K sp A S1 y S2)
    (F : FnOk X.prog X.w X.K X.mg X.base CX k f fd ps sp) (hr : Room k X.A) (hm : X.mg x = some (.ref f)) (hk : PySem.W.keepIn X.K (.ref f) = true) (hb : Binds X.K fd ps []) {E : XK} (hx : Passes CX X E) (ha : EA X (e :: es) σ G S A S1) (hg : Gl X x := by rfl) (hdb : (x == ("__debug__" : Str)) = false := by decide)
    (hpl : (backTo pos (starEach es X.env)).any (·.1) = false := by rfl) (he : starEach (e :: es) X.env = (false, eval e X.env) :: starEach es X.env := by rfl) : EN X (.Call (.Name x p) (e :: es) [] pos) σ G S y S2 :=
  EvN.to (pe_call F hr hg hm hk hb .nil hx (pA (e :: es)) (hdb := hdb) (he := he) (hpl := hpl)) fun G1 H e hd Q q => ha G1 H e hd _ fun vs G2 H2 s2 r2 => by
    show sp (vs ++ []) H2 Q E
    rw [List.append_nil]
    exact D vs G2 H2 Q E s2.hold r2 fun p us G3 H3 hp s3 r3 => q p us G3 H3 (by
      cases z : H p with
      | none => rfl
      | some o =>
        obtain ⟨o', e'⟩ := s2.th p o z
        rw [hp] at e'; cases e') (s2.trans s3) r3
end
/-- what is wished of the answer -/
def Kq {β : Type} [Rp β] (K : PySem.W.Frag) (B : Bs) (y : β) (S' : Sto) (Q : VK) : Prop := ∀ v G1 H1, Stp B.G B.S B.H G1 S' H1 → rp K y v G1 → Q v H1
def KqN {β : Type} [Rp β] (K : PySem.W.Frag) (B : Bs) (y : List β) (S' : Sto) (Q : VK) : Prop := ∀ p us G1 H1, B.H p = none → Stp B.G B.S B.H G1 ((p, .lst us) :: S') H1 → Its K y us G1 → Q (.ref p) H1
section
variable {X : Cx} {B : Bs} {D : Ends} {σ : St} {G : Hp} {S S1 S2 : Sto} {e c : Expr} {rest : List Stmt} {pos : Pos}
theorem b_retq {β : Type} [Rp β] {x y : β} (kq : Kq X.K B y S1 D.rt) (he : EX X e σ G S x S1) (hx : x = y) : At B (cB X (.Return (some e) pos :: rest) D) σ G S :=
  b_ret he fun v G1 H1 _ s r => kq v G1 H1 s (hx ▸ r)
theorem b_retL {β : Type} [Rp β] {x y : List β} (kq : KqN X.K B y S1 D.rt) (he : EN X e σ G S x S1) (hx : x = y) : At B (cB X (.Return (some e) pos :: rest) D) σ G S :=
  b_cons fun H s => toS (ps_ret (pE e)) (he G H (Same.refl G) s.hold _ fun p vs G1 H1 hp s1 r => kq p vs G1 H1 (by
    cases q : B.H p with
    | none => rfl
    | some o =>
      obtain ⟨o', e'⟩ := s.th p o q
      rw [hp] at e'; cases e') (s.trans s1) (hx ▸ r))
/-- return xs, xs a new list owned at place 0 -/
theorem b_retOwn {β : Type} [Rp β] {x y : List β} {us : List V} {l : Addr} (kq : KqN X.K B y S1 D.rt) (hl : B.H l = none) (he : EX X e σ G ((l, .lst us) :: S1) (Ow.mk l) ((l, .lst us) :: S1)) (hi : Its X.K x us G) (hx : x = y) : At B (cB X (.Return (some e) pos :: rest) D) σ G ((l, .lst us) :: S1) :=
  b_ret he fun v G1 H1 a s r => by
    rw [show v = V.ref l from r]
    exact kq l us G1 H1 hl s (hx ▸ hi.mono a)
end
section
variable {P : Program} {w : World} {K : PySem.W.Frag} {mg : Str → Option Value} {base : Heap}
theorem fn_pm {ι β : Type} [Rp β] {A : ι → List V → Hp → Prop} {S : ι → Sto} {pre : ι → Prop} {y : ι → β} {S' : ι → Sto} {x qual : Str} {st : Stmt} {f : Addr} {fd : FuncData} {N ps : List Str} {k : Nat}
    (F : Fun K x qual st f fd) (sc : FnScope N ps (defScope st)) (len : ∀ i vs G, A i vs G → vs.length = ps.length)
    (h : ∀ (cdv : Value) (A' : Around) (outer : List Env) (s : Shared) (H : Hp) (vs : List V) (Q : VK) (E : XK) (i : ι) (G : Hp), Room k (A'.deeper (envOfC qual (defScope st) s.heap.objs.size f cdv)) → pre i → A i vs G → Kq K ⟨G, S i, H⟩ (y i) (S' i) Q →
      At ⟨G, S i, H⟩ (cB (cxOf CX0 P w K mg base N qual (defScope st) f cdv A' outer s H E).nox (defBody st) { nx := fun _ H' => Q .non H', rt := Q }) (start N vs) G (S i)) :
    FnOk P w K mg base CX0 (k + 1) f fd ps (Pm K A S pre y S') :=
  F.ok sc (fun vs H Q E ⟨i, G, _, a, _⟩ => len i vs G a) fun cdv A' outer s H vs Q E hr ⟨i, G, hd, a, hp, kq⟩ => ⟨cB _ _, pB _, at_start hd (h cdv A' outer s H vs Q E i G hr hp a kq)⟩
theorem fn_pmN {ι β : Type} [Rp β] {A : ι → List V → Hp → Prop} {S : ι → Sto} {pre : ι → Prop} {y : ι → List β} {S' : ι → Sto} {x qual : Str} {st : Stmt} {f : Addr} {fd : FuncData} {N ps : List Str} {k : Nat}
    (F : Fun K x qual st f fd) (sc : FnScope N ps (defScope st)) (len : ∀ i vs G, A i vs G → vs.length = ps.length)
    (h : ∀ (cdv : Value) (A' : Around) (outer : List Env) (s : Shared) (H : Hp) (vs : List V) (Q : VK) (E : XK) (i : ι) (G : Hp), Room k (A'.deeper (envOfC qual (defScope st) s.heap.objs.size f cdv)) → pre i → A i vs G → KqN K ⟨G, S i, H⟩ (y i) (S' i) Q →
      At ⟨G, S i, H⟩ (cB (cxOf CX0 P w K mg base N qual (defScope st) f cdv A' outer s H E).nox (defBody st) { nx := fun _ H' => Q .non H', rt := Q }) (start N vs) G (S i)) :
    FnOk P w K mg base CX0 (k + 1) f fd ps (PmN K A S pre y S') :=
  F.ok sc (fun vs H Q E ⟨i, G, _, a, _⟩ => len i vs G a) fun cdv A' outer s H vs Q E hr ⟨i, G, hd, a, hp, kq⟩ => ⟨cB _ _, pB _, at_start hd (h cdv A' outer s H vs Q E i G hr hp a kq)⟩
end
end Gx

-- part GExc
set_option Elab.async false
set_option linter.all false
set_option maxRecDepth 100000
set_option maxHeartbeats 2000000
/-! An own error class over an own base over ValueError whose __init__ says super().__init__(text) and keeps its one argument. -/
namespace PySem
namespace ErrX
open PySem.W PySem.Calls PyProof.Rows PySem.HandSPX
def iA (x : Str) (p1 p2 : Pos) : Arguments := { posonlyargs := [], args := [{ arg := "self", annotation := none, pos := p1 }, { arg := x, annotation := none, pos := p2 }], vararg := none, kwonlyargs := [], kw_defaults := [], kwarg := none, defaults := [] }
def iB (x txt : Str) (j : Nat) (a1 a2 a3 a4 a5 a6 q1 q2 q3 q4 : Pos) : List Stmt :=
  [.Expr (.Call (.Attribute (.Call (.Name "super" a1) [] [] a2) "__init__" a3) [.Constant (.str txt) j a4] [] a5) a6, .Assign [.Attribute (.Name "self" q1) x q2] (.Name x q3) q4]
def iS (x : Str) : Scope := { kind := .function, names := [(PySem.Str.ofString "self", .local), (x, .local), (PySem.Str.ofString "__class__", .free), (PySem.Str.ofString "super", .globalImplicit)], isGenerator := false, isCoroutine := false, more := [] }
/-- how the call of super().__init__ is read -/
def SupEval (txt : Str) (j : Nat) (a1 a2 a3 a4 a5 : Pos) : Prop := ∀ env : Env, ∃ pl : Sem Bool, eval (.Call (.Attribute (.Call (.Name "super" a1) [] [] a2) "__init__" a3) [.Constant (.str txt) j a4] [] a5) env = (do
      let ov ← attributeBase (.Call (.Name "super" a1) [] [] a2) "__init__" env (eval (.Call (.Name "super" a1) [] [] a2) env)
      standAt a3.atName
      let (f, first) ← holding [ov] (getMethod ov "__init__" pl)
      callWith a5 f first (backTo a5 (starEach [.Constant (.str txt) j a4] env)) [])
/-- the name of the one argument -/
structure OkName (x : Str) : Prop where
  self : x ≠ ("self" : Str)
  cls : x ≠ ("__class__" : Str)
  sup : x ≠ ("super" : Str)
  dbg : (x == ("__debug__" : Str)) = false
/-- what the written part says of the class at C and of its __init__ at fI -/
structure ErrTxt (P : Program) (K : Frag) (C fI : Addr) (nm x : Str) : Prop where
  cls : ∃ nm q N bs bm sn sub ab col dd k0 k1 k2 k3 k5, K.lookup C = some (excClassObj nm q C N bs bm true sn sub ab col dd k0 k1 k2 k3 k5 "ValueError.__new__") ∧ refsVE bm = true
  sa : findIn K (.ref C) "__setattr__" = some (some (.builtin "object.__setattr__"))
  ga : findIn K (.ref C) "__getattribute__" = some (some (.builtin "BaseException.__getattribute__"))
  gg : findIn K (.ref C) "__getattr__" = some none
  noN : findIn K (.ref C) x = some none
  iC : findIn K (.ref C) "__init__" = some (some (.ref fI))
  tC : typeIn K (.ref fI) = some (.type "function")
  kC : keepIn K (.ref C) = true
  exC : subIn K (.ref C) (.type "BaseException") = some true
  veC : subIn K (.ref C) (.type "ValueError") = some true
  tyC : typeIn K (.ref C) = some (.type "type")
  hdC : hasDictIn K C = true
  te : exmOne K (.ref C) (.ref C) = some true
  mro : mroIn K C (.ref C) = some true
  sup : ks_superIn K C C "__init__" = some (some (.builtin "ValueError.__init__"))
  any : nsIn K cStatics "thirdparty.any" = some none
  sg : nsIn K mainGlobals "super" = some none
  top : (P.main.scope.names.lookup ("super" : Str)).isSome = false
  ok : OkName x
  fn : ∃ (oc : Value) (od : Option Addr) (kV doc pm : Value) (an : Option Addr) (cda cc : Addr) (ct : Value) (osl : Array (Option Value)) (txt : Str) (j : Nat) (p1 p2 a1 a2 a3 a4 a5 a6 q1 q2 q3 q4 : Pos),
    K.lookup fI = some ⟨oc, od, .func (fnX "__init__" (nm ++ ".__init__") (iA x p1 p2) (iB x txt j a1 a2 a3 a4 a5 a6 q1 q2 q3 q4) (iS x) [("__class__", cc)] .none kV doc pm an (.ref cda) ct), osl⟩ ∧ codeIn K (.ref cda) (nm ++ ".__init__") = true ∧
    (∃ ccl cdd vs ccs file tf, K.lookup cda = some ⟨ccl, cdd, .fields vs, ccs⟩ ∧ vs[2]? = some (.str file tf) ∧ ((P.main.file : Str) == file) = true) ∧
    (∃ cl cld csl, K.lookup cc = some ⟨cl, cld, .cell (some (.ref C)), csl⟩) ∧
    SupEval txt j a1 a2 a3 a4 a5 ∧ txt.length ≤ sizeLine ∧
    ∀ a b : Value, bindArgs (fnX "__init__" (nm ++ ".__init__") (iA x p1 p2) (iB x txt j a1 a2 a3 a4 a5 a6 q1 q2 q3 q4) (iS x) [("__class__", cc)] .none kV doc pm an (.ref cda) ct) ⟨[a, b], []⟩ = pure [(("self" : Str), a), (x, b)]
theorem kept_but {K : Frag} {h h' : Heap} {x : Addr} (X : K.In h) (hx : K.lookup x = none) (k : ∀ b o, b ≠ x → h.get? b = some o → h'.get? b = some o) : K.In h' := fun a o e =>
  k a o (fun z => by rw [z, hx] at e; cases e) (X a o e)
/-- what __init__ leaves of a fresh exception at x -/
structure InitEnd (h h' : Heap) (x C dx t1 : Addr) (f : Str) (v : Value) : Prop where
  keep : ∀ b o, b ≠ x → h.get? b = some o → h'.get? b = some o
  obj : h'.get? x = some { cls := .ref C, dict := some dx, data := .fields #[.ref t1, .none, .none, .none, .bool false, .none] }
  dbig : h.objs.size ≤ dx
  dne : dx ≠ x
  ns : h'.Ns1 dx (fun y => if y = f then some v else none)
section
variable {prog : Program} {w : World} {M : Model} {A : Around} {E : Value → Shared → Prop} {R : Result → Shared → Prop} {s : Shared} {K : Frag} {mg : Str → Option Value} {C fI : Addr} {nm x : Str}
theorem sup_call {h : Heap} {g : Array GenState} {d : Drawn} {t : Nat} {os : OsState} {e u t0 : Addr} {rest : List Value} {Q : Value → Shared → Prop} {nm q : Str} {N : Addr} {bs bm : List Value} {hdct : Bool} {sn : List Str} {sub : List Value} {ab : Bool} {col : Option Bool} {dd : Option Addr} {k0 k1 k2 k3 k5 : Option Value}
    (hC : h.get? C = some (excClassObj nm q C N bs bm hdct sn sub ab col dd k0 k1 k2 k3 k5 "ValueError.__new__")) (hu : h.get? u = some (kxs_mw "ValueError.__init__" e)) (he : h.get? e = some (excO C t0)) (hz : rest.length ≤ sizeLine)
    (hq : ∀ h', (∀ b o, b ≠ e → h.get? b = some o → h'.get? b = some o) → h'.get? e = some (excO C h.objs.size) → Q .none ⟨h', g, d, t, os⟩) :
    wpAny (model prog w) A (call (.ref u) rest) Q E ⟨h, g, d, t, os⟩ := by
  refine wpAny_call (codeAny_of_tree ?_)
  show wpAny _ A.in1 (callAny (.ref u) ⟨rest, []⟩) _ _ _
  simp only [callAny]
  refine wpAny_bind (wpAny_load hu ?_)
  simp only [kxs_mw, show (Value.type "method-wrapper" == Value.type "method" || Value.type "method-wrapper" == Value.type "builtin_function_or_method" || Value.type "method-wrapper" == Value.type "method-wrapper") = true by decide, if_true]
  refine KFB.if_so (by decide) ?_
  refine wpAny_bind (check_bound_init F.excBase_ValueError.toExcCallFacts hC he rfl ?_)
  refine wpAny_bind (wpAny_pure (wpAny_pure ?_))
  refine ⟨plainId_quiet F.excBase_ValueError.init.plain _, codeAny_builtin F.excBase_ValueError.initEntry ?_⟩
  exact exc_init_tree (cls := .ref C) (t0 := t0) (dv := none) (c2 := .none) (c3 := .none) (b4 := .bool false) he hz fun h' k e' _ => hq h' k e'
theorem err_init (T : ErrTxt prog K C fI nm x) {xe t0 : Addr} {v : Value} (X : K.In s.heap) (hlim : s.heap.NoLimit) (hG : s.heap.Ns mainGlobals mg) (hB : ∃ mb, s.heap.Ns builtinsNs mb ∧ ∀ y : Str, y ≠ "__name__" → mb y = bootBuiltins y)
    (hx : s.heap.get? xe = some (excO C t0)) (hnx : K.lookup xe = none) (hroom : A.depth < recursionLimit)
    (hq : ∀ h' tk dx t1, InitEnd s.heap h' xe C dx t1 x v → R (.ok (.ret .none)) { s with heap := h', toks := tk }) :
    codeAny (model prog w) A (.call (.ref fI) ⟨[.ref xe, v], []⟩) R s := by
  obtain ⟨oc, od, kV, doc, pm, an, cda, cc, ct, osl, txt, j, p1, p2, a1, a2, a3, a4, a5, a6, q1, q2, q3, q4, ho, hcd, ⟨ccl, cdd, vs, ccs, file, tf, hcda, hvs, hfile⟩, ⟨cl, cld, csl, hcc⟩, hev, htx, hbd⟩ := T.fn
  obtain ⟨nm', q, N, bs, bm, sn, sub, ab, col, dd, k0, k1, k2, k3, k5, hC, hbm⟩ := T.cls
  obtain ⟨okS, okC, okP, okD⟩ := T.ok
  have hclD : clsIn K C = some { name := nm', bases := bs, mro := .ref C :: bm, ns := N, qualname := q, hasDict := true, slotNames := sn, subclasses := sub, abstract := ab, collection := col, hasDel := false } := by unfold clsIn; rw [hC] <;> rfl
  have lkS : (iS x).names.lookup ("self" : Str) = some .local := rfl
  have lkX : (iS x).names.lookup x = some .local := by
    show List.lookup x [(PySem.Str.ofString "self", NameKind.local), (x, .local), _, _] = _
    have e1 : (x == PySem.Str.ofString "self") = false := beq_eq_false_iff_ne.mpr okS
    simp only [List.lookup, e1, beq_self_eq_true]
  have lkC : (iS x).names.lookup ("__class__" : Str) = some .free := by
    show List.lookup (PySem.Str.ofString "__class__") [(PySem.Str.ofString "self", NameKind.local), (x, .local), (PySem.Str.ofString "__class__", .free), _] = _
    have e1 : (PySem.Str.ofString "__class__" == PySem.Str.ofString "self") = false := by decide +kernel
    have e2 : (PySem.Str.ofString "__class__" == x) = false := beq_eq_false_iff_ne.mpr (Ne.symm okC)
    simp only [List.lookup, e1, e2, beq_self_eq_true]
  have lkP : (iS x).names.lookup ("super" : Str) = some .globalImplicit := by
    show List.lookup (PySem.Str.ofString "super") [(PySem.Str.ofString "self", NameKind.local), (x, .local), (PySem.Str.ofString "__class__", .free), (PySem.Str.ofString "super", .globalImplicit)] = _
    have e1 : (PySem.Str.ofString "super" == PySem.Str.ofString "self") = false := by decide +kernel
    have e2 : (PySem.Str.ofString "super" == x) = false := beq_eq_false_iff_ne.mpr (Ne.symm okP)
    have e3 : (PySem.Str.ofString "super" == PySem.Str.ofString "__class__") = false := by decide +kernel
    simp only [List.lookup, e1, e2, e3, beq_self_eq_true]
  refine ks_codeAny_call_defAt (body := iB x txt j a1 a2 a3 a4 a5 a6 q1 q2 q3 q4) (binds := [("self", .ref xe), (x, v)]) hroom (X _ _ ho) rfl hlim (codeRec_of X hcd) rfl (BindsTo.of_eq (hbd _ _)) ?_ ?_ (fun h₁ hns hk₁ => ?_)
  · intro y hy
    rcases List.mem_cons.mp hy with rfl | hy
    · intro z; cases z
    rcases List.mem_cons.mp hy with rfl | hy
    · intro z; cases z
    rcases List.mem_cons.mp hy with rfl | hy
    · intro z; cases z
    rcases List.mem_cons.mp hy with rfl | hy
    · intro z; cases z
    · cases hy
  · intro y hy
    rcases List.mem_cons.mp hy with rfl | hy
    · exact lkS
    rcases List.mem_cons.mp hy with rfl | hy
    · exact lkX
    · cases hy
  have hS : h₁.Ns s.heap.objs.size (fun y => if y = x then some v else if y = "self" then some (.ref xe) else none) := by
    have e : (fun y => List.lookup y (List.reverse [(("self" : Str), Value.ref xe), (x, v)])) = (fun y => if y = x then some v else if y = ("self" : Str) then some (.ref xe) else none) := by
      funext y
      show List.lookup y [(x, v), (("self" : Str), Value.ref xe)] = _
      by_cases h1 : y = x
      · subst h1
        simp only [List.lookup, beq_self_eq_true, if_true]
      · have e1 : (y == x) = false := beq_eq_false_iff_ne.mpr h1
        by_cases h2 : y = ("self" : Str)
        · subst h2
          simp only [List.lookup, e1, beq_self_eq_true, if_true, if_neg h1]
        · have e2 : (y == ("self" : Str)) = false := beq_eq_false_iff_ne.mpr h2
          simp only [List.lookup, e1, e2, if_neg h1, if_neg h2]
    rw [← e]
    exact hns
  have mS : (fun y => if y = x then some v else if y = ("self" : Str) then some (Value.ref xe) else none) ("self" : Str) = some (.ref xe) := by
    dsimp only
    rw [if_neg (Ne.symm okS), if_pos rfl]
  have mX : (fun y => if y = x then some v else if y = ("self" : Str) then some (Value.ref xe) else none) x = some v := by
    dsimp only
    rw [if_pos rfl]
  have X₁ : K.In h₁ := X.keeps hk₁
  have hx₁ := hk₁ _ _ hx
  have hne : xe ≠ C := by
    rintro rfl
    rw [X _ _ hC] at hx
    cases hx
  generalize hm : (fun y => if y = x then some v else if y = ("self" : Str) then some (Value.ref xe) else none) = m at hS mS mX
  obtain ⟨pl, hev⟩ := hev (callEnv (fnX "__init__" (nm ++ ".__init__") (iA x p1 p2) (iB x txt j a1 a2 a3 a4 a5 a6 q1 q2 q3 q4) (iS x) [("__class__", cc)] .none kV doc pm an (.ref cda) ct) s.heap.objs.size fI)
  obtain ⟨mb, hb1, hb2⟩ := hB
  have oD : h₁.get? C = some (excClassObj nm' q C N bs bm true sn sub ab col dd k0 k1 k2 k3 k5 "ValueError.__new__") := X₁ _ _ hC
  -- super().__init__(text)
  refine ks_wpAt_execs_cons (ks_wpAt_Expr_any (ks_wpAt_MethodCall (pl := pl) (ks_wpAt_super_base (f := fI) (cc := cda) (ar := { arg := "self", annotation := none, pos := p1 }) lkP lkC (by decide +kernel) rfl (X₁ _ _ ho) rfl rfl rfl (X₁ _ _ hcda) rfl hvs hfile T.top ?_) hev))
  refine ks_loadName_global rfl lkP (loadGlobal_builtin (hG.keeps hk₁) (mg_none_of X hG T.sg) (hb1.keeps hk₁) ((hb2 _ (by decide +kernel)).trans (by decide +kernel)) ⟨rfl, ?_⟩)
  refine wpAny_loadName_free rfl lkC rfl ⟨_, X₁ _ _ hcc, rfl⟩ ?_
  refine wpAny_loadName_local rfl lkS hS mS ?_
  refine ks_wpAny_isType_cls oD rfl ⟨rfl, ?_⟩
  refine ks_wpAny_call_super oD rfl hx₁ rfl (fun c e => by cases e) (looks_mroIn X₁ T.mro) (fun h2 e2 k2 => ?_)
  have X2 : K.In h2 := X₁.keeps k2
  have hx2 := k2 _ _ hx₁
  have hI : Looks (model prog w) h2 (isInstance (.ref xe) (.type "ValueError")) true := (show InstAt h2 xe (excO C t0) C none from ⟨hx2, rfl, rfl, trivial⟩).type.andThen (looks_subIn X2 T.veC)
  have hsup : alongIn K "__init__" (((Value.ref C :: bm).dropWhile (· != .ref C)).drop 1) = some (some (.builtin "ValueError.__init__")) := by
    have z := T.sup
    unfold ks_superIn at z
    rw [hclD] at z
    exact z
  refine kxs_getMethod kxs_ValueError e2 (looks_opaque X2 T.any) (l₀ := .ref C :: bm) (fun A Q E s k q => wpAny_bind ((looks_clsIn X2 hclD) A _ E s k (wpAny_pure q))) rfl X2 hsup hI hne (by decide +kernel) ?_
  have hu : (h2.push (kxs_mw "ValueError.__init__" xe)).get? h2.objs.size = some (kxs_mw "ValueError.__init__" xe) := Heap.get?_push_size _ rfl
  have k3 : ∀ b o, h2.get? b = some o → (h2.push (kxs_mw "ValueError.__init__" xe)).get? b = some o := fun b o e => Heap.get?_push_of_some _ e
  refine kxs_callWith (i := "ValueError.__init__") (x := xe) (by first | rfl | (simp [starEach, backTo]; done)) ?_
  refine evalArgs_plain ?_
  refine spliced_cons ?_
  show wpAny _ _ (eval (.Constant (.str txt) j a4) _) _ _ _
  refine Constant_str (spliced_nil ⟨hu, ?_⟩)
  refine sup_call (k3 _ _ (k2 _ _ oD)) hu (k3 _ _ hx2) (by show 1 ≤ sizeLine; decide) (fun h4 k4 e4 => ?_)
  -- self.x = x
  have K4 : ∀ b o, b ≠ xe → s.heap.get? b = some o → h4.get? b = some o := fun b o hb e => k4 b o hb (k3 _ _ (k2 _ _ (hk₁ _ _ e)))
  have X4 : K.In h4 := kept_but X hnx K4
  have hLx : s.heap.objs.size ≠ xe := Nat.ne_of_gt (Heap.lt_size hx)
  have hS4 : h4.Ns s.heap.objs.size m := by
    obtain ⟨oL, es, ep, hL, r⟩ := hS
    exact ⟨oL, es, ep, k4 _ _ hLx (k3 _ _ (k2 _ _ hL)), r⟩
  refine ks_wpAt_execs_cons (wpAt_of_wpAny (plainObj_wpAny_Assign_Attribute ?_))
  refine wpAny_Name (wpAny_loadName_local rfl lkX hS4 mX ?_) okD
  refine wpAny_Name (wpAny_loadName_local rfl lkS hS4 mS ?_) (by decide +kernel)
  refine set_plain X4 (ox := excO C (h2.push (kxs_mw "ValueError.__init__" xe)).objs.size) (od := none) ⟨e4, rfl, rfl, trivial⟩ T.sa ?_
  refine exc_osa X4 e4 hclD (show refsVE (.ref C :: bm) = true from hbm) rfl T.noN (fun h5 tk5 dx k5' dn dne hx5 hn5 => ?_)
  refine wpAt_of_wpAny (wpAny_execs_nil ?_)
  have z : s.heap.objs.size ≤ h4.objs.size := by
    obtain ⟨oL, _, _, hL, _⟩ := hS4
    exact Nat.le_of_lt (Heap.lt_size hL)
  exact hq h5 tk5 dx _ ⟨fun b o hb e => k5' b o hb (K4 b o hb e), hx5, Nat.le_trans z dn, dne, hn5⟩
/-- a made error -/
structure OwnMade (h h' : Heap) (e C d : Addr) (f : Str) (v : Value) : Prop where
  keep : ∀ b o, h.get? b = some o → h'.get? b = some o
  new : h.objs.size ≤ e
  obj : ∃ oe vs, h'.get? e = some oe ∧ oe.cls = .ref C ∧ oe.dict = some d ∧ oe.data = .fields vs ∧ vs[1]? = some .none
  dbig : h.objs.size ≤ d
  dne : d ≠ e
  ns : h'.Ns1 d (fun y => if y = f then some v else none)
theorem one_size (v : Value) : [v].length ≤ sizeLine := by
  rw [sizeLine_eq]
  exact (by decide : 1 ≤ 16777216)
theorem err_made (T : ErrTxt prog K C fI nm x) {v : Value} (X : K.In s.heap) (hlim : s.heap.NoLimit) (hG : s.heap.Ns mainGlobals mg) (hB : ∃ mb, s.heap.Ns builtinsNs mb ∧ ∀ y : Str, y ≠ "__name__" → mb y = bootBuiltins y) (hroom : A.depth + 1 < recursionLimit)
    (hq : ∀ h' tk e d, OwnMade s.heap h' e C d x v → R (.ok (.ret (.ref e))) { s with heap := h', toks := tk }) :
    codeAny (model prog w) A (.call (.ref C) ⟨[v], []⟩) R s := by
  obtain ⟨nm', q, N, bs, bm, sn, sub, ab, col, dd, k0, k1, k2, k3, k5, hC, hbm⟩ := T.cls
  obtain ⟨hp, g, dr, tk, os⟩ := s
  have k : ∀ b o, hp.get? b = some o → ((hp.push (kdv_tup [v])).push (excO C hp.objs.size)).get? b = some o := fun b o e => Heap.get?_push_of_some _ (Heap.get?_push_of_some _ e)
  have hget : ((hp.push (kdv_tup [v])).push (excO C hp.objs.size)).get? (hp.objs.size + 1) = some (excO C hp.objs.size) := by heap_get
  have hnx : K.lookup (hp.objs.size + 1) = none := by
    cases e : K.lookup (hp.objs.size + 1) with
    | none => rfl
    | some o =>
      have z : hp.get? (hp.objs.size + 1) = some o := X _ _ e
      exact absurd (Nat.lt_of_succ_lt (Heap.lt_size z)) (Nat.lt_irrefl _)
  obtain ⟨mb, hb1, hb2⟩ := hB
  refine call_own F.excBase_ValueError (fun X => refsVE_contains X bm hbm) (X _ _ hC) (looks_findIn X T.iC) (fun self => bind_fn X self T.tC) (one_size v) ?_
  refine err_init (s := ⟨(hp.push (kdv_tup [v])).push (excO C hp.objs.size), g, dr, tk, os⟩) T (X.keeps k) (hlim.keeps k) (hG.keeps k) ⟨mb, hb1.keeps k, hb2⟩ hget hnx ?_ fun h' tk' dx t1 ⟨k', hx, dn, dne, hns⟩ => ?_
  · show A.depth + 1 < recursionLimit
    exact hroom
  · have old : ∀ b o, hp.get? b = some o → h'.get? b = some o := fun b o e => k' b o (Nat.ne_of_lt (Nat.lt_succ_of_lt (Heap.lt_size e))) (k b o e)
    have z : hp.objs.size + 1 + 1 ≤ dx := by
      first
        | (simpa only [Heap.size_push] using dn)
        | exact dn
        | (have q := dn; rw [Heap.size_push, Heap.size_push] at q; exact q)
    exact ⟨rfl, hq h' tk' (hp.objs.size + 1) dx ⟨old, Nat.le_succ _, ⟨_, _, hx, rfl, rfl, rfl, rfl⟩, Nat.le_trans (Nat.le_trans (Nat.le_succ _) (Nat.le_succ _)) z, dne, hns⟩⟩
end
end ErrX
end PySem

namespace Gx
open PySem PySem.Spec PyProof.Rows L2
theorem relO_err {v : V} {v' : Value} (r : RelV v v') (n f : Str) : RelO (List.lookup f [(n, v)]) (if f = n then some v' else none) := by
  by_cases hw : f = n
  · subst hw
    rw [if_pos rfl]
    have q : List.lookup f [(f, v)] = some v := by simp [List.lookup]
    rw [q]
    exact r
  · rw [if_neg hw]
    have qw : (f == n) = false := by simpa using hw
    have q2 : List.lookup f [(n, v)] = none := by simp [List.lookup, qw]
    rw [q2]
    trivial
section
variable {X : Cx} {C fI : Addr} {nm f : Str}
/-- C(e) -/
def tMkErr (C : Addr) (f : Str) (ta : TA) : St → Hp → XK → Prop := fun σ H Q => ta σ H fun vs H1 => ∃ v, vs = [v] ∧ ∀ d, H1 d = none → Q (.ref C) (some d) (upd H1 d (.xd [(f, v)]))
theorem pmk_err {a : Expr} {ta : TA} {p pos : Pos} {k : Nat} (T : PySem.ErrX.ErrTxt X.prog X.K C fI nm f) (gC : X.mg nm = some (.ref C)) (hr : Room k X.A) (ha : PA X [a] ta) (hg : Gl X nm := by rfl)
    (hdb : (nm == ("__debug__" : Str)) = false := by decide)
    (he : starEach (a :: []) X.env = (false, eval a X.env) :: starEach [] X.env := by rfl) (hpl : (backTo pos (starEach [] X.env)).any (·.1) = false := by rfl) :
    PMk X (.Call (.Name nm p) [a] [] pos) (tMkErr C f ta) := by
  intro pins s σ H Q I h
  refine wpAny_Call_Name_kw (ld_glob I hg gC ?_ hdb)
  refine PySem.W.callWith_K (h₀ := X.base) I.ok.mod.kin T.kC (thn (ha.run pos pins s σ H _ I h) fun us s1 hh => ?_) he hpl
  obtain ⟨vs, H1, I1, r1, v, ev, q1⟩ := hh
  subst ev
  refine ⟨I1.kIn, ?_⟩
  cases r1 with
  | cons rv rn =>
    rename_i v' us'
    cases rn
    show wpAny _ _ (call (.ref C) [v']) _ _ _
    have hlim := I1.nolimit
    have hG := I1.mod.glob.keeps I1.bk
    obtain ⟨mb, hb1, hb2⟩ := I1.mod.blt
    have hB : ∃ mb, s1.heap.Ns builtinsNs mb ∧ ∀ y : Str, y ≠ "__name__" → mb y = bootBuiltins y := ⟨mb, hb1.keeps I1.bk, hb2⟩
    obtain ⟨hp, g, dr, tk, os⟩ := s1
    refine wpAny_call (PySem.ErrX.err_made T I1.kIn hlim hG hB (by have := hr.dp; omega) fun h' tk' e d M => ?_)
    show MkP X pins σ Q (.ref e) ⟨h', g, dr, tk', os⟩
    obtain ⟨oe, fv, hoe, hc, hd, hdat, h1⟩ := M.obj
    have hns := M.ns
    obtain ⟨G', g1, g2⟩ := restrict h' fun b => decide (b ≠ e)
    have gk : ∀ b, b ≠ e → G'.get? b = h'.get? b := fun b hb => g1 b (decide_eq_true hb)
    have ge : G'.get? e = none := g2 e (by simp)
    have old : ∀ b o, hp.get? b = some o → G'.get? b = some o := fun b o q => (gk b (Nat.ne_of_lt (Nat.lt_of_lt_of_le (Heap.lt_size q) M.new))).trans (M.keep b o q)
    have ob : ObjOk X.prog X.w (upd H1 d (.xd [(f, v)])) G' d (.xd [(f, v)]) :=
      ⟨_, hns.at (fun o q => (gk d M.dne).trans q), fun g => relO_err rv f g⟩
    have J : Inv X pins σ (upd H1 d (.xd [(f, v)])) ⟨G', g, dr, tk', os⟩ := I1.laid (t' := tk') old M.dbig ob
    refine ⟨e, oe, fv, ⟨G', g, dr, tk', os⟩, _, .ref C, some d, rfl, J, fun b o q => ?_, ge, hoe, ⟨hc, hd⟩, hdat, h1, ?_, rfl, I1.bare, raises_own T.exC T.tyC, q1 d (I1.hok.fresh M.dbig)⟩
    · by_cases hb : b = e
      · have q' : G'.get? b = some o := q
        rw [hb, ge] at q'; cases q'
      · exact (gk b hb).symm.trans q
    · rw [upd_ne (Ne.symm M.dne)]
      exact I1.hok.fresh M.new
/-- raise C(e) -/
def tRaiseErr (C : Addr) (f : Str) (W : WX) (ta : TA) : TS := fun _ σ H => tMkErr C f ta σ H fun cls d H' => W cls d σ H'
theorem ps_raiseErr {a : Expr} {ta : TA} {W : WX} {p pos pos2 : Pos} {k : Nat} (hc : X.calm = true) (T : PySem.ErrX.ErrTxt X.prog X.K C fI nm f) (gC : X.mg nm = some (.ref C)) (hr : Room k X.A) (tk : Takes X W) (ha : PA X [a] ta) (hg : Gl X nm := by rfl)
    (hdb : (nm == ("__debug__" : Str)) = false := by decide)
    (he : starEach (a :: []) X.env = (false, eval a X.env) :: starEach [] X.env := by rfl) (hpl : (backTo pos (starEach [] X.env)).any (·.1) = false := by rfl) :
    PS X (.Raise (some (.Call (.Name nm p) [a] [] pos)) none pos2) (tRaiseErr C f W ta) := ps_raise hc tk (pmk_err T gC hr ha hg hdb he hpl)
/-- e.f, e the exception that the suite holds (at a; its class cls, its dict d) -/
def tErrF (C : Addr) (f : Str) (a : Addr) (cls : Value) (d : Option Addr) (te : TE) : TE := fun σ H Q => te σ H fun x H1 => x = .ref a ∧ cls = .ref C ∧ ∃ (dd : Addr) (v : V), d = some dd ∧ H1 dd = some (.xd [(f, v)]) ∧ Q v H1
theorem pe_errF {a : Addr} {oe : Obj} {cls : Value} {d : Option Addr} {pn : List (Addr × Obj)} {e : Expr} {te : TE} {pos : Pos} (T : PySem.ErrX.ErrTxt X.prog X.K C fI nm f) (hz : Zc cls d oe) (hf : ∃ vs, oe.data = .fields vs) (he : PE (X.suite a ((a, oe) :: pn)) e te)
    (hb : attributeBase e f X.env (eval e X.env) = eval e X.env := by rfl) :
    PE (X.suite a ((a, oe) :: pn)) (.Attribute e f pos) (tErrF C f a cls d te) := by
  refine ⟨fun pins s σ H Q I h => ?_⟩
  refine attr_of hb (thn (he.run pins s σ H _ I h) fun u s1 hh => ?_)
  obtain ⟨x, H1, I1, rx, ex, ec, dd, v, ed, ea, q⟩ := hh
  subst ex
  obtain rfl : u = Value.ref a := rx
  subst ec
  subst ed
  obtain ⟨ha, _⟩ := I1.pin (a, oe) (List.mem_append_left _ List.mem_cons_self)
  obtain ⟨vs, hd⟩ := hf
  have hx : ObjOk X.prog X.w H1 s1.heap dd (.xd [(f, v)]) := I1.hok dd _ ea
  obtain ⟨mA, hns, hr⟩ := hx
  obtain ⟨od, ho, hl⟩ := lookIn_ns hns
  have l : List.lookup f [(f, v)] = some v := by simp [List.lookup]
  obtain ⟨u, hu, ru⟩ := RelO.some_of (v := v) (o := mA f) (by rw [← l]; exact hr f)
  have J : PySem.W.InstAt s1.heap a oe C (some od) := ⟨ha, hz.1, by unfold PySem.W.notCls; rw [hd] <;> rfl, by rw [hz.2]; exact ho⟩
  exact HandSPX.exc_get I1.kIn J T.ga T.gg T.exC (PySem.W.findObj_own T.hdC T.noN rfl (by rw [hl, hu])) (handed_of ru) ⟨v, H1, I1.tok _, ru, q⟩
end
end Gx

-- part GLoop
set_option Elab.async false
set_option linter.all false
set_option maxRecDepth 100000
set_option maxHeartbeats 1000000
namespace Gx
open PySem PySem.Spec PyProof.Rows L2
open Rp (rp)
open Sc (toV)
variable [Tb]

/-! ### owned cells that an evaluation does not see -/
theorem Hold.drop {G : Hp} {R S : Sto} {H : Hp} (h : Hold G (R ++ S) H) : Hold G S H :=
  ⟨h.ex, fun p m => h.own p (List.mem_append_right _ m), fun a m => h.sep a (by unfold dom at m ⊢; rw [List.map_append]; exact List.mem_append_right _ m), by
    have e := h.nd
    unfold dom at e ⊢
    rw [List.map_append] at e
    exact (List.nodup_append.mp e).2.1, fun p m => h.nc p (List.mem_append_right _ m), h.tb, h.tg⟩
theorem Stp.frame {G G' : Hp} {R S S' : Sto} {H H' : Hp} (h : Hold G (R ++ S) H) (s : Stp G S H G' S' H') : Stp G (R ++ S) H G' (R ++ S') H' := by
  have nd := h.nd
  unfold dom at nd
  rw [List.map_append] at nd
  have hR : ∀ p ∈ R, H p.1 = some p.2 := fun p m => h.own p (List.mem_append_left _ m)
  have dR : ∀ a, a ∈ dom R → ∃ o, H a = some o ∧ (a, o) ∈ R := fun a m => by
    obtain ⟨p, hp, rfl⟩ := List.mem_map.mp m
    exact ⟨p.2, hR p hp, hp⟩
  have disj : ∀ a, a ∈ dom R → a ∉ dom S := fun a m n => (List.nodup_append.mp nd).2.2 a m a n rfl
  have da : ∀ S : Sto, dom (R ++ S) = dom R ++ dom S := fun S => List.map_append
  refine ⟨⟨s.hold.ex, fun p m => ?_, fun a m => ?_, ?_, fun p m => ?_, s.hold.tb, s.hold.tg⟩, s.gg, fun b o hb e nt => s.fr b o (fun z => hb (by rw [da]; exact List.mem_append_right _ z)) e nt, s.new, fun b m => ?_, s.th⟩
  · rcases List.mem_append.mp m with m | m
    · exact s.fr _ _ (disj _ (List.mem_map.mpr ⟨p, m, rfl⟩)) (hR p m) (fun ps z => by have n := h.nc p (List.mem_append_left _ m); rw [z] at n; exact n)
    · exact s.hold.own p m
  · rw [da] at m
    rcases List.mem_append.mp m with m | m
    · obtain ⟨o, ho, _⟩ := dR a m
      exact s.new a o (h.sep a (by rw [da]; exact List.mem_append_left _ m)) ho
    · exact s.hold.sep a m
  · rw [da]
    refine List.nodup_append.mpr ⟨(List.nodup_append.mp nd).1, s.hold.nd, fun a ha b hb e => ?_⟩
    subst e
    obtain ⟨o, ho, _⟩ := dR a ha
    rcases s.dm a hb with z | z
    · exact disj a ha z
    · rw [ho] at z; cases z
  · rcases List.mem_append.mp m with m | m
    · exact h.nc p (List.mem_append_left _ m)
    · exact s.hold.nc p m
  · rw [da] at m ⊢
    rcases List.mem_append.mp m with m | m
    · exact .inl (List.mem_append_left _ m)
    · rcases s.dm b m with z | z
      · exact .inl (List.mem_append_right _ z)
      · exact .inr z
theorem Ev.frame {α : Type} [Rp α] {K : PySem.W.Frag} {te : TE} {σ : St} {G : Hp} {S S' : Sto} {x : α} (R : Sto) (h : Ev K te σ G S x S') : Ev K te σ G (R ++ S) x (R ++ S') := fun G1 H e hd Q k =>
  h G1 H e hd.drop Q fun v G' H' s r => k v G' H' (s.frame hd) r
theorem EvT.frame {tt : TT} {σ : St} {G : Hp} {S S' : Sto} {b : Bool} (R : Sto) (h : EvT tt σ G S b S') : EvT tt σ G (R ++ S) b (R ++ S') := fun G1 H e hd Q k =>
  h G1 H e hd.drop Q fun G' H' s => k G' H' (s.frame hd)

/-! ### a frozen list to be walked -/
def EvF {α : Type} [Rp α] (K : PySem.W.Frag) (te : TE) (σ : St) (G : Hp) (S : Sto) (xs : List α) (S' : Sto) : Prop :=
  ∀ G1 H, Same G G1 → Hold G1 S H → ∀ Q : VK, (∀ a vs G' H', Stp G1 S H G' S' H' → SqL K G' a vs → Its K xs vs G' → Q (.ref a) H') → te σ H Q
theorem Ev.fz {α : Type} [Rp α] {K : PySem.W.Frag} {te : TE} {σ : St} {G : Hp} {S S' : Sto} {xs : List α} (h : Ev K te σ G S xs S') : EvF K te σ G S xs S' := fun G1 H e hd Q k => h G1 H e hd Q fun v G' H' s ⟨a, vs, r, h1, hi⟩ => by
  rw [r]; exact k a vs G' H' s (SqL.of h1) hi
theorem EvN.fz {α : Type} [Rp α] {K : PySem.W.Frag} {te : TE} {σ : St} {G : Hp} {S S' : Sto} {xs : List α} (h : EvN K te σ G S xs S') : EvF K te σ G S xs S' := (EvN.frz h).fz
theorem Ev.scrF {K : PySem.W.Frag} {te : TE} {σ : St} {G : Hp} {S S' : Sto} {ns : List Int} (h : Ev K te σ G S (Scr.mk ns) S') : EvF K te σ G S ns S' := fun G1 H e hd Q k => h G1 H e hd Q fun v G' H' s ⟨a, r, h1⟩ => by
  rw [r]; exact k a _ G' H' s h1 (Its.ofSc ns)

/-! ### what a for walks, as data -/
/-- J gives the items xs, wherever C holds of the frozen part -/
structure Runs {α : Type} [Rp α] (K : PySem.W.Frag) (J : It) (xs : List α) (C : Hp → Prop) : Prop where
  mono : ∀ G G', Same G G' → C G → C G'
  go : ∀ i G H, i < xs.length → Same G H → C G → J.go i H
  stop : ∀ G H, Same G H → C G → J.stop xs.length H
  yld : ∀ i G S H v H' x, Hold G S H → C G → J.yld i H v H' → xs[i]? = some x → ∃ G', Stp G S H G' S H' ∧ rp K x v G'
def EvI {α : Type} [Rp α] (K : PySem.W.Frag) (wi : TI) (σ : St) (G : Hp) (S : Sto) (xs : List α) (S' : Sto) : Prop :=
  ∀ G1 H, Same G G1 → Hold G1 S H → ∀ R : It → Hp → Prop, (∀ J C G' H', Stp G1 S H G' S' H' → Runs K J xs C → C G' → R J H') → wi σ H R
/-- a target: F is true of the parts that are stored by U -/
def Tg {α : Type} [Rp α] (K : PySem.W.Frag) (g : TG) (F : α → List V → Hp → Prop) (U : List V → St → St) : Prop :=
  ∀ (x : α) (v : V) (σ : St) (G H : Hp) (Q : St → Hp → Prop), Same G H → rp K x v G → (∀ vs, F x vs G → Q (U vs σ) H) → g v σ H Q
section
variable {K : PySem.W.Frag} {X : Cx} {σ : St} {G : Hp} {S S' S1 S2 : Sto} {te : TE} {B : Bs} {D : Ends}
abbrev F1 {α : Type} [Rp α] (K : PySem.W.Frag) : α → List V → Hp → Prop := fun x vs G => ∃ v, vs = [v] ∧ rp K x v G
abbrev U1 (j : Nat) : List V → St → St := fun vs σ => match vs with | v :: _ => σ.set j (some v) | _ => σ
theorem tg_nm {α : Type} [Rp α] {j : Nat} : Tg (α := α) K (gName j) (F1 K) (U1 j) := fun x v σ G H Q e r k => k [v] ⟨v, rfl, r⟩
abbrev F2 {α β : Type} [Rp α] [Rp β] (K : PySem.W.Frag) : P2 α β → List V → Hp → Prop := fun x vs G => ∃ v0 v1, vs = [v0, v1] ∧ rp K x.f0 v0 G ∧ rp K x.f1 v1 G
abbrev U2 (i j : Nat) : List V → St → St := fun vs σ => match vs with | v0 :: v1 :: _ => (σ.set i (some v0)).set j (some v1) | _ => σ
theorem tg_2 {α β : Type} [Rp α] [Rp β] {i j : Nat} : Tg (α := P2 α β) K (gTup K 2 (gCons (gName i) (gCons (gName j) gNil))) (F2 K) (U2 i j) := fun x v σ G H Q e ⟨a, v0, v1, r, h, h0, h1⟩ k =>
  ⟨a, [v0, v1], r, SqT.of (e _ _ h), rfl, v0, [v1], rfl, v1, [], rfl, rfl, k [v0, v1] ⟨v0, v1, rfl, h0, h1⟩⟩
abbrev F3 {α β γ : Type} [Rp α] [Rp β] [Rp γ] (K : PySem.W.Frag) : P3 α β γ → List V → Hp → Prop := fun x vs G => ∃ v0 v1 v2, vs = [v0, v1, v2] ∧ rp K x.f0 v0 G ∧ rp K x.f1 v1 G ∧ rp K x.f2 v2 G
abbrev U3 (i j l : Nat) : List V → St → St := fun vs σ => match vs with | v0 :: v1 :: v2 :: _ => ((σ.set i (some v0)).set j (some v1)).set l (some v2) | _ => σ
theorem tg_3 {α β γ : Type} [Rp α] [Rp β] [Rp γ] {i j l : Nat} : Tg (α := P3 α β γ) K (gTup K 3 (gCons (gName i) (gCons (gName j) (gCons (gName l) gNil)))) (F3 K) (U3 i j l) := fun x v σ G H Q e ⟨a, v0, v1, v2, r, h, h0, h1, h2⟩ k =>
  ⟨a, [v0, v1, v2], r, SqT.of (e _ _ h), rfl, v0, _, rfl, v1, _, rfl, v2, _, rfl, rfl, k [v0, v1, v2] ⟨v0, v1, v2, rfl, h0, h1, h2⟩⟩
abbrev F4 {α β γ δ : Type} [Rp α] [Rp β] [Rp γ] [Rp δ] (K : PySem.W.Frag) : P4 α β γ δ → List V → Hp → Prop := fun x vs G => ∃ v0 v1 v2 v3, vs = [v0, v1, v2, v3] ∧ rp K x.f0 v0 G ∧ rp K x.f1 v1 G ∧ rp K x.f2 v2 G ∧ rp K x.f3 v3 G
abbrev U4 (i j l m : Nat) : List V → St → St := fun vs σ => match vs with | v0 :: v1 :: v2 :: v3 :: _ => (((σ.set i (some v0)).set j (some v1)).set l (some v2)).set m (some v3) | _ => σ
theorem tg_4 {α β γ δ : Type} [Rp α] [Rp β] [Rp γ] [Rp δ] {i j l m : Nat} : Tg (α := P4 α β γ δ) K (gTup K 4 (gCons (gName i) (gCons (gName j) (gCons (gName l) (gCons (gName m) gNil))))) (F4 K) (U4 i j l m) := fun x v σ G H Q e ⟨a, v0, v1, v2, v3, r, h, h0, h1, h2, h3⟩ k =>
  ⟨a, [v0, v1, v2, v3], r, SqT.of (e _ _ h), rfl, v0, _, rfl, v1, _, rfl, v2, _, rfl, v3, _, rfl, rfl, k [v0, v1, v2, v3] ⟨v0, v1, v2, v3, rfl, h0, h1, h2, h3⟩⟩

/-! ### lists, ranges -/
theorem ei_list {α : Type} [Rp α] {xs : List α} (h : EvF K te σ G S xs S') : EvI K (iList K te) σ G S xs S' := fun G1 H e hd R k => h G1 H e hd _ fun a vs G' H' s hq hi =>
  ⟨a, rfl, ⟨vs, s.hold.ex.seq hq⟩, k _ (fun G => SqL K G a vs ∧ Its K xs vs G) G' H' s
    ⟨fun G G' e ⟨h1, h2⟩ => ⟨e.seq h1, h2.mono e⟩, fun i G H hl e ⟨h1, h2⟩ => by
        obtain ⟨v, hv, _⟩ := Pd.getL h2 (List.getElem?_eq_getElem hl)
        exact ⟨vs, v, e.seq h1, hv⟩,
      fun G H e ⟨h1, h2⟩ => ⟨vs, e.seq h1, by rw [Pd.len h2]; exact Nat.le_refl _⟩,
      fun i G S H v H' x hd ⟨h1, h2⟩ ⟨e1, y⟩ hx => by
        subst e1
        obtain ⟨w, hw, r⟩ := Pd.getL h2 hx
        have := y vs (hd.ex.seq h1)
        rw [hw] at this
        cases this
        exact ⟨G, .refl hd, r⟩⟩ ⟨hq, hi⟩⟩
/-- 0, 1, .. n - 1 -/
def rgU (n : Int) : List Int := (List.range n.toNat).map fun (k : Nat) => (k : Int)
def rgF (a b : Int) : List Int := (List.range (b - a).toNat).map fun (k : Nat) => a + (k : Int)
theorem runs_range (lo : Int) (n : Nat) : Runs K (Itr lo n) ((List.range n).map fun (k : Nat) => lo + (k : Int)) fun _ => True :=
  ⟨fun _ _ _ h => h, fun i G H hl _ _ => (by simpa using hl : i < n), fun G H _ _ => (by simp : n ≤ ((List.range n).map fun (k : Nat) => lo + (k : Int)).length), fun i G S H v H' x hd _ ⟨e1, e2⟩ hx => by
    subst e1
    refine ⟨G, .refl hd, ?_⟩
    rw [List.getElem?_map] at hx
    by_cases hl : i < n
    · rw [List.getElem?_range hl] at hx
      cases hx
      exact e2
    · rw [List.getElem?_eq_none_iff.mpr (by simpa using hl)] at hx
      cases hx⟩
theorem ei_range1 {n : Int} (h : Ev K te σ G S n S') (hb : -(2 ^ 62) ≤ n ∧ n < 2 ^ 62) : EvI K (iRng1 (tCons te tNil)) σ G S (rgU n) S' := fun G1 H e hd R k => h G1 H e hd _ fun v G' H' s r =>
  ⟨n, by rw [show v = .int n from r], hb.1, hb.2, k _ (fun _ => True) G' H' s (by
    have z := runs_range (K := K) 0 n.toNat
    unfold rgU
    simpa using z) trivial⟩
theorem ei_range2 {a b : Int} {ta tb : TE} (h : Ev K ta σ G S a S1) (h2 : Ev K tb σ G S1 b S') (hb : (-(2 ^ 62) ≤ a ∧ a < 2 ^ 62) ∧ -(2 ^ 62) ≤ b ∧ b < 2 ^ 62) : EvI K (iRng2 (tCons ta (tCons tb tNil))) σ G S (rgF a b) S' := fun G1 H e hd R k => h G1 H e hd _ fun v G' H' s r => h2 G' H' (e.trans s.gg) s.hold _ fun u G2 H2 s2 r2 =>
  ⟨a, b, by rw [show v = .int a from r, show u = .int b from r2], ⟨hb.1.1, hb.1.2, hb.2.1, hb.2.2⟩, k _ (fun _ => True) G2 H2 (s.trans s2) (runs_range (K := K) a (b - a).toNat) trivial⟩

/-! ### for -/
/-- behind a turn's body: the invariant again, over what was frozen at the body's beginning -/
def NX (B : Bs) (G : Hp) (I : St → Hp → Sto → Prop) : St → Hp → Prop := fun σ H => ∃ G2 S2, Stp B.G B.S B.H G2 S2 H ∧ Same G G2 ∧ I σ G2 S2
theorem at_nx {I : St → Hp → Sto → Prop} {G' : Hp} (e : Same G' G) (h : I σ G S) : At B (NX B G' I) σ G S := fun H s => ⟨G, S, s, e, h⟩
/-- for target in iter: the rest of the items is told to the invariant -/
theorem s_for {α : Type} [Rp α] {xs : List α} {tg iter : Expr} {body : List Stmt} {wi : TI} {g : TG} {F : α → List V → Hp → Prop} {U : List V → St → St} {pos : Pos} (Inv : List α → St → Hp → Sto → Prop) (hi : EvI X.K wi σ G S xs S1) (ht : Tg X.K g F U)
    (h0 : ∀ G1, Same G G1 → Inv xs σ G1 S1)
    (hs : ∀ x r vs σ' G2 G' S', Same G G2 → Same G2 G' → x :: r <:+ xs → Inv (x :: r) σ' G2 S' → F x vs G' → At B (cB X body { D with nx := NX B G2 (Inv r), ct := NX B G2 (Inv r), bk := D.nx }) (U vs σ') G' S')
    (hd : ∀ σ' G' S', Same G G' → Inv [] σ' G' S' → At B D.nx σ' G' S') (hp : PassesOwn (model X.prog X.w) X.A X.env X.xe) (hc : X.calm = true) (pi : PI X tg iter wi) (pg : PG X tg g)
    (hfs : ∀ x, foldedSetIterable iter X.env x = pure x := by intro _; rfl) : At B (cS X (.For tg iter body [] pos) D) σ G S := fun H s => toS (ps_for hp hc pi pg (pB body) hfs) (by
  refine hi G H (Same.refl G) s.hold _ fun J C G1 H1 s1 rn c1 => ?_
  refine ⟨fun i m σ' H' => m = xs.length - i ∧ i ≤ xs.length ∧ ∃ G2 S2, Stp B.G B.S B.H G2 S2 H' ∧ Same G G2 ∧ C G2 ∧ Inv (xs.drop i) σ' G2 S2, ⟨xs.length, rfl, Nat.zero_le _, G1, S1, s.trans s1, s1.gg, c1, by simpa using h0 G1 s1.gg⟩, ?_⟩
  rintro i m σ' H' ⟨rfl, hle, G2, S2, st, sg, c2, iv⟩
  by_cases hlt : i < xs.length
  · have hx : xs[i]? = some xs[i] := List.getElem?_eq_getElem hlt
    have hdr : xs.drop i = xs[i] :: xs.drop (i + 1) := List.drop_eq_getElem_cons hlt
    refine .inr ⟨rn.go i G2 H' hlt st.hold.ex c2, NX B G2 (Inv (xs.drop (i + 1))), fun σ3 H3 ⟨G3, S3, a, b, c⟩ => ⟨xs.length - (i + 1), by omega, rfl, hlt, G3, S3, a, sg.trans b, rn.mono _ _ b c2, c⟩, fun x H3 y => ?_⟩
    obtain ⟨G3, s3, r3⟩ := rn.yld i G2 S2 H' x H3 xs[i] st.hold c2 y hx
    refine ht xs[i] x σ' G3 H3 _ s3.hold.ex r3 fun vs fv => ?_
    rw [hdr] at iv
    exact hs xs[i] (xs.drop (i + 1)) vs σ' G2 G3 S2 sg s3.gg (by rw [← hdr]; exact List.drop_suffix i xs) iv fv H3 (st.trans s3)
  · have e : i = xs.length := by omega
    subst e
    refine .inl ⟨rn.stop G2 H' st.hold.ex c2, hd σ' G2 S2 sg ?_ H' st⟩
    simpa using iv)
theorem b_for {α : Type} [Rp α] {xs : List α} {tg iter : Expr} {body rest : List Stmt} {wi : TI} {g : TG} {F : α → List V → Hp → Prop} {U : List V → St → St} {pos : Pos} (Inv : List α → St → Hp → Sto → Prop) (hi : EvI X.K wi σ G S xs S1) (ht : Tg X.K g F U)
    (h0 : ∀ G1, Same G G1 → Inv xs σ G1 S1)
    (hs : ∀ x r vs σ' G2 G' S', Same G G2 → Same G2 G' → x :: r <:+ xs → Inv (x :: r) σ' G2 S' → F x vs G' → At B (cB X body { D with nx := NX B G2 (Inv r), ct := NX B G2 (Inv r), bk := cB X rest D }) (U vs σ') G' S')
    (hd : ∀ σ' G' S', Same G G' → Inv [] σ' G' S' → At B (cB X rest D) σ' G' S') (pi : PI X tg iter wi) (pg : PG X tg g) (hp : PassesOwn (model X.prog X.w) X.A X.env X.xe) (hc : X.calm = true := by rfl)
    (hfs : ∀ x, foldedSetIterable iter X.env x = pure x := by intro _; rfl) : At B (cB X (.For tg iter body [] pos :: rest) D) σ G S :=
  b_cons (s_for (D := { D with nx := cB X rest D }) Inv hi ht h0 hs hd hp hc pi pg hfs)
/-- while: an invariant and a measure of its own -/
theorem b_while {τ : Type} {c : Expr} {body rest : List Stmt} {pos : Pos} (Inv : τ → St → Hp → Sto → Prop) (μ : τ → Nat) (t0 : τ) (h0 : Inv t0 σ G S)
    (hs : ∀ t σ' G' S', Same G G' → Inv t σ' G' S' → ∃ b S2, ET X c σ' G' S' b S2 ∧ (b = true → At B (cB X body { D with nx := NX B G' (fun σ G S => ∃ t', μ t' < μ t ∧ Inv t' σ G S), ct := NX B G' (fun σ G S => ∃ t', μ t' < μ t ∧ Inv t' σ G S), bk := cB X rest D }) σ' G' S2) ∧
      (b = false → At B (cB X rest D) σ' G' S2)) (hp : PassesOwn (model X.prog X.w) X.A X.env X.xe) : At B (cB X (.While c body [] pos :: rest) D) σ G S :=
  b_cons fun H s => toS (ps_while hp (pT c) (pB body)) (by
    refine ⟨fun m σ' H' => ∃ t G2 S2, m = μ t ∧ Stp B.G B.S B.H G2 S2 H' ∧ Same G G2 ∧ Inv t σ' G2 S2, ⟨μ t0, t0, G, S, rfl, s, Same.refl G, h0⟩, ?_⟩
    rintro m σ' H' ⟨t, G2, S2, rfl, st, sg, iv⟩
    obtain ⟨b, S3, ht, h1, h2⟩ := hs t σ' G2 S2 sg iv
    refine ht G2 H' (Same.refl G2) st.hold _ fun G3 H3 s3 => ?_
    have sx := st.trans (s3.forget (Same.refl G2))
    cases b with
    | true =>
      refine ⟨NX B G2 (fun σ G S => ∃ t', μ t' < μ t ∧ Inv t' σ G S), fun σ4 H4 ⟨G4, S4, a, b, t', hl, c⟩ => ⟨μ t', hl, t', G4, S4, rfl, a, sg.trans b, c⟩, ?_⟩
      exact h1 rfl H3 sx
    | false => exact h2 rfl H3 sx)
end
end Gx

-- part GComp
set_option Elab.async false
set_option linter.all false
set_option maxRecDepth 100000
set_option maxHeartbeats 1000000
namespace Gx
open PySem PySem.Spec PyProof.Rows L2
open Rp (rp)
open Sc (toV)
variable [Tb]
def cEB (X : Cx) (scope : Scope) (e : Expr) : TE := fun σ H Q => ∀ (s : Shared) (H0 : Hp) (C : Addr) (cl : List (Str × Addr)) (fp : List Addr), cE (X.blk s H0 scope (compEnvC scope cl C X.env) fp) e σ H Q
def cTB (X : Cx) (scope : Scope) (e : Expr) : TT := fun σ H Q => ∀ (s : Shared) (H0 : Hp) (C : Addr) (cl : List (Str × Addr)) (fp : List Addr), cT (X.blk s H0 scope (compEnvC scope cl C X.env) fp) e σ H Q
section
variable {X : Cx} {K : PySem.W.Frag} {σ : St} {G : Hp} {S S1 Se : Sto} {scope : Scope} {e : Expr}
theorem pEB (s : Shared) (H0 : Hp) (C : Addr) (cl : List (Str × Addr)) (fp : List Addr) : PE (X.blk s H0 scope (compEnvC scope cl C X.env) fp) e (cEB X scope e) := ⟨fun pins s' σ H Q I h => h s H0 C cl fp pins s' I⟩
theorem pTB (s : Shared) (H0 : Hp) (C : Addr) (cl : List (Str × Addr)) (fp : List Addr) : PT (X.blk s H0 scope (compEnvC scope cl C X.env) fp) e (cTB X scope e) := ⟨fun pins s' σ H Q I h => h s H0 C cl fp pins s' I⟩
theorem evB {α : Type} [Rp α] {x : α} (h : ∀ (s : Shared) (H0 : Hp) (C : Addr) (cl : List (Str × Addr)) (fp : List Addr), EX (X.blk s H0 scope (compEnvC scope cl C X.env) fp) e σ G S x S1) : Ev X.K (cEB X scope e) σ G S x S1 :=
  fun G1 H e hd Q k s H0 C cl fp => h s H0 C cl fp G1 H e hd Q k
theorem etB {b : Bool} (h : ∀ (s : Shared) (H0 : Hp) (C : Addr) (cl : List (Str × Addr)) (fp : List Addr), ET (X.blk s H0 scope (compEnvC scope cl C X.env) fp) e σ G S b S1) : EvT (cTB X scope e) σ G S b S1 :=
  fun G1 H e hd Q k s H0 C cl fp => h s H0 C cl fp G1 H e hd Q k
theorem et_yes : EvT tYes σ G S true S := fun G1 H e hd Q k => k G1 H (.refl hd)

theorem evn_lc {α β : Type} [Rp α] [Rp β] {xs : List α} {ys : List β} {wi : TI} {g : TG} {tt : TT} {te : TE} {vs : List Nat} {F : α → List V → Hp → Prop} {U : List V → St → St} (Inv : List α → List β → Hp → Sto → Prop) (hi : EvI K wi σ G S xs S1) (ht : Tg K g F U) (hl : xs.length ≤ 100000)
    (hw : ∀ x vs' G, F x vs' G → wipe (U vs' (wipe σ vs)) vs = wipe σ vs) (h0 : ∀ G1, Same G G1 → Inv xs [] G1 S1)
    (hs : ∀ x r acc vs' G2 G' S', Same G G2 → Same G2 G' → x :: r <:+ xs → Inv (x :: r) acc G2 S' → F x vs' G' →
      ∃ b S2, EvT tt (U vs' (wipe σ vs)) G' S' b S2 ∧ (b = true → ∃ y S3, Ev K te (U vs' (wipe σ vs)) G' S2 y S3 ∧ ∀ G3, Same G' G3 → Inv r (acc ++ [y]) G3 S3) ∧ (b = false → ∀ G3, Same G' G3 → Inv r acc G3 S2))
    (hd : ∀ acc G' S', Same G G' → Inv [] acc G' S' → acc = ys ∧ S' = Se) : EvN K (tLc wi g tt te vs) σ G S ys Se := by
  intro G0 H eg hd0 Q k
  refine hi G0 H eg hd0 _ fun J C G1 H1 s1 rn c1 Dl hDl => ?_
  have hHD : H Dl = none := by
    cases q : H Dl with
    | none => rfl
    | some o =>
      obtain ⟨o', e'⟩ := s1.th Dl o q
      rw [hDl] at e'; cases e'
  refine ⟨fun i m H' => m = xs.length - i ∧ i ≤ xs.length ∧ ∃ G2 S2 acc vacc, Stp G0 S H G2 ((Dl, .lst vacc) :: S2) H' ∧ Same G1 G2 ∧ C G2 ∧ acc.length ≤ i ∧ Its K acc vacc G2 ∧ Inv (xs.drop i) acc G2 S2,
    ⟨xs.length, rfl, Nat.zero_le _, G1, S1, [], [], s1.trans (Stp.own s1.hold hDl (.lst [])), Same.refl G1, c1, Nat.le_refl _, .nil, by simpa using h0 G1 (eg.trans s1.gg)⟩, ?_⟩
  rintro i m H' ⟨rfl, hle, G2, S2, acc, vacc, st, sg, c2, al, hi2, iv⟩
  have sgG : Same G G2 := (eg.trans s1.gg).trans sg
  by_cases hlt : i < xs.length
  · have hx : xs[i]? = some xs[i] := List.getElem?_eq_getElem hlt
    have hdr : xs.drop i = xs[i] :: xs.drop (i + 1) := List.drop_eq_getElem_cons hlt
    rw [hdr] at iv
    refine .inr ⟨rn.go i G2 H' hlt st.hold.ex c2, fun H3 => ∃ G3 S3 acc' vacc', Stp G0 S H G3 ((Dl, .lst vacc') :: S3) H3 ∧ Same G2 G3 ∧ acc'.length ≤ i + 1 ∧ Its K acc' vacc' G3 ∧ Inv (xs.drop (i + 1)) acc' G3 S3, fun H3 ⟨G3, S3, acc', vacc', a, b, c, d, e⟩ => ⟨xs.length - (i + 1), by omega, rfl, hlt, G3, S3, acc', vacc', a, sg.trans b, rn.mono _ _ b c2, c, d, e⟩, fun x H3 y => ?_⟩
    obtain ⟨G3, s3, r3⟩ := rn.yld i G2 _ H' x H3 xs[i] st.hold c2 y hx
    refine ht xs[i] x (wipe σ vs) G3 H3 _ s3.hold.ex r3 fun vs' fv => ⟨hw _ _ _ fv, ?_⟩
    obtain ⟨b, S4, tb, h1, h2⟩ := hs xs[i] (xs.drop (i + 1)) acc vs' G2 G3 S2 sgG s3.gg (by rw [← hdr]; exact List.drop_suffix i xs) iv fv
    have st3 := st.trans s3
    refine tb.frame [(Dl, .lst vacc)] G3 H3 (Same.refl G3) s3.hold _ fun G4 H4 s4 => ?_
    cases b with
    | true =>
      rw [if_pos rfl]
      obtain ⟨y, S5, te5, iv5⟩ := h1 rfl
      refine te5.frame [(Dl, .lst vacc)] G4 H4 s4.gg s4.hold _ fun v G5 H5 s5 r5 => ?_
      have sx := (st3.trans s4).trans s5
      have hD5 : H5 Dl = some (.lst vacc) := s5.hold.own (Dl, .lst vacc) (List.mem_cons_self)
      have g25 : Same G2 G5 := s3.gg.trans (s4.gg.trans s5.gg)
      have hlen : vacc.length = acc.length := (Pd.len hi2).symm
      refine ⟨vacc, hD5, by rw [hlen]; exact Nat.lt_of_le_of_lt (Nat.le_trans al (Nat.le_trans hle hl)) (by decide), G5, S5, acc ++ [y], vacc ++ [v], ?_, g25, ?_, ?_, iv5 G5 (s4.gg.trans s5.gg)⟩
      · exact sx.trans (Stp.write (i := 0) s5.hold rfl)
      · rw [List.length_append]; simp; omega
      · exact Pd.app (hi2.mono g25) (.cons r5 .nil)
    | false =>
      rw [if_neg Bool.false_ne_true]
      have g24 : Same G2 G4 := s3.gg.trans s4.gg
      exact ⟨G4, S4, acc, vacc, st3.trans s4, g24, by omega, hi2.mono g24, h2 rfl G4 s4.gg⟩
  · have e : i = xs.length := by omega
    subst e
    refine .inl ⟨rn.stop G2 H' st.hold.ex c2, ?_⟩
    obtain ⟨rfl, rfl⟩ := hd acc G2 S2 sgG (by simpa using iv)
    exact k Dl vacc G2 H' hHD st hi2
/-- [f x for x in xs], nothing owned changes -/
theorem evn_map {α β : Type} [Rp α] [Rp β] {xs : List α} {wi : TI} {g : TG} {te : TE} {vs : List Nat} {F : α → List V → Hp → Prop} {U : List V → St → St} (f : α → β) (hi : EvI K wi σ G S xs S1) (ht : Tg K g F U) (hl : xs.length ≤ 100000)
    (he : ∀ x vs' G2, x ∈ xs → Same G G2 → F x vs' G2 → Ev K te (U vs' (wipe σ vs)) G2 S1 (f x) S1) (hw : ∀ x vs' G, F x vs' G → wipe (U vs' (wipe σ vs)) vs = wipe σ vs) : EvN K (tLc wi g tYes te vs) σ G S (xs.map f) S1 :=
  evn_lc (fun r acc _ S' => acc ++ r.map f = xs.map f ∧ S' = S1) hi ht hl hw (fun _ _ => ⟨rfl, rfl⟩) (fun x r acc vs' G2 G' S' e1 e2 hm ⟨h1, h2⟩ fv => by
    subst h2
    refine ⟨true, _, et_yes, fun _ => ⟨f x, _, he x vs' G' (hm.subset (List.mem_cons_self)) (e1.trans e2) fv, fun _ _ => ⟨?_, rfl⟩⟩, fun z => by cases z⟩
    rw [← h1]; simp) (fun acc G' S' _ ⟨h1, h2⟩ => ⟨by simpa using h1, h2⟩)
/-- [f x for x in xs if p x] -/
theorem evn_filter {α β : Type} [Rp α] [Rp β] {xs : List α} {wi : TI} {g : TG} {tt : TT} {te : TE} {vs : List Nat} {F : α → List V → Hp → Prop} {U : List V → St → St} (p : α → Bool) (f : α → β) (hi : EvI K wi σ G S xs S1) (ht : Tg K g F U) (hl : xs.length ≤ 100000)
    (hp : ∀ x vs' G2, x ∈ xs → Same G G2 → F x vs' G2 → EvT tt (U vs' (wipe σ vs)) G2 S1 (p x) S1)
    (he : ∀ x vs' G2, x ∈ xs → p x = true → Same G G2 → F x vs' G2 → Ev K te (U vs' (wipe σ vs)) G2 S1 (f x) S1) (hw : ∀ x vs' G, F x vs' G → wipe (U vs' (wipe σ vs)) vs = wipe σ vs) : EvN K (tLc wi g tt te vs) σ G S ((xs.filter p).map f) S1 :=
  evn_lc (fun r acc _ S' => acc ++ (r.filter p).map f = (xs.filter p).map f ∧ S' = S1) hi ht hl hw (fun _ _ => ⟨rfl, rfl⟩) (fun x r acc vs' G2 G' S' e1 e2 hm ⟨h1, h2⟩ fv => by
    subst h2
    have hx : x ∈ xs := hm.subset (List.mem_cons_self)
    refine ⟨p x, _, hp x vs' G' hx (e1.trans e2) fv, fun q => ⟨f x, _, he x vs' G' hx q (e1.trans e2) fv, fun _ _ => ⟨?_, rfl⟩⟩, fun q _ _ => ⟨?_, rfl⟩⟩
    · rw [← h1, List.filter_cons, if_pos q]; simp
    · rw [← h1, List.filter_cons, if_neg (by rw [q]; decide)]) (fun acc G' S' _ ⟨h1, h2⟩ => ⟨by simpa using h1, h2⟩)
/-- what a list of draws makes, the state handed on -/
def mapS {τ α β : Type} (f : τ → α → β) (n : τ → α → τ) : τ → List α → List β × τ
  | t, [] => ([], t)
  | t, x :: r => let q := mapS f n (n t x) r; (f t x :: q.1, q.2)
/-- [f x for x in xs], each turn changes the owned cells from those of a state to those of the next -/
theorem evn_mapS {τ α β : Type} [Rp α] [Rp β] {xs : List α} {wi : TI} {g : TG} {te : TE} {vs : List Nat} {F : α → List V → Hp → Prop} {U : List V → St → St} (P : τ → Prop) (f : τ → α → β) (n : τ → α → τ) (Sf : τ → Sto) (t0 : τ) (p0 : P t0) (hi : EvI K wi σ G S xs (Sf t0)) (ht : Tg K g F U) (hl : xs.length ≤ 100000)
    (he : ∀ t x vs' G2, P t → x ∈ xs → Same G G2 → F x vs' G2 → P (n t x) ∧ Ev K te (U vs' (wipe σ vs)) G2 (Sf t) (f t x) (Sf (n t x))) (hw : ∀ x vs' G, F x vs' G → wipe (U vs' (wipe σ vs)) vs = wipe σ vs) :
    EvN K (tLc wi g tYes te vs) σ G S (mapS f n t0 xs).1 (Sf (mapS f n t0 xs).2) :=
  evn_lc (fun r acc _ S' => ∃ t, P t ∧ S' = Sf t ∧ acc ++ (mapS f n t r).1 = (mapS f n t0 xs).1 ∧ (mapS f n t r).2 = (mapS f n t0 xs).2) hi ht hl hw (fun _ _ => ⟨t0, p0, rfl, rfl, rfl⟩) (fun x r acc vs' G2 G' S' e1 e2 hm ⟨t, pt, hS, h1, h2⟩ fv => by
    subst hS
    obtain ⟨pn, ev⟩ := he t x vs' G' pt (hm.subset (List.mem_cons_self)) (e1.trans e2) fv
    refine ⟨true, _, et_yes, fun _ => ⟨f t x, _, ev, fun _ _ => ⟨n t x, pn, rfl, ?_, h2⟩⟩, fun z => by cases z⟩
    rw [← h1]
    show acc ++ [f t x] ++ (mapS f n (n t x) r).1 = acc ++ (f t x :: (mapS f n (n t x) r).1)
    simp) (fun acc G' S' _ ⟨t, _, hS, h1, h2⟩ => ⟨by simpa [mapS] using h1, by rw [hS, ← h2]; rfl⟩)
theorem mapS_all {τ α β : Type} {f : τ → α → β} {n : τ → α → τ} {P : τ → Prop} {R : β → Prop} : ∀ (xs : List α) (t : τ), P t → (∀ t x, x ∈ xs → P t → R (f t x) ∧ P (n t x)) → (∀ y ∈ (mapS f n t xs).1, R y) ∧ P (mapS f n t xs).2 ∧ (mapS f n t xs).1.length = xs.length
  | [], t, pt, _ => ⟨fun _ h => (nomatch h), pt, rfl⟩
  | x :: r, t, pt, h => by
    obtain ⟨h1, h2⟩ := h t x (List.mem_cons_self) pt
    obtain ⟨i1, i2, i3⟩ := mapS_all (f := f) (n := n) (P := P) (R := R) r (n t x) h2 fun t x m p => h t x (List.mem_cons_of_mem _ m) p
    refine ⟨fun y m => ?_, i2, by show (f t x :: (mapS f n (n t x) r).1).length = _; simp [i3]⟩
    have m : y ∈ f t x :: (mapS f n (n t x) r).1 := m
    rcases List.mem_cons.mp m with rfl | m
    · exact h1
    · exact i1 y m
end
end Gx

-- part GFmt
set_option Elab.async false
set_option linter.all false
set_option maxRecDepth 100000
set_option maxHeartbeats 1000000
namespace Gx
open PySem PySem.Spec PyProof.Rows L2 Builtin Builtin.Str Builtin.Int Builtin.Float PySem.W
/-- n blanks ahead of x; behind it -/
def blanks (n : Int) : Str := ⟨(List.replicate n.toNat 32).toArray⟩
def padL (n : Nat) (x : Str) : Str := blanks ((n : Int) - (x.length : Int)) ++ x
def padR (n : Nat) (x : Str) : Str := x ++ blanks ((n : Int) - (x.length : Int))
theorem app_nil (x : Str) : x ++ (⟨#[]⟩ : Str) = x := by
  show (⟨x.cps ++ #[]⟩ : Str) = x
  rw [Array.append_empty]
theorem nil_app (x : Str) : (⟨#[]⟩ : Str) ++ x = x := by
  show (⟨#[] ++ x.cps⟩ : Str) = x
  rw [Array.empty_append]
theorem padL_long {n : Nat} {x : Str} (h : n ≤ x.length) : padL n x = x := by
  have e : ((n : Int) - (x.length : Int)).toNat = 0 := by omega
  unfold padL blanks
  rw [e]
  exact nil_app x
theorem padR_long {n : Nat} {x : Str} (h : n ≤ x.length) : padR n x = x := by
  have e : ((n : Int) - (x.length : Int)).toNat = 0 := by omega
  unfold padR blanks
  rw [e]
  exact app_nil x
def specL (n : Nat) : FormatSpec := { fill := 32, align := 62, width := some n }
def specR (n : Nat) : FormatSpec := { fill := 32, align := 60, width := some n }
theorem strSub_all (x : Str) : strSub x 0 x.length = x := by
  unfold strSub
  first
    | (simp [Str.length]; done)
    | (cases x; simp [Str.length])
theorem field_long {x : Str} {n : Nat} {f : FormatSpec} {name : String} (hf : f = specL n ∨ f = specR n) (h : n ≤ x.length) : strField x f name = .ok none := by
  rcases hf with rfl | rfl
  · unfold strField specL; simp [h, pure, Except.pure, bind, Except.bind]
  · unfold strField specR; simp [h, pure, Except.pure, bind, Except.bind]
theorem field_L {x : Str} {n : Nat} {name : String} (h : ¬ n ≤ x.length) : strField x (specL n) name = .ok (some (padL n x)) := by
  have e : strField x (specL n) name = .ok (some (padded (strSub x 0 x.length) (n - (strSub x 0 x.length).length) (n - (strSub x 0 x.length).length - (n - (strSub x 0 x.length).length)) 32)) := by
    unfold strField specL
    simp [h, pure, Except.pure, bind, Except.bind]
  rw [e, strSub_all, Nat.sub_self]
  have e2 : ((n : Int) - (x.length : Int)).toNat = n - x.length := by omega
  unfold padded padL blanks
  rw [e2]
  congr 2
theorem field_R {x : Str} {n : Nat} {name : String} (h : ¬ n ≤ x.length) : strField x (specR n) name = .ok (some (padR n x)) := by
  have e : strField x (specR n) name = .ok (some (padded (strSub x 0 x.length) 0 (n - (strSub x 0 x.length).length - 0) 32)) := by
    unfold strField specR
    simp [h, pure, Except.pure, bind, Except.bind]
  rw [e, strSub_all, Nat.sub_zero]
  have e2 : ((n : Int) - (x.length : Int)).toNat = n - x.length := by omega
  unfold padded padR blanks
  rw [e2]
  congr 2
  show (⟨_⟩ : Str) = ⟨_⟩
  congr 1
  try simp
section
variable {prog : Program} {w : World} {A : Around} {E : Value → Shared → Prop} {s : Shared} {t : Tok} {x y spec : Str}
/-- a text by a width alone -/
theorem fmt_str {n : Nat} {f : FormatSpec} {Q : Value → Shared → Prop} (hp : ∀ name, parseFormatSpec spec.cps.toList name 60 = .ok f) (hf : (f = specL n ∧ y = padL n x) ∨ (f = specR n ∧ y = padR n x)) (hne : (spec.length == 0) = false)
    (hasc : ((spec.cps.toList.drop 1).any (· ≥ 128) || (spec.cps.getD 0 0 ≥ 128 && !([60, 62, 61, 94] : List Nat).contains (spec.cps.getD 1 0))) = false) (hb : (f.type.isNone && spec.cps.back? == some 0) = false)
    (hsz : spec.length ≤ sizeLine) (hn : n ≤ 1000) (hL : y.length ≤ sizeLine) (h : ∀ t' k, Q (.str y t') { s with toks := k }) : wpAny (model prog w) A (formatField (.str x t) spec) Q E s := by
  refine KXf.field_meets hne (fun s' => typeIs_str s' x t) F.slot_str_format F.entry_str_format F.args_str_format_2 hsz (fun u => ?_) h
  apply KPc.meets_of
  intro prog w A s R E hR
  unfold Builtin.«str.__format__»
  refine wpAny_bind (wpAny_of_eq (a := (_, _, _)) rfl ?_)
  refine wpAny_bind (wpAny_of_eq (a := some spec) rfl ?_)
  dsimp only
  rw [if_neg (by rw [hne]; decide), if_neg (by rw [hasc]; decide)]
  refine wpAny_bind (KXf.cut_str ?_)
  have htl : tooLong (f.width.getD 0) = false := by
    have : f.width.getD 0 = n := by rcases hf with ⟨rfl, _⟩ | ⟨rfl, _⟩ <;> rfl
    rw [this]
    unfold tooLong
    first
      | (simp [sizeLine_eq]; omega)
      | (simp; omega)
  simp only [hp, pure_bind, hb, Bool.false_eq_true, if_false, bind, Except.bind, htl]
  by_cases hle : n ≤ x.length
  · have e : strField x f "str" = .ok none := field_long (n := n) (by rcases hf with ⟨h, _⟩ | ⟨h, _⟩ <;> simp [h]) hle
    rw [e]
    have ey : x = y := by
      rcases hf with ⟨_, h⟩ | ⟨_, h⟩
      · rw [h, padL_long hle]
      · rw [h, padR_long hle]
    exact wpAny_bind (wpAny_rule (KXf.ret_same ey hR))
  · have e : strField x f "str" = .ok (some y) := by
      rcases hf with ⟨h1, h2⟩ | ⟨h1, h2⟩
      · rw [h1, h2]; exact field_L hle
      · rw [h1, h2]; exact field_R hle
    rw [e]
    exact KXf.ret_text rfl hL hR
theorem toDigits_str {a : Int} (h : 0 ≤ a) : Str.ofString (toString a) = ⟨((Nat.toDigits 10 a.natAbs).map Char.toNat).toArray⟩ := by
  obtain ⟨n, rfl⟩ := Int.eq_ofNat_of_zero_le h
  exact text_ofNat n
theorem intText_L {a : Int} {n : Nat} (h : 0 ≤ a) : intSpecText (specL n) a = padL n (Str.ofString (toString a)) := by
  rw [toDigits_str h]
  have hneg : decide (a < 0) = false := decide_eq_false (by omega)
  have hne : ((Nat.toDigits 10 a.natAbs).map fun c => (if ((100 : Nat) == 88) = true then c.toUpper else c).toNat) = (Nat.toDigits 10 a.natAbs).map Char.toNat := by
    congr 1
  have h0 : ((Nat.toDigits 10 a.natAbs).map Char.toNat).isEmpty = false := by
    have : 0 < (Nat.toDigits 10 a.natAbs).length := Nat.length_toDigits_pos
    cases e : Nat.toDigits 10 a.natAbs with
    | nil => rw [e] at this; cases this
    | cons c r => rfl
  unfold intSpecText intField' specL
  rw [hneg, hne]
  simp only [h0, Bool.false_eq_true, if_false, show ((62 : Nat) == 60) = false by decide, show ((62 : Nat) == 94) = false by decide, show ((62 : Nat) == 61) = false by decide, show ((32 : Nat) == 48) = false by decide, Bool.false_and, List.length_nil, List.replicate_zero, List.nil_append, List.append_nil]
  unfold padL blanks
  show (⟨_⟩ : Str) = ⟨_ ++ _⟩
  congr 1
  simp [Str.length]
theorem len_toDigits {a : Int} (h : a.natAbs < 10 ^ 100) : (Nat.toDigits 10 a.natAbs).length ≤ 100 := by
  have e := (Nat.length_repr_le_iff (n := a.natAbs) (by decide : 0 < 100)).mpr h
  rwa [← String.length_toList, Nat.toList_repr] at e
/-- a whole number by a width alone, to the right -/
theorem fmt_int {a : Int} {n : Nat} {Q : Value → Shared → Prop} (h0 : 0 ≤ a) (hlt : a.natAbs < 10 ^ 100) (hp : parseFormatSpec spec.cps.toList "int" 62 = .ok (specL n)) (hne : (spec.length == 0) = false)
    (hasc : ((spec.cps.toList.drop 1).any (· ≥ 128) || (spec.cps.getD 0 0 ≥ 128 && !([60, 62, 61, 94] : List Nat).contains (spec.cps.getD 1 0))) = false) (hb : (spec.cps.back? == some 0) = false)
    (hsz : spec.length ≤ sizeLine) (hn : n ≤ 1000) (h : ∀ t' k, Q (.str (padL n (Str.ofString (toString a))) t') { s with toks := k }) : wpAny (model prog w) A (formatField (.int a t) spec) Q E s := by
  have hlog : a.natAbs.log2 < 1920 := by
    by_cases z : a.natAbs = 0
    · rw [z]; decide
    · exact (Nat.log2_lt z).mpr (Nat.lt_trans hlt (by decide))
  have hL : (padL n (Str.ofString (toString a))).length ≤ sizeLine := by
    have e := len_toDigits hlt
    rw [toDigits_str h0]
    show (Array.size _) ≤ _
    unfold padL blanks
    show (_ ++ _ : Array Nat).size ≤ sizeLine
    rw [Array.size_append]
    simp only [List.size_toArray, List.length_replicate, List.length_map]
    have : (sizeLine : Nat) = 16777216 := sizeLine_eq
    omega
  refine KXf.field_meets hne (fun s' => typeIs_int s' a t) F.slot_int_format F.entry_int_format F.args_int_format_2 hsz (fun u => ?_) h
  apply KPc.meets_of
  intro prog w A s R E hR
  unfold Builtin.«int.__format__»
  refine wpAny_bind (wpAny_of_eq (a := (_, _)) rfl ?_)
  refine wpAny_bind (wpAny_of_eq (a := _) rfl ?_)
  dsimp only
  rw [if_neg (by simp)]
  refine wpAny_bind (wpAny_typeNameOf (T := "str") (typeIs_str _ _ _) (by decide) fun _ => ?_)
  refine wpAny_bind (wpAny_of_eq (a := some _) rfl ?_)
  dsimp only
  rw [if_neg (by rw [hne]; decide), if_neg (by rw [hasc]; decide)]
  refine wpAny_bind (wpAny_typeNameOfCut_int ?_)
  simp only [hp]
  have ht : (specL n).type.getD (if (spec.cps.back? == some 0) = true then 0 else 100) = 100 := by rw [hb]; rfl
  rw [ht]
  rw [if_pos (by decide)]
  show wpAny _ _ (do let r ← Builtin.overDigitLimit? a; _) _ _ _
  refine wpAny_bind (wpAny_of_eq (PySem.overDigitLimit_small hlog) ?_)
  show wpAny _ _ (if (specL n).width.getD 0 > 100000 then _ else _) _ _ _
  rw [if_neg (by show ¬ n > 100000; omega)]
  have key : ∀ X : Str, X = intSpecText (specL n) a → X = padL n (Str.ofString (toString a)) ∧ X.length ≤ sizeLine := fun X e => by
    rw [e, intText_L h0]
    exact ⟨rfl, hL⟩
  refine (fun z => KXf.ret_text (key _ z).1 (key _ z).2 hR) ?_
  rw [intText_L h0, toDigits_str h0]
  conv => lhs; whnf
  have hna : ¬ a < 0 := by omega
  simp [specL, hna]
  unfold padL blanks
  show (⟨_⟩ : Str) = ⟨_ ++ _⟩
  congr 1
  simp [Str.length]
end
/-! ### rules -/
section
variable {X : Cx} {e : Expr} {te : TE} {pos p1 p2 : Pos} {sp : Str} {j : Nat}
/-- {x:>n}, x a whole number from 0 on -/
def tFmtI (n : Nat) (te : TE) : TE := fun σ H Q => te σ H fun x H1 => ∃ i : Int, x = .int i ∧ 0 ≤ i ∧ i.natAbs < 10 ^ 100 ∧ Q (.str (padL n (Str.ofString (toString i)))) H1
theorem pe_fmtI (n : Nat) (he : PE X e te) (hp : parseFormatSpec sp.cps.toList "int" 62 = .ok (specL n)) (hne : (sp.length == 0) = false)
    (hasc : ((sp.cps.toList.drop 1).any (· ≥ 128) || (sp.cps.getD 0 0 ≥ 128 && !([60, 62, 61, 94] : List Nat).contains (sp.cps.getD 1 0))) = false) (hb : (sp.cps.back? == some 0) = false)
    (hsz : sp.length ≤ sizeLine) (hn : n ≤ 1000) : PE X (.FormattedValue e (-1) (some (.JoinedStr [.Constant (.str sp) j p1] p2)) pos) (tFmtI n te) := by
  refine ⟨fun pins s σ H Q I h => ?_⟩
  refine wpAny_FormattedValue_spec (thn (he.run pins s σ H _ I h) fun v s1 hv => ?_)
  obtain ⟨x, H1, I1, r1, i, rfl, h0, hl, q⟩ := hv
  obtain ⟨t, rfl⟩ := r1
  refine wpAny_JoinedStr_one (Calls.Constant_str ⟨sp, _, rfl, ?_⟩)
  exact fmt_int h0 hl hp hne hasc hb hsz hn fun t' k => ⟨.str (padL n (Str.ofString (toString i))), H1, I1.tok _, ⟨_, rfl⟩, q⟩
/-- {x:<n}, {x:>n}, x a text -/
def tFmtS (y : Str → Str) (te : TE) : TE := fun σ H Q => te σ H fun x H1 => ∃ z : Str, x = .str z ∧ (y z).length ≤ sizeLine ∧ Q (.str (y z)) H1
theorem pe_fmtS (n : Nat) (y : Str → Str) {f : FormatSpec} (he : PE X e te) (hp : ∀ name, parseFormatSpec sp.cps.toList name 60 = .ok f) (hf : (f = specL n ∧ y = padL n) ∨ (f = specR n ∧ y = padR n)) (hne : (sp.length == 0) = false)
    (hasc : ((sp.cps.toList.drop 1).any (· ≥ 128) || (sp.cps.getD 0 0 ≥ 128 && !([60, 62, 61, 94] : List Nat).contains (sp.cps.getD 1 0))) = false) (hb : (sp.cps.back? == some 0) = false)
    (hsz : sp.length ≤ sizeLine) (hn : n ≤ 1000) : PE X (.FormattedValue e (-1) (some (.JoinedStr [.Constant (.str sp) j p1] p2)) pos) (tFmtS y te) := by
  refine ⟨fun pins s σ H Q I h => ?_⟩
  refine wpAny_FormattedValue_spec (thn (he.run pins s σ H _ I h) fun v s1 hv => ?_)
  obtain ⟨x, H1, I1, r1, z, rfl, hl, q⟩ := hv
  obtain ⟨t, rfl⟩ := r1
  refine wpAny_JoinedStr_one (Calls.Constant_str ⟨sp, _, rfl, ?_⟩)
  exact fmt_str (f := f) hp (by rcases hf with ⟨h1, h2⟩ | ⟨h1, h2⟩ <;> simp [h1, h2]) hne hasc (by rw [hb, Bool.and_false]) hsz hn hl fun t' k => ⟨.str (y z), H1, I1.tok _, ⟨_, rfl⟩, q⟩
end
end Gx

-- part GStr
set_option Elab.async false
set_option linter.all false
set_option maxRecDepth 100000
set_option maxHeartbeats 1000000
namespace Gx
open PySem PySem.Spec PyProof.Rows L2
open Rp (rp)
open Sc (toV)
/-! ### a value as it is; one of two kinds -/
instance : Sc V where
  rp := fun _ x v _ => v = x
  mono := fun _ h => h
  toV := id
  rp_iff := Iff.rfl
instance {α β : Type} [Sc α] [Sc β] : Sc (Sum α β) where
  rp := fun _ x v _ => v = match x with | .inl a => toV a | .inr b => toV b
  mono := fun _ h => h
  toV := fun x => match x with | .inl a => toV a | .inr b => toV b
  rp_iff := Iff.rfl
/-- every sign is a code point -/
def cpOk (x : Str) : Prop := PySem.PyData.strOk x = true
section
variable {X : Cx} {K : PySem.W.Frag} {σ : St} {G : Hp} {S S1 S2 : Sto} {e a b c : Expr} {pos : Pos} {te : TE}
variable [Tb] in
theorem Ev.cv {α β : Type} [Rp α] [Rp β] {x : α} {y : β} (h : Ev K te σ G S x S1) (c : ∀ v G', Same G G' → rp K x v G' → rp K y v G') : Ev K te σ G S y S1 := fun G1 H e hd Q k => h G1 H e hd Q fun v G' H' s r => k v G' H' s (c v G' (e.trans s.gg) r)
/-! ### texts -/
def repS (x : Str) (n : Int) : Str := ⟨((List.replicate n.toNat x.cps.toList).flatten).toArray⟩
theorem foldl_app (x : Array Nat) : ∀ (n : Nat) (acc : Array Nat), (List.replicate n x).foldl (· ++ ·) acc = acc ++ ((List.replicate n x.toList).flatten).toArray
  | 0, acc => by simp
  | n + 1, acc => by
    rw [List.replicate_succ, List.foldl_cons, foldl_app x n, List.replicate_succ, List.flatten_cons, ← List.append_toArray, Array.append_assoc]
theorem repS_one (x : Str) : repS x 1 = x := by
  show (⟨((List.replicate 1 x.cps.toList).flatten).toArray⟩ : Str) = x
  simp
theorem repS_empty {x : Str} (h : x.length = 0) (n : Int) : repS x n = x := by
  have e : x.cps = #[] := Array.size_eq_zero_iff.mp h
  unfold repS
  cases x with
  | mk cps =>
    simp only at e
    subst e
    simp
theorem repS_length (x : Str) (n : Int) : (repS x n).length = n.toNat * x.length := by
  unfold repS
  show Array.size _ = _
  simp [Str.length]
theorem op_mulS {X : Cx} : OpR X (binaryOp .Mult) (fun x y H Q => ∃ (z : Str) (n : Int), x = .str z ∧ y = .int n ∧ -100000 ≤ n ∧ n ≤ 100000 ∧ z.length ≤ 100 ∧ Q (.str (repS z n)) H) := by
  intro pins s σ H x y v u Q I rx ry h
  obtain ⟨z, n, rfl, rfl, h0, h1, hz, q⟩ := h
  obtain ⟨t, rfl⟩ := rx
  obtain ⟨t', rfl⟩ := ry
  have hs : sizeLine = 16777216 := sizeLine_eq
  have bnd : n.toNat * z.length ≤ 100000 * 100 := Nat.mul_le_mul (by omega) hz
  refine PySem.P.mul_str (by rw [decide_eq_false (by omega), decide_eq_false (by omega)]; rfl) (fun hn _ => ?_) (fun hn _ => ?_) ?_
  · have hn' : 1 ≤ n := by omega
    have : (92233720368547 : Int) ≤ (2 ^ 63 - 1) / n := by
      refine Int.le_ediv_of_mul_le (by omega) ?_
      have : n * 92233720368547 ≤ 100000 * 92233720368547 := Int.mul_le_mul_of_nonneg_right h1 (by decide)
      omega
    omega
  · unfold Builtin.Str.tooLong
    rw [Nat.mul_comm]
    exact decide_eq_false (by omega)
  · by_cases hn : n < 1
    · rw [if_pos hn]
      have e : repS z n = Str.empty := by
        have : n.toNat = 0 := by omega
        unfold repS
        rw [this]
        rfl
      refine ⟨by decide, .str (repS z n), H, I.tok _, ⟨_, by rw [e]⟩, q⟩
    · rw [if_neg hn]
      by_cases h2 : (n == 1 || z.length == 0) = true
      · rw [if_pos h2]
        have e : repS z n = z := by
          rcases Bool.or_eq_true_iff.mp h2 with h | h
          · rw [beq_iff_eq.mp h]; exact repS_one z
          · exact repS_empty (beq_iff_eq.mp h) n
        exact ⟨.str (repS z n), H, I, ⟨_, by rw [e]⟩, q⟩
      · rw [if_neg h2]
        have e : (⟨(List.replicate n.toNat z.cps).foldl (· ++ ·) #[]⟩ : Str) = repS z n := by
          unfold repS
          rw [foldl_app]
          simp
        refine ⟨?_, .str (repS z n), H, I.tok _, ⟨_, by rw [e]⟩, q⟩
        rw [e, repS_length]
        omega
variable [Tb] in
theorem ex_addS {x y : Str} (ha : EX X a σ G S x S1) (hb : EX X b σ G S1 y S2) (hl : x.length + y.length ≤ 1000000) : EX X (.BinOp a .Add b pos) σ G S (x ++ y) S2 :=
  Ev.to (pe_op op_add_str (pE a) (pE b)) (ev_opS ha hb fun H Q q => ⟨x, y, rfl, rfl, Nat.le_trans hl (by decide), q⟩)
variable [Tb] in
theorem ex_mulS' {x : Str} {n : Int} (ha : EX X a σ G S x S1) (hb : EX X b σ G S1 n S2) (h : -100000 ≤ n ∧ n ≤ 100000) (hz : x.length ≤ 100) : EX X (.BinOp a .Mult b pos) σ G S (repS x n) S2 :=
  Ev.to (pe_op op_mulS (pE a) (pE b)) (ev_opS ha hb fun H Q q => ⟨x, n, rfl, rfl, h.1, h.2, hz, q⟩)
variable [Tb] in
theorem ex_ixS {x : Str} {i : Int} {c : Nat} (ha : EX X a σ G S x S1) (hb : EX X b σ G S1 i S2) (hx : atI x.cps.toList i = some c) (hl : x.length ≤ 1000000) (hs : PlainIx b := by exact fun _ _ => rfl) : EX X (.Subscript a b pos) σ G S (⟨#[c]⟩ : Str) S2 :=
  Ev.to (pe_ix ix_str (pE a) (pE b) hs) (ev_opS ha hb fun H Q q => ⟨x, i, c, rfl, rfl, Nat.le_trans hl (by decide), hx, q⟩)
variable [Tb] in
theorem ex_lenS {x : Str} {p : Pos} (ha : EX X a σ G S x S1) (hm : X.mg "len" = none) (hl : x.length ≤ 1000000) (hg : Gl X "len" := by rfl) (hse : starEach [a] X.env = (false, eval a X.env) :: starEach [] X.env := by rfl) : EX X (.Call (.Name "len" p) [a] [] pos) σ G S (x.length : Int) S1 :=
  Ev.to (pe_callB call_len hg hm PySem.boot_len (pa_cons (pE a) pa_nil hse) (he := hse)) fun G1 H e hd Q k => ha G1 H e hd _ fun v G2 H2 s2 r2 => ⟨v, x.length, rfl, by rw [show v = .str x from r2]; exact ⟨Nat.le_trans hl (by decide), rfl⟩, k _ G2 H2 s2 rfl⟩
variable [Tb] in
theorem ex_sliceS {x : Str} {lo hi : Option Expr} {tl th : TO} {l u : Option Int} {p2 : Pos} (pl : PO X lo tl) (pu : PO X hi th) (ha : EX X a σ G S x S1) (hl : ∀ G, EvO tl σ G S1 l S1) (hu : ∀ G, EvO th σ G S1 u S1) (hx : x.length ≤ 1000000) :
    EX X (.Subscript a (.Slice lo hi none p2) pos) σ G S (cutS x l u) S1 :=
  Ev.to (pe_slice sl_str (pE a) pl pu) fun G1 H e hd Q k => ha G1 H e hd _ fun v G2 H2 s2 r2 => hl G2 G2 H2 (Same.refl _) s2.hold _ fun G3 H3 s3 => hu G3 G3 H3 (Same.refl _) s3.hold _ fun G4 H4 s4 =>
    ⟨x, r2, Nat.le_trans hx (by decide), k _ G4 H4 ((s2.trans s3).trans s4) rfl⟩
/-- the text of a number -/
def numS (n : Int) : Str := Str.ofString (toString n)
variable [Tb] in
theorem ex_strI {n : Int} {p : Pos} (ha : EX X a σ G S n S1) (hn : n.natAbs.log2 < 1920) (hm : X.mg "str" = none) (hg : Gl X "str" := by rfl) (hse : starEach [a] X.env = (false, eval a X.env) :: starEach [] X.env := by rfl) : EX X (.Call (.Name "str" p) [a] [] pos) σ G S (numS n) S1 :=
  Ev.to (pe_callTy call_str_int hg hm (by decide +kernel) (pa_cons (pE a) pa_nil hse) (he := hse)) fun G1 H e hd Q k => ha G1 H e hd _ fun v G2 H2 s2 r2 => ⟨n, by rw [show v = .int n from r2], hn, k _ G2 H2 s2 rfl⟩
/-- str of a number or a text -/
def strU : Sum Int Str → Str
  | .inl n => numS n
  | .inr z => z
variable [Tb] in
theorem ex_strU {u : Sum Int Str} {p : Pos} (ha : EX X a σ G S u S1) (hn : ∀ n, u = .inl n → n.natAbs.log2 < 1920) (hm : X.mg "str" = none) (hg : Gl X "str" := by rfl) (hse : starEach [a] X.env = (false, eval a X.env) :: starEach [] X.env := by rfl) : EX X (.Call (.Name "str" p) [a] [] pos) σ G S (strU u) S1 :=
  Ev.to (pe_callTy (CallR.or call_str_int SkE.call_str_str) hg hm (by decide +kernel) (pa_cons (pE a) pa_nil hse) (he := hse)) fun G1 H e hd Q k => ha G1 H e hd _ fun v G2 H2 s2 r2 => by
    cases u with
    | inl n => exact .inl ⟨n, by rw [show v = .int n from r2], hn n rfl, k _ G2 H2 s2 rfl⟩
    | inr z => exact .inr ⟨z, by rw [show v = .str z from r2], k _ G2 H2 s2 rfl⟩
variable [Tb] in
/-- sep.join(a list of texts) -/
theorem ex_join {x : Str} {ys : List Str} {o : Expr} {apos : Pos} (ho : EX X o σ G S x S1) (ha : EL X a σ G S1 ys S2) (hl : (ys.map (·.length)).sum + ys.length * x.length ≤ 16777216)
    (hp : PE X (.Call (.Attribute o "join" apos) [a] [] pos) (tM1 (fun x xs H Q => ∃ a p, ∃ ys : List Str, x = .str a ∧ xs = [.ref p] ∧ (SqL X.K H p (ys.map V.str) ∨ SqT X.K H p (ys.map V.str)) ∧ (ys.map (·.length)).sum + ys.length * a.length ≤ 16777216 ∧ Q (.str (Txt.join a ys)) H) (cE X o) (cE X a)) := by exact pe_join (pE _) (pE _)) :
    EX X (.Call (.Attribute o "join" apos) [a] [] pos) σ G S (Txt.join x ys) S2 :=
  Ev.to hp fun G1 H e hd Q k => ho G1 H e hd _ fun v G2 H2 s2 r2 => ⟨⟨x, r2⟩, ha G2 H2 (e.trans s2.gg) s2.hold _ fun w G3 H3 s3 r3 => by
    obtain ⟨l, vs, rfl, hq, hi⟩ := r3.sq s3.hold
    rw [Its.sc hi] at hq
    exact ⟨x, l, ys, r2, rfl, .inl hq, hl, k _ G3 H3 (s2.trans s3) rfl⟩⟩
/-! ### f-strings -/
variable [Tb] in
theorem ex_fmtI {i : Int} {n j : Nat} {sp : Str} {p1 p2 : Pos} (he : EX X e σ G S i S1) (h : 0 ≤ i ∧ i.natAbs < 10 ^ 100) (hp : PE X (.FormattedValue e (-1) (some (.JoinedStr [.Constant (.str sp) j p1] p2)) pos) (tFmtI n (cE X e))) :
    EX X (.FormattedValue e (-1) (some (.JoinedStr [.Constant (.str sp) j p1] p2)) pos) σ G S (padL n (numS i)) S1 :=
  Ev.to hp fun G1 H e hd Q k => he G1 H e hd _ fun v G2 H2 s2 r2 => ⟨i, r2, h.1, h.2, k _ G2 H2 s2 rfl⟩
variable [Tb] in
theorem ex_fmtS {z : Str} {y : Str → Str} {j : Nat} {sp : Str} {p1 p2 : Pos} (he : EX X e σ G S z S1) (hl : (y z).length ≤ 1000000) (hp : PE X (.FormattedValue e (-1) (some (.JoinedStr [.Constant (.str sp) j p1] p2)) pos) (tFmtS y (cE X e))) :
    EX X (.FormattedValue e (-1) (some (.JoinedStr [.Constant (.str sp) j p1] p2)) pos) σ G S (y z) S1 :=
  Ev.to hp fun G1 H e hd Q k => he G1 H e hd _ fun v G2 H2 s2 r2 => ⟨z, r2, Nat.le_trans hl (by decide), k _ G2 H2 s2 rfl⟩
variable [Tb] in
theorem ex_fmt {z : Str} (he : EX X e σ G S z S1) (hl : z.length ≤ 1000000) : EX X (.FormattedValue e (-1) none pos) σ G S z S1 :=
  Ev.to (pe_fmt (pE e)) fun G1 H e hd Q k => he G1 H e hd _ fun v G2 H2 s2 r2 => .inl ⟨z, r2, Nat.le_trans hl (by decide), k _ G2 H2 s2 rfl⟩
variable [Tb] in
theorem ex_fmtN {i : Int} (he : EX X e σ G S i S1) (hn : i.natAbs.log2 < 1920) : EX X (.FormattedValue e (-1) none pos) σ G S (numS i) S1 :=
  Ev.to (pe_fmt (pE e)) fun G1 H e hd Q k => he G1 H e hd _ fun v G2 H2 s2 r2 => .inr ⟨i, r2, hn, k _ G2 H2 s2 rfl⟩
variable [Tb] in
/-- the parts of an f-string, glued behind acc -/
def EJ (X : Cx) (es : List Expr) (acc : Str) (σ : St) (G : Hp) (S : Sto) (x : Str) (S' : Sto) : Prop :=
  ∃ ts, PJ X es ts ∧ ∀ G1 H, Same G G1 → Hold G1 S H → ∀ Q : Str → Hp → Prop, (∀ G' H', Stp G1 S H G' S' H' → Q x H') → tJs ts acc σ H Q
variable [Tb] in
theorem ej_nil {acc : Str} : EJ X [] acc σ G S acc S := ⟨[], .nil, fun G1 H e hd Q k => k G1 H (.refl hd)⟩
variable [Tb] in
theorem ej_cons {acc x y : Str} {es : List Expr} (h : EX X e σ G S x S1) (hr : EJ X es (acc ++ x) σ G S1 y S2) (hl : (acc ++ x).length ≤ 1000000) : EJ X (e :: es) acc σ G S y S2 := by
  obtain ⟨ts, pj, r⟩ := hr
  refine ⟨cE X e :: ts, .cons (pE e) pj, fun G1 H e hd Q k => ?_⟩
  refine h G1 H e hd _ fun v G2 H2 s2 r2 => ⟨x, r2, Nat.le_trans hl (by decide), r G2 H2 (e.trans s2.gg) s2.hold Q fun G3 H3 s3 => k G3 H3 (s2.trans s3)⟩
variable [Tb] in
theorem ex_fstr {v1 v2 : Expr} {r : List Expr} {x : Str} (h : EJ X (v1 :: v2 :: r) Str.empty σ G S x S1) : EX X (.JoinedStr (v1 :: v2 :: r) pos) σ G S x S1 := by
  obtain ⟨ts, pj, h⟩ := h
  exact Ev.to (pe_joined pj) fun G1 H e hd Q k => h G1 H e hd _ fun G' H' s => k _ G' H' s rfl

/-! ### deep == -/
class Dt (α : Type) extends Rp α where
  toD : α → PyData
  ok : α → Prop
  deep : Nat
  dp : ∀ {K : PySem.W.Frag} {x : α} {v : V} {G : Hp}, Rp.rp K x v G → Dp K G v (toD x)
  lay : ∀ x, ok x → PyData.canLay0 (toD x) = true
  dep : ∀ x, (toD x).depth ≤ deep
  eqv : ∀ x y, PyData.eqv (toD x) (toD y) = true ↔ x = y
instance : Dt Int where
  toRp := inferInstance
  toD := .int
  ok := fun _ => True
  deep := 0
  dp := fun {K x v G} h => by rw [show v = .int x from h]; exact .int x
  lay := fun _ _ => rfl
  dep := fun _ => Nat.le_refl _
  eqv := fun x y => by simp [PyData.eqv]
instance : Dt Bool where
  toRp := inferInstance
  toD := .bool
  ok := fun _ => True
  deep := 0
  dp := fun {K x v G} h => by rw [show v = .bl x from h]; exact .bl x
  lay := fun _ _ => rfl
  dep := fun _ => Nat.le_refl _
  eqv := fun x y => by simp [PyData.eqv]
instance : Dt Str where
  toRp := inferInstance
  toD := .str
  ok := fun x => cpOk x
  deep := 0
  dp := fun {K x v G} h => by rw [show v = .str x from h]; exact .str x
  lay := fun _ h => h
  dep := fun _ => Nat.le_refl _
  eqv := fun x y => by simp [PyData.eqv]
instance : Dt (Sum Int Str) where
  toRp := inferInstance
  toD := fun x => match x with | .inl a => .int a | .inr b => .str b
  ok := fun x => ∀ z, x = .inr z → cpOk z
  deep := 0
  dp := fun {K x v G} h => by
    cases x with
    | inl a => rw [show v = .int a from h]; exact .int a
    | inr a => rw [show v = .str a from h]; exact .str a
  lay := fun x h => by
    cases x with
    | inl a => rfl
    | inr a => exact h a rfl
  dep := fun x => by cases x <;> exact Nat.le_refl _
  eqv := fun x y => by cases x <;> cases y <;> simp [PyData.eqv]
def allD {α : Type} [Dt α] (xs : List α) : List PyData := xs.map Dt.toD
theorem dpAll {α : Type} [Dt α] : ∀ {xs : List α} {vs : List V}, Its K xs vs G → DpAll K G vs (allD xs)
  | _, _, .nil => .nil
  | _, _, .cons r t => .cons (Dt.dp r) (dpAll t)
theorem layAll {α : Type} [Dt α] : ∀ {xs : List α}, (∀ x ∈ xs, Dt.ok x) → PyData.canLayAll0 (allD xs) = true
  | [], _ => rfl
  | x :: r, h => by
    show (PyData.canLay0 (Dt.toD x) && PyData.canLayAll0 (allD r)) = true
    rw [Dt.lay x (h x List.mem_cons_self), layAll fun y m => h y (List.mem_cons_of_mem _ m)]; rfl
theorem depAll {α : Type} [Dt α] : ∀ (xs : List α), PyData.depthAll (allD xs) ≤ Dt.deep α
  | [] => Nat.zero_le _
  | x :: r => by
    show max (PyData.depth (Dt.toD x)) (PyData.depthAll (allD r)) ≤ _
    exact Nat.max_le.mpr ⟨Dt.dep x, depAll r⟩
theorem eqvAll_iff {α : Type} [Dt α] : ∀ (xs ys : List α), PyData.eqvAll (allD xs) (allD ys) = true ↔ xs = ys
  | [], [] => by simp [allD, PyData.eqvAll]
  | [], y :: s => by simp [allD, PyData.eqvAll]
  | x :: r, [] => by simp [allD, PyData.eqvAll]
  | x :: r, y :: s => by
    show (PyData.eqv (Dt.toD x) (Dt.toD y) && PyData.eqvAll (allD r) (allD s)) = true ↔ _
    rw [Bool.and_eq_true, Dt.eqv, eqvAll_iff r s]
    simp
instance {α : Type} [Dt α] : Dt (List α) where
  toRp := inferInstance
  toD := fun xs => .list (allD xs)
  ok := fun xs => ∀ x ∈ xs, Dt.ok x
  deep := Dt.deep α + 1
  dp := fun {K x v G} ⟨a, vs, e, h, hi⟩ => by rw [e]; exact .lst (SqL.of h) (dpAll hi)
  lay := fun x h => by show PyData.canLayAll0 _ = true; exact layAll h
  dep := fun x => by show PyData.depthAll _ + 1 ≤ _; exact Nat.succ_le_succ (depAll x)
  eqv := fun x y => by show PyData.eqvAll _ _ = true ↔ _; exact eqvAll_iff x y
instance {α β γ δ : Type} [Dt α] [Dt β] [Dt γ] [Dt δ] : Dt (P4 α β γ δ) where
  toRp := inferInstance
  toD := fun x => .tuple [Dt.toD x.f0, Dt.toD x.f1, Dt.toD x.f2, Dt.toD x.f3]
  ok := fun x => Dt.ok x.f0 ∧ Dt.ok x.f1 ∧ Dt.ok x.f2 ∧ Dt.ok x.f3
  deep := max (Dt.deep α) (max (Dt.deep β) (max (Dt.deep γ) (Dt.deep δ))) + 1
  dp := fun {K x v G} ⟨a, v0, v1, v2, v3, e, h, h0, h1, h2, h3⟩ => by rw [e]; exact .tup (SqT.of h) (.cons (Dt.dp h0) (.cons (Dt.dp h1) (.cons (Dt.dp h2) (.cons (Dt.dp h3) .nil))))
  lay := fun x ⟨h0, h1, h2, h3⟩ => by
    show (PyData.canLay0 _ && (PyData.canLay0 _ && (PyData.canLay0 _ && (PyData.canLay0 _ && true)))) = true
    rw [Dt.lay _ h0, Dt.lay _ h1, Dt.lay _ h2, Dt.lay _ h3]; rfl
  dep := fun x => by
    show max (PyData.depth _) (max (PyData.depth _) (max (PyData.depth _) (max (PyData.depth _) 0))) + 1 ≤ _
    have := Dt.dep x.f0
    have := Dt.dep x.f1
    have := Dt.dep x.f2
    have := Dt.dep x.f3
    omega
  eqv := fun x y => by
    show (PyData.eqv _ _ && (PyData.eqv _ _ && (PyData.eqv _ _ && (PyData.eqv _ _ && true)))) = true ↔ _
    simp only [Bool.and_eq_true, Dt.eqv, and_true]
    cases x; cases y
    simp
theorem dt_shaped {α : Type} [Dt α] {x : α} (h : Dt.ok x) (hd : Dt.deep α ≤ 64) : SeqAt.shaped (Dt.toD x) = true := by
  unfold SeqAt.shaped
  rw [Dt.lay x h, decide_eq_true (Nat.le_trans (Dt.dep x) hd)]; rfl
/-- a value that is data, owned or not -/
def DV {α : Type} [Dt α] (K : PySem.W.Frag) (x : α) (v : V) (H : Hp) : Prop := Dp K H v (Dt.toD x)
variable [Tb] in
def EvD {α : Type} [Dt α] (K : PySem.W.Frag) (te : TE) (σ : St) (G : Hp) (S : Sto) (x : α) (S' : Sto) : Prop :=
  ∀ G1 H, Same G G1 → Hold G1 S H → ∀ Q : VK, (∀ v G' H', Stp G1 S H G' S' H' → (∀ G2 H2, Stp G' S' H' G2 S' H2 → Dp K H2 v (Dt.toD x)) → Q v H') → te σ H Q
mutual
theorem Dp_mono {K : PySem.W.Frag} {H H' : Hp} (e : Same H H') : ∀ {v : V} {d : PyData}, Dp K H v d → Dp K H' v d
  | _, _, .non => .non
  | _, _, .bl b => .bl b
  | _, _, .int i => .int i
  | _, _, .str x => .str x
  | _, _, .lst h t => .lst (e.seq h) (DpAll_mono e t)
  | _, _, .tup h t => .tup (sameT e h) (DpAll_mono e t)
theorem DpAll_mono {K : PySem.W.Frag} {H H' : Hp} (e : Same H H') : ∀ {vs : List V} {ds : List PyData}, DpAll K H vs ds → DpAll K H' vs ds
  | _, _, .nil => .nil
  | _, _, .cons h t => .cons (Dp_mono e h) (DpAll_mono e t)
end
variable [Tb] in
theorem Ev.dt {α : Type} [Dt α] {x : α} (h : Ev K te σ G S x S1) : EvD K te σ G S x S1 := fun G1 H e hd Q k => h G1 H e hd Q fun v G' H' s r => k v G' H' s fun G2 H2 s2 => Dp_mono (s2.gg.trans s2.hold.ex) (Dt.dp r)
variable [Tb] in
theorem EvL.dt {α : Type} [Dt α] {xs : List α} (h : EvL K te σ G S xs S1) : EvD K te σ G S xs S1 := fun G1 H e hd Q k => h G1 H e hd Q fun v G' H' s r => k v G' H' s fun G2 H2 s2 => by
  obtain ⟨l, vs, rfl, hq, hi⟩ := (r.mono s2.gg).sq s2.hold
  exact .lst hq (DpAll_mono s2.hold.ex (dpAll hi))
theorem _root_.L2.Room.eqU {k : Nat} {A : Around} (r : Room k A) : A.units + 64 < cLine := by have := r.un; omega
variable [Tb] in
theorem vl_eqD {α : Type} [Dt α] [DecidableEq α] {x y : α} (ha : EvD X.K (cE X a) σ G S x S1) (hb : EvD X.K (cE X b) σ G S1 y S1) (h1 : Dt.ok x) (h2 : Dt.ok y) (hd : Dt.deep α ≤ 64) : Ev X.K (tOp (rEqD X.K) (cE X a) (cE X b)) σ G S (decide (x = y)) S1 :=
  fun G1 H e hd0 Q k => ha G1 H e hd0 _ fun v G2 H2 s2 r2 => hb G2 H2 (e.trans s2.gg) s2.hold _ fun u G3 H3 s3 r3 => by
    refine ⟨Dt.toD x, Dt.toD y, r2 G3 H3 s3, r3 G3 H3 (.refl s3.hold), dt_shaped h1 hd, dt_shaped h2 hd, ?_⟩
    have e : PyData.eqv (Dt.toD x) (Dt.toD y) = decide (x = y) := by
      rw [Bool.eq_iff_iff, decide_eq_true_iff]; exact Dt.eqv x y
    rw [e]
    exact k _ G3 H3 (s2.trans s3) rfl
variable [Tb] in
theorem vl_neD {α : Type} [Dt α] [DecidableEq α] {x y : α} (ha : EvD X.K (cE X a) σ G S x S1) (hb : EvD X.K (cE X b) σ G S1 y S1) (h1 : Dt.ok x) (h2 : Dt.ok y) (hd : Dt.deep α ≤ 64) : Ev X.K (tOp (rNeD X.K) (cE X a) (cE X b)) σ G S (!decide (x = y)) S1 :=
  fun G1 H e hd0 Q k => ha G1 H e hd0 _ fun v G2 H2 s2 r2 => hb G2 H2 (e.trans s2.gg) s2.hold _ fun u G3 H3 s3 r3 => by
    refine ⟨Dt.toD x, Dt.toD y, r2 G3 H3 s3, r3 G3 H3 (.refl s3.hold), dt_shaped h1 hd, dt_shaped h2 hd, ?_⟩
    have e : PyData.eqv (Dt.toD x) (Dt.toD y) = decide (x = y) := by
      rw [Bool.eq_iff_iff, decide_eq_true_iff]; exact Dt.eqv x y
    rw [e]
    exact k _ G3 H3 (s2.trans s3) rfl
variable [Tb] in
theorem ex_eqD {α : Type} [Dt α] [DecidableEq α] {x y : α} (hu : X.A.units + 64 < cLine) (ha : EvD X.K (cE X a) σ G S x S1) (hb : EvD X.K (cE X b) σ G S1 y S1) (h1 : Dt.ok x) (h2 : Dt.ok y) (hd : Dt.deep α ≤ 64 := by decide) : EX X (.Compare a [.Eq] [b] pos) σ G S (decide (x = y)) S1 := ex_cmp (op_eqD hu) (nomark _) (vl_eqD ha hb h1 h2 hd)
variable [Tb] in
theorem et_eqD {α : Type} [Dt α] [DecidableEq α] {x y : α} (hu : X.A.units + 64 < cLine) (ha : EvD X.K (cE X a) σ G S x S1) (hb : EvD X.K (cE X b) σ G S1 y S1) (h1 : Dt.ok x) (h2 : Dt.ok y) (hd : Dt.deep α ≤ 64 := by decide) : ET X (.Compare a [.Eq] [b] pos) σ G S (decide (x = y)) S1 := et_cmp (op_eqD hu) (nomark _) (vl_eqD ha hb h1 h2 hd)
variable [Tb] in
theorem ex_neD {α : Type} [Dt α] [DecidableEq α] {x y : α} (hu : X.A.units + 64 < cLine) (ha : EvD X.K (cE X a) σ G S x S1) (hb : EvD X.K (cE X b) σ G S1 y S1) (h1 : Dt.ok x) (h2 : Dt.ok y) (hd : Dt.deep α ≤ 64 := by decide) : EX X (.Compare a [.NotEq] [b] pos) σ G S (!decide (x = y)) S1 := ex_cmp (op_neD hu) (nomark _) (vl_neD ha hb h1 h2 hd)
variable [Tb] in
theorem et_neD {α : Type} [Dt α] [DecidableEq α] {x y : α} (hu : X.A.units + 64 < cLine) (ha : EvD X.K (cE X a) σ G S x S1) (hb : EvD X.K (cE X b) σ G S1 y S1) (h1 : Dt.ok x) (h2 : Dt.ok y) (hd : Dt.deep α ≤ 64 := by decide) : ET X (.Compare a [.NotEq] [b] pos) σ G S (!decide (x = y)) S1 := et_cmp (op_neD hu) (nomark _) (vl_neD ha hb h1 h2 hd)
/-! ### isinstance -/
/-- the type of data -/
class Ty (α : Type) extends Rp α where
  ty : String
  tyx : ∀ {K : PySem.W.Frag} {x : α} {v : V} {G H : Hp}, Same G H → Rp.rp K x v G → TyX K H v (.type ty)
instance : Ty Int := { toRp := inferInstance, ty := "int", tyx := fun {K x v G H} _ h => by rw [show v = .int x from h]; exact .base (.int x) }
instance : Ty Bool := { toRp := inferInstance, ty := "bool", tyx := fun {K x v G H} _ h => by rw [show v = .bl x from h]; exact .base (.bl x) }
instance : Ty Str := { toRp := inferInstance, ty := "str", tyx := fun {K x v G H} _ h => by rw [show v = .str x from h]; exact .base (.str x) }
instance {α : Type} [Rp α] : Ty (List α) := { toRp := inferInstance, ty := "list", tyx := fun {K x v G H} e ⟨a, vs, r, h, _⟩ => by rw [r]; exact .base (.lst (e _ _ h)) }
variable [Tb] in
/-- isinstance(x, T), T a built-in type -/
theorem ex_isi {α : Type} [Ty α] {x : α} {p p2 : Pos} {T : Str} {T' : String} {b : Bool} (ha : EX X a σ G S x S1) (hk : L2.kitB (Ty.ty α) T' = some b) (hmT : X.mg T = none) (hvT : bootBuiltins T = some (.type T')) (hm : X.mg "isinstance" = none) (hg : Gl X "isinstance" := by rfl) (hgT : Gl X T := by rfl) (hnT : T ≠ "__name__" := by decide) (hdT : (T == ("__debug__" : Str)) = false := by decide)
    (hse : starEach [a, .Name T p2] X.env = (false, eval a X.env) :: starEach [.Name T p2] X.env := by rfl) (hse2 : starEach [.Name T p2] X.env = (false, eval (.Name T p2) X.env) :: starEach [] X.env := by rfl) (hpl : (backTo pos (starEach [.Name T p2] X.env)).any (·.1) = false := by rfl) :
    EX X (.Call (.Name "isinstance" p) [a, .Name T p2] [] pos) σ G S b S1 :=
  Ev.to (pe_callB call_isi hg hm (by decide +kernel) (pa_cons (pE a) (pa_cons (pe_bltn (v := .ty T') hgT hmT hvT rfl hnT hdT) pa_nil hse2) hse) (he := hse) (hpl := hpl)) fun G1 H e hd Q k => ha G1 H e hd _ fun v G2 H2 s2 r2 => ⟨v, .ty T', .type (Ty.ty α), .type T', b, rfl, .ty T', Ty.tyx s2.hold.ex r2, kit_ty hk, k _ G2 H2 s2 rfl⟩
end
end Gx

-- part GTup
set_option Elab.async false
set_option linter.all false
set_option maxRecDepth 100000
set_option maxHeartbeats 1000000
namespace Gx
open PySem PySem.Spec PyProof.Rows L2
open Rp (rp)
open Sc (toV)
variable [Tb]
section
variable {X : Cx} {K : PySem.W.Frag} {B : Bs} {D : Ends} {σ : St} {G : Hp} {S S1 S2 Se : Sto} {e a b c elt tg iter : Expr} {es ifs : List Expr} {rest body : List Stmt} {pos pos' : Pos} {te : TE}
theorem stp_new {G G' : Hp} {S S' : Sto} {H H' : Hp} {p : Addr} (s : Stp G S H G' S' H') (hp : H' p = none) : H p = none := by
  cases q : H p with
  | none => rfl
  | some o =>
    obtain ⟨o', e'⟩ := s.th p o q
    rw [hp] at e'; cases e'
/-! ### arguments and more -/
theorem EvA.imp {ta : TA} {P P' : List V → Hp → Prop} (h : EvA ta σ G S P S1) (i : ∀ vs G', Same G G' → P vs G' → P' vs G') : EvA ta σ G S P' S1 := fun G1 H e hd Q k => h G1 H e hd Q fun vs G' H' s r => k vs G' H' s (i vs G' (e.trans s.gg) r)
/-! ### tuples -/
theorem ex_t1 {α β : Type} [Rp β] {x : β} {P : List V → Hp → Prop} {k : Nat} (h : EA X es σ G S P S1) (hl : ∀ vs G, P vs G → vs.length ≤ 1000) (hm : ∀ p vs G', P vs G' → upd G' p (.tup vs) p = some (.tup vs) → (∀ G, Same G' G → P vs G) → Same G' (upd G' p (.tup vs)) → rp X.K x (.ref p) (upd G' p (.tup vs))) (hmo : ∀ vs G G', Same G G' → P vs G → P vs G') : EX X (.Tuple es k pos) σ G S x S1 :=
  Ev.to (pe_tup (pA es)) fun G1 H e hd Q q => h G1 H e hd _ fun vs G2 H2 s2 r2 => ⟨Nat.le_trans (hl _ _ r2) (by decide), fun p hp => by
    have s3 := Stp.alloc s2.hold hp (.tup vs)
    exact q _ _ _ (s2.trans s3) (hm p vs G2 r2 upd_same (fun G' e => hmo _ _ _ e r2) s3.gg)⟩
theorem A0.mono {vs : List V} {G G' : Hp} (e : Same G G') (h : A0 vs G) : A0 vs G' := h
theorem A1.mono {α : Type} [Rp α] {K : PySem.W.Frag} {x : α} {P : List V → Hp → Prop} (hP : ∀ vs G G', Same G G' → P vs G → P vs G') : ∀ vs G G', Same G G' → A1 K x P vs G → A1 K x P vs G' := fun vs G G' e ⟨v, r, h1, h2, h3⟩ => ⟨v, r, h1, Rp.mono e h2, hP _ _ _ e h3⟩
theorem ex_t2 {α β : Type} [Rp α] [Rp β] {x : α} {y : β} {k : Nat} (h : EA X es σ G S (A1 X.K x (A1 X.K y A0)) S1) : EX X (.Tuple es k pos) σ G S (P2.mk x y) S1 :=
  ex_t1 (α := Unit) h (fun vs G ⟨_, _, h1, _, _, _, h2, _, h3⟩ => by subst h1 h2 h3; show 2 ≤ 1000; decide) (fun p vs G' hh sq _ sm => by
    obtain ⟨v0, _, rfl, r0, v1, _, rfl, r1, e⟩ := hh
    subst e
    exact ⟨p, v0, v1, rfl, sq, Rp.mono sm r0, Rp.mono sm r1⟩) (A1.mono (A1.mono fun _ _ _ _ h => h))
theorem ex_t3 {α β γ : Type} [Rp α] [Rp β] [Rp γ] {x : α} {y : β} {z : γ} {k : Nat} (h : EA X es σ G S (A1 X.K x (A1 X.K y (A1 X.K z A0))) S1) : EX X (.Tuple es k pos) σ G S (P3.mk x y z) S1 :=
  ex_t1 (α := Unit) h (fun vs G ⟨_, _, h1, _, _, _, h2, _, _, _, h4, _, h3⟩ => by subst h1 h2 h4 h3; show 3 ≤ 1000; decide) (fun p vs G' hh sq _ sm => by
    obtain ⟨v0, _, rfl, r0, v1, _, rfl, r1, v2, _, rfl, r2, e⟩ := hh
    subst e
    exact ⟨p, v0, v1, v2, rfl, sq, Rp.mono sm r0, Rp.mono sm r1, Rp.mono sm r2⟩) (A1.mono (A1.mono (A1.mono fun _ _ _ _ h => h)))
theorem ex_t4 {α β γ δ : Type} [Rp α] [Rp β] [Rp γ] [Rp δ] {x : α} {y : β} {z : γ} {w : δ} {k : Nat} (h : EA X es σ G S (A1 X.K x (A1 X.K y (A1 X.K z (A1 X.K w A0)))) S1) : EX X (.Tuple es k pos) σ G S (P4.mk x y z w) S1 :=
  ex_t1 (α := Unit) h (fun vs G ⟨_, _, h1, _, _, _, h2, _, _, _, h4, _, _, _, h5, _, h3⟩ => by subst h1 h2 h4 h5 h3; show 4 ≤ 1000; decide) (fun p vs G' hh sq _ sm => by
    obtain ⟨v0, _, rfl, r0, v1, _, rfl, r1, v2, _, rfl, r2, v3, _, rfl, r3, e⟩ := hh
    subst e
    exact ⟨p, v0, v1, v2, v3, rfl, sq, Rp.mono sm r0, Rp.mono sm r1, Rp.mono sm r2, Rp.mono sm r3⟩) (A1.mono (A1.mono (A1.mono (A1.mono fun _ _ _ _ h => h))))
/-- a tuple's item -/
theorem ex_tix {τ β : Type} [Rp τ] [Rp β] {x : τ} {y : β} {i : Int} (hx : ∀ v G, rp X.K x v G → ∃ p vs u, v = .ref p ∧ SqT X.K G p vs ∧ atI vs i = some u ∧ rp X.K y u G) (ha : EX X a σ G S x S1) (hb : EX X b σ G S1 i S2) (hs : PlainIx b := by exact fun _ _ => rfl) : EX X (.Subscript a b pos) σ G S y S2 :=
  Ev.to (pe_ix ix_tup (pE a) (pE b) hs) (ev_op ha hb fun v u G1 H1 e hd rv ru Q k => by
    obtain ⟨p, vs, w, rfl, hq, hw, r⟩ := hx v G1 rv
    exact ⟨p, vs, i, w, rfl, ru, sameT hd.ex hq, hw, k w G1 H1 (.refl hd) r⟩)
abbrev ix0 : Int := 0
abbrev ix1 : Int := 1
abbrev ix2 : Int := 2
abbrev ix3 : Int := 3
theorem x2_0 {α β : Type} [Rp α] [Rp β] {x : P2 α β} (ha : EX X a σ G S x S1) (hb : EX X b σ G S1 ix0 S2) (hs : PlainIx b := by exact fun _ _ => rfl) : EX X (.Subscript a b pos) σ G S x.f0 S2 := ex_tix (x := x) (fun v G ⟨p, v0, v1, e, h, r0, r1⟩ => ⟨p, _, v0, e, SqT.of h, rfl, r0⟩) ha hb hs
theorem x2_1 {α β : Type} [Rp α] [Rp β] {x : P2 α β} (ha : EX X a σ G S x S1) (hb : EX X b σ G S1 ix1 S2) (hs : PlainIx b := by exact fun _ _ => rfl) : EX X (.Subscript a b pos) σ G S x.f1 S2 := ex_tix (x := x) (fun v G ⟨p, v0, v1, e, h, r0, r1⟩ => ⟨p, _, v1, e, SqT.of h, rfl, r1⟩) ha hb hs
theorem x3_0 {α β γ : Type} [Rp α] [Rp β] [Rp γ] {x : P3 α β γ} (ha : EX X a σ G S x S1) (hb : EX X b σ G S1 ix0 S2) (hs : PlainIx b := by exact fun _ _ => rfl) : EX X (.Subscript a b pos) σ G S x.f0 S2 := ex_tix (x := x) (fun v G ⟨p, v0, v1, v2, e, h, r0, r1, r2⟩ => ⟨p, _, v0, e, SqT.of h, rfl, r0⟩) ha hb hs
theorem x3_1 {α β γ : Type} [Rp α] [Rp β] [Rp γ] {x : P3 α β γ} (ha : EX X a σ G S x S1) (hb : EX X b σ G S1 ix1 S2) (hs : PlainIx b := by exact fun _ _ => rfl) : EX X (.Subscript a b pos) σ G S x.f1 S2 := ex_tix (x := x) (fun v G ⟨p, v0, v1, v2, e, h, r0, r1, r2⟩ => ⟨p, _, v1, e, SqT.of h, rfl, r1⟩) ha hb hs
theorem x3_2 {α β γ : Type} [Rp α] [Rp β] [Rp γ] {x : P3 α β γ} (ha : EX X a σ G S x S1) (hb : EX X b σ G S1 ix2 S2) (hs : PlainIx b := by exact fun _ _ => rfl) : EX X (.Subscript a b pos) σ G S x.f2 S2 := ex_tix (x := x) (fun v G ⟨p, v0, v1, v2, e, h, r0, r1, r2⟩ => ⟨p, _, v2, e, SqT.of h, rfl, r2⟩) ha hb hs
theorem x4_0 {α β γ δ : Type} [Rp α] [Rp β] [Rp γ] [Rp δ] {x : P4 α β γ δ} (ha : EX X a σ G S x S1) (hb : EX X b σ G S1 ix0 S2) (hs : PlainIx b := by exact fun _ _ => rfl) : EX X (.Subscript a b pos) σ G S x.f0 S2 := ex_tix (x := x) (fun v G ⟨p, v0, v1, v2, v3, e, h, r0, r1, r2, r3⟩ => ⟨p, _, v0, e, SqT.of h, rfl, r0⟩) ha hb hs
theorem x4_1 {α β γ δ : Type} [Rp α] [Rp β] [Rp γ] [Rp δ] {x : P4 α β γ δ} (ha : EX X a σ G S x S1) (hb : EX X b σ G S1 ix1 S2) (hs : PlainIx b := by exact fun _ _ => rfl) : EX X (.Subscript a b pos) σ G S x.f1 S2 := ex_tix (x := x) (fun v G ⟨p, v0, v1, v2, v3, e, h, r0, r1, r2, r3⟩ => ⟨p, _, v1, e, SqT.of h, rfl, r1⟩) ha hb hs
theorem x4_2 {α β γ δ : Type} [Rp α] [Rp β] [Rp γ] [Rp δ] {x : P4 α β γ δ} (ha : EX X a σ G S x S1) (hb : EX X b σ G S1 ix2 S2) (hs : PlainIx b := by exact fun _ _ => rfl) : EX X (.Subscript a b pos) σ G S x.f2 S2 := ex_tix (x := x) (fun v G ⟨p, v0, v1, v2, v3, e, h, r0, r1, r2, r3⟩ => ⟨p, _, v2, e, SqT.of h, rfl, r2⟩) ha hb hs
theorem x4_3 {α β γ δ : Type} [Rp α] [Rp β] [Rp γ] [Rp δ] {x : P4 α β γ δ} (ha : EX X a σ G S x S1) (hb : EX X b σ G S1 ix3 S2) (hs : PlainIx b := by exact fun _ _ => rfl) : EX X (.Subscript a b pos) σ G S x.f3 S2 := ex_tix (x := x) (fun v G ⟨p, v0, v1, v2, v3, e, h, r0, r1, r2, r3⟩ => ⟨p, _, v3, e, SqT.of h, rfl, r3⟩) ha hb hs
/-! ### comprehensions as written -/
theorem en_lc {β : Type} [Rp β] {ys : List β} {scope : Scope} {own : List (Str × Nat)} {wi : TI} {g : TG} (hN : X.N.Nodup) (hi : PI X tg iter wi) (ok : BlkOk X.N X.env.scope scope own)
    (hg : ∀ (s : Shared) (H : Hp) (C : Addr) (cl : List (Str × Addr)) (fp : List Addr), PG (X.blk s H scope (compEnvC scope cl C X.env) fp) tg g)
    (h : EvN X.K (tLc wi g tYes (cEB X scope elt) (own.map (·.2))) σ G S ys Se) (hc : X.calm = true := by rfl) (hs : ∀ x, foldedSetIterable iter X.env x = pure x := by intro _; rfl) : EN X (.ListComp elt [⟨tg, iter, [], 0⟩] scope pos) σ G S ys Se :=
  EvN.to (pe_lc hc hN hi ok hg (fun _ _ _ _ _ => pts_nil) pEB hs) h
theorem en_lcIf {β : Type} [Rp β] {ys : List β} {scope : Scope} {own : List (Str × Nat)} {wi : TI} {g : TG} (hN : X.N.Nodup) (hi : PI X tg iter wi) (ok : BlkOk X.N X.env.scope scope own)
    (hg : ∀ (s : Shared) (H : Hp) (C : Addr) (cl : List (Str × Addr)) (fp : List Addr), PG (X.blk s H scope (compEnvC scope cl C X.env) fp) tg g)
    (h : EvN X.K (tLc wi g (cTB X scope c) (cEB X scope elt) (own.map (·.2))) σ G S ys Se) (hc : X.calm = true := by rfl) (hs : ∀ x, foldedSetIterable iter X.env x = pure x := by intro _; rfl) : EN X (.ListComp elt [⟨tg, iter, [c], 0⟩] scope pos) σ G S ys Se :=
  EvN.to (pe_lc hc hN hi ok hg (fun s H C cl fp => pts_one (pTB s H C cl fp)) pEB hs) h
theorem b_setLc {β : Type} [Rp β] {ys : List β} {n : Str} {scope : Scope} {own : List (Str × Nat)} {wi : TI} {g : TG} (i : Nat) (hN : X.N.Nodup) (hi : PI X tg iter wi) (ok : BlkOk X.N X.env.scope scope own)
    (hg : ∀ (s : Shared) (H : Hp) (C : Addr) (cl : List (Str × Addr)) (fp : List Addr), PG (X.blk s H scope (compEnvC scope cl C X.env) fp) tg g)
    (h : EvN X.K (tLc wi g tYes (cEB X scope elt) (own.map (·.2))) σ G S ys S1) (k : ∀ p vs G1, Same G G1 → Its X.K ys vs G1 → B.H p = none → At B (cB X rest D) (σ.set i (some (.ref p))) G1 ((p, .lst vs) :: S1))
    {p2 spos : Pos} (hsw : swapsWith (.ListComp elt [⟨tg, iter, [], 0⟩] scope p2) (some (.Name n pos')) spos.line X.env = pure true) (hy : X.N[i]? = some n := by rfl) (hyl : X.env.scope.names.lookup n = some .local := by rfl)
    (hc : X.calm = true := by rfl) (hs : ∀ x, foldedSetIterable iter X.env x = pure x := by intro _; rfl) : At B (cB X (.Assign [.Name n pos'] (.ListComp elt [⟨tg, iter, [], 0⟩] scope p2) spos :: rest) D) σ G S :=
  b_cons fun H s => toS (ps_setLc (i := i) hc hN hy hyl hsw hi ok hg (fun _ _ _ _ _ => pts_nil) pEB hs) (h G H (Same.refl G) s.hold _ fun p vs G1 H1 hp s1 r => k p vs G1 s1.gg r (stp_new s hp) H1 (s.trans s1))
theorem b_setLcIf {β : Type} [Rp β] {ys : List β} {n : Str} {scope : Scope} {own : List (Str × Nat)} {wi : TI} {g : TG} (i : Nat) (hN : X.N.Nodup) (hi : PI X tg iter wi) (ok : BlkOk X.N X.env.scope scope own)
    (hg : ∀ (s : Shared) (H : Hp) (C : Addr) (cl : List (Str × Addr)) (fp : List Addr), PG (X.blk s H scope (compEnvC scope cl C X.env) fp) tg g)
    (h : EvN X.K (tLc wi g (cTB X scope c) (cEB X scope elt) (own.map (·.2))) σ G S ys S1) (k : ∀ p vs G1, Same G G1 → Its X.K ys vs G1 → B.H p = none → At B (cB X rest D) (σ.set i (some (.ref p))) G1 ((p, .lst vs) :: S1))
    {p2 spos : Pos} (hsw : swapsWith (.ListComp elt [⟨tg, iter, [c], 0⟩] scope p2) (some (.Name n pos')) spos.line X.env = pure true) (hy : X.N[i]? = some n := by rfl) (hyl : X.env.scope.names.lookup n = some .local := by rfl)
    (hc : X.calm = true := by rfl) (hs : ∀ x, foldedSetIterable iter X.env x = pure x := by intro _; rfl) : At B (cB X (.Assign [.Name n pos'] (.ListComp elt [⟨tg, iter, [c], 0⟩] scope p2) spos :: rest) D) σ G S :=
  b_cons fun H s => toS (ps_setLc (i := i) hc hN hy hyl hsw hi ok hg (fun s H C cl fp => pts_one (pTB s H C cl fp)) pEB hs) (h G H (Same.refl G) s.hold _ fun p vs G1 H1 hp s1 r => k p vs G1 s1.gg r (stp_new s hp) H1 (s.trans s1))
/-! ### owned cells -/
/-- an owned list that is changed no more is frozen -/
theorem at_freeze {T : St → Hp → Prop} {p : Addr} {o : HO} (i : Nat) (hi : S[i]? = some (p, o)) (hn : B.H p = none) (h : Same G (upd G p o) → At B T σ (upd G p o) (S.eraseIdx i)) : At B T σ G S := fun H s => by
  refine h (fun b u q => ?_) H (s.freeze hi hn)
  have ne : b ≠ p := by
    rintro rfl
    rw [s.hold.sep b (List.mem_map.mpr ⟨(b, o), List.mem_of_getElem? hi, rfl⟩)] at q; cases q
  rw [upd_ne ne]; exact q
theorem rp_frozen {α : Type} [Rp α] {xs : List α} {vs : List V} {p : Addr} (hi : Its K xs vs G) (e : Same G (upd G p (.lst vs))) : rp K xs (.ref p) (upd G p (.lst vs)) := ⟨p, vs, rfl, upd_same, hi.mono e⟩
/-- x = [..], of any kinds -/
theorem b_setA {P : List V → Hp → Prop} (i : Nat) {n : Str} {p2 : Pos} (he : EA X es σ G S P S1) (hl : ∀ vs G, P vs G → vs.length ≤ 1000) (k : ∀ p vs G1, Same G G1 → P vs G1 → B.H p = none → At B (cB X rest D) (σ.set i (some (.ref p))) G1 ((p, .lst vs) :: S1)) (hN : X.N.Nodup) (hi : X.N[i]? = some n := by rfl)
    (hx : Loc X.env.scope n := by first | exact .inl rfl | exact .inr rfl) (hs : swapsWith (.List es p2) (some (.Name n pos')) pos.line X.env = pure false := by rfl) (hf : X.fn n = true ∨ X.env.scope.names.lookup n = some .local := by first | exact .inl rfl | exact .inr rfl) :
    At B (cB X (.Assign [.Name n pos'] (.List es p2) pos :: rest) D) σ G S := b_cons fun H s => toS (ps_set hN hi hx (pe_lst (pA es)) hs hf) (he G H (Same.refl G) s.hold _ fun vs G1 H1 s1 r => ⟨Nat.le_trans (hl _ _ r) (by decide), fun p hp => k p vs G1 s1.gg r (stp_new (s.trans s1) hp) _ (s.trans (s1.trans (Stp.own s1.hold hp (.lst vs))))⟩)
/-- an item of an owned list that holds values of any kinds -/
theorem ex_cellR {α : Type} [Rp α] {x : α} {v : V} {vs : List V} {l : Addr} {k : Int} (j : Nat) (ha : EX X a σ G S (Ow.mk l) S) (hb : EX X b σ G S k S) (hj : S[j]? = some (l, .lst vs)) (hx : atI vs k = some v) (r : rp X.K x v G) (hs : PlainIx b := by exact fun _ _ => rfl) : EX X (.Subscript a b pos) σ G S x S :=
  Ev.to (pe_ix ix_list (pE a) (pE b) hs) (ev_op ha hb fun u w G1 H1 e hd ru rw' Q q => by
    exact ⟨l, vs, k, v, ru, rw', SqL.of (hd.own _ (List.mem_of_getElem? hj)), hx, q v G1 H1 (.refl hd) (Rp.mono e r)⟩)
theorem ex_cell {α : Type} [Sc α] {x : α} {vs : List V} {l : Addr} {k : Int} (j : Nat) (ha : EX X a σ G S (Ow.mk l) S) (hb : EX X b σ G S k S) (hj : S[j]? = some (l, .lst vs)) (hx : atI vs k = some (toV x)) (hs : PlainIx b := by exact fun _ _ => rfl) : EX X (.Subscript a b pos) σ G S x S := ex_cellR j ha hb hj hx Sc.refl hs
/-- xs[i], xs owned: the index changes other cells only -/
theorem ex_ixO {α : Type} [Rp α] {xs : List α} {vs : List V} {l : Addr} {k : Int} {x : α} (ha : EX X a σ G S (Ow.mk l) S) (hb : EX X b σ G S k S2) (hj : (l, HO.lst vs) ∈ S2) (hi : Its X.K xs vs G) (hx : atI xs k = some x) (hs : PlainIx b := by exact fun _ _ => rfl) : EX X (.Subscript a b pos) σ G S x S2 :=
  Ev.to (pe_ix ix_list (pE a) (pE b) hs) (ev_op ha hb fun u w G1 H1 e hd ru rw' Q q => by
    obtain ⟨v, hv, r⟩ := atI_its hi hx
    exact ⟨l, vs, k, v, ru, rw', SqL.of (hd.own _ hj), hv, q v G1 H1 (.refl hd) (Rp.mono e r)⟩)
end
/-! ### defs that draw -/
/-- a def whose first argument is the owned pot: it goes from state t to n t i, the answer is y t i; C is what is true of the frozen part -/
def PmD {τ ι β : Type} [Rp β] (K : PySem.W.Frag) (pot : τ → HO) (C : τ → Hp → Prop) (A : ι → List V → Hp → Prop) (pre : τ → ι → Prop) (y : τ → ι → β) (n : τ → ι → τ) : Sp :=
  Pm K (fun (i : Addr × τ × ι) vs G => A1 K (Ow.mk i.1) (A i.2.2) vs G ∧ C i.2.1 G) (fun i => [(i.1, pot i.2.1)]) (fun i => pre i.2.1 i.2.2) (fun i => y i.2.1 i.2.2) (fun i => [(i.1, pot (n i.2.1 i.2.2))])
theorem PmD.does {τ ι β : Type} [Rp β] {K : PySem.W.Frag} {pot : τ → HO} {C : τ → Hp → Prop} {A : ι → List V → Hp → Prop} {pre : τ → ι → Prop} {y : τ → ι → β} {n : τ → ι → τ} {S : Sto} (j : Nat) (p : Addr) (t : τ) (i : ι) (h : pre t i) (hj : S[j]? = some (p, pot t)) :
    Does K (PmD K pot C A pre y n) (fun vs G => A1 K (Ow.mk p) (A i) vs G ∧ C t G) S (y t i) (S.set j (p, pot (n t i))) := Does.frame1 (Pm.does (p, t, i) h) hj
section
variable {X : Cx} {σ : St} {G : Hp} {S S1 S2 : Sto} {e : Expr} {es rest : List Expr} {pos : Pos}
/-- draw(pot, ..), the pot owned at place j -/
theorem ex_dr {τ ι β : Type} [Rp β] {pot : τ → HO} {C : τ → Hp → Prop} {A : ι → List V → Hp → Prop} {pre : τ → ι → Prop} {y : τ → ι → β} {n : τ → ι → τ} {q : Addr} (j : Nat) (t : τ) (i : ι) {x : Str} {p : Pos} {f : Addr} {fd : FuncData} {ps : List Str} {CX : CXT} {k : Nat}
    (F : FnOk X.prog X.w X.K X.mg X.base CX k f fd ps (PmD X.K pot C A pre y n)) (hb : Binds X.K fd ps []) (hr : Room k X.A) (hm : X.mg x = some (.ref f)) (hk : PySem.W.keepIn X.K (.ref f) = true) (h : pre t i) (hj : S1[j]? = some (q, pot t)) (hC : ∀ G', Same G G' → C t G')
    (ho : EX X e σ G S (Ow.mk q) S) (ha : EA X es σ G S (A i) S1) {E : XK} (hx : Passes CX X E) (hg : Gl X x := by rfl) (hdb : (x == ("__debug__" : Str)) = false := by decide)
    (hpl : (backTo pos (starEach es X.env)).any (·.1) = false := by rfl) (he : starEach (e :: es) X.env = (false, eval e X.env) :: starEach es X.env := by rfl) : EX X (.Call (.Name x p) (e :: es) [] pos) σ G S (y t i) (S1.set j (q, pot (n t i))) :=
  ex_call (PmD.does j q t i h hj) F hr hm hk hb hx (EvA.imp (ea_cons ho ha he) fun vs G' e r => ⟨r, hC G' e⟩) hg hdb hpl he
end
end Gx

-- part GMore
set_option Elab.async false
set_option linter.all false
set_option maxRecDepth 100000
set_option maxHeartbeats 1000000
namespace Gx
open PySem PySem.Spec PyProof.Rows L2
open Rp (rp)
open Sc (toV)
/-! ### lists, texts: plain -/
theorem atI_get {α : Type} {xs : List α} {i : Int} (d : α) (h0 : 0 ≤ i) (h1 : i < (xs.length : Int)) : atI xs i = some (xs.getD i.toNat d) := by
  have hlt : i.toNat < xs.length := by omega
  unfold atI ixN
  rw [if_pos h0, if_pos (by omega)]
  show xs[i.toNat]? = _
  rw [List.getElem?_eq_getElem hlt, List.getD_eq_getElem?_getD, List.getElem?_eq_getElem hlt]; rfl
theorem getD_mem {α : Type} {xs : List α} {i : Int} (d : α) (h0 : 0 ≤ i) (h1 : i < (xs.length : Int)) : xs.getD i.toNat d ∈ xs := by
  have hlt : i.toNat < xs.length := by omega
  rw [List.getD_eq_getElem?_getD, List.getElem?_eq_getElem hlt]
  exact List.getElem_mem hlt
theorem cutL_to {α : Type} (xs : List α) {k : Int} (h : 0 ≤ k) : cutL xs none (some k) = xs.take k.toNat := by
  unfold cutL HT.sIx
  simp only
  rw [if_neg (by omega)]
  simp only [Nat.sub_zero, List.drop_zero]
  rcases Nat.le_total k.toNat xs.length with q | q
  · rw [Nat.min_eq_left q]
  · rw [Nat.min_eq_right q, List.take_of_length_le q]; simp
theorem cutL_from {α : Type} (xs : List α) {k : Int} (h : 0 ≤ k) : cutL xs (some k) none = xs.drop k.toNat := by
  unfold cutL HT.sIx
  simp only
  rw [if_neg (by omega)]
  rcases Nat.le_total k.toNat xs.length with q | q
  · rw [Nat.min_eq_left q, List.take_of_length_le (by simp)]
  · rw [Nat.min_eq_right q]
    simp [List.drop_of_length_le q]
theorem app_assoc (a b c : Str) : (a ++ b) ++ c = a ++ (b ++ c) := by
  show (⟨(a.cps ++ b.cps) ++ c.cps⟩ : Str) = ⟨a.cps ++ (b.cps ++ c.cps)⟩
  rw [Array.append_assoc]
theorem app_len (a b : Str) : (a ++ b).length = a.length + b.length := by
  show (a.cps ++ b.cps).size = _
  rw [Array.size_append]; rfl
theorem join0 (xs : List Str) : (Txt.join Str.empty xs).cps.toList = (xs.map fun x => x.cps.toList).flatten := by
  show (Builtin.Str.glued Str.empty xs).cps.toList = _
  rw [StrLaws.glued_eq_join]
  induction xs with
  | nil => rfl
  | cons x r ih =>
    cases r with
    | nil => simp [Str.join]
    | cons y s =>
      show (x ++ Str.empty ++ Str.join Str.empty (y :: s)).cps.toList = _
      show ((x.cps ++ #[]) ++ (Str.join Str.empty (y :: s)).cps).toList = _
      simp only [Array.append_empty, Array.toList_append]
      rw [ih]; simp
theorem str_ext {a b : Str} (h : a.cps.toList = b.cps.toList) : a = b := by
  cases a; cases b
  have : _ := Array.toList_inj.mp h
  simp only at this
  rw [this]
theorem join0_app (xs ys : List Str) : Txt.join Str.empty (xs ++ ys) = Txt.join Str.empty xs ++ Txt.join Str.empty ys := by
  refine str_ext ?_
  show _ = ((Txt.join Str.empty xs).cps ++ (Txt.join Str.empty ys).cps).toList
  rw [Array.toList_append, join0, join0, join0]; simp
theorem join0_len (xs : List Str) : (Txt.join Str.empty xs).length = (xs.map (·.length)).sum := by
  show (Txt.join Str.empty xs).cps.size = _
  rw [← Array.length_toList, join0]
  induction xs with
  | nil => rfl
  | cons x r ih => simp [Str.length] at ih ⊢; omega
theorem sum_le {α : Type} (f : α → Nat) {n : Nat} : ∀ {xs : List α}, (∀ x ∈ xs, f x ≤ n) → (xs.map f).sum ≤ xs.length * n
  | [], _ => Nat.zero_le _
  | x :: r, h => by
    have h1 := h x List.mem_cons_self
    have h2 := sum_le f (xs := r) fun y m => h y (List.mem_cons_of_mem _ m)
    simp only [List.map_cons, List.sum_cons, List.length_cons, Nat.succ_mul]
    omega
theorem cpOk_app {a b : Str} (ha : cpOk a) (hb : cpOk b) : cpOk (a ++ b) := by
  unfold cpOk PyData.strOk at *
  show (a.cps ++ b.cps).all _ = true
  rw [Array.all_append, ha, hb]; rfl
theorem cpOk_iff {x : Str} : cpOk x ↔ ∀ c ∈ x.cps.toList, c < 0x110000 := by
  unfold cpOk PyData.strOk
  rw [← Array.all_toList, List.all_eq_true]
  simp
theorem cpOk_cut {x : Str} (lo hi : Option Int) (h : cpOk x) : cpOk (cutS x lo hi) := by
  rw [cpOk_iff] at h ⊢
  unfold cutS
  intro c m
  simp only at m
  exact h c (List.mem_of_mem_drop (List.mem_of_mem_take m))
theorem cpOk_rep {x : Str} (n : Int) (h : cpOk x) : cpOk (repS x n) := by
  rw [cpOk_iff] at h ⊢
  unfold repS
  intro c m
  simp only [List.mem_flatten] at m
  obtain ⟨l, hl, hc⟩ := m
  rw [List.mem_replicate] at hl
  rw [hl.2] at hc
  exact h c hc
theorem cut_len_to {x : Str} {k : Int} (h : 0 ≤ k) : (cutS x none (some k)).length = min k.toNat x.length := by
  unfold cutS HT.sIx
  simp only
  rw [if_neg (by omega)]
  show Array.size _ = _
  simp [Str.length]
theorem cut_len_le (x : Str) (lo hi : Option Int) : (cutS x lo hi).length ≤ x.length := by
  unfold cutS
  show Array.size _ ≤ _
  simp only [List.size_toArray, List.length_take, List.length_drop, Array.length_toList]
  show _ ≤ x.cps.size
  omega
theorem numS_len {n : Int} (h0 : 0 ≤ n) (h1 : n < 10 ^ 100) : (numS n).length ≤ 100 := by
  unfold numS
  rw [toDigits_str h0]
  show Array.size _ ≤ _
  simp only [List.size_toArray, List.length_map]
  exact len_toDigits (by omega)
theorem log_small {n : Int} (h : n.natAbs < 10 ^ 100) : n.natAbs.log2 < 1920 := by
  by_cases z : n.natAbs = 0
  · rw [z]; decide
  · exact (Nat.log2_lt z).mpr (Nat.lt_trans h (by decide +kernel))
theorem repS_blank (n : Int) : repS " " n = blanks n := by
  refine str_ext ?_
  unfold repS blanks
  simp only
  have e : (" " : Str).cps.toList = [32] := by decide +kernel
  rw [e]
  induction n.toNat with
  | zero => rfl
  | succ k ih => rw [List.replicate_succ, List.flatten_cons, ih, List.replicate_succ]; rfl
/-! ### callees -/
variable [Tb]
/-- a def as its callers see it -/
structure Cl (P : Program) (w : World) (K : PySem.W.Frag) (mg : Str → Option Value) (base : Heap) (CX : CXT) (x : Str) (ps : List Str) (k : Nat) (sp : Sp) where
  f : Addr
  fd : FuncData
  ok : FnOk P w K mg base CX k f fd ps sp
  hb : Binds K fd ps []
  hm : mg x = some (.ref f)
  hk : PySem.W.keepIn K (.ref f) = true
theorem Kq.to {β : Type} [Rp β] {K : PySem.W.Frag} {B : Bs} {y y' : β} {S S' : Sto} {Q : VK} (h : Kq K B y S Q) (e : y = y') (e2 : S = S') : Kq K B y' S' Q := by subst e e2; exact h
theorem Ev.st {α : Type} [Rp α] {K : PySem.W.Frag} {te : TE} {σ : St} {G : Hp} {S S1 S2 : Sto} {x y : α} (h : Ev K te σ G S x S1) (e : x = y) (e2 : S1 = S2) : Ev K te σ G S y S2 := by subst e e2; exact h
theorem EvT.st {tt : TT} {σ : St} {G : Hp} {S S1 S2 : Sto} {x y : Bool} (h : EvT tt σ G S x S1) (e : x = y) (e2 : S1 = S2) : EvT tt σ G S y S2 := by subst e e2; exact h
theorem EvN.st {α : Type} [Rp α] {K : PySem.W.Frag} {te : TE} {σ : St} {G : Hp} {S S1 S2 : Sto} {x y : List α} (h : EvN K te σ G S x S1) (e : x = y) (e2 : S1 = S2) : EvN K te σ G S y S2 := by subst e e2; exact h
section
variable {X : Cx} {B : Bs} {D : Ends} {σ : St} {G : Hp} {S S1 S2 S' : Sto} {e a b : Expr} {es : List Expr} {rest : List Stmt} {pos : Pos}
theorem b_retQ {β : Type} [Rp β] {x y : β} (kq : Kq X.K B y S' D.rt) (he : EX X e σ G S x S1) (hx : x = y) (hS : S1 = S') : At B (cB X (.Return (some e) pos :: rest) D) σ G S := by
  subst hS; exact b_retq kq he hx
theorem b_retNq (kq : Kq X.K B () S' D.rt) (hS : S = S') : At B (cB X (.Return none pos :: rest) D) σ G S := by
  subst hS; exact b_retN fun H1 s => kq .non G H1 s rfl
theorem ex_dc {τ ι β : Type} [Rp β] {pot : τ → HO} {C : τ → Hp → Prop} {A : ι → List V → Hp → Prop} {pre : τ → ι → Prop} {y : τ → ι → β} {n : τ → ι → τ} {q : Addr} (j : Nat) (t : τ) (i : ι) {x : Str} {p : Pos} {ps : List Str} {CX : CXT} {k : Nat}
    (c : Cl X.prog X.w X.K X.mg X.base CX x ps k (PmD X.K pot C A pre y n)) (hr : Room k X.A) (h : pre t i) (hj : S1[j]? = some (q, pot t)) (hC : ∀ G', Same G G' → C t G')
    (ho : EX X e σ G S (Ow.mk q) S) (ha : EA X es σ G S (A i) S1) {E : XK} (hx : Passes CX X E) (hg : Gl X x := by rfl) (hdb : (x == ("__debug__" : Str)) = false := by decide)
    (hpl : (backTo pos (starEach es X.env)).any (·.1) = false := by rfl) (he : starEach (e :: es) X.env = (false, eval e X.env) :: starEach es X.env := by rfl) : EX X (.Call (.Name x p) (e :: es) [] pos) σ G S (y t i) (S1.set j (q, pot (n t i))) :=
  ex_dr j t i c.ok c.hb hr c.hm c.hk h hj hC ho ha hx hg hdb hpl he
theorem ex_cl {β : Type} [Rp β] {y : β} {x : Str} {p : Pos} {ps : List Str} {sp : Sp} {CX : CXT} {k : Nat} {A : List V → Hp → Prop} (c : Cl X.prog X.w X.K X.mg X.base CX x ps k sp) (hr : Room k X.A) (D : Does X.K sp A S1 y S2)
    (ha : EA X (e :: es) σ G S A S1) {E : XK} (hx : Passes CX X E) (hg : Gl X x := by rfl) (hdb : (x == ("__debug__" : Str)) = false := by decide)
    (hpl : (backTo pos (starEach es X.env)).any (·.1) = false := by rfl) (he : starEach (e :: es) X.env = (false, eval e X.env) :: starEach es X.env := by rfl) : EX X (.Call (.Name x p) (e :: es) [] pos) σ G S y S2 :=
  ex_call D c.ok hr c.hm c.hk c.hb hx ha hg hdb hpl he
theorem en_cl {β : Type} [Rp β] {y : List β} {x : Str} {p : Pos} {ps : List Str} {sp : Sp} {CX : CXT} {k : Nat} {A : List V → Hp → Prop} (c : Cl X.prog X.w X.K X.mg X.base CX x ps k sp) (hr : Room k X.A) (D : DoesN X.K sp A S1 y S2)
    (ha : EA X (e :: es) σ G S A S1) {E : XK} (hx : Passes CX X E) (hg : Gl X x := by rfl) (hdb : (x == ("__debug__" : Str)) = false := by decide)
    (hpl : (backTo pos (starEach es X.env)).any (·.1) = false := by rfl) (he : starEach (e :: es) X.env = (false, eval e X.env) :: starEach es X.env := by rfl) : EN X (.Call (.Name x p) (e :: es) [] pos) σ G S y S2 :=
  en_call D c.ok hr c.hm c.hk c.hb hx ha hg hdb hpl he
theorem evt_andT {t u : TT} {y : Bool} (h : EvT t σ G S true S1) (h2 : EvT u σ G S1 y S2) : EvT (tAnd t u) σ G S y S2 := fun G1 H e hd Q q => h G1 H e hd _ fun G' H' s => h2 G' H' (e.trans s.gg) s.hold Q fun G2 H2 s2 => q G2 H2 (s.trans s2)
theorem evt_andF {t u : TT} (h : EvT t σ G S false S1) : EvT (tAnd t u) σ G S false S1 := fun G1 H e hd Q q => h G1 H e hd _ fun G' H' s => q G' H' s
theorem evt_orF {t u : TT} {y : Bool} (h : EvT t σ G S false S1) (h2 : EvT u σ G S1 y S2) : EvT (tOr t u) σ G S y S2 := fun G1 H e hd Q q => h G1 H e hd _ fun G' H' s => h2 G' H' (e.trans s.gg) s.hold Q fun G2 H2 s2 => q G2 H2 (s.trans s2)
theorem evt_orT {t u : TT} (h : EvT t σ G S true S1) : EvT (tOr t u) σ G S true S1 := fun G1 H e hd Q q => h G1 H e hd _ fun G' H' s => q G' H' s
theorem ew_andT {y : Bool} {c : Expr} {rs : List Expr} (h : ET X a σ G S true S1) (h2 : EW X (.BoolOp .And (c :: rs) pos) σ G S1 y S2) : EW X (.BoolOp .And (a :: c :: rs) pos) σ G S y S2 := EvT.toW (pw_and (pT a) (pW _)) (evt_andT h h2)
theorem ew_andF {c : Expr} {rs : List Expr} (h : ET X a σ G S false S1) : EW X (.BoolOp .And (a :: c :: rs) pos) σ G S false S1 := EvT.toW (pw_and (pT a) (pW _)) (evt_andF h)
theorem ew_orF {y : Bool} {c : Expr} {rs : List Expr} (h : ET X a σ G S false S1) (h2 : EW X (.BoolOp .Or (c :: rs) pos) σ G S1 y S2) : EW X (.BoolOp .Or (a :: c :: rs) pos) σ G S y S2 := EvT.toW (pw_or (pT a) (pW _)) (evt_orF h h2)
theorem ew_orT {c : Expr} {rs : List Expr} (h : ET X a σ G S true S1) : EW X (.BoolOp .Or (a :: c :: rs) pos) σ G S true S1 := EvT.toW (pw_or (pT a) (pW _)) (evt_orT h)
/-- xs + ys of frozen lists -/
theorem en_cat {α : Type} [Rp α] {xs ys : List α} (ha : EX X a σ G S xs S1) (hb : EX X b σ G S1 ys S2) (hl : xs.length + ys.length ≤ 100000) : EN X (.BinOp a .Add b pos) σ G S (xs ++ ys) S2 :=
  EvN.to (pe_op op_cat (pE a) (pE b)) fun G1 H e hd Q k => ha G1 H e hd _ fun v G2 H2 s2 r2 => hb G2 H2 (e.trans s2.gg) s2.hold _ fun u G3 H3 s3 r3 => by
    obtain ⟨p, vs, rfl, h1, i1⟩ := Rp.mono s3.gg r2
    obtain ⟨q, us, rfl, h2, i2⟩ := r3
    refine ⟨p, q, vs, us, rfl, rfl, s3.hold.ex _ _ h1, s3.hold.ex _ _ h2, by rw [← Pd.len i1, ← Pd.len i2]; exact Nat.le_trans hl (by decide), fun l hp => ?_⟩
    have s := s2.trans s3
    exact k l (vs ++ us) G3 _ (stp_new s hp) (s.trans (Stp.own s3.hold hp _)) (Pd.app i1 i2)
end
end Gx

-- part GLaw
set_option Elab.async false
set_option linter.all false
set_option maxRecDepth 100000
set_option maxHeartbeats 1000000
namespace Gx
open PySem PySem.Spec PyProof.Rows L2
open Rp (rp)
open Sc (toV)
variable [Tb]
/-! ### the law's own def, the end -/
def spLaw (n : Nat) (K : PySem.W.Frag) : Sp := fun vs H Q _ => ∃ (a : Addr) (ns : List Int), vs = [.ref a] ∧ SqL K H a (ns.map V.int) ∧ ns.length ≤ n ∧ (∀ p ∈ Tb.T, H p.1 = some (.tbl #[])) ∧ ∀ H', Q (.bl true) H'
open Classical in
/-- the law's heap without the tables -/
noncomputable def noTab (H : Hp) : Hp := fun b => if b ∈ Tb.T.map (·.1) then none else H b
theorem hold0 {H : Hp} (h : ∀ p ∈ Tb.T, H p.1 = some (.tbl #[])) : Hold (noTab H) [] H :=
  ⟨fun b o e => by
    unfold noTab at e
    split at e
    · cases e
    · exact e, (fun _ m => nomatch m), (fun _ m => nomatch m), List.nodup_nil, (fun _ m => nomatch m), fun p m => .nil (h p m), fun p m => by
    unfold noTab
    rw [if_pos (List.mem_map.mpr ⟨p, m, rfl⟩)]⟩
theorem sql0 {K : PySem.W.Frag} {H : Hp} {a : Addr} {xs : List V} (h : ∀ p ∈ Tb.T, H p.1 = some (.tbl #[])) (s : SqL K H a xs) : SqL K (noTab H) a xs := by
  rcases s with s | s
  · refine .inl ?_
    have n : a ∉ Tb.T.map (·.1) := fun m => by
      obtain ⟨p, hp, e⟩ := List.mem_map.mp m
      have e' : p.1 = a := e
      have q := h p hp
      rw [e'] at q
      rcases s with s | ⟨o, s⟩
      · rw [s] at q; cases q
      · rw [s] at q; cases q
    have e : noTab H a = H a := by unfold noTab; rw [if_neg n]
    unfold Rd at s ⊢
    rw [e]; exact s
  · exact .inr s
theorem fn_law {n : Nat} {P : Program} {w : World} {K : PySem.W.Frag} {mg : Str → Option Value} {base : Heap} {st : Stmt} {f : Addr} {fd : FuncData} {N : List Str} {k : Nat} (F : Fun K "law" "law" st f fd) (sc : FnScope N ["script"] (defScope st))
    (h : ∀ (cdv : Value) (A' : Around) (outer : List Env) (s : Shared) (H0 H : Hp) (Q : VK) (E : XK) (a : Addr) (ns : List Int), Room k (A'.deeper (envOfC "law" (defScope st) s.heap.objs.size f cdv)) → rp K (Scr.mk ns) (.ref a) H0 → ns.length ≤ n → (∀ S', Kq K ⟨H0, [], H⟩ true S' Q) →
      At ⟨H0, [], H⟩ (cB (cxOf CX0 P w K mg base N "law" (defScope st) f cdv A' outer s H E).nox (defBody st) { nx := fun _ H' => Q .non H', rt := Q }) (start N [.ref a]) H0 []) :
    FnOk P w K mg base CX0 (k + 1) f fd ["script"] (spLaw n K) :=
  F.ok sc (fun vs H Q E ⟨a, ns, e, _⟩ => by rw [e]; rfl) fun cdv A' outer s H vs Q E hr ⟨a, ns, e, hs, hl, ht, kq⟩ => by
    subst e
    exact ⟨cB _ _, pB _, at_start (hold0 ht) (h cdv A' outer s (noTab H) H Q E a ns hr ⟨a, rfl, sql0 ht hs⟩ hl fun S' v G1 H1 s1 r => by
      rw [show v = .bl true from r]; exact kq H1)⟩
/-- no tables -/
abbrev noTb : Tb := ⟨[]⟩
theorem walk0 {n k : Nat} {l : PySem.W.OpenLaw} {q : Program} {loose : List Str} {XP : (Str → Option Value) → Heap → Prop} {YP : World → Heap → Prop} {d : DefRec} {K : Params → PySem.W.Frag} (hn : l.most = some n) (hn2 : n ≤ sizeLine) (hr : Room k callerA) (hdf : d.params.defaults = [])
    (hY : ∀ (w : World) (h : Heap), YP w h → (K w.params).In h)
    (F : ∀ (w : World) (mg : Str → Option Value) (fa : Addr) (h : Heap), (K w.params).In h → h.Ns mainGlobals mg → mg d.name = some (.ref fa) →
      ∃ fd : FuncData, (∀ (s : Shared) (u : Value), BindsTo s fd ⟨[u], []⟩ [("script", u)]) ∧ ∀ base : Heap, (K w.params).In base → base.Ns mainGlobals mg → FnOk l.prog w (K w.params) mg base CX0 k fa fd ["script"] (@spLaw noTb n (K w.params))) :
    PySem.W.WalkO q loose XP YP l.row.toRowW d [] (fun f vs => PySem.call f vs) :=
  L2.walk_of (n := n) (k := k) (x := "script") (CX := fun _ => CX0) (sp := fun w => @spLaw noTb n (K w.params)) hn hn2 hdf hr hY F (fun _ _ a ns hl _ hS => ⟨a, ns, rfl, hS, hl, (fun _ m => nomatch m), fun _ => rfl⟩) fun _ _ _ _ _ z => z
/-- a def of the text, as its callers see it -/
def Fun.cl {P : Program} {w : World} {K : PySem.W.Frag} {mg : Str → Option Value} {base : Heap} {x qual : Str} {st : Stmt} {f : Addr} {fd : FuncData} {ps : List Str} {k : Nat} {sp : Sp} (F : Fun K x qual st f fd) (ok : FnOk P w K mg base CX0 k f fd ps sp) (hb : Binds K fd ps []) (hm : mg x = some (.ref f)) : Cl P w K mg base CX0 x ps k sp := ⟨f, fd, ok, hb, hm, F.kp⟩
end Gx

-- part GSort
set_option Elab.async false
set_option linter.all false
set_option maxRecDepth 100000
set_option maxHeartbeats 2000000
namespace Gx
open PySem PySem.Spec PyProof.Rows L2 PySem.W
open Rp (rp)
open Sc (toV)
/-! ### sorted, as one list -/
/-- the order of data by a key that is data -/
def leD {β κ : Type} [Dt κ] (kd : β → κ) : β → β → Bool := dataLe false fun b => Dt.toD (kd b)
theorem each_pd {α β : Type} {R : α → β → Prop} : ∀ {l : List α} {m : List β}, Paired R l m → EachIs R l m
  | _, _, .nil => .nil
  | _, _, .cons h t => .cons h (each_pd t)
theorem pd_each {α β : Type} {R : α → β → Prop} : ∀ {l : List α} {m : List β}, EachIs R l m → Paired R l m
  | _, _, .nil => .nil
  | _, _, .cons h t => .cons h (pd_each t)
theorem pd_comp {α β γ : Type} {R : α → β → Prop} {F : β → γ → Prop} : ∀ {l : List α} {m : List β} {n : List γ}, Paired R l m → Paired F m n → Paired (fun x z => ∃ y, R x y ∧ F y z) l n
  | _, _, _, .nil, .nil => .nil
  | _, _, _, .cons h t, .cons g u => .cons ⟨_, h, g⟩ (pd_comp t u)
theorem pd_split {α β γ : Type} {R : α → β → Prop} {F : β → γ → Prop} : ∀ {l : List α} {n : List γ}, Paired (fun x z => ∃ y, R x y ∧ F y z) l n → ∃ m, Paired R l m ∧ Paired F m n
  | _, _, .nil => ⟨[], .nil, .nil⟩
  | _, _, .cons ⟨y, h, g⟩ t => by
    obtain ⟨m, a, b⟩ := pd_split t
    exact ⟨y :: m, .cons h a, .cons g b⟩
theorem each_flip {α β : Type} {R : α → β → Prop} : ∀ {l : List α} {m : List β}, Paired R l m → EachIs (fun y x => R x y) m l
  | _, _, .nil => .nil
  | _, _, .cons h t => .cons h (each_flip t)
theorem each_unflip {α β : Type} {R : α → β → Prop} : ∀ {l : List α} {m : List β}, EachIs (fun y x => R x y) m l → Paired R l m
  | _, _, .nil => .nil
  | _, _, .cons h t => .cons h (each_unflip t)
theorem dp_len {K : PySem.W.Frag} {H : Hp} : ∀ {vs : List V} {ds : List PyData}, DpAll K H vs ds → vs.length = ds.length
  | _, _, .nil => rfl
  | _, _, .cons _ t => by simp [dp_len t]
variable [Tb]
section
variable {X : Cx} {pins : List (Addr × Obj)} {σ : St} {G H : Hp} {S : Sto} {s : Shared} {A : Around} {E : Value → Shared → Prop}
/-- the last words of the sort: the keys thrown away, the sorted items put back -/
theorem srt_tail {b : Bool} {st : SortSt} {kS a : Addr} {ks xs : List V} {ku out : List Value} {nk na : Nat} {P : PySem.Fin → Shared → Prop} (I : Inv X pins σ H s) (hk : H kS = some (.lst ks)) (fa : FpOk X pins H a) (hka : kS ≠ a)
    (ek : s.heap.get? kS = some (seqObj "list" ku.toArray nk)) (ea : s.heap.get? a = some (seqObj "list" #[] na)) (hv : Vals xs out) (hz : xs.length ≤ sizeLine) (hfl : failedOf st = none) (ho : (if b = true then ((arrOf st).map (·.2)).reverse else (arrOf st).map (·.2)) = out.toArray)
    (h : ∀ s', Inv X pins σ (upd (upd H kS (.lst [])) a (.lst xs)) s' → P (.done (.ret .none)) s') :
    wpAny (model X.prog X.w) A (ksk_tail a b na (.ref kS) st) P E s := by
  obtain ⟨zk, _⟩ := I.lstM hk
  have kl : ku.length ≤ sizeLine := by
    obtain ⟨z, its, n, r, e⟩ := I.hok kS _ hk
    rw [ek] at e
    have e2 : seqObj "list" ku.toArray nk = { cls := .type "list", data := .seq its.toArray n } := Option.some.inj e
    have e3 : ku.toArray = its.toArray := by
      have := congrArg Obj.data e2
      simpa using (Data.seq.inj this).1
    have e4 : ku = its := by simpa using congrArg Array.toList e3
    rw [e4, ← r.length]; exact z
  have s1 := Heap.SameBut.update s.heap kS (Obj.mapSeq fun _ => (#[] : Array Value))
  have na1 : (s.heap.update kS (Obj.mapSeq fun _ => (#[] : Array Value))).get? a = some (seqObj "list" #[] na) := (s1.2 a hka.symm).trans ea
  have I1 : Inv X pins σ (upd H kS (.lst [])) { s with heap := s.heap.update kS (Obj.mapSeq fun _ => (#[] : Array Value)), toks := s.toks } := I.lset (its' := []) (ys := []) hk ek rfl .nil (Nat.zero_le _)
  have fa1 : FpOk X pins (upd H kS (.lst [])) a := ⟨by rw [upd_ne hka.symm]; exact fa.1, fa.2⟩
  have sb := Heap.SameBut.update (s.heap.update kS (Obj.mapSeq fun _ => (#[] : Array Value))) a (Obj.mapSeq fun _ => out.toArray)
  have I2 : Inv X pins σ (upd (upd H kS (.lst [])) a (.lst xs)) { s with heap := (s.heap.update kS (Obj.mapSeq fun _ => (#[] : Array Value))).update a (Obj.mapSeq fun _ => out.toArray), toks := s.toks } :=
    I1.take (fun b ob hb e => (sb.2 b hb).trans e) fa1 ⟨hz, out, _, hv, get?_update_seq na1 fun _ => out.toArray⟩
  have hz2 : out.toArray.size ≤ sizeLine + 1 := by
    rw [List.size_toArray, ← hv.length]
    exact Nat.le_succ_of_le hz
  unfold ksk_tail
  try dsimp only
  rw [ho]
  refine wpAny_bind (listUpdate_at ek rfl ?_ (by rw [List.size_toArray]; exact kl) (Nat.zero_le _))
  refine wpAny_bind (wpAny_letGo ?_)
  refine wpAny_bind (seqEpoch_at na1 rfl ?_)
  refine wpAny_bind (listUpdate_at na1 rfl ?_ (Nat.zero_le _) hz2)
  rw [hfl]
  simp only [bne_self_eq_false, Bool.false_eq_true, if_false]
  exact wpAny_pure (h _ I2)
theorem srt_end {b : Bool} {kS a : Addr} {ks xs : List V} {ku us : List Value} {nk na : Nat} {ds : List PyData} {P : PySem.Fin → Shared → Prop} (I : Inv X pins σ H s) (hk : H kS = some (.lst ks)) (fa : FpOk X pins H a) (hka : kS ≠ a)
    (ek : s.heap.get? kS = some (seqObj "list" ku.toArray nk)) (ea : s.heap.get? a = some (seqObj "list" #[] na)) (rk : Vals ks ku) (rv : Vals xs us) (hl : ds.length = xs.length) (hz : xs.length ≤ sizeLine) (dk : DpAll X.K H ks ds) (hal : AllAlike ds) (hsk : Sortable ds) (hu : ∀ d ∈ ds, A.units + d.depth < cLine)
    (h : ∀ s', Inv X pins σ (upd (upd H kS (.lst [])) a (.lst (((xs.zip ds).mergeSort (dataLe b (·.2))).map (·.1)))) s' → P (.done (.ret .none)) s') :
    wpAny (model X.prog X.w) A (ksk_end a b us.toArray na (.ref kS) ku.toArray) P E s := by
  have lk : ku.length = us.length := by
    have h1 : ks.length = ds.length := dp_len dk
    rw [← rk.length, h1, hl, rv.length]
  have er : EachIs (fun v d => ∃ as, Reads s.heap v d as) ku ds := by
    obtain ⟨as, r⟩ := Dp.readsAll I ds ks ku dk rk
    exact readsAll_each (fun d => d) (by rw [List.map_id']; exact r)
  have S := SortsAt.data (prog := X.prog) (w := X.w) (A := A) (s := s) er hal hsk hu
  have e2 : ((xs.zip ds).map (·.2)) = ds := by rw [List.map_snd_zip]; omega
  have ez : EachIs (fun (v : Value) (p : V × PyData) => RelV p.1 v) us (xs.zip ds) := by
    clear h er S ek ea hal hsk hu dk lk e2 hz
    induction rv generalizing ds with
    | nil => cases ds with
      | nil => exact .nil
      | cons _ _ => simp at hl
    | cons r _ ih => cases ds with
      | nil => simp at hl
      | cons d ds => exact .cons r (ih (by simpa using hl))
  have ko : KeyedOut b ((xs.zip ds).map (·.2)) us (sortVals (dataKind s.heap ds) b ku us) := ⟨s.heap, ku, by rw [e2]; exact hal, by rw [e2], by rw [e2]; exact er⟩
  have eo := keyedOut_each (fun p : V × PyData => p.2) ko ez
  have vo : Vals (((xs.zip ds).mergeSort (dataLe b (·.2))).map (·.1)) (sortVals (dataKind s.heap ds) b ku us) := by
    refine each_unflip ?_
    clear h er S ek ea hal hsk hu dk lk e2 hz ez ko
    generalize (xs.zip ds).mergeSort (dataLe b (·.2)) = q at eo ⊢
    generalize sortVals (dataKind s.heap ds) b ku us = o at eo ⊢
    induction eo with
    | nil => exact .nil
    | cons h _ ih => exact .cons h ih
  have zl : (((xs.zip ds).mergeSort (dataLe b (·.2))).map (·.1)).length ≤ sizeLine := by
    rw [List.length_map, List.length_mergeSort, List.length_zip, hl, Nat.min_self]; exact hz
  obtain ⟨kd, h1, h2⟩ := S.kind
  have hK : PyProof.Rows.KeysOf (dataKind s.heap ds) (ku.toArray.zip us.toArray) := keysOf_zip (keys := ku.toArray) S.keys
  have hstart : (if b = true then (ku.toArray.zip us.toArray).reverse else ku.toArray.zip us.toArray).Perm (ku.toArray.zip us.toArray) := by
    cases b with
    | false => exact Array.Perm.refl _
    | true => exact Array.perm_iff_toList_perm.mpr (by rw [if_pos rfl, Array.toList_reverse]; exact List.reverse_perm _)
  have hss : (if b = true then (ku.toArray.zip us.toArray).reverse else ku.toArray.zip us.toArray).size = us.length := by rw [hstart.size_eq, Array.size_zip, List.size_toArray, List.size_toArray, lk, Nat.min_self]
  have fin : ∀ st' : SortSt, (arrOf st').Perm (if b = true then (ku.toArray.zip us.toArray).reverse else ku.toArray.zip us.toArray) → SortedToK (dataKind s.heap ds) (arrOf st') (if b = true then (ku.toArray.zip us.toArray).reverse else ku.toArray.zip us.toArray).size →
      Stable (dataKind s.heap ds) (arrOf st') (if b = true then (ku.toArray.zip us.toArray).reverse else ku.toArray.zip us.toArray) → (if b = true then ((arrOf st').map (·.2)).reverse else (arrOf st').map (·.2)) = (sortVals (dataKind s.heap ds) b ku us).toArray := by
    intro st' hp hs ht
    have e := sort_out (rev := b) (keys := ku.toArray) (items := us.toArray) (xs := arrOf st') (κ := dataKind s.heap ds) hK hp hs ht
    have e' := congrArg List.toArray e
    rw [Array.toArray_toList] at e'
    exact e'
  have step : ∀ t : Sem PySem.Fin, wpAny (model X.prog X.w) A t P E s → wpAny (model X.prog X.w) A (if b = true then (do let _ ← rule "list.sort.reverse"; t) else t) P E s := by
    intro t ht
    split
    · exact wpAny_bind (wpAny_rule ht)
    · exact ht
  unfold ksk_end
  try dsimp only
  refine step _ ?_
  by_cases hl2 : us.toArray.size < 2
  · rw [if_pos hl2, if_pos hl2]
    refine wpAny_bind (wpAny_pure ?_)
    rw [StateT.run_pure]
    refine wpAny_bind (wpAny_pure ?_)
    try dsimp only
    refine srt_tail (st := SortSt.mk' general' (if b = true then (ku.toArray.zip us.toArray).reverse else ku.toArray.zip us.toArray) #[] 7 none) I hk fa hka ek ea vo zl rfl (fin _ (Array.Perm.refl _) ?_ (Stable.refl _)) h
    intro i j hij hj
    rw [hss] at hj
    rw [List.size_toArray] at hl2
    have : i = j := by omega
    subst this
    exact KeyOrd.kle_refl _
  · rw [if_neg hl2, if_neg hl2]
    rw [List.size_toArray] at hl2
    refine wpAny_bind (h2 (by omega) _ ?_)
    refine wpAny_bind (wpAny_mono (PyProof.Rows.H.wpS_sortRunsSt (κ := dataKind s.heap ds) (kd := kd) (a₀ := if b = true then (ku.toArray.zip us.toArray).reverse else ku.toArray.zip us.toArray)
      (st := SortSt.mk' kd (if b = true then (ku.toArray.zip us.toArray).reverse else ku.toArray.zip us.toArray) #[] 7 none)
      (Q := fun _ st' => failedOf st' = none ∧ (if b = true then ((arrOf st').map (·.2)).reverse else (arrOf st').map (·.2)) = (sortVals (dataKind s.heap ds) b ku us).toArray)
      h1 (hK.perm hstart) ⟨Array.Perm.refl _, rfl, rfl⟩ rfl (Stable.refl _) (by rw [hss]; omega) fun st' a1 a2 a3 a4 => ⟨a2, fin st' a1 a3 a4⟩) ?_ fun _ _ e => e)
    rintro ⟨⟨⟩, st'⟩ s' ⟨rfl, hf, ho⟩
    try dsimp only at ho ⊢
    exact srt_tail I hk fa hka ek ea vo zl hf ho h

/-- the items of a sort, their data, their keys -/
theorem its_sort {β κ : Type} [Rp β] [Dt κ] {K : PySem.W.Frag} (kd : β → κ) {bs : List β} {vs : List V} (hi : Its K bs vs G) : Its K (bs.mergeSort (leD kd)) (((vs.zip (bs.map fun b => Dt.toD (kd b))).mergeSort (dataLe false (·.2))).map (·.1)) G := by
  have hl := Pd.len hi
  have e1 : vs.zip (bs.map fun b => Dt.toD (kd b)) = (bs.zip vs).map fun p => (p.2, Dt.toD (kd p.1)) := by
    clear hl
    induction hi with
    | nil => rfl
    | cons _ _ ih => simp [ih]
  have e2 : bs = (bs.zip vs).map (·.1) := by rw [List.map_fst_zip]; omega
  have e3 := sort_maps (r := fun p q : β × V => dataLe false (fun b => Dt.toD (kd b)) p.1 q.1) (s := leD kd) (fun p : β × V => p.1) (l := bs.zip vs) (fun a _ b _ => rfl)
  have e4 := sort_maps (r := fun p q : β × V => dataLe false (fun b => Dt.toD (kd b)) p.1 q.1) (s := dataLe false (fun p : V × PyData => p.2)) (fun p : β × V => (p.2, Dt.toD (kd p.1))) (l := bs.zip vs) (fun a _ b _ => rfl)
  rw [e1, ← e4, List.map_map]
  have e5 : bs.mergeSort (leD kd) = ((bs.zip vs).mergeSort (fun p q : β × V => dataLe false (fun b => Dt.toD (kd b)) p.1 q.1)).map (·.1) := by rw [e3, ← e2]
  rw [e5]
  have hz0 : ∀ p ∈ bs.zip vs, rp K p.1 p.2 G := fun p m => by
    clear e1 e2 e3 e4 e5 hl
    induction hi with
    | nil => cases m
    | cons r _ ih =>
      rcases List.mem_cons.mp m with e | m
      · rw [e]; exact r
      · exact ih m
  have hz : ∀ p ∈ (bs.zip vs).mergeSort (fun p q : β × V => dataLe false (fun b => Dt.toD (kd b)) p.1 q.1), rp K p.1 p.2 G := fun p m => hz0 p (List.mem_mergeSort.mp m)
  clear e5
  generalize (bs.zip vs).mergeSort (fun p q : β × V => dataLe false (fun b => Dt.toD (kd b)) p.1 q.1) = q at hz ⊢
  induction q with
  | nil => exact .nil
  | cons p q ih => exact .cons (hz p List.mem_cons_self) (ih fun x m => hz x (List.mem_cons_of_mem _ m))
/-- the way from a collected list to the sorted one: the keys by calls of f -/
theorem srt_rest {β κ : Type} [Rp β] [Dt κ] (kd : β → κ) {bs : List β} {vs : List V} {us : List Value} {kS a : Addr} {na : Nat} {f : Value} {A2 : Around} {P : PySem.Fin → Shared → Prop}
    (I : Inv X (pins ++ [(a, seqObj "list" #[] na)]) σ (upd H kS (.lst [])) s) (hd : Hold G S H) (hkn : H kS = none) (fa : FpOk X pins H a) (hka : kS ≠ a) (ek : s.heap.get? kS = some (seqObj "list" #[] 0))
    (hi : Its X.K bs vs G) (rv : Vals vs us) (hlen : bs.length ≤ 100000) (hal : AllAlike (bs.map fun b => Dt.toD (kd b))) (hsk : Sortable (bs.map fun b => Dt.toD (kd b))) (hu : A2.units + Dt.deep κ < cLine)
    (turn : ∀ x v u pl G1 H1 s1, x ∈ bs → Same G G1 → (∀ b o, b ∉ dom S → H b = some o → (∀ ps, o ≠ .tbl ps) → H1 b = some o) → Hold G1 S H1 → rp X.K x v G1 → RelV v u → Inv X pl σ H1 s1 → wpAny (model X.prog X.w) A2 (call f [u]) (fun r s2 => ∃ kv G2 H2, Inv X pl σ H2 s2 ∧ RelV kv r ∧ Stp G1 S H1 G2 S H2 ∧ rp X.K (kd x) kv G2) (fun _ _ => False) s1)
    (k : ∀ xs G' H' s', H a = none → Stp G S H G' ((a, .lst xs) :: S) H' → Its X.K (bs.mergeSort (leD kd)) xs G' → Inv X pins σ H' s' → P (.done (.ret .none)) s') :
    wpAny (model X.prog X.w) A2 (ksk_rest a f false us.toArray na (.ref kS)) P E s := by
  have hlv := Pd.len hi
  have hlu := rv.length
  unfold ksk_rest
  refine wpAny_bind (wpAny_rule ?_)
  first
    | rw [List.forIn_toArray]
    | (rw [← Array.forIn_toList]; simp only [List.toList_toArray])
    | rw [← Array.forIn_toList]
  have st0 : Stp G S H G ((kS, .lst []) :: S) (upd H kS (.lst [])) := Stp.own hd hkn (.lst [])
  refine wpAny_bind (ksk_fold (fun i s' => ∃ ks ku n G1 H1, Inv X (pins ++ [(a, seqObj "list" #[] na)]) σ H1 s' ∧ Stp G S H G1 ((kS, .lst ks) :: S) H1 ∧ Its X.K ((bs.map kd).take i) ks G1 ∧ Vals ks ku ∧ s'.heap.get? kS = some (seqObj "list" (List.toArray ku) n)) us 0 s
    ⟨[], [], 0, G, _, I, st0, by simpa using Paired.nil, .nil, ek⟩ ?step ?done)
  case step =>
    rintro j u s' hx ⟨ks, ku, n, G1, H1, I1, st, hks, rk, ek1⟩
    simp only [Nat.zero_add] at hks ⊢
    have hj : j < us.length := (List.getElem?_eq_some_iff.mp hx).1
    have hjb : j < bs.length := by omega
    obtain ⟨v, hv, rvu⟩ : ∃ v, vs[j]? = some v ∧ RelV v u := by
      obtain ⟨v, h1, h2⟩ := Pd.get rv hx
      exact ⟨v, h1, h2⟩
    obtain ⟨x, hxb, rx⟩ := Pd.get hi hv
    have hm : x ∈ bs := List.mem_of_getElem? hxb
    have t := turn x v u _ G1 H1 s' hm st.gg st.fr (Hold.drop (R := [(kS, .lst ks)]) st.hold) (Rp.mono st.gg rx) rvu I1
    refine wpAny_bind (wpAny_attempt (wpAny_mono t (fun r s2 hq => ?_) fun _ _ hF => hF.elim))
    obtain ⟨kv, G2, H2, I2, rkv, st2, rkd⟩ := hq
    try dsimp only
    have st3 : Stp G S H G2 ((kS, .lst ks) :: S) H2 := st.trans (Stp.frame (R := [(kS, .lst ks)]) st.hold st2)
    have hk2 : H2 kS = some (.lst ks) := st3.hold.own (kS, .lst ks) List.mem_cons_self
    obtain ⟨zz, its, n2, r2, e2⟩ := I2.hok kS _ hk2
    have ll : ks.length = j := by
      rw [← Pd.len hks, List.length_take, List.length_map]; omega
    have lk2 : its.length = j := by rw [← r2.length]; exact ll
    have sl : sizeLine = 16777216 := sizeLine_eq
    have zs : (ks ++ [kv]).length ≤ sizeLine := by rw [List.length_append, ll, List.length_singleton]; omega
    have I3 : Inv X (pins ++ [(a, seqObj "list" #[] na)]) σ (upd H2 kS (.lst (ks ++ [kv]))) { s2 with heap := s2.heap.update kS (Obj.mapSeq (·.push r)), toks := s2.toks } :=
      I2.lset (its := its) (its' := its ++ [r]) (ys := ks ++ [kv]) hk2 e2 (by simp) (Pd.app r2 (.cons rkv .nil)) zs
    refine wpAny_bind (listUpdate_at e2 rfl ?_ (by rw [List.size_toArray]; omega) (by rw [Array.size_push, List.size_toArray]; omega))
    obtain ⟨n3, e3⟩ : ∃ n3, (s2.heap.update kS (Obj.mapSeq (·.push r))).get? kS = some (seqObj "list" (List.toArray (its ++ [r])) n3) := by
      have q := get?_update_seq e2 (·.push r)
      exact ⟨_, by simpa using q⟩
    refine wpAny_pure ⟨rfl, ks ++ [kv], its ++ [r], n3, G2, _, I3, st3.trans (Stp.write (i := 0) st3.hold rfl), ?_, Pd.app r2 (.cons rkv .nil), e3⟩
    · have e : (bs.map kd).take (j + 1) = (bs.map kd).take j ++ [kd x] := by
        rw [List.take_add_one, List.getElem?_map, hxb]; rfl
      rw [e]
      exact Pd.app (hks.mono st2.gg) (.cons rkd .nil)
  case done =>
    rintro s' ⟨ks, ku, n, G1, H1, I1, st, hks, rk, ek1⟩
    have hks' : Its X.K (bs.map kd) ks G1 := by
      have e3 : (bs.map kd).take (0 + us.length) = bs.map kd := List.take_of_length_le (by rw [List.length_map]; omega)
      rw [e3] at hks
      exact hks
    have pa := I1.pin (a, seqObj "list" #[] na) (List.mem_append_right _ (List.mem_append_right _ (List.mem_singleton.mpr rfl)))
    have hk1 : H1 kS = some (.lst ks) := st.hold.own (kS, .lst ks) List.mem_cons_self
    have fa1 : FpOk X pins H1 a := ⟨pa.2.1, fa.2⟩
    have dk : DpAll X.K H1 ks (bs.map fun b => Dt.toD (kd b)) := by
      have := DpAll_mono st.hold.ex (dpAll hks')
      unfold allD at this
      rw [List.map_map] at this
      exact this
    have sl : sizeLine = 16777216 := sizeLine_eq
    try dsimp only
    refine wpAny_bind (listItems_at ek1 rfl ?_)
    refine srt_end (b := false) (xs := vs) I1.unpinned hk1 fa1 hka ek1 pa.1 rk rv (by rw [List.length_map, hlv]) (by omega) dk hal hsk (fun d m => ?_) fun s2 I2 => ?_
    · obtain ⟨b, _, rfl⟩ := List.mem_map.mp m
      have := Dt.dep (kd b)
      omega
    · refine k _ G1 _ s2 fa.1 ?_ (its_sort kd (hi.mono st.gg)) I2
      have w1 : Stp G S H G1 ((kS, .lst []) :: S) (upd H1 kS (.lst [])) := st.trans (Stp.write (i := 0) st.hold rfl)
      have na1 : upd H1 kS (.lst []) a = none := by rw [upd_ne hka.symm]; exact pa.2.1
      have w2 := w1.trans (Stp.own w1.hold na1 (.lst (((vs.zip (bs.map fun b => Dt.toD (kd b))).mergeSort (dataLe false (·.2))).map (·.1))))
      -- the keys' list is forgotten
      refine ⟨⟨w2.hold.ex, fun p m => ?_, fun b m => ?_, ?_, fun p m => ?_, w2.hold.tb, w2.hold.tg⟩, w2.gg, w2.fr, w2.new, fun b m => ?_, w2.th⟩
      · rcases List.mem_cons.mp m with e | m
        · exact w2.hold.own p (List.mem_cons.mpr (.inl e))
        · exact w2.hold.own p (List.mem_cons_of_mem _ (List.mem_cons_of_mem _ m))
      · rcases List.mem_cons.mp m with e | m
        · exact w2.hold.sep b (List.mem_cons.mpr (.inl e))
        · exact w2.hold.sep b (List.mem_cons_of_mem _ (List.mem_cons_of_mem _ m))
      · have nd := w2.hold.nd
        have nd1 := (List.nodup_cons.mp nd)
        have nd2 := (List.nodup_cons.mp nd1.2)
        exact List.nodup_cons.mpr ⟨fun m => nd1.1 (List.mem_cons_of_mem _ m), nd2.2⟩
      · rcases List.mem_cons.mp m with e | m
        · exact w2.hold.nc p (List.mem_cons.mpr (.inl e))
        · exact w2.hold.nc p (List.mem_cons_of_mem _ (List.mem_cons_of_mem _ m))
      · rcases List.mem_cons.mp m with e | m
        · exact w2.dm b (List.mem_cons.mpr (.inl e))
        · exact .inl m

/-- sorted(w, key=f) -/
theorem srt_call {β κ : Type} [Rp β] [Dt κ] (kd : β → κ) {bs : List β} {vs : List V} {wv f : Value} {Q : VK} (I : Inv X pins σ H s) (hd : Hold G S H) (hi : Its X.K bs vs G)
    (hcol : ∀ {R : List Value → Shared → Prop}, (∀ us h' tk, Vals vs us → (∀ b o, s.heap.get? b = some o → h'.get? b = some o) → R us { s with heap := h', toks := tk }) → wpAny (model X.prog X.w) X.A.in1 (collect wv) R X.xe s)
    (ha1 : argsOk "sorted" ⟨[wv], [(Str.ofString "key", f)]⟩) (ha2 : ∀ x, argsOk "list.sort" ⟨[.ref x], [(Str.ofString "key", f)]⟩) (ht : ∀ x, Builtin.«list.sort» ⟨[.ref x], [(Str.ofString "key", f)]⟩ = ksk_tree x f false)
    (hlen : bs.length ≤ 100000) (hal : AllAlike (bs.map fun b => Dt.toD (kd b))) (hsk : Sortable (bs.map fun b => Dt.toD (kd b))) (hu : X.A.units + 2 + Dt.deep κ < cLine)
    (turn : ∀ x v u pl G1 H1 s1, x ∈ bs → Same G G1 → (∀ b o, b ∉ dom S → H b = some o → (∀ ps, o ≠ .tbl ps) → H1 b = some o) → Hold G1 S H1 → rp X.K x v G1 → RelV v u → Inv X pl σ H1 s1 → wpAny (model X.prog X.w) X.A.in1.in1 (call f [u]) (fun r s2 => ∃ kv G2 H2, Inv X pl σ H2 s2 ∧ RelV kv r ∧ Stp G1 S H1 G2 S H2 ∧ rp X.K (kd x) kv G2) (fun _ _ => False) s1)
    (k : ∀ p xs G' H', H p = none → Stp G S H G' ((p, .lst xs) :: S) H' → Its X.K (bs.mergeSort (leD kd)) xs G' → Q (.ref p) H') :
    wpAny (model X.prog X.w) X.A (call (.builtin "sorted") [wv] [(Str.ofString "key", f)]) (EP X pins σ Q) X.xe s := by
  refine call_function_entry_kw kind_sorted plain_sorted entry_sorted ha1 ?_
  unfold Builtin.«sorted»
  refine wpAny_bind (m := checkCount "sorted" 1 1 _) (wpAny_pure ?_)
  refine wpAny_bind (hcol fun us h' tk rv kp => ?_)
  have hlv := Pd.len hi
  have hlu := rv.length
  have sl : sizeLine = 16777216 := sizeLine_eq
  have hz : us.length ≤ sizeLine := by omega
  refine wpAny_bind (wpAny_newList ?_ hz)
  generalize hA : h'.objs.size = a
  have Iz : Inv X pins σ H { s with heap := h', toks := tk } := I.kept kp
  have hHa : H a = none := Iz.hok.fresh (Nat.le_of_eq hA)
  have fa : FpOk X pins H a := Iz.fpOk (Nat.le_of_eq hA) hHa
  have hoL : (h'.push (seqObj "list" us.toArray 0)).get? a = some (seqObj "list" us.toArray 0) := by rw [← hA]; exact Heap.get?_push_size _ rfl
  refine wpAny_bind (wpAny_holding (PyProof.Rows.wpAny_call_entry_kw PyProof.Rows.slot_list_sort ⟨_, hoL, rfl⟩ PyProof.Rows.entry_list_sort ?_ (ha2 _)))
  rw [ht]
  have ha : a < (h'.push (seqObj "list" us.toArray 0)).objs.size := Heap.lt_size hoL
  obtain ⟨e1, ho1⟩ : ∃ e1, ((h'.push (seqObj "list" us.toArray 0)).update a (Obj.mapSeq fun _ => (#[] : Array Value))).get? a = some (seqObj "list" #[] e1) := ⟨_, get?_update_seq hoL fun _ => #[]⟩
  have sb := Heap.SameBut.update (h'.push (seqObj "list" us.toArray 0)) a (Obj.mapSeq fun _ => (#[] : Array Value))
  unfold ksk_tree
  refine wpAny_bind (listItems_at hoL rfl ?_)
  refine wpAny_bind (listUpdate_at hoL rfl ?_ (by rw [List.size_toArray]; exact hz) (Nat.zero_le _))
  refine wpAny_bind (seqEpoch_at ho1 rfl ?_)
  refine wpAny_bind (wpAny_newTuple ?_ (by simpa using hz))
  refine wpAny_bind (wpAny_newList ?_ (Nat.zero_le _))
  refine wpAny_holding ?_
  generalize hkS : (((h'.push (seqObj "list" us.toArray 0)).update a (Obj.mapSeq fun _ => (#[] : Array Value))).push { cls := .type "tuple", data := .seq (List.toArray (us.toArray.toList)) }).objs.size = kS
  have szk : h'.objs.size < kS ∧ a < kS := by
    rw [← hkS, size_push', Heap.size_update, size_push', ← hA]
    omega
  have hka : kS ≠ a := Nat.ne_of_gt szk.2
  have hHk : H kS = none := Iz.hok.fresh (Nat.le_of_lt szk.1)
  have keep : ∀ b u, h'.get? b = some u → ((((h'.push (seqObj "list" us.toArray 0)).update a (Obj.mapSeq fun _ => (#[] : Array Value))).push { cls := .type "tuple", data := .seq (List.toArray (us.toArray.toList)) }).push { cls := .type "list", data := .seq (List.toArray []) }).get? b = some u := fun b u e => by
    have lt := Heap.lt_size e
    refine Heap.get?_push_of_some _ (Heap.get?_push_of_some _ ((sb.2 b ?_).trans (Heap.get?_push_of_some _ e)))
    rw [← hA]; exact Nat.ne_of_lt lt
  have ekS : ((((h'.push (seqObj "list" us.toArray 0)).update a (Obj.mapSeq fun _ => (#[] : Array Value))).push { cls := .type "tuple", data := .seq (List.toArray (us.toArray.toList)) }).push { cls := .type "list", data := .seq (List.toArray []) }).get? kS = some (seqObj "list" #[] 0) := by
    rw [← hkS]; exact Heap.get?_push_size _ rfl
  have eaS : ((((h'.push (seqObj "list" us.toArray 0)).update a (Obj.mapSeq fun _ => (#[] : Array Value))).push { cls := .type "tuple", data := .seq (List.toArray (us.toArray.toList)) }).push { cls := .type "list", data := .seq (List.toArray []) }).get? a = some (seqObj "list" #[] e1) := Heap.get?_push_of_some _ (Heap.get?_push_of_some _ ho1)
  have I5 := Iz.laid (a := kS) (o := .lst []) (t' := tk) keep (Nat.le_of_lt szk.1) ⟨Nat.zero_le _, [], 0, .nil, ekS⟩
  have I6 : Inv X (pins ++ [(a, seqObj "list" #[] e1)]) σ (upd H kS (.lst [])) _ := I5.pins_of fun p hp => by
    rcases List.mem_append.mp hp with hp | hp
    · exact I5.pin p (List.mem_append_right _ hp)
    · rw [List.mem_singleton.mp hp]
      exact ⟨eaS, by rw [upd_ne hka.symm]; exact hHa, fa.2.1, fa.2.2.1, fun v z => by cases z⟩
  refine srt_rest kd I6 hd hHk fa hka ekS hi rv hlen hal hsk (by show X.A.units + 1 + 1 + _ < _; omega) turn fun xs G' H' s' hn st hx I7 => ⟨_, rfl, ?_⟩
  exact wpAny_pure ⟨_, rfl, .ref a, H', I7, rfl, k a xs G' H' hn st hx⟩
end
end Gx

-- part GLam
set_option Elab.async false
set_option linter.all false
set_option maxRecDepth 100000
set_option maxHeartbeats 2000000
namespace Gx
open PySem PySem.Spec PyProof.Rows L2 PySem.W NdefX LamX
open Rp (rp)
open Sc (toV)
/-- the object at f is the lambda F of the body b -/
def LamO (f : Addr) (F : NF) (b : Expr) : HO := .ext fun h => ∃ (od : Option Addr) (sl : Array (Option Value)) (pm ctv : Value), h.get? f = some (⟨.type "function", od, .func (kla_fn F.name F.qual F.params b F.scope F.cl pm (.ref F.c) ctv), sl⟩ : Obj)
variable [Tb]
section
variable {X : Cx} {pins : List (Addr × Obj)} {σ : St} {G H : Hp} {S : Sto} {s : Shared}
theorem inv_lam {F : NF} {b : Expr} {o : Obj} {t' : Nat} {pm ctv : Value} (I : Inv X pins σ H s) (ho : o = { cls := .type "function", data := .func (kla_fn F.name F.qual F.params b F.scope F.cl pm (.ref F.c) ctv) }) :
    Inv X pins σ (upd H s.heap.objs.size (LamO s.heap.objs.size F b)) { s with heap := s.heap.push o, toks := t' } := by
  subst ho
  refine I.laid (a := s.heap.objs.size) (fun b u e => Heap.get?_push_of_some _ e) (Nat.le_refl _) ?_
  have e : (s.heap.push ({ cls := .type "function", data := .func (kla_fn F.name F.qual F.params b F.scope F.cl pm (.ref F.c) ctv) } : Obj)).get? s.heap.objs.size = some ({ cls := .type "function", data := .func (kla_fn F.name F.qual F.params b F.scope F.cl pm (.ref F.c) ctv) } : Obj) := Heap.get?_push_size _ rfl
  exact ⟨⟨_, _, pm, ctv, e⟩, ⟨_, e⟩, fun h1 h2 ⟨od, sl, p, t, z⟩ st => ⟨od, sl, p, t, st _ z⟩⟩
/-- a lambda is made -/
theorem lam_mk {nm : Nat → Nat → Str} {c P : Addr} {params : Arguments} {body : Expr} {scope : Scope} {pos : Pos} {E : Value → Shared → Prop} {Q : Value → Shared → Prop} (I : Inv X pins σ H s) (hd : Hold G S H) (TB : TabB X.base X.mg c P) (hcode : X.env.code = .ref c)
    (hm : (P, nm) ∈ Tb.T) (hn : nm pos.line pos.col = X.env.qual ++ "<lambda>") (hu : ∀ p ∈ Tb.T, p.1 = P → p.2 = nm) (hdef : defaultsOf params X.env = ([], [])) (hfree : ∀ y ∈ scope.names, y.2 = .free → ∃ c, X.env.cells.lookup y.1 = some c)
    (h : ∀ (f c' : Addr) (H1 : Hp) (s' : Shared), Inv X pins σ H1 s' → Stp G S H G S H1 → (∀ b o, b ≠ P → s.heap.get? b = some o → s'.heap.get? b = some o) → H f = none → H1 f = some (LamO f ⟨"<lambda>", X.env.qual ++ "<lambda>", params, [], scope, cloFrom X.env.cells scope.names [], c'⟩ body) → H1 c' = some (CodeO c' (X.env.qual ++ "<lambda>")) → Q (.ref f) s') :
    wpAny (model X.prog X.w) X.A (eval (.Lambda params body scope pos) X.env) Q E s := by
  obtain ⟨ps, hP, ht, ha⟩ := (show TabN H P nm from hd.tb _ hm)
  refine kla_eval hdef ?_
  have bP : s.heap.BuiltinsAt X.mg P := TB.bm.keeps I.bk
  have hP' : s.heap.get? P = some { cls := .none, data := .fields ps } := I.hok P _ hP
  have step : ∀ {H1 : Hp}, (∀ b o, b ≠ P → H b = some o → H1 b = some o) → (∀ b, H1 b = Option.none → H b = Option.none) → TabsN Tb.T H1 → Stp G S H G S H1 := fun {H1} e1 e2 t1 => by
    have nP : G P = none := hd.tg _ hm
    have nS : P ∉ dom S := hd.tabNe hm
    refine ⟨⟨fun b o e => e1 b o (fun z => by rw [z, nP] at e; cases e) (hd.ex b o e), fun p m => e1 _ _ (fun z => nS (by rw [← z]; exact List.mem_map.mpr ⟨p, m, rfl⟩)) (hd.own p m), hd.sep, hd.nd, hd.nc, t1, hd.tg⟩, Same.refl G, fun b o hb e nt => e1 b o (fun z => by rw [z, hP] at e; exact nt ps (Option.some.inj e).symm) e, fun b o g _ => g, fun b m => .inl m, fun b o e => ?_⟩
    cases q : H1 b with
    | none => rw [e2 b q] at e; cases e
    | some o' => exact ⟨o', rfl⟩
  cases hc : codeAmong pos ps.toList with
  | none =>
    refine kla_makeFunction (mg := X.mg) (c := c) (P := P) (ps := ps) (closure_ok hfree) I.ok.glob (I.mod.glob.keeps I.bk) hcode (TB.code.keeps I.bk) hP' ht hc TB.gP bP fun c' ctv h' tk hx hge hlt hrec htb => ?_
    obtain ⟨c2, oc, vs, t, e2, hoc, hd2, hv⟩ := hrec
    cases e2
    have nC : H c' = none := I.hok.fresh hge
    have I1 := inv_table (t' := tk) (more := #[rawInt pos.line, rawInt pos.col, .ref c']) (h' := h') I hP (fun b o hb e => hx b o hb e) htb hge ⟨oc, vs, t, hoc, hd2, hv⟩
    have hE0 : ∀ b o, b ≠ P → H b = some o → upd (upd H P (.tbl (ps ++ #[rawInt pos.line, rawInt pos.col, .ref c']))) c' (CodeO c' (X.env.qual ++ "<lambda>")) b = some o := fun b o hb e => by
      rw [upd_ne (ne_of_none e nC), upd_ne hb]
      exact e
    have hE : ExtN H (upd (upd H P (.tbl (ps ++ #[rawInt pos.line, rawInt pos.col, .ref c']))) c' (CodeO c' (X.env.qual ++ "<lambda>"))) := fun b o e n => hE0 b o (fun z => n ps (Option.some.inj (e.symm.trans (by rw [z]; exact hP)))) e
    have eL : (ps ++ #[rawInt pos.line, rawInt pos.col, .ref c']).toList = ps.toList ++ [rawInt pos.line, rawInt pos.col, .ref c'] := by simp
    have T1 : TabsN Tb.T (upd (upd H P (.tbl (ps ++ #[rawInt pos.line, rawInt pos.col, .ref c']))) c' (CodeO c' (X.env.qual ++ "<lambda>"))) := fun p hp => by
      by_cases hb : p.1 = P
      · rw [hu p hp hb, hb]
        refine ⟨_, by rw [upd_ne (ne_of_none hP nC), upd_same], by rw [eL]; exact PySem.TriplesOk_snoc _ _ _ _ ht, fun p' cv hcv => ?_⟩
        rw [eL] at hcv
        rcases among_app2 _ ht hcv with z | ⟨z, z1, z2⟩
        · obtain ⟨c0, e1, e2⟩ := ha p' cv z
          exact ⟨c0, e1, hE _ _ e2 codeO_ne⟩
        · refine ⟨c', z, ?_⟩
          rw [← z1, ← z2, hn]
          exact upd_same
      · obtain ⟨ps', a1, a2, a3⟩ := hd.tb p hp
        refine ⟨ps', by rw [upd_ne (ne_of_none a1 nC), upd_ne hb]; exact a1, a2, fun p' cv hcv => ?_⟩
        obtain ⟨c0, e1, e2⟩ := a3 p' cv hcv
        exact ⟨c0, e1, hE _ _ e2 codeO_ne⟩
    have nF := I1.hok.fresh (Nat.le_refl _)
    have I2 := inv_lam (F := ⟨"<lambda>", X.env.qual ++ "<lambda>", params, [], scope, cloFrom X.env.cells scope.names [], c'⟩) (b := body) (t' := tk) (pm := (X.mg "__name__").getD .none) (ctv := ctv) I1 rfl
    refine h h'.objs.size c' _ _ I2 (step (fun b o hb e => ?_) (fun b e => upd_none (upd_none (upd_none e))) (T1.ext fun b o e => ?_)) (fun b o hb e => Heap.get?_push_of_some _ (hx b o hb e)) (I.hok.fresh (Nat.le_trans hge (Nat.le_of_lt hlt))) upd_same ?_
    · have e1 := hE0 b o hb e
      exact (upd_ne (ne_of_none e1 nF)).trans e1
    · exact (upd_ne (ne_of_none e nF)).trans e
    · exact (upd_ne (Nat.ne_of_lt hlt)).trans upd_same
  | some cv =>
    obtain ⟨c', e, hco⟩ := ha pos cv hc
    subst e
    rw [hn] at hco
    refine kla_makeFunctionHit (mg := X.mg) (c := c) (P := P) (ps := ps) (closure_ok hfree) I.ok.glob (I.mod.glob.keeps I.bk) hcode (TB.code.keeps I.bk) hP' ht hc bP fun ctv h' tk hx hsz => ?_
    have I1 : Inv X pins σ H { s with heap := h', toks := tk } := I.kept hx
    have nF : H h'.objs.size = none := I1.hok.fresh (Nat.le_refl _)
    have I2 := inv_lam (F := ⟨"<lambda>", X.env.qual ++ "<lambda>", params, [], scope, cloFrom X.env.cells scope.names [], c'⟩) (b := body) (t' := tk) (pm := (X.mg "__name__").getD .none) (ctv := ctv) I1 rfl
    refine h h'.objs.size c' _ _ I2 (step (fun b o hb e => ?_) (fun b e => upd_none e) (TabsN.ext hd.tb fun b o e => ?_)) (fun b o hb e => Heap.get?_push_of_some _ (hx b o e)) nF upd_same ?_
    · exact (upd_ne (ne_of_none e nF)).trans e
    · exact (upd_ne (ne_of_none e nF)).trans e
    · exact (upd_ne (ne_of_none hco nF)).trans hco
/-- a lambda is called, inside a built-in -/
theorem lam_call {κ : Type} [Rp κ] {y : κ} {k : Nat} {N ps fr : List Str} {js : List Nat} {F : NF} {b : Expr} {f : Addr} {us : List Value} {vs : List V} {cl : List (Str × Addr)} (NS : NScope N ps fr F.scope)
    (hb : ∀ (pm ctv : Value) (us : List Value), us.length = ps.length → bindArgs (kla_fn F.name F.qual F.params b F.scope F.cl pm (.ref F.c) ctv) ⟨us, []⟩ = pure (ps.zip us))
    (I : Inv X pins σ H s) (hd : Hold G S H) (hf : H f = some (LamO f F b)) (hc : H F.c = some (CodeO F.c F.qual)) (C : CellsAt F.cl fr (js.map (slotAt σ)) s.heap H) (hl : vs.length = ps.length) (r : Vals vs us) (hr : Room (k + 1) X.A.in1.in1)
    (hbody : ∀ (A : Around) (outer : List Env) (s : Shared) (H : Hp) (E : XK), Room k (A.deeper (envF F f s.heap.objs.size)) → EX (ncx CX0 X.prog X.w X.K X.mg X.base N F f A outer s H E) b (startF N vs (js.map (slotAt σ))) G S y S) :
    wpAny (model X.prog X.w) X.A.in1.in1 (call (.ref f) us) (fun r s2 => ∃ kv G2 H2, Inv X pins σ H2 s2 ∧ RelV kv r ∧ Stp G S H G2 S H2 ∧ rp X.K y kv G2) (fun _ _ => False) s := by
  have e0 := I.env0.in1.in1
  have lim : s.heap.NoLimit := e0.mod.nolimit.keeps fun b o e => (e0.bs b o e).1
  obtain ⟨⟨od, sl, pm, ctv, ho⟩, _, _⟩ := I.hok f _ hf
  have hul : us.length = ps.length := by rw [← r.length]; exact hl
  have rc : codeAny (model X.prog X.w) X.A.in1.in1 (.call (.ref f) ⟨us, []⟩) (CR CX0 X.stack X.prog X.w H s (fun v H2 => ∃ G2, Stp G S H G2 S H2 ∧ rp X.K y v G2) (fun _ _ _ => False)) s := by
    refine kla_callFunE hr.depth ho rfl NS.co NS.gen rfl (codeO_at I.hok hc) ?_
    rw [hb pm ctv us hul]
    refine wpAny_pure (wpAny_newFunctionEnv NS.nocell (fun ⟨n, _⟩ hy => NS.par n (List.of_mem_zip hy).1) (fun h₁ hns hsb => ⟨lim.fresh _ hsb, ?_⟩) NS.kind)
    show codeAny _ _ (.expr b (envF F f s.heap.objs.size)) _ _
    have kp : ∀ b o, s.heap.get? b = some o → h₁.get? b = some o := fun b o e => hsb.extBut b o (Nat.ne_of_lt (Heap.lt_size e)) (Heap.get?_push_of_some _ e)
    have J : Inv (ncx CX0 X.prog X.w X.K X.mg X.base N F f X.A.in1.in1 X.stack s H (fun _ _ _ => False)) [] (startF N vs (js.map (slotAt σ))) H { s with heap := h₁, toks := s.toks + (ps.zip us).length } := inv_startN NS hr.hd e0 hl r C hns kp
    refine kla_codeExpr (wpAny_mono (hbody X.A.in1.in1 X.stack s H (fun _ _ _ => False) (hr.deeper _) G H (Same.refl G) hd (fun v H2 => ∃ G2, Stp G S H G2 S H2 ∧ rp X.K y v G2) (fun v G2 H2 st rv => ⟨G2, st, rv⟩) [] _ J) (fun v s' hq => ?_) fun e s' hq => hq)
    obtain ⟨w', H', J', rv, q⟩ := hq
    exact ⟨w', H', J'.os, J'.bare, J'.base, J'.hok, rv, q⟩
  refine wpAny_call (codeAny_mono rc fun r s' hq => ?_)
  cases r with
  | error e => exact hq.elim
  | ok fl =>
    cases fl with
    | ret u =>
      obtain ⟨v, H2, I2, rv, G2, st, q⟩ := I.after (pins := pins) (σ := σ) hq
      exact ⟨v, G2, H2, I2, rv, st, q⟩
    | next => exact False.elim hq
    | brk => exact False.elim hq
    | cont => exact False.elim hq
end
/-- an argument that a built-in may collect -/
def Coll {β : Type} [Rp β] (X : Cx) (P : Addr) (σ : St) (es : List Expr) (pos : Pos) (G : Hp) (S : Sto) (bs : List β) (S1 : Sto) : Prop :=
  ∀ G1 H, Same G G1 → Hold G1 S H → ∀ pins s, Inv X pins σ H s → ∀ R : List Value → Shared → Prop, (∀ u G2 H2 vs s1, Inv X pins σ H2 s1 → Stp G1 S H G2 S1 H2 → Its X.K bs vs G2 →
      (∀ (R2 : List Value → Shared → Prop) s2 H3, (∀ b o, b ≠ P → s1.heap.get? b = some o → s2.heap.get? b = some o) → Inv X pins σ H3 s2 → Stp G2 S1 H2 G2 S1 H3 → (∀ us h' tk, Vals vs us → (∀ b o, s2.heap.get? b = some o → h'.get? b = some o) → R2 us { s2 with heap := h', toks := tk }) → wpAny (model X.prog X.w) X.A.in1 (collect u) R2 X.xe s2) → R [u] s1) →
    wpAny (model X.prog X.w) X.A (spliced (backTo pos (starEach es X.env))) R X.xe s
section
variable {X : Cx} {σ : St} {G : Hp} {S S1 : Sto} {e a : Expr} {pos p : Pos}
theorem coll_list {β : Type} [Rp β] {bs : List β} {P : Addr} (he : EL X e σ G S bs S1) (hl : bs.length ≤ 100000) (na : starEach [e] X.env = (false, eval e X.env) :: starEach [] X.env := by rfl) : Coll X P σ [e] pos G S bs S1 := by
  intro G1 H eg hd pins s I R k
  refine args_cons (thn (he G1 H eg hd (fun v H2 => ∃ G2, Stp G1 S H G2 S1 H2 ∧ LV X.K bs v G2 S1) (fun v G2 H2 st r => ⟨G2, st, r⟩) pins s I) fun u s1 ⟨v, H2, I2, rv, G2, st, lv⟩ => args_nil ?_) na
  obtain ⟨l, vs, rfl, hor, hi⟩ := lv
  obtain rfl : u = Value.ref l := rv
  have sl : sizeLine = 16777216 := sizeLine_eq
  refine k (.ref l) G2 H2 vs s1 I2 st hi fun R2 s2 H3 _ I3 st3 k2 => ?_
  have hq3 : SqL X.K H3 l vs := by
    rcases hor with h | h
    · exact st3.hold.ex.seq h
    · exact SqL.of (st3.hold.own _ h)
  obtain ⟨its, r3, pl, hz⟩ := I3.list hq3
  refine collect_list pl.isList (k2 its _ _ r3 fun b o e => ?_) (by rw [← r3.length]; exact hz)
  have lt : b ≠ s2.heap.objs.size := Nat.ne_of_lt (Heap.lt_size e)
  exact (Heap.get?_update_ne _ _ _ _ lt).trans (Heap.get?_push_of_some _ e)
theorem coll_range {n : Int} {P : Addr} {nm : Nat → Nat → Str} {p0 : Pos} (hmT : (P, nm) ∈ Tb.T) (ha : EX X a σ G S n S1) (hn : 0 ≤ n ∧ n ≤ 100000) (hm : X.mg "range" = none) (hg : Gl X "range" := by rfl) (hc : X.calm = true := by rfl) (na : starEach [a] X.env = (false, eval a X.env) :: starEach [] X.env := by rfl)
    (na2 : starEach [.Call (.Name "range" p0) [a] [] p] X.env = (false, eval (.Call (.Name "range" p0) [a] [] p) X.env) :: starEach [] X.env := by rfl) : Coll X P σ [.Call (.Name "range" p0) [a] [] p] pos G S (rgU n) S1 := by
  intro G1 H eg hd pins s I R k
  have pr := prg_1 (X := X) (p := p0) (pos := p) hg hm (pE a) na pins s σ H (fun lo hi H2 => ∃ G2, lo = 0 ∧ hi = n ∧ Stp G1 S H G2 S1 H2) I (ha G1 H eg hd _ fun v G2 H2 st r => ⟨n, r, G2, rfl, rfl, st⟩)
  refine args_cons (thn pr fun x s1 ⟨r, lo, hi, t, u, v, H2, ex, hr, I2, G2, e1, e2, st⟩ => args_nil ?_) na2
  subst ex e1 e2
  have hx : Its X.K (rgU hi) (rgV 0 hi) G2 := by
    have e : rgV 0 hi = (rgU hi).map (toV : Int → V) := by
      unfold rgV rgU
      rw [List.map_map, Int.sub_zero]
      exact List.map_congr_left fun k _ => by show V.int (0 + (k : Int)) = V.int (k : Int); rw [Int.zero_add]
    rw [e]; exact Its.ofSc _
  refine k (.ref r) G2 H2 _ s1 I2 st hx fun R2 s2 H3 kp I3 st3 k2 => ?_
  have nrP : r ≠ P := fun z => by
    obtain ⟨ps, h1, _⟩ := st.hold.tb _ hmT
    have q : s1.heap.get? P = some { cls := .none, data := .fields ps } := I2.hok P _ h1
    have hr' : s1.heap.get? r = some _ := hr
    rw [z, q] at hr'
    cases hr'
  have hr2 : IsRange s2.heap r 0 hi 1 t u v := kp r _ nrP hr
  refine collect_range (A := X.A.in1) (n := hi.toNat) (I3.ok.hd hc) hr2 (small_one (by omega) (by omega) (by omega) (by omega)) (by have := rangeSize_nat 0 hi; rw [Int.sub_zero] at this; exact this) (by omega) fun h' tk acc kp2 hit => ?_
  have rv : Vals (rgV 0 hi) acc.toList := vals_rg (a := 0) (b := hi) (by rw [Int.sub_zero]; exact hit)
  exact k2 acc.toList h' tk rv kp2
/-- sorted(e, key=lambda x: body) -/
theorem en_sortLam {β κ : Type} [Rp β] [Dt κ] (kd : β → κ) {bs : List β} {nm : Nat → Nat → Str} {c P : Addr} {params : Arguments} {body : Expr} {scope : Scope} {lpos kpos p : Pos} {N ps fr : List Str} {js : List Nat} {k : Nat} {es : List Expr}
    (hcol : Coll X P σ (e :: es) pos G S bs S1) (TB : TabB X.base X.mg c P) (hcode : X.env.code = .ref c) (hmT : (P, nm) ∈ Tb.T) (hn : nm lpos.line lpos.col = X.env.qual ++ "<lambda>") (hu : ∀ q ∈ Tb.T, q.1 = P → q.2 = nm)
    (hm : X.mg "sorted" = none) (hr : Room (k + 3) X.A) (NS : NScope N ps fr scope) (hps : ps.length = 1) (hfree : ∀ y ∈ scope.names, y.2 = .free → X.env.scope.names.lookup y.1 = some .cell ∨ X.env.scope.names.lookup y.1 = some .free) (hfr : ∀ y ∈ fr, (y, NameKind.free) ∈ scope.names) (hjs : js.map (fun j => X.N[j]?) = fr.map some)
    (hb : ∀ (qual : Str) (cl : List (Str × Addr)) (c' : Addr) (pm ctv : Value) (us : List Value), us.length = ps.length → bindArgs (kla_fn "<lambda>" qual params body scope cl pm (.ref c') ctv) ⟨us, []⟩ = pure (ps.zip us))
    (hlen : bs.length ≤ 100000) (hal : AllAlike (bs.map fun b => Dt.toD (kd b))) (hsk : Sortable (bs.map fun b => Dt.toD (kd b))) (hdp : Dt.deep κ ≤ 64)
    (hbody : ∀ x v G1 (f c' : Addr) (A : Around) (outer : List Env) (s : Shared) (H : Hp) (E : XK), x ∈ bs → Same G G1 → rp X.K x v G1 → Room k (A.deeper (envF ⟨"<lambda>", X.env.qual ++ "<lambda>", params, [], scope, cloFrom X.env.cells scope.names [], c'⟩ f s.heap.objs.size)) →
      EX (ncx CX0 X.prog X.w X.K X.mg X.base N ⟨"<lambda>", X.env.qual ++ "<lambda>", params, [], scope, cloFrom X.env.cells scope.names [], c'⟩ f A outer s H E) body (startF N [v] (js.map (slotAt σ))) G1 S1 (kd x) S1)
    (hdef : defaultsOf params X.env = ([], []) := by rfl) (hg : Gl X "sorted" := by rfl)
    (he : backTo pos (starEach (e :: es) X.env) = (false, eval e X.env) :: backTo pos (starEach es X.env) := by rfl) (hpl : (backTo pos (starEach (e :: es) X.env)).any (·.1) = false := by rfl)
    (hall : (backToKw pos (keywordEach [⟨some "key", .Lambda params body scope lpos, kpos⟩] X.env)).all (·.1.isSome) = true := by rfl) (hnone : (backToKw pos (keywordEach [⟨some "key", .Lambda params body scope lpos, kpos⟩] X.env)).any (·.1.isNone) = false := by rfl) (hks : (backToKw pos (keywordEach [⟨some "key", .Lambda params body scope lpos, kpos⟩] X.env)).filterMap (·.1) = [Str.ofString "key"] := by rfl)
    (hev : (backToKw pos (keywordEach [⟨some "key", .Lambda params body scope lpos, kpos⟩] X.env)).map (·.2) = [do let v ← eval (.Lambda params body scope lpos) X.env; standAt pos; pure v] := by rfl) :
    EN X (.Call (.Name "sorted" p) (e :: es) [⟨some "key", .Lambda params body scope lpos, kpos⟩] pos) σ G S (bs.mergeSort (leD kd)) S1 := by
  intro G1 H eg hd Q kq pins s I
  have hf : ∀ {pl : List (Addr × Obj)} {τ : St} {H' : Hp} {s' : Shared}, Inv X pl τ H' s' → ∀ y ∈ scope.names, y.2 = .free → ∃ c, X.env.cells.lookup y.1 = some c := fun I y hy e => (hfree y hy e).elim (fun z => I.ok.has _ (.inl z)) fun z => I.ok.has _ (.inr z)
  have hsb : bootBuiltins (Str.ofString "sorted") = some (.builtin "sorted") := by decide +kernel
  refine wpAny_Call_Name_kw (ld_blt I hg hm hsb ?_ (by decide) (by decide))
  refine PyProof.Rows.callWith_kw (hcol G1 H eg hd pins s I _ fun u G2 H2 vs s1 I1 st1 hi hc2 => ?_) he hpl hall hnone
  rw [hev]
  refine wpAny_evalAll_cons (wpAny_bind (lam_mk I1 st1.hold TB hcode hmT hn hu hdef (hf I1) fun f c' H3 s3 I3 st3 kp hf0 hf1 hc1 => wpAny_bind (wpAny_standAt (wpAny_pure (wpAny_evalAll_nil ?_)))))
  rw [hks]
  have fS : f ∉ dom S1 := fun m => by
    obtain ⟨q, hq, e⟩ := List.mem_map.mp m
    have e' : q.1 = f := e
    have := st1.hold.own q hq
    rw [e', hf0] at this; cases this
  have cS : c' ∉ dom S1 := fun m => by
    obtain ⟨q, hq, e⟩ := List.mem_map.mp m
    have e' : q.1 = c' := e
    have z := st3.hold.own q hq
    rw [e', hc1] at z
    have n := st3.hold.nc q hq
    rw [← Option.some.inj z] at n
    exact n c' _ rfl
  refine srt_call kd (G := G2) (S := S1) I3 st3.hold hi (fun {R} k2 => hc2 R s3 H3 kp I3 st3 k2) (ksk_s1 _ _) (fun x => ksk_l1 _ _) (fun x => ksk_t1 f x) hlen hal hsk (by have := hr.un; omega) (fun x v u pl G4 H4 s4 hm4 e4 fr4 hd4 rx ru I4 => ?_) (fun q xs G5 H5 hq st5 hx => ?_)
  · refine lam_call (k := k) (ps := ps) (fr := fr) (js := js) (F := ⟨"<lambda>", X.env.qual ++ "<lambda>", params, [], scope, cloFrom X.env.cells scope.names [], c'⟩) (vs := [v]) NS (fun pm ctv us => hb _ _ _ pm ctv us) I4 hd4 (fr4 f _ fS hf1 fun ps z => by unfold LamO at z; cases z) (fr4 c' _ cS hc1 (fun ps z => codeO_ne ps z)) (cells_of I4 (Caps.made I4.ok hfree hfr hjs)) (by rw [hps]; rfl) (.cons ru .nil) (cl := []) hr.in1.in1 fun A outer s H E hr4 => ?_
    exact hbody x v G4 f c' A outer s H E hm4 ((eg.trans st1.gg).trans e4) rx hr4
  · have sx := (st1.trans st3).trans st5
    refine kq q xs G5 H5 ?_ sx hx
    cases z : H q with
    | none => rfl
    | some o =>
      obtain ⟨o', e'⟩ := (st1.trans st3).th q o z
      rw [hq] at e'; cases e'
end
end Gx

-- part GRaise
set_option Elab.async false
set_option linter.all false
set_option maxRecDepth 100000
set_option maxHeartbeats 1000000
namespace Gx
open PySem PySem.Spec PyProof.Rows L2
open Rp (rp)
open Sc (toV)
/-- an own error: its class, its own attributes -/
structure Er where
  C : Addr
  fs : List (Str × V)
variable [Tb]
section
variable {G G' : Hp} {S S' : Sto} {H H' : Hp}
theorem Hold.none (hd : Hold G S H) : Hold G [] H := ⟨hd.ex, (fun _ m => nomatch m), (fun _ m => nomatch m), List.nodup_nil, (fun _ m => nomatch m), hd.tb, hd.tg⟩
theorem Stp.frame0 (hd : Hold G S H) (s : Stp G [] H G' [] H') : Stp G S H G' S H' := by
  have := Stp.frame (R := S) (S := []) (by rw [List.append_nil]; exact hd) s
  rw [List.append_nil] at this
  exact this
/-- the owned cells in another order -/
theorem Stp.reorder {S2 : Sto} (s : Stp G S H G' S' H') (h1 : ∀ p, p ∈ S2 → p ∈ S') (nd : (dom S2).Nodup) : Stp G S H G' S2 H' := by
  have hd : ∀ a, a ∈ dom S2 → a ∈ dom S' := fun a m => by
    obtain ⟨p, hp, rfl⟩ := List.mem_map.mp m
    exact List.mem_map.mpr ⟨p, h1 p hp, rfl⟩
  exact ⟨⟨s.hold.ex, fun p m => s.hold.own p (h1 p m), fun a m => s.hold.sep a (hd a m), nd, fun p m => s.hold.nc p (h1 p m), s.hold.tb, s.hold.tg⟩, s.gg, s.fr, s.new, fun b m => s.dm b (hd b m), s.th⟩
theorem Stp.frame0N {p : Addr} {o : HO} (hd : Hold G S H) (s : Stp G [] H G' [(p, o)] H') : Stp G S H G' ((p, o) :: S) H' := by
  have t := Stp.frame (R := S) (S := []) (by rw [List.append_nil]; exact hd) s
  rw [List.append_nil] at t
  refine t.reorder (fun q m => ?_) ?_
  · rcases List.mem_cons.mp m with e | m
    · exact List.mem_append_right _ (List.mem_singleton.mpr e)
    · exact List.mem_append_left _ m
  · have nd := t.hold.nd
    unfold dom at nd ⊢
    rw [List.map_append] at nd
    rw [List.map_cons]
    obtain ⟨n1, _, n3⟩ := List.nodup_append.mp nd
    exact List.nodup_cons.mpr ⟨fun m => n3 p m p (by simp) rfl, n1⟩
end
/-! ### promises of defs that may raise -/
def PmX {ι β : Type} [Rp β] (K : PySem.W.Frag) (A : ι → List V → Hp → Prop) (S : ι → Sto) (pre : ι → Prop) (y : ι → Except Er β) (S' : ι → Sto) : Sp :=
  fun vs H Q E => ∃ (i : ι) (G : Hp), Hold G (S i) H ∧ A i vs G ∧ pre i ∧ (∀ y0, y i = .ok y0 → ∀ v G' H', Stp G (S i) H G' (S' i) H' → rp K y0 v G' → Q v H') ∧
    ∀ er, y i = .error er → ∀ dd G' H', Stp G (S i) H G' (S' i) H' → G' dd = some (.xd er.fs) → E (.ref er.C) (some dd) H'
def PmXN {ι β : Type} [Rp β] (K : PySem.W.Frag) (A : ι → List V → Hp → Prop) (S : ι → Sto) (pre : ι → Prop) (y : ι → Except Er (List β)) (S' : ι → Sto) : Sp :=
  fun vs H Q E => ∃ (i : ι) (G : Hp), Hold G (S i) H ∧ A i vs G ∧ pre i ∧ (∀ y0, y i = .ok y0 → ∀ p us G' H', H p = none → Stp G (S i) H G' ((p, .lst us) :: S' i) H' → Its K y0 us G' → Q (.ref p) H') ∧
    ∀ er, y i = .error er → ∀ dd G' H', Stp G (S i) H G' (S' i) H' → G' dd = some (.xd er.fs) → E (.ref er.C) (some dd) H'
/-- a call that may raise, as a step -/
def DoesX {β : Type} [Rp β] (K : PySem.W.Frag) (sp : Sp) (A : List V → Hp → Prop) (S : Sto) (y : Except Er β) (S' : Sto) : Prop :=
  ∀ vs G H Q E, Hold G S H → A vs G → (∀ y0, y = .ok y0 → ∀ v G' H', Stp G S H G' S' H' → rp K y0 v G' → Q v H') → (∀ er, y = .error er → ∀ dd G' H', Stp G S H G' S' H' → G' dd = some (.xd er.fs) → E (.ref er.C) (some dd) H') → sp vs H Q E
def DoesXN {β : Type} [Rp β] (K : PySem.W.Frag) (sp : Sp) (A : List V → Hp → Prop) (S : Sto) (y : Except Er (List β)) (S' : Sto) : Prop :=
  ∀ vs G H Q E, Hold G S H → A vs G → (∀ y0, y = .ok y0 → ∀ p us G' H', H p = none → Stp G S H G' ((p, .lst us) :: S') H' → Its K y0 us G' → Q (.ref p) H') → (∀ er, y = .error er → ∀ dd G' H', Stp G S H G' S' H' → G' dd = some (.xd er.fs) → E (.ref er.C) (some dd) H') → sp vs H Q E
section
variable {ι β : Type} [Rp β] {K : PySem.W.Frag} {A : ι → List V → Hp → Prop} {S : ι → Sto} {pre : ι → Prop} {S' : ι → Sto} {sp : Sp} {A1' : List V → Hp → Prop}
theorem PmX.does {y : ι → Except Er β} (i : ι) (h : pre i) : DoesX K (PmX K A S pre y S') (A i) (S i) (y i) (S' i) := fun vs G H Q E hd a k1 k2 => ⟨i, G, hd, a, h, k1, k2⟩
theorem PmXN.does {y : ι → Except Er (List β)} (i : ι) (h : pre i) : DoesXN K (PmXN K A S pre y S') (A i) (S i) (y i) (S' i) := fun vs G H Q E hd a k1 k2 => ⟨i, G, hd, a, h, k1, k2⟩
theorem DoesX.frame0 {y : Except Er β} (S : Sto) (d : DoesX K sp A1' [] y []) : DoesX K sp A1' S y S := fun vs G H Q E hd a k1 k2 => d vs G H Q E hd.none a (fun y0 e v G' H' s r => k1 y0 e v G' H' (s.frame0 hd) r) fun er e dd G' H' s r => k2 er e dd G' H' (s.frame0 hd) r
theorem DoesXN.frame0 {y : Except Er (List β)} (S : Sto) (d : DoesXN K sp A1' [] y []) : DoesXN K sp A1' S y S := fun vs G H Q E hd a k1 k2 => d vs G H Q E hd.none a (fun y0 e p us G' H' hp s r => k1 y0 e p us G' H' hp (s.frame0N hd) r) fun er e dd G' H' s r => k2 er e dd G' H' (s.frame0 hd) r
theorem DoesX.ok {y : Except Er β} {y0 : β} {S S' : Sto} (d : DoesX K sp A1' S y S') (e : y = .ok y0) : Does K sp A1' S y0 S' := fun vs G H Q E hd a k => d vs G H Q E hd a (fun y1 e1 v G' H' s r => by rw [e] at e1; cases e1; exact k v G' H' s r) fun er e1 => by rw [e] at e1; cases e1
theorem DoesXN.ok {y : Except Er (List β)} {y0 : List β} {S S' : Sto} (d : DoesXN K sp A1' S y S') (e : y = .ok y0) : DoesN K sp A1' S y0 S' := fun vs G H Q E hd a k => d vs G H Q E hd a (fun y1 e1 p us G' H' hp s r => by rw [e] at e1; cases e1; exact k p us G' H' hp s r) fun er e1 => by rw [e] at e1; cases e1
end
/-- nothing is let out -/
theorem passX0 {X : Cx} : Passes (L2.CX X.prog X.w) X (fun _ _ _ => False) := passes_call (W := fun _ _ _ _ => False) takes0 fun _ _ _ _ h => h
section
variable {P : Program} {w : World} {K : PySem.W.Frag} {mg : Str → Option Value} {base : Heap}
/-- what is wished of an error -/
def KqE (B : Bs) (er : Er) (S' : Sto) (E : XK) : Prop := ∀ dd G1 H1, Stp B.G B.S B.H G1 S' H1 → G1 dd = some (.xd er.fs) → E (.ref er.C) (some dd) H1
theorem fn_pmX {ι β : Type} [Rp β] {A : ι → List V → Hp → Prop} {S : ι → Sto} {pre : ι → Prop} {y : ι → Except Er β} {S' : ι → Sto} {x qual : Str} {st : Stmt} {f : Addr} {fd : FuncData} {N ps : List Str} {k : Nat}
    (F : Fun K x qual st f fd) (sc : FnScope N ps (defScope st)) (len : ∀ i vs G, A i vs G → vs.length = ps.length)
    (h : ∀ (cdv : Value) (A' : Around) (outer : List Env) (s : Shared) (H : Hp) (vs : List V) (Q : VK) (E : XK) (i : ι) (G : Hp), Room k (A'.deeper (envOfC qual (defScope st) s.heap.objs.size f cdv)) → pre i → A i vs G → (∀ y0, y i = .ok y0 → Kq K ⟨G, S i, H⟩ y0 (S' i) Q) → (∀ er, y i = .error er → KqE ⟨G, S i, H⟩ er (S' i) E) →
      At ⟨G, S i, H⟩ (cB (cxOf (L2.CX P w) P w K mg base N qual (defScope st) f cdv A' outer s H E) (defBody st) { nx := fun _ H' => Q .non H', rt := Q }) (start N vs) G (S i)) :
    FnOk P w K mg base (L2.CX P w) (k + 1) f fd ps (PmX K A S pre y S') :=
  F.okX sc (fun vs H Q E ⟨i, G, _, a, _⟩ => len i vs G a) fun cdv A' outer s H vs Q E hr ⟨i, G, hd, a, hp, k1, k2⟩ => ⟨cB _ _, pB _, at_start hd (h cdv A' outer s H vs Q E i G hr hp a (fun y0 e v G1 H1 s r => k1 y0 e v G1 H1 s r) (fun er e dd G1 H1 s r => k2 er e dd G1 H1 s r))⟩
end
section
variable {X : Cx} {B : Bs} {D : Ends} {σ : St} {G : Hp} {S S1 S2 S' : Sto} {e a : Expr} {es : List Expr} {rest body : List Stmt} {pos p : Pos} {C fI : Addr} {nm f : Str}
/-- raise C(e) -/
theorem b_raise {α : Type} [Sc α] {x : α} {E : XK} {k : Nat} {pos2 : Pos} (T : PySem.ErrX.ErrTxt X.prog X.K C fI nm f) (gC : X.mg nm = some (.ref C)) (hr : Room k X.A) (tk : Takes X (fun cls d _ H => E cls d H)) (ha : EX X a σ G S x S1) (h : KqE B ⟨C, [(f, toV x)]⟩ S1 E)
    (hc : X.calm = true := by rfl) (hg : Gl X nm := by rfl) (hdb : (nm == ("__debug__" : Str)) = false := by decide) (he : starEach (a :: []) X.env = (false, eval a X.env) :: starEach [] X.env := by rfl) (hpl : (backTo pos (starEach [] X.env)).any (·.1) = false := by rfl) :
    At B (cB X (.Raise (some (.Call (.Name nm p) [a] [] pos)) none pos2 :: rest) D) σ G S :=
  b_cons fun H s => toS (ps_raiseErr hc T gC hr tk (pa_cons (pE a) pa_nil he) hg hdb he hpl) (ha G H (Same.refl G) s.hold _ fun v G1 H1 s1 r => ⟨v, rfl, fun d hd => by
    rw [Sc.rp_iff.mp r]
    exact h d _ _ ((s.trans s1).trans (Stp.alloc s1.hold hd _)) upd_same⟩)
/-! ### try -/
def tbC (X : Cx) (body : List Stmt) : WX → TS := fun W D σ H => ∀ pn xe, Takes (X.tr pn xe) W → PassesOwn (model X.prog X.w) X.A X.env xe → cB (X.tr pn xe) body D σ H
def tsC (X : Cx) (suite : List Stmt) : Addr → Value → Option Addr → TS := fun a cls d D σ H => ∀ oe pn, Zc cls d oe → (∃ vs, oe.data = .fields vs) → cB (X.suite a ((a, oe) :: pn)) suite D σ H
/-- try: body; except c as n: suite -/
theorem b_tryAs {Wout : WX} {x n : Str} {c : Value} {b₀ : Stmt} {suite : List Stmt} {np pos' : Pos} (i : Nat) (hs : X.stack = X.env :: X.outer) (hf : X.env.frame = some X.env.locals) (hN : X.N.Nodup) (hi : X.N[i]? = some n) (hln : X.env.kindOf n = some .local) (hc : Names X x c) (tk : Takes X Wout)
    (h : ∀ pn xe, Takes (X.tr pn xe) (wAs X.K c i (tsC X (b₀ :: suite)) Wout { D with nx := cB X rest D }) → At B (cB (X.tr pn xe) body { D with nx := cB X rest D }) σ G S) :
    At B (cB X (.Try body [.ExceptHandler (some (.Name x np)) (some n) (b₀ :: suite) pos'] [] [] pos :: rest) D) σ G S :=
  b_cons fun H s => toS (ps_try_as (tb := tbC X body) (ts := tsC X (b₀ :: suite)) hs hf hN hi hln hc tk (fun W pn xe t po => ⟨fun pins s σ H D I h => h pn xe t po pins s I⟩) fun a oe cls d pn hz hf => ⟨fun pins s σ H D I h => h oe pn hz hf pins s I⟩) (fun pn xe t po => h pn xe t H s)
/-- the error is the clause's -/
theorem was_yes {K : PySem.W.Frag} {c : Value} {i : Nat} {b₀ : Stmt} {suite : List Stmt} {Wout : WX} {cls : Value} {d : Option Addr} {H : Hp} (hex : PySem.W.exmOne K cls c = some true) (hst : Stp B.G B.S B.H G S H)
    (h : ∀ a oe pn, Zc cls d oe → (∃ vs, oe.data = .fields vs) → At B (cB (X.suite a ((a, oe) :: pn)) (b₀ :: suite) { nx := fun σ' H' => D.nx (σ'.set i none) H', rt := D.rt, bk := fun σ' H' => D.bk (σ'.set i none) H', ct := fun σ' H' => D.ct (σ'.set i none) H' }) (σ.set i (some (.ref a))) G S) :
    wAs K c i (tsC X (b₀ :: suite)) Wout D cls d σ H := ⟨true, hex, fun _ a _ oe pn hz hf => h a oe pn hz hf H hst, fun z => by cases z⟩
/-- f(..), a statement that may raise -/
theorem b_exprX {β : Type} [Rp β] {y : Except Er β} {W : WX} {x : Str} {ps : List Str} {sp : Sp} {k : Nat} {A : List V → Hp → Prop} (c : Cl X.prog X.w X.K X.mg X.base (L2.CX X.prog X.w) x ps k sp) (hr : Room k X.A) (d : DoesX X.K sp A S1 y S2) (ha : EA X (e :: es) σ G S A S1) (tk : Takes X W)
    (h1 : ∀ y0, y = .ok y0 → ∀ v G1, Same G G1 → rp X.K y0 v G1 → At B (cB X rest D) σ G1 S2) (h2 : ∀ er, y = .error er → ∀ dd G1 H1, Same G G1 → Stp B.G B.S B.H G1 S2 H1 → G1 dd = some (.xd er.fs) → W (.ref er.C) (some dd) σ H1)
    {p2 : Pos} (hsw : swapsWith (.Call (.Name x p) (e :: es) [] p2) none pos.line X.env = pure false := by rfl) (hg : Gl X x := by rfl) (hdb : (x == ("__debug__" : Str)) = false := by decide)
    (hpl : (backTo p2 (starEach es X.env)).any (·.1) = false := by rfl) (he : starEach (e :: es) X.env = (false, eval e X.env) :: starEach es X.env := by rfl) : At B (cB X (.Expr (.Call (.Name x p) (e :: es) [] p2) pos :: rest) D) σ G S :=
  b_cons fun H s => toS (ps_expr (pe_callS c.ok hr hg c.hm c.hk c.hb (fun σ => passAt tk σ) (pA (e :: es)) hdb he hpl) hsw) (ha G H (Same.refl G) s.hold _ fun vs G2 H2 s2 r2 => d vs G2 H2 _ _ s2.hold r2
    (fun y0 ey v G3 H3 s3 r3 => h1 y0 ey v G3 (s2.gg.trans s3.gg) r3 H3 ((s.trans s2).trans s3)) fun er ey dd G3 H3 s3 r3 => h2 er ey dd G3 H3 (s2.gg.trans s3.gg) ((s.trans s2).trans s3) r3)
theorem b_exprXN {β : Type} [Rp β] {y : Except Er (List β)} {W : WX} {x : Str} {ps : List Str} {sp : Sp} {k : Nat} {A : List V → Hp → Prop} (c : Cl X.prog X.w X.K X.mg X.base (L2.CX X.prog X.w) x ps k sp) (hr : Room k X.A) (d : DoesXN X.K sp A S1 y S2) (ha : EA X (e :: es) σ G S A S1) (tk : Takes X W)
    (h1 : ∀ y0, y = .ok y0 → ∀ q us G1, Same G G1 → Its X.K y0 us G1 → B.H q = none → At B (cB X rest D) σ G1 ((q, .lst us) :: S2)) (h2 : ∀ er, y = .error er → ∀ dd G1 H1, Same G G1 → Stp B.G B.S B.H G1 S2 H1 → G1 dd = some (.xd er.fs) → W (.ref er.C) (some dd) σ H1)
    {p2 : Pos} (hsw : swapsWith (.Call (.Name x p) (e :: es) [] p2) none pos.line X.env = pure false := by rfl) (hg : Gl X x := by rfl) (hdb : (x == ("__debug__" : Str)) = false := by decide)
    (hpl : (backTo p2 (starEach es X.env)).any (·.1) = false := by rfl) (he : starEach (e :: es) X.env = (false, eval e X.env) :: starEach es X.env := by rfl) : At B (cB X (.Expr (.Call (.Name x p) (e :: es) [] p2) pos :: rest) D) σ G S :=
  b_cons fun H s => toS (ps_expr (pe_callS c.ok hr hg c.hm c.hk c.hb (fun σ => passAt tk σ) (pA (e :: es)) hdb he hpl) hsw) (ha G H (Same.refl G) s.hold _ fun vs G2 H2 s2 r2 => d vs G2 H2 _ _ s2.hold r2
    (fun y0 ey q us G3 H3 hq s3 r3 => h1 y0 ey q us G3 (s2.gg.trans s3.gg) r3 (stp_new (s.trans s2) hq) H3 ((s.trans s2).trans s3)) fun er ey dd G3 H3 s3 r3 => h2 er ey dd G3 H3 (s2.gg.trans s3.gg) ((s.trans s2).trans s3) r3)
/-! ### the error in the suite -/
variable {oe : Obj} {pn : List (Addr × Obj)} {ad dd : Addr}
/-- e.f -/
theorem ex_errF {α : Type} [Rp α] {x : α} {v : V} (T : PySem.ErrX.ErrTxt X.prog X.K C fI nm f) (hz : Zc (.ref C) (some dd) oe) (hf : ∃ vs, oe.data = .fields vs) (hdd : G dd = some (.xd [(f, v)])) (rx : rp X.K x v G) (he : EX (X.suite ad ((ad, oe) :: pn)) e σ G S (Ow.mk ad) S)
    (hb : attributeBase e f X.env (eval e X.env) = eval e X.env := by rfl) : EX (X.suite ad ((ad, oe) :: pn)) (.Attribute e f pos) σ G S x S :=
  Ev.to (pe_errF T hz hf (pE e) hb) fun G1 H eg hd Q k => he G1 H eg hd _ fun u G2 H2 s2 r2 => ⟨r2, rfl, dd, v, rfl, s2.hold.ex _ _ (s2.gg _ _ (eg _ _ hdd)), k v G2 H2 s2 (Rp.mono (eg.trans s2.gg) rx)⟩
/-- isinstance(e, c), e the exception that the suite holds -/
def rIsEd (K : PySem.W.Frag) (D a dd : Addr) : List V → Hp → VK → Prop := fun xs H Q => ∃ (c : V) (cv : Value) (fs : List (Str × V)) (b : Bool), xs = [.ref a, c] ∧ ClsV c cv ∧ H dd = some (.xd fs) ∧ PySem.W.kitOne K (.ref D) cv = some b ∧ Q (.bl b) H
def rIsEdT (K : PySem.W.Frag) (D a dd : Addr) : List V → Hp → VK → Prop := fun xs H Q => ∃ (tp : Addr) (cs : List V) (us : List Value) (fs : List (Str × V)) (b : Bool), xs = [.ref a, .ref tp] ∧ H tp = some (.tup cs) ∧ Paired ClsV cs us ∧ H dd = some (.xd fs) ∧ PySem.W.kitAny K (.ref D) us = some b ∧ Q (.bl b) H
theorem inst_d {pins : List (Addr × Obj)} {H : Hp} {s : Shared} {fs : List (Str × V)} (I : Inv (X.suite ad ((ad, oe) :: pn)) pins σ H s) (hz : Zc (.ref C) (some dd) oe) (hf : ∃ vs, oe.data = .fields vs) (hd : H dd = some (.xd fs)) : ∃ od, PySem.W.InstAt s.heap ad oe C (some od) := by
  obtain ⟨ha, _⟩ := I.pin (ad, oe) (List.mem_append_left _ List.mem_cons_self)
  obtain ⟨vs, hv⟩ := hf
  have hx : ObjOk X.prog X.w H s.heap dd (.xd fs) := I.hok dd _ hd
  obtain ⟨mA, hns, hr⟩ := hx
  obtain ⟨od, ho, hl⟩ := lookIn_ns hns
  exact ⟨od, ha, hz.1, by unfold PySem.W.notCls; rw [hv] <;> rfl, by rw [hz.2]; exact ho⟩
theorem call_isEd (c : ExcC X.K C) (hz : Zc (.ref C) (some dd) oe) (hf : ∃ vs, oe.data = .fields vs) : CallR (X.suite ad ((ad, oe) :: pn)) (.builtin "isinstance") (rIsEd X.K C ad dd) := by
  intro pins s σ H xs us Q I r h
  obtain ⟨cc, cv, fs, b, rfl, hcv, hd, e, q⟩ := h
  obtain ⟨u1, u2, rfl, r1, r2⟩ := vals2 r
  cases r1
  have ec := hcv.eq r2
  subst ec
  obtain ⟨od, J⟩ := inst_d I hz hf hd
  have nb : u2 ≠ .builtin "__main__.__loader__#opaque" := by cases hcv <;> exact fun z => nomatch z
  exact PySem.W.kia_one (PySem.W.kitx_exc (by obtain ⟨cd, hc, _⟩ := PySem.W.any_some c.hd; rw [hc]; rfl) c.hg c.hk c.hs c.ha c.hn c.ht c.hm) I.kIn J e (fun z => nomatch z) fun tk => ⟨.bl b, H, I.kept (t' := tk) fun _ _ z => z, rfl, q⟩
theorem call_isEdT (c : ExcC X.K C) (hz : Zc (.ref C) (some dd) oe) (hf : ∃ vs, oe.data = .fields vs) : CallR (X.suite ad ((ad, oe) :: pn)) (.builtin "isinstance") (rIsEdT X.K C ad dd) := by
  intro pins s σ H xs us Q I r h
  obtain ⟨tp, cs, ws, fs, b, rfl, hT, k, hd, e, q⟩ := h
  obtain ⟨u1, u2, rfl, r1, r2⟩ := vals2 r
  cases r1
  cases (show u2 = Value.ref tp from r2)
  obtain ⟨od, J⟩ := inst_d I hz hf hd
  obtain ⟨_, its, rv, o, h1, h2, n, h3⟩ := (show ObjOk X.prog X.w H s.heap tp (.tup cs) from I.hok tp _ hT)
  have e3 := ClsV.all k rv
  subst e3
  obtain ⟨oc, od2, dt, sl⟩ := o
  simp only at h2 h3
  subst h2 h3
  exact PySem.W.kia_tup (PySem.W.kitx_exc (by obtain ⟨cd, hc, _⟩ := PySem.W.any_some c.hd; rw [hc]; rfl) c.hg c.hk c.hs c.ha c.hn c.ht c.hm) I.kIn J h1 e (fun z => nomatch z) fun tk => ⟨.bl b, H, I.kept (t' := tk) fun _ _ z => z, rfl, q⟩
/-- a class as data -/
structure Kl where
  v : V
  u : Value
  ok : ClsV v u
instance : Sc Kl where
  rp := fun _ x v _ => v = x.v
  mono := fun _ h => h
  toV := fun x => x.v
  rp_iff := Iff.rfl
theorem ex_isE {b : Bool} {fs : List (Str × V)} {c : Kl} {T : Expr} (cc : ExcC X.K C) (hz : Zc (.ref C) (some dd) oe) (hf : ∃ vs, oe.data = .fields vs) (hdd : G dd = some (.xd fs)) (he : EX (X.suite ad ((ad, oe) :: pn)) e σ G S (Ow.mk ad) S) (hT : EX (X.suite ad ((ad, oe) :: pn)) T σ G S c S) (hk : PySem.W.kitOne X.K (.ref C) c.u = some b)
    (hm : X.mg "isinstance" = none) (hg : Gl X "isinstance" := by rfl) (hse : starEach [e, T] X.env = (false, eval e X.env) :: starEach [T] X.env := by rfl) (hse2 : starEach [T] X.env = (false, eval T X.env) :: starEach [] X.env := by rfl) (hpl : (backTo pos (starEach [T] X.env)).any (·.1) = false := by rfl) :
    EX (X.suite ad ((ad, oe) :: pn)) (.Call (.Name "isinstance" p) [e, T] [] pos) σ G S b S :=
  Ev.to (pe_callB (call_isEd cc hz hf) hg hm (by decide +kernel) (pa_cons (pE e) (pa_cons (pE T) pa_nil hse2) hse) (he := hse) (hpl := hpl)) fun G1 H eg hd Q k => he G1 H eg hd _ fun v G2 H2 s2 r2 => hT G2 H2 (eg.trans s2.gg) s2.hold _ fun u G3 H3 s3 r3 =>
    ⟨c.v, c.u, fs, b, by rw [show v = V.ref ad from r2, show u = c.v from r3], c.ok, s3.hold.ex _ _ (s3.gg _ _ (s2.gg _ _ (eg _ _ hdd))), hk, k _ G3 H3 (s2.trans s3) rfl⟩
/-- isinstance(e, (c1, c2, ..)) -/
theorem ex_isET {b : Bool} {fs : List (Str × V)} {cs : List Kl} {ts : List Expr} {kk : Nat} {tp : Pos} (cc : ExcC X.K C) (hz : Zc (.ref C) (some dd) oe) (hf : ∃ vs, oe.data = .fields vs) (hdd : G dd = some (.xd fs)) (he : EX (X.suite ad ((ad, oe) :: pn)) e σ G S (Ow.mk ad) S) (hT : EA (X.suite ad ((ad, oe) :: pn)) ts σ G S (ItA X.K cs) S) (hl : cs.length ≤ 1000) (hk : PySem.W.kitAny X.K (.ref C) (cs.map Kl.u) = some b)
    (hm : X.mg "isinstance" = none) (hg : Gl X "isinstance" := by rfl) (hse : starEach [e, .Tuple ts kk tp] X.env = (false, eval e X.env) :: starEach [.Tuple ts kk tp] X.env := by rfl) (hse2 : starEach [.Tuple ts kk tp] X.env = (false, eval (.Tuple ts kk tp) X.env) :: starEach [] X.env := by rfl) (hpl : (backTo pos (starEach [.Tuple ts kk tp] X.env)).any (·.1) = false := by rfl) :
    EX (X.suite ad ((ad, oe) :: pn)) (.Call (.Name "isinstance" p) [e, .Tuple ts kk tp] [] pos) σ G S b S :=
  Ev.to (pe_callB (call_isEdT cc hz hf) hg hm (by decide +kernel) (pa_cons (pE e) (pa_cons (pe_tup (pA ts)) pa_nil hse2) hse) (he := hse) (hpl := hpl)) fun G1 H eg hd Q k => he G1 H eg hd _ fun v G2 H2 s2 r2 => hT G2 H2 (eg.trans s2.gg) s2.hold _ fun us G3 H3 s3 r3 => by
    have r3 : Its X.K cs us G3 := r3
    have e3 := Its.sc r3
    subst e3
    refine ⟨by rw [List.length_map]; exact Nat.le_trans hl (by decide), fun q hq => ?_⟩
    have s4 := Stp.alloc s3.hold hq (.tup (cs.map toV))
    have pd : ∀ l : List Kl, Paired ClsV (l.map toV) (l.map Kl.u) := fun l => by
      induction l with
      | nil => exact .nil
      | cons x l ih => exact .cons x.ok ih
    exact ⟨q, cs.map toV, cs.map Kl.u, fs, b, by rw [show v = V.ref ad from r2], upd_same, pd cs, s4.hold.ex _ _ (s4.gg _ _ (s3.gg _ _ (s2.gg _ _ (eg _ _ hdd)))), hk, k _ _ _ ((s2.trans s3).trans s4) rfl⟩
end
end Gx

-- part GMisc
set_option Elab.async false
set_option linter.all false
set_option maxRecDepth 100000
set_option maxHeartbeats 1000000
namespace Gx
open PySem PySem.Spec PyProof.Rows L2
open Rp (rp)
open Sc (toV)
/-- xs[i] by values, i from 0 on -/
theorem pget_list {X : Cx} : PGet X (fun o i H Q => ∃ p xs k v, o = .ref p ∧ i = .int k ∧ 0 ≤ k ∧ SqL X.K H p xs ∧ atI xs k = some v ∧ Q v H) := by
  intro pins s σ H o i ov iv Q I ro ri h
  obtain ⟨p, xs, k, z, rfl, rfl, h0, hq, he, q⟩ := h
  cases ro
  obtain ⟨t, rfl⟩ := ri
  obtain ⟨its, r, pl, hz⟩ := I.list hq
  obtain ⟨j, h1, h2, h3, h4, h5⟩ := L2.atI_get he
  obtain ⟨w, ew, rw'⟩ := r.get h2
  have hl := r.length
  have hn := line63
  have hj : k.toNat = j := by
    rw [seqIndex_of h0 h5] at h1
    exact Option.some.inj h1
  exact wpAny_getItem_list pl.isList h0 (by omega) (by rw [hj]; simpa using ew) ⟨z, H, I, rw', q⟩
variable [Tb]
section
variable {X : Cx} {B : Bs} {D : Ends} {σ : St} {G : Hp} {S S1 S2 : Sto} {e a b c : Expr} {rest : List Stmt} {pos tpos p : Pos}
/-- xs[i] += e, xs a list of whole numbers owned at place j -/
theorem b_augix {op : Operator} {f : Int → Int → Int} {vs : List V} {l : Addr} {kx x y : Int} {m : Nat} (j : Nat) (hop : PIp X op (ipI f)) (ho : EX X a σ G S (Ow.mk l) S) (hi : EX X b σ G S kx S) (h0 : 0 ≤ kx) (hk : ixN vs.length kx = some m) (hv : atI vs kx = some (.int x)) (hj : S[j]? = some (l, .lst vs)) (he : EX X e σ G S y S)
    (k : At B (cB X rest D) σ G (S.set j (l, .lst (vs.set m (.int (f x y)))))) (ha : ∀ ov iv new, augStore b ov iv new = (do holding [new, ov, iv] (setItem ov iv new); release [new, ov, iv] []; pure .next) := by intros; rfl) :
    At B (cB X (.AugAssign (.Subscript a b tpos) op e pos :: rest) D) σ G S :=
  b_cons fun H s => toS (ps_augS (pE a) (pE b) pget_list (pE e) hop set_list ha) (ho G H (Same.refl G) s.hold _ fun u G1 H1 s1 r1 => hi G1 H1 s1.gg s1.hold _ fun w G2 H2 s2 r2 =>
    ⟨l, vs, kx, .int x, r1, r2, h0, SqL.of (s2.hold.own _ (List.mem_of_getElem? hj)), hv, he G2 H2 (s1.gg.trans s2.gg) s2.hold _ fun v G3 H3 s3 r3 => ⟨x, y, rfl, r3, l, vs, kx, m, r1, r2, s3.hold.own _ (List.mem_of_getElem? hj), hk, by
      have sx := (s1.trans s2).trans s3
      have sf : Stp B.G B.S B.H G S H3 := s.trans (sx.forget (Same.refl G))
      exact k _ (sf.trans (Stp.write sf.hold hj))⟩⟩)
/-- x += e, x a whole number at place i -/
theorem b_aug {op : Operator} {f : Int → Int → Int} {n : Str} {x y : Int} (i : Nat) (hop : PIp X op (ipI f)) (hx : σ[i]? = some (some (.int x))) (he : EX X e σ G S y S1) (k : At B (cB X rest D) (σ.set i (some (.int (f x y)))) G S1) (hN : X.N.Nodup) (hi : X.N[i]? = some n := by rfl)
    (hl : Loc X.env.scope n := by first | exact .inl rfl | exact .inr rfl) (hf : X.fn n = true ∨ X.env.scope.names.lookup n = some .local := by first | exact .inl rfl | exact .inr rfl) : At B (cB X (.AugAssign (.Name n tpos) op e pos :: rest) D) σ G S :=
  b_cons fun H s => toS (ps_aug hN hi hl (pE e) hop hf) ⟨.int x, hx, he G H (Same.refl G) s.hold _ fun v G1 H1 s1 r => ⟨x, y, rfl, r, by
    have sf : Stp B.G B.S B.H G S1 H1 := s.trans (s1.forget (Same.refl G))
    exact k _ sf⟩⟩
theorem ex_abs {n : Int} (ha : EX X a σ G S n S1) (hm : X.mg "abs" = none) (hg : Gl X "abs" := by rfl) (hse : starEach [a] X.env = (false, eval a X.env) :: starEach [] X.env := by rfl) : EX X (.Call (.Name "abs" p) [a] [] pos) σ G S (if n < 0 then -n else n) S1 :=
  Ev.to (pe_callB call_abs hg hm (by decide +kernel) (pa_cons (pE a) pa_nil hse) (he := hse)) fun G1 H e hd Q k => ha G1 H e hd _ fun v G2 H2 s2 r2 => ⟨n, by rw [show v = .int n from r2], k _ G2 H2 s2 rfl⟩
theorem ex_min2 {m n : Int} (hc : X.calm = true) (ha : EX X a σ G S m S1) (hb : EX X b σ G S1 n S2) (hm : X.mg "min" = none) (hg : Gl X "min" := by rfl) (hse : starEach [a, b] X.env = (false, eval a X.env) :: starEach [b] X.env := by rfl) (hse2 : starEach [b] X.env = (false, eval b X.env) :: starEach [] X.env := by rfl) (hpl : (backTo pos (starEach [b] X.env)).any (·.1) = false := by rfl) :
    EX X (.Call (.Name "min" p) [a, b] [] pos) σ G S (if n < m then n else m) S2 :=
  Ev.to (pe_callB (call_min2 hc) hg hm (by decide +kernel) (pa_cons (pE a) (pa_cons (pE b) pa_nil hse2) hse) (he := hse) (hpl := hpl)) fun G1 H e hd Q k => ha G1 H e hd _ fun v G2 H2 s2 r2 => hb G2 H2 (e.trans s2.gg) s2.hold _ fun u G3 H3 s3 r3 => ⟨m, n, by rw [show v = .int m from r2, show u = .int n from r3], k _ G3 H3 (s2.trans s3) rfl⟩
theorem ex_max2 {m n : Int} (hc : X.calm = true) (ha : EX X a σ G S m S1) (hb : EX X b σ G S1 n S2) (hm : X.mg "max" = none) (hg : Gl X "max" := by rfl) (hse : starEach [a, b] X.env = (false, eval a X.env) :: starEach [b] X.env := by rfl) (hse2 : starEach [b] X.env = (false, eval b X.env) :: starEach [] X.env := by rfl) (hpl : (backTo pos (starEach [b] X.env)).any (·.1) = false := by rfl) :
    EX X (.Call (.Name "max" p) [a, b] [] pos) σ G S (if n > m then n else m) S2 :=
  Ev.to (pe_callB (call_max2 hc) hg hm (by decide +kernel) (pa_cons (pE a) (pa_cons (pE b) pa_nil hse2) hse) (he := hse) (hpl := hpl)) fun G1 H e hd Q k => ha G1 H e hd _ fun v G2 H2 s2 r2 => hb G2 H2 (e.trans s2.gg) s2.hold _ fun u G3 H3 s3 r3 => ⟨m, n, by rw [show v = .int m from r2, show u = .int n from r3], k _ G3 H3 (s2.trans s3) rfl⟩
end
/-- a draw that hands back a new list -/
def PmDN {τ ι β : Type} [Rp β] (K : PySem.W.Frag) (pot : τ → HO) (C : τ → Hp → Prop) (A : ι → List V → Hp → Prop) (pre : τ → ι → Prop) (y : τ → ι → List β) (n : τ → ι → τ) : Sp :=
  PmN K (fun (i : Addr × τ × ι) vs G => A1 K (Ow.mk i.1) (A i.2.2) vs G ∧ C i.2.1 G) (fun i => [(i.1, pot i.2.1)]) (fun i => pre i.2.1 i.2.2) (fun i => y i.2.1 i.2.2) (fun i => [(i.1, pot (n i.2.1 i.2.2))])
theorem PmDN.does {τ ι β : Type} [Rp β] {K : PySem.W.Frag} {pot : τ → HO} {C : τ → Hp → Prop} {A : ι → List V → Hp → Prop} {pre : τ → ι → Prop} {y : τ → ι → List β} {n : τ → ι → τ} {S : Sto} (j : Nat) (p : Addr) (t : τ) (i : ι) (h : pre t i) (hj : S[j]? = some (p, pot t)) :
    DoesN K (PmDN K pot C A pre y n) (fun vs G => A1 K (Ow.mk p) (A i) vs G ∧ C t G) S (y t i) (S.set j (p, pot (n t i))) := DoesN.frame1 (PmN.does (p, t, i) h) hj
section
variable {X : Cx} {σ : St} {G : Hp} {S S1 S2 : Sto} {e : Expr} {es : List Expr} {pos : Pos}
theorem en_dc {τ ι β : Type} [Rp β] {pot : τ → HO} {C : τ → Hp → Prop} {A : ι → List V → Hp → Prop} {pre : τ → ι → Prop} {y : τ → ι → List β} {n : τ → ι → τ} {q : Addr} (j : Nat) (t : τ) (i : ι) {x : Str} {p : Pos} {ps : List Str} {CX : CXT} {k : Nat}
    (c : Cl X.prog X.w X.K X.mg X.base CX x ps k (PmDN X.K pot C A pre y n)) (hr : Room k X.A) (h : pre t i) (hj : S1[j]? = some (q, pot t)) (hC : ∀ G', Same G G' → C t G')
    (ho : EX X e σ G S (Ow.mk q) S) (ha : EA X es σ G S (A i) S1) {E : XK} (hx : Passes CX X E) (hg : Gl X x := by rfl) (hdb : (x == ("__debug__" : Str)) = false := by decide)
    (hpl : (backTo pos (starEach es X.env)).any (·.1) = false := by rfl) (he : starEach (e :: es) X.env = (false, eval e X.env) :: starEach es X.env := by rfl) : EN X (.Call (.Name x p) (e :: es) [] pos) σ G S (y t i) (S1.set j (q, pot (n t i))) :=
  en_cl c hr (PmDN.does j q t i h hj) (EvA.imp (ea_cons ho ha he) fun vs G' e r => ⟨r, hC G' e⟩) hx hg hdb hpl he
end
/-! ### an owned cell lent as a frozen one -/
theorem Stp.lend {G G1 : Hp} {S : Sto} {H H1 : Hp} {j : Nat} {l : Addr} {o : HO} (hd : Hold G S H) (hj : S[j]? = some (l, o)) (s : Stp (upd G l o) (S.eraseIdx j) H G1 (S.eraseIdx j) H1) : ∃ G2, Stp G S H G2 S H1 := by
  have hl : G l = none := hd.sep l (List.mem_map.mpr ⟨(l, o), List.mem_of_getElem? hj, rfl⟩)
  have hin : ∀ p ∈ S, p.1 ≠ l → p ∈ S.eraseIdx j := fun p hp ne => by
    obtain ⟨i, hi⟩ := List.getElem?_of_mem hp
    have : i ≠ j := by
      rintro rfl
      rw [hi] at hj; cases hj; exact ne rfl
    rw [List.mem_eraseIdx_iff_getElem?]
    exact ⟨i, this, hi⟩
  have hsub : ∀ b, b ∉ dom S → b ∉ dom (S.eraseIdx j) := fun b hb m => by
    obtain ⟨p, hp, rfl⟩ := List.mem_map.mp m
    exact hb (List.mem_map.mpr ⟨p, List.mem_of_mem_eraseIdx hp, rfl⟩)
  classical
  refine ⟨fun b => if b = l then none else G1 b, ⟨⟨fun b u e => ?_, fun p m => ?_, fun a m => ?_, hd.nd, hd.nc, s.hold.tb, fun p m => ?_⟩, fun b u e => ?_, fun b u hb e nt => s.fr b u (hsub b hb) e nt, fun b u g e => ?_, fun b m => .inl m, s.th⟩⟩
  · split at e
    · cases e
    · exact s.hold.ex b u e
  · by_cases q : p.1 = l
    · have e2 := s.hold.ex l o (s.gg l o upd_same)
      obtain ⟨i, hi⟩ := List.getElem?_of_mem m
      obtain ⟨p1, p2⟩ := p
      have q' : p1 = l := q
      subst q'
      have := nodup_key hd.nd hi hj
      subst this
      rw [hi] at hj; cases hj
      exact e2
    · exact s.hold.own p (hin p m q)
  · split
    · rfl
    · rename_i q
      obtain ⟨p, hp, rfl⟩ := List.mem_map.mp m
      exact s.hold.sep _ (List.mem_map.mpr ⟨p, hin p hp q, rfl⟩)
  · split
    · rfl
    · exact s.hold.tg p m
  · have ne : b ≠ l := by rintro rfl; rw [hl] at e; cases e
    rw [if_neg ne]
    exact s.gg b u (by rw [upd_ne ne]; exact e)
  · split
    · rfl
    · rename_i q
      exact s.new b u (by rw [upd_ne q]; exact g) e
/-- a call that only reads an owned cell -/
theorem Does.lend {β : Type} [Sc β] {K : PySem.W.Frag} {sp : Sp} {A A' : List V → Hp → Prop} {y : β} {S : Sto} {l : Addr} {o : HO} (j : Nat) (d : Does K sp A [] y []) (hj : S[j]? = some (l, o)) (hA : ∀ vs G, A' vs G → Same G (upd G l o) → A vs (upd G l o)) : Does K sp A' S y S := fun vs G H Q E hd a k => by
  have hl : G l = none := hd.sep l (List.mem_map.mpr ⟨(l, o), List.mem_of_getElem? hj, rfl⟩)
  have hs : Same G (upd G l o) := fun b u e => by
    have ne : b ≠ l := by rintro rfl; rw [hl] at e; cases e
    rw [upd_ne ne]; exact e
  have hd2 := hd.freeze hj
  refine d vs (upd G l o) H Q E hd2.none (hA vs G a hs) fun v G1 H1 s r => ?_
  obtain ⟨G2, s2⟩ := Stp.lend hd hj (s.frame0 hd2)
  exact k v G2 H1 s2 (Sc.rp_iff.mpr (Sc.rp_iff.mp r))
section
variable {X : Cx} {σ : St} {G : Hp} {S S1 S2 : Sto} {e : Expr} {es : List Expr} {pos : Pos}
/-- a draw from a new pot that is dropped at once -/
theorem en_dcF {τ ι β γ : Type} [Rp β] [Sc γ] {xs : List γ} {pot : τ → HO} {C : τ → Hp → Prop} {A : ι → List V → Hp → Prop} {pre : τ → ι → Prop} {y : τ → ι → List β} {n : τ → ι → τ} (t : τ) (i : ι) {x : Str} {p : Pos} {ps : List Str} {CX : CXT} {k : Nat}
    (c : Cl X.prog X.w X.K X.mg X.base CX x ps k (PmDN X.K pot C A pre y n)) (hr : Room k X.A) (h : pre t i) (hpot : pot t = .lst (xs.map toV)) (hC : ∀ G', C t G')
    (ho : EN X e σ G S xs S1) (ha : ∀ q, EA X es σ G ((q, pot t) :: S1) (A i) ((q, pot t) :: S2)) {E : XK} (hx : Passes CX X E) (hg : Gl X x := by rfl) (hdb : (x == ("__debug__" : Str)) = false := by decide)
    (hpl : (backTo pos (starEach es X.env)).any (·.1) = false := by rfl) (he : starEach (e :: es) X.env = (false, eval e X.env) :: starEach es X.env := by rfl) : EN X (.Call (.Name x p) (e :: es) [] pos) σ G S (y t i) S2 :=
  EvN.to (pe_call c.ok hr hg c.hm c.hk c.hb .nil hx (pa_cons (pE e) (pA es) he) (hdb := hdb) (he := he) (hpl := hpl)) fun G1 H eg hd Q q => ho G1 H eg hd _ fun l us G2 H2 hl s2 r2 => by
    have eus := Its.sc r2
    subst eus
    rw [← hpot] at s2
    exact ha l G2 H2 (eg.trans s2.gg) s2.hold _ fun vs G3 H3 s3 r3 => by
      show PmDN X.K pot C A pre y n ((.ref l :: vs) ++ []) H3 Q E
      rw [List.append_nil]
      exact PmDN.does (S := (l, pot t) :: S2) 0 l t i h rfl (.ref l :: vs) G3 H3 Q E s3.hold ⟨⟨.ref l, vs, rfl, rfl, r3⟩, hC _⟩ fun b us G4 H4 hb s4 r4 => q b us G4 H4 (stp_new (s2.trans s3) hb) (((s2.trans s3).trans s4).reorder (fun z m => by
        rcases List.mem_cons.mp m with e | m
        · exact e ▸ List.mem_cons_self
        · exact List.mem_cons_of_mem _ (List.mem_cons_of_mem _ m)) (by
        have nd := s4.hold.nd
        obtain ⟨n1, n2⟩ := List.nodup_cons.mp nd
        obtain ⟨_, n3⟩ := List.nodup_cons.mp n2
        exact List.nodup_cons.mpr ⟨fun m => n1 (List.mem_cons_of_mem _ m), n3⟩)) r4
theorem ex_dcF {τ ι β γ : Type} [Rp β] [Sc γ] {xs : List γ} {pot : τ → HO} {C : τ → Hp → Prop} {A : ι → List V → Hp → Prop} {pre : τ → ι → Prop} {y : τ → ι → β} {n : τ → ι → τ} (t : τ) (i : ι) {x : Str} {p : Pos} {ps : List Str} {CX : CXT} {k : Nat}
    (c : Cl X.prog X.w X.K X.mg X.base CX x ps k (PmD X.K pot C A pre y n)) (hr : Room k X.A) (h : pre t i) (hpot : pot t = .lst (xs.map toV)) (hC : ∀ G', C t G')
    (ho : EN X e σ G S xs S1) (ha : ∀ q, EA X es σ G ((q, pot t) :: S1) (A i) ((q, pot t) :: S2)) {E : XK} (hx : Passes CX X E) (hg : Gl X x := by rfl) (hdb : (x == ("__debug__" : Str)) = false := by decide)
    (hpl : (backTo pos (starEach es X.env)).any (·.1) = false := by rfl) (he : starEach (e :: es) X.env = (false, eval e X.env) :: starEach es X.env := by rfl) : EX X (.Call (.Name x p) (e :: es) [] pos) σ G S (y t i) S2 :=
  Ev.to (pe_call c.ok hr hg c.hm c.hk c.hb .nil hx (pa_cons (pE e) (pA es) he) (hdb := hdb) (he := he) (hpl := hpl)) fun G1 H eg hd Q q => ho G1 H eg hd _ fun l us G2 H2 hl s2 r2 => by
    have eus := Its.sc r2
    subst eus
    rw [← hpot] at s2
    exact ha l G2 H2 (eg.trans s2.gg) s2.hold _ fun vs G3 H3 s3 r3 => by
      show PmD X.K pot C A pre y n ((.ref l :: vs) ++ []) H3 Q E
      rw [List.append_nil]
      exact PmD.does (S := (l, pot t) :: S2) 0 l t i h rfl (.ref l :: vs) G3 H3 Q E s3.hold ⟨⟨.ref l, vs, rfl, rfl, r3⟩, hC _⟩ fun v G4 H4 s4 r4 => q v G4 H4 (((s2.trans s3).trans s4).reorder (fun z m => List.mem_cons_of_mem _ m) (by
        obtain ⟨_, n2⟩ := List.nodup_cons.mp s4.hold.nd
        exact n2)) r4
end
/-! ### defs whose code object is known by its address -/
structure FunC (K : PySem.W.Frag) (x qual : Str) (st : Stmt) (f : Addr) (fd : FuncData) (c : Addr) : Prop where
  ex : ∃ (oc : Value) (od : Option Addr) (kV doc pm : Value) (an : Option Addr) (ct : Value) (osl : Array (Option Value)),
    fd = PySem.W.fnOf x qual (defArgs st) (defBody st) (defScope st) .none kV doc pm an (.ref c) ct ∧ K.lookup f = some ⟨oc, od, .func fd, osl⟩ ∧ PySem.W.codeIn K (.ref c) qual = true
section
variable {P : Program} {w : World} {K : PySem.W.Frag} {mg : Str → Option Value} {base : Heap}
theorem fn_pmXNC {ι β : Type} [Rp β] {A : ι → List V → Hp → Prop} {S : ι → Sto} {pre : ι → Prop} {y : ι → Except Er (List β)} {S' : ι → Sto} {x qual : Str} {st : Stmt} {f c : Addr} {fd : FuncData} {N ps : List Str} {k : Nat}
    (F : FunC K x qual st f fd c) (sc : FnScope N ps (defScope st)) (len : ∀ i vs G, A i vs G → vs.length = ps.length)
    (h : ∀ (A' : Around) (outer : List Env) (s : Shared) (H : Hp) (vs : List V) (Q : VK) (E : XK) (i : ι) (G : Hp), Room k (A'.deeper (envOfC qual (defScope st) s.heap.objs.size f (.ref c))) → pre i → A i vs G → (∀ y0, y i = .ok y0 → KqN K ⟨G, S i, H⟩ y0 (S' i) Q) → (∀ er, y i = .error er → KqE ⟨G, S i, H⟩ er (S' i) E) →
      At ⟨G, S i, H⟩ (cB (cxOf (L2.CX P w) P w K mg base N qual (defScope st) f (.ref c) A' outer s H E) (defBody st) { nx := fun _ H' => Q .non H', rt := Q }) (start N vs) G (S i)) :
    FnOk P w K mg base (L2.CX P w) (k + 1) f fd ps (PmXN K A S pre y S') := by
  obtain ⟨oc, od, kV, doc, pm, an, ct, osl, rfl, lk, hcd⟩ := F.ex
  refine fn_of lk hcd sc (fun vs H Q E ⟨i, G, _, a, _⟩ => len i vs G a) fun A' outer s H vs Q E hr ⟨i, G, hd, a, hp, k1, k2⟩ => ?_
  exact ⟨cB _ _, pB _, at_start hd (h A' outer s H vs Q E i G hr hp a (fun y0 e q us G1 H1 hq s r => k1 y0 e q us G1 H1 hq s r) (fun er e dd G1 H1 s r => k2 er e dd G1 H1 s r))⟩
end
end Gx

-- part GErrEnd
set_option Elab.async false
set_option linter.all false
set_option maxRecDepth 100000
set_option maxHeartbeats 1000000
/-! The facts of an own error class, one by one (for the end of a law). -/
namespace PySem
namespace ErrX
open PySem.W PySem.Calls PyProof.Rows PySem.HandSPX
theorem errTxt_mk {P : Program} {K : Frag} {C fI cda cc : Addr} {nm x qn txt file : Str} {j : Nat} {p1 p2 a1 a2 a3 a4 a5 a6 q1 q2 q3 q4 : Pos} {od an cdd cld : Option Addr} {osl ccs csl : Array (Option Value)} {oc kV doc pm ct ccl cl : Value} {vs : Array Value} {tf : Tok}
    (cls : ∃ nm q N bs bm sn sub ab col dd k0 k1 k2 k3 k5, K.lookup C = some (excClassObj nm q C N bs bm true sn sub ab col dd k0 k1 k2 k3 k5 "ValueError.__new__") ∧ refsVE bm = true)
    (sa : findIn K (.ref C) "__setattr__" = some (some (.builtin "object.__setattr__")))
    (ga : findIn K (.ref C) "__getattribute__" = some (some (.builtin "BaseException.__getattribute__")))
    (gg : findIn K (.ref C) "__getattr__" = some none)
    (noN : findIn K (.ref C) x = some none)
    (iC : findIn K (.ref C) "__init__" = some (some (.ref fI)))
    (tC : typeIn K (.ref fI) = some (.type "function"))
    (kC : keepIn K (.ref C) = true)
    (exC : subIn K (.ref C) (.type "BaseException") = some true)
    (veC : subIn K (.ref C) (.type "ValueError") = some true)
    (tyC : typeIn K (.ref C) = some (.type "type"))
    (hdC : hasDictIn K C = true)
    (te : exmOne K (.ref C) (.ref C) = some true)
    (mro : mroIn K C (.ref C) = some true)
    (sup : ks_superIn K C C "__init__" = some (some (.builtin "ValueError.__init__")))
    (any : nsIn K cStatics "thirdparty.any" = some none)
    (sg : nsIn K mainGlobals "super" = some none)
    (top : (P.main.scope.names.lookup ("super" : Str)).isSome = false)
    (ok : OkName x)
    (eF : K.lookup fI = some ⟨oc, od, .func (fnX "__init__" qn (iA x p1 p2) (iB x txt j a1 a2 a3 a4 a5 a6 q1 q2 q3 q4) (iS x) [("__class__", cc)] .none kV doc pm an (.ref cda) ct), osl⟩)
    (hq : qn = nm ++ ".__init__") (eK : codeIn K (.ref cda) qn = true)
    (eD : K.lookup cda = some ⟨ccl, cdd, .fields vs, ccs⟩) (eV : vs[2]? = some (.str file tf)) (eM : ((P.main.file : Str) == file) = true)
    (eX : K.lookup cc = some ⟨cl, cld, .cell (some (.ref C)), csl⟩)
    (eS : SupEval txt j a1 a2 a3 a4 a5) (eT : txt.length ≤ sizeLine)
    (eB : ∀ a b : Value, bindArgs (fnX "__init__" qn (iA x p1 p2) (iB x txt j a1 a2 a3 a4 a5 a6 q1 q2 q3 q4) (iS x) [("__class__", cc)] .none kV doc pm an (.ref cda) ct) ⟨[a, b], []⟩ = pure [(("self" : Str), a), (x, b)]) :
    ErrTxt P K C fI nm x := by
  subst hq
  exact ⟨cls, sa, ga, gg, noN, iC, tC, kC, exC, veC, tyC, hdC, te, mro, sup, any, sg, top, ok, ⟨oc, od, kV, doc, pm, an, cda, cc, ct, osl, txt, j, p1, p2, a1, a2, a3, a4, a5, a6, q1, q2, q3, q4, eF, eK, ⟨ccl, cdd, vs, ccs, file, tf, eD, eV, eM⟩, ⟨cl, cld, csl, eX⟩, eS, eT, eB⟩⟩
end ErrX
end PySem
namespace PySem
namespace ErrX
open PySem.W PySem.Calls PyProof.Rows PySem.HandSPX
/-- the class object of an own error -/
abbrev ErrCls (K : Frag) (C : Addr) : Prop := ∃ nm q N bs bm sn sub ab col dd k0 k1 k2 k3 k5, K.lookup C = some (excClassObj nm q C N bs bm true sn sub ab col dd k0 k1 k2 k3 k5 "ValueError.__new__") ∧ refsVE bm = true
theorem errCls_mk {K : Frag} {C N : Addr} {nm q : Str} {bs bm sub : List Value} {sn : List Str} {ab : Bool} {col : Option Bool} {dd : Option Addr} {k0 k1 k2 k3 k5 : Option Value} (h : K.lookup C = some (excClassObj nm q C N bs bm true sn sub ab col dd k0 k1 k2 k3 k5 "ValueError.__new__")) (h2 : refsVE bm = true) : ErrCls K C := ⟨_, _, _, _, _, _, _, _, _, _, _, _, _, _, _, h, h2⟩
end ErrX
end PySem

-- part K17a
set_option Elab.async false
set_option linter.all false
set_option maxRecDepth 100000
set_option maxHeartbeats 4000000
namespace K17
open PySem L2 Gx
open Rp (rp)
open Sc (toV)
abbrev St := L2.St
def top (i : Nat) : Stmt := PySem.Challenge.pw_everyparcel_k17_share_out_by_remainders.main.body.getD i (.Pass ⟨0, 0, 0, 0⟩)
abbrev sShare : Stmt := top 11
abbrev sCell : Stmt := top 13
abbrev sBox : Stmt := top 14
abbrev sDraw : Stmt := top 15
abbrev sWeights : Stmt := top 16
abbrev sTotal : Stmt := top 17
abbrev sIsInt : Stmt := top 18
abbrev sBefore : Stmt := top 19
abbrev sFair : Stmt := top 20
abbrev sRefused : Stmt := top 21
abbrev sLaw : Stmt := top 22
structure Txt (K : PySem.W.Frag) (mg : Str → Option Value) : Prop where
  len : mg "len" = none
  int : mg "int" = none
  sum : mg "sum" = none
  list : mg "list" = none
  range : mg "range" = none
  isinstance : mg "isinstance" = none
  abs : mg "abs" = none
  any : mg "any" = none
  sorted : mg "sorted" = none
  str : mg "str" = none
  bool : mg "bool" = none
/-! ### the box -/
structure Bx where
  q : Int
  a : Int
  b : Int
  n : Int
def bxL (t : Bx) : List Int := [t.q, t.a, t.b, t.n]
def bxO (t : Bx) : HO := .lst [.int t.q, .int t.a, .int t.b, .int t.n]
abbrev bxC (t : Bx) : Hp → Prop := fun _ => True
def cell (ns : List Int) (k : Int) : Int := bif decide (k < (ns.length : Int)) then ns.getD k.toNat 0 else (cutL ns none (some 2)).sum % 1000003 + 7919 * (k + 1)
def boxV (i : List Int × Int) : Bx := ⟨bif decide (10 ^ (18 : Int).toNat ≤ cell i.1 i.2) then cell i.1 i.2 else 0, cell i.1 i.2 % 2147483629, cell i.1 i.2 / 7 % 2147483549, 0⟩
def da (t : Bx) : Int := (t.a * 48271 + (t.n + 1) * 7919 + 12345) % 2147483629
def db (t : Bx) : Int := (t.b * 40692 + da t / 5 + (t.n + 1)) % 2147483549
def drV (t : Bx) (m : Int) : Int := bif decide (m < 2) then 0 else bif decide (0 < t.q) then t.q % m else (da t + db t) % m
def drN (t : Bx) (m : Int) : Bx := bif decide (m < 2) then t else bif decide (0 < t.q) then ⟨t.q / m, t.a, t.b, t.n⟩ else ⟨t.q, da t, db t, t.n + 1⟩
theorem drV_lt {t : Bx} {m : Int} (h : 0 < m) : 0 ≤ drV t m ∧ drV t m < m := by
  unfold drV
  cases q : decide (m < 2)
  · have q := of_decide_eq_false q
    cases decide (0 < t.q)
    · exact ⟨Int.emod_nonneg _ (by omega), Int.emod_lt_of_pos _ h⟩
    · exact ⟨Int.emod_nonneg _ (by omega), Int.emod_lt_of_pos _ h⟩
  · exact ⟨Int.le_refl 0, h⟩
theorem drV_nn (t : Bx) (m : Int) : 0 ≤ drV t m := by
  by_cases h : 0 < m
  · exact (drV_lt h).1
  · unfold drV
    rw [decide_eq_true (show m < 2 by omega)]
    exact Int.le_refl 0
theorem log_m {m : Int} (h : 2 ≤ m ∧ m ≤ 1000000000000000000) : CDivW 0 m := by
  refine ⟨by omega, ?_⟩
  have : m.natAbs < 2 ^ 9000 := by
    have h1 : m.natAbs ≤ 1000000000000000000 := by omega
    exact Nat.lt_of_le_of_lt h1 (by decide +kernel)
  exact (Nat.log2_lt (by omega)).mpr this
variable [Tb]
abbrev spCell (K : PySem.W.Frag) : Sp := Pm K (fun (i : List Int × Int) => A1 K (Scr.mk i.1) (A1 K i.2 A0)) (fun _ => []) (fun i => 0 ≤ i.2 ∧ i.2 < 100) (fun i => cell i.1 i.2) (fun _ => [])
abbrev spBox (K : PySem.W.Frag) : Sp := PmN K (fun (i : List Int × Int) => A1 K (Scr.mk i.1) (A1 K i.2 A0)) (fun _ => []) (fun i => 0 ≤ i.2 ∧ i.2 < 100) (fun i => bxL (boxV i)) (fun _ => [])
abbrev spDraw (K : PySem.W.Frag) : Sp := PmD (ι := Int) K bxO bxC (fun m => A1 K m A0) (fun _ m => m ≤ 1000000000000000000) drV drN
section
variable {P : Program} {w : World} {K : PySem.W.Frag} {mg : Str → Option Value} {base : Heap}
theorem sc_cell : FnScope ["script", "k"] ["script", "k"] (defScope sCell) := ⟨rfl, rfl, rfl, by decide +kernel, rfl, by decide +kernel, by decide +kernel⟩
theorem len2 {α β : Type} [Rp α] [Rp β] {x : α} {y : β} {vs : List V} {G : Hp} (h : A1 K x (A1 K y A0) vs G) : vs.length = 2 := by
  obtain ⟨_, _, e, _, _, _, e2, _, e3⟩ := h
  have e3 : _ = [] := e3
  subst e e2 e3; rfl
theorem len1 {α : Type} [Rp α] {x : α} {vs : List V} {G : Hp} (h : A1 K x A0 vs G) : vs.length = 1 := by
  obtain ⟨_, _, e, _, e3⟩ := h
  have e3 : _ = [] := e3
  subst e e3; rfl
theorem ok_cell {f : Addr} {fd : FuncData} (F : Fun K "_law_cell" "_law_cell" sCell f fd) (T : Txt K mg) : FnOk P w K mg base CX0 1 f fd ["script", "k"] (spCell K) := by
  refine fn_pm F sc_cell (fun i vs G h => len2 h) fun cdv A' outer s H vs Q E ⟨ns, k⟩ G hr pre ⟨v, _, e, hs, _, _, e2, hk, e3⟩ kq => ?_
  have e3 : _ = [] := e3
  subst e e2 e3
  obtain rfl : _ = V.int k := hk
  refine b_when (et_lt (ex_nm 1 rfl) (ex_len (Ev.scr (ex_var 0 rfl hs)) T.len)) (fun q => ?_) (fun q => ?_)
  · refine b_retq kq (ex_ix (x := ns.getD k.toNat 0) (Ev.scr (ex_var 0 rfl hs)) (ex_nm 1 rfl) (atI_get 0 pre.1 (of_decide_eq_true q))) ?_
    unfold cell; dsimp only; rw [q]; rfl
  · refine b_retq kq (ex_add (ex_mod (ex_sum rfl (EvN.lv (en_slice po_none (po_some (pE _)) (Ev.scr (ex_var 0 rfl hs)) (fun _ => eo_none) (fun _ => eo_some ex_int))) T.sum) ex_int (by decide)) (ex_mulS ex_int (ex_add (ex_nm 1 rfl) ex_int) (.inl ⟨by decide, by decide⟩))) ?_
    unfold cell; dsimp only; rw [q]; rfl
abbrev CCell (P : Program) (w : World) (K : PySem.W.Frag) (mg : Str → Option Value) (base : Heap) := Cl P w K mg base CX0 "_law_cell" ["script", "k"] 1 (spCell K)
theorem sc_box : FnScope ["script", "k", "cell", "rest"] ["script", "k"] (defScope sBox) := ⟨rfl, rfl, rfl, by decide +kernel, rfl, by decide +kernel, by decide +kernel⟩
theorem ok_box {f : Addr} {fd : FuncData} (F : Fun K "_law_box" "_law_box" sBox f fd) (T : Txt K mg) (C : CCell P w K mg base) : FnOk P w K mg base CX0 2 f fd ["script", "k"] (spBox K) := by
  refine fn_pmN F sc_box (fun i vs G h => len2 h) fun cdv A' outer s H vs Q E ⟨ns, k⟩ G hr pre ⟨v, _, e, hs, _, _, e2, hk, e3⟩ kq => ?_
  have e3 : _ = [] := e3
  subst e e2 e3
  obtain rfl : _ = V.int k := hk
  refine b_setS (x := cell ns k) 2 (ex_toInt (ex_cl C hr (Pm.does (ns, k) pre) (ea_cons (ex_var 0 rfl hs) (ea_cons (ex_nm 1 rfl) ea_nil)) pass0) T.int) ?_ sc_box.nd
  refine b_setS (x := (0 : Int)) 3 ex_int ?_ sc_box.nd
  refine b_cut (fun σ G1 S1 => ∃ c, c = (bif decide (10 ^ (18 : Int).toNat ≤ cell ns k) then cell ns k else 0) ∧ σ = [some v, some (.int k), some (.int (cell ns k)), some (.int c)] ∧ G1 = G ∧ S1 = []) ?_ ?_
  · refine s_if (k := decide (10 ^ (18 : Int).toNat ≤ cell ns k)) (et_ge (ex_nm (x := cell ns k) 2 rfl) (ex_pow ex_int ex_int ⟨by decide, by decide, by decide⟩)) (fun q => ?_) (fun q => ?_)
    · refine b_setS (x := cell ns k) 3 (ex_nm 2 rfl) (b_nil (at_cut ⟨_, ?_, rfl, rfl, rfl⟩)) sc_box.nd
      rw [q]; rfl
    · refine b_nil (at_cut ⟨_, ?_, rfl, rfl, rfl⟩)
      rw [q]; rfl
  · rintro σ1 G1 S1 ⟨c, hc, rfl, rfl, rfl⟩
    exact b_retL (x := [c, cell ns k % 2147483629, cell ns k / 7 % 2147483549, 0]) kq (en_lst (ei_cons (ex_nm 3 rfl) (ei_cons (ex_mod (ex_toInt (ex_nm (x := cell ns k) 2 rfl) T.int) ex_int (by decide)) (ei_cons (ex_mod (ex_toInt (ex_div (ex_nm (x := cell ns k) 2 rfl) ex_int ⟨by decide, by decide +kernel⟩) T.int) ex_int (by decide)) (ei_cons ex_int ei_nil)))) (by show 4 ≤ 100000; decide)) (by rw [hc]; rfl)
theorem sc_draw : FnScope ["box", "size", "digit"] ["box", "size"] (defScope sDraw) := ⟨rfl, rfl, rfl, by decide +kernel, rfl, by decide +kernel, by decide +kernel⟩
theorem ok_draw {f : Addr} {fd : FuncData} (F : Fun K "_law_draw" "_law_draw" sDraw f fd) (T : Txt K mg) : FnOk P w K mg base CX0 1 f fd ["box", "size"] (spDraw K) := by
  refine fn_pm F sc_draw (fun i vs G h => len2 h.1) fun cdv A' outer s H vs Q E ⟨a, t, m⟩ G hr hm h kq => ?_
  obtain ⟨⟨_, _, e, ha, _, _, e2, hmm, e3⟩, _⟩ := h
  have e3 : _ = [] := e3
  subst e e2 e3
  obtain rfl : _ = V.ref a := ha
  obtain rfl : _ = V.int m := hmm
  dsimp only at hm kq ⊢
  have ho : ∀ {σ : St} {S : Sto} {G' : Hp} {Xx : Cx}, True := trivial
  refine b_when (et_lt (ex_nm (x := m) 1 rfl) ex_int) (fun q => ?_) (fun q => ?_)
  · exact b_retQ kq ex_int (by unfold drV; rw [q]; rfl) (by unfold drN; rw [q]; rfl)
  have q0 := of_decide_eq_false q
  have hd : CDivW 0 m := log_m ⟨by omega, hm⟩
  refine b_when (k := decide (0 < t.q)) (et_gt (ex_cell (x := t.q) 0 (ex_nm (x := Ow.mk a) 0 rfl) ex_int rfl rfl) ex_int) (fun z => ?_) (fun z => ?_)
  · refine b_setS (x := t.q % m) 2 (ex_mod (ex_toInt (ex_cell (x := t.q) 0 (ex_nm (x := Ow.mk a) 0 rfl) ex_int rfl rfl) T.int) (ex_nm 1 rfl) (by omega)) ?_ sc_draw.nd
    refine b_setixS (x := t.q / m) 0 (ex_div (ex_cell (x := t.q) 0 (ex_nm (x := Ow.mk a) 0 rfl) ex_int rfl rfl) (ex_nm 1 rfl) hd) (fun _ => ex_nm (x := Ow.mk a) 0 rfl) (fun _ => ex_int) rfl rfl ?_
    exact b_retQ kq (ex_nm (x := t.q % m) 2 rfl) (by unfold drV; rw [q, z]; rfl) (by unfold drN; rw [q, z]; rfl)
  · refine b_setixS (x := t.n + 1) 0 (ex_add (ex_cell (x := t.n) 0 (ex_nm (x := Ow.mk a) 0 rfl) ex_int rfl rfl) ex_int) (fun _ => ex_nm (x := Ow.mk a) 0 rfl) (fun _ => ex_int) rfl rfl ?_
    refine b_setixS (x := da t) 0 (ex_mod (ex_toInt (ex_add (ex_add (ex_mulS (ex_cell (x := t.a) 0 (ex_nm (x := Ow.mk a) 0 rfl) ex_int rfl rfl) ex_int (.inr (by decide))) (ex_mulS (ex_cell (x := t.n + 1) 0 (ex_nm (x := Ow.mk a) 0 rfl) ex_int rfl rfl) ex_int (.inr (by decide)))) ex_int) T.int) ex_int (by decide)) (fun _ => ex_nm (x := Ow.mk a) 0 rfl) (fun _ => ex_int) rfl rfl ?_
    refine b_setixS (x := db t) 0 (ex_mod (ex_toInt (ex_add (ex_add (ex_mulS (ex_cell (x := t.b) 0 (ex_nm (x := Ow.mk a) 0 rfl) ex_int rfl rfl) ex_int (.inr (by decide))) (ex_div (ex_cell (x := da t) 0 (ex_nm (x := Ow.mk a) 0 rfl) ex_int rfl rfl) ex_int ⟨by decide, by decide +kernel⟩)) (ex_cell (x := t.n + 1) 0 (ex_nm (x := Ow.mk a) 0 rfl) ex_int rfl rfl)) T.int) ex_int (by decide)) (fun _ => ex_nm (x := Ow.mk a) 0 rfl) (fun _ => ex_int) rfl rfl ?_
    exact b_retQ kq (x := (da t + db t) % m) (ex_mod (ex_toInt (ex_add (ex_cell (x := da t) 0 (ex_nm (x := Ow.mk a) 0 rfl) ex_int rfl rfl) (ex_cell (x := db t) 0 (ex_nm (x := Ow.mk a) 0 rfl) ex_int rfl rfl)) T.int) (ex_nm 1 rfl) (by omega)) (by unfold drV; rw [q, z]; rfl) (by unfold drN; rw [q, z]; rfl)
/-! ### weights, total -/
abbrev CD (P : Program) (w : World) (K : PySem.W.Frag) (mg : Str → Option Value) (base : Heap) := Cl P w K mg base CX0 "_law_draw" ["box", "size"] 1 (spDraw K)
def drL (t : Bx) (m : Int) (n : Int) : List Int × Bx := mapS (fun t (_ : Int) => drV t m) (fun t _ => drN t m) t (rgU n)
def wSize (t : Bx) : Int × Bx := bif decide (drV (drN t 8) 8 = 1) then (20 + drV (drN (drN t 8) 8) 41, drN (drN (drN t 8) 8) 41) else (drV t 8, drN (drN t 8) 8)
def weightsX (t : Bx) : List Int × Bx :=
  let n := (wSize t).1; let u := (wSize t).2; let way := drV u 5; let v := drN u 5
  bif decide (way < 2) then drL v 4 n else bif decide (way = 2) then drL v 1000000000000 n else bif decide (way = 3) then ((rgU n).map (fun _ => drV v 1000000000), drN v 1000000000)
  else ((rgU n).map (fun k => drV (drN v n) 1000000 * (if decide (k = drV v n) = true then 1 else 0)), drN (drN v n) 1000000)
def wsOk (ws : List Int) : Prop := ws.length ≤ 60 ∧ ∀ x ∈ ws, 0 ≤ x ∧ x < 1000000000000
theorem rgU_len {n : Int} : (rgU n).length = n.toNat := by unfold rgU; rw [List.length_map, List.length_range]
theorem wSize_ok (t : Bx) : 0 ≤ (wSize t).1 ∧ (wSize t).1 ≤ 60 := by
  unfold wSize
  have h1 := drV_lt (t := drN (drN t 8) 8) (m := 41) (by decide)
  have h2 := drV_lt (t := t) (m := 8) (by decide)
  cases decide (drV (drN t 8) 8 = 1)
  · exact ⟨h2.1, by show drV t 8 ≤ 60; omega⟩
  · exact ⟨by show 0 ≤ 20 + _; omega, by show 20 + _ ≤ 60; omega⟩
theorem drL_ok {t : Bx} {m n : Int} (hm : 0 < m ∧ m ≤ 1000000000000) (hn : n ≤ 60) : wsOk (drL t m n).1 := by
  have h := mapS_all (f := fun t (_ : Int) => drV t m) (n := fun t _ => drN t m) (P := fun _ => True) (R := fun x => 0 ≤ x ∧ x < m) (rgU n) t trivial fun t x _ _ => ⟨drV_lt hm.1, trivial⟩
  refine ⟨?_, fun x m => ?_⟩
  · have := h.2.2
    unfold drL
    rw [this, rgU_len]; omega
  · have := h.1 x m
    omega
theorem weights_ok (t : Bx) : wsOk (weightsX t).1 := by
  unfold weightsX
  dsimp only
  have hn := wSize_ok t
  have h3 := drV_lt (t := drN (wSize t).2 5) (m := 1000000000) (by decide)
  have h4 := drV_lt (t := drN (drN (wSize t).2 5) (wSize t).1) (m := 1000000) (by decide)
  cases decide (drV (wSize t).2 5 < 2)
  · cases decide (drV (wSize t).2 5 = 2)
    · cases decide (drV (wSize t).2 5 = 3)
      · refine ⟨by show (List.map _ _).length ≤ 60; rw [List.length_map, rgU_len]; omega, fun x m => ?_⟩
        obtain ⟨k, _, rfl⟩ := List.mem_map.mp m
        split <;> omega
      · refine ⟨by show (List.map _ _).length ≤ 60; rw [List.length_map, rgU_len]; omega, fun x m => ?_⟩
        obtain ⟨k, _, rfl⟩ := List.mem_map.mp m
        omega
    · exact drL_ok (by decide) hn.2
  · exact drL_ok (by decide) hn.2
def totalX (i : Bx × Int) : Int × Bx :=
  let t := i.1; let way := drV t 4; let u := drN t 4
  bif decide (way = 0) then (drV u 4, drN u 4) else bif decide (way = 1) then (drV u 100, drN u 100) else bif decide (way = 2) then (drV u 1000000000000000, drN u 1000000000000000) else (i.2 * drV u 5 + drV (drN u 5) 3, drN (drN u 5) 3)
theorem total_ok {t : Bx} {x : Int} (h : 0 ≤ x ∧ x ≤ 60000000000000) : 0 ≤ (totalX (t, x)).1 ∧ (totalX (t, x)).1 ≤ 1000000000000000 := by
  unfold totalX
  dsimp only
  have h1 := drV_lt (t := drN t 4) (m := 4) (by decide)
  have h2 := drV_lt (t := drN t 4) (m := 100) (by decide)
  have h3 := drV_lt (t := drN t 4) (m := 1000000000000000) (by decide)
  have h4 := drV_lt (t := drN t 4) (m := 5) (by decide)
  have h5 := drV_lt (t := drN (drN t 4) 5) (m := 3) (by decide)
  have h6 : 0 ≤ x * drV (drN t 4) 5 := Int.mul_nonneg h.1 h4.1
  have h7 : x * drV (drN t 4) 5 ≤ 60000000000000 * 4 := Int.mul_le_mul h.2 (by omega) h4.1 (by decide)
  cases decide (drV t 4 = 0) <;> cases decide (drV t 4 = 1) <;> cases decide (drV t 4 = 2) <;> simp only [cond_true, cond_false] <;> omega
abbrev AU (K : PySem.W.Frag) : Unit → List V → Hp → Prop := fun _ => A0
abbrev spWeights (K : PySem.W.Frag) : Sp := PmDN (ι := Unit) K bxO bxC (AU K) (fun _ _ => True) (fun t _ => (weightsX t).1) (fun t _ => (weightsX t).2)
abbrev spTotal (K : PySem.W.Frag) : Sp := PmD (ι := Int) K bxO bxC (fun m => A1 K m A0) (fun _ m => 0 ≤ m ∧ m ≤ 60000000000000) (fun t m => (totalX (t, m)).1) (fun t m => (totalX (t, m)).2)
theorem sc_total : FnScope ["box", "whole", "way"] ["box", "whole"] (defScope sTotal) := ⟨rfl, rfl, rfl, by decide +kernel, rfl, by decide +kernel, by decide +kernel⟩
theorem ok_total {f : Addr} {fd : FuncData} (F : Fun K "_law_total" "_law_total" sTotal f fd) (D : CD P w K mg base) : FnOk P w K mg base CX0 2 f fd ["box", "whole"] (spTotal K) := by
  refine fn_pm F sc_total (fun i vs G h => len2 h.1) fun cdv A' outer s H vs Q E ⟨a, t, m⟩ G hr hm h kq => ?_
  obtain ⟨⟨_, _, e, ha, _, _, e2, hmm, e3⟩, _⟩ := h
  have e3 : _ = [] := e3
  subst e e2 e3
  obtain rfl : _ = V.ref a := ha
  obtain rfl : _ = V.int m := hmm
  dsimp only at hm kq ⊢
  refine b_setS (x := drV t 4) 2 (ex_dc 0 t 4 D hr (by decide) rfl (fun _ _ => trivial) (ex_nm (x := Ow.mk a) 0 rfl) (ea_cons ex_int ea_nil) pass0) ?_ sc_total.nd
  refine b_when (et_eq (ex_nm (x := drV t 4) 2 rfl) ex_int) (fun q0 => ?_) (fun q0 => ?_)
  · exact b_retQ kq (ex_dc 0 (drN t 4) 4 D hr (by decide) rfl (fun _ _ => trivial) (ex_nm (x := Ow.mk a) 0 rfl) (ea_cons ex_int ea_nil) pass0) (by unfold totalX; dsimp only; rw [q0]; rfl) (by unfold totalX; dsimp only; rw [q0]; rfl)
  refine b_when (et_eq (ex_nm (x := drV t 4) 2 rfl) ex_int) (fun q1 => ?_) (fun q1 => ?_)
  · exact b_retQ kq (ex_dc 0 (drN t 4) 100 D hr (by decide) rfl (fun _ _ => trivial) (ex_nm (x := Ow.mk a) 0 rfl) (ea_cons ex_int ea_nil) pass0) (by unfold totalX; dsimp only; rw [q0, q1]; rfl) (by unfold totalX; dsimp only; rw [q0, q1]; rfl)
  refine b_when (et_eq (ex_nm (x := drV t 4) 2 rfl) ex_int) (fun q2 => ?_) (fun q2 => ?_)
  · exact b_retQ kq (ex_dc 0 (drN t 4) 1000000000000000 D hr (by decide) rfl (fun _ _ => trivial) (ex_nm (x := Ow.mk a) 0 rfl) (ea_cons (Ev.is (ex_pow ex_int ex_int ⟨by decide, by decide, by decide⟩) (by decide)) ea_nil) pass0) (by unfold totalX; dsimp only; rw [q0, q1, q2]; rfl) (by unfold totalX; dsimp only; rw [q0, q1, q2]; rfl)
  · exact b_retQ kq (ex_add (ex_mulS (ex_nm (x := m) 1 rfl) (ex_dc 0 (drN t 4) 5 D hr (by decide) rfl (fun _ _ => trivial) (ex_nm (x := Ow.mk a) 0 rfl) (ea_cons ex_int ea_nil) pass0) (.inl ⟨by omega, by omega⟩)) (ex_dc 0 (drN (drN t 4) 5) 3 D hr (by decide) rfl (fun _ _ => trivial) (ex_nm (x := Ow.mk a) 0 rfl) (ea_cons ex_int ea_nil) pass0)) (by unfold totalX; dsimp only; rw [q0, q1, q2]; rfl) (by unfold totalX; dsimp only; rw [q0, q1, q2]; rfl)
end
end K17

-- part K17b
set_option Elab.async false
set_option linter.all false
set_option maxRecDepth 100000
set_option maxHeartbeats 4000000
namespace K17
open PySem L2 Gx
open Rp (rp)
open Sc (toV)
variable [Tb]
section
variable {P : Program} {w : World} {K : PySem.W.Frag} {mg : Str → Option Value} {base : Heap}
abbrev NW : List Str := ["box", "size", "way", "same", "at", "heavy", "k"]
theorem sc_weights : FnScope NW ["box"] (defScope sWeights) := ⟨rfl, rfl, rfl, by decide +kernel, rfl, by decide +kernel, by decide +kernel⟩
theorem ok_weights {f : Addr} {fd : FuncData} (F : Fun K "_law_weights" "_law_weights" sWeights f fd) (T : Txt K mg) (D : CD P w K mg base) : FnOk P w K mg base CX0 2 f fd ["box"] (spWeights K) := by
  refine fn_pmN F sc_weights (fun i vs G h => ?_) fun cdv A' outer s H vs Q E ⟨a, t, m⟩ G hr hm h kq => ?_
  · obtain ⟨⟨_, _, e, _, e2⟩, _⟩ := h
    have e2 : _ = [] := e2
    subst e e2; rfl
  obtain ⟨⟨_, _, e, ha, e2⟩, _⟩ := h
  have e2 : _ = [] := e2
  subst e e2
  obtain rfl : _ = V.ref a := ha
  dsimp only at kq ⊢
  have hn := wSize_ok t
  refine b_setS (x := drV t 8) 1 (ex_dc 0 t 8 D hr (by decide) rfl (fun _ _ => trivial) (ex_nm (x := Ow.mk a) 0 rfl) (ea_cons ex_int ea_nil) pass0) ?_ sc_weights.nd
  refine b_cut (fun σ G1 S1 => σ = [some (.ref a), some (.int (wSize t).1), none, none, none, none, none] ∧ G1 = G ∧ S1 = [(a, bxO (wSize t).2)]) ?_ ?_
  · refine s_if (et_eq (ex_dc 0 (drN t 8) 8 D hr (by decide) rfl (fun _ _ => trivial) (ex_nm (x := Ow.mk a) 0 rfl) (ea_cons ex_int ea_nil) pass0) ex_int) (fun q => ?_) (fun q => ?_)
    · refine b_setS (x := 20 + drV (drN (drN t 8) 8) 41) 1 (ex_add ex_int (ex_dc 0 (drN (drN t 8) 8) 41 D hr (by decide) rfl (fun _ _ => trivial) (ex_nm (x := Ow.mk a) 0 rfl) (ea_cons ex_int ea_nil) pass0)) (b_nil (at_cut ⟨?_, rfl, ?_⟩)) sc_weights.nd
      · unfold wSize; rw [q]; rfl
      · unfold wSize; rw [q]; rfl
    · refine b_nil (at_cut ⟨?_, rfl, ?_⟩)
      · unfold wSize; rw [q]; rfl
      · unfold wSize; rw [q]; rfl
  rintro σ1 G1 S1 ⟨rfl, rfl, rfl⟩
  unfold weightsX at kq
  dsimp only at kq
  generalize (wSize t).1 = n at hn kq ⊢
  generalize (wSize t).2 = u at kq ⊢
  have hrg : (rgU n).length ≤ 100000 := by rw [rgU_len]; omega
  refine b_setS (x := drV u 5) 2 (ex_dc 0 u 5 D hr (by decide) rfl (fun _ _ => trivial) (ex_nm (x := Ow.mk a) 0 rfl) (ea_cons ex_int ea_nil) pass0) ?_ sc_weights.nd
  have draws : ∀ (σ : St) (m : Int) (hm : 0 < m ∧ m ≤ 1000000000000), True := fun _ _ _ => trivial
  refine b_when (et_lt (ex_nm (x := drV u 5) 2 rfl) ex_int) (fun q0 => ?_) (fun q0 => ?_)
  · rw [q0] at kq
    refine b_retL (x := (drL (drN u 5) 4 n).1) (S1 := [(a, bxO (drL (drN u 5) 4 n).2)]) kq (en_lc (own := [("k", 6)]) (g := gName 6) sc_weights.nd (pi_range1 (by rfl) T.range (pa_cons (pE _) pa_nil)) (blkOk_by (N := NW) (sc := defScope sWeights) (by decide +kernel)) (fun _ _ _ _ _ => pg_name (i := 6) sc_weights.nd rfl (Or.inl rfl))
      (evn_mapS (fun _ => True) (fun t (_ : Int) => drV t 4) (fun t _ => drN t 4) (fun t => [(a, bxO t)]) (drN u 5) trivial (ei_range1 (ex_nm (x := n) 1 rfl) ⟨by omega, by omega⟩) tg_nm hrg ?_ ?_)) rfl
    · rintro t x vs' G4 _ _ e4 ⟨v4, rfl, _⟩
      refine ⟨trivial, evB fun s H0 C cl fp => ?_⟩
      dsimp only
      exact Ev.st (ex_dc 0 t 4 D hr (by decide) rfl (fun _ _ => trivial) (ex_nm (x := Ow.mk a) 0 (show ([some (V.ref a), some (V.int n), some (.int (drV u 5)), none, none, none, some v4] : St)[0]? = _ from rfl)) (ea_cons ex_int ea_nil) pass0) rfl rfl
    · rintro x vs' G4 ⟨v4, rfl, _⟩; rfl
  refine b_when (et_eq (ex_nm (x := drV u 5) 2 rfl) ex_int) (fun q1 => ?_) (fun q1 => ?_)
  · rw [q0, q1] at kq
    refine b_retL (x := (drL (drN u 5) 1000000000000 n).1) (S1 := [(a, bxO (drL (drN u 5) 1000000000000 n).2)]) kq (en_lc (own := [("k", 6)]) (g := gName 6) sc_weights.nd (pi_range1 (by rfl) T.range (pa_cons (pE _) pa_nil)) (blkOk_by (N := NW) (sc := defScope sWeights) (by decide +kernel)) (fun _ _ _ _ _ => pg_name (i := 6) sc_weights.nd rfl (Or.inl rfl))
      (evn_mapS (fun _ => True) (fun t (_ : Int) => drV t 1000000000000) (fun t _ => drN t 1000000000000) (fun t => [(a, bxO t)]) (drN u 5) trivial (ei_range1 (ex_nm (x := n) 1 rfl) ⟨by omega, by omega⟩) tg_nm hrg ?_ ?_)) rfl
    · rintro t x vs' G4 _ _ e4 ⟨v4, rfl, _⟩
      refine ⟨trivial, evB fun s H0 C cl fp => ?_⟩
      dsimp only
      exact Ev.st (ex_dc 0 t 1000000000000 D hr (by decide) rfl (fun _ _ => trivial) (ex_nm (x := Ow.mk a) 0 (show ([some (V.ref a), some (V.int n), some (.int (drV u 5)), none, none, none, some v4] : St)[0]? = _ from rfl)) (ea_cons (Ev.is (ex_pow ex_int ex_int ⟨by decide, by decide, by decide⟩) (by decide)) ea_nil) pass0) rfl rfl
    · rintro x vs' G4 ⟨v4, rfl, _⟩; rfl
  refine b_when (et_eq (ex_nm (x := drV u 5) 2 rfl) ex_int) (fun q2 => ?_) (fun q2 => ?_)
  · rw [q0, q1, q2] at kq
    refine b_setS (x := drV (drN u 5) 1000000000) 3 (ex_dc 0 (drN u 5) 1000000000 D hr (by decide) rfl (fun _ _ => trivial) (ex_nm (x := Ow.mk a) 0 rfl) (ea_cons (Ev.is (ex_pow ex_int ex_int ⟨by decide, by decide, by decide⟩) (by decide)) ea_nil) pass0) ?_ sc_weights.nd
    refine b_retL (x := (rgU n).map (fun _ => drV (drN u 5) 1000000000)) kq (en_lc (own := [("k", 6)]) (g := gName 6) sc_weights.nd (pi_range1 (by rfl) T.range (pa_cons (pE _) pa_nil)) (blkOk_by (N := NW) (sc := defScope sWeights) (by decide +kernel)) (fun _ _ _ _ _ => pg_name (i := 6) sc_weights.nd rfl (Or.inl rfl))
      (evn_map (fun _ => drV (drN u 5) 1000000000) (ei_range1 (ex_nm (x := n) 1 rfl) ⟨by omega, by omega⟩) tg_nm hrg ?_ ?_)) rfl
    · rintro x vs' G4 _ e4 ⟨v4, rfl, _⟩
      exact evB fun s H0 C cl fp => ex_nm (x := drV (drN u 5) 1000000000) 3 rfl
    · rintro x vs' G4 ⟨v4, rfl, _⟩; rfl
  · rw [q0, q1, q2] at kq
    refine b_setS (x := drV (drN u 5) n) 4 (ex_dc 0 (drN u 5) n D hr (by show n ≤ _; omega) rfl (fun _ _ => trivial) (ex_nm (x := Ow.mk a) 0 rfl) (ea_cons (ex_nm (x := n) 1 rfl) ea_nil) pass0) ?_ sc_weights.nd
    refine b_setS (x := drV (drN (drN u 5) n) 1000000) 5 (ex_dc 0 (drN (drN u 5) n) 1000000 D hr (by decide) rfl (fun _ _ => trivial) (ex_nm (x := Ow.mk a) 0 rfl) (ea_cons (Ev.is (ex_pow ex_int ex_int ⟨by decide, by decide, by decide⟩) (by decide)) ea_nil) pass0) ?_ sc_weights.nd
    have hh := drV_lt (t := drN (drN u 5) n) (m := 1000000) (by decide)
    refine b_retL (x := (rgU n).map (fun k => drV (drN (drN u 5) n) 1000000 * (if decide (k = drV (drN u 5) n) = true then 1 else 0))) kq (en_lc (own := [("k", 6)]) (g := gName 6) sc_weights.nd (pi_range1 (by rfl) T.range (pa_cons (pE _) pa_nil)) (blkOk_by (N := NW) (sc := defScope sWeights) (by decide +kernel)) (fun _ _ _ _ _ => pg_name (i := 6) sc_weights.nd rfl (Or.inl rfl))
      (evn_map (fun k => drV (drN (drN u 5) n) 1000000 * (if decide (k = drV (drN u 5) n) = true then 1 else 0)) (ei_range1 (ex_nm (x := n) 1 rfl) ⟨by omega, by omega⟩) tg_nm hrg ?_ ?_)) rfl
    · rintro x vs' G4 _ e4 ⟨v4, rfl, r4⟩
      obtain rfl : v4 = V.int x := r4
      exact evB fun s H0 C cl fp => ex_mulS (ex_nm (x := drV (drN (drN u 5) n) 1000000) 5 rfl) (ex_toIntB (ex_eq (ex_nm (x := x) 6 rfl) (ex_nm (x := drV (drN u 5) n) 4 rfl)) T.int) (.inl ⟨by omega, by omega⟩)
    · rintro x vs' G4 ⟨v4, rfl, _⟩; rfl
/-! ### share_out -/
def flo (i : Int × List Int) : List Int := i.2.map fun w => i.1 * w / i.2.sum
def keyO (i : Int × List Int) (at_ : Int) : Int := -(i.1 * i.2.getD at_.toNat 0 % i.2.sum)
def ordO (i : Int × List Int) : List Int := (rgU i.2.length).mergeSort (leD (keyO i))
def bump (s : List Int) (at_ : Int) : List Int := s.set at_.toNat (s.getD at_.toNat 0 + 1)
def shV (i : Int × List Int) : List Int := bif decide (i.2.sum = 0) then (rgU i.2.length).map (fun k => bif decide (k = 0) then i.1 else 0) else (cutL (ordO i) none (some (i.1 - (flo i).sum))).foldl bump (flo i)
def bad (i : Int × List Int) : Bool := decide (i.1 < 0) || (i.2.map fun w => decide (w < 0)).any id
def whatEr (C : Addr) : Er := ⟨C, [("what", .str "weights")]⟩
def shX (C : Addr) (i : Int × List Int) : Except Er (List Int) := bif bad i then .error (whatEr C) else .ok (shV i)
def shPre (i : Int × List Int) : Prop := (-1000000000000000000 ≤ i.1 ∧ i.1 ≤ 1000000000000000000) ∧ i.2.length ≤ 100 ∧ ∀ x ∈ i.2, -10000000000000000 ≤ x ∧ x ≤ 10000000000000000
abbrev spShare (C : Addr) (K : PySem.W.Frag) : Sp := PmXN K (fun (i : Int × List Int) => A1 K i.1 (A1 K i.2 A0)) (fun _ => []) shPre (shX C) (fun _ => [])
abbrev NS : List Str := ["total", "weights", "weight", "whole", "at", "shares", "order"]
theorem sum_bd {l : List Int} {n : Int} (hn : 0 ≤ n) : (∀ x ∈ l, -n ≤ x ∧ x ≤ n) → -(n * l.length) ≤ l.sum ∧ l.sum ≤ n * l.length := by
  induction l with
  | nil => intro _; simp
  | cons x r ih =>
    intro h
    have h1 := h x List.mem_cons_self
    have h2 := ih fun y m => h y (List.mem_cons_of_mem _ m)
    rw [List.sum_cons, List.length_cons, show ((r.length + 1 : Nat) : Int) = (r.length : Int) + 1 by omega, Int.mul_add, Int.mul_one]
    omega
theorem sum_nn : ∀ {l : List Int}, (∀ x ∈ l, 0 ≤ x) → 0 ≤ l.sum
  | [], _ => Int.le_refl 0
  | x :: r, h => by
    rw [List.sum_cons]
    have h1 := h x List.mem_cons_self
    have h2 := sum_nn (l := r) fun y m => h y (List.mem_cons_of_mem _ m)
    omega
theorem mem_rgU {n x : Int} (h : x ∈ rgU n) : 0 ≤ x ∧ x < n := by
  unfold rgU at h
  obtain ⟨k, hk, rfl⟩ := List.mem_map.mp h
  have := List.mem_range.mp hk
  omega
theorem bump_len : ∀ (l : List Int) (s : List Int), (l.foldl bump s).length = s.length
  | [], _ => rfl
  | x :: r, s => by
    rw [List.foldl_cons, bump_len r]
    unfold bump
    rw [List.length_set]
theorem sc_share : FnScope NS ["total", "weights"] (defScope sShare) := ⟨rfl, rfl, rfl, by decide +kernel, rfl, by decide +kernel, by decide +kernel⟩
theorem ok_share {f c Pt C fI : Addr} {nm : Nat → Nat → Str} {fd : FuncData} (F : FunC K "share_out" "share_out" sShare f fd c) (T : Txt K mg) (ET : PySem.ErrX.ErrTxt P K C fI "Invalid" "what") (gC : mg "Invalid" = some (.ref C)) (TB : LamX.TabB base mg c Pt) (hmT : (Pt, nm) ∈ Tb.T) (hnm : ∀ a b, nm a b = "share_out.<locals>.<lambda>") (hu : ∀ q ∈ Tb.T, q.1 = Pt → q.2 = nm) :
    FnOk P w K mg base (L2.CX P w) 5 f fd ["total", "weights"] (spShare C K) := by
  refine fn_pmXNC F sc_share (fun i vs G h => len2 h) fun A' outer s H vs Q E ⟨tot, ws⟩ G hr hp ⟨v0, _, e, ht, v1, _, e2, hw, e3⟩ k1 k2 => ?_
  have e3 : _ = [] := e3
  subst e e2 e3
  obtain rfl : _ = V.int tot := ht
  obtain ⟨hp1, hp2, hp3⟩ := hp
  dsimp only at hp1 hp2 hp3 k1 k2 ⊢
  have hwl : ws.length ≤ 100000 := by omega
  refine b_when (k := bad (tot, ws)) (et_w (ew_or (et_lt (ex_nm (x := tot) 0 rfl) ex_int) fun _ => ew_or1 (et_val (ex_any rfl (EvN.lv (en_lc (own := [("weight", 2)]) (g := gName 2) sc_share.nd (pi_list (pE _)) (blkOk_by (N := NS) (sc := defScope sShare) (by decide +kernel)) (fun _ _ _ _ _ => pg_name (i := 2) sc_share.nd rfl (Or.inl rfl))
    (evn_map (fun w => decide (w < 0)) (ei_list (Ev.fz (ex_var (x := ws) 1 rfl hw))) tg_nm hwl (fun x vs' G7 m e7 ⟨v, e8, r⟩ => ?_) (fun x vs' G7 ⟨v, e8, r⟩ => ?_)))) T.any)))) (fun q => ?_) (fun q => ?_)
  · subst e8
    obtain rfl : v = V.int x := r
    exact evB fun s H0 C cl fp => ex_lt (ex_nm (x := x) 2 rfl) ex_int
  · subst e8; rfl
  · refine b_raise (x := ("weights" : Str)) ET gC hr (takes_of rfl rfl rfl rfl) ex_str ?_
    exact k2 (whatEr C) (by unfold shX; rw [q]; rfl)
  have kq := k1 (shV (tot, ws)) (by unfold shX; rw [q]; rfl)
  have hb := sum_bd (n := 10000000000000000) (by decide) hp3
  have hs1 : -1000000000000000000 ≤ ws.sum ∧ ws.sum ≤ 1000000000000000000 := by omega
  refine b_setS (x := ws.sum) 3 (ex_sum rfl (Ev.lv (ex_var (x := ws) 1 rfl hw)) T.sum) ?_ sc_share.nd
  have hrg : (rgU (ws.length : Int)).length ≤ 100000 := by rw [rgU_len]; omega
  refine b_when (et_eq (ex_nm (x := ws.sum) 3 rfl) ex_int) (fun q0 => ?_) (fun q0 => ?_)
  · refine b_retL (x := (rgU (ws.length : Int)).map (fun k => bif decide (k = 0) then tot else 0)) kq (en_lc (own := [("at", 4)]) (g := gName 4) sc_share.nd (pi_range1 (by rfl) T.range (pa_cons (pE _) pa_nil)) (blkOk_by (N := NS) (sc := defScope sShare) (by decide +kernel)) (fun _ _ _ _ _ => pg_name (i := 4) sc_share.nd rfl (Or.inl rfl))
      (evn_map (fun k => bif decide (k = 0) then tot else 0) (ei_range1 (ex_len (Ev.lv (ex_var (x := ws) 1 rfl hw)) T.len) ⟨by omega, by omega⟩) tg_nm hrg ?_ ?_)) ?_
    · rintro x vs' G4 _ e4 ⟨v4, rfl, r4⟩
      obtain rfl : v4 = V.int x := r4
      exact evB fun s H0 C cl fp => ex_if (et_eq (ex_nm (x := x) 4 rfl) ex_int) (fun _ => ex_nm (x := tot) 0 rfl) (fun _ => ex_int)
    · rintro x vs' G4 ⟨v4, rfl, _⟩; rfl
    · unfold shV; rw [q0]; rfl
  have q0' := of_decide_eq_false q0
  have nb : ∀ x ∈ ws, 0 ≤ x := fun x m => by
    have z := (Bool.or_eq_false_iff.mp q).2
    rw [List.any_eq_false] at z
    have z2 := z (decide (x < 0)) (List.mem_map.mpr ⟨x, m, rfl⟩)
    have z3 : ¬ (x < 0) := fun h => z2 (decide_eq_true h)
    omega
  have snn : 0 ≤ ws.sum := sum_nn nb
  have hd : CDivW 0 ws.sum := ⟨by omega, (Nat.log2_lt (by omega)).mpr (Nat.lt_of_le_of_lt (show ws.sum.natAbs ≤ 1000000000000000000 by omega) (by decide +kernel))⟩
  have hD : ∀ x, CDivW (tot * x) ws.sum := fun x => hd
  refine b_setLc (ys := flo (tot, ws)) (own := [("weight", 2)]) (g := gName 2) 5 sc_share.nd (pi_list (pE _)) (blkOk_by (N := NS) (sc := defScope sShare) (by decide +kernel)) (fun _ _ _ _ _ => pg_name (i := 2) sc_share.nd rfl (Or.inl rfl))
    (evn_map (fun x => tot * x / ws.sum) (ei_list (Ev.fz (ex_var (x := ws) 1 rfl hw))) tg_nm hwl ?he ?hw) ?k (sw_true rfl rfl rfl (by decide +kernel))
  case he =>
    rintro x vs' G7 m e7 ⟨v, rfl, r⟩
    obtain rfl : v = V.int x := r
    exact evB fun s H0 C cl fp => ex_div (ex_mulS (ex_nm (x := tot) 0 rfl) (ex_nm (x := x) 2 rfl) (.inl ⟨by omega, by omega⟩)) (ex_nm (x := ws.sum) 3 rfl) (hD x)
  case hw =>
    rintro x vs' G7 ⟨v, rfl, r⟩
    rfl
  intro l us G1 e1 hus hlB
  have eus := Its.sc hus
  subst eus
  have hw1 := Rp.mono e1 hw
  have hfl : (flo (tot, ws)).length = ws.length := by unfold flo; rw [List.length_map]
  refine b_set (x := ordO (tot, ws)) 6 (EvN.frz (en_sortLam (N := ["at", "total", "weights", "whole"]) (ps := ["at"]) (fr := ["total", "weights", "whole"]) (js := [0, 1, 3]) (k := 0) (keyO (tot, ws)) (coll_range hmT (ex_len (Ev.lv (ex_var (x := ws) 1 rfl hw1)) T.len) ⟨Int.natCast_nonneg _, by show ((ws.length : Nat) : Int) ≤ 100000; omega⟩ T.range) TB rfl hmT (hnm _ _) hu T.sorted (hr.mono (by decide)) (NdefX.nscope_by (by decide +kernel)) rfl
    ?hfree ?hfr rfl ?hb hrg ?hal ?hsk (by decide) ?hbody)) ?k2 sc_share.nd
  case hfree => exact NdefX.ndef_free (sc := defScope sShare) (fr := ["total", "weights", "whole"]) (by decide +kernel)
  case hfr => exact NdefX.ndef_fr (sc := defScope sShare) (by decide +kernel)
  case hb => exact fun qual cl c' pm ctv us hl => match us, hl with | [u], _ => rfl
  case hal => exact PySem.W.AllAlike.of fun _ _ => rfl
  case hsk => exact PySem.W.Sortable.others fun b => ⟨(fun h => nomatch h), (fun xs h => nomatch h)⟩
  case hbody =>
    rintro x v G3 f' c' A3 outer3 s3 H3 E3 m3 e3 r hr3
    obtain rfl : v = V.int x := r
    have hx := mem_rgU m3
    exact ex_neg (ex_mod (ex_mulS (ex_nm (x := tot) 1 rfl) (ex_ix (x := ws.getD x.toNat 0) (Ev.lv (ex_var (x := ws) 2 rfl (Rp.mono e3 hw1))) (ex_nm (x := x) 0 rfl) (atI_get 0 hx.1 hx.2)) (.inl ⟨by omega, by omega⟩)) (ex_nm (x := ws.sum) 3 rfl) (by show 0 < ws.sum; omega))
  case k2 =>
    intro vo G2 e2 ho
    have hmem : ∀ x ∈ cutL (ordO (tot, ws)) none (some (tot - (flo (tot, ws)).sum)), 0 ≤ x ∧ x < (ws.length : Int) := fun x m => by
      have m1 : x ∈ ordO (tot, ws) := by
        unfold cutL at m
        exact List.mem_of_mem_drop (List.mem_of_mem_take m)
      exact mem_rgU (List.mem_mergeSort.mp m1)
    refine b_for (xs := cutL (ordO (tot, ws)) none (some (tot - (flo (tot, ws)).sum))) (fun r σ' G' S' => ∃ (done : List Int) (c : Option V), done ++ r = cutL (ordO (tot, ws)) none (some (tot - (flo (tot, ws)).sum)) ∧ σ' = [some (.int tot), some v1, none, some (.int ws.sum), c, some (.ref l), some vo] ∧ S' = [(l, .lst ((done.foldl bump (flo (tot, ws))).map toV))])
      (ei_list (EvN.fz (en_slice po_none (po_some (pE _)) (Ev.lv (ex_var (x := ordO (tot, ws)) 6 rfl ho)) (fun _ => eo_none) (fun _ => eo_some (ex_sub (ex_nm (x := tot) 0 rfl) (ex_sum rfl (el_own 5 0 rfl rfl (Its.ofSc _)) T.sum)))))) (tg_nm (j := 4)) (fun G3 _ => ⟨[], none, rfl, rfl, rfl⟩) ?hs ?hd (pi_list (pE _)) (pg_name (i := 4) sc_share.nd rfl (Or.inl rfl)) (passes_of (X := cxOf (L2.CX P w) P w K mg base NS "share_out" (defScope sShare) f (.ref c) A' outer s H E) rfl)
    case hs =>
      rintro x r vs' σ' G3 G4 S' e3 e4 sf ⟨done, c, hdone, rfl, rfl⟩ ⟨v, rfl, rv⟩
      obtain rfl : v = V.int x := rv
      have hx := hmem x (sf.subset List.mem_cons_self)
      have hlen : (done.foldl bump (flo (tot, ws))).length = ws.length := by rw [bump_len, hfl]
      have hlt : x.toNat < (done.foldl bump (flo (tot, ws))).length := by rw [hlen]; omega
      refine b_augix (x := (done.foldl bump (flo (tot, ws))).getD x.toNat 0) (y := 1) (m := x.toNat) 0 ip_add (ex_nm (x := Ow.mk l) 5 rfl) (ex_nm (x := x) 4 rfl) hx.1 ?_ ?_ rfl ex_int ?_
      · unfold ixN
        rw [if_pos hx.1, List.length_map, if_pos (by omega)]
      · have q1 := atI_get (xs := (done.foldl bump (flo (tot, ws))).map toV) (V.int 0) hx.1 (by rw [List.length_map]; omega)
        rw [q1]
        congr 1
        rw [List.getD_eq_getElem?_getD, List.getD_eq_getElem?_getD, List.getElem?_map, List.getElem?_eq_getElem hlt]
        rfl
      · refine b_nil (at_nx e4 ⟨done ++ [x], some (.int x), by rw [List.append_assoc]; exact hdone, rfl, ?_⟩)
        rw [List.foldl_append]
        show [(l, HO.lst _)] = [(l, HO.lst _)]
        congr 3
        show List.set _ _ _ = List.map toV (bump _ x)
        unfold bump
        rw [List.map_set]; rfl
    case hd =>
      rintro σ' G3 S' e3 ⟨done, c, hdone, rfl, rfl⟩
      rw [List.append_nil] at hdone
      subst hdone
      refine b_retOwn kq hlB (ex_nm (x := Ow.mk l) 5 rfl) (Its.ofSc _) ?_
      unfold shV; rw [q0]; rfl
end
end K17

-- part K17c
set_option Elab.async false
set_option linter.all false
set_option maxRecDepth 100000
set_option maxHeartbeats 4000000
namespace K17
open PySem L2 Gx
open Rp (rp)
open Sc (toV)
/-! ### what the law asks of told shares -/
def befV (i : Int × List Int × Int × Int × Int) : Bool :=
  decide (i.1 * i.2.1.getD i.2.2.2.2.toNat 0 % i.2.2.1 < i.1 * i.2.1.getD i.2.2.2.1.toNat 0 % i.2.2.1) || (decide (i.1 * i.2.1.getD i.2.2.2.1.toNat 0 % i.2.2.1 = i.1 * i.2.1.getD i.2.2.2.2.toNat 0 % i.2.2.1) && decide (i.2.2.2.1 < i.2.2.2.2))
def flA (tot : Int) (ws : List Int) (k : Int) : Int := tot * ws.getD k.toNat 0 / ws.sum
structure FairP (i : Int × List Int × List Int) : Prop where
  bt : -1000000000000000000 ≤ i.1 ∧ i.1 ≤ 1000000000000000000
  bl : i.2.1.length ≤ 100
  bw : ∀ x ∈ i.2.1, 0 ≤ x ∧ x ≤ 10000000000000000
  len : i.2.2.length = i.2.1.length
  zero : i.2.1.sum = 0 → i.2.2 = (rgU i.2.1.length).map fun k => i.1 * (if decide (k = 0) = true then 1 else 0)
  sum : i.2.1.sum ≠ 0 → i.2.2.sum = i.1
  d : i.2.1.sum ≠ 0 → ∀ k, 0 ≤ k → k < (i.2.1.length : Int) → (i.2.2.getD k.toNat 0 = flA i.1 i.2.1 k ∨ i.2.2.getD k.toNat 0 = flA i.1 i.2.1 k + 1) ∧ (if i.2.2.getD k.toNat 0 * i.2.1.sum - i.1 * i.2.1.getD k.toNat 0 < 0 then -(i.2.2.getD k.toNat 0 * i.2.1.sum - i.1 * i.2.1.getD k.toNat 0) else i.2.2.getD k.toNat 0 * i.2.1.sum - i.1 * i.2.1.getD k.toNat 0) < i.2.1.sum
  bef : i.2.1.sum ≠ 0 → ∀ a b, (0 ≤ a ∧ a < (i.2.1.length : Int)) → (0 ≤ b ∧ b < (i.2.1.length : Int)) → flA i.1 i.2.1 a < i.2.2.getD a.toNat 0 → i.2.2.getD b.toNat 0 = flA i.1 i.2.1 b → befV (i.1, i.2.1, i.2.1.sum, a, b) = true
variable [Tb]
abbrev spIsInt (K : PySem.W.Frag) : Sp := Pm K (fun (i : Int) => A1 K i A0) (fun _ => []) (fun _ => True) (fun _ => true) (fun _ => [])
abbrev spBefore (K : PySem.W.Frag) : Sp := Pm K (fun (i : Int × List Int × Int × Int × Int) => A1 K i.1 (A1 K i.2.1 (A1 K i.2.2.1 (A1 K i.2.2.2.1 (A1 K i.2.2.2.2 A0))))) (fun _ => []) (fun i => (-1000000000000000000 ≤ i.1 ∧ i.1 ≤ 1000000000000000000) ∧ 0 < i.2.2.1 ∧ (0 ≤ i.2.2.2.1 ∧ i.2.2.2.1 < (i.2.1.length : Int)) ∧ 0 ≤ i.2.2.2.2 ∧ i.2.2.2.2 < (i.2.1.length : Int)) befV (fun _ => [])
abbrev spFair (K : PySem.W.Frag) : Sp := Pm K (fun (i : Int × List Int × List Int) => A1 K i.1 (A1 K i.2.1 (A1 K i.2.2 A0))) (fun _ => []) FairP (fun _ => true) (fun _ => [])
section
variable {P : Program} {w : World} {K : PySem.W.Frag} {mg : Str → Option Value} {base : Heap}
theorem sc_isInt : FnScope ["told"] ["told"] (defScope sIsInt) := ⟨rfl, rfl, rfl, by decide +kernel, rfl, by decide +kernel, by decide +kernel⟩
theorem ok_isInt {f : Addr} {fd : FuncData} (F : Fun K "_law_is_integer" "_law_is_integer" sIsInt f fd) (T : Txt K mg) : FnOk P w K mg base CX0 1 f fd ["told"] (spIsInt K) := by
  refine fn_pm F sc_isInt (fun i vs G h => len1 h) fun cdv A' outer s H vs Q E n G hr _ ⟨v, _, e, hn, e2⟩ kq => ?_
  have e2 : _ = [] := e2
  subst e e2
  obtain rfl : _ = V.int n := hn
  exact b_retq kq (ex_and (ex_isi (x := n) (b := true) (T := "int") (T' := "int") (ex_nm (x := n) 0 rfl) rfl T.int (by decide +kernel) T.isinstance) fun _ => ex_one (ex_not (ex_isi (x := n) (b := false) (T := "bool") (T' := "bool") (ex_nm (x := n) 0 rfl) rfl T.bool (by decide +kernel) T.isinstance))) rfl
theorem sc_before : FnScope ["total", "weights", "whole", "one", "other", "first", "second"] ["total", "weights", "whole", "one", "other"] (defScope sBefore) := ⟨rfl, rfl, rfl, by decide +kernel, rfl, by decide +kernel, by decide +kernel⟩
theorem ok_before {f : Addr} {fd : FuncData} (F : Fun K "_law_before" "_law_before" sBefore f fd) (T : Txt K mg) : FnOk P w K mg base CX0 1 f fd ["total", "weights", "whole", "one", "other"] (spBefore K) := by
  refine fn_pm F sc_before (fun i vs G h => ?_) fun cdv A' outer s H vs Q E ⟨tot, ws, wh, a, b⟩ G hr hp h kq => ?_
  · obtain ⟨_, _, e, _, _, _, e1, _, _, _, e2, _, _, _, e3, _, _, _, e4, _, e5⟩ := h
    have e5 : _ = [] := e5
    subst e e1 e2 e3 e4 e5; rfl
  obtain ⟨_, _, e, ht, v1, _, e1, hw, _, _, e2, hh, _, _, e3, ha, _, _, e4, hb, e5⟩ := h
  have e5 : _ = [] := e5
  subst e e1 e2 e3 e4 e5
  obtain rfl : _ = V.int tot := ht
  obtain rfl : _ = V.int wh := hh
  obtain rfl : _ = V.int a := ha
  obtain rfl : _ = V.int b := hb
  obtain ⟨h1, h2, h3, h4⟩ := hp
  dsimp only at h1 h2 h3 h4 kq ⊢
  refine b_setS (x := tot * ws.getD a.toNat 0 % wh) 5 (ex_mod (ex_toInt (ex_mulS (ex_nm (x := tot) 0 rfl) (ex_ix (x := ws.getD a.toNat 0) (Ev.lv (ex_var (x := ws) 1 rfl hw)) (ex_nm (x := a) 3 rfl) (atI_get 0 h3.1 h3.2)) (.inl ⟨by omega, by omega⟩)) T.int) (ex_nm (x := wh) 2 rfl) h2) ?_ sc_before.nd
  refine b_setS (x := tot * ws.getD b.toNat 0 % wh) 6 (ex_mod (ex_toInt (ex_mulS (ex_nm (x := tot) 0 rfl) (ex_ix (x := ws.getD b.toNat 0) (Ev.lv (ex_var (x := ws) 1 rfl hw)) (ex_nm (x := b) 4 rfl) (atI_get 0 h4.1 h4.2)) (.inl ⟨by omega, by omega⟩)) T.int) (ex_nm (x := wh) 2 rfl) h2) ?_ sc_before.nd
  exact b_retq kq (ex_or (ex_gt (ex_nm (x := tot * ws.getD a.toNat 0 % wh) 5 rfl) (ex_nm (x := tot * ws.getD b.toNat 0 % wh) 6 rfl)) fun _ => ex_one (ex_and (ex_eq (ex_nm (x := tot * ws.getD a.toNat 0 % wh) 5 rfl) (ex_nm (x := tot * ws.getD b.toNat 0 % wh) 6 rfl)) fun _ => ex_one (ex_lt (ex_nm (x := a) 3 rfl) (ex_nm (x := b) 4 rfl)))) rfl
abbrev CIsInt (P : Program) (w : World) (K : PySem.W.Frag) (mg : Str → Option Value) (base : Heap) := Cl P w K mg base CX0 "_law_is_integer" ["told"] 1 (spIsInt K)
abbrev CBefore (P : Program) (w : World) (K : PySem.W.Frag) (mg : Str → Option Value) (base : Heap) := Cl P w K mg base CX0 "_law_before" ["total", "weights", "whole", "one", "other"] 1 (spBefore K)
abbrev NF : List Str := ["total", "weights", "told", "cents", "whole", "k", "more", "lifted", "floored", "one", "other"]
theorem sc_fair : FnScope NF ["total", "weights", "told"] (defScope sFair) := ⟨rfl, rfl, rfl, by decide +kernel, rfl, by decide +kernel, by decide +kernel⟩
theorem EvT.is {tt : TT} {σ : St} {G : Hp} {S S' : Sto} {b b' : Bool} (h : EvT tt σ G S b S') (e : b = b') : EvT tt σ G S b' S' := by subst e; exact h
theorem ok_fair {f : Addr} {fd : FuncData} (F : Fun K "_law_fair" "_law_fair" sFair f fd) (T : Txt K mg) (CI : CIsInt P w K mg base) (CB : CBefore P w K mg base) : FnOk P w K mg base CX0 2 f fd ["total", "weights", "told"] (spFair K) := by
  refine fn_pm F sc_fair (fun i vs G h => ?_) fun cdv A' outer s H vs Q E ⟨tot, ws, ts⟩ G hr hp h kq => ?_
  · obtain ⟨_, _, e, _, _, _, e1, _, _, _, e2, _, e5⟩ := h
    have e5 : _ = [] := e5
    subst e e1 e2 e5; rfl
  obtain ⟨_, _, e, ht, v1, _, e1, hw, v2, _, e2, htd, e5⟩ := h
  have e5 : _ = [] := e5
  subst e e1 e2 e5
  obtain rfl : _ = V.int tot := ht
  obtain ⟨bt, bl, bw, hl, hz, hs, hd, hb⟩ := hp
  dsimp only at bt bl bw hl hz hs hd hb kq ⊢
  have hlt : ts.length ≤ 100000 := by omega
  have hrg : (rgU (ws.length : Int)).length ≤ 100000 := by rw [rgU_len]; omega
  refine b_when (k := false) (EvT.is (et_w (ew_or (et_not (et_val (ex_isi (x := ts) (b := true) (T := "list") (T' := "list") (ex_var (x := ts) 2 rfl htd) rfl T.list (by decide +kernel) T.isinstance))) fun _ => ew_or1 (et_ne (ex_len (Ev.lv (ex_var (x := ts) 2 rfl htd)) T.len) (ex_len (Ev.lv (ex_var (x := ws) 1 rfl hw)) T.len)))) (by rw [hl]; simp)) (fun q => by cases q) fun _ => ?_
  refine b_for (xs := ts) (fun r σ' G' S' => ∃ (c : Option V), σ' = [some (.int tot), some v1, some v2, c, none, none, none, none, none, none, none] ∧ S' = []) (ei_list (Ev.fz (ex_var (x := ts) 2 rfl htd))) (tg_nm (j := 3)) (fun G1 _ => ⟨none, rfl, rfl⟩) ?s1 ?d1 (pi_list (pE _)) (pg_name (i := 3) sc_fair.nd rfl (Or.inl rfl)) PassesOwn.never
  case s1 =>
    rintro x r vs' σ' G2 G3 S' e2 e3 sf ⟨c, rfl, rfl⟩ ⟨v, rfl, rv⟩
    obtain rfl : v = V.int x := rv
    refine b_when (k := false) (EvT.is (et_not (et_val (ex_cl CI hr (Pm.does x trivial) (ea_cons (ex_nm (x := x) 3 rfl) ea_nil) pass0))) rfl) (fun q => by cases q) fun _ => ?_
    exact b_nil (at_nx e3 ⟨_, rfl, rfl⟩)
  case d1 =>
  rintro σ1 G1 S1 g1 ⟨c1, rfl, rfl⟩
  have hw1 := Rp.mono g1 hw
  have htd1 := Rp.mono g1 htd
  refine b_setS (x := ws.sum) 4 (ex_sum rfl (Ev.lv (ex_var (x := ws) 1 rfl hw1)) T.sum) ?_ sc_fair.nd
  refine b_when (et_eq (ex_nm (x := ws.sum) 4 rfl) ex_int) (fun q => ?_) (fun q => ?_)
  · have hz := hz (of_decide_eq_true q)
    refine b_retq kq (ex_eqD (x := ts) (y := (rgU (ws.length : Int)).map fun k => tot * (if decide (k = 0) = true then 1 else 0)) (Room.eqU hr) (Ev.dt (ex_var (x := ts) 2 rfl htd1)) (Ev.dt (EvN.frz (en_lc (own := [("k", 5)]) (g := gName 5) sc_fair.nd (pi_range1 (by rfl) T.range (pa_cons (pE _) pa_nil)) (blkOk_by (N := NF) (sc := defScope sFair) (by decide +kernel)) (fun _ _ _ _ _ => pg_name (i := 5) sc_fair.nd rfl (Or.inl rfl))
      (evn_map (fun k => tot * (if decide (k = 0) = true then 1 else 0)) (ei_range1 (ex_len (Ev.lv (ex_var (x := ws) 1 rfl hw1)) T.len) ⟨by omega, by omega⟩) tg_nm hrg (fun x vs' G4 _ e4 ⟨v4, e5, r4⟩ => ?_) (fun x vs' G4 ⟨v4, e5, _⟩ => by subst e5; rfl))))) (fun _ _ => trivial) (fun _ _ => trivial)) (decide_eq_true hz)
    subst e5
    obtain rfl : v4 = V.int x := r4
    exact evB fun s H0 C cl fp => ex_mulS (ex_nm (x := tot) 0 rfl) (ex_toIntB (ex_eq (ex_nm (x := x) 5 rfl) ex_int) T.int) (.inl ⟨by omega, by omega⟩)
  have q0 := of_decide_eq_false q
  have hs := hs q0
  have hd := hd q0
  have hb := hb q0
  have snn : 0 ≤ ws.sum := sum_nn fun x m => (bw x m).1
  have hbd := sum_bd (n := 10000000000000000) (by decide) (fun x m => by have := bw x m; omega : ∀ x ∈ ws, -10000000000000000 ≤ x ∧ x ≤ 10000000000000000)
  have hsb : ws.sum ≤ 1000000000000000000 := by omega
  have hdv : CDivW 0 ws.sum := ⟨by omega, (Nat.log2_lt (by omega)).mpr (Nat.lt_of_le_of_lt (show ws.sum.natAbs ≤ 1000000000000000000 by omega) (by decide +kernel))⟩
  refine b_when (k := false) (EvT.is (et_ne (ex_sum rfl (Ev.lv (ex_var (x := ts) 2 rfl htd1)) T.sum) (ex_nm (x := tot) 0 rfl)) (by rw [hs]; simp)) (fun q => by cases q) fun _ => ?_
  refine b_for (xs := rgU (ws.length : Int)) (fun r σ' G' S' => ∃ (c d : Option V), σ' = [some (.int tot), some v1, some v2, c1, some (.int ws.sum), c, d, none, none, none, none] ∧ S' = []) (ei_range1 (ex_len (Ev.lv (ex_var (x := ws) 1 rfl hw1)) T.len) ⟨by omega, by omega⟩) (tg_nm (j := 5)) (fun G1 _ => ⟨none, none, rfl, rfl⟩) ?s2 ?d2 (pi_range1 (by rfl) T.range (pa_cons (pE _) pa_nil)) (pg_name (i := 5) sc_fair.nd rfl (Or.inl rfl)) PassesOwn.never
  case s2 =>
    rintro x r vs' σ' G2 G3 S' e2 e3 sf ⟨c, d, rfl, rfl⟩ ⟨v, rfl, rv⟩
    obtain rfl : v = V.int x := rv
    have hx := mem_rgU (sf.subset List.mem_cons_self)
    have hw3 := Rp.mono (e2.trans e3) hw1
    have ht3 := Rp.mono (e2.trans e3) htd1
    have hdx := hd x hx.1 hx.2
    refine b_setS (x := ts.getD x.toNat 0 - flA tot ws x) 6 (ex_sub (ex_ix (x := ts.getD x.toNat 0) (Ev.lv (ex_var (x := ts) 2 rfl ht3)) (ex_nm (x := x) 5 rfl) (atI_get 0 hx.1 (by rw [hl]; exact hx.2))) (ex_div (ex_mulS (ex_nm (x := tot) 0 rfl) (ex_ix (x := ws.getD x.toNat 0) (Ev.lv (ex_var (x := ws) 1 rfl hw3)) (ex_nm (x := x) 5 rfl) (atI_get 0 hx.1 hx.2)) (.inl ⟨by omega, by omega⟩)) (ex_nm (x := ws.sum) 4 rfl) hdv)) ?_ sc_fair.nd
    refine b_when (k := false) (EvT.is (et_w (ew_and (et_ne (ex_nm (x := ts.getD x.toNat 0 - flA tot ws x) 6 rfl) ex_int) fun _ => ew_and1 (et_ne (ex_nm (x := ts.getD x.toNat 0 - flA tot ws x) 6 rfl) ex_int))) ?_) (fun q => by cases q) fun _ => ?_
    · rcases hdx.1 with z | z
      · rw [decide_eq_true (show ts.getD x.toNat 0 - flA tot ws x = 0 by omega)]; rfl
      · rw [decide_eq_true (show ts.getD x.toNat 0 - flA tot ws x = 1 by omega)]; simp
    refine b_when (k := false) (EvT.is (et_ge (ex_abs (ex_sub (ex_mulS (ex_ix (x := ts.getD x.toNat 0) (Ev.lv (ex_var (x := ts) 2 rfl ht3)) (ex_nm (x := x) 5 rfl) (atI_get 0 hx.1 (by rw [hl]; exact hx.2))) (ex_nm (x := ws.sum) 4 rfl) (.inr ⟨by omega, by omega⟩)) (ex_mulS (ex_nm (x := tot) 0 rfl) (ex_ix (x := ws.getD x.toNat 0) (Ev.lv (ex_var (x := ws) 1 rfl hw3)) (ex_nm (x := x) 5 rfl) (atI_get 0 hx.1 hx.2)) (.inl ⟨by omega, by omega⟩))) T.abs) (ex_nm (x := ws.sum) 4 rfl)) (decide_eq_false (by have := hdx.2; omega))) (fun q => by cases q) fun _ => ?_
    exact b_nil (at_nx e3 ⟨_, _, rfl, rfl⟩)
  case d2 =>
  rintro σ2 G2 S2 g2 ⟨c2, d2, rfl, rfl⟩
  have hw2 := Rp.mono g2 hw1
  have ht2 := Rp.mono g2 htd1
  refine b_setLcIf (ys := ((rgU (ws.length : Int)).filter fun k => decide (flA tot ws k < ts.getD k.toNat 0)).map id) (own := [("k", 5)]) (g := gName 5) 7 sc_fair.nd (pi_range1 (by rfl) T.range (pa_cons (pE _) pa_nil)) (blkOk_by (N := NF) (sc := defScope sFair) (by decide +kernel)) (fun _ _ _ _ _ => pg_name (i := 5) sc_fair.nd rfl (Or.inl rfl))
    (evn_filter (fun k => decide (flA tot ws k < ts.getD k.toNat 0)) id (ei_range1 (ex_len (Ev.lv (ex_var (x := ws) 1 rfl hw2)) T.len) ⟨by omega, by omega⟩) tg_nm hrg ?p1 ?e1 ?w1) ?k1 (sw_true rfl rfl rfl (by decide +kernel))
  case p1 =>
    rintro x vs' G4 m e4 ⟨v4, rfl, r4⟩
    obtain rfl : v4 = V.int x := r4
    have hx := mem_rgU m
    have hw4 := Rp.mono e4 hw2
    have ht4 := Rp.mono e4 ht2
    exact etB fun s H0 C cl fp => et_gt (ex_ix (x := ts.getD x.toNat 0) (Ev.lv (ex_var (x := ts) 2 rfl ht4)) (ex_nm (x := x) 5 rfl) (atI_get 0 hx.1 (by rw [hl]; exact hx.2))) (ex_div (ex_mulS (ex_nm (x := tot) 0 rfl) (ex_ix (x := ws.getD x.toNat 0) (Ev.lv (ex_var (x := ws) 1 rfl hw4)) (ex_nm (x := x) 5 rfl) (atI_get 0 hx.1 hx.2)) (.inl ⟨by omega, by omega⟩)) (ex_nm (x := ws.sum) 4 rfl) hdv)
  case e1 =>
    rintro x vs' G4 m _ e4 ⟨v4, rfl, r4⟩
    obtain rfl : v4 = V.int x := r4
    exact evB fun s H0 C cl fp => ex_nm (x := x) 5 rfl
  case w1 =>
    rintro x vs' G4 ⟨v4, rfl, _⟩; rfl
  case k1 =>
  intro p1 us1 G3 g3 i1 hp1
  refine at_freeze 0 rfl hp1 fun g4 => ?_
  have hl1 := rp_frozen i1 g4
  have hw3 := Rp.mono (g3.trans g4) hw2
  have ht3 := Rp.mono (g3.trans g4) ht2
  generalize upd G3 p1 (HO.lst us1) = G4 at hl1 hw3 ht3 g4
  refine b_setLcIf (ys := ((rgU (ws.length : Int)).filter fun k => decide (ts.getD k.toNat 0 = flA tot ws k)).map id) (own := [("k", 5)]) (g := gName 5) 8 sc_fair.nd (pi_range1 (by rfl) T.range (pa_cons (pE _) pa_nil)) (blkOk_by (N := NF) (sc := defScope sFair) (by decide +kernel)) (fun _ _ _ _ _ => pg_name (i := 5) sc_fair.nd rfl (Or.inl rfl))
    (evn_filter (fun k => decide (ts.getD k.toNat 0 = flA tot ws k)) id (ei_range1 (ex_len (Ev.lv (ex_var (x := ws) 1 rfl hw3)) T.len) ⟨by omega, by omega⟩) tg_nm hrg ?p2 ?e2 ?w2) ?k2 (sw_true rfl rfl rfl (by decide +kernel))
  case p2 =>
    rintro x vs' G4' m e4 ⟨v4, rfl, r4⟩
    obtain rfl : v4 = V.int x := r4
    have hx := mem_rgU m
    have hw4 := Rp.mono e4 hw3
    have ht4 := Rp.mono e4 ht3
    exact etB fun s H0 C cl fp => et_eq (ex_ix (x := ts.getD x.toNat 0) (Ev.lv (ex_var (x := ts) 2 rfl ht4)) (ex_nm (x := x) 5 rfl) (atI_get 0 hx.1 (by rw [hl]; exact hx.2))) (ex_div (ex_mulS (ex_nm (x := tot) 0 rfl) (ex_ix (x := ws.getD x.toNat 0) (Ev.lv (ex_var (x := ws) 1 rfl hw4)) (ex_nm (x := x) 5 rfl) (atI_get 0 hx.1 hx.2)) (.inl ⟨by omega, by omega⟩)) (ex_nm (x := ws.sum) 4 rfl) hdv)
  case e2 =>
    rintro x vs' G4' m _ e4 ⟨v4, rfl, r4⟩
    obtain rfl : v4 = V.int x := r4
    exact evB fun s H0 C cl fp => ex_nm (x := x) 5 rfl
  case w2 =>
    rintro x vs' G4' ⟨v4, rfl, _⟩; rfl
  case k2 =>
  intro p2 us2 G5 g5 i2 hp2
  refine at_freeze 0 rfl hp2 fun g6 => ?_
  have hl2 := rp_frozen i2 g6
  have hl1 := Rp.mono (g5.trans g6) hl1
  have hw5 := Rp.mono (g5.trans g6) hw3
  generalize upd G5 p2 (HO.lst us2) = G6 at hl1 hl2 hw5 g6
  refine b_for (xs := ((rgU (ws.length : Int)).filter fun k => decide (flA tot ws k < ts.getD k.toNat 0)).map id) (fun r σ' G' S' => ∃ (c d : Option V), σ' = [some (.int tot), some v1, some v2, c1, some (.int ws.sum), c2, d2, some (.ref p1), some (.ref p2), c, d] ∧ S' = []) (ei_list (Ev.fz (ex_var 7 rfl hl1))) (tg_nm (j := 9)) (fun G1 _ => ⟨none, none, rfl, rfl⟩) ?s3 ?d3 (pi_list (pE _)) (pg_name (i := 9) sc_fair.nd rfl (Or.inl rfl)) PassesOwn.never
  case s3 =>
    rintro a r vs' σ' G7 G8 S' e7 e8 sf ⟨c, d, rfl, rfl⟩ ⟨v, rfl, rv⟩
    obtain rfl : v = V.int a := rv
    have ma := sf.subset List.mem_cons_self
    rw [List.map_id] at ma
    obtain ⟨ma1, ma2⟩ := List.mem_filter.mp ma
    have ha := mem_rgU ma1
    have hl3 := Rp.mono (e7.trans e8) hl2
    have hw7 := Rp.mono (e7.trans e8) hw5
    refine b_for (xs := ((rgU (ws.length : Int)).filter fun k => decide (ts.getD k.toNat 0 = flA tot ws k)).map id) (fun r σ' G' S' => ∃ (d : Option V), σ' = [some (.int tot), some v1, some v2, c1, some (.int ws.sum), c2, d2, some (.ref p1), some (.ref p2), some (.int a), d] ∧ S' = []) (ei_list (Ev.fz (ex_var 8 rfl hl3))) (tg_nm (j := 10)) (fun G1 _ => ⟨d, rfl, rfl⟩) ?s4 ?d4 (pi_list (pE _)) (pg_name (i := 10) sc_fair.nd rfl (Or.inl rfl)) PassesOwn.never
    case s4 =>
      rintro b r' vs'' σ'' G9 G10 S'' e9 e10 sf' ⟨d', rfl, rfl⟩ ⟨v', rfl, rv'⟩
      obtain rfl : v' = V.int b := rv'
      have mb := sf'.subset List.mem_cons_self
      rw [List.map_id] at mb
      obtain ⟨mb1, mb2⟩ := List.mem_filter.mp mb
      have hb' := mem_rgU mb1
      have hw9 := Rp.mono (e9.trans e10) hw7
      have hbf := hb a b ha hb' (of_decide_eq_true ma2) (of_decide_eq_true mb2)
      refine b_when (k := false) (EvT.is (et_not (et_val (ex_cl CB hr (Pm.does (tot, ws, ws.sum, a, b) ⟨bt, by show 0 < ws.sum; omega, ha, hb'⟩) (ea_cons (ex_nm (x := tot) 0 rfl) (ea_cons (ex_var (x := ws) 1 rfl hw9) (ea_cons (ex_nm (x := ws.sum) 4 rfl) (ea_cons (ex_nm (x := a) 9 rfl) (ea_cons (ex_nm (x := b) 10 rfl) ea_nil))))) pass0))) (by rw [hbf]; rfl)) (fun q => by cases q) fun _ => ?_
      exact b_nil (at_nx e10 ⟨_, rfl, rfl⟩)
    case d4 =>
      rintro σ4 G9 S4 e9 ⟨d4, rfl, rfl⟩
      exact b_nil (at_nx (e8.trans e9) ⟨_, _, rfl, rfl⟩)
  case d3 =>
    rintro σ3 G7 S3 e7 ⟨c3, d3, rfl, rfl⟩
    exact b_retq kq ex_bl rfl
end
end K17

-- part K17p
set_option Elab.async false
set_option linter.all false
set_option maxRecDepth 100000
set_option maxHeartbeats 4000000
namespace K17
open PySem L2 Gx
variable [Tb]
/-! ### the plain law: shares by largest remainders -/
theorem leD_int {β : Type} (key : β → Int) : leD key = fun a b => decide (key a ≤ key b) := PySem.W.dataLe_int key
theorem sum_perm {l l' : List Int} (h : l.Perm l') : l.sum = l'.sum := by
  induction h with
  | nil => rfl
  | cons x _ ih => rw [List.sum_cons, List.sum_cons, ih]
  | swap x y l => simp only [List.sum_cons]; omega
  | trans _ _ h1 h2 => exact h1.trans h2
theorem ord_pw (key : Int → Int) (l : List Int) : (l.mergeSort (leD key)).Pairwise fun a b => key a ≤ key b := by
  rw [leD_int]
  have := List.pairwise_mergeSort (le := fun a b => decide (key a ≤ key b)) (fun a b c h1 h2 => decide_eq_true (Int.le_trans (of_decide_eq_true h1) (of_decide_eq_true h2))) (fun a b => by
      rw [Bool.or_eq_true, decide_eq_true_iff, decide_eq_true_iff]
      exact Int.le_total _ _) l
  exact this.imp fun h => of_decide_eq_true h
theorem ord_stable (key : Int → Int) {a b : Int} {l : List Int} (h : key a ≤ key b) (s : [a, b].Sublist l) : [a, b].Sublist (l.mergeSort (leD key)) := by
  rw [leD_int]
  exact List.pair_sublist_mergeSort (le := fun a b => decide (key a ≤ key b)) (fun a b c h1 h2 => decide_eq_true (Int.le_trans (of_decide_eq_true h1) (of_decide_eq_true h2))) (fun a b => by
      rw [Bool.or_eq_true, decide_eq_true_iff, decide_eq_true_iff]
      exact Int.le_total _ _) (decide_eq_true h) s
theorem sum_mul (t : Int) : ∀ l : List Int, (l.map fun w => t * w).sum = t * l.sum
  | [] => by simp
  | x :: r => by rw [List.map_cons, List.sum_cons, List.sum_cons, sum_mul t r, Int.mul_add]
theorem sum_divmod (W : Int) : ∀ l : List Int, l.sum = W * (l.map fun x => x / W).sum + (l.map fun x => x % W).sum
  | [] => by simp
  | x :: r => by
    rw [List.map_cons, List.map_cons, List.sum_cons, List.sum_cons, List.sum_cons, Int.mul_add]
    have h1 := sum_divmod W r
    have h2 := Int.mul_ediv_add_emod x W
    omega
theorem sum_le_c {c : Int} : ∀ {l : List Int}, (∀ x ∈ l, x ≤ c) → l.sum ≤ l.length * c
  | [], _ => by simp
  | x :: r, h => by
    rw [List.sum_cons, List.length_cons, show ((r.length + 1 : Nat) : Int) = (r.length : Int) + 1 by omega, Int.add_mul, Int.one_mul]
    have h1 := h x List.mem_cons_self
    have h2 := sum_le_c (l := r) fun y m => h y (List.mem_cons_of_mem _ m)
    omega
theorem sum_zero : ∀ {l : List Int}, (∀ x ∈ l, x = 0) → l.sum = 0
  | [], _ => rfl
  | x :: r, h => by
    rw [List.sum_cons, h x List.mem_cons_self, sum_zero (l := r) fun y m => h y (List.mem_cons_of_mem _ m)]; rfl
theorem sum_set1 : ∀ (s : List Int) (i : Nat), i < s.length → (s.set i (s.getD i 0 + 1)).sum = s.sum + 1
  | [], _, h => by simp at h
  | x :: r, 0, _ => by simp only [List.set_cons_zero, List.getD_cons_zero, List.sum_cons]; omega
  | x :: r, i + 1, h => by
    simp only [List.set_cons_succ, List.getD_cons_succ, List.sum_cons]
    rw [sum_set1 r i (by simpa using h)]; omega
theorem bump_sum : ∀ (l s : List Int), (∀ x ∈ l, 0 ≤ x ∧ x < (s.length : Int)) → (l.foldl bump s).sum = s.sum + l.length
  | [], s, _ => by simp
  | x :: r, s, h => by
    have hx := h x List.mem_cons_self
    have hlen : (bump s x).length = s.length := by unfold bump; rw [List.length_set]
    rw [List.foldl_cons, bump_sum r (bump s x) fun y m => by rw [hlen]; exact h y (List.mem_cons_of_mem _ m)]
    rw [show (bump s x).sum = s.sum + 1 from sum_set1 s x.toNat (by omega), List.length_cons]
    omega
theorem bump_get : ∀ (l s : List Int), (∀ x ∈ l, 0 ≤ x ∧ x < (s.length : Int)) → l.Nodup → ∀ k, 0 ≤ k → k < (s.length : Int) → (l.foldl bump s).getD k.toNat 0 = s.getD k.toNat 0 + (if k ∈ l then 1 else 0)
  | [], s, _, _, k, _, _ => by simp
  | x :: r, s, h, nd, k, h0, h1 => by
    have hx := h x List.mem_cons_self
    have hlen : (bump s x).length = s.length := by unfold bump; rw [List.length_set]
    obtain ⟨nx, nr⟩ := List.nodup_cons.mp nd
    rw [List.foldl_cons, bump_get r (bump s x) (fun y m => by rw [hlen]; exact h y (List.mem_cons_of_mem _ m)) nr k h0 (by rw [hlen]; exact h1)]
    by_cases e : k = x
    · subst e
      rw [if_neg nx, if_pos List.mem_cons_self]
      unfold bump
      rw [List.getD_eq_getElem?_getD, List.getElem?_set_self (by omega)]
      simp
    · have ne : x.toNat ≠ k.toNat := by omega
      have : (bump s x).getD k.toNat 0 = s.getD k.toNat 0 := by
        unfold bump
        rw [List.getD_eq_getElem?_getD, List.getElem?_set_ne ne, ← List.getD_eq_getElem?_getD]
      rw [this]
      by_cases m : k ∈ r
      · rw [if_pos m, if_pos (List.mem_cons_of_mem _ m)]
      · rw [if_neg m, if_neg (by rw [List.mem_cons]; rintro (z | z); exact e z; exact m z)]
theorem pair_in {b a : Int} : ∀ {l : List Int}, l.Pairwise (· < ·) → b ∈ l → a ∈ l → b < a → [b, a].Sublist l
  | [], _, h, _, _ => by cases h
  | z :: l, hp, hb, ha, lt => by
    obtain ⟨h1, h2⟩ := List.pairwise_cons.mp hp
    rcases List.mem_cons.mp hb with e | mb
    · subst e
      rcases List.mem_cons.mp ha with e | ma
      · omega
      · exact (List.singleton_sublist.mpr ma).cons_cons _
    · rcases List.mem_cons.mp ha with e | ma
      · subst e
        have := h1 b mb
        omega
      · exact (pair_in h2 mb ma lt).cons _
theorem no_swap {x y : Int} : ∀ {l : List Int}, l.Nodup → [x, y].Sublist l → [y, x].Sublist l → False
  | [], _, h, _ => by cases h
  | z :: l, nd, h1, h2 => by
    obtain ⟨nz, nl⟩ := List.nodup_cons.mp nd
    have mem : ∀ {a b : Int}, [a, b].Sublist l → a ∈ l ∧ b ∈ l := fun h => ⟨h.subset (by simp), h.subset (by simp)⟩
    cases h1 with
    | cons _ h1 =>
      cases h2 with
      | cons _ h2 => exact no_swap nl h1 h2
      | cons_cons _ h2 => exact nz (mem h1).2
    | cons_cons _ h1 =>
      cases h2 with
      | cons _ h2 => exact nz (mem h2).2
      | cons_cons _ h2 => exact nz (List.singleton_sublist.mp h1)
theorem rgU_pw (n : Int) : (rgU n).Pairwise (· < ·) := by
  unfold rgU
  rw [List.pairwise_map]
  exact (List.pairwise_lt_range).imp fun h => by omega
theorem rgU_nd (n : Int) : (rgU n).Nodup := (rgU_pw n).imp fun h => by omega
theorem mem_rgU' {n x : Int} (h0 : 0 ≤ x) (h1 : x < n) : x ∈ rgU n := by
  unfold rgU
  exact List.mem_map.mpr ⟨x.toNat, List.mem_range.mpr (by omega), by omega⟩
theorem rgU_get (ws : List Int) (f : Int → Int) : (rgU (ws.length : Int)).map (fun k => f (ws.getD k.toNat 0)) = ws.map f := by
  unfold rgU
  rw [List.map_map]
  refine List.ext_getElem (by simp) fun i h1 h2 => ?_
  simp only [List.length_map] at h2
  simp [List.getD_eq_getElem?_getD, List.getElem?_eq_getElem h2]
theorem flA_get (tot : Int) (ws : List Int) {k : Int} (h0 : 0 ≤ k) (h1 : k < (ws.length : Int)) : (flo (tot, ws)).getD k.toNat 0 = flA tot ws k := by
  unfold flo flA
  have hk : k.toNat < ws.length := by omega
  simp [List.getD_eq_getElem?_getD, List.getElem?_eq_getElem hk]
theorem shV_fair {tot : Int} {ws : List Int} (ht : 0 ≤ tot ∧ tot ≤ 1000000000000000000) (hl : ws.length ≤ 100) (hw : ∀ x ∈ ws, 0 ≤ x ∧ x ≤ 10000000000000000) : FairP (tot, ws, shV (tot, ws)) := by
  by_cases hz : ws.sum = 0
  · have e : shV (tot, ws) = (rgU (ws.length : Int)).map fun k => bif decide (k = 0) then tot else 0 := by
      unfold shV; rw [show decide ((tot, ws).2.sum = 0) = true from decide_eq_true hz]; rfl
    refine ⟨⟨by show _ ≤ tot; omega, ht.2⟩, hl, hw, ?_, fun _ => ?_, fun h => absurd hz h, fun h => absurd hz h, fun h => absurd hz h⟩
    · show (shV (tot, ws)).length = ws.length
      rw [e, List.length_map, rgU_len]; simp
    · show shV (tot, ws) = _
      rw [e]
      refine List.map_congr_left fun k _ => ?_
      by_cases q : k = 0
      · subst q; simp
      · simp [q]
  have snn : 0 ≤ ws.sum := sum_nn fun x m => (hw x m).1
  have W0 : 0 < ws.sum := by omega
  generalize hr : tot - (flo (tot, ws)).sum = r
  have e : shV (tot, ws) = (cutL (ordO (tot, ws)) none (some r)).foldl bump (flo (tot, ws)) := by
    unfold shV; rw [show decide ((tot, ws).2.sum = 0) = false from decide_eq_false hz]; subst hr; rfl
  have hfl : (flo (tot, ws)).length = ws.length := by unfold flo; rw [List.length_map]
  -- the remainders
  let rem : Int → Int := fun k => tot * ws.getD k.toNat 0 % ws.sum
  have remB : ∀ k, 0 ≤ rem k ∧ rem k < ws.sum := fun k => ⟨Int.emod_nonneg _ hz, Int.emod_lt_of_pos _ W0⟩
  have hperm : (ordO (tot, ws)).Perm (rgU (ws.length : Int)) := List.mergeSort_perm _ _
  have hnd : (ordO (tot, ws)).Nodup := hperm.nodup_iff.mpr (rgU_nd _)
  have hol : (ordO (tot, ws)).length = ws.length := by rw [hperm.length_eq, rgU_len]; simp
  have srem : r * ws.sum = ((ordO (tot, ws)).map rem).sum := by
    have p1 := sum_perm (hperm.map rem)
    have p2 : (rgU (ws.length : Int)).map rem = ws.map fun w => tot * w % ws.sum := rgU_get ws fun w => tot * w % ws.sum
    have p3 := sum_divmod ws.sum (ws.map fun w => tot * w)
    rw [sum_mul, List.map_map, List.map_map] at p3
    have p4 : (flo (tot, ws)).sum = (ws.map ((fun x => x / ws.sum) ∘ fun w => tot * w)).sum := rfl
    have p5 : (ws.map fun w => tot * w % ws.sum) = ws.map ((fun x => x % ws.sum) ∘ fun w => tot * w) := rfl
    rw [p1, p2, p5, ← hr, Int.sub_mul, p4, Int.mul_comm (ws.map ((fun x => x / ws.sum) ∘ fun w => tot * w)).sum ws.sum]
    omega
  have remS : ∀ l : List Int, 0 ≤ (l.map rem).sum := fun l => sum_nn fun x m => by
    obtain ⟨k, _, rfl⟩ := List.mem_map.mp m
    exact (remB k).1
  have r0 : 0 ≤ r := by
    have h1 := remS (ordO (tot, ws))
    rw [← srem] at h1
    by_cases q : 0 ≤ r
    · exact q
    · have : r * ws.sum < 0 := Int.mul_neg_of_neg_of_pos (by omega) W0
      omega
  have remU : ∀ l : List Int, (l.map rem).sum ≤ l.length * (ws.sum - 1) := fun l => by
    have := sum_le_c (c := ws.sum - 1) (l := l.map rem) fun x m => by
      obtain ⟨k, _, rfl⟩ := List.mem_map.mp m
      have := (remB k).2
      omega
    rwa [List.length_map] at this
  have rn : r ≤ ws.length := by
    have h1 := remU (ordO (tot, ws))
    rw [← srem, hol] at h1
    have h2 : (ws.length : Int) * (ws.sum - 1) ≤ (ws.length : Int) * ws.sum := Int.mul_le_mul_of_nonneg_left (by omega) (by omega)
    exact Int.le_of_mul_le_mul_right (Int.le_trans h1 h2) W0
  rw [cutL_to _ r0] at e
  have hsp : ordO (tot, ws) = (ordO (tot, ws)).take r.toNat ++ (ordO (tot, ws)).drop r.toNat := (List.take_append_drop _ _).symm
  have hpw : (ordO (tot, ws)).Pairwise fun a b => rem b ≤ rem a := by
    refine (ord_pw (keyO (tot, ws)) (rgU (ws.length : Int))).imp fun {a b} h => ?_
    show tot * ws.getD b.toNat 0 % ws.sum ≤ tot * ws.getD a.toNat 0 % ws.sum
    have h' : -(tot * ws.getD a.toNat 0 % ws.sum) ≤ -(tot * ws.getD b.toNat 0 % ws.sum) := h
    omega
  have hmem : ∀ x, x ∈ (ordO (tot, ws)).take r.toNat → 0 ≤ x ∧ x < (ws.length : Int) := fun x m => mem_rgU (hperm.mem_iff.mp (List.mem_of_mem_take m))
  have hmem' : ∀ x ∈ (ordO (tot, ws)).take r.toNat, 0 ≤ x ∧ x < ((flo (tot, ws)).length : Int) := fun x m => by rw [hfl]; exact hmem x m
  have hget : ∀ k, 0 ≤ k → k < (ws.length : Int) → (shV (tot, ws)).getD k.toNat 0 = flA tot ws k + (if k ∈ (ordO (tot, ws)).take r.toNat then 1 else 0) := fun k h0 h1 => by
    rw [e, bump_get _ _ hmem' (hnd.sublist (List.take_sublist _ _)) k h0 (by rw [hfl]; exact h1), flA_get tot ws h0 h1]
  have rpos : ∀ k, k ∈ (ordO (tot, ws)).take r.toNat → 0 < rem k := fun k m => by
    obtain ⟨s, t, est⟩ := List.append_of_mem m
    by_cases q : 0 < rem k
    · exact q
    exfalso
    have k0 : rem k = 0 := by have := (remB k).1; omega
    have hlen : s.length < r.toNat := by
      have := congrArg List.length est
      rw [List.length_take, List.length_append, List.length_cons] at this
      omega
    have hsp2 : ordO (tot, ws) = s ++ k :: (t ++ (ordO (tot, ws)).drop r.toNat) := by
      rw [← List.cons_append, ← List.append_assoc, ← est]; exact hsp
    have z : ((t ++ (ordO (tot, ws)).drop r.toNat).map rem).sum = 0 := sum_zero fun x m => by
      obtain ⟨y, my, rfl⟩ := List.mem_map.mp m
      rw [hsp2] at hpw
      have := (List.pairwise_cons.mp (List.pairwise_append.mp hpw).2.1).1 y my
      have := (remB y).1
      omega
    have tot' := srem
    rw [hsp2, List.map_append, List.map_cons, List.sum_append, List.sum_cons, z, k0] at tot'
    have h1 := remU s
    have h2 : (s.length : Int) * (ws.sum - 1) ≤ (r - 1) * ws.sum := Int.mul_le_mul (by omega) (by omega) (by omega) (by omega)
    rw [Int.sub_mul, Int.one_mul] at h2
    omega
  refine ⟨⟨by show _ ≤ tot; omega, ht.2⟩, hl, hw, ?_, fun h => absurd h hz, fun _ => ?_, fun _ k h0 h1 => ?_, fun _ a b ha hb h1 h2 => ?_⟩
  · show (shV (tot, ws)).length = ws.length
    rw [e, bump_len, hfl]
  · show (shV (tot, ws)).sum = tot
    rw [e, bump_sum _ _ hmem', List.length_take, hol]
    omega
  · dsimp only at h1 ⊢
    rw [hget k h0 h1]
    have dm := Int.mul_ediv_add_emod (tot * ws.getD k.toNat 0) ws.sum
    have dm' : ws.sum * flA tot ws k + rem k = tot * ws.getD k.toNat 0 := dm
    have hb := remB k
    by_cases m : k ∈ (ordO (tot, ws)).take r.toNat
    · rw [if_pos m]
      have hp := rpos k m
      refine ⟨.inr rfl, ?_⟩
      rw [Int.add_mul, Int.one_mul, Int.mul_comm _ ws.sum]
      split <;> omega
    · rw [if_neg m, Int.add_zero]
      refine ⟨.inl rfl, ?_⟩
      rw [Int.mul_comm _ ws.sum]
      split <;> omega
  · dsimp only at ha hb h1 h2 ⊢
    rw [hget a ha.1 ha.2] at h1
    rw [hget b hb.1 hb.2] at h2
    have ma : a ∈ (ordO (tot, ws)).take r.toNat := by
      by_cases m : a ∈ (ordO (tot, ws)).take r.toNat
      · exact m
      · rw [if_neg m] at h1; omega
    have nb : b ∉ (ordO (tot, ws)).take r.toNat := fun m => by rw [if_pos m] at h2; omega
    have mb : b ∈ (ordO (tot, ws)).drop r.toNat := by
      have m : b ∈ ordO (tot, ws) := hperm.mem_iff.mpr (mem_rgU' hb.1 hb.2)
      rw [hsp] at m
      rcases List.mem_append.mp m with m | m
      · exact absurd m nb
      · exact m
    have hab : [a, b].Sublist (ordO (tot, ws)) := by
      rw [hsp]
      exact (List.singleton_sublist.mpr ma).append (List.singleton_sublist.mpr mb)
    have hle : rem b ≤ rem a := by
      rw [hsp] at hpw
      exact (List.pairwise_append.mp hpw).2.2 a ma b mb
    unfold befV
    dsimp only
    rw [Bool.or_eq_true, Bool.and_eq_true, decide_eq_true_iff, decide_eq_true_iff, decide_eq_true_iff]
    by_cases q : rem b < rem a
    · exact .inl q
    have qe : rem a = rem b := by omega
    refine .inr ⟨qe, ?_⟩
    by_cases lt : a < b
    · exact lt
    exfalso
    have ne : a ≠ b := by rintro rfl; exact nb ma
    have h3 : [b, a].Sublist (rgU (ws.length : Int)) := pair_in (rgU_pw _) (mem_rgU' hb.1 hb.2) (mem_rgU' ha.1 ha.2) (by omega)
    have h4 : [b, a].Sublist (ordO (tot, ws)) := ord_stable (keyO (tot, ws)) (by
      show -(rem b) ≤ -(rem a)
      omega) h3
    exact no_swap hnd hab h4
end K17

-- part K17d
set_option Elab.async false
set_option linter.all false
set_option maxRecDepth 100000
set_option maxHeartbeats 4000000
namespace K17
open PySem L2 Gx
open Rp (rp)
open Sc (toV)
variable [Tb]
section
variable {P : Program} {w : World} {K : PySem.W.Frag} {mg : Str → Option Value} {base : Heap}
/-- the classes that _law_refused names -/
structure RefTxt (K : PySem.W.Frag) (mg : Str → Option Value) (C : Addr) : Prop where
  gC : mg "Invalid" = some (.ref C)
  ex : ExcC K C
  te : PySem.W.exmOne K (.ref C) (.ref C) = some true
  pe : ∃ c, mg "ParcelError" = some (.ref c) ∧ PySem.W.kitOne K (.ref C) (.ref c) = some true
  ve : mg "ValueError" = none
  vk : PySem.W.kitOne K (.ref C) (.type "ValueError") = some true
  ot : ∃ c1 c2 c3 c4 c5 c6 c7, mg "BadLine" = some (.ref c1) ∧ mg "BadManifest" = some (.ref c2) ∧ mg "Contradiction" = some (.ref c3) ∧ mg "Late" = some (.ref c4) ∧ mg "Refused" = some (.ref c5) ∧ mg "TooMany" = some (.ref c6) ∧ mg "Unknown" = some (.ref c7) ∧
    PySem.W.kitAny K (.ref C) [.ref c1, .ref c2, .ref c3, .ref c4, .ref c5, .ref c6, .ref c7] = some false
def kl (c : Addr) : Kl := ⟨.ref c, .ref c, .own c⟩
abbrev spRefused (K : PySem.W.Frag) : Sp := Pm K (fun (i : Int × List Int) => A1 K i.1 (A1 K i.2 A0)) (fun _ => []) (fun i => shPre i ∧ bad i = true) (fun _ => true) (fun _ => [])
abbrev CShare (P : Program) (w : World) (K : PySem.W.Frag) (mg : Str → Option Value) (base : Heap) (C : Addr) := Cl P w K mg base (L2.CX P w) "share_out" ["total", "weights"] 5 (spShare C K)
theorem sc_refused : FnScope ["total", "weights", "e", "word", "base", "other"] ["total", "weights"] (defScope sRefused) := ⟨rfl, rfl, rfl, by decide +kernel, rfl, by decide +kernel, by decide +kernel⟩
theorem ok_refused {f C fI : Addr} {fd : FuncData} (F : Fun K "_law_refused" "_law_refused" sRefused f fd) (T : Txt K mg) (ET : PySem.ErrX.ErrTxt P K C fI "Invalid" "what") (R : RefTxt K mg C) (CS : CShare P w K mg base C) : FnOk P w K mg base CX0 6 f fd ["total", "weights"] (spRefused K) := by
  obtain ⟨cP, gP, kP⟩ := R.pe
  obtain ⟨c1, c2, c3, c4, c5, c6, c7, g1, g2, g3, g4, g5, g6, g7, kA⟩ := R.ot
  refine fn_pm F sc_refused (fun i vs G h => len2 h) fun cdv A' outer s H vs Q E ⟨tot, ws⟩ G hr hp ⟨v0, _, e, ht, v1, _, e2, hw, e3⟩ kq => ?_
  have e3 : _ = [] := e3
  subst e e2 e3
  obtain rfl : _ = V.int tot := ht
  obtain ⟨hp, hbad⟩ := hp
  refine b_tryAs (Wout := fun _ _ _ _ => False) (n := "e") (x := "Invalid") (c := .ref C) 2 rfl rfl sc_refused.nd rfl rfl ⟨rfl, by decide, .inl R.gC⟩ takes0 fun pn xe tk => ?_
  refine b_exprXN CS hr (PmXN.does (tot, ws) hp) (ea_cons (ex_nm (x := tot) 0 rfl) (ea_cons (ex_var (x := ws) 1 rfl hw) ea_nil)) tk (fun y0 ey => ?_) fun er ee dd G1 H1 gg1 st hdd => ?_
  · have z : shX C (tot, ws) = .ok y0 := ey
    unfold shX at z
    rw [hbad] at z
    cases z
  have z : shX C (tot, ws) = .error er := ee
  unfold shX at z
  rw [hbad] at z
  cases z
  refine was_yes R.te st fun a oe pn hz hf => ?_
  have eE : ∀ {σ : St} {p : Pos}, σ[2]? = some (some (.ref a)) → True := fun _ => trivial
  refine b_setS (x := true) 3 (ex_and (x := true) (y := true) (ex_isi (x := ("weights" : Str)) (b := true) (T := "str") (T' := "str") (ex_errF ET hz hf hdd rfl (ex_nm (x := Ow.mk a) 2 rfl)) rfl T.str (by decide +kernel) T.isinstance) fun _ => ex_one (ex_eq (x := ("weights" : Str)) (y := ("weights" : Str)) (ex_errF ET hz hf hdd rfl (ex_nm (x := Ow.mk a) 2 rfl)) ex_str)) ?_ sc_refused.nd
  refine b_setS (x := true) 4 (ex_and (x := true) (y := true) (ex_isE (c := kl cP) R.ex hz hf hdd (ex_nm (x := Ow.mk a) 2 rfl) (ex_gl gP rfl) kP T.isinstance) fun _ => ex_one (ex_isE (c := ⟨.ty "ValueError", .type "ValueError", .ty _⟩) R.ex hz hf hdd (ex_nm (x := Ow.mk a) 2 rfl) (Ev.to (pe_bltn (v := .ty "ValueError") rfl R.ve (by decide +kernel) rfl (by decide) (by decide)) (ev_c (x := (⟨.ty "ValueError", .type "ValueError", .ty _⟩ : Kl)))) R.vk T.isinstance)) ?_ sc_refused.nd
  refine b_setS (x := false) 5 (ex_isET (cs := [kl c1, kl c2, kl c3, kl c4, kl c5, kl c6, kl c7]) R.ex hz hf hdd (ex_nm (x := Ow.mk a) 2 rfl) (ei_cons (x := kl c1) (ex_gl g1 rfl) (ei_cons (x := kl c2) (ex_gl g2 rfl) (ei_cons (x := kl c3) (ex_gl g3 rfl) (ei_cons (x := kl c4) (ex_gl g4 rfl) (ei_cons (x := kl c5) (ex_gl g5 rfl) (ei_cons (x := kl c6) (ex_gl g6 rfl) (ei_cons (x := kl c7) (ex_gl g7 rfl) ei_nil))))))) (by show 7 ≤ 1000; decide) kA T.isinstance) ?_ sc_refused.nd
  exact b_retq kq (ex_and (x := true) (y := true) (ex_nm (x := true) 3 rfl) fun _ => ex_and (x := true) (y := true) (ex_nm (x := true) 4 rfl) fun _ => ex_one (ex_not (ex_nm (x := false) 5 rfl))) rfl
end
end K17

-- part K17e
set_option Elab.async false
set_option linter.all false
set_option maxRecDepth 100000
set_option maxHeartbeats 8000000
namespace K17
open PySem L2 Gx
open Rp (rp)
open Sc (toV)
/-! ### facts of the law's own lists -/
theorem bad_of {t : Int} {ws : List Int} {x : Int} (m : x ∈ ws) (h : x < 0) : bad (t, ws) = true := by
  unfold bad
  rw [Bool.or_eq_true]
  exact .inr (List.any_eq_true.mpr ⟨true, List.mem_map.mpr ⟨x, m, decide_eq_true h⟩, rfl⟩)
theorem bad_less {t : Int} (h : t < 0) (ws : List Int) : bad (t, ws) = true := by
  unfold bad
  rw [Bool.or_eq_true]
  exact .inl (decide_eq_true h)
theorem good {t : Int} {ws : List Int} (ht : 0 ≤ t) (hw : ∀ x ∈ ws, 0 ≤ x) : bad (t, ws) = false := by
  unfold bad
  rw [Bool.or_eq_false_iff]
  refine ⟨decide_eq_false (by show ¬ t < 0; omega), List.any_eq_false.mpr fun b m => ?_⟩
  obtain ⟨x, mx, rfl⟩ := List.mem_map.mp m
  have := hw x mx
  rw [decide_eq_false (show ¬ x < 0 by omega)]
  decide
theorem mem_set {l : List Int} {i : Nat} {x : Int} (h : i < l.length) : x ∈ l.set i x := List.mem_iff_getElem?.mpr ⟨i, List.getElem?_set_self h⟩
theorem set_all {l : List Int} {i : Nat} {x : Int} {Q : Int → Prop} (h : ∀ y ∈ l, Q y) (hx : Q x) : ∀ y ∈ l.set i x, Q y := fun y m => by
  rcases List.mem_or_eq_of_mem_set m with m | e
  · exact h y m
  · exact e ▸ hx
theorem set_map (l : List Int) (i : Nat) (x : Int) : (l.map toV).set i (toV x) = (l.set i x).map toV := (List.map_set).symm
theorem ixN_in {n : Nat} {k : Int} (h0 : 0 ≤ k) (h1 : k < (n : Int)) : ixN n k = some k.toNat := by
  unfold ixN
  rw [if_pos h0, if_pos (by omega)]
def nr0 (ws : List Int) : List Int := bif decide ((ws.length : Int) = 0) then ws ++ [0] else ws
theorem nr0_ok {ws : List Int} (h : wsOk ws) : wsOk (nr0 ws) ∧ 0 < (nr0 ws).length := by
  unfold nr0
  cases q : decide ((ws.length : Int) = 0)
  · have := of_decide_eq_false q
    exact ⟨h, by show 0 < ws.length; omega⟩
  · have := of_decide_eq_true q
    refine ⟨⟨by show (ws ++ [0]).length ≤ 60; rw [List.length_append]; simp; omega, fun x m => ?_⟩, by show 0 < (ws ++ [0]).length; simp⟩
    rcases List.mem_append.mp (show x ∈ ws ++ [0] from m) with m | m
    · exact h.2 x m
    · rw [List.mem_singleton.mp m]; decide
variable [Tb]
section
variable {P : Program} {w : World} {K : PySem.W.Frag} {mg : Str → Option Value} {base : Heap}
abbrev NL : List Str := ["script", "weights", "total", "box", "passed", "told", "less", "near", "at", "spoilt", "even", "bad", "more"]
theorem sc_law : FnScope NL ["script"] (defScope sLaw) := ⟨rfl, rfl, rfl, by decide +kernel, rfl, by decide +kernel, by decide +kernel⟩
abbrev CBox (P : Program) (w : World) (K : PySem.W.Frag) (mg : Str → Option Value) (base : Heap) := Cl P w K mg base CX0 "_law_box" ["script", "k"] 2 (spBox K)
abbrev CWeights (P : Program) (w : World) (K : PySem.W.Frag) (mg : Str → Option Value) (base : Heap) := Cl P w K mg base CX0 "_law_weights" ["box"] 2 (spWeights K)
abbrev CTotal (P : Program) (w : World) (K : PySem.W.Frag) (mg : Str → Option Value) (base : Heap) := Cl P w K mg base CX0 "_law_total" ["box", "whole"] 2 (spTotal K)
abbrev CFair (P : Program) (w : World) (K : PySem.W.Frag) (mg : Str → Option Value) (base : Heap) := Cl P w K mg base CX0 "_law_fair" ["total", "weights", "told"] 2 (spFair K)
abbrev CRef (P : Program) (w : World) (K : PySem.W.Frag) (mg : Str → Option Value) (base : Heap) := Cl P w K mg base CX0 "_law_refused" ["total", "weights"] 6 (spRefused K)
/-- share_out(..) where nothing is wrong -/
theorem does_sh {C : Addr} {S : Sto} {t : Int} {ws : List Int} (ht : 0 ≤ t ∧ t ≤ 1000000000000000000) (hl : ws.length ≤ 100) (hw : ∀ x ∈ ws, 0 ≤ x ∧ x ≤ 10000000000000000) : DoesN K (spShare C K) (A1 K t (A1 K ws A0)) S (shV (t, ws)) S :=
  ((PmXN.does (K := K) (A := fun (i : Int × List Int) => A1 K i.1 (A1 K i.2 A0)) (S := fun _ => []) (pre := shPre) (y := shX C) (S' := fun _ => []) (t, ws) ⟨⟨by show _ ≤ t; omega, ht.2⟩, hl, fun x m => by have := hw x m; omega⟩).frame0 S).ok (by
    show shX C (t, ws) = _
    unfold shX
    rw [good ht.1 fun x m => (hw x m).1]; rfl)
theorem does_fair {S : Sto} {t : Int} {ws : List Int} (ht : 0 ≤ t ∧ t ≤ 1000000000000000000) (hl : ws.length ≤ 100) (hw : ∀ x ∈ ws, 0 ≤ x ∧ x ≤ 10000000000000000) : Does K (spFair K) (A1 K t (A1 K ws (A1 K (shV (t, ws)) A0))) S true S :=
  (Pm.does (K := K) (A := fun (i : Int × List Int × List Int) => A1 K i.1 (A1 K i.2.1 (A1 K i.2.2 A0))) (S := fun _ => []) (pre := FairP) (y := fun _ => true) (S' := fun _ => []) (t, ws, shV (t, ws)) (shV_fair ht hl hw)).frame0
theorem does_ref {S : Sto} {t : Int} {ws : List Int} (ht : -1000000000000000000 ≤ t ∧ t ≤ 1000000000000000000) (hl : ws.length ≤ 100) (hw : ∀ x ∈ ws, -10000000000000000 ≤ x ∧ x ≤ 10000000000000000) (hb : bad (t, ws) = true) : Does K (spRefused K) (A1 K t (A1 K ws A0)) S true S :=
  (Pm.does (K := K) (A := fun (i : Int × List Int) => A1 K i.1 (A1 K i.2 A0)) (S := fun _ => []) (pre := fun i => shPre i ∧ bad i = true) (y := fun _ => true) (S' := fun _ => []) (t, ws) ⟨⟨ht, hl, hw⟩, hb⟩).frame0
theorem ok_law {f C : Addr} {fd : FuncData} (F : Fun K "law" "law" sLaw f fd) (T : Txt K mg) (CBx : CBox P w K mg base) (D : CD P w K mg base) (CW : CWeights P w K mg base) (CT : CTotal P w K mg base) (CS : CShare P w K mg base C) (CF : CFair P w K mg base) (CR : CRef P w K mg base) :
    FnOk P w K mg base CX0 7 f fd ["script"] (spLaw 63 K) := by
  refine fn_law F sc_law fun cdv A' outer s H0 H Q E a ns hr hs hl kq => ?_
  have hr2 := hr.mono (show 2 ≤ 6 by decide)
  have hr1 := hr.mono (show 1 ≤ 6 by decide)
  have hr5 := hr.mono (show 5 ≤ 6 by decide)
  have hS := hs
  have hW := weights_ok (boxV (ns, 0))
  refine b_set (x := (weightsX (boxV (ns, 0))).1) (S1 := []) 1 (EvN.frz (EvN.st (en_dcF (S1 := []) (S2 := []) (xs := bxL (boxV (ns, 0))) (boxV (ns, 0)) () CW hr2 trivial rfl (fun _ => trivial) ?o1 (fun q => ea_nil) pass0) rfl rfl)) (fun v1 G1 e1 hw => ?_) sc_law.nd
  case o1 => exact en_cl CBx hr2 (PmN.does (ns, 0) ⟨by show (0 : Int) ≤ 0; decide, by show (0 : Int) < 100; decide⟩) (ea_cons (ex_var (x := Scr.mk ns) 0 rfl hs) (ea_cons ex_int ea_nil)) pass0
  have hs1 := Rp.mono e1 hs
  generalize (weightsX (boxV (ns, 0))).1 = ws at hw hW
  have hsum := sum_bd (n := 1000000000000) (by decide) (fun x m => by have := hW.2 x m; omega : ∀ x ∈ ws, -1000000000000 ≤ x ∧ x ≤ 1000000000000)
  have hsn : 0 ≤ ws.sum := sum_nn fun x m => (hW.2 x m).1
  have hwl := hW.1
  have hsu : ws.sum ≤ 60000000000000 := by omega
  have hwB : ∀ x ∈ ws, 0 ≤ x ∧ x ≤ 10000000000000000 := fun x m => by have := hW.2 x m; omega
  have hwB2 : ∀ x ∈ ws, -10000000000000000 ≤ x ∧ x ≤ 10000000000000000 := fun x m => by have := hW.2 x m; omega
  have hT := total_ok (t := boxV (ns, 1)) (x := ws.sum) ⟨hsn, hsu⟩
  refine b_setS (x := (totalX (boxV (ns, 1), ws.sum)).1) 2 (S1 := []) (Ev.st (ex_dcF (S1 := []) (S2 := []) (xs := bxL (boxV (ns, 1))) (boxV (ns, 1)) ws.sum CT hr2 ⟨hsn, hsu⟩ rfl (fun _ => trivial) ?o2 (fun q => ea_cons (ex_sum rfl (Ev.lv (ex_var (x := ws) 1 rfl hw)) T.sum) ea_nil) pass0) rfl rfl) ?_ sc_law.nd
  case o2 => exact en_cl CBx hr2 (PmN.does (ns, 1) ⟨by show (0 : Int) ≤ 1; decide, by show (1 : Int) < 100; decide⟩) (ea_cons (ex_var (x := Scr.mk ns) 0 rfl hs1) (ea_cons ex_int ea_nil)) pass0
  generalize (totalX (boxV (ns, 1), ws.sum)).1 = tot at hT
  have hTB : 0 ≤ tot ∧ tot ≤ 1000000000000000000 := by omega
  refine b_setN (xs := bxL (boxV (ns, 2))) 3 (en_cl CBx hr2 (PmN.does (ns, 2) ⟨by show (0 : Int) ≤ 2; decide, by show (2 : Int) < 100; decide⟩) (ea_cons (ex_var (x := Scr.mk ns) 0 rfl hs1) (ea_cons ex_int ea_nil)) pass0) (fun b us G2 e2 hus hbB => ?_) sc_law.nd
  have eus := Its.sc hus
  subst eus
  have hw2 := Rp.mono e2 hw
  generalize hbx : boxV (ns, 2) = t
  rw [show HO.lst ((bxL t).map toV) = bxO t from rfl]
  refine b_set (x := ws) 4 (EvN.frz (en_list (Ev.lv (ex_var (x := ws) 1 rfl hw2)) T.list)) (fun v4 G3 e3 hp => ?_) sc_law.nd
  have hw3 := Rp.mono e3 hw2
  refine b_setN (xs := shV (tot, ws)) 5 (en_cl CS hr5 (does_sh hTB (by omega) hwB) (ea_cons (ex_nm (x := tot) 2 rfl) (ea_cons (ex_var (x := ws) 4 rfl hp) ea_nil)) passX0) (fun l us G4 e4 hus hlB => ?_) sc_law.nd
  have eus := Its.sc hus
  subst eus
  have hw4 := Rp.mono e4 hw3
  have hp4 := Rp.mono e4 hp
  have hne : (!decide (ws = ws)) = false := by simp
  have hlen : (shV (tot, ws)).length = ws.length := (shV_fair hTB (by omega) hwB).len
  refine b_when (k := false) (EvT.is (et_w (ew_or (et_neD (x := ws) (y := ws) (Room.eqU hr1) (Ev.dt (ex_var (x := ws) 4 rfl hp4)) (Ev.dt (ex_var (x := ws) 1 rfl hw4)) (fun _ _ => trivial) (fun _ _ => trivial)) fun _ => ew_or1 (et_not (et_val (ex_cl CF hr2 (Does.lend (o := .lst ((shV (tot, ws)).map toV)) 0 (Pm.does (tot, ws, shV (tot, ws)) (shV_fair hTB (by omega) hwB)) rfl (fun vs G ⟨v, r, q1, q2, v', r', q3, q4, v'', r'', q5, q6, q7⟩ sm => ⟨v, r, q1, Rp.mono sm q2, v', r', q3, Rp.mono sm q4, v'', r'', q5, by
      rw [show v'' = V.ref l from q6]
      exact rp_frozen (Its.ofSc _) sm, q7⟩)) (ea_cons (ex_nm (x := tot) 2 rfl) (ea_cons (ex_var (x := ws) 1 rfl hw4) (ea_cons (ex_nm (x := Ow.mk l) 5 rfl) ea_nil))) pass0))))) (by rw [hne]; rfl)) (fun q => by cases q) fun _ => ?_
  refine b_app (x := tot) 0 (ex_nm (x := Ow.mk l) 5 rfl) (ex_nm (x := tot) 2 rfl) rfl (vs0 := (shV (tot, ws)).map toV) List.mem_cons_self (by rw [List.length_map, hlen]; omega) (fun v5 G5 e5 r5 => ?_)
  obtain rfl : v5 = V.int tot := r5
  refine b_setixS (x := (-1 : Int)) 0 (ex_neg ex_int) (fun _ => ex_nm (x := Ow.mk l) 5 rfl) (fun _ => ex_int) rfl (m := 0) (ixN_in (by decide) (by rw [List.length_append]; simp)) ?_
  have hw5 := Rp.mono e5 hw4
  have hp5 := Rp.mono e5 hp4
  generalize HO.lst ((((shV (tot, ws)).map toV) ++ [V.int tot]).set 0 (toV (-1 : Int))) = tO
  show At _ _ _ _ [(l, tO), (b, bxO t)]
  refine b_when (k := false) (EvT.is (et_neD (x := ws) (y := ws) (Room.eqU hr1) (Ev.dt (ex_var (x := ws) 4 rfl hp5)) (Ev.dt (ex_var (x := ws) 1 rfl hw5)) (fun _ _ => trivial) (fun _ _ => trivial)) hne) (fun q => by cases q) fun _ => ?_
  refine b_when (k := false) (EvT.is (et_not (et_val (ex_cl CF hr2 (does_fair hTB (by omega) hwB) (ea_cons (ex_nm (x := tot) 2 rfl) (ea_cons (ex_var (x := ws) 1 rfl hw5) (ea_cons (EvN.frz (en_cl CS hr5 (does_sh hTB (by omega) hwB) (ea_cons (ex_nm (x := tot) 2 rfl) (ea_cons (EvN.frz (en_list (Ev.lv (ex_var (x := ws) 1 rfl hw5)) T.list)) ea_nil)) passX0)) ea_nil))) pass0))) rfl) (fun q => by cases q) fun _ => ?_
  have hlt := drV_lt (t := t) (m := 1000000000) (by decide)
  refine b_setS (x := (-1 : Int) - drV t 1000000000) 6 (ex_sub (ex_neg ex_int) (ex_dc 1 t 1000000000 D hr1 (by decide) rfl (fun _ _ => trivial) (ex_nm (x := Ow.mk b) 3 rfl) (ea_cons (Ev.is (ex_pow ex_int ex_int ⟨by decide, by decide, by decide⟩) (by decide)) ea_nil) pass0)) ?_ sc_law.nd
  show At _ _ _ _ [(l, tO), (b, bxO (drN t 1000000000))]
  generalize drN t 1000000000 = t2
  have hle : -1000000001 ≤ (-1 : Int) - drV t 1000000000 ∧ (-1 : Int) - drV t 1000000000 < 0 := by omega
  generalize (-1 : Int) - drV t 1000000000 = less at hle
  have hleB : -1000000000000000000 ≤ less ∧ less ≤ 1000000000000000000 := by omega
  refine b_when (k := false) (EvT.is (et_w (ew_or (et_not (et_val (ex_cl CR hr (does_ref hleB (by omega) hwB2 (bad_less hle.2 ws)) (ea_cons (ex_nm (x := less) 6 rfl) (ea_cons (EvN.frz (en_list (Ev.lv (ex_var (x := ws) 1 rfl hw5)) T.list)) ea_nil)) pass0))) fun _ => ew_or1 (et_not (et_val (ex_cl CR hr (does_ref (ws := []) hleB (by decide) (fun _ m => by cases m) (bad_less hle.2 [])) (ea_cons (ex_nm (x := less) 6 rfl) (ea_cons (EvN.frz (en_lst (xs := ([] : List Int)) ei_nil (by decide))) ea_nil)) pass0))))) rfl) (fun q => by cases q) fun _ => ?_
  refine b_setN (xs := ws) 7 (en_list (Ev.lv (ex_var (x := ws) 1 rfl hw5)) T.list) (fun nr us G6 e6 hus hnB => ?_) sc_law.nd
  have eus := Its.sc hus
  subst eus
  have hw6 := Rp.mono e6 hw5
  have hwl2 : ws.length < 100000 := by omega
  refine b_cut (fun σ G1 S1 => σ = [some (.ref a), some v1, some (.int tot), some (.ref b), some v4, some (.ref l), some (.int less), some (.ref nr), none, none, none, none, none] ∧ Same G6 G1 ∧ S1 = [(nr, .lst ((nr0 ws).map toV)), (l, tO), (b, bxO t2)]) ?_ ?_
  · refine s_if (k := decide ((ws.length : Int) = 0)) (et_eq (ex_len (el_own 7 0 rfl rfl (Its.ofSc ws)) T.len) ex_int) (fun q => ?_) (fun q => ?_)
    · refine b_app (x := (0 : Int)) 0 (ex_nm (x := Ow.mk nr) 7 rfl) ex_int rfl (vs0 := ws.map toV) List.mem_cons_self (by rw [List.length_map]; exact hwl2) (fun v7 G7 e7 r7 => ?_)
      obtain rfl : v7 = V.int 0 := r7
      refine b_nil (at_cut ⟨rfl, e7, ?_⟩)
      unfold nr0; rw [q]
      show [(nr, HO.lst (ws.map toV ++ [V.int 0])), _, _] = [(nr, HO.lst ((ws ++ [0]).map toV)), _, _]
      rw [List.map_append]; rfl
    · refine b_nil (at_cut ⟨rfl, Same.refl _, ?_⟩)
      unfold nr0; rw [q]; rfl
  rintro σ1 G7 S1 ⟨rfl, e7, rfl⟩
  have hw7 := Rp.mono e7 hw6
  obtain ⟨hN, hN0⟩ := nr0_ok hW
  generalize nr0 ws = n0 at hN hN0 ⊢
  have hNl := hN.1
  refine b_setS (x := drV t2 (n0.length : Int)) 8 (ex_dc 2 t2 (n0.length : Int) D hr1 (by show (n0.length : Int) ≤ 1000000000000000000; omega) rfl (fun _ _ => trivial) (ex_nm (x := Ow.mk b) 3 rfl) (ea_cons (ex_len (el_own 7 0 rfl rfl (Its.ofSc n0)) T.len) ea_nil) pass0) ?_ sc_law.nd
  show At _ _ _ _ [(nr, .lst (n0.map toV)), (l, tO), (b, bxO (drN t2 (n0.length : Int)))]
  have hat := drV_lt (t := t2) (m := (n0.length : Int)) (by omega)
  generalize drN t2 (n0.length : Int) = t3
  generalize drV t2 (n0.length : Int) = p at hat
  refine b_setixS (x := (0 : Int)) 0 ex_int (fun _ => ex_nm (x := Ow.mk nr) 7 rfl) (fun _ => ex_nm (x := p) 8 rfl) rfl (m := p.toNat) (ixN_in hat.1 (by rw [List.length_map]; exact hat.2)) ?_
  rw [set_map]
  have hn1 : ∀ x ∈ n0.set p.toNat 0, 0 ≤ x ∧ x < 1000000000000 := set_all hN.2 (by decide)
  have hn1l : (n0.set p.toNat 0).length = n0.length := List.length_set
  generalize n0.set p.toNat 0 = nn at hn1 hn1l
  show At _ _ _ _ [(nr, .lst (nn.map toV)), (l, tO), (b, bxO t3)]
  refine at_freeze 0 rfl hnB fun g1 => ?_
  have hnr : rp K nn (.ref nr) (upd G7 nr (.lst (nn.map toV))) := rp_frozen (Its.ofSc nn) g1
  generalize upd G7 nr (.lst (nn.map toV)) = G8 at hnr g1
  show At _ _ _ _ [(l, tO), (b, bxO t3)]
  have hplt : p.toNat < nn.length := by omega
  refine b_setN (xs := nn) 9 (en_list (Ev.lv (ex_var (x := nn) 7 rfl hnr)) T.list) (fun sp us G9 e9 hus hspB => ?_) sc_law.nd
  have eus := Its.sc hus
  subst eus
  refine b_setixS (x := less) 0 (ex_nm (x := less) 6 rfl) (fun _ => ex_nm (x := Ow.mk sp) 9 rfl) (fun _ => ex_nm (x := p) 8 rfl) rfl (m := p.toNat) (ixN_in hat.1 (by rw [List.length_map]; omega)) ?_
  rw [set_map]
  show At _ _ _ _ [(sp, .lst ((nn.set p.toNat less).map toV)), (l, tO), (b, bxO t3)]
  refine at_freeze 0 rfl hspB fun g2 => ?_
  have hsp : rp K (nn.set p.toNat less) (.ref sp) (upd G9 sp (.lst ((nn.set p.toNat less).map toV))) := rp_frozen (Its.ofSc _) g2
  have hnr9 := Rp.mono (e9.trans g2) hnr
  generalize upd G9 sp (.lst ((nn.set p.toNat less).map toV)) = G10 at hsp hnr9 g2
  show At _ _ _ _ [(l, tO), (b, bxO t3)]
  refine b_setN (xs := nn ++ [1]) 10 (en_cat (ex_var (x := nn) 7 rfl hnr9) (EvN.frz (en_lst (xs := [(1 : Int)]) (ei_cons ex_int ei_nil) (by decide))) (by simp; omega)) (fun ev us G11 e11 hus hevB => ?_) sc_law.nd
  have eus := Its.sc hus
  subst eus
  refine b_setixS (x := -(nn ++ [1]).sum) 0 (ex_neg (ex_sum rfl (el_own 10 0 rfl rfl (Its.ofSc (nn ++ [1]))) T.sum)) (fun _ => ex_nm (x := Ow.mk ev) 10 rfl) (fun _ => ex_nm (x := p) 8 rfl) rfl (m := p.toNat) (ixN_in hat.1 (by rw [List.length_map, List.length_append]; omega)) ?_
  rw [set_map]
  show At _ _ _ _ [(ev, .lst (((nn ++ [1]).set p.toNat (-(nn ++ [1]).sum)).map toV)), (l, tO), (b, bxO t3)]
  refine at_freeze 0 rfl hevB fun g3 => ?_
  have hev : rp K ((nn ++ [1]).set p.toNat (-(nn ++ [1]).sum)) (.ref ev) (upd G11 ev (.lst (((nn ++ [1]).set p.toNat (-(nn ++ [1]).sum)).map toV))) := rp_frozen (Its.ofSc _) g3
  have hnr11 := Rp.mono (e11.trans g3) hnr9
  have hsp11 := Rp.mono (e11.trans g3) hsp
  generalize upd G11 ev (.lst (((nn ++ [1]).set p.toNat (-(nn ++ [1]).sum)).map toV)) = G12 at hev hnr11 hsp11 g3
  show At _ _ _ _ [(l, tO), (b, bxO t3)]
  have hnsum := sum_bd (n := 1000000000000) (by decide) (fun x m => by have := hn1 x m; omega : ∀ x ∈ nn, -1000000000000 ≤ x ∧ x ≤ 1000000000000)
  have hnsn : 0 ≤ nn.sum := sum_nn fun x m => (hn1 x m).1
  have hes : (nn ++ [1]).sum = nn.sum + 1 := by rw [List.sum_append]; rfl
  have hcase : ∀ x ∈ [nn.set p.toNat less, (nn ++ [1]).set p.toNat (-(nn ++ [1]).sum)], x.length ≤ 100 ∧ (∀ y ∈ x, -10000000000000000 ≤ y ∧ y ≤ 10000000000000000) ∧ ∀ t, bad (t, x) = true := fun x m => by
    rcases List.mem_cons.mp m with rfl | m
    · exact ⟨by rw [List.length_set]; omega, set_all (fun y m => by have := hn1 y m; omega) (by omega), fun t => bad_of (mem_set hplt) hle.2⟩
    · rw [List.mem_singleton] at m
      subst m
      refine ⟨by rw [List.length_set, List.length_append]; simp; omega, set_all (fun y m => ?_) (by omega), fun t => bad_of (mem_set (by rw [List.length_append]; omega)) (by omega)⟩
      rcases List.mem_append.mp m with m | m
      · have := hn1 y m; omega
      · rw [List.mem_singleton.mp m]; decide
  refine b_for (xs := [nn.set p.toNat less, (nn ++ [1]).set p.toNat (-(nn ++ [1]).sum)]) (fun r σ' G' S' => ∃ (c : Option V), σ' = [some (.ref a), some v1, some (.int tot), some (.ref b), some v4, some (.ref l), some (.int less), some (.ref nr), some (.int p), some (.ref sp), some (.ref ev), c, none] ∧ S' = [(l, tO), (b, bxO t3)])
    (ei_list (EvN.fz (en_lst (ei_cons (ex_var 9 rfl hsp11) (ei_cons (ex_var 10 rfl hev) ei_nil)) (by show 2 ≤ 100000; decide)))) (tg_nm (j := 11)) (fun G1 _ => ⟨none, rfl, rfl⟩) ?s1 ?d1 (pi_list (pE _)) (pg_name (i := 11) sc_law.nd rfl (Or.inl rfl)) PassesOwn.never
  case s1 =>
    rintro x r vs' σ' G13 G14 S' e13 e14 sf ⟨c, rfl, rfl⟩ ⟨v, rfl, rv⟩
    obtain ⟨hx1, hx2, hx3⟩ := hcase x (sf.subset List.mem_cons_self)
    refine b_when (k := false) (EvT.is (et_w (ew_or (et_not (et_val (ex_cl CR hr (does_ref (by omega : -1000000000000000000 ≤ tot ∧ tot ≤ 1000000000000000000) hx1 hx2 (hx3 tot)) (ea_cons (ex_nm (x := tot) 2 rfl) (ea_cons (EvN.frz (en_list (Ev.lv (ex_var (x := x) 11 rfl rv)) T.list)) ea_nil)) pass0))) fun _ => ew_or1 (et_not (et_val (ex_cl CR hr (does_ref hleB hx1 hx2 (hx3 less)) (ea_cons (ex_nm (x := less) 6 rfl) (ea_cons (EvN.frz (en_list (Ev.lv (ex_var (x := x) 11 rfl rv)) T.list)) ea_nil)) pass0))))) rfl) (fun q => by cases q) fun _ => ?_
    exact b_nil (at_nx e14 ⟨_, rfl, rfl⟩)
  case d1 =>
  rintro σ2 G13 S2 e13 ⟨c2, rfl, rfl⟩
  have hnr13 := Rp.mono e13 hnr11
  have hnB' : ∀ x ∈ nn, 0 ≤ x ∧ x ≤ 10000000000000000 := fun x m => by have := hn1 x m; omega
  refine b_when (k := false) (EvT.is (et_not (et_val (ex_cl CF hr2 (does_fair (ws := []) hTB (by decide) (fun _ m => by cases m)) (ea_cons (ex_nm (x := tot) 2 rfl) (ea_cons (EvN.frz (en_lst (xs := ([] : List Int)) ei_nil (by decide))) (ea_cons (EvN.frz (en_cl CS hr5 (does_sh (ws := []) hTB (by decide) (fun _ m => by cases m)) (ea_cons (ex_nm (x := tot) 2 rfl) (ea_cons (EvN.frz (en_lst (xs := ([] : List Int)) ei_nil (by decide))) ea_nil)) passX0)) ea_nil))) pass0))) rfl) (fun q => by cases q) fun _ => ?_
  refine b_set (x := nn ++ [1 + drV t3 9, 1 + drV (drN t3 9) 9]) (S1 := [(l, tO), (b, bxO (drN (drN t3 9) 9))]) 12 (EvN.frz (en_cat (ex_var (x := nn) 7 rfl hnr13) (EvN.frz (en_lst (xs := [1 + drV t3 9, 1 + drV (drN t3 9) 9]) (ei_cons (ex_add ex_int (ex_dc 1 t3 9 D hr1 (by decide) rfl (fun _ _ => trivial) (ex_nm (x := Ow.mk b) 3 rfl) (ea_cons ex_int ea_nil) pass0)) (ei_cons (ex_add ex_int (ex_dc 1 (drN t3 9) 9 D hr1 (by decide) rfl (fun _ _ => trivial) (ex_nm (x := Ow.mk b) 3 rfl) (ea_cons ex_int ea_nil) pass0)) ei_nil)) (by show 2 ≤ 100000; decide))) (by simp; omega))) (fun v12 G15 e15 hmo => ?_) sc_law.nd
  have hnr15 := Rp.mono e15 hnr13
  have d1 := drV_lt (t := t3) (m := 9) (by decide)
  have d2 := drV_lt (t := drN t3 9) (m := 9) (by decide)
  have hmB : ∀ x ∈ nn ++ [1 + drV t3 9, 1 + drV (drN t3 9) 9], 0 ≤ x ∧ x ≤ 10000000000000000 := fun x m => by
    rcases List.mem_append.mp m with m | m
    · exact hnB' x m
    · rcases List.mem_cons.mp m with rfl | m
      · omega
      · rw [List.mem_singleton.mp m]; omega
  have hml : (nn ++ [1 + drV t3 9, 1 + drV (drN t3 9) 9]).length ≤ 100 := by simp; omega
  generalize nn ++ [1 + drV t3 9, 1 + drV (drN t3 9) 9] = mo at hmo hmB hml
  have hT1 : 0 ≤ 1 + tot ∧ 1 + tot ≤ 1000000000000000000 := by omega
  refine b_when (k := false) (EvT.is (et_not (et_val (ex_cl CF hr2 (does_fair hT1 hml hmB) (ea_cons (ex_add ex_int (ex_nm (x := tot) 2 rfl)) (ea_cons (ex_var (x := mo) 12 rfl hmo) (ea_cons (EvN.frz (en_cl CS hr5 (does_sh hT1 hml hmB) (ea_cons (ex_add ex_int (ex_nm (x := tot) 2 rfl)) (ea_cons (EvN.frz (en_list (Ev.lv (ex_var (x := mo) 12 rfl hmo)) T.list)) ea_nil)) passX0)) ea_nil))) pass0))) rfl) (fun q => by cases q) fun _ => ?_
  exact b_retq (kq _) (ex_cl CF hr2 (does_fair hTB (by omega) hnB') (ea_cons (ex_nm (x := tot) 2 rfl) (ea_cons (ex_var (x := nn) 7 rfl hnr15) (ea_cons (EvN.frz (en_cl CS hr5 (does_sh hTB (by omega) hnB') (ea_cons (ex_nm (x := tot) 2 rfl) (ea_cons (EvN.frz (en_list (Ev.lv (ex_var (x := nn) 7 rfl hnr15)) T.list)) ea_nil)) passX0)) ea_nil))) pass0) rfl
end
end K17

-- part K17f
set_option Elab.async false
set_option linter.all false
set_option maxRecDepth 100000
set_option maxHeartbeats 4000000
namespace K17
open PySem L2 Gx
/-! ### what the top has written -/
theorem all_mk {l : PySem.W.OpenLaw} {w : World} {K : PySem.W.Frag} {h : Heap} {mg : Str → Option Value} {fa f1 f2 f3 f4 f5 f6 f7 f8 f9 f10 f11 c1 P1 eC1 eI1 ea1 ec1 xP x1 x2 x3 x4 x5 x6 x7 : Addr} {od1 an1 od2 an2 od3 an3 od4 an4 od5 an5 od6 an6 od7 an7 od8 an8 od9 an9 od10 an10 od11 an11 tdd1 eod1 ean1 ecdd1 ecld1 : Option Addr} {sl1 sl2 sl3 sl4 sl5 sl6 sl7 sl8 sl9 sl10 sl11 tsl1 eosl1 eccs1 ecsl1 : Array (Option Value)} {oc1 kV1 dc1 pm1 ct1 oc2 kV2 dc2 pm2 ct2 cd2 oc3 kV3 dc3 pm3 ct3 cd3 oc4 kV4 dc4 pm4 ct4 cd4 oc5 kV5 dc5 pm5 ct5 cd5 oc6 kV6 dc6 pm6 ct6 cd6 oc7 kV7 dc7 pm7 ct7 cd7 oc8 kV8 dc8 pm8 ct8 cd8 oc9 kV9 dc9 pm9 ct9 cd9 oc10 kV10 dc10 pm10 ct10 cd10 oc11 kV11 dc11 pm11 ct11 cd11 tcl1 eoc1 ekV1 edoc1 epm1 ect1 eccl1 ecl1 : Value} {tvs1 evs1 : Array Value} {qn1 txt1 file1 : Str} {ej1 : Nat} {p1_1 p2_1 a1_1 a2_1 a3_1 a4_1 a5_1 a6_1 q1_1 q2_1 q3_1 q4_1 : Pos} {etf1} (X : K.In h) (G : h.Ns mainGlobals mg) (hfa : mg "law" = some (.ref fa))
    (a1 : PySem.W.nsIn K mainGlobals "share_out" = some (some (.ref f1)))
    (l1 : K.lookup f1 = some ⟨oc1, od1, .func (PySem.W.fnOf "share_out" "share_out" (defArgs sShare) (defBody sShare) (defScope sShare) .none kV1 dc1 pm1 an1 (.ref c1) ct1), sl1⟩)
    (cc1 : PySem.W.codeIn K (.ref c1) "share_out" = true)
    (k1 : PySem.W.keepIn K (.ref f1) = true)
    (tl1 : K.lookup c1 = some ⟨tcl1, tdd1, .fields tvs1, tsl1⟩)
    (tv1 : tvs1[11]? = some (.ref P1))
    (th1 : PySem.W.codeHdIn K c1 P1 = true)
    (tn1 : K.lookup P1 = none)
    (tt1 : h.get? P1 = some { cls := .none, data := .fields #[] })
    (a2 : PySem.W.nsIn K mainGlobals "_law_cell" = some (some (.ref f2)))
    (l2 : K.lookup f2 = some ⟨oc2, od2, .func (PySem.W.fnOf "_law_cell" "_law_cell" (defArgs sCell) (defBody sCell) (defScope sCell) .none kV2 dc2 pm2 an2 cd2 ct2), sl2⟩)
    (cc2 : PySem.W.codeIn K cd2 "_law_cell" = true)
    (k2 : PySem.W.keepIn K (.ref f2) = true)
    (a3 : PySem.W.nsIn K mainGlobals "_law_box" = some (some (.ref f3)))
    (l3 : K.lookup f3 = some ⟨oc3, od3, .func (PySem.W.fnOf "_law_box" "_law_box" (defArgs sBox) (defBody sBox) (defScope sBox) .none kV3 dc3 pm3 an3 cd3 ct3), sl3⟩)
    (cc3 : PySem.W.codeIn K cd3 "_law_box" = true)
    (k3 : PySem.W.keepIn K (.ref f3) = true)
    (a4 : PySem.W.nsIn K mainGlobals "_law_draw" = some (some (.ref f4)))
    (l4 : K.lookup f4 = some ⟨oc4, od4, .func (PySem.W.fnOf "_law_draw" "_law_draw" (defArgs sDraw) (defBody sDraw) (defScope sDraw) .none kV4 dc4 pm4 an4 cd4 ct4), sl4⟩)
    (cc4 : PySem.W.codeIn K cd4 "_law_draw" = true)
    (k4 : PySem.W.keepIn K (.ref f4) = true)
    (a5 : PySem.W.nsIn K mainGlobals "_law_weights" = some (some (.ref f5)))
    (l5 : K.lookup f5 = some ⟨oc5, od5, .func (PySem.W.fnOf "_law_weights" "_law_weights" (defArgs sWeights) (defBody sWeights) (defScope sWeights) .none kV5 dc5 pm5 an5 cd5 ct5), sl5⟩)
    (cc5 : PySem.W.codeIn K cd5 "_law_weights" = true)
    (k5 : PySem.W.keepIn K (.ref f5) = true)
    (a6 : PySem.W.nsIn K mainGlobals "_law_total" = some (some (.ref f6)))
    (l6 : K.lookup f6 = some ⟨oc6, od6, .func (PySem.W.fnOf "_law_total" "_law_total" (defArgs sTotal) (defBody sTotal) (defScope sTotal) .none kV6 dc6 pm6 an6 cd6 ct6), sl6⟩)
    (cc6 : PySem.W.codeIn K cd6 "_law_total" = true)
    (k6 : PySem.W.keepIn K (.ref f6) = true)
    (a7 : PySem.W.nsIn K mainGlobals "_law_is_integer" = some (some (.ref f7)))
    (l7 : K.lookup f7 = some ⟨oc7, od7, .func (PySem.W.fnOf "_law_is_integer" "_law_is_integer" (defArgs sIsInt) (defBody sIsInt) (defScope sIsInt) .none kV7 dc7 pm7 an7 cd7 ct7), sl7⟩)
    (cc7 : PySem.W.codeIn K cd7 "_law_is_integer" = true)
    (k7 : PySem.W.keepIn K (.ref f7) = true)
    (a8 : PySem.W.nsIn K mainGlobals "_law_before" = some (some (.ref f8)))
    (l8 : K.lookup f8 = some ⟨oc8, od8, .func (PySem.W.fnOf "_law_before" "_law_before" (defArgs sBefore) (defBody sBefore) (defScope sBefore) .none kV8 dc8 pm8 an8 cd8 ct8), sl8⟩)
    (cc8 : PySem.W.codeIn K cd8 "_law_before" = true)
    (k8 : PySem.W.keepIn K (.ref f8) = true)
    (a9 : PySem.W.nsIn K mainGlobals "_law_fair" = some (some (.ref f9)))
    (l9 : K.lookup f9 = some ⟨oc9, od9, .func (PySem.W.fnOf "_law_fair" "_law_fair" (defArgs sFair) (defBody sFair) (defScope sFair) .none kV9 dc9 pm9 an9 cd9 ct9), sl9⟩)
    (cc9 : PySem.W.codeIn K cd9 "_law_fair" = true)
    (k9 : PySem.W.keepIn K (.ref f9) = true)
    (a10 : PySem.W.nsIn K mainGlobals "_law_refused" = some (some (.ref f10)))
    (l10 : K.lookup f10 = some ⟨oc10, od10, .func (PySem.W.fnOf "_law_refused" "_law_refused" (defArgs sRefused) (defBody sRefused) (defScope sRefused) .none kV10 dc10 pm10 an10 cd10 ct10), sl10⟩)
    (cc10 : PySem.W.codeIn K cd10 "_law_refused" = true)
    (k10 : PySem.W.keepIn K (.ref f10) = true)
    (a11 : PySem.W.nsIn K mainGlobals "law" = some (some (.ref f11)))
    (l11 : K.lookup f11 = some ⟨oc11, od11, .func (PySem.W.fnOf "law" "law" (defArgs sLaw) (defBody sLaw) (defScope sLaw) .none kV11 dc11 pm11 an11 cd11 ct11), sl11⟩)
    (cc11 : PySem.W.codeIn K cd11 "law" = true)
    (k11 : PySem.W.keepIn K (.ref f11) = true)
    (z_len : PySem.W.nsIn K mainGlobals "len" = some none)
    (z_int : PySem.W.nsIn K mainGlobals "int" = some none)
    (z_sum : PySem.W.nsIn K mainGlobals "sum" = some none)
    (z_list : PySem.W.nsIn K mainGlobals "list" = some none)
    (z_range : PySem.W.nsIn K mainGlobals "range" = some none)
    (z_isinstance : PySem.W.nsIn K mainGlobals "isinstance" = some none)
    (z_abs : PySem.W.nsIn K mainGlobals "abs" = some none)
    (z_any : PySem.W.nsIn K mainGlobals "any" = some none)
    (z_sorted : PySem.W.nsIn K mainGlobals "sorted" = some none)
    (z_str : PySem.W.nsIn K mainGlobals "str" = some none)
    (z_bool : PySem.W.nsIn K mainGlobals "bool" = some none)
    (e1_g : PySem.W.nsIn K mainGlobals "Invalid" = some (some (.ref eC1)))
    (e1_cls : PySem.ErrX.ErrCls K eC1)
    (e1_sa : PySem.W.findIn K (.ref eC1) "__setattr__" = some (some (.builtin "object.__setattr__")))
    (e1_ga : PySem.W.findIn K (.ref eC1) "__getattribute__" = some (some (.builtin "BaseException.__getattribute__")))
    (e1_gg : PySem.W.findIn K (.ref eC1) "__getattr__" = some none)
    (e1_noN : PySem.W.findIn K (.ref eC1) "what" = some none)
    (e1_iC : PySem.W.findIn K (.ref eC1) "__init__" = some (some (.ref eI1)))
    (e1_tC : PySem.W.typeIn K (.ref eI1) = some (.type "function"))
    (e1_kC : PySem.W.keepIn K (.ref eC1) = true)
    (e1_exC : PySem.W.subIn K (.ref eC1) (.type "BaseException") = some true)
    (e1_veC : PySem.W.subIn K (.ref eC1) (.type "ValueError") = some true)
    (e1_tyC : PySem.W.typeIn K (.ref eC1) = some (.type "type"))
    (e1_hdC : PySem.W.hasDictIn K eC1 = true)
    (e1_te : PySem.W.exmOne K (.ref eC1) (.ref eC1) = some true)
    (e1_mro : PySem.W.mroIn K eC1 (.ref eC1) = some true)
    (e1_sup : PySem.W.ks_superIn K eC1 eC1 "__init__" = some (some (.builtin "ValueError.__init__")))
    (e1_eF : K.lookup eI1 = some ⟨eoc1, eod1, .func (PySem.W.fnX "__init__" qn1 (PySem.ErrX.iA "what" p1_1 p2_1) (PySem.ErrX.iB "what" txt1 ej1 a1_1 a2_1 a3_1 a4_1 a5_1 a6_1 q1_1 q2_1 q3_1 q4_1) (PySem.ErrX.iS "what") [("__class__", ec1)] .none ekV1 edoc1 epm1 ean1 (.ref ea1) ect1), eosl1⟩)
    (e1_hq : qn1 = "Invalid" ++ ".__init__")
    (e1_eK : PySem.W.codeIn K (.ref ea1) qn1 = true)
    (e1_eD : K.lookup ea1 = some ⟨eccl1, ecdd1, .fields evs1, eccs1⟩)
    (e1_eV : evs1[2]? = some (.str file1 etf1))
    (e1_eM : ((l.prog.main.file : Str) == file1) = true)
    (e1_eX : K.lookup ec1 = some ⟨ecl1, ecld1, .cell (some (.ref eC1)), ecsl1⟩)
    (e1_eS : PySem.ErrX.SupEval txt1 ej1 a1_1 a2_1 a3_1 a4_1 a5_1)
    (e1_eT : txt1.length ≤ sizeLine)
    (e1_eB : ∀ a b : Value, bindArgs (PySem.W.fnX "__init__" qn1 (PySem.ErrX.iA "what" p1_1 p2_1) (PySem.ErrX.iB "what" txt1 ej1 a1_1 a2_1 a3_1 a4_1 a5_1 a6_1 q1_1 q2_1 q3_1 q4_1) (PySem.ErrX.iS "what") [("__class__", ec1)] .none ekV1 edoc1 epm1 ean1 (.ref ea1) ect1) ⟨[a, b], []⟩ = pure [(("self" : Str), a), ("what", b)])
    (e1_ha : PySem.W.findIn K (.ref eC1) "__class__" = some (some (.builtin "object.__class__")))
    (e1_mo : PySem.W.mroIn K eC1 (.type "object") = some true)
    (x_any : PySem.W.nsIn K cStatics "thirdparty.any" = some none)
    (x_sg : PySem.W.nsIn K mainGlobals "super" = some none)
    (x_top : (l.prog.main.scope.names.lookup ("super" : Str)).isSome = false)
    (x_hn : PySem.W.specialIn K (.builtin "object.__class__") "__get__" = some (some (.builtin "getset_descriptor.__get__")))
    (x_ht : PySem.W.takesIn K (.builtin "object.__class__") = some true)
    (y_p : PySem.W.nsIn K mainGlobals "ParcelError" = some (some (.ref xP)))
    (y_pk : PySem.W.kitOne K (.ref eC1) (.ref xP) = some true)
    (y_v : PySem.W.nsIn K mainGlobals "ValueError" = some none)
    (y_vk : PySem.W.kitOne K (.ref eC1) (.type "ValueError") = some true)
    (y_1 : PySem.W.nsIn K mainGlobals "BadLine" = some (some (.ref x1)))
    (y_2 : PySem.W.nsIn K mainGlobals "BadManifest" = some (some (.ref x2)))
    (y_3 : PySem.W.nsIn K mainGlobals "Contradiction" = some (some (.ref x3)))
    (y_4 : PySem.W.nsIn K mainGlobals "Late" = some (some (.ref x4)))
    (y_5 : PySem.W.nsIn K mainGlobals "Refused" = some (some (.ref x5)))
    (y_6 : PySem.W.nsIn K mainGlobals "TooMany" = some (some (.ref x6)))
    (y_7 : PySem.W.nsIn K mainGlobals "Unknown" = some (some (.ref x7)))
    (y_ot : PySem.W.kitAny K (.ref eC1) [.ref x1, .ref x2, .ref x3, .ref x4, .ref x5, .ref x6, .ref x7] = some false)
    :
    LamX.LawAtS l w K CX0 7 63 "script" mg fa h := by
  have e := hfa.symm.trans (PySem.W.mg_of X G a11)
  cases e
  letI : Tb := ⟨[(P1, fun _ _ => "share_out.<locals>.<lambda>")]⟩
  have T : Txt K mg := ⟨PySem.W.mg_none_of X G z_len, PySem.W.mg_none_of X G z_int, PySem.W.mg_none_of X G z_sum, PySem.W.mg_none_of X G z_list, PySem.W.mg_none_of X G z_range, PySem.W.mg_none_of X G z_isinstance, PySem.W.mg_none_of X G z_abs, PySem.W.mg_none_of X G z_any, PySem.W.mg_none_of X G z_sorted, PySem.W.mg_none_of X G z_str, PySem.W.mg_none_of X G z_bool⟩
  have F1 := fun_mk (st := sShare) l1 cc1 k1
  have b1 := F1.binds (ps := ["total", "weights"]) fun _ _ _ _ _ _ us hl => match us, hl with | [_, _], _ => rfl
  have F2 := fun_mk (st := sCell) l2 cc2 k2
  have b2 := F2.binds (ps := ["script", "k"]) fun _ _ _ _ _ _ us hl => match us, hl with | [_, _], _ => rfl
  have F3 := fun_mk (st := sBox) l3 cc3 k3
  have b3 := F3.binds (ps := ["script", "k"]) fun _ _ _ _ _ _ us hl => match us, hl with | [_, _], _ => rfl
  have F4 := fun_mk (st := sDraw) l4 cc4 k4
  have b4 := F4.binds (ps := ["box", "size"]) fun _ _ _ _ _ _ us hl => match us, hl with | [_, _], _ => rfl
  have F5 := fun_mk (st := sWeights) l5 cc5 k5
  have b5 := F5.binds (ps := ["box"]) fun _ _ _ _ _ _ us hl => match us, hl with | [_], _ => rfl
  have F6 := fun_mk (st := sTotal) l6 cc6 k6
  have b6 := F6.binds (ps := ["box", "whole"]) fun _ _ _ _ _ _ us hl => match us, hl with | [_, _], _ => rfl
  have F7 := fun_mk (st := sIsInt) l7 cc7 k7
  have b7 := F7.binds (ps := ["told"]) fun _ _ _ _ _ _ us hl => match us, hl with | [_], _ => rfl
  have F8 := fun_mk (st := sBefore) l8 cc8 k8
  have b8 := F8.binds (ps := ["total", "weights", "whole", "one", "other"]) fun _ _ _ _ _ _ us hl => match us, hl with | [_, _, _, _, _], _ => rfl
  have F9 := fun_mk (st := sFair) l9 cc9 k9
  have b9 := F9.binds (ps := ["total", "weights", "told"]) fun _ _ _ _ _ _ us hl => match us, hl with | [_, _, _], _ => rfl
  have F10 := fun_mk (st := sRefused) l10 cc10 k10
  have b10 := F10.binds (ps := ["total", "weights"]) fun _ _ _ _ _ _ us hl => match us, hl with | [_, _], _ => rfl
  have F11 := fun_mk (st := sLaw) l11 cc11 k11
  have gInvalid := PySem.W.mg_of X G e1_g
  have EInvalid := PySem.ErrX.errTxt_mk (P := l.prog) e1_cls e1_sa e1_ga e1_gg e1_noN e1_iC e1_tC e1_kC e1_exC e1_veC e1_tyC e1_hdC e1_te e1_mro e1_sup x_any x_sg x_top ⟨by decide, by decide, by decide, by decide⟩ e1_eF e1_hq e1_eK e1_eD e1_eV e1_eM e1_eX e1_eS e1_eT e1_eB
  have XInvalid : ExcC K eC1 := ⟨e1_ga, e1_gg, e1_exC, e1_hdC, e1_ha, x_hn, x_ht, e1_mo⟩
  have R : RefTxt K mg eC1 := ⟨gInvalid, XInvalid, e1_te, ⟨xP, PySem.W.mg_of X G y_p, y_pk⟩, PySem.W.mg_none_of X G y_v, y_vk, ⟨x1, x2, x3, x4, x5, x6, x7, PySem.W.mg_of X G y_1, PySem.W.mg_of X G y_2, PySem.W.mg_of X G y_3, PySem.W.mg_of X G y_4, PySem.W.mg_of X G y_5, PySem.W.mg_of X G y_6, PySem.W.mg_of X G y_7, y_ot⟩⟩
  refine ⟨PySem.W.fnOf "law" "law" (defArgs sLaw) (defBody sLaw) (defScope sLaw) .none kV11 dc11 pm11 an11 cd11 ct11, [(c1, P1)], spLaw 63 K, (List.forall_mem_cons.mpr ⟨tt1, (fun _ m => nomatch m)⟩), (List.forall_mem_cons.mpr ⟨tn1, (fun _ m => nomatch m)⟩), (List.forall_mem_cons.mpr ⟨PySem.W.codeHd_of_K X th1, (fun _ m => nomatch m)⟩), fun s v => .of_eq rfl, fun H a ns hl _ hH hS => ⟨a, ns, rfl, hS, hl, (List.forall_mem_cons.mpr ⟨hH (c1, P1) (by simp), (fun _ m => nomatch m)⟩), fun _ => rfl⟩, fun base _ _ hTB => ?_⟩
  have TB1 : LamX.TabB base mg c1 P1 := hTB (c1, P1) (by simp)
  have FC1 : FunC K "share_out" "share_out" sShare f1 _ c1 := ⟨⟨oc1, od1, kV1, dc1, pm1, an1, ct1, sl1, rfl, l1, cc1⟩⟩
  have d1 : Cl l.prog w K mg base (L2.CX l.prog w) "share_out" ["total", "weights"] 5 (spShare eC1 K) := ⟨f1, _, ok_share FC1 T EInvalid gInvalid TB1 (List.mem_cons_self) (fun _ _ => rfl) (fun q m e => by rw [List.mem_singleton.mp m]), b1, PySem.W.mg_of X G a1, k1⟩
  have d2 : Cl l.prog w K mg base (CX0) "_law_cell" ["script", "k"] 1 (spCell K) := ⟨f2, _, ok_cell F2 T, b2, PySem.W.mg_of X G a2, k2⟩
  have d3 : Cl l.prog w K mg base (CX0) "_law_box" ["script", "k"] 2 (spBox K) := ⟨f3, _, ok_box F3 T d2, b3, PySem.W.mg_of X G a3, k3⟩
  have d4 : Cl l.prog w K mg base (CX0) "_law_draw" ["box", "size"] 1 (spDraw K) := ⟨f4, _, ok_draw F4 T, b4, PySem.W.mg_of X G a4, k4⟩
  have d5 : Cl l.prog w K mg base (CX0) "_law_weights" ["box"] 2 (spWeights K) := ⟨f5, _, ok_weights F5 T d4, b5, PySem.W.mg_of X G a5, k5⟩
  have d6 : Cl l.prog w K mg base (CX0) "_law_total" ["box", "whole"] 2 (spTotal K) := ⟨f6, _, ok_total F6 d4, b6, PySem.W.mg_of X G a6, k6⟩
  have d7 : Cl l.prog w K mg base (CX0) "_law_is_integer" ["told"] 1 (spIsInt K) := ⟨f7, _, ok_isInt F7 T, b7, PySem.W.mg_of X G a7, k7⟩
  have d8 : Cl l.prog w K mg base (CX0) "_law_before" ["total", "weights", "whole", "one", "other"] 1 (spBefore K) := ⟨f8, _, ok_before F8 T, b8, PySem.W.mg_of X G a8, k8⟩
  have d9 : Cl l.prog w K mg base (CX0) "_law_fair" ["total", "weights", "told"] 2 (spFair K) := ⟨f9, _, ok_fair F9 T d7 d8, b9, PySem.W.mg_of X G a9, k9⟩
  have d10 : Cl l.prog w K mg base (CX0) "_law_refused" ["total", "weights"] 6 (spRefused K) := ⟨f10, _, ok_refused F10 T EInvalid R d1, b10, PySem.W.mg_of X G a10, k10⟩
  exact ok_law F11 T d3 d4 d5 d6 d1 d9 d10
end K17

open PySem PySem.W PyProof.Rows in
set_option maxRecDepth 100000 in
set_option maxHeartbeats 0 in
theorem PySem.Challenge.cw_everyparcel_k17_share_out_by_remainders_holds : PySem.Challenge.rw_everyparcel_k17_share_out_by_remainders.Holds := by
  w_on; o_law; k_head; (case hw => w_witness2)
  k_fill
  refine LamX.walk_ofTs (n := 63) (k := 7) (x := "script") (CX := fun _ => L2.CX0) (l := PySem.Challenge.rw_everyparcel_k17_share_out_by_remainders) rfl (by decide) rfl ⟨rfl, by decide, by decide⟩ (fun w h Y => PySem.W.km_in_of Y) ?F (fun _ _ _ _ _ z => z)
  case F =>
    intro w mg fa h Y KX G hmg
    refine' K17.all_mk KX G hmg ?a1 ?l1 ?cc1 ?k1 ?tl1 ?tv1 ?th1 ?tn1 ?tt1 ?a2 ?l2 ?cc2 ?k2 ?a3 ?l3 ?cc3 ?k3 ?a4 ?l4 ?cc4 ?k4 ?a5 ?l5 ?cc5 ?k5 ?a6 ?l6 ?cc6 ?k6 ?a7 ?l7 ?cc7 ?k7 ?a8 ?l8 ?cc8 ?k8 ?a9 ?l9 ?cc9 ?k9 ?a10 ?l10 ?cc10 ?k10 ?a11 ?l11 ?cc11 ?k11 ?z_len ?z_int ?z_sum ?z_list ?z_range ?z_isinstance ?z_abs ?z_any ?z_sorted ?z_str ?z_bool ?e1_g ?e1_cls ?e1_sa ?e1_ga ?e1_gg ?e1_noN ?e1_iC ?e1_tC ?e1_kC ?e1_exC ?e1_veC ?e1_tyC ?e1_hdC ?e1_te ?e1_mro ?e1_sup ?e1_eF ?e1_hq ?e1_eK ?e1_eD ?e1_eV ?e1_eM ?e1_eX ?e1_eS ?e1_eT ?e1_eB ?e1_ha ?e1_mo ?x_any ?x_sg ?x_top ?x_hn ?x_ht ?y_p ?y_pk ?y_v ?y_vk ?y_1 ?y_2 ?y_3 ?y_4 ?y_5 ?y_6 ?y_7 ?y_ot
    (case a1 => k_is)
    (case l1 => k_is)
    (case cc1 => k_is)
    (case k1 => k_is)
    (case tl1 => k_is)
    (case tv1 => exact rfl)
    (case th1 => kernel_rfl)
    (case tn1 => kernel_rfl)
    (case tt1 => exact PySem.W.km_tabs_of Y _ (by k_mem))
    (case a2 => k_is)
    (case l2 => k_is)
    (case cc2 => k_is)
    (case k2 => k_is)
    (case a3 => k_is)
    (case l3 => k_is)
    (case cc3 => k_is)
    (case k3 => k_is)
    (case a4 => k_is)
    (case l4 => k_is)
    (case cc4 => k_is)
    (case k4 => k_is)
    (case a5 => k_is)
    (case l5 => k_is)
    (case cc5 => k_is)
    (case k5 => k_is)
    (case a6 => k_is)
    (case l6 => k_is)
    (case cc6 => k_is)
    (case k6 => k_is)
    (case a7 => k_is)
    (case l7 => k_is)
    (case cc7 => k_is)
    (case k7 => k_is)
    (case a8 => k_is)
    (case l8 => k_is)
    (case cc8 => k_is)
    (case k8 => k_is)
    (case a9 => k_is)
    (case l9 => k_is)
    (case cc9 => k_is)
    (case k9 => k_is)
    (case a10 => k_is)
    (case l10 => k_is)
    (case cc10 => k_is)
    (case k10 => k_is)
    (case a11 => k_is)
    (case l11 => k_is)
    (case cc11 => k_is)
    (case k11 => k_is)
    (case z_len => k_is)
    (case z_int => k_is)
    (case z_sum => k_is)
    (case z_list => k_is)
    (case z_range => k_is)
    (case z_isinstance => k_is)
    (case z_abs => k_is)
    (case z_any => k_is)
    (case z_sorted => k_is)
    (case z_str => k_is)
    (case z_bool => k_is)
    (case e1_g => k_is)
    (case e1_cls => exact PySem.ErrX.errCls_mk (by k_is) (by kernel_rfl))
    (case e1_sa => k_is)
    (case e1_ga => k_is)
    (case e1_gg => k_is)
    (case e1_noN => k_is)
    (case e1_iC => k_is)
    (case e1_tC => k_is)
    (case e1_kC => k_is)
    (case e1_exC => k_is)
    (case e1_veC => k_is)
    (case e1_tyC => k_is)
    (case e1_hdC => k_is)
    (case e1_te => kernel_rfl)
    (case e1_mro => k_is)
    (case e1_sup => kernel_rfl)
    (case e1_eF => k_is)
    (case e1_hq => exact by decide +kernel)
    (case e1_eK => k_is)
    (case e1_eD => k_is)
    (case e1_eV => exact rfl)
    (case e1_eM => kernel_rfl)
    (case e1_eX => k_is)
    (case e1_eS => exact fun _ => ⟨_, rfl⟩)
    (case e1_eT => exact by decide +kernel)
    (case e1_eB => exact fun _ _ => rfl)
    (case e1_ha => k_is)
    (case e1_mo => k_is)
    (case x_any => k_is)
    (case x_sg => k_is)
    (case x_top => kernel_rfl)
    (case x_hn => k_is)
    (case x_ht => k_is)
    (case y_p => k_is)
    (case y_pk => kernel_rfl)
    (case y_v => k_is)
    (case y_vk => kernel_rfl)
    (case y_1 => k_is)
    (case y_2 => k_is)
    (case y_3 => k_is)
    (case y_4 => k_is)
    (case y_5 => k_is)
    (case y_6 => k_is)
    (case y_7 => k_is)
    (case y_ot => kernel_rfl)
#print axioms PySem.Challenge.cw_everyparcel_k17_share_out_by_remainders_holds
