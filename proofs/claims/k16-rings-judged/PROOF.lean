import PyProof.Rows.All
import Wide.All
import OpenK.AllK
import Wide.FinOn
import HandS.ForMost
import HandS.ForExc
import HandS.IsInst
import HandS.Wide
import HandS.TupLe
import HandS.TupAny
import HandS.Deep
import HandS.Zip
import HandS.Flow
import HandS.NoneIn
import KE.GoesEnum
import HandS.SetBool
import HandS.SetKeys
import HandS.Style
import HandS.Codes
import PySem.Challenge.RW_otherworths_k16_rings_judged
set_option Elab.async false
set_option linter.all false
set_option maxRecDepth 100000
set_option autoImplicit false
set_option maxHeartbeats 2000000
/-! The data layer: what a text computes, told by plain data. -/
namespace DL
open PySem L2

/-! ### data -/
inductive D where
  | non | bl (b : Bool) | int (i : Int) | str (x : Str) | lst (xs : List D) | tup (xs : List D) | dic (kvs : List (Key × D)) | obj (a : Addr) | ty (n : String) | dead
/-- a result: data, or a list of one's own (the k-th cell) -/
inductive R where
  | v (d : D) | o (k : Nat)
abbrev Om := List (Option (List D))
abbrev Rho := List (Option R)

def Ex (H H' : Hp) : Prop := ∀ a o, H a = some o → H' a = some o
theorem Ex.refl (H : Hp) : Ex H H := fun _ _ h => h
theorem Ex.trans {H H1 H2 : Hp} (a : Ex H H1) (b : Ex H1 H2) : Ex H H2 := fun x o h => b x o (a x o h)
theorem Ex.new {H : Hp} {p : Addr} {o : HO} (h : H p = none) : Ex H (upd H p o) := fun a u e => by
  rw [upd_ne (ne_of_none e h)]
  exact e
theorem Ex.mut {H H' : Hp} {p : Addr} {o : HO} (e : Ex H H') (h : H p = none) : Ex H (upd H' p o) := fun a u ha => by
  rw [upd_ne (ne_of_none ha h)]
  exact e a u ha
theorem Ex.both {G H : Hp} {p : Addr} {o : HO} (e : Ex G H) : Ex (upd G p o) (upd H p o) := fun a u ha => by
  by_cases q : a = p
  · subst q; rw [upd_same] at ha ⊢; exact ha
  · rw [upd_ne q] at ha ⊢; exact e a u ha
theorem Ex.free {H H' : Hp} {p : Addr} (e : Ex H H') (h : H' p = none) : H p = none := by
  cases q : H p with
  | none => rfl
  | some o => rw [e p o q] at h; cases h
theorem Ex.rd {H H' : Hp} {a : Addr} {u : HO} (e : Ex H H') (h : Rd H a u) : Rd H' a u := by
  rcases h with h | ⟨o, h⟩
  · exact .inl (e a _ h)
  · exact .inr ⟨o, e a _ h⟩
theorem Ex.l {K : PySem.W.Frag} {H H' : Hp} {a : Addr} {xs : List V} (e : Ex H H') (h : SqL K H a xs) : SqL K H' a xs := by
  rcases h with h | h
  · exact .inl (e.rd h)
  · exact .inr h
theorem Ex.t {K : PySem.W.Frag} {H H' : Hp} {a : Addr} {xs : List V} (e : Ex H H') (h : SqT K H a xs) : SqT K H' a xs := by
  rcases h with h | h
  · exact .inl (e.rd h)
  · exact .inr h

mutual
inductive Is (K : PySem.W.Frag) (G : Hp) : V → D → Prop
  | non : Is K G .non .non
  | bl (b : Bool) : Is K G (.bl b) (.bl b)
  | int (i : Int) : Is K G (.int i) (.int i)
  | str (x : Str) : Is K G (.str x) (.str x)
  | ty (n : String) : Is K G (.ty n) (.ty n)
  | lst {a : Addr} {xs : List V} {ds : List D} : G a = some (.lst xs) → IsL K G xs ds → Is K G (.ref a) (.lst ds)
  | tup {a : Addr} {xs : List V} {ds : List D} : G a = some (.tup xs) → IsL K G xs ds → Is K G (.ref a) (.tup ds)
  | dic {a : Addr} {kvs : List (Key × V)} {kds : List (Key × D)} : Rd G a (.dK kvs) → IsD K G kvs kds → Is K G (.ref a) (.dic kds)
  | obj (a : Addr) : Is K G (.ref a) (.obj a)
inductive IsL (K : PySem.W.Frag) (G : Hp) : List V → List D → Prop
  | nil : IsL K G [] []
  | cons {v : V} {vs : List V} {d : D} {ds : List D} : Is K G v d → IsL K G vs ds → IsL K G (v :: vs) (d :: ds)
inductive IsD (K : PySem.W.Frag) (G : Hp) : List (Key × V) → List (Key × D) → Prop
  | nil : IsD K G [] []
  | cons {k : Key} {v : V} {vs : List (Key × V)} {d : D} {ds : List (Key × D)} : Is K G v d → IsD K G vs ds → IsD K G ((k, v) :: vs) ((k, d) :: ds)
end
section
variable {K : PySem.W.Frag} {G G' : Hp}
mutual
theorem Is.mono (e : Ex G G') : ∀ {v : V} {d : D}, Is K G v d → Is K G' v d
  | _, _, .non => .non
  | _, _, .bl b => .bl b
  | _, _, .int i => .int i
  | _, _, .str x => .str x
  | _, _, .ty n => .ty n
  | _, _, .lst h q => .lst (e _ _ h) (IsL.mono e q)
  | _, _, .tup h q => .tup (e _ _ h) (IsL.mono e q)
  | _, _, .dic h q => .dic (e.rd h) (IsD.mono e q)
  | _, _, .obj a => .obj a
theorem IsL.mono (e : Ex G G') : ∀ {v : List V} {d : List D}, IsL K G v d → IsL K G' v d
  | _, _, .nil => .nil
  | _, _, .cons h q => .cons (Is.mono e h) (IsL.mono e q)
theorem IsD.mono (e : Ex G G') : ∀ {v : List (Key × V)} {d : List (Key × D)}, IsD K G v d → IsD K G' v d
  | _, _, .nil => .nil
  | _, _, .cons h q => .cons (Is.mono e h) (IsD.mono e q)
end
theorem IsL.length : ∀ {vs : List V} {ds : List D}, IsL K G vs ds → vs.length = ds.length
  | _, _, .nil => rfl
  | _, _, .cons _ q => congrArg (· + 1) (IsL.length q)
theorem IsL.get : ∀ {vs : List V} {ds : List D} {i : Nat} {d : D}, IsL K G vs ds → ds[i]? = some d → ∃ v, vs[i]? = some v ∧ Is K G v d
  | _, _, _, _, .nil, e => by simp at e
  | _, _, 0, _, .cons r _, e => by simp at e; subst e; exact ⟨_, rfl, r⟩
  | _, _, i + 1, d, .cons _ t, e => by
    obtain ⟨u, h1, h2⟩ := IsL.get (i := i) (d := d) t (by simpa using e)
    exact ⟨u, by simpa using h1, h2⟩
theorem IsL.get' : ∀ {vs : List V} {ds : List D} {i : Nat} {v : V}, IsL K G vs ds → vs[i]? = some v → ∃ d, ds[i]? = some d ∧ Is K G v d
  | _, _, _, _, .nil, e => by simp at e
  | _, _, 0, _, .cons r _, e => by simp at e; subst e; exact ⟨_, rfl, r⟩
  | _, _, i + 1, v, .cons _ t, e => by
    obtain ⟨u, h1, h2⟩ := IsL.get' (i := i) (v := v) t (by simpa using e)
    exact ⟨u, by simpa using h1, h2⟩
theorem IsL.append : ∀ {xs ys : List V} {us ws : List D}, IsL K G xs us → IsL K G ys ws → IsL K G (xs ++ ys) (us ++ ws)
  | _, _, _, _, .nil, s => s
  | _, _, _, _, .cons r t, s => .cons r (IsL.append t s)
theorem IsL.take : ∀ {xs : List V} {us : List D} (n : Nat), IsL K G xs us → IsL K G (xs.take n) (us.take n)
  | _, _, 0, _ => .nil
  | _, _, _ + 1, .nil => .nil
  | _, _, n + 1, .cons r t => .cons r (IsL.take n t)
theorem IsL.drop : ∀ {xs : List V} {us : List D} (n : Nat), IsL K G xs us → IsL K G (xs.drop n) (us.drop n)
  | _, _, 0, r => r
  | _, _, _ + 1, .nil => .nil
  | _, _, n + 1, .cons _ t => IsL.drop n t
theorem IsL.erase : ∀ {xs : List V} {us : List D} (n : Nat), IsL K G xs us → IsL K G (xs.eraseIdx n) (us.eraseIdx n)
  | _, _, _, .nil => .nil
  | _, _, 0, .cons _ t => t
  | _, _, n + 1, .cons r t => .cons r (IsL.erase n t)
theorem IsL.reverse : ∀ {xs : List V} {us : List D}, IsL K G xs us → IsL K G xs.reverse us.reverse
  | _, _, .nil => .nil
  | _, _, .cons r t => by
    rw [List.reverse_cons, List.reverse_cons]
    exact (IsL.reverse t).append (.cons r .nil)
theorem IsL.ints : ∀ (ns : List Int), IsL K G (ns.map V.int) (ns.map D.int)
  | [] => .nil
  | _ :: ns => .cons (.int _) (IsL.ints ns)
end

/-! ### the state of the draws, the anchor -/
structure Dr where
  d : Addr
  g : Addr
  c : Addr
  cs : List Int
def DrawIn (H : Hp) (x : Dr) : Prop := ∃ (great : List Int) (cells : Unit) (rest turn : Int),
  H x.d = some (.dK [(.inr "great", .ref x.g), (.inr "rest", .int rest), (.inr "cells", .ref x.c), (.inr "turn", .int turn)]) ∧
  H x.g = some (.lst (great.map V.int)) ∧ H x.c = some (.lst (x.cs.map V.int))
def Off (x : Option Dr) (a : Addr) : Prop := ∀ y, x = some y → a ≠ y.d ∧ a ≠ y.g ∧ a ≠ y.c
def DrG (x : Option Dr) (G H : Hp) : Prop := ∀ y, x = some y → DrawIn H y ∧ G y.d = none ∧ G y.g = none ∧ G y.c = none
structure An where
  G0 : Hp
  H0 : Hp

inductive IsR (K : PySem.W.Frag) (G : Hp) (τ : List Addr) : V → R → Prop
  | v {x : V} {d : D} : Is K G x d → IsR K G τ x (.v d)
  | o {a : Addr} {k : Nat} : τ[k]? = some a → IsR K G τ (.ref a) (.o k)

/-- what is known of the heap H: G is the part that never changes -/
structure Good (K : PySem.W.Frag) (an : An) (dr : Option Dr) (om : Om) (τ : List Addr) (G H : Hp) : Prop where
  ex : Ex G H
  len : om.length = τ.length
  nd : τ.Nodup
  own : ∀ (k : Nat) (p : Addr) (ds : List D), τ[k]? = some p → om[k]? = some (some ds) → G p = none ∧ an.H0 p = none ∧ Off dr p ∧ ∃ vs, H p = some (.lst vs) ∧ IsL K G vs ds
  drg : DrG dr G H
  a1 : Ex an.G0 G
  a2 : ∀ a o, an.H0 a = some o → Off dr a → H a = some o
  a3 : ∀ a, an.H0 a ≠ none → an.G0 a = none → G a = none
  a4 : ∀ (k : Nat) (p : Addr), τ[k]? = some p → Off dr p ∧ ∃ o, H p = some o
def EnvIs (K : PySem.W.Frag) (G : Hp) (τ : List Addr) (σ : L2.St) (ρ : Rho) : Prop := ∀ (i : Nat) (r : R), ρ[i]? = some (some r) → ∃ v, σ[i]? = some (some v) ∧ IsR K G τ v r
structure Grow (G : Hp) (τ : List Addr) (G' : Hp) (τ' : List Addr) : Prop where
  ex : Ex G G'
  pre : ∀ (k : Nat) (p : Addr), τ[k]? = some p → τ'[k]? = some p
theorem Grow.refl (G : Hp) (τ : List Addr) : Grow G τ G τ := ⟨Ex.refl G, fun _ _ h => h⟩
theorem Grow.trans {G G1 G2 : Hp} {τ τ1 τ2 : List Addr} (a : Grow G τ G1 τ1) (b : Grow G1 τ1 G2 τ2) : Grow G τ G2 τ2 := ⟨a.ex.trans b.ex, fun k p h => b.pre k p (a.pre k p h)⟩
theorem IsR.mono {K : PySem.W.Frag} {G G' : Hp} {τ τ' : List Addr} {v : V} {r : R} (g : Grow G τ G' τ') (h : IsR K G τ v r) : IsR K G' τ' v r := by
  cases h with
  | v h => exact .v (h.mono g.ex)
  | o h => exact .o (g.pre _ _ h)
theorem EnvIs.mono {K : PySem.W.Frag} {G G' : Hp} {τ τ' : List Addr} {σ : L2.St} {ρ : Rho} (g : Grow G τ G' τ') (h : EnvIs K G τ σ ρ) : EnvIs K G' τ' σ ρ := fun i r e => by
  obtain ⟨v, h1, h2⟩ := h i r e
  exact ⟨v, h1, h2.mono g⟩

section
variable {K : PySem.W.Frag} {an : An} {dr : Option Dr} {om : Om} {τ : List Addr} {G H : Hp}
/-- a new thing that never changes -/
theorem Good.alloc {p : Addr} {o : HO} (g : Good K an dr om τ G H) (hp : H p = none) : Good K an dr om τ (upd G p o) (upd H p o) where
  ex := g.ex.both
  len := g.len
  nd := g.nd
  own := fun k q ds h1 h2 => by
    obtain ⟨e1, e2, e3, vs, e4, e5⟩ := g.own k q ds h1 h2
    have nq : q ≠ p := ne_of_none e4 hp
    exact ⟨by rw [upd_ne nq]; exact e1, e2, e3, vs, by rw [upd_ne nq]; exact e4, e5.mono (Ex.new (g.ex.free hp))⟩
  drg := fun y hy => by
    obtain ⟨⟨gr, ce, re, tu, h1, h2, h3⟩, h4, h5, h6⟩ := g.drg y hy
    have n1 : y.d ≠ p := ne_of_none h1 hp
    have n2 : y.g ≠ p := ne_of_none h2 hp
    have n3 : y.c ≠ p := ne_of_none h3 hp
    exact ⟨⟨gr, ce, re, tu, by rw [upd_ne n1]; exact h1, by rw [upd_ne n2]; exact h2, by rw [upd_ne n3]; exact h3⟩, by rw [upd_ne n1]; exact h4, by rw [upd_ne n2]; exact h5, by rw [upd_ne n3]; exact h6⟩
  a1 := g.a1.trans (Ex.new (g.ex.free hp))
  a2 := fun a o' h1 h2 => by
    have q := g.a2 a o' h1 h2
    rw [upd_ne (ne_of_none q hp)]; exact q
  a3 := fun a h1 h2 => by
    by_cases q : a = p
    · subst q
      cases e : an.H0 a with
      | none => exact absurd e h1
      | some o' =>
        exfalso
        by_cases hof : Off dr a
        · rw [g.a2 a o' e hof] at hp; cases hp
        · apply hof
          intro y hy
          obtain ⟨⟨gr, ce, re, tu, h1, h2, h3⟩, _⟩ := g.drg y hy
          exact ⟨(ne_of_none h1 hp).symm, (ne_of_none h2 hp).symm, (ne_of_none h3 hp).symm⟩
    · rw [upd_ne q]; exact g.a3 a h1 h2
  a4 := fun k q h1 => by
    obtain ⟨h0, o', h2⟩ := g.a4 k q h1
    exact ⟨h0, o', by rw [upd_ne (ne_of_none h2 hp)]; exact h2⟩
theorem Good.grow {p : Addr} {o : HO} (g : Good K an dr om τ G H) (hp : H p = none) : Grow G τ (upd G p o) τ := ⟨Ex.new (g.ex.free hp), fun _ _ h => h⟩
theorem Good.off {p : Addr} (g : Good K an dr om τ G H) (hp : H p = none) : Off dr p := fun y hy => by
  obtain ⟨⟨gr, ce, re, tu, h1, h2, h3⟩, _⟩ := g.drg y hy
  exact ⟨(ne_of_none h1 hp).symm, (ne_of_none h2 hp).symm, (ne_of_none h3 hp).symm⟩
theorem Good.free0 {p : Addr} (g : Good K an dr om τ G H) (hp : H p = none) : an.H0 p = none := by
  cases e : an.H0 p with
  | none => rfl
  | some o => rw [g.a2 p o e (g.off hp)] at hp; cases hp
/-- a new list of one's own -/
theorem Good.fresh {p : Addr} {vs : List V} {ds : List D} (g : Good K an dr om τ G H) (hp : H p = none) (hi : IsL K G vs ds) : Good K an dr (om ++ [some ds]) (τ ++ [p]) G (upd H p (.lst vs)) where
  ex := g.ex.mut (g.ex.free hp)
  len := by rw [List.length_append, List.length_append, g.len]; rfl
  nd := by
    rw [List.nodup_append]
    refine ⟨g.nd, by simp, fun a h1 b h2 => ?_⟩
    rw [List.mem_singleton] at h2
    subst h2
    obtain ⟨k, hk⟩ := List.getElem?_of_mem h1
    obtain ⟨_, o, ho⟩ := g.a4 k a hk
    exact ne_of_none ho hp
  own := fun k q es h1 h2 => by
    by_cases hk : k < τ.length
    · rw [List.getElem?_append_left hk] at h1
      rw [List.getElem?_append_left (by rw [g.len]; exact hk)] at h2
      obtain ⟨e1, e2, e3, us, e4, e5⟩ := g.own k q es h1 h2
      exact ⟨e1, e2, e3, us, by rw [upd_ne (ne_of_none e4 hp)]; exact e4, e5⟩
    · rw [List.getElem?_append_right (by omega)] at h1
      rw [List.getElem?_append_right (by rw [g.len]; omega), g.len] at h2
      have hz : k - τ.length = 0 := by
        have := (List.getElem?_eq_some_iff.mp h1).1
        simp at this
        omega
      rw [hz] at h1 h2
      simp at h1 h2
      subst h1 h2
      exact ⟨g.ex.free hp, g.free0 hp, g.off hp, vs, upd_same, hi⟩
  drg := fun y hy => by
    obtain ⟨⟨gr, ce, re, tu, h1, h2, h3⟩, h4, h5, h6⟩ := g.drg y hy
    exact ⟨⟨gr, ce, re, tu, by rw [upd_ne (ne_of_none h1 hp)]; exact h1, by rw [upd_ne (ne_of_none h2 hp)]; exact h2, by rw [upd_ne (ne_of_none h3 hp)]; exact h3⟩, h4, h5, h6⟩
  a1 := g.a1
  a2 := fun a o' h1 h2 => by
    have q := g.a2 a o' h1 h2
    rw [upd_ne (ne_of_none q hp)]; exact q
  a3 := g.a3
  a4 := fun k q h1 => by
    by_cases hk : k < τ.length
    · rw [List.getElem?_append_left hk] at h1
      obtain ⟨h0, o', h2⟩ := g.a4 k q h1
      exact ⟨h0, o', by rw [upd_ne (ne_of_none h2 hp)]; exact h2⟩
    · rw [List.getElem?_append_right (by omega)] at h1
      have hz : k - τ.length = 0 := by
        have := (List.getElem?_eq_some_iff.mp h1).1
        simp at this
        omega
      rw [hz] at h1
      simp at h1
      subst h1
      exact ⟨g.off hp, _, upd_same⟩
theorem Good.growF {p : Addr} : Grow G τ G (τ ++ [p]) := ⟨Ex.refl G, fun k q h => by rw [List.getElem?_append_left (List.getElem?_eq_some_iff.mp h).1]; exact h⟩
/-- a list of one's own changes -/
theorem Good.write {k : Nat} {p : Addr} {vs : List V} {ds es : List D} (g : Good K an dr om τ G H) (hk : τ[k]? = some p) (ho : om[k]? = some (some es)) (hi : IsL K G vs ds) : Good K an dr (om.set k (some ds)) τ G (upd H p (.lst vs)) := by
  obtain ⟨f1, f2, f3, us, f4, f5⟩ := g.own k p es hk ho
  exact {
    ex := g.ex.mut f1
    len := by rw [List.length_set]; exact g.len
    nd := g.nd
    own := fun j q fs h1 h2 => by
      by_cases hj : k = j
      · subst hj
        rw [hk] at h1
        cases h1
        rw [List.getElem?_set_self (by rw [g.len]; exact (List.getElem?_eq_some_iff.mp hk).1)] at h2
        cases h2
        exact ⟨f1, f2, f3, vs, upd_same, hi⟩
      · rw [List.getElem?_set_ne hj] at h2
        obtain ⟨e1, e2, e3, ws, e4, e5⟩ := g.own j q fs h1 h2
        have nq : q ≠ p := by
          intro z
          subst z
          exact hj ((List.getElem?_inj (List.getElem?_eq_some_iff.mp hk).1 g.nd).mp (hk.trans h1.symm))
        exact ⟨e1, e2, e3, ws, by rw [upd_ne nq]; exact e4, e5⟩
    drg := fun y hy => by
      obtain ⟨⟨gr, ce, re, tu, h1, h2, h3⟩, h4, h5, h6⟩ := g.drg y hy
      obtain ⟨n1, n2, n3⟩ := f3 y hy
      exact ⟨⟨gr, ce, re, tu, by rw [upd_ne n1.symm]; exact h1, by rw [upd_ne n2.symm]; exact h2, by rw [upd_ne n3.symm]; exact h3⟩, h4, h5, h6⟩
    a1 := g.a1
    a2 := fun a o' h1 h2 => by
      rw [upd_ne (ne_of_none h1 f2)]; exact g.a2 a o' h1 h2
    a3 := g.a3
    a4 := fun j q h1 => by
      obtain ⟨h0, o', h2⟩ := g.a4 j q h1
      by_cases z : q = p
      · subst z; exact ⟨h0, _, upd_same⟩
      · exact ⟨h0, o', by rw [upd_ne z]; exact h2⟩ }
/-- a list of one's own is closed: it never changes from now on -/
theorem Good.freeze {k : Nat} {p : Addr} {ds : List D} (g : Good K an dr om τ G H) (hk : τ[k]? = some p) (ho : om[k]? = some (some ds)) :
    ∃ vs, Good K an dr (om.set k none) τ (upd G p (.lst vs)) H ∧ Grow G τ (upd G p (.lst vs)) τ ∧ Is K (upd G p (.lst vs)) (.ref p) (.lst ds) := by
  obtain ⟨f1, f2, f3, vs, f4, f5⟩ := g.own k p ds hk ho
  refine ⟨vs, ?_, ⟨Ex.new f1, fun _ _ h => h⟩, .lst upd_same (f5.mono (Ex.new f1))⟩
  exact {
    ex := fun a o h => by
      by_cases z : a = p
      · subst z; rw [upd_same] at h; cases h; exact f4
      · rw [upd_ne z] at h; exact g.ex a o h
    len := by rw [List.length_set]; exact g.len
    nd := g.nd
    own := fun j q fs h1 h2 => by
      by_cases hj : k = j
      · subst hj
        rw [List.getElem?_set_self (by rw [g.len]; exact (List.getElem?_eq_some_iff.mp hk).1)] at h2
        cases h2
      · rw [List.getElem?_set_ne hj] at h2
        obtain ⟨e1, e2, e3, ws, e4, e5⟩ := g.own j q fs h1 h2
        have nq : q ≠ p := by
          intro z
          subst z
          exact hj ((List.getElem?_inj (List.getElem?_eq_some_iff.mp hk).1 g.nd).mp (hk.trans h1.symm))
        exact ⟨by rw [upd_ne nq]; exact e1, e2, e3, ws, e4, e5.mono (Ex.new f1)⟩
    drg := fun y hy => by
      obtain ⟨h0, h4, h5, h6⟩ := g.drg y hy
      obtain ⟨n1, n2, n3⟩ := f3 y hy
      exact ⟨h0, by rw [upd_ne n1.symm]; exact h4, by rw [upd_ne n2.symm]; exact h5, by rw [upd_ne n3.symm]; exact h6⟩
    a1 := g.a1.trans (Ex.new f1)
    a2 := g.a2
    a3 := fun a h1 h2 => by
      have z : a ≠ p := fun z => h1 (z ▸ f2)
      rw [upd_ne z]; exact g.a3 a h1 h2
    a4 := g.a4 }
end
end DL

namespace DL
open PySem L2
/-! ### the judgements -/
section
variable (K : PySem.W.Frag) (an : An) (dr : Option Dr)
def tD (ρ : Rho) (om : Om) (Q : R → Om → Prop) : TE := fun σ H K' => ∃ τ G, Good K an dr om τ G H ∧ EnvIs K G τ σ ρ ∧
  ∀ v r om' τ' G' H', IsR K G' τ' v r → Q r om' → Good K an dr om' τ' G' H' → Grow G τ G' τ' → K' v H'
def tDT (ρ : Rho) (om : Om) (Q : Bool → Om → Prop) : TT := fun σ H K' => ∃ τ G, Good K an dr om τ G H ∧ EnvIs K G τ σ ρ ∧
  ∀ b om' τ' G' H', Q b om' → Good K an dr om' τ' G' H' → Grow G τ G' τ' → K' b H'
def tDA (ρ : Rho) (om : Om) (Q : List R → Om → Prop) : TA := fun σ H K' => ∃ τ G, Good K an dr om τ G H ∧ EnvIs K G τ σ ρ ∧
  ∀ vs rs om' τ' G' H', Paired (IsR K G' τ') vs rs → Q rs om' → Good K an dr om' τ' G' H' → Grow G τ G' τ' → K' vs H'
structure Ed where
  nx : Rho → Om → Prop
  rt : D → Prop
  bk : Rho → Om → Prop := fun _ _ => False
  ct : Rho → Om → Prop := fun _ _ => False
/-- a state that a statement leaves -/
def Left (G : Hp) (τ : List Addr) (n : Nat) (P : Rho → Om → Prop) (σ' : L2.St) (H' : Hp) : Prop :=
  ∃ ρ' om' τ' G', P ρ' om' ∧ Good K an dr om' τ' G' H' ∧ EnvIs K G' τ' σ' ρ' ∧ Grow G τ G' τ' ∧ σ'.length = n ∧ ρ'.length = n
def LeftV (G : Hp) (τ : List Addr) (P : D → Prop) (v : V) (H' : Hp) : Prop :=
  ∃ d om' τ' G', P d ∧ Is K G' v d ∧ Good K an dr om' τ' G' H' ∧ Grow G τ G' τ'
def tDS (ρ : Rho) (om : Om) (E : Ed) : TS := fun Z σ H => ∃ τ G, Good K an dr om τ G H ∧ EnvIs K G τ σ ρ ∧ σ.length = ρ.length ∧
  (∀ σ' H', Left K an dr G τ ρ.length E.nx σ' H' → Z.nx σ' H') ∧ (∀ v H', LeftV K an dr G τ E.rt v H' → Z.rt v H') ∧
  (∀ σ' H', Left K an dr G τ ρ.length E.bk σ' H' → Z.bk σ' H') ∧ (∀ σ' H', Left K an dr G τ ρ.length E.ct σ' H' → Z.ct σ' H')
end
def WE (X : Cx) (an : An) (dr : Option Dr) (ρ : Rho) (om : Om) (e : Expr) (Q : R → Om → Prop) : Prop := PE X e (tD X.K an dr ρ om Q)
def WT (X : Cx) (an : An) (dr : Option Dr) (ρ : Rho) (om : Om) (e : Expr) (Q : Bool → Om → Prop) : Prop := PT X e (tDT X.K an dr ρ om Q)
def WA (X : Cx) (an : An) (dr : Option Dr) (ρ : Rho) (om : Om) (es : List Expr) (Q : List R → Om → Prop) : Prop := PA X es (tDA X.K an dr ρ om Q)
def WS (X : Cx) (an : An) (dr : Option Dr) (ρ : Rho) (om : Om) (st : Stmt) (E : Ed) : Prop := PS X st (tDS X.K an dr ρ om E)
def WSs (X : Cx) (an : An) (dr : Option Dr) (ρ : Rho) (om : Om) (st : List Stmt) (E : Ed) : Prop := PSs X st (tDS X.K an dr ρ om E)

section
variable {X : Cx} {an : An} {dr : Option Dr} {ρ : Rho} {om : Om} {e a b c : Expr} {es : List Expr} {st : Stmt} {sts : List Stmt} {pos : Pos}
theorem peI {t t' : TE} (h : PE X e t) (i : ∀ σ H K', t' σ H K' → t σ H K') : PE X e t' := ⟨fun pins s σ H Q I q => h.run pins s σ H Q I (i σ H Q q)⟩
theorem ptI {t t' : TT} (h : PT X e t) (i : ∀ σ H K', t' σ H K' → t σ H K') : PT X e t' := ⟨fun pins s σ H Q I q => h.run pins s σ H Q I (i σ H Q q)⟩
theorem pwI {t t' : TT} (h : PW X e t) (i : ∀ σ H K', t' σ H K' → t σ H K') : PW X e t' := ⟨fun wh pins s σ H Q I q => h.run wh pins s σ H Q I (i σ H Q q)⟩
theorem paI {t t' : TA} (h : PA X es t) (i : ∀ σ H K', t' σ H K' → t σ H K') : PA X es t' := ⟨fun pos pins s σ H Q I q => h.run pos pins s σ H Q I (i σ H Q q)⟩
theorem psI {t t' : TS} (h : PS X st t) (i : ∀ Z σ H, t' Z σ H → t Z σ H) : PS X st t' := ⟨fun pins s σ H Z I q => h.run pins s σ H Z I (i Z σ H q)⟩
theorem pssI {t t' : TS} (h : PSs X sts t) (i : ∀ Z σ H, t' Z σ H → t Z σ H) : PSs X sts t' := ⟨fun pins s σ H Z I q => h.run pins s σ H Z I (i Z σ H q)⟩

/-! universal readings -/
def uE (X : Cx) (an : An) (dr : Option Dr) (e : Expr) : TE := fun σ H K' => ∃ ρ om Q, WE X an dr ρ om e Q ∧ tD X.K an dr ρ om Q σ H K'
def uT (X : Cx) (an : An) (dr : Option Dr) (e : Expr) : TT := fun σ H K' => ∃ ρ om Q, WT X an dr ρ om e Q ∧ tDT X.K an dr ρ om Q σ H K'
def uA (X : Cx) (an : An) (dr : Option Dr) (e : List Expr) : TA := fun σ H K' => ∃ ρ om Q, WA X an dr ρ om e Q ∧ tDA X.K an dr ρ om Q σ H K'
def uS (X : Cx) (an : An) (dr : Option Dr) (e : List Stmt) : TS := fun Z σ H => ∃ ρ om Q, WSs X an dr ρ om e Q ∧ tDS X.K an dr ρ om Q Z σ H
def uS1 (X : Cx) (an : An) (dr : Option Dr) (e : Stmt) : TS := fun Z σ H => ∃ ρ om Q, WS X an dr ρ om e Q ∧ tDS X.K an dr ρ om Q Z σ H
theorem pe_u : PE X e (uE X an dr e) := ⟨fun pins s σ H K' I ⟨ρ, om, Q, w, h⟩ => PE.run w pins s σ H K' I h⟩
theorem pt_u : PT X e (uT X an dr e) := ⟨fun pins s σ H K' I ⟨ρ, om, Q, w, h⟩ => PT.run w pins s σ H K' I h⟩
theorem pa_u : PA X es (uA X an dr es) := ⟨fun pos pins s σ H K' I ⟨ρ, om, Q, w, h⟩ => PA.run w pos pins s σ H K' I h⟩
theorem ps_u : PS X st (uS1 X an dr st) := ⟨fun pins s σ H K' I ⟨ρ, om, Q, w, h⟩ => PS.run w pins s σ H K' I h⟩
theorem pss_u : PSs X sts (uS X an dr sts) := ⟨fun pins s σ H K' I ⟨ρ, om, Q, w, h⟩ => PSs.run w pins s σ H K' I h⟩

/-- run an expression's word inside a reading -/
theorem uE_of {σ : L2.St} {H : Hp} {τ : List Addr} {G : Hp} {Q : R → Om → Prop} {K' : VK} (w : WE X an dr ρ om e Q) (g : Good X.K an dr om τ G H) (n : EnvIs X.K G τ σ ρ)
    (k : ∀ v r om' τ' G' H', IsR X.K G' τ' v r → Q r om' → Good X.K an dr om' τ' G' H' → Grow G τ G' τ' → EnvIs X.K G' τ' σ ρ → K' v H') : uE X an dr e σ H K' :=
  ⟨ρ, om, Q, w, τ, G, g, n, fun v r om' τ' G' H' h1 h2 h3 h4 => k v r om' τ' G' H' h1 h2 h3 h4 (n.mono h4)⟩
theorem uT_of {σ : L2.St} {H : Hp} {τ : List Addr} {G : Hp} {Q : Bool → Om → Prop} {K' : Bool → Hp → Prop} (w : WT X an dr ρ om e Q) (g : Good X.K an dr om τ G H) (n : EnvIs X.K G τ σ ρ)
    (k : ∀ b om' τ' G' H', Q b om' → Good X.K an dr om' τ' G' H' → Grow G τ G' τ' → EnvIs X.K G' τ' σ ρ → K' b H') : uT X an dr e σ H K' :=
  ⟨ρ, om, Q, w, τ, G, g, n, fun b om' τ' G' H' h2 h3 h4 => k b om' τ' G' H' h2 h3 h4 (n.mono h4)⟩
theorem uA_of {σ : L2.St} {H : Hp} {τ : List Addr} {G : Hp} {Q : List R → Om → Prop} {K' : List V → Hp → Prop} (w : WA X an dr ρ om es Q) (g : Good X.K an dr om τ G H) (n : EnvIs X.K G τ σ ρ)
    (k : ∀ vs rs om' τ' G' H', Paired (IsR X.K G' τ') vs rs → Q rs om' → Good X.K an dr om' τ' G' H' → Grow G τ G' τ' → EnvIs X.K G' τ' σ ρ → K' vs H') : uA X an dr es σ H K' :=
  ⟨ρ, om, Q, w, τ, G, g, n, fun vs rs om' τ' G' H' h1 h2 h3 h4 => k vs rs om' τ' G' H' h1 h2 h3 h4 (n.mono h4)⟩

theorem WE.imp {Q Q' : R → Om → Prop} (h : WE X an dr ρ om e Q) (i : ∀ r om', Q r om' → Q' r om') : WE X an dr ρ om e Q' :=
  peI h fun σ H K' ⟨τ, G, g, n, k⟩ => ⟨τ, G, g, n, fun v r om' τ' G' H' h1 h2 h3 h4 => k v r om' τ' G' H' h1 (i r om' h2) h3 h4⟩
theorem WT.imp {Q Q' : Bool → Om → Prop} (h : WT X an dr ρ om e Q) (i : ∀ r om', Q r om' → Q' r om') : WT X an dr ρ om e Q' :=
  ptI h fun σ H K' ⟨τ, G, g, n, k⟩ => ⟨τ, G, g, n, fun b om' τ' G' H' h2 h3 h4 => k b om' τ' G' H' (i b om' h2) h3 h4⟩

/-! ### names, constants -/
theorem we_name {i : Nat} {x : Str} {r : R} {Q : R → Om → Prop} (hN : X.N[i]? = some x) (hv : Vis X.env.scope x) (hr : ρ[i]? = some (some r)) (q : Q r om) (hd : (x == ("__debug__" : Str)) = false := by decide) (hcd : (x == ("__classdict__" : Str)) = false := by decide) :
    WE X an dr ρ om (.Name x pos) Q := peI (pe_var hN hv hd hcd) fun σ H K' ⟨τ, G, g, n, k⟩ => by
  obtain ⟨v, h1, h2⟩ := n i r hr
  exact ⟨v, h1, k v r om τ G H h2 q g (Grow.refl G τ)⟩
theorem we_c {v : V} {d : D} {Q : R → Om → Prop} (h : PE X e (tC v)) (i : ∀ G, Is X.K G v d) (q : Q (.v d) om) : WE X an dr ρ om e Q := peI h fun σ H K' ⟨τ, G, g, n, k⟩ =>
  k v _ om τ G H (.v (i G)) q g (Grow.refl G τ)
theorem we_int {i : Int} {j} {Q : R → Om → Prop} (q : Q (.v (.int i)) om) : WE X an dr ρ om (.Constant (.int i) j pos) Q := we_c pe_int (fun _ => .int i) q
theorem we_str {i : Str} {j} {Q : R → Om → Prop} (q : Q (.v (.str i)) om) : WE X an dr ρ om (.Constant (.str i) j pos) Q := we_c pe_str (fun _ => .str i) q
theorem we_bl {i : Bool} {j} {Q : R → Om → Prop} (q : Q (.v (.bl i)) om) : WE X an dr ρ om (.Constant (.bool i) j pos) Q := we_c pe_bl (fun _ => .bl i) q
theorem we_non {j} {Q : R → Om → Prop} (q : Q (.v .non) om) : WE X an dr ρ om (.Constant .none j pos) Q := we_c pe_non (fun _ => .non) q
/-- a constant of the module -/
theorem we_glob {x : Str} {v : V} {u : Value} {d : D} {Q : R → Om → Prop} (hm : X.mg x = some u) (r : RelV v u) (i : ∀ G, Is X.K G v d) (hg : Gl X x) (q : Q (.v d) om) (hd : (x == ("__debug__" : Str)) = false := by decide) : WE X an dr ρ om (.Name x pos) Q := we_c (pe_glob hg hm r hd) i q
theorem we_bltn {x : Str} {v : V} {u : Value} {d : D} {Q : R → Om → Prop} (hm : X.mg x = none) (hv : bootBuiltins x = some u) (r : RelV v u) (i : ∀ G, Is X.K G v d) (hg : Gl X x) (q : Q (.v d) om) (hn : x ≠ "__name__" := by decide) (hd : (x == ("__debug__" : Str)) = false := by decide) :
    WE X an dr ρ om (.Name x pos) Q := we_c (pe_bltn hg hm hv r hn hd) i q

/-! ### arguments -/
theorem wa_nil {Q : List R → Om → Prop} (q : Q [] om) : WA X an dr ρ om [] Q := paI pa_nil fun σ H K' ⟨τ, G, g, n, k⟩ => k [] [] om τ G H .nil q g (Grow.refl G τ)
theorem wa_cons {Q : List R → Om → Prop} (h : WE X an dr ρ om e fun r om1 => WA X an dr ρ om1 es fun rs om2 => Q (r :: rs) om2) (hs : starEach (e :: es) X.env = (false, eval e X.env) :: starEach es X.env := by rfl) : WA X an dr ρ om (e :: es) Q :=
  paI (pa_cons (pe_u (an := an) (dr := dr)) (pa_u (an := an) (dr := dr)) hs) fun σ H K' ⟨τ, G, g, n, k⟩ =>
    uE_of h g n fun v r om1 τ1 G1 H1 h1 w g1 gr1 n1 => uA_of w g1 n1 fun vs rs om2 τ2 G2 H2 h2 q g2 gr2 n2 => k (v :: vs) (r :: rs) om2 τ2 G2 H2 (.cons (h1.mono gr2) h2) q g2 (gr1.trans gr2)

/-! ### displays -/
def allV : List R → (List D → Prop) → Prop
  | [], K => K []
  | .v d :: rs, K => allV rs fun ds => K (d :: ds)
  | .o _ :: _, _ => False
theorem allV_is {K : PySem.W.Frag} {G : Hp} {τ : List Addr} : ∀ {vs : List V} {rs : List R} {P : List D → Prop}, Paired (IsR K G τ) vs rs → allV rs P → ∃ ds, IsL K G vs ds ∧ P ds
  | _, _, _, .nil, h => ⟨[], .nil, h⟩
  | _, _, _, .cons (.v a) t, h => by
    obtain ⟨ds, h1, h2⟩ := allV_is t h
    exact ⟨_, .cons a h1, h2⟩
  | _, _, _, .cons (.o _) _, h => h.elim
theorem we_tup {x1} {Q : R → Om → Prop} (h : WA X an dr ρ om es fun rs om1 => allV rs fun ds => ds.length ≤ sizeLine ∧ Q (.v (.tup ds)) om1) : WE X an dr ρ om (.Tuple es x1 pos) Q :=
  peI (pe_tup (pa_u (an := an) (dr := dr))) fun σ H K' ⟨τ, G, g, n, k⟩ => uA_of h g n fun vs rs om1 τ1 G1 H1 h1 q g1 gr1 n1 => by
    obtain ⟨ds, i, z, q⟩ := allV_is h1 q
    exact ⟨by rw [i.length]; exact z, fun p hp => k _ _ om1 τ1 _ _ (.v (.tup upd_same (i.mono (Ex.new (g1.ex.free hp))))) q (g1.alloc hp) (gr1.trans (g1.grow hp))⟩
theorem we_lst {Q : R → Om → Prop} (h : WA X an dr ρ om es fun rs om1 => allV rs fun ds => ds.length ≤ sizeLine ∧ Q (.v (.lst ds)) om1) : WE X an dr ρ om (.List es pos) Q :=
  peI (pe_lst (pa_u (an := an) (dr := dr))) fun σ H K' ⟨τ, G, g, n, k⟩ => uA_of h g n fun vs rs om1 τ1 G1 H1 h1 q g1 gr1 n1 => by
    obtain ⟨ds, i, z, q⟩ := allV_is h1 q
    exact ⟨by rw [i.length]; exact z, fun p hp => k _ _ om1 τ1 _ _ (.v (.lst upd_same (i.mono (Ex.new (g1.ex.free hp))))) q (g1.alloc hp) (gr1.trans (g1.grow hp))⟩
/-- .. as a list of one's own -/
theorem we_lstO {Q : R → Om → Prop} (h : WA X an dr ρ om es fun rs om1 => allV rs fun ds => ds.length ≤ sizeLine ∧ Q (.o om1.length) (om1 ++ [some ds])) : WE X an dr ρ om (.List es pos) Q :=
  peI (pe_lst (pa_u (an := an) (dr := dr))) fun σ H K' ⟨τ, G, g, n, k⟩ => uA_of h g n fun vs rs om1 τ1 G1 H1 h1 q g1 gr1 n1 => by
    obtain ⟨ds, i, z, q⟩ := allV_is h1 q
    refine ⟨by rw [i.length]; exact z, fun p hp => k _ _ _ (τ1 ++ [p]) _ _ (.o ?_) q (g1.fresh hp i) (gr1.trans Good.growF)⟩
    rw [g1.len, List.getElem?_append_right (Nat.le_refl _), Nat.sub_self]
    rfl

/-! ### the view of a list of one's own -/
def cellD : Option (Option (List D)) → D
  | some (some ds) => .lst ds
  | _ => .dead
def vw (om : Om) : R → D
  | .v d => d
  | .o k => cellD om[k]?
theorem cellD_lst {c : Option (Option (List D))} {ds : List D} (h : cellD c = .lst ds) : c = some (some ds) := by
  match c, h with
  | some (some es), h => cases h; rfl
theorem vw_lst {K : PySem.W.Frag} {τ : List Addr} {G H : Hp} {v : V} {r : R} {ds : List D} (g : Good K an dr om τ G H) (h : IsR K G τ v r) (e : vw om r = .lst ds) : ∃ p vs, v = .ref p ∧ H p = some (.lst vs) ∧ IsL K G vs ds := by
  cases h with
  | v h =>
    have e : _ = D.lst ds := e
    subst e
    cases h with
    | lst h1 h2 => exact ⟨_, _, rfl, g.ex _ _ h1, h2⟩
  | @o a k h =>
    obtain ⟨_, _, _, vs, h1, h2⟩ := g.own k a ds h (cellD_lst e)
    exact ⟨a, vs, rfl, h1, h2⟩
/-- any other data -/
theorem vw_not {K : PySem.W.Frag} {τ : List Addr} {G H : Hp} {v : V} {r : R} {d : D} (g : Good K an dr om τ G H) (h : IsR K G τ v r) (e : vw om r = d) (nl : ∀ ds, d ≠ .lst ds) (nn : d ≠ .dead) : Is K G v d := by
  cases h with
  | v h => exact e ▸ h
  | @o a k h =>
    have e : cellD om[k]? = d := e
    match om[k]?, e with
    | some (some es), e => exact absurd e.symm (nl _)
    | some none, e => exact absurd e.symm nn
    | none, e => exact absurd e.symm nn
end
end DL

namespace DL
open PySem L2
/-! ### what a new value leaves -/
section
variable {K : PySem.W.Frag} {an : An} {dr : Option Dr} {om : Om} {τ : List Addr} {G H : Hp}
/-- the end of an operation that gives data -/
def Fin (K : PySem.W.Frag) (an : An) (dr : Option Dr) (om : Om) (τ : List Addr) (G : Hp) (Q : VK) (d : D) : Prop := ∀ v G' H', Is K G' v d → Good K an dr om τ G' H' → Grow G τ G' τ → Q v H'
theorem Fin.flat {Q : VK} {d : D} {v : V} (f : Fin K an dr om τ G Q d) (g : Good K an dr om τ G H) (i : Is K G v d) : Q v H := f v G H i g (Grow.refl G τ)
theorem Fin.lst {Q : VK} {ds : List D} {vs : List V} (f : Fin K an dr om τ G Q (.lst ds)) (g : Good K an dr om τ G H) (i : IsL K G vs ds) (p : Addr) (hp : H p = none) : Q (.ref p) (upd H p (.lst vs)) :=
  f _ _ _ (.lst upd_same (i.mono (Ex.new (g.ex.free hp)))) (g.alloc hp) (g.grow hp)
theorem Fin.tup {Q : VK} {ds : List D} {vs : List V} (f : Fin K an dr om τ G Q (.tup ds)) (g : Good K an dr om τ G H) (i : IsL K G vs ds) (p : Addr) (hp : H p = none) : Q (.ref p) (upd H p (.tup vs)) :=
  f _ _ _ (.tup upd_same (i.mono (Ex.new (g.ex.free hp)))) (g.alloc hp) (g.grow hp)
end
theorem Is.int_inv {K : PySem.W.Frag} {G : Hp} {v : V} {i : Int} (h : Is K G v (.int i)) : v = .int i := by cases h; rfl
theorem Is.str_inv {K : PySem.W.Frag} {G : Hp} {v : V} {i : Str} (h : Is K G v (.str i)) : v = .str i := by cases h; rfl
theorem Is.bl_inv {K : PySem.W.Frag} {G : Hp} {v : V} {i : Bool} (h : Is K G v (.bl i)) : v = .bl i := by cases h; rfl
theorem Is.non_inv {K : PySem.W.Frag} {G : Hp} {v : V} (h : Is K G v .non) : v = .non := by cases h; rfl
theorem Is.tup_inv {K : PySem.W.Frag} {G : Hp} {v : V} {ds : List D} (h : Is K G v (.tup ds)) : ∃ a vs, v = .ref a ∧ G a = some (.tup vs) ∧ IsL K G vs ds := by cases h with | tup h1 h2 => exact ⟨_, _, rfl, h1, h2⟩
theorem Is.lst_inv {K : PySem.W.Frag} {G : Hp} {v : V} {ds : List D} (h : Is K G v (.lst ds)) : ∃ a vs, v = .ref a ∧ G a = some (.lst vs) ∧ IsL K G vs ds := by cases h with | lst h1 h2 => exact ⟨_, _, rfl, h1, h2⟩
section
variable {K : PySem.W.Frag} {an : An} {dr : Option Dr} {om : Om} {τ : List Addr} {G H : Hp} {v : V} {r : R}
theorem vw_int {i : Int} (g : Good K an dr om τ G H) (h : IsR K G τ v r) (e : vw om r = .int i) : v = .int i := (vw_not g h e (fun _ z => nomatch z) (fun z => nomatch z)).int_inv
theorem vw_str {i : Str} (g : Good K an dr om τ G H) (h : IsR K G τ v r) (e : vw om r = .str i) : v = .str i := (vw_not g h e (fun _ z => nomatch z) (fun z => nomatch z)).str_inv
theorem vw_bl {i : Bool} (g : Good K an dr om τ G H) (h : IsR K G τ v r) (e : vw om r = .bl i) : v = .bl i := (vw_not g h e (fun _ z => nomatch z) (fun z => nomatch z)).bl_inv
theorem vw_tupH {ds : List D} (g : Good K an dr om τ G H) (h : IsR K G τ v r) (e : vw om r = .tup ds) : ∃ a vs, v = .ref a ∧ H a = some (.tup vs) ∧ IsL K G vs ds := by
  obtain ⟨a, vs, h1, h2, h3⟩ := (vw_not g h e (fun _ z => nomatch z) (fun z => nomatch z)).tup_inv
  exact ⟨a, vs, h1, g.ex _ _ h2, h3⟩
theorem vw_tup {ds : List D} (g : Good K an dr om τ G H) (h : IsR K G τ v r) (e : vw om r = .tup ds) : ∃ a vs, v = .ref a ∧ SqT K H a vs ∧ IsL K G vs ds := by
  obtain ⟨a, vs, h1, h2, h3⟩ := vw_tupH g h e
  exact ⟨a, vs, h1, .inl (.inl h2), h3⟩
end

/-! ### two operands -/
def binD (op : Operator) (x y : D) (K : D → Prop) : Prop := match op, x, y with
  | .Add, .int i, .int j => K (.int (i + j))
  | .Add, .str a, .str b => a.length + b.length ≤ sizeLine ∧ K (.str (a ++ b))
  | .Add, .lst a, .lst b => a.length + b.length ≤ sizeLine ∧ K (.lst (a ++ b))
  | .Add, .tup a, .tup b => a.length + b.length ≤ sizeLine ∧ K (.tup (a ++ b))
  | .Sub, .int i, .int j => K (.int (i - j))
  | .Mult, .int i, .int j => CMul i j ∧ K (.int (i * j))
  | .FloorDiv, .int i, .int j => CDivW i j ∧ K (.int (i / j))
  | .Mod, .int i, .int j => 0 < j ∧ K (.int (i % j))
  | .Pow, .int i, .int j => CPow i j ∧ K (.int (i ^ j.toNat))
  | .Mult, .lst a, .int j => (-(2 ^ 63) ≤ j ∧ j < 2 ^ 63 ∧ a.length * j.toNat ≤ sizeLine) ∧ K (.lst (List.replicate j.toNat a).flatten)
  | _, _, _ => False
def rBin (X : Cx) (op : Operator) : R2 := fun x y H Q => ∃ an dr om τ G ra rb, Good X.K an dr om τ G H ∧ IsR X.K G τ x ra ∧ IsR X.K G τ y rb ∧ binD op (vw om ra) (vw om rb) (Fin X.K an dr om τ G Q)
theorem IsL.rep {K : PySem.W.Frag} {G : Hp} {vs : List V} {ds : List D} (h : IsL K G vs ds) : ∀ n, IsL K G (List.replicate n vs).flatten (List.replicate n ds).flatten
  | 0 => .nil
  | n + 1 => by
    rw [List.replicate_succ, List.replicate_succ, List.flatten_cons, List.flatten_cons]
    exact h.append (IsL.rep h n)
theorem op_bin {X : Cx} {op : Operator} : OpR X (binaryOp op) (rBin X op) := by
  intro pins s σ H x y v u Q I rx ry h
  obtain ⟨an, dr, om, τ, G, ra, rb, g, ha, hb, h⟩ := h
  unfold binD at h
  split at h
  · rename_i e1 e2
    obtain rfl := vw_int g ha e1
    obtain rfl := vw_int g hb e2
    exact op_add pins s σ H _ _ v u Q I rx ry ⟨_, _, rfl, rfl, h.flat g (.int _)⟩
  · rename_i e1 e2
    obtain rfl := vw_str g ha e1
    obtain rfl := vw_str g hb e2
    exact op_add_str pins s σ H _ _ v u Q I rx ry ⟨_, _, rfl, rfl, h.1, h.2.flat g (.str _)⟩
  · rename_i e1 e2
    obtain ⟨p, vs, rfl, hp, i1⟩ := vw_lst g ha e1
    obtain ⟨q, ws, rfl, hq, i2⟩ := vw_lst g hb e2
    exact op_cat pins s σ H _ _ v u Q I rx ry ⟨p, q, vs, ws, rfl, rfl, hp, hq, by rw [i1.length, i2.length]; exact h.1, fun l hl => h.2.lst g (i1.append i2) l hl⟩
  · rename_i e1 e2
    obtain ⟨p, vs, rfl, hp, i1⟩ := vw_tup g ha e1
    obtain ⟨q, ws, rfl, hq, i2⟩ := vw_tup g hb e2
    have i3 := i1.append i2
    have n1 := vw_not g ha e1 (fun _ z => nomatch z) (fun z => nomatch z)
    have n2 := vw_not g hb e2 (fun _ z => nomatch z) (fun z => nomatch z)
    refine op_catA pins s σ H _ _ v u Q I rx ry ⟨p, q, vs, ws, rfl, rfl, hp, hq, by rw [i1.length, i2.length]; exact h.1, fun z => ?_, fun z1 z => ?_, fun z1 z2 l hl => ?_⟩
    · subst z
      cases i1
      exact h.2.flat g n2
    · subst z
      cases i2
      have h2 := h.2
      rw [List.append_nil] at h2
      exact h2.flat g n1
    · exact h.2.tup g i3 l hl
  · rename_i e1 e2
    obtain rfl := vw_int g ha e1
    obtain rfl := vw_int g hb e2
    exact op_sub pins s σ H _ _ v u Q I rx ry ⟨_, _, rfl, rfl, h.flat g (.int _)⟩
  · rename_i e1 e2
    obtain rfl := vw_int g ha e1
    obtain rfl := vw_int g hb e2
    exact op_mul pins s σ H _ _ v u Q I rx ry ⟨_, _, rfl, rfl, h.1, h.2.flat g (.int _)⟩
  · rename_i e1 e2
    obtain rfl := vw_int g ha e1
    obtain rfl := vw_int g hb e2
    exact op_fdivW pins s σ H _ _ v u Q I rx ry ⟨_, _, rfl, rfl, h.1, h.2.flat g (.int _)⟩
  · rename_i e1 e2
    obtain rfl := vw_int g ha e1
    obtain rfl := vw_int g hb e2
    exact op_mod pins s σ H _ _ v u Q I rx ry ⟨_, _, rfl, rfl, h.1, h.2.flat g (.int _)⟩
  · rename_i e1 e2
    obtain rfl := vw_int g ha e1
    obtain rfl := vw_int g hb e2
    exact op_pow pins s σ H _ _ v u Q I rx ry ⟨_, _, rfl, rfl, h.1, h.2.flat g (.int _)⟩
  · rename_i e1 e2
    obtain ⟨p, vs, rfl, hp, i1⟩ := vw_lst g ha e1
    obtain rfl := vw_int g hb e2
    exact op_rep pins s σ H _ _ v u Q I rx ry ⟨p, _, vs, rfl, rfl, hp, h.1.1, h.1.2.1, by rw [i1.length]; exact h.1.2.2, fun l hl => h.2.lst g (i1.rep _) l hl⟩
  · exact h.elim
section
variable {X : Cx} {an : An} {dr : Option Dr} {ρ : Rho} {om : Om} {e a b c : Expr} {es : List Expr} {pos : Pos} {Q : R → Om → Prop}
theorem we_bin {op : Operator} (h : WE X an dr ρ om a fun ra om1 => WE X an dr ρ om1 b fun rb om2 => binD op (vw om2 ra) (vw om2 rb) fun d => Q (.v d) om2) : WE X an dr ρ om (.BinOp a op b pos) Q :=
  peI (pe_op op_bin (pe_u (an := an) (dr := dr)) (pe_u (an := an) (dr := dr))) fun σ H K' ⟨τ, G, g, n, k⟩ =>
    uE_of h g n fun v r om1 τ1 G1 H1 h1 w g1 gr1 n1 => uE_of w g1 n1 fun v2 r2 om2 τ2 G2 H2 h2 q g2 gr2 n2 =>
      ⟨an, dr, om2, τ2, G2, r, r2, g2, h1.mono gr2, h2, binD_imp q fun d q v' G' H' i' g' gr' => k v' _ om2 τ2 G' H' (.v i') q g' ((gr1.trans gr2).trans gr')⟩
where
  binD_imp {op : Operator} {x y : D} {P P' : D → Prop} (h : binD op x y P) (i : ∀ d, P d → P' d) : binD op x y P' := by
    unfold binD at h ⊢
    split at h
    all_goals first | exact h.elim | exact i _ h | exact ⟨h.1, i _ h.2⟩
end
end DL

namespace DL
open PySem L2
/-! ### data as the library's -/
mutual
def toP : D → PyData
  | .non => .none
  | .bl b => .bool b
  | .int i => .int i
  | .str x => .str x
  | .lst xs => .list (toPs xs)
  | .tup xs => .tuple (toPs xs)
  | _ => .dict []
def toPs : List D → List PyData
  | [] => []
  | d :: ds => toP d :: toPs ds
end
theorem toPs_map : ∀ ds : List D, toPs ds = ds.map toP
  | [] => by simp [toPs]
  | d :: ds => by simp [toPs, toPs_map ds]
section
variable {K : PySem.W.Frag} {G G' : Hp}
mutual
theorem Is.dp (e : Ex G G') : ∀ {v : V} {d : D}, Is K G v d → (toP d).canLay0 = true → Dp K G' v (toP d)
  | _, _, .non, _ => .non
  | _, _, .bl b, _ => .bl b
  | _, _, .int i, _ => .int i
  | _, _, .str x, _ => .str x
  | _, _, .ty n, h => by simp [toP, PyData.canLay0] at h
  | _, _, .lst h q, c => .lst (.inl (.inl (e _ _ h))) (IsL.dp e q (by simpa [toP, PyData.canLay0] using c))
  | _, _, .tup h q, c => .tup (.inl (.inl (e _ _ h))) (IsL.dp e q (by simpa [toP, PyData.canLay0] using c))
  | _, _, .dic h q, c => by simp [toP, PyData.canLay0] at c
  | _, _, .obj a, c => by simp [toP, PyData.canLay0] at c
theorem IsL.dp (e : Ex G G') : ∀ {v : List V} {d : List D}, IsL K G v d → PyData.canLayAll0 (toPs d) = true → DpAll K G' v (toPs d)
  | _, _, .nil, _ => by simp only [toPs]; exact .nil
  | _, _, .cons h q, c => by
    simp only [toPs, PyData.canLayAll0, Bool.and_eq_true] at c ⊢
    exact .cons (Is.dp e h c.1) (IsL.dp e q c.2)
end
end
def eqD (x y : D) : Bool := PyData.eqv (toP x) (toP y)
def shp (x : D) : Prop := SeqAt.shaped (toP x) = true
def eqK (x y : D) (K : Bool → Prop) : Prop := match x, y with
  | .int i, .int j => K (decide (i = j))
  | .str i, .str j => K (decide (i = j))
  | .bl i, .bl j => K (decide (i = j))
  | x, y => shp x ∧ shp y ∧ K (eqD x y)
def ltK (f : Int → Int → Bool) (h : List Nat → List Nat → Bool) (x y : D) (K : Bool → Prop) : Prop := match x, y with
  | .int i, .int j => K (f i j)
  | .str i, .str j => K (h i.cps.toList j.cps.toList)
  | _, _ => False
def flatD : D → Bool
  | .non => true | .bl _ => true | .int _ => true | .str _ => true | _ => false
def keyD : D → Option Key
  | .int i => some (.inl i) | .str x => some (.inr x) | _ => none
def inK (x y : D) (K : Bool → Prop) : Prop := match y with
  | .lst ds => shp x ∧ shp (.lst ds) ∧ K (ds.any fun z => eqD z x)
  | .tup ds => flatD x = true ∧ ds.all flatD = true ∧ K (ds.any fun z => eqD z x)
  | .str z => match x with
    | .str t => ∃ c, t = ⟨#[c]⟩ ∧ K (decide (c ∈ z.cps.toList))
    | _ => False
  | _ => False
def isK (x y : D) (K : Bool → Prop) : Prop := match x, y with
  | .bl a, .bl b => K (decide (a = b))
  | .non, .non => K true
  | .bl _, .non => K false
  | .int _, .non => K false
  | .str _, .non => K false
  | .lst _, .non => K false
  | .tup _, .non => K false
  | .dic _, .non => K false
  | .obj _, .non => K false
  | _, _ => False
def cmpD (op : CmpOp) (x y : D) (K : Bool → Prop) : Prop := match op with
  | .Eq => eqK x y K
  | .NotEq => eqK x y fun b => K (!b)
  | .Lt => ltK (fun i j => decide (i < j)) (fun i j => decide (i < j)) x y K
  | .LtE => ltK (fun i j => decide (i ≤ j)) (fun i j => !decide (j < i)) x y K
  | .Gt => ltK (fun i j => decide (j < i)) (fun i j => decide (j < i)) x y K
  | .GtE => ltK (fun i j => decide (j ≤ i)) (fun i j => !decide (i < j)) x y K
  | .In => inK x y K
  | .NotIn => inK x y fun b => K (!b)
  | .Is => isK x y K
  | .IsNot => isK x y fun b => K (!b)
def rCmp (X : Cx) (op : CmpOp) : R2 := fun x y H Q => ∃ an dr om τ G ra rb, Good X.K an dr om τ G H ∧ IsR X.K G τ x ra ∧ IsR X.K G τ y rb ∧ cmpD op (vw om ra) (vw om rb) fun b => Q (.bl b) H
section
variable {X : Cx} {an : An} {dr : Option Dr} {om : Om} {τ : List Addr} {G H : Hp} {x y : V} {ra rb : R}
theorem vw_dp {K : PySem.W.Frag} {d : D} (g : Good K an dr om τ G H) (h : IsR K G τ x ra) (e : vw om ra = d) (c : shp d) : Dp K H x (toP d) := by
  have c0 := SeqAt.canLay_of_shaped c
  cases d with
  | lst ds =>
    obtain ⟨p, vs, rfl, hp, i⟩ := vw_lst g h e
    rw [toP] at c0 ⊢
    exact .lst (.inl (.inl hp)) (i.dp g.ex (by simpa [PyData.canLay0] using c0))
  | dead => simp [toP, PyData.canLay0] at c0
  | non => exact (vw_not g h e (fun _ z => nomatch z) (fun z => nomatch z)).dp g.ex c0
  | bl b => exact (vw_not g h e (fun _ z => nomatch z) (fun z => nomatch z)).dp g.ex c0
  | int b => exact (vw_not g h e (fun _ z => nomatch z) (fun z => nomatch z)).dp g.ex c0
  | str b => exact (vw_not g h e (fun _ z => nomatch z) (fun z => nomatch z)).dp g.ex c0
  | tup b => exact (vw_not g h e (fun _ z => nomatch z) (fun z => nomatch z)).dp g.ex c0
  | dic b => exact (vw_not g h e (fun _ z => nomatch z) (fun z => nomatch z)).dp g.ex c0
  | obj b => exact (vw_not g h e (fun _ z => nomatch z) (fun z => nomatch z)).dp g.ex c0
  | ty b => exact (vw_not g h e (fun _ z => nomatch z) (fun z => nomatch z)).dp g.ex c0
theorem eq_run {pins : List (Addr × Obj)} {s : Shared} {σ : L2.St} {v u : Value} {P : Bool → Prop} {Q : VK} (neg : Bool) (hu : X.A.units + 65 < cLine) (I : Inv X pins σ H s) (rx : RelV x v) (ry : RelV y u) (g : Good X.K an dr om τ G H) (ha : IsR X.K G τ x ra) (hb : IsR X.K G τ y rb)
    (h : eqK (vw om ra) (vw om rb) P) (q : ∀ b, P b → Q (.bl (if neg then !b else b)) H) : wpAny (model X.prog X.w) X.A (compareOp (if neg then .NotEq else .Eq) v u) (EP X pins σ Q) X.xe s := by
  have hu' : X.A.units + 64 < cLine := by omega
  unfold eqK at h
  split at h
  · rename_i i j e1 e2
    obtain rfl := vw_int g ha e1
    obtain rfl := vw_int g hb e2
    have e : decide (V.int i = V.int j) = decide (i = j) := by by_cases z : i = j <;> simp [z]
    cases neg
    · exact op_eq pins s σ H _ _ v u Q I rx ry ⟨rfl, by rw [e]; exact q _ h⟩
    · exact op_ne pins s σ H _ _ v u Q I rx ry ⟨rfl, by rw [e]; exact q _ h⟩
  · rename_i i j e1 e2
    obtain rfl := vw_str g ha e1
    obtain rfl := vw_str g hb e2
    have e : decide (V.str i = V.str j) = decide (i = j) := by by_cases z : i = j <;> simp [z]
    cases neg
    · exact op_eq pins s σ H _ _ v u Q I rx ry ⟨rfl, by rw [e]; exact q _ h⟩
    · exact op_ne pins s σ H _ _ v u Q I rx ry ⟨rfl, by rw [e]; exact q _ h⟩
  · rename_i i j e1 e2
    obtain rfl := vw_bl g ha e1
    obtain rfl := vw_bl g hb e2
    have e : decide (V.bl i = V.bl j) = decide (i = j) := by by_cases z : i = j <;> simp [z]
    cases neg
    · exact op_eq pins s σ H _ _ v u Q I rx ry ⟨rfl, by rw [e]; exact q _ h⟩
    · exact op_ne pins s σ H _ _ v u Q I rx ry ⟨rfl, by rw [e]; exact q _ h⟩
  · obtain ⟨s1, s2, h⟩ := h
    have d1 := vw_dp g ha rfl s1
    have d2 := vw_dp g hb rfl s2
    cases neg
    · exact op_eqD hu' pins s σ H _ _ v u Q I rx ry ⟨_, _, d1, d2, s1, s2, q _ h⟩
    · exact op_neD hu' pins s σ H _ _ v u Q I rx ry ⟨_, _, d1, d2, s1, s2, q _ h⟩
theorem flat_eq {K : PySem.W.Frag} {d e : D} {v u : V} (h : Is K G v d) (h' : Is K G u e) (f : flatD d = true) (f' : flatD e = true) : flatV v = true ∧ flatV u = true ∧ eqV v u = eqD d e := by
  cases h <;> simp [flatD] at f <;> cases h' <;> simp [flatD] at f' <;> simp [flatV, eqV, eqD, toP, PyData.eqv]
theorem flat_all {K : PySem.W.Frag} {d : D} {v : V} (h : Is K G v d) (f : flatD d = true) : ∀ {vs : List V} {ds : List D}, IsL K G vs ds → ds.all flatD = true → vs.all flatV = true ∧ inV v vs = ds.any fun z => eqD z d
  | _, _, .nil, _ => ⟨rfl, rfl⟩
  | _, _, .cons a t, q => by
    rw [List.all_cons, Bool.and_eq_true] at q
    obtain ⟨f1, f2, f3⟩ := flat_eq a h q.1 f
    obtain ⟨g1, g2⟩ := flat_all h f t q.2
    refine ⟨by rw [List.all_cons, f1, g1]; rfl, ?_⟩
    unfold inV at g2 ⊢
    rw [List.any_cons, List.any_cons, f3, g2]
theorem vw_flat {d : D} {K : PySem.W.Frag} (g : Good K an dr om τ G H) (h : IsR K G τ x ra) (e : vw om ra = d) (f : flatD d = true) : Is K G x d := by
  refine vw_not g h e (fun ds z => ?_) (fun z => ?_)
  · subst z; simp [flatD] at f
  · subst z; simp [flatD] at f
theorem in_run {pins : List (Addr × Obj)} {s : Shared} {σ : L2.St} {v u : Value} {P : Bool → Prop} {Q : VK} (neg : Bool) (hu : X.A.units + 65 < cLine) (I : Inv X pins σ H s) (rx : RelV x v) (ry : RelV y u) (g : Good X.K an dr om τ G H) (ha : IsR X.K G τ x ra) (hb : IsR X.K G τ y rb)
    (h : inK (vw om ra) (vw om rb) P) (q : ∀ b, P b → Q (.bl (if neg then !b else b)) H) : wpAny (model X.prog X.w) X.A (compareOp (if neg then .NotIn else .In) v u) (EP X pins σ Q) X.xe s := by
  unfold inK at h
  split at h
  · rename_i ds e
    obtain ⟨s1, s2, h⟩ := h
    have d1 := vw_dp g ha rfl s1
    have d2 := vw_dp g hb e s2
    have e3 : ((toPs ds).any fun z => PyData.eqv z (toP (vw om ra))) = ds.any fun z => eqD z (vw om ra) := by
      rw [toPs_map, List.any_map]; rfl
    rw [toP] at d2
    have s2' : SeqAt.shaped (.list (toPs ds)) = true := by have z := s2; unfold shp at z; rw [toP] at z; exact z
    cases neg
    · exact op_inD hu pins s σ H _ _ v u Q I rx ry ⟨_, _, d1, d2, s1, s2', by rw [e3]; exact q _ h⟩
    · exact op_notInD hu pins s σ H _ _ v u Q I rx ry ⟨_, _, d1, d2, s1, s2', by rw [e3]; exact q _ h⟩
  · rename_i ds e
    obtain ⟨f1, f2, h⟩ := h
    have i1 := vw_flat g ha rfl f1
    obtain ⟨p, vs, rfl, hp, i2⟩ := vw_tup g hb e
    obtain ⟨f3, f4⟩ := flat_all i1 f1 i2 f2
    have f5 : flatV x = true := (flat_eq i1 i1 f1 f1).1
    have z := q _ h
    rw [← f4] at z
    cases neg
    · exact op_in_seq pins s σ H _ _ v u Q I rx ry ⟨p, vs, rfl, .inr hp, f5, f3, z⟩
    · exact op_notIn_seq pins s σ H _ _ v u Q I rx ry ⟨p, vs, rfl, .inr hp, f5, f3, z⟩
  · rename_i z e
    split at h
    · rename_i t e2
      obtain ⟨c, rfl, h⟩ := h
      obtain rfl := vw_str g ha e2
      obtain rfl := vw_str g hb e
      cases neg
      · exact op_in_sign pins s σ H _ _ v u Q I rx ry ⟨c, z, rfl, rfl, q _ h⟩
      · exact op_notIn_sign pins s σ H _ _ v u Q I rx ry ⟨c, z, rfl, rfl, q _ h⟩
    · exact h.elim
  · exact h.elim
theorem is_run {pins : List (Addr × Obj)} {s : Shared} {σ : L2.St} {v u : Value} {P : Bool → Prop} {Q : VK} (neg : Bool) (I : Inv X pins σ H s) (rx : RelV x v) (ry : RelV y u) (g : Good X.K an dr om τ G H) (ha : IsR X.K G τ x ra) (hb : IsR X.K G τ y rb)
    (h : isK (vw om ra) (vw om rb) P) (q : ∀ b, P b → Q (.bl (if neg then !b else b)) H) : wpAny (model X.prog X.w) X.A (compareOp (if neg then .IsNot else .Is) v u) (EP X pins σ Q) X.xe s := by
  have nn : ∀ {b : Bool}, vw om rb = .non → P b → (decide (x = V.non)) = b → wpAny (model X.prog X.w) X.A (compareOp (if neg then .IsNot else .Is) v u) (EP X pins σ Q) X.xe s := fun {b} e p z => by
    obtain rfl := (vw_not g hb e (fun _ z => nomatch z) (fun z => nomatch z)).non_inv
    subst z
    cases neg
    · exact op_isN pins s σ H _ _ v u Q I rx ry ⟨rfl, q _ p⟩
    · exact op_notN pins s σ H _ _ v u Q I rx ry ⟨rfl, q _ p⟩
  unfold isK at h
  split at h
  · rename_i a b e1 e2
    obtain rfl := vw_bl g ha e1
    obtain rfl := vw_bl g hb e2
    cases neg
    · exact op_is_bl pins s σ H _ _ v u Q I rx ry ⟨a, b, rfl, rfl, q _ h⟩
    · exact op_isnot_bl pins s σ H _ _ v u Q I rx ry ⟨a, b, rfl, rfl, q _ h⟩
  · rename_i e1 e2
    obtain rfl := (vw_not g ha e1 (fun _ z => nomatch z) (fun z => nomatch z)).non_inv
    exact nn e2 h rfl
  · rename_i a e1 e2
    obtain rfl := vw_bl g ha e1
    exact nn e2 h rfl
  · rename_i a e1 e2
    obtain rfl := vw_int g ha e1
    exact nn e2 h rfl
  · rename_i a e1 e2
    obtain rfl := vw_str g ha e1
    exact nn e2 h rfl
  · rename_i a e1 e2
    obtain ⟨p, vs, rfl, _⟩ := vw_lst g ha e1
    exact nn e2 h rfl
  · rename_i a e1 e2
    obtain ⟨p, vs, rfl, _⟩ := vw_tup g ha e1
    exact nn e2 h rfl
  · rename_i a e1 e2
    have z := vw_not g ha e1 (fun _ z => nomatch z) (fun z => nomatch z)
    cases z
    exact nn e2 h rfl
  · rename_i a e1 e2
    have z := vw_not g ha e1 (fun _ z => nomatch z) (fun z => nomatch z)
    cases z
    exact nn e2 h rfl
  · exact h.elim
theorem op_cmp {op : CmpOp} (hu : X.A.units + 65 < cLine) : OpR X (compareOp op) (rCmp X op) := by
  intro pins s σ H x y v u Q I rx ry h
  obtain ⟨an, dr, om, τ, G, ra, rb, g, ha, hb, h⟩ := h
  cases op with
  | Eq =>
    simp only [cmpD] at h
    exact eq_run false hu I rx ry g ha hb h fun b p => p
  | NotEq =>
    simp only [cmpD] at h
    exact eq_run true hu I rx ry g ha hb h fun b p => p
  | In =>
    simp only [cmpD] at h
    exact in_run false hu I rx ry g ha hb h fun b p => p
  | NotIn =>
    simp only [cmpD] at h
    exact in_run true hu I rx ry g ha hb h fun b p => p
  | Is =>
    simp only [cmpD] at h
    exact is_run false I rx ry g ha hb h fun b p => p
  | IsNot =>
    simp only [cmpD] at h
    exact is_run true I rx ry g ha hb h fun b p => p
  | Lt =>
    simp only [cmpD] at h
    unfold ltK at h
    split at h
    · rename_i e1 e2
      obtain rfl := vw_int g ha e1
      obtain rfl := vw_int g hb e2
      exact op_lt pins s σ H _ _ v u Q I rx ry ⟨_, _, rfl, rfl, h⟩
    · rename_i e1 e2
      obtain rfl := vw_str g ha e1
      obtain rfl := vw_str g hb e2
      exact op_lt_str pins s σ H _ _ v u Q I rx ry ⟨_, _, rfl, rfl, h⟩
    · exact h.elim
  | LtE =>
    simp only [cmpD] at h
    unfold ltK at h
    split at h
    · rename_i e1 e2
      obtain rfl := vw_int g ha e1
      obtain rfl := vw_int g hb e2
      exact op_le pins s σ H _ _ v u Q I rx ry ⟨_, _, rfl, rfl, h⟩
    · rename_i e1 e2
      obtain rfl := vw_str g ha e1
      obtain rfl := vw_str g hb e2
      exact op_le_str pins s σ H _ _ v u Q I rx ry ⟨_, _, rfl, rfl, h⟩
    · exact h.elim
  | Gt =>
    simp only [cmpD] at h
    unfold ltK at h
    split at h
    · rename_i e1 e2
      obtain rfl := vw_int g ha e1
      obtain rfl := vw_int g hb e2
      exact op_gt pins s σ H _ _ v u Q I rx ry ⟨_, _, rfl, rfl, h⟩
    · rename_i e1 e2
      obtain rfl := vw_str g ha e1
      obtain rfl := vw_str g hb e2
      exact op_gt_str pins s σ H _ _ v u Q I rx ry ⟨_, _, rfl, rfl, h⟩
    · exact h.elim
  | GtE =>
    simp only [cmpD] at h
    unfold ltK at h
    split at h
    · rename_i e1 e2
      obtain rfl := vw_int g ha e1
      obtain rfl := vw_int g hb e2
      exact op_ge pins s σ H _ _ v u Q I rx ry ⟨_, _, rfl, rfl, h⟩
    · rename_i e1 e2
      obtain rfl := vw_str g ha e1
      obtain rfl := vw_str g hb e2
      exact op_ge_str pins s σ H _ _ v u Q I rx ry ⟨_, _, rfl, rfl, h⟩
    · exact h.elim
end
theorem eqK_imp {x y : D} {P P' : Bool → Prop} (h : eqK x y P) (i : ∀ b, P b → P' b) : eqK x y P' := by
  unfold eqK at h ⊢
  split at h
  all_goals first | exact i _ h | exact ⟨h.1, h.2.1, i _ h.2.2⟩
theorem ltK_imp {f : Int → Int → Bool} {g : List Nat → List Nat → Bool} {x y : D} {P P' : Bool → Prop} (h : ltK f g x y P) (i : ∀ b, P b → P' b) : ltK f g x y P' := by
  unfold ltK at h ⊢
  split at h
  all_goals first | exact h.elim | exact i _ h
theorem inK_imp {x y : D} {P P' : Bool → Prop} (h : inK x y P) (i : ∀ b, P b → P' b) : inK x y P' := by
  unfold inK at h ⊢
  split at h
  · exact ⟨h.1, h.2.1, i _ h.2.2⟩
  · exact ⟨h.1, h.2.1, i _ h.2.2⟩
  · split at h
    · obtain ⟨c, e, h⟩ := h
      exact ⟨c, e, i _ h⟩
    · exact h.elim
  · exact h.elim
theorem isK_imp {x y : D} {P P' : Bool → Prop} (h : isK x y P) (i : ∀ b, P b → P' b) : isK x y P' := by
  unfold isK at h ⊢
  split at h
  all_goals first | exact h.elim | exact i _ h
theorem cmpD_imp {op : CmpOp} {x y : D} {P P' : Bool → Prop} (h : cmpD op x y P) (i : ∀ b, P b → P' b) : cmpD op x y P' := by
  cases op
  all_goals simp only [cmpD] at h ⊢
  all_goals first | exact eqK_imp h i | exact eqK_imp h (fun b => i _) | exact ltK_imp h i | exact inK_imp h i | exact inK_imp h (fun b => i _) | exact isK_imp h i | exact isK_imp h (fun b => i _)
section
variable {X : Cx} {an : An} {dr : Option Dr} {ρ : Rho} {om : Om} {e a b c : Expr} {es : List Expr} {pos : Pos} {Q : R → Om → Prop} {T : Bool → Om → Prop}
theorem we_cmp {op : CmpOp} (hu : X.A.units + 65 < cLine) (h : WE X an dr ρ om a fun ra om1 => WE X an dr ρ om1 b fun rb om2 => cmpD op (vw om2 ra) (vw om2 rb) fun t => Q (.v (.bl t)) om2) (hm : behindInMarks op b = false := by first | exact nobehind _ (by decide) (by decide) | rfl) :
    WE X an dr ρ om (.Compare a [op] [b] pos) Q :=
  peI (pe_cmpR (op_cmp hu) (pe_u (an := an) (dr := dr)) (pe_u (an := an) (dr := dr)) hm) fun σ H K' ⟨τ, G, g, n, k⟩ =>
    uE_of h g n fun v r om1 τ1 G1 H1 h1 w g1 gr1 n1 => uE_of w g1 n1 fun v2 r2 om2 τ2 G2 H2 h2 q g2 gr2 n2 =>
      ⟨an, dr, om2, τ2, G2, r, r2, g2, h1.mono gr2, h2, cmpD_imp q fun t q => k _ _ om2 τ2 G2 H2 (.v (.bl t)) q g2 (gr1.trans gr2)⟩
theorem wt_cmp {op : CmpOp} (hu : X.A.units + 65 < cLine) (h : WE X an dr ρ om a fun ra om1 => WE X an dr ρ om1 b fun rb om2 => cmpD op (vw om2 ra) (vw om2 rb) fun t => T t om2) (hm : behindInMarks op b = false := by first | exact nobehind _ (by decide) (by decide) | rfl) :
    WT X an dr ρ om (.Compare a [op] [b] pos) T :=
  ptI (pt_cmpR (op_cmp hu) (pe_u (an := an) (dr := dr)) (pe_u (an := an) (dr := dr)) hm) fun σ H K' ⟨τ, G, g, n, k⟩ =>
    uE_of h g n fun v r om1 τ1 G1 H1 h1 w g1 gr1 n1 => uE_of w g1 n1 fun v2 r2 om2 τ2 G2 H2 h2 q g2 gr2 n2 =>
      ⟨an, dr, om2, τ2, G2, r, r2, g2, h1.mono gr2, h2, cmpD_imp q fun t q => ⟨t, rfl, k _ om2 τ2 G2 H2 q g2 (gr1.trans gr2)⟩⟩
theorem wt_chain {op op' : CmpOp} (hu : X.A.units + 65 < cLine) (h : WE X an dr ρ om a fun ra om1 => WE X an dr ρ om1 b fun rb om2 => cmpD op (vw om2 ra) (vw om2 rb) fun t =>
      if t = true then WE X an dr ρ om2 c fun rc om3 => cmpD op' (vw om3 rb) (vw om3 rc) fun t' => T t' om3 else T false om2) (hm : lastMarks [op, op'] [b, c] = false := by with_unfolding_all rfl) :
    WT X an dr ρ om (.Compare a [op, op'] [b, c] pos) T :=
  ptI (pt_chain (op_cmp hu) (op_cmp hu) (pe_u (an := an) (dr := dr)) (pe_u (an := an) (dr := dr)) (pe_u (an := an) (dr := dr)) hm) fun σ H K' ⟨τ, G, g, n, k⟩ =>
    uE_of h g n fun v r om1 τ1 G1 H1 h1 w g1 gr1 n1 => uE_of w g1 n1 fun v2 r2 om2 τ2 G2 H2 h2 q g2 gr2 n2 =>
      ⟨an, dr, om2, τ2, G2, r, r2, g2, h1.mono gr2, h2, cmpD_imp q fun t q => ⟨t, rfl, by
        cases t with
        | true =>
          rw [if_pos rfl] at q ⊢
          exact uE_of q g2 n2 fun v3 r3 om3 τ3 G3 H3 h3 q3 g3 gr3 n3 => ⟨an, dr, om3, τ3, G3, r2, r3, g3, h2.mono gr3, h3, cmpD_imp q3 fun t' q4 => ⟨t', rfl, k _ om3 τ3 G3 H3 q4 g3 ((gr1.trans gr2).trans gr3)⟩⟩
        | false =>
          rw [if_neg Bool.false_ne_true] at q ⊢
          exact ⟨false, rfl, k _ om2 τ2 G2 H2 q g2 (gr1.trans gr2)⟩⟩⟩
theorem we_chain {op op' : CmpOp} (hu : X.A.units + 65 < cLine) (h : WE X an dr ρ om a fun ra om1 => WE X an dr ρ om1 b fun rb om2 => cmpD op (vw om2 ra) (vw om2 rb) fun t =>
      if t = true then WE X an dr ρ om2 c fun rc om3 => cmpD op' (vw om3 rb) (vw om3 rc) fun t' => Q (.v (.bl t')) om3 else Q (.v (.bl false)) om2) (hm : lastMarks [op, op'] [b, c] = false := by with_unfolding_all rfl) :
    WE X an dr ρ om (.Compare a [op, op'] [b, c] pos) Q :=
  peI (pe_chain (op_cmp hu) (op_cmp hu) (pe_u (an := an) (dr := dr)) (pe_u (an := an) (dr := dr)) (pe_u (an := an) (dr := dr)) hm) fun σ H K' ⟨τ, G, g, n, k⟩ =>
    uE_of h g n fun v r om1 τ1 G1 H1 h1 w g1 gr1 n1 => uE_of w g1 n1 fun v2 r2 om2 τ2 G2 H2 h2 q g2 gr2 n2 =>
      ⟨an, dr, om2, τ2, G2, r, r2, g2, h1.mono gr2, h2, cmpD_imp q fun t q => ⟨t, rfl, by
        cases t with
        | true =>
          rw [if_pos rfl] at q ⊢
          exact uE_of q g2 n2 fun v3 r3 om3 τ3 G3 H3 h3 q3 g3 gr3 n3 => ⟨an, dr, om3, τ3, G3, r2, r3, g3, h2.mono gr3, h3, cmpD_imp q3 fun t' q4 => k _ _ om3 τ3 G3 H3 (.v (.bl t')) q4 g3 ((gr1.trans gr2).trans gr3)⟩
        | false =>
          rw [if_neg Bool.false_ne_true] at q ⊢
          exact k _ _ om2 τ2 G2 H2 (.v (.bl false)) q g2 (gr1.trans gr2)⟩⟩
/-! ### tests -/
def blR (r : R) (K : Bool → Prop) : Prop := match r with
  | .v (.bl b) => K b
  | _ => False
theorem blR_is {K : PySem.W.Frag} {G : Hp} {τ : List Addr} {v : V} {r : R} {P : Bool → Prop} (h : IsR K G τ v r) (p : blR r P) : ∃ b, v = .bl b ∧ r = .v (.bl b) ∧ P b := by
  unfold blR at p
  split at p
  · cases h with | v h => exact ⟨_, h.bl_inv, rfl, p⟩
  · exact p.elim
theorem wt_val (h : WE X an dr ρ om e fun r om1 => blR r fun t => T t om1) (he : ∀ whole, isTrue e X.env whole = (do let v ← whole; standAt e.pos; holding [v] (truthy v)) := by intro _; rfl) : WT X an dr ρ om e T :=
  ptI (pt_val (pe_u (an := an) (dr := dr)) he) fun σ H K' ⟨τ, G, g, n, k⟩ => uE_of h g n fun v r om1 τ1 G1 H1 h1 w g1 gr1 n1 => by
    obtain ⟨t, rfl, _, w⟩ := blR_is h1 w
    exact ⟨t, rfl, k t om1 τ1 G1 H1 w g1 gr1⟩
theorem wt_not (h : WT X an dr ρ om a fun t om1 => T (!t) om1) : WT X an dr ρ om (.UnaryOp .Not a pos) T :=
  ptI (pt_not (pt_u (an := an) (dr := dr))) fun σ H K' ⟨τ, G, g, n, k⟩ => uT_of h g n fun t om1 τ1 G1 H1 w g1 gr1 n1 => k _ om1 τ1 G1 H1 w g1 gr1
theorem we_not (h : WE X an dr ρ om a fun r om1 => blR r fun t => Q (.v (.bl (!t))) om1) : WE X an dr ρ om (.UnaryOp .Not a pos) Q :=
  peI (pe_not (pe_u (an := an) (dr := dr))) fun σ H K' ⟨τ, G, g, n, k⟩ => uE_of h g n fun v r om1 τ1 G1 H1 h1 w g1 gr1 n1 => by
    obtain ⟨t, rfl, _, w⟩ := blR_is h1 w
    exact ⟨t, rfl, k _ _ om1 τ1 G1 H1 (.v (.bl _)) w g1 gr1⟩
/-- and, or: as tests; the rest of the row as one test -/
def WW (X : Cx) (an : An) (dr : Option Dr) (ρ : Rho) (om : Om) (e : Expr) (Q : Bool → Om → Prop) : Prop := PW X e (tDT X.K an dr ρ om Q)
def uW (X : Cx) (an : An) (dr : Option Dr) (e : Expr) : TT := fun σ H K' => ∃ ρ om Q, WW X an dr ρ om e Q ∧ tDT X.K an dr ρ om Q σ H K'
theorem pw_u : PW X e (uW X an dr e) := ⟨fun wh pins s σ H K' I ⟨ρ, om, Q, w, h⟩ => PW.run w wh pins s σ H K' I h⟩
theorem uW_of {σ : L2.St} {H : Hp} {τ : List Addr} {G : Hp} {K' : Bool → Hp → Prop} (w : WW X an dr ρ om e T) (g : Good X.K an dr om τ G H) (n : EnvIs X.K G τ σ ρ)
    (k : ∀ b om' τ' G' H', T b om' → Good X.K an dr om' τ' G' H' → Grow G τ G' τ' → K' b H') : uW X an dr e σ H K' := ⟨ρ, om, T, w, τ, G, g, n, k⟩
theorem WW.wt (h : WW X an dr ρ om e T) : WT X an dr ρ om e T := PW.pt h
theorem ww_and1 (h : WT X an dr ρ om a T) : WW X an dr ρ om (.BoolOp .And [a] pos) T := pw_and1 h
theorem ww_or1 (h : WT X an dr ρ om a T) : WW X an dr ρ om (.BoolOp .Or [a] pos) T := pw_or1 h
theorem ww_and (h : WT X an dr ρ om a fun t om1 => if t = true then WW X an dr ρ om1 (.BoolOp .And (b :: es) pos) T else T false om1) : WW X an dr ρ om (.BoolOp .And (a :: b :: es) pos) T :=
  pwI (pw_and (pt_u (an := an) (dr := dr)) (pw_u (an := an) (dr := dr))) fun σ H K' ⟨τ, G, g, n, k⟩ => uT_of h g n fun t om1 τ1 G1 H1 w g1 gr1 n1 => by
    cases t with
    | true => rw [if_pos rfl] at w ⊢; exact uW_of w g1 n1 fun t2 om2 τ2 G2 H2 w2 g2 gr2 => k t2 om2 τ2 G2 H2 w2 g2 (gr1.trans gr2)
    | false => rw [if_neg Bool.false_ne_true] at w ⊢; exact k _ om1 τ1 G1 H1 w g1 gr1
theorem ww_or (h : WT X an dr ρ om a fun t om1 => if t = true then T true om1 else WW X an dr ρ om1 (.BoolOp .Or (b :: es) pos) T) : WW X an dr ρ om (.BoolOp .Or (a :: b :: es) pos) T :=
  pwI (pw_or (pt_u (an := an) (dr := dr)) (pw_u (an := an) (dr := dr))) fun σ H K' ⟨τ, G, g, n, k⟩ => uT_of h g n fun t om1 τ1 G1 H1 w g1 gr1 n1 => by
    cases t with
    | true => rw [if_pos rfl] at w ⊢; exact k _ om1 τ1 G1 H1 w g1 gr1
    | false => rw [if_neg Bool.false_ne_true] at w ⊢; exact uW_of w g1 n1 fun t2 om2 τ2 G2 H2 w2 g2 gr2 => k t2 om2 τ2 G2 H2 w2 g2 (gr1.trans gr2)
theorem we_and1 (h : WE X an dr ρ om a Q) : WE X an dr ρ om (.BoolOp .And [a] pos) Q := pe_one h
theorem we_or1 (h : WE X an dr ρ om a Q) : WE X an dr ρ om (.BoolOp .Or [a] pos) Q := pe_one h
theorem we_and (h : WE X an dr ρ om a fun r om1 => blR r fun t => if t = true then WE X an dr ρ om1 (.BoolOp .And (b :: es) pos) Q else Q (.v (.bl false)) om1) : WE X an dr ρ om (.BoolOp .And (a :: b :: es) pos) Q :=
  peI (pe_and (pe_u (an := an) (dr := dr)) (pe_u (an := an) (dr := dr))) fun σ H K' ⟨τ, G, g, n, k⟩ => uE_of h g n fun v r om1 τ1 G1 H1 h1 w g1 gr1 n1 => by
    obtain ⟨t, rfl, _, w⟩ := blR_is h1 w
    refine ⟨t, rfl, ?_⟩
    cases t with
    | true => rw [if_pos rfl] at w ⊢; exact uE_of w g1 n1 fun v2 r2 om2 τ2 G2 H2 h2 w2 g2 gr2 n2 => k v2 r2 om2 τ2 G2 H2 h2 w2 g2 (gr1.trans gr2)
    | false => rw [if_neg Bool.false_ne_true] at w ⊢; exact k _ _ om1 τ1 G1 H1 (.v (.bl _)) w g1 gr1
theorem we_or (h : WE X an dr ρ om a fun r om1 => blR r fun t => if t = true then Q (.v (.bl true)) om1 else WE X an dr ρ om1 (.BoolOp .Or (b :: es) pos) Q) : WE X an dr ρ om (.BoolOp .Or (a :: b :: es) pos) Q :=
  peI (pe_or (pe_u (an := an) (dr := dr)) (pe_u (an := an) (dr := dr))) fun σ H K' ⟨τ, G, g, n, k⟩ => uE_of h g n fun v r om1 τ1 G1 H1 h1 w g1 gr1 n1 => by
    obtain ⟨t, rfl, _, w⟩ := blR_is h1 w
    refine ⟨t, rfl, ?_⟩
    cases t with
    | true => rw [if_pos rfl] at w ⊢; exact k _ _ om1 τ1 G1 H1 (.v (.bl _)) w g1 gr1
    | false => rw [if_neg Bool.false_ne_true] at w ⊢; exact uE_of w g1 n1 fun v2 r2 om2 τ2 G2 H2 h2 w2 g2 gr2 n2 => k v2 r2 om2 τ2 G2 H2 h2 w2 g2 (gr1.trans gr2)
theorem we_ifexp (h : WT X an dr ρ om c fun t om1 => if t = true then WE X an dr ρ om1 a Q else WE X an dr ρ om1 b Q) : WE X an dr ρ om (.IfExp c a b pos) Q :=
  peI (pe_ifExp (pt_u (an := an) (dr := dr)) (pe_u (an := an) (dr := dr)) (pe_u (an := an) (dr := dr))) fun σ H K' ⟨τ, G, g, n, k⟩ => uT_of h g n fun t om1 τ1 G1 H1 w g1 gr1 n1 => by
    cases t with
    | true => rw [if_pos rfl] at w ⊢; exact uE_of w g1 n1 fun v2 r2 om2 τ2 G2 H2 h2 w2 g2 gr2 n2 => k v2 r2 om2 τ2 G2 H2 h2 w2 g2 (gr1.trans gr2)
    | false => rw [if_neg Bool.false_ne_true] at w ⊢; exact uE_of w g1 n1 fun v2 r2 om2 τ2 G2 H2 h2 w2 g2 gr2 n2 => k v2 r2 om2 τ2 G2 H2 h2 w2 g2 (gr1.trans gr2)
end
end DL

namespace DL
open PySem L2
section
variable {K : PySem.W.Frag} {an : An} {dr : Option Dr} {G : Hp} {τ : List Addr} {n : Nat}
theorem Left.imp {P P' : Rho → Om → Prop} {σ : L2.St} {H : Hp} (h : Left K an dr G τ n P σ H) (i : ∀ ρ om, P ρ om → P' ρ om) : Left K an dr G τ n P' σ H := by
  obtain ⟨ρ, om, τ', G', h1, h2⟩ := h
  exact ⟨ρ, om, τ', G', i _ _ h1, h2⟩
theorem Left.grow {G' : Hp} {τ' : List Addr} {P : Rho → Om → Prop} {σ : L2.St} {H : Hp} (g : Grow G τ G' τ') (h : Left K an dr G' τ' n P σ H) : Left K an dr G τ n P σ H := by
  obtain ⟨ρ, om, τ2, G2, h1, h2, h3, h4, h5⟩ := h
  exact ⟨ρ, om, τ2, G2, h1, h2, h3, g.trans h4, h5⟩
theorem LeftV.grow {G' : Hp} {τ' : List Addr} {P : D → Prop} {v : V} {H : Hp} (g : Grow G τ G' τ') (h : LeftV K an dr G' τ' P v H) : LeftV K an dr G τ P v H := by
  obtain ⟨d, om, τ2, G2, h1, h2, h3, h4⟩ := h
  exact ⟨d, om, τ2, G2, h1, h2, h3, g.trans h4⟩
theorem EnvIs.set {σ : L2.St} {ρ : Rho} {i : Nat} {v : V} {r : R} (h : EnvIs K G τ σ ρ) (hl : σ.length = ρ.length) (hr : IsR K G τ v r) : EnvIs K G τ (σ.set i (some v)) (ρ.set i (some r)) := fun j q e => by
  by_cases hj : i = j
  · subst hj
    have hlt : i < ρ.length := by
      have := (List.getElem?_eq_some_iff.mp e).1
      rw [List.length_set] at this
      exact this
    rw [List.getElem?_set_self hlt] at e
    cases e
    exact ⟨v, List.getElem?_set_self (by rw [hl]; exact hlt), hr⟩
  · rw [List.getElem?_set_ne hj] at e
    obtain ⟨u, h1, h2⟩ := h j q e
    exact ⟨u, by rw [List.getElem?_set_ne hj]; exact h1, h2⟩
theorem EnvIs.wipe {σ : L2.St} {ρ : Rho} {i : Nat} {x : Option V} (h : EnvIs K G τ σ ρ) : EnvIs K G τ (σ.set i x) (ρ.set i none) := fun j q e => by
  by_cases hj : i = j
  · subst hj
    by_cases hlt : i < ρ.length
    · rw [List.getElem?_set_self hlt] at e; cases e
    · rw [List.getElem?_eq_none (by rw [List.length_set]; omega)] at e; cases e
  · rw [List.getElem?_set_ne hj] at e
    obtain ⟨u, h1, h2⟩ := h j q e
    exact ⟨u, by rw [List.getElem?_set_ne hj]; exact h1, h2⟩
end
section
variable {X : Cx} {an : An} {dr : Option Dr} {ρ : Rho} {om : Om} {e a b c : Expr} {es : List Expr} {st : Stmt} {sts sts' : List Stmt} {pos : Pos} {E : Ed}
/-! ### blocks -/
theorem uS1_of {σ : L2.St} {H : Hp} {τ : List Addr} {G : Hp} {Z : Ends} (w : WS X an dr ρ om st E) (g : Good X.K an dr om τ G H) (n : EnvIs X.K G τ σ ρ) (hl : σ.length = ρ.length)
    (h1 : ∀ σ' H', Left X.K an dr G τ ρ.length E.nx σ' H' → Z.nx σ' H') (h2 : ∀ v H', LeftV X.K an dr G τ E.rt v H' → Z.rt v H') (h3 : ∀ σ' H', Left X.K an dr G τ ρ.length E.bk σ' H' → Z.bk σ' H') (h4 : ∀ σ' H', Left X.K an dr G τ ρ.length E.ct σ' H' → Z.ct σ' H') : uS1 X an dr st Z σ H :=
  ⟨ρ, om, E, w, τ, G, g, n, hl, h1, h2, h3, h4⟩
theorem uS_of {σ : L2.St} {H : Hp} {τ : List Addr} {G : Hp} {Z : Ends} (w : WSs X an dr ρ om sts E) (g : Good X.K an dr om τ G H) (n : EnvIs X.K G τ σ ρ) (hl : σ.length = ρ.length)
    (h1 : ∀ σ' H', Left X.K an dr G τ ρ.length E.nx σ' H' → Z.nx σ' H') (h2 : ∀ v H', LeftV X.K an dr G τ E.rt v H' → Z.rt v H') (h3 : ∀ σ' H', Left X.K an dr G τ ρ.length E.bk σ' H' → Z.bk σ' H') (h4 : ∀ σ' H', Left X.K an dr G τ ρ.length E.ct σ' H' → Z.ct σ' H') : uS X an dr sts Z σ H :=
  ⟨ρ, om, E, w, τ, G, g, n, hl, h1, h2, h3, h4⟩
theorem wss_nil (h : E.nx ρ om) : WSs X an dr ρ om [] E := pssI pss_nil fun Z σ H ⟨τ, G, g, n, hl, h1, _⟩ => h1 σ H ⟨ρ, om, τ, G, h, g, n, Grow.refl G τ, hl, rfl⟩
theorem wss_cons (h : WS X an dr ρ om st { E with nx := fun ρ' om' => WSs X an dr ρ' om' sts E }) : WSs X an dr ρ om (st :: sts) E :=
  pssI (pss_cons (ps_u (an := an) (dr := dr)) (pss_u (an := an) (dr := dr))) fun Z σ H ⟨τ, G, g, n, hl, h1, h2, h3, h4⟩ =>
    uS1_of h g n hl (fun σ' H' ⟨ρ', om', τ', G', w, g', n', gr, l1, l2⟩ => uS_of w g' n' (l1.trans l2.symm)
      (fun σ2 H2 q => h1 σ2 H2 (Left.grow gr (l2 ▸ q))) (fun v H2 q => h2 v H2 (LeftV.grow gr q)) (fun σ2 H2 q => h3 σ2 H2 (Left.grow gr (l2 ▸ q))) (fun σ2 H2 q => h4 σ2 H2 (Left.grow gr (l2 ▸ q)))) h2 h3 h4
theorem wss_one (h : WS X an dr ρ om st E) : WSs X an dr ρ om [st] E := pss_one h
theorem WSs.imp {E' : Ed} (h : WSs X an dr ρ om sts E) (i1 : ∀ ρ om, E.nx ρ om → E'.nx ρ om) (i2 : ∀ d, E.rt d → E'.rt d) (i3 : ∀ ρ om, E.bk ρ om → E'.bk ρ om) (i4 : ∀ ρ om, E.ct ρ om → E'.ct ρ om) : WSs X an dr ρ om sts E' :=
  pssI h fun Z σ H ⟨τ, G, g, n, hl, h1, h2, h3, h4⟩ => ⟨τ, G, g, n, hl, fun σ' H' q => h1 σ' H' (q.imp i1), fun v H' ⟨d, om', τ', G', q, r⟩ => h2 v H' ⟨d, om', τ', G', i2 d q, r⟩, fun σ' H' q => h3 σ' H' (q.imp i3), fun σ' H' q => h4 σ' H' (q.imp i4)⟩
theorem ws_pass (h : E.nx ρ om) : WS X an dr ρ om (.Pass pos) E := psI ps_pass fun Z σ H ⟨τ, G, g, n, hl, h1, _⟩ => h1 σ H ⟨ρ, om, τ, G, h, g, n, Grow.refl G τ, hl, rfl⟩
theorem ws_break (h : E.bk ρ om) : WS X an dr ρ om (.Break pos) E := psI ps_break fun Z σ H ⟨τ, G, g, n, hl, _, _, h1, _⟩ => h1 σ H ⟨ρ, om, τ, G, h, g, n, Grow.refl G τ, hl, rfl⟩
theorem ws_continue (h : E.ct ρ om) : WS X an dr ρ om (.Continue pos) E := psI ps_continue fun Z σ H ⟨τ, G, g, n, hl, _, _, _, h1⟩ => h1 σ H ⟨ρ, om, τ, G, h, g, n, Grow.refl G τ, hl, rfl⟩
theorem ws_expr (h : WE X an dr ρ om e fun _ om1 => E.nx ρ om1) (hs : swapsWith e none pos.line X.env = pure false := by rfl) : WS X an dr ρ om (.Expr e pos) E :=
  psI (ps_expr (pe_u (an := an) (dr := dr)) hs) fun Z σ H ⟨τ, G, g, n, hl, h1, _⟩ => uE_of h g n fun v r om1 τ1 G1 H1 i1 w g1 gr1 n1 => h1 σ H1 ⟨ρ, om1, τ1, G1, w, g1, n1, gr1, hl, rfl⟩
/-- what may be returned: data; a list of one's own is closed -/
def retR (om : Om) (r : R) (K : D → Prop) : Prop := match r with
  | .v d => K d
  | .o k => ∃ ds, om[k]? = some (some ds) ∧ K (.lst ds)
theorem retR_is {τ : List Addr} {G H : Hp} {v : V} {r : R} {P : D → Prop} (g : Good X.K an dr om τ G H) (h : IsR X.K G τ v r) (p : retR om r P) : ∃ d om' G', P d ∧ Is X.K G' v d ∧ Good X.K an dr om' τ G' H ∧ Grow G τ G' τ := by
  cases h with
  | v h => exact ⟨_, om, G, p, h, g, Grow.refl G τ⟩
  | @o a k h =>
    obtain ⟨ds, e, p⟩ := p
    obtain ⟨vs, g', gr, i⟩ := g.freeze h e
    exact ⟨_, _, _, p, i, g', gr⟩
theorem ws_ret (h : WE X an dr ρ om e fun r om1 => retR om1 r E.rt) : WS X an dr ρ om (.Return (some e) pos) E :=
  psI (ps_ret (pe_u (an := an) (dr := dr))) fun Z σ H ⟨τ, G, g, n, hl, _, h2, _⟩ => uE_of h g n fun v r om1 τ1 G1 H1 i1 w g1 gr1 n1 => by
    obtain ⟨d, om', G', p, i, g', gr⟩ := retR_is g1 i1 w
    exact h2 v H1 ⟨d, om', τ1, G', p, i, g', gr1.trans gr⟩
theorem ws_retN (h : E.rt .non) : WS X an dr ρ om (.Return none pos) E :=
  psI ps_retN fun Z σ H ⟨τ, G, g, n, hl, _, h2, _⟩ => h2 .non H ⟨.non, om, τ, G, h, .non, g, Grow.refl G τ⟩
theorem ws_if (h : WT X an dr ρ om c fun t om1 => if t = true then WSs X an dr ρ om1 sts E else WSs X an dr ρ om1 sts' E) : WS X an dr ρ om (.If c sts sts' pos) E :=
  psI (ps_if (pt_u (an := an) (dr := dr)) (pss_u (an := an) (dr := dr)) (pss_u (an := an) (dr := dr))) fun Z σ H ⟨τ, G, g, n, hl, h1, h2, h3, h4⟩ => uT_of h g n fun t om1 τ1 G1 H1 w g1 gr1 n1 => by
    cases t with
    | true => rw [if_pos rfl] at w ⊢; exact uS_of w g1 n1 hl (fun _ _ q => h1 _ _ (q.grow gr1)) (fun _ _ q => h2 _ _ (q.grow gr1)) (fun _ _ q => h3 _ _ (q.grow gr1)) (fun _ _ q => h4 _ _ (q.grow gr1))
    | false => rw [if_neg Bool.false_ne_true] at w ⊢; exact uS_of w g1 n1 hl (fun _ _ q => h1 _ _ (q.grow gr1)) (fun _ _ q => h2 _ _ (q.grow gr1)) (fun _ _ q => h3 _ _ (q.grow gr1)) (fun _ _ q => h4 _ _ (q.grow gr1))
/-- name = e -/
theorem ws_set {i : Nat} {x : Str} {pos' : Pos} (hN : X.N.Nodup) (hi : X.N[i]? = some x) (hx : Loc X.env.scope x) (h : WE X an dr ρ om e fun r om1 => E.nx (ρ.set i (some r)) om1) (hs : swapsWith e (some (.Name x pos')) pos.line X.env = pure false := by rfl)
    (hf : X.fn x = true ∨ X.env.scope.names.lookup x = some .local := by first | exact .inl rfl | exact .inr rfl | assumption) : WS X an dr ρ om (.Assign [.Name x pos'] e pos) E :=
  psI (ps_set (i := i) hN hi hx (pe_u (an := an) (dr := dr)) hs hf) fun Z σ H ⟨τ, G, g, n, hl, h1, _⟩ => uE_of h g n fun v r om1 τ1 G1 H1 i1 w g1 gr1 n1 =>
    h1 _ H1 ⟨_, om1, τ1, G1, w, g1, n1.set hl i1, gr1, by rw [List.length_set]; exact hl, by rw [List.length_set]⟩
/-- a list of one's own is closed, between two statements -/
def thaw (k : Nat) (ds : List D) : Option R → Option R
  | some (.o j) => if j = k then some (.v (.lst ds)) else some (.o j)
  | x => x
theorem wss_freeze (k : Nat) {ds : List D} (ho : om[k]? = some (some ds)) (h : WSs X an dr (ρ.map (thaw k ds)) (om.set k none) sts E) : WSs X an dr ρ om sts E :=
  pssI h fun Z σ H ⟨τ, G, g, n, hl, h1, h2, h3, h4⟩ => by
    have hlt : k < τ.length := by rw [← g.len]; exact (List.getElem?_eq_some_iff.mp ho).1
    obtain ⟨vs, g', gr, i⟩ := g.freeze (List.getElem?_eq_getElem hlt) ho
    have lm : (ρ.map (thaw k ds)).length = ρ.length := List.length_map _
    refine ⟨τ, _, g', fun j r e => ?_, by rw [lm]; exact hl, fun _ _ q => h1 _ _ (Left.grow gr (lm ▸ q)), fun _ _ q => h2 _ _ (LeftV.grow gr q), fun _ _ q => h3 _ _ (Left.grow gr (lm ▸ q)), fun _ _ q => h4 _ _ (Left.grow gr (lm ▸ q))⟩
    rw [List.getElem?_map] at e
    cases q : ρ[j]? with
    | none => rw [q] at e; cases e
    | some z =>
      rw [q] at e
      have e : thaw k ds z = some r := Option.some.inj e
      cases z with
      | none => cases e
      | some r0 =>
        obtain ⟨u, u1, u2⟩ := n j r0 q
        refine ⟨u, u1, ?_⟩
        cases r0 with
        | v d => cases e; exact u2.mono gr
        | o l =>
          have e : (if l = k then some (R.v (.lst ds)) else some (R.o l)) = some r := e
          by_cases hk : l = k
          · rw [if_pos hk] at e
            cases e
            subst hk
            cases u2 with
            | o u3 =>
              rw [List.getElem?_eq_getElem hlt] at u3
              cases u3
              exact .v i
          · rw [if_neg hk] at e
            cases e
            exact u2.mono gr
/-! ### while -/
theorem ws_while (P : Nat → Rho → Om → Prop) (m : Nat) (h0 : P m ρ om) (hs : ∀ m ρ' om', ρ'.length = ρ.length → P m ρ' om' → WT X an dr ρ' om' c fun t om1 => if t = true then WSs X an dr ρ' om1 sts { nx := fun ρ2 om2 => ∃ m', m' < m ∧ P m' ρ2 om2, rt := E.rt, bk := E.nx, ct := fun ρ2 om2 => ∃ m', m' < m ∧ P m' ρ2 om2 } else E.nx ρ' om1)
    (hp : PassesOwn (model X.prog X.w) X.A X.env X.xe) : WS X an dr ρ om (.While c sts [] pos) E :=
  psI (ps_while hp (pt_u (an := an) (dr := dr)) (pss_u (an := an) (dr := dr))) fun Z σ H ⟨τ, G, g, n, hl, h1, h2, h3, h4⟩ => by
    refine ⟨fun m σ' H' => Left X.K an dr G τ ρ.length (P m) σ' H', ⟨m, ρ, om, τ, G, h0, g, n, Grow.refl G τ, hl, rfl⟩, ?_⟩
    rintro m σ1 H1 ⟨ρ1, om1, τ1, G1, p1, g1, n1, gr1, l1, l2⟩
    refine uT_of (hs m ρ1 om1 l2 p1) g1 n1 fun t om2 τ2 G2 H2 w g2 gr2 n2 => ?_
    cases t with
    | true =>
      simp only [if_true] at w ⊢
      refine ⟨_, fun σ' H' q => q, uS_of w g2 n2 (l1.trans l2.symm) (fun σ3 H3 q => ?_) (fun v H3 q => h2 v H3 (q.grow (gr1.trans gr2))) (fun σ3 H3 q => ?_) (fun σ3 H3 q => ?_)⟩
      · obtain ⟨ρ3, om3, τ3, G3, ⟨m', hm, p3⟩, g3, n3, gr3, l3, l4⟩ := q
        exact ⟨m', hm, ρ3, om3, τ3, G3, p3, g3, n3, (gr1.trans gr2).trans gr3, l3.trans l2, l4.trans l2⟩
      · exact h1 σ3 H3 (Left.grow (gr1.trans gr2) (l2 ▸ q))
      · obtain ⟨ρ3, om3, τ3, G3, ⟨m', hm, p3⟩, g3, n3, gr3, l3, l4⟩ := q
        exact ⟨m', hm, ρ3, om3, τ3, G3, p3, g3, n3, (gr1.trans gr2).trans gr3, l3.trans l2, l4.trans l2⟩
    | false =>
      simp only [Bool.false_eq_true, if_false] at w ⊢
      exact h1 σ1 H2 ⟨ρ1, om2, τ2, G2, w, g2, n2, gr1.trans gr2, l1, l2⟩
end
end DL

namespace DL
open PySem L2
/-! ### targets -/
abbrev TgF := D → Rho → (Rho → Prop) → Prop
abbrev TgFs := List D → Rho → (Rho → Prop) → Prop
/-- σ' differs from σ at the slots js alone -/
def Only (js : List Nat) (σ σ' : L2.St) : Prop := ∀ vs : List Nat, (∀ i ∈ js, i ∈ vs) → wipe σ' vs = wipe σ vs
theorem wipe_get (σ : L2.St) (j : Nat) : ∀ vs : List Nat, (wipe σ vs)[j]? = if j ∈ vs then (if j < σ.length then some none else none) else σ[j]?
  | [] => by simp [wipe]
  | v :: vs => by
    show ((wipe σ vs).set v none)[j]? = _
    by_cases h : v = j
    · subst h
      rw [if_pos List.mem_cons_self]
      by_cases hl : v < σ.length
      · rw [if_pos hl, List.getElem?_set_self (by rw [wipe_length]; exact hl)]
      · rw [if_neg hl, List.getElem?_eq_none (by rw [List.length_set, wipe_length]; omega)]
    · rw [List.getElem?_set_ne h, wipe_get σ j vs]
      by_cases h2 : j ∈ vs
      · rw [if_pos h2, if_pos (List.mem_cons_of_mem _ h2)]
      · rw [if_neg h2, if_neg (fun z => (List.mem_cons.mp z).elim (fun q => h q.symm) h2)]
theorem Only.one (σ : L2.St) (i : Nat) (x : Option V) : Only [i] σ (σ.set i x) := fun vs h => by
  apply List.ext_getElem?
  intro j
  rw [wipe_get, wipe_get, List.length_set]
  by_cases hj : j ∈ vs
  · rw [if_pos hj, if_pos hj]
  · rw [if_neg hj, if_neg hj, List.getElem?_set_ne]
    rintro rfl
    exact hj (h _ (List.mem_singleton.mpr rfl))
theorem Only.nil (σ : L2.St) : Only [] σ σ := fun vs h => rfl
theorem Only.app {js ks : List Nat} {σ σ1 σ2 : L2.St} (a : Only js σ σ1) (b : Only ks σ1 σ2) : Only (js ++ ks) σ σ2 := fun vs h => (b vs fun i hi => h i (List.mem_append_right _ hi)).trans (a vs fun i hi => h i (List.mem_append_left _ hi))
def tDG (K : PySem.W.Frag) (an : An) (dr : Option Dr) (js : List Nat) (f : TgF) : TG := fun v σ H Q => ∃ om τ G ρ d P, Good K an dr om τ G H ∧ EnvIs K G τ σ ρ ∧ σ.length = ρ.length ∧ Is K G v d ∧ f d ρ P ∧
  ∀ σ' ρ', P ρ' → EnvIs K G τ σ' ρ' → σ'.length = ρ.length → ρ'.length = ρ.length → Only js σ σ' → Q σ' H
def tDGs (K : PySem.W.Frag) (an : An) (dr : Option Dr) (js : List Nat) (f : TgFs) : TGs := fun vs σ H Q => ∃ om τ G ρ ds P, Good K an dr om τ G H ∧ EnvIs K G τ σ ρ ∧ σ.length = ρ.length ∧ IsL K G vs ds ∧ f ds ρ P ∧
  ∀ σ' ρ', P ρ' → EnvIs K G τ σ' ρ' → σ'.length = ρ.length → ρ'.length = ρ.length → Only js σ σ' → Q σ' H
def WG (X : Cx) (an : An) (dr : Option Dr) (tg : Expr) (js : List Nat) (f : TgF) : Prop := PG X tg (tDG X.K an dr js f) ∧ ∀ d ρ P P', (∀ ρ', P ρ' → P' ρ') → f d ρ P → f d ρ P'
def WGs (X : Cx) (an : An) (dr : Option Dr) (tg : List Expr) (js : List Nat) (f : TgFs) : Prop := PGs X tg (tDGs X.K an dr js f) ∧ ∀ d ρ P P', (∀ ρ', P ρ' → P' ρ') → f d ρ P → f d ρ P'
def fN (i : Nat) : TgF := fun d ρ P => P (ρ.set i (some (.v d)))
def fNil : TgFs := fun ds ρ P => match ds with
  | [] => P ρ
  | _ => False
def fCons (f : TgF) (fs : TgFs) : TgFs := fun ds ρ P => match ds with
  | d :: ds => f d ρ fun ρ1 => fs ds ρ1 P
  | [] => False
def fT (n : Nat) (fs : TgFs) : TgF := fun d ρ P => match d with
  | .tup ds => ds.length = n ∧ fs ds ρ P
  | .lst ds => ds.length = n ∧ fs ds ρ P
  | _ => False
section
variable {X : Cx} {an : An} {dr : Option Dr} {pos : Pos} {tg : Expr} {tgs : List Expr} {f : TgF} {fs : TgFs} {js ks : List Nat}
theorem pgI {t t' : TG} (h : PG X tg t) (i : ∀ v σ H Q, t' v σ H Q → t v σ H Q) : PG X tg t' := ⟨fun pins s σ H v u Q I r q => h.run pins s σ H v u Q I r (i v σ H Q q)⟩
theorem pgsI {t t' : TGs} (h : PGs X tgs t) (i : ∀ v σ H Q, t' v σ H Q → t v σ H Q) : PGs X tgs t' := ⟨fun pins s σ H v u Q I r q => h.run pins s σ H v u Q I r (i v σ H Q q)⟩
theorem wg_name {i : Nat} {x : Str} (hN : X.N.Nodup) (hi : X.N[i]? = some x) (hx : Loc X.env.scope x) (hf : X.fn x = true ∨ X.env.scope.names.lookup x = some .local := by first | exact .inl rfl | exact .inr rfl | assumption) : WG X an dr (.Name x pos) [i] (fN i) :=
  ⟨pgI (pg_name (i := i) hN hi hx hf) fun v σ H Q ⟨om, τ, G, ρ, d, P, g, n, hl, id, p, k⟩ => k _ _ p (n.set hl (.v id)) (by rw [List.length_set]; exact hl) (by rw [List.length_set]) (Only.one _ _ _), fun d ρ P P' i p => i _ p⟩
theorem wgs_nil : WGs X an dr [] [] fNil := by
  refine ⟨pgsI pgs_nil fun vs σ H Q ⟨om, τ, G, ρ, ds, P, g, n, hl, id, p, k⟩ => ?_, fun d ρ P P' i p => ?_⟩
  · cases id with
    | nil => exact ⟨rfl, k σ ρ p n hl rfl (Only.nil _)⟩
    | cons _ _ => exact p.elim
  · cases d with
    | nil => exact i _ p
    | cons _ _ => exact p.elim
theorem wgs_cons (h1 : WG X an dr tg js f) (h2 : WGs X an dr tgs ks fs) (hs : (assignEach (tg :: tgs) X.env).map (·.2) = assign tg X.env :: (assignEach tgs X.env).map (·.2) := by rfl) : WGs X an dr (tg :: tgs) (js ++ ks) (fCons f fs) := by
  refine ⟨pgsI (pgs_cons h1.1 h2.1 hs) fun vs σ H Q ⟨om, τ, G, ρ, ds, P, g, n, hl, id, p, k⟩ => ?_, fun d ρ P P' i p => ?_⟩
  · cases id with
    | nil => exact p.elim
    | @cons v vs d ds i1 i2 =>
      exact ⟨v, vs, rfl, om, τ, G, ρ, d, _, g, n, hl, i1, p, fun σ1 ρ1 p1 n1 l1 l2 o1 => ⟨om, τ, G, ρ1, ds, P, g, n1, l1.trans l2.symm, i2, p1, fun σ2 ρ2 p2 n2 l3 l4 o2 => k σ2 ρ2 p2 n2 (l3.trans l2) (l4.trans l2) (o1.app o2)⟩⟩
  · cases d with
    | nil => exact p.elim
    | cons d ds => exact h1.2 _ _ _ _ (fun ρ' q => h2.2 _ _ _ _ i q) p
theorem pg_seq {k : Nat} {t : TGs} {n : Nat} (hc : X.calm = true) (h : PGs X tgs t) (hn : (assignEach tgs X.env).length = n) (hst : (assignEach tgs X.env).findIdx? (·.1) = none) : PG X (.Tuple tgs k pos) (fun v σ H Q => gTup X.K n t v σ H Q ∨ gUnl X.K n t v σ H Q) :=
  ⟨fun pins s σ H v u Q I r q => q.elim (fun q => (pg_tup hc h hn hst).run pins s σ H v u Q I r q) fun q => (pg_unl hc h hn hst).run pins s σ H v u Q I r q⟩
theorem wg_tup {k : Nat} {n : Nat} (hc : X.calm = true) (h : WGs X an dr tgs js fs) (hn : (assignEach tgs X.env).length = n := by rfl) (hst : (assignEach tgs X.env).findIdx? (·.1) = none := by rfl) : WG X an dr (.Tuple tgs k pos) js (fT n fs) := by
  refine ⟨pgI (pg_seq hc h.1 hn hst) fun v σ H Q ⟨om, τ, G, ρ, d, P, g, nv, hl, id, p, kk⟩ => ?_, fun d ρ P P' i p => ?_⟩
  · unfold fT at p
    split at p
    · cases id with
      | tup h1 h2 => exact .inl ⟨_, _, rfl, .inl (.inl (g.ex _ _ h1)), by rw [h2.length]; exact p.1, om, τ, G, ρ, _, P, g, nv, hl, h2, p.2, kk⟩
    · cases id with
      | lst h1 h2 => exact .inr ⟨_, _, rfl, .inl (.inl (g.ex _ _ h1)), by rw [h2.length]; exact p.1, om, τ, G, ρ, _, P, g, nv, hl, h2, p.2, kk⟩
    · exact p.elim
  · unfold fT at p ⊢
    split at p
    · exact ⟨p.1, h.2 _ _ _ _ i p.2⟩
    · exact ⟨p.1, h.2 _ _ _ _ i p.2⟩
    · exact p.elim
/-- target = e -/
def fzO (om : Om) : R → Om
  | .v _ => om
  | .o k => om.set k none
theorem retR_fz {om : Om} {τ : List Addr} {G H : Hp} {v : V} {r : R} {P : D → Prop} (g : Good X.K an dr om τ G H) (h : IsR X.K G τ v r) (p : retR om r P) : ∃ d G', P d ∧ Is X.K G' v d ∧ Good X.K an dr (fzO om r) τ G' H ∧ Grow G τ G' τ := by
  cases h with
  | v h => exact ⟨_, G, p, h, g, Grow.refl G τ⟩
  | @o a k h =>
    obtain ⟨ds, e, p⟩ := p
    obtain ⟨vs, g', gr, i⟩ := g.freeze h e
    exact ⟨_, _, p, i, g', gr⟩
theorem ws_asg {ρ : Rho} {om : Om} {e : Expr} {E : Ed} (hg : WG X an dr tg js f) (h : WE X an dr ρ om e fun r om1 => retR om1 r fun d => f d ρ fun ρ' => E.nx ρ' (fzO om1 r)) (hs : swapsWithSole [tg] e pos.line X.env = pure false := by rfl) (hw : swappedStores [tg] e X.env = pure none := by rfl)
    (h1 : (assignEach [tg] X.env).map (·.2) = [assign tg X.env] := by rfl) : WS X an dr ρ om (.Assign [tg] e pos) E :=
  psI (ps_asg (pe_u (an := an) (dr := dr)) hg.1 hs hw h1) fun Z σ H ⟨τ, G, g, n, hl, h1, _⟩ => uE_of h g n fun v r om1 τ1 G1 H1 i1 w g1 gr1 n1 => by
    obtain ⟨d, G2, p, i, g2, gr2⟩ := retR_fz g1 i1 w
    exact ⟨_, τ1, G2, ρ, d, _, g2, n1.mono gr2, hl, i, p, fun σ' ρ' p' n' l1 l2 _ => h1 σ' H1 ⟨ρ', _, τ1, G2, p', g2, n', gr1.trans gr2, l1, l2⟩⟩
end
/-! ### what is walked -/
def JOk (K : PySem.W.Frag) (an : An) (dr : Option Dr) (J : It) (ds : List D) (G : Hp) (τ : List Addr) : Prop := ∀ om2 τ2 G2 H2, Good K an dr om2 τ2 G2 H2 → Grow G τ G2 τ2 → ∀ i : Nat, (i = ds.length → J.stop i H2) ∧
  ∀ d, ds[i]? = some d → J.go i H2 ∧ ∀ x H3, J.yld i H2 x H3 → ∃ G3, Good K an dr om2 τ2 G3 H3 ∧ Grow G2 τ2 G3 τ2 ∧ Is K G3 x d
def tDI (K : PySem.W.Frag) (an : An) (dr : Option Dr) (ρ : Rho) (om : Om) (Q : List D → Om → Prop) : TI := fun σ H Z => ∃ τ G, Good K an dr om τ G H ∧ EnvIs K G τ σ ρ ∧
  ∀ J ds om' τ' G' H', Q ds om' → ds.length ≤ sizeLine → Good K an dr om' τ' G' H' → Grow G τ G' τ' → (∀ an', JOk K an' dr J ds G' τ') → Z J H'
def WI (X : Cx) (an : An) (dr : Option Dr) (ρ : Rho) (om : Om) (tg iter : Expr) (Q : List D → Om → Prop) : Prop := PI X tg iter (tDI X.K an dr ρ om Q)
section
variable {K : PySem.W.Frag} {an : An} {dr : Option Dr} {G : Hp} {τ : List Addr}
theorem jok_list {a : Addr} {vs : List V} {ds : List D} (h : G a = some (.lst vs)) (i : IsL K G vs ds) : JOk K an dr (Itl K a) ds G τ := fun om2 τ2 G2 H2 g gr j => by
  have hs : SqL K H2 a vs := .inl (.inl (g.ex _ _ (gr.ex _ _ h)))
  refine ⟨fun hj => ⟨vs, hs, by rw [i.length]; omega⟩, fun d hd => ?_⟩
  obtain ⟨v, h1, h2⟩ := i.get hd
  refine ⟨⟨vs, v, hs, h1⟩, fun x H3 y => ?_⟩
  obtain ⟨rfl, y⟩ := y
  have e := (y vs hs).symm.trans h1
  cases e
  exact ⟨G2, g, Grow.refl _ _, h2.mono gr.ex⟩
theorem jok_tup {a : Addr} {vs : List V} {ds : List D} (h : G a = some (.tup vs)) (i : IsL K G vs ds) : JOk K an dr (Itt K a) ds G τ := fun om2 τ2 G2 H2 g gr j => by
  have hs : SqT K H2 a vs := .inl (.inl (g.ex _ _ (gr.ex _ _ h)))
  refine ⟨fun hj => ⟨vs, hs, by rw [i.length]; omega⟩, fun d hd => ?_⟩
  obtain ⟨v, h1, h2⟩ := i.get hd
  refine ⟨⟨vs, v, hs, h1⟩, fun x H3 y => ?_⟩
  obtain ⟨rfl, y⟩ := y
  have e := (y vs hs).symm.trans h1
  cases e
  exact ⟨G2, g, Grow.refl _ _, h2.mono gr.ex⟩
def signs (x : Str) : List D := x.cps.toList.map fun c => .str ⟨#[c]⟩
theorem jok_str {x : Str} : JOk K an dr (Its x) (signs x) G τ := fun om2 τ2 G2 H2 g gr j => by
  refine ⟨fun hj => ?_, fun d hd => ?_⟩
  · show x.cps.size ≤ j
    have := hj
    unfold signs at this
    simp at this
    omega
  · unfold signs at hd
    rw [List.getElem?_map] at hd
    cases e : x.cps.toList[j]? with
    | none => rw [e] at hd; cases hd
    | some c =>
      rw [e] at hd
      cases hd
      have e2 : x.cps[j]? = some c := by simpa using e
      refine ⟨?_, fun y H3 q => ?_⟩
      · show j < x.cps.size
        exact (Array.getElem?_eq_some_iff.mp e2).1
      · obtain ⟨rfl, c', h1, rfl⟩ := q
        rw [e2] at h1
        cases h1
        exact ⟨G2, g, Grow.refl _ _, .str _⟩
theorem jok_range {n : Nat} : JOk K an dr (Itr 0 n) ((List.range n).map fun (i : Nat) => D.int (i : Int)) G τ := fun om2 τ2 G2 H2 g gr j => by
  refine ⟨fun hj => ?_, fun d hd => ?_⟩
  · show n ≤ j
    simp at hj
    omega
  · rw [List.getElem?_map] at hd
    by_cases hj : j < n
    · rw [List.getElem?_range hj] at hd
      cases hd
      refine ⟨hj, fun x H3 q => ?_⟩
      obtain ⟨rfl, rfl⟩ := q
      refine ⟨G2, g, Grow.refl _ _, ?_⟩
      rw [Int.zero_add]
      exact .int _
    · rw [List.getElem?_eq_none (by simpa using hj)] at hd
      cases hd
end
section
variable {X : Cx} {an : An} {dr : Option Dr} {ρ : Rho} {om : Om} {e e2 : Expr} {tg : Expr} {pos : Pos}
def walkD (d : D) (K : List D → Prop) : Prop := match d with
  | .lst ds => K ds
  | .tup ds => K ds
  | .str x => x.cps.size ≤ sizeLine ∧ K (signs x)
  | _ => False
/-- over a list, a tuple, a text -/
theorem wi_seq {Q : List D → Om → Prop} (h : WE X an dr ρ om e fun r om1 => retR om1 r fun d => walkD d fun ds => Q ds (fzO om1 r)) : WI X an dr ρ om tg e Q := by
  refine ⟨fun pins s σ H Z I q => ?_⟩
  obtain ⟨τ, G, g, n, k⟩ := q
  refine thn (PE.run h pins s σ H (fun v H1 => ∃ d om' τ' G', Is X.K G' v d ∧ Good X.K an dr om' τ' G' H1 ∧ Grow G τ G' τ' ∧ walkD d fun ds => Q ds om') I ⟨τ, G, g, n, fun v r om' τ' G' H' h1 h2 h3 h4 => ?_⟩) fun v s1 ⟨x, H1, I1, r1, d, om1, τ1, G1, i1, g1, gr1, q1⟩ => ?_
  · obtain ⟨d, G2, p, i, g2, gr2⟩ := retR_fz h3 h1 h2
    exact ⟨d, _, τ', G2, i, g2, h4.trans gr2, p⟩
  · cases i1 with
    | lst hp il =>
      cases r1
      have hq : SqL X.K H1 _ _ := .inl (.inl (g1.ex _ _ hp))
      obtain ⟨its, rv, p, hz⟩ := I1.list hq
      refine wpAny_pyIter_list p.isList ?_
      refine ⟨s1.heap.objs.size, [s1.heap.objs.size], _, _, H1, rfl, I1.kept (t' := s1.toks) fun b o e => Heap.get?_push_of_some _ e, turn_list _ _, ⟨_, Heap.get?_push_size _ rfl, rfl, rfl⟩, fun b hb => ?_, k _ _ _ _ _ _ q1 (by rw [← il.length]; exact hz) g1 gr1 (fun _ => jok_list hp il)⟩
      have e : b = s1.heap.objs.size := by simpa using hb
      subst e
      exact I1.fpOk (Nat.le_refl _) (I1.hok.fresh (Nat.le_refl _))
    | tup hp il =>
      cases r1
      obtain ⟨its, rv, p, hz⟩ := I1.tuple (.inl (.inl (g1.ex _ _ hp)))
      refine wpAny_pyIter_tuple (show s1.heap.IsTuple _ its.toArray from p) ?_
      refine ⟨s1.heap.objs.size, [s1.heap.objs.size], _, _, H1, rfl, I1.kept (t' := s1.toks) fun b o e => Heap.get?_push_of_some _ e, turn_tuple _ _, ⟨_, Heap.get?_push_size _ rfl, rfl, rfl⟩, fun b hb => ?_, k _ _ _ _ _ _ q1 (by rw [← il.length]; exact hz) g1 gr1 (fun _ => jok_tup hp il)⟩
      have e : b = s1.heap.objs.size := by simpa using hb
      subst e
      exact I1.fpOk (Nat.le_refl _) (I1.hok.fresh (Nat.le_refl _))
    | str x =>
      obtain ⟨t, rfl⟩ := r1
      have kk := k _ _ _ _ _ _ q1.2 (by unfold signs; simpa using q1.1) g1 gr1 (fun _ => jok_str (x := x))
      cases ha : x.cps.all (· < 128)
      · exact wpAny_pyIter_wide ha (pi_one (tk := s1.toks) I1 _ (turn_str _ x t "str_iterator" (.inr rfl)) ⟨_, Heap.get?_push_size _ rfl, rfl, rfl⟩ kk)
      · exact wpAny_pyIter_ascii ha (pi_one (tk := s1.toks) I1 _ (turn_str _ x t "str_ascii_iterator" (.inl rfl)) ⟨_, Heap.get?_push_size _ rfl, rfl, rfl⟩ kk)
    | _ => exact q1.elim
theorem piI {wi wi' : TI} (h : PI X tg e wi) (i : ∀ σ H Z, wi' σ H Z → wi σ H Z) : PI X tg e wi' := ⟨fun pins s σ H Z I q => h.run pins s σ H Z I (i σ H Z q)⟩
def rngD (n : Nat) : List D := (List.range n).map fun (i : Nat) => D.int (i : Int)
def intR (r : R) (K : Int → Prop) : Prop := match r with
  | .v (.int i) => K i
  | _ => False
theorem intR_is {K : PySem.W.Frag} {G : Hp} {τ : List Addr} {v : V} {r : R} {P : Int → Prop} (h : IsR K G τ v r) (p : intR r P) : ∃ b, v = .int b ∧ r = .v (.int b) ∧ P b := by
  unfold intR at p
  split at p
  · cases h with | v h => exact ⟨_, h.int_inv, rfl, p⟩
  · exact p.elim
/-- range(n) -/
theorem wi_range {Q : List D → Om → Prop} {p : Pos} (hm : X.mg "range" = none) (h : WE X an dr ρ om e fun r om1 => intR r fun j => (-1000000 ≤ j ∧ j ≤ 1000000) ∧ Q (rngD j.toNat) om1) (hg : Gl X "range" := by rfl) (hs : starEach [e] X.env = [(false, eval e X.env)] := by rfl) : WI X an dr ρ om tg (.Call (.Name "range" p) [e] [] pos) Q :=
  piI (pi_range1 hg hm (pa_cons (pe_u (an := an) (dr := dr)) pa_nil hs) hs) fun σ H Z ⟨τ, G, g, n, k⟩ => uE_of h g n fun v r om1 τ1 G1 H1 h1 w g1 gr1 n1 => by
    obtain ⟨j, rfl, _, ⟨hj, hj2⟩, w⟩ := intR_is h1 w
    refine ⟨j, rfl, by omega, by omega, k _ _ _ _ _ _ w ?_ g1 gr1 (fun _ => jok_range)⟩
    have : j.toNat ≤ 1000000 := by omega
    unfold rngD
    rw [List.length_map, List.length_range]
    exact Nat.le_trans this (by decide : 1000000 ≤ sizeLine)
/-- enumerate(list), enumerate(tuple) -/
def enumD (ds : List D) : List D := ds.zipIdx.map fun p => .tup [.int (p.2 : Nat), p.1]
theorem enumD_get {ds : List D} {j : Nat} {d : D} (h : (enumD ds)[j]? = some d) : ∃ d0, ds[j]? = some d0 ∧ d = .tup [.int (j : Nat), d0] := by
  unfold enumD at h
  rw [List.getElem?_map, List.getElem?_zipIdx] at h
  cases e : ds[j]? with
  | none => rw [e] at h; cases h
  | some d0 =>
    rw [e] at h
    simp at h
    exact ⟨d0, rfl, h.symm⟩
theorem jok_enum {a : Addr} {vs : List V} {ds : List D} {G : Hp} {τ : List Addr} {K : PySem.W.Frag} (h : G a = some (.lst vs)) (i : IsL K G vs ds) : JOk K an dr (Ite K a) (enumD ds) G τ := fun om2 τ2 G2 H2 g gr j => by
  have hs : SqL K H2 a vs := .inl (.inl (g.ex _ _ (gr.ex _ _ h)))
  refine ⟨fun hj => ⟨vs, hs, by rw [i.length]; simp [enumD] at hj; omega⟩, fun d hd => ?_⟩
  obtain ⟨d0, hd0, rfl⟩ := enumD_get hd
  obtain ⟨v, h1, h2⟩ := i.get hd0
  refine ⟨⟨vs, v, hs, h1⟩, fun x H3 y => ?_⟩
  obtain ⟨T, y0, rfl, hT, rfl, y⟩ := y
  have e := (y vs hs).symm.trans h1
  cases e
  exact ⟨_, g.alloc hT, g.grow hT, .tup upd_same (.cons (.int _) (.cons (h2.mono (gr.ex.trans (Ex.new (g.ex.free hT)))) .nil))⟩
theorem wi_enumL {Q : List D → Om → Prop} {p tpos : Pos} {elts : List Expr} {kk : Nat} (hm : X.mg "enumerate" = none) (h : WE X an dr ρ om e fun r om1 => retR om1 r fun d => ∃ ds, d = .lst ds ∧ ds.length ≤ sizeLine ∧ Q (enumD ds) (fzO om1 r)) (hg : Gl X "enumerate" := by rfl) (hs : starEach [e] X.env = [(false, eval e X.env)] := by rfl) :
    WI X an dr ρ om (.Tuple elts kk tpos) (.Call (.Name "enumerate" p) [e] [] pos) Q :=
  piI (pi_enum hg hm (pa_cons (pe_u (an := an) (dr := dr)) pa_nil hs) hs) fun σ H Z ⟨τ, G, g, n, k⟩ => uE_of h g n fun v r om1 τ1 G1 H1 h1 w g1 gr1 n1 => by
    obtain ⟨d, G2, ⟨ds, rfl, hz, w⟩, i, g2, gr2⟩ := retR_fz g1 h1 w
    cases i with
    | lst hp il => exact ⟨_, _, rfl, .inl (.inl (g2.ex _ _ hp)), k _ _ _ _ _ _ w (by simpa [enumD] using hz) g2 (gr1.trans gr2) (fun _ => jok_enum hp il)⟩
/-- zip of two lists -/
def zipD (xs ys : List D) : List D := (xs.zip ys).map fun p => .tup [p.1, p.2]
theorem zipD_get {xs ys : List D} {j : Nat} {d : D} (h : (zipD xs ys)[j]? = some d) : ∃ a b, xs[j]? = some a ∧ ys[j]? = some b ∧ d = .tup [a, b] := by
  unfold zipD at h
  rw [List.getElem?_map] at h
  cases e : (xs.zip ys)[j]? with
  | none => rw [e] at h; cases h
  | some q =>
    rw [e] at h
    cases h
    obtain ⟨h1, h2⟩ := List.getElem?_zip_eq_some.mp e
    exact ⟨_, _, h1, h2, rfl⟩
theorem jok_zip {a b : Addr} {vs ws : List V} {ds es : List D} {G : Hp} {τ : List Addr} {K : PySem.W.Frag} (h : G a = some (.lst vs)) (i : IsL K G vs ds) (h' : G b = some (.lst ws)) (i' : IsL K G ws es) : JOk K an dr (Itz K a b) (zipD ds es) G τ := fun om2 τ2 G2 H2 g gr j => by
  have hs : SqL K H2 a vs := .inl (.inl (g.ex _ _ (gr.ex _ _ h)))
  have hs' : SqL K H2 b ws := .inl (.inl (g.ex _ _ (gr.ex _ _ h')))
  refine ⟨fun hj => ⟨vs, ws, hs, hs', ?_⟩, fun d hd => ?_⟩
  · rw [i.length, i'.length]
    simp [zipD] at hj
    omega
  · obtain ⟨d1, d2, hd1, hd2, rfl⟩ := zipD_get hd
    obtain ⟨v, h1, h2⟩ := i.get hd1
    obtain ⟨v', h1', h2'⟩ := i'.get hd2
    refine ⟨⟨vs, ws, v, v', hs, hs', h1, h1'⟩, fun x H3 y => ?_⟩
    obtain ⟨T, y0, y1, rfl, hT, rfl, y, y'⟩ := y
    have e := (y vs hs).symm.trans h1
    cases e
    have e := (y' ws hs').symm.trans h1'
    cases e
    exact ⟨_, g.alloc hT, g.grow hT, .tup upd_same (.cons (h2.mono (gr.ex.trans (Ex.new (g.ex.free hT)))) (.cons (h2'.mono (gr.ex.trans (Ex.new (g.ex.free hT)))) .nil))⟩
theorem wi_zipL {Q : List D → Om → Prop} {p tpos : Pos} {elts : List Expr} {kk : Nat} (hm : X.mg "zip" = none) (h : WA X an dr ρ om [e, e2] fun rs om1 => allV rs fun ds => ∃ xs ys, ds = [.lst xs, .lst ys] ∧ xs.length ≤ sizeLine ∧ Q (zipD xs ys) om1) (hg : Gl X "zip" := by rfl)
    (hs : starEach [e, e2] X.env = (false, eval e X.env) :: starEach [e2] X.env := by rfl) (hpl : (backTo pos (starEach [e2] X.env)).any (·.1) = false := by rfl) :
    WI X an dr ρ om (.Tuple elts kk tpos) (.Call (.Name "zip" p) [e, e2] [] pos) Q :=
  piI (pi_zip hg hm (pa_u (an := an) (dr := dr)) hs hpl) fun σ H Z ⟨τ, G, g, n, k⟩ => uA_of h g n fun vs rs om1 τ1 G1 H1 h1 w g1 gr1 n1 => by
    obtain ⟨ds, i, xs, ys, rfl, hz, w⟩ := allV_is h1 w
    cases i with
    | cons i1 i =>
      cases i with
      | cons i2 i =>
        cases i
        cases i1 with
        | lst hp il =>
          cases i2 with
          | lst hp' il' => exact ⟨_, _, _, _, rfl, .inl (.inl (g1.ex _ _ hp)), .inl (.inl (g1.ex _ _ hp')), k _ _ _ _ _ _ w (by simp [zipD]; omega) g1 gr1 (fun _ => jok_zip hp il hp' il')⟩
/-! ### for -/
theorem ws_for {f : TgF} {js : List Nat} {body : List Stmt} {E : Ed} {iter : Expr} (hp : PassesOwn (model X.prog X.w) X.A X.env X.xe) (hc : X.calm = true) (hg : WG X an dr tg js f)
    (hi : WI X an dr ρ om tg iter fun ds om1 => ∃ P : Nat → Rho → Om → Prop, P 0 ρ om1 ∧ (∀ i d ρ' om', ρ'.length = ρ.length → ds[i]? = some d → P i ρ' om' → f d ρ' fun ρ2 => WSs X an dr ρ2 om' body { nx := P (i + 1), rt := E.rt, bk := E.nx, ct := P (i + 1) }) ∧ ∀ ρ' om', ρ'.length = ρ.length → P ds.length ρ' om' → E.nx ρ' om')
    (hs : ∀ x, foldedSetIterable iter X.env x = pure x := by intro _; rfl) : WS X an dr ρ om (.For tg iter body [] pos) E :=
  psI (ps_for hp hc hi hg.1 (pss_u (an := an) (dr := dr)) hs) fun Z σ H ⟨τ, G, g, n, hl, h1, h2, h3, h4⟩ => ⟨τ, G, g, n, fun J ds om1 τ1 G1 H1 ⟨P, p0, ps, pe⟩ hz g1 gr1 jk => by
    have jk := jk an
    refine ⟨fun i m σ' H' => m = ds.length - i ∧ i ≤ ds.length ∧ Left X.K an dr G1 τ1 ρ.length (P i) σ' H', ⟨ds.length, by simp, Nat.zero_le _, ρ, om1, τ1, G1, p0, g1, n.mono gr1, Grow.refl _ _, hl, rfl⟩, ?_⟩
    rintro i m σ2 H2 ⟨rfl, hi, ρ2, om2, τ2, G2, p2, g2, n2, gr2, l1, l2⟩
    have J2 := jk om2 τ2 G2 H2 g2 gr2 i
    by_cases hlt : i < ds.length
    · have hd : ds[i]? = some ds[i] := List.getElem?_eq_getElem hlt
      obtain ⟨go, J3⟩ := J2.2 _ hd
      refine .inr ⟨go, fun σ' H' => Left X.K an dr G1 τ1 ρ.length (P (i + 1)) σ' H', fun σ' H' q => ⟨ds.length - (i + 1), by omega, rfl, hlt, q⟩, fun x H3 y => ?_⟩
      obtain ⟨G3, g3, gr3, i3⟩ := J3 x H3 y
      refine ⟨om2, τ2, G3, ρ2, _, _, g3, n2.mono gr3, l1.trans l2.symm, i3, ps i _ ρ2 om2 l2 hd p2, fun σ4 ρ4 w n4 l3 l4 _ => ?_⟩
      have l4' : ρ4.length = ρ.length := l4.trans l2
      refine uS_of w g3 n4 (l3.trans l4.symm) (fun σ5 H5 q => ?_) (fun v H5 q => ?_) (fun σ5 H5 q => ?_) (fun σ5 H5 q => ?_)
      · exact Left.grow (gr2.trans gr3) (l4' ▸ q)
      · exact h2 v H5 (LeftV.grow ((gr1.trans gr2).trans gr3) q)
      · exact h1 σ5 H5 (Left.grow ((gr1.trans gr2).trans gr3) (l4' ▸ q))
      · exact Left.grow (gr2.trans gr3) (l4' ▸ q)
    · have e : i = ds.length := by omega
      subst e
      exact .inl ⟨J2.1 rfl, h1 σ2 H2 ⟨ρ2, om2, τ2, G2, pe ρ2 om2 l2 p2, g2, n2, gr1.trans gr2, l1, l2⟩⟩⟩
end
end DL

namespace DL
open PySem L2
/-! ### comprehensions -/
abbrev XB (X : Cx) (scope : Scope) (s : Shared) (H : Hp) (C : Addr) (cl : List (Str × Addr)) (fp : List Addr) : Cx := X.blk s H scope (compEnvC scope cl C X.env) fp
def wipeR (ρ : Rho) : List Nat → Rho
  | [] => ρ
  | v :: vs => (wipeR ρ vs).set v none
theorem wipeR_length (ρ : Rho) : ∀ vs : List Nat, (wipeR ρ vs).length = ρ.length
  | [] => rfl
  | v :: vs => by show ((wipeR ρ vs).set v none).length = _; rw [List.length_set, wipeR_length ρ vs]
theorem EnvIs.wipes {K : PySem.W.Frag} {G : Hp} {τ : List Addr} {σ : L2.St} {ρ : Rho} (h : EnvIs K G τ σ ρ) : ∀ vs : List Nat, EnvIs K G τ (L2.wipe σ vs) (wipeR ρ vs)
  | [] => h
  | v :: vs => (EnvIs.wipes h vs).wipe
section
variable {X : Cx} {an : An} {dr : Option Dr} {ρ : Rho} {om : Om} {elt tg iter c : Expr} {scope : Scope} {pos : Pos} {Q : R → Om → Prop} {js : List Nat} {f : TgF} {own : List (Str × Nat)}
def uEb (X : Cx) (an : An) (dr : Option Dr) (scope : Scope) (e : Expr) : TE := fun σ H K' => ∃ ρ om Q, (∀ s H C cl fp, WE (XB X scope s H C cl fp) an dr ρ om e Q) ∧ tD X.K an dr ρ om Q σ H K'
def uTb (X : Cx) (an : An) (dr : Option Dr) (scope : Scope) (e : Expr) : TT := fun σ H K' => ∃ ρ om Q, (∀ s H C cl fp, WT (XB X scope s H C cl fp) an dr ρ om e Q) ∧ tDT X.K an dr ρ om Q σ H K'
theorem pe_ub (s : Shared) (H : Hp) (C : Addr) (cl : List (Str × Addr)) (fp : List Addr) {e : Expr} : PE (XB X scope s H C cl fp) e (uEb X an dr scope e) := ⟨fun pins s1 σ H1 K' I ⟨ρ, om, Q, w, h⟩ => PE.run (w s H C cl fp) pins s1 σ H1 K' I h⟩
theorem pt_ub (s : Shared) (H : Hp) (C : Addr) (cl : List (Str × Addr)) (fp : List Addr) {e : Expr} : PT (XB X scope s H C cl fp) e (uTb X an dr scope e) := ⟨fun pins s1 σ H1 K' I ⟨ρ, om, Q, w, h⟩ => PT.run (w s H C cl fp) pins s1 σ H1 K' I h⟩
theorem Good.drop {K : PySem.W.Frag} {om : Om} {x : Option (List D)} {τ : List Addr} {p : Addr} {G H : Hp} (g : Good K an dr (om ++ [x]) (τ ++ [p]) G H) : Good K an dr om τ G H where
  ex := g.ex
  len := by have := g.len; rw [List.length_append, List.length_append] at this; simpa using this
  nd := (List.nodup_append.mp g.nd).1
  own := fun k q ds h1 h2 => g.own k q ds (by rw [List.getElem?_append_left (List.getElem?_eq_some_iff.mp h1).1]; exact h1) (by rw [List.getElem?_append_left (List.getElem?_eq_some_iff.mp h2).1]; exact h2)
  drg := g.drg
  a1 := g.a1
  a2 := g.a2
  a3 := g.a3
  a4 := fun k q h1 => g.a4 k q (by rw [List.getElem?_append_left (List.getElem?_eq_some_iff.mp h1).1]; exact h1)
/-- one turn's element -/
def Elt (X : Cx) (an : An) (dr : Option Dr) (scope : Scope) (elt : Expr) (ρ2 : Rho) (om : Om) (acc : List D) (N : List D → Prop) : Prop :=
  ∀ s H C cl fp, WE (XB X scope s H C cl fp) an dr ρ2 (om ++ [some acc]) elt fun r om3 => om3 = om ++ [some acc] ∧ retR om3 r fun d => (∃ d', r = .v d') ∧ N (acc ++ [d])
def Tst (X : Cx) (an : An) (dr : Option Dr) (scope : Scope) (c : Expr) (ρ2 : Rho) (om : Om) (acc : List D) (N : Bool → Prop) : Prop :=
  ∀ s H C cl fp, WT (XB X scope s H C cl fp) an dr ρ2 (om ++ [some acc]) c fun b om3 => om3 = om ++ [some acc] ∧ N b
theorem lc_go {te : TE} {tt : TT} {J : It} {ds : List D} {τ1 : List Addr} {G1 H1 : Hp} {om1 : Om} {σ : L2.St} {Z : VK} (P : Nat → List D → Prop) (hz : ds.length ≤ sizeLine) (g1 : Good X.K an dr om1 τ1 G1 H1) (n1 : EnvIs X.K G1 τ1 σ ρ) (hl : σ.length = ρ.length) (jk : JOk X.K an dr J ds G1 τ1) (p0 : P 0 [])
    (hj : ∀ i ∈ js, i ∈ own.map (·.2))
    (turn : ∀ i d acc, ds[i]? = some d → acc.length ≤ i → P i acc → f d (wipeR ρ (own.map (·.2))) fun ρ2 => ∀ σ2 τ2 G2 H2 (Y : Bool → Hp → Prop) (Y2 : VK), Good X.K an dr (om1 ++ [some acc]) τ2 G2 H2 → EnvIs X.K G2 τ2 σ2 ρ2 →
      (∀ H3 τ3 G3, P (i + 1) acc → Good X.K an dr (om1 ++ [some acc]) τ3 G3 H3 → Grow G2 τ2 G3 τ3 → Y false H3) →
      (∀ H3 τ3 G3 y d', P (i + 1) (acc ++ [d']) → Good X.K an dr (om1 ++ [some acc]) τ3 G3 H3 → Grow G2 τ2 G3 τ3 → Is X.K G3 y d' → Y2 y H3) →
      tt σ2 H2 fun b H3 => if b = true then te σ2 H3 Y2 else Y false H3)
    (fin : ∀ acc, P ds.length acc → Fin X.K an dr om1 τ1 G1 Z (.lst acc)) :
    ∀ D0, H1 D0 = none → ∃ W : Nat → Nat → Hp → Prop, (∃ m, W 0 m (upd H1 D0 (.lst []))) ∧ ∀ i m H, W i m H →
      (J.stop i H ∧ Z (.ref D0) H) ∨ (J.go i H ∧ ∃ Nx : Hp → Prop, (∀ H', Nx H' → ∃ m', m' < m ∧ W (i + 1) m' H') ∧ ∀ x H', J.yld i H x H' → tDG X.K an dr js f x (L2.wipe σ (own.map (·.2))) H' fun σ2 H2 => L2.wipe σ2 (own.map (·.2)) = L2.wipe σ (own.map (·.2)) ∧ tt σ2 H2 fun b H3 =>
        if b = true then te σ2 H3 fun y H4 => ∃ acc, H4 D0 = some (.lst acc) ∧ acc.length < sizeLine ∧ Nx (upd H4 D0 (.lst (acc ++ [y]))) else Nx H3) := by
  intro D0 hD
  have g0 := g1.fresh (ds := []) hD .nil
  have kD : (τ1 ++ [D0])[om1.length]? = some D0 := by
    rw [g1.len, List.getElem?_append_right (Nat.le_refl _), Nat.sub_self]; rfl
  have oD : ∀ acc : List D, (om1 ++ [some acc])[om1.length]? = some (some acc) := fun acc => by
    rw [List.getElem?_append_right (Nat.le_refl _), Nat.sub_self]; rfl
  refine ⟨fun i m H => m = ds.length - i ∧ i ≤ ds.length ∧ ∃ acc τ2 G2, acc.length ≤ i ∧ P i acc ∧ Good X.K an dr (om1 ++ [some acc]) τ2 G2 H ∧ Grow G1 (τ1 ++ [D0]) G2 τ2, ⟨ds.length, by simp, Nat.zero_le _, [], τ1 ++ [D0], G1, Nat.le_refl _, p0, g0, Grow.refl _ _⟩, ?_⟩
  rintro i m H ⟨rfl, hi, acc, τ2, G2, ha, p, g2, gr2⟩
  have gr12 : Grow G1 τ1 G2 τ2 := Good.growF.trans gr2
  have J2 := jk _ τ2 G2 H g2 gr12 i
  have kD2 := gr2.pre _ _ kD
  by_cases hlt : i < ds.length
  · have hd : ds[i]? = some ds[i] := List.getElem?_eq_getElem hlt
    obtain ⟨go, J3⟩ := J2.2 _ hd
    refine .inr ⟨go, fun H' => ∃ acc τ2 G2, acc.length ≤ i + 1 ∧ P (i + 1) acc ∧ Good X.K an dr (om1 ++ [some acc]) τ2 G2 H' ∧ Grow G1 (τ1 ++ [D0]) G2 τ2, fun H' q => ⟨ds.length - (i + 1), by omega, rfl, hlt, q⟩, fun x H3 y => ?_⟩
    obtain ⟨G3, g3, gr3, i3⟩ := J3 x H3 y
    have n3 : EnvIs X.K G3 τ2 σ ρ := n1.mono (gr12.trans gr3)
    refine ⟨_, τ2, G3, _, _, _, g3, n3.wipes _, by rw [wipe_length, wipeR_length]; exact hl, i3, turn i _ acc hd ha p, fun σ4 ρ4 w n4 l3 l4 o4 => ⟨?_, ?_⟩⟩
    · have z := o4 (own.map (·.2)) hj
      rw [z]
      apply List.ext_getElem?
      intro j
      rw [wipe_get, wipe_get, wipe_length]
      by_cases hj : j ∈ own.map (·.2)
      · rw [if_pos hj, if_pos hj]
      · rw [if_neg hj, if_neg hj]
    · refine w σ4 τ2 G3 H3 (fun b H' => ∃ acc τ2 G2, acc.length ≤ i + 1 ∧ P (i + 1) acc ∧ Good X.K an dr (om1 ++ [some acc]) τ2 G2 H' ∧ Grow G1 (τ1 ++ [D0]) G2 τ2) _ g3 n4 (fun H5 τ5 G5 p5 g5 gr5 => ⟨acc, τ5, G5, by omega, p5, g5, (gr2.trans gr3).trans gr5⟩) fun H5 τ5 G5 y d' p5 g5 gr5 i5 => ?_
      have kD5 := gr5.pre _ _ kD2
      obtain ⟨e1, e2, e3, vs, e4, e5⟩ := g5.own om1.length D0 acc kD5 (oD acc)
      refine ⟨vs, e4, by rw [e5.length]; omega, acc ++ [d'], τ5, G5, by rw [List.length_append]; show acc.length + 1 ≤ i + 1; omega, p5, ?_, (gr2.trans gr3).trans gr5⟩
      have g6 := g5.write (vs := vs ++ [y]) (ds := acc ++ [d']) kD5 (oD acc) (e5.append (.cons i5 .nil))
      have e6 : (om1 ++ [some acc]).set om1.length (some (acc ++ [d'])) = om1 ++ [some (acc ++ [d'])] := by
        rw [List.set_append_right _ _ (Nat.le_refl _), Nat.sub_self]; rfl
      rw [e6] at g6
      exact g6
  · have e : i = ds.length := by omega
    subst e
    refine .inl ⟨J2.1 rfl, ?_⟩
    obtain ⟨vs, g', gr', i'⟩ := g2.freeze kD2 (oD acc)
    have e6 : (om1 ++ [some acc]).set om1.length none = om1 ++ [none] := by
      rw [List.set_append_right _ _ (Nat.le_refl _), Nat.sub_self]; rfl
    rw [e6] at g'
    have l2 : τ2.length = τ1.length + 1 := by
      have := g2.len
      rw [List.length_append, g1.len] at this
      simpa using this.symm
    have e7 : τ2 = τ1 ++ [D0] := by
      apply List.ext_getElem?
      intro j
      by_cases hj : j < (τ1 ++ [D0]).length
      · rw [gr2.pre j _ (List.getElem?_eq_getElem hj), List.getElem?_eq_getElem hj]
      · rw [List.getElem?_eq_none (by rw [l2]; simpa using hj), List.getElem?_eq_none (by simpa using hj)]
    subst e7
    exact fin acc p _ _ _ i' g'.drop ⟨gr2.ex.trans gr'.ex, fun _ _ h => h⟩
/-- [elt for tg in iter] -/
theorem we_lc (hc : X.calm = true) (hN : X.N.Nodup) (hl : X.N.length = ρ.length) (own : List (Str × Nat)) (ok : BlkOk X.N X.env.scope scope own) (hg : ∀ s H C cl fp, WG (XB X scope s H C cl fp) an dr tg js f) (hj : ∀ i ∈ js, i ∈ own.map (·.2))
    (hi : WI X an dr ρ om tg iter fun ds om1 => ∃ P : Nat → List D → Prop, P 0 [] ∧ (∀ i d acc, ds[i]? = some d → acc.length ≤ i → P i acc → f d (wipeR ρ (own.map (·.2))) fun ρ2 => Elt X an dr scope elt ρ2 om1 acc (P (i + 1))) ∧ ∀ acc, P ds.length acc → Q (.v (.lst acc)) om1)
    (hs : ∀ x, foldedSetIterable iter X.env x = pure x := by intro _; rfl) : WE X an dr ρ om (.ListComp elt [⟨tg, iter, [], 0⟩] scope pos) Q := by
  refine ⟨fun pins s σ H K' I q => (pe_lc (g := tDG X.K an dr js f) hc hN hi ok (fun s H C cl fp => (hg s H C cl fp).1) (fun _ _ _ _ _ => pts_nil) (fun s H C cl fp => pe_ub (an := an) (dr := dr) s H C cl fp) hs).run pins s σ H K' I ?_⟩
  obtain ⟨τ, G, g, n, k⟩ := q
  have hls : σ.length = ρ.length := I.len.trans hl
  refine ⟨τ, G, g, n, fun J ds om1 τ1 G1 H1 ⟨P, p0, ps, pe⟩ hz g1 gr1 jk => lc_go P hz g1 (n.mono gr1) hls (jk an) p0 hj (fun i d acc hd ha p => ?_) fun acc p v G' H' i' g' gr' => k _ _ _ _ _ _ (.v i') (pe acc p) g' (gr1.trans gr')⟩
  have w := ps i d acc hd ha p
  refine (hg s H 0 [] []).2 _ _ _ _ (fun ρ2 w σ2 τ2 G2 H2 Y Y2 g2 n2 y1 y2 => ⟨ρ2, _, _, w, τ2, G2, g2, n2, fun v r om3 τ3 G3 H3 h1 ⟨h2, h3⟩ g3 gr3 => by
    subst h2
    cases h1 with
    | v h1 => exact y2 H3 τ3 G3 v _ h3.2 g3 gr3 h1
    | o h1 => obtain ⟨_, _, ⟨_, z⟩, _⟩ := h3; cases z⟩) w
/-- [elt for tg in iter if c] -/
theorem we_lcIf (hc : X.calm = true) (hN : X.N.Nodup) (hl : X.N.length = ρ.length) (own : List (Str × Nat)) (ok : BlkOk X.N X.env.scope scope own) (hg : ∀ s H C cl fp, WG (XB X scope s H C cl fp) an dr tg js f) (hj : ∀ i ∈ js, i ∈ own.map (·.2))
    (hi : WI X an dr ρ om tg iter fun ds om1 => ∃ P : Nat → List D → Prop, P 0 [] ∧ (∀ i d acc, ds[i]? = some d → acc.length ≤ i → P i acc → f d (wipeR ρ (own.map (·.2))) fun ρ2 => Tst X an dr scope c ρ2 om1 acc fun b => if b = true then Elt X an dr scope elt ρ2 om1 acc (P (i + 1)) else P (i + 1) acc) ∧ ∀ acc, P ds.length acc → Q (.v (.lst acc)) om1)
    (hs : ∀ x, foldedSetIterable iter X.env x = pure x := by intro _; rfl) : WE X an dr ρ om (.ListComp elt [⟨tg, iter, [c], 0⟩] scope pos) Q := by
  refine ⟨fun pins s σ H K' I q => (pe_lc (g := tDG X.K an dr js f) hc hN hi ok (fun s H C cl fp => (hg s H C cl fp).1) (fun s H C cl fp => pts_one (pt_ub (an := an) (dr := dr) s H C cl fp)) (fun s H C cl fp => pe_ub (an := an) (dr := dr) s H C cl fp) hs).run pins s σ H K' I ?_⟩
  obtain ⟨τ, G, g, n, k⟩ := q
  have hls : σ.length = ρ.length := I.len.trans hl
  refine ⟨τ, G, g, n, fun J ds om1 τ1 G1 H1 ⟨P, p0, ps, pe⟩ hz g1 gr1 jk => lc_go P hz g1 (n.mono gr1) hls (jk an) p0 hj (fun i d acc hd ha p => ?_) fun acc p v G' H' i' g' gr' => k _ _ _ _ _ _ (.v i') (pe acc p) g' (gr1.trans gr')⟩
  have w := ps i d acc hd ha p
  refine (hg s H 0 [] []).2 _ _ _ _ (fun ρ2 w σ2 τ2 G2 H2 Y Y2 g2 n2 y1 y2 => ⟨ρ2, _, _, w, τ2, G2, g2, n2, fun b om3 τ3 G3 H3 ⟨h2, h3⟩ g3 gr3 => ?_⟩) w
  subst h2
  cases b with
  | true =>
    rw [if_pos rfl] at h3 ⊢
    refine ⟨ρ2, _, _, h3, τ3, G3, g3, n2.mono gr3, fun v r om4 τ4 G4 H4 h1 ⟨h2, h3⟩ g4 gr4 => ?_⟩
    subst h2
    cases h1 with
    | v h1 => exact y2 H4 τ4 G4 v _ h3.2 g4 (gr3.trans gr4) h1
    | o h1 => obtain ⟨_, _, ⟨_, z⟩, _⟩ := h3; cases z
  | false =>
    rw [if_neg Bool.false_ne_true] at h3 ⊢
    exact y1 H3 τ3 G3 h3 g3 gr3
/-- y = [elt for tg in iter] -/
theorem ws_setLc {i : Nat} {y : Str} {py spos : Pos} {E : Ed} (hc : X.calm = true) (hN : X.N.Nodup) (hl : X.N.length = ρ.length) (hy : X.N[i]? = some y) (hyl : X.env.scope.names.lookup y = some .local) (own : List (Str × Nat)) (ok : BlkOk X.N X.env.scope scope own) (hg : ∀ s H C cl fp, WG (XB X scope s H C cl fp) an dr tg js f) (hj : ∀ i ∈ js, i ∈ own.map (·.2))
    (hsw : swapsWith (.ListComp elt [⟨tg, iter, [], 0⟩] scope pos) (some (.Name y py)) spos.line X.env = pure true)
    (hi : WI X an dr ρ om tg iter fun ds om1 => ∃ P : Nat → List D → Prop, P 0 [] ∧ (∀ i d acc, ds[i]? = some d → acc.length ≤ i → P i acc → f d (wipeR ρ (own.map (·.2))) fun ρ2 => Elt X an dr scope elt ρ2 om1 acc (P (i + 1))) ∧ ∀ acc, P ds.length acc → E.nx (ρ.set i (some (.v (.lst acc)))) om1)
    (hs : ∀ x, foldedSetIterable iter X.env x = pure x := by intro _; rfl) : WS X an dr ρ om (.Assign [.Name y py] (.ListComp elt [⟨tg, iter, [], 0⟩] scope pos) spos) E := by
  refine psI (ps_setLc (g := tDG X.K an dr js f) hc hN hy hyl hsw hi ok (fun s H C cl fp => (hg s H C cl fp).1) (fun _ _ _ _ _ => pts_nil) (fun s H C cl fp => pe_ub (an := an) (dr := dr) s H C cl fp) hs) fun Z σ H ⟨τ, G, g, n, hls, h1, _⟩ => ?_
  refine ⟨τ, G, g, n, fun J ds om1 τ1 G1 H1 ⟨P, p0, ps, pe⟩ hz g1 gr1 jk => lc_go P hz g1 (n.mono gr1) hls (jk an) p0 hj (fun i d acc hd ha p => ?_) fun acc p v G' H' i' g' gr' => h1 _ _ ⟨_, _, _, _, pe acc p, g', EnvIs.set (n.mono (gr1.trans gr')) hls (.v i'), gr1.trans gr', by rw [List.length_set]; exact hls, by rw [List.length_set]⟩⟩
  have w := ps i d acc hd ha p
  refine (hg X.s_0 H 0 [] []).2 _ _ _ _ (fun ρ2 w σ2 τ2 G2 H2 Y Y2 g2 n2 y1 y2 => ⟨ρ2, _, _, w, τ2, G2, g2, n2, fun v r om3 τ3 G3 H3 h1 ⟨h2, h3⟩ g3 gr3 => by
    subst h2
    cases h1 with
    | v h1 => exact y2 H3 τ3 G3 v _ h3.2 g3 gr3 h1
    | o h1 => obtain ⟨_, _, ⟨_, z⟩, _⟩ := h3; cases z⟩) w
theorem ws_setLcIf {i : Nat} {y : Str} {py spos : Pos} {E : Ed} (hc : X.calm = true) (hN : X.N.Nodup) (hl : X.N.length = ρ.length) (hy : X.N[i]? = some y) (hyl : X.env.scope.names.lookup y = some .local) (own : List (Str × Nat)) (ok : BlkOk X.N X.env.scope scope own) (hg : ∀ s H C cl fp, WG (XB X scope s H C cl fp) an dr tg js f) (hj : ∀ i ∈ js, i ∈ own.map (·.2))
    (hsw : swapsWith (.ListComp elt [⟨tg, iter, [c], 0⟩] scope pos) (some (.Name y py)) spos.line X.env = pure true)
    (hi : WI X an dr ρ om tg iter fun ds om1 => ∃ P : Nat → List D → Prop, P 0 [] ∧ (∀ i d acc, ds[i]? = some d → acc.length ≤ i → P i acc → f d (wipeR ρ (own.map (·.2))) fun ρ2 => Tst X an dr scope c ρ2 om1 acc fun b => if b = true then Elt X an dr scope elt ρ2 om1 acc (P (i + 1)) else P (i + 1) acc) ∧ ∀ acc, P ds.length acc → E.nx (ρ.set i (some (.v (.lst acc)))) om1)
    (hs : ∀ x, foldedSetIterable iter X.env x = pure x := by intro _; rfl) : WS X an dr ρ om (.Assign [.Name y py] (.ListComp elt [⟨tg, iter, [c], 0⟩] scope pos) spos) E := by
  refine psI (ps_setLc (g := tDG X.K an dr js f) hc hN hy hyl hsw hi ok (fun s H C cl fp => (hg s H C cl fp).1) (fun s H C cl fp => pts_one (pt_ub (an := an) (dr := dr) s H C cl fp)) (fun s H C cl fp => pe_ub (an := an) (dr := dr) s H C cl fp) hs) fun Z σ H ⟨τ, G, g, n, hls, h1, _⟩ => ?_
  refine ⟨τ, G, g, n, fun J ds om1 τ1 G1 H1 ⟨P, p0, ps, pe⟩ hz g1 gr1 jk => lc_go P hz g1 (n.mono gr1) hls (jk an) p0 hj (fun i d acc hd ha p => ?_) fun acc p v G' H' i' g' gr' => h1 _ _ ⟨_, _, _, _, pe acc p, g', EnvIs.set (n.mono (gr1.trans gr')) hls (.v i'), gr1.trans gr', by rw [List.length_set]; exact hls, by rw [List.length_set]⟩⟩
  have w := ps i d acc hd ha p
  refine (hg X.s_0 H 0 [] []).2 _ _ _ _ (fun ρ2 w σ2 τ2 G2 H2 Y Y2 g2 n2 y1 y2 => ⟨ρ2, _, _, w, τ2, G2, g2, n2, fun b om3 τ3 G3 H3 ⟨h2, h3⟩ g3 gr3 => ?_⟩) w
  subst h2
  cases b with
  | true =>
    rw [if_pos rfl] at h3 ⊢
    refine ⟨ρ2, _, _, h3, τ3, G3, g3, n2.mono gr3, fun v r om4 τ4 G4 H4 h1 ⟨h2, h3⟩ g4 gr4 => ?_⟩
    subst h2
    cases h1 with
    | v h1 => exact y2 H4 τ4 G4 v _ h3.2 g4 (gr3.trans gr4) h1
    | o h1 => obtain ⟨_, _, ⟨_, z⟩, _⟩ := h3; cases z
  | false =>
    rw [if_neg Bool.false_ne_true] at h3 ⊢
    exact y1 H3 τ3 G3 h3 g3 gr3
end
end DL

namespace DL
open PySem L2 PyProof.Rows
/-! ### a def's promise, where no repr is under way -/
structure FnG (P : Program) (w : World) (K : PySem.W.Frag) (mg : Str → Option Value) (base : Heap) (CX : CXT) (k : Nat) (f : Addr) (fd : FuncData) (ps : List Str) (sp : Sp) : Prop where
  len : ∀ vs H Q E, sp vs H Q E → vs.length = ps.length
  run : ∀ (A : Around) (outer : List Env) (s : Shared) (H : Hp) (args : Args) (us : List Value) (vs : List V) (Q : VK) (E : XK), Room k A → A.guards = some [] → Env0 P w K mg base A outer s H → BindsTo s fd args (ps.zip us) → Vals vs us → sp vs H Q E →
    codeAny (model P w) A (.call (.ref f) args) (CR CX outer P w H s Q E) s
section
variable {P : Program} {w : World} {K : PySem.W.Frag} {mg : Str → Option Value} {base : Heap} {CX : CXT} {k : Nat} {f : Addr} {N ps : List Str} {sp : Sp}
theorem FnG.of {fd : FuncData} (F : FnOk P w K mg base CX k f fd ps sp) : FnG P w K mg base CX k f fd ps sp := ⟨F.len, fun A outer s H args us vs Q E hr _ => F.run A outer s H args us vs Q E hr⟩
/-- by its body -/
theorem FnG.by {x qual : Str} {st : Stmt} {fd : FuncData} (F : Fun K x qual st f fd) (S : FnScope N ps (defScope st)) (len : ∀ vs H Q E, sp vs H Q E → vs.length = ps.length)
    (hbody : ∀ (cdv : Value) (A : Around) (outer : List Env) (s : Shared) (H : Hp) (vs : List V) (Q : VK) (E : XK), Room k (A.deeper (envOfC qual (defScope st) s.heap.objs.size f cdv)) → A.guards = some [] → sp vs H Q E →
      ∃ t, PSs (cxOf CX P w K mg base N qual (defScope st) f cdv A outer s H E) (defBody st) t ∧ t { nx := fun _ H' => Q .non H', rt := Q } (L2.start N vs) H) : FnG P w K mg base CX (k + 1) f fd ps sp := by
  obtain ⟨oc, od, kV, doc, pm, an, cdv, ct, osl, rfl, lk, hcd⟩ := F.ex
  constructor
  · exact len
  · intro A outer s H args us vs Q E room gd env bnd rel want
    have inB : ∀ b o, base.get? b = some o → s.heap.get? b = some o := fun b o e => (env.bs b o e).1
    have inK : K.In s.heap := env.mod.kin.keeps inB
    have kinds : ∀ y ∈ ps.zip us, (defScope st).names.lookup y.1 = some .local ∨ ((defScope st).names.lookup y.1 = some .cell ∧ ((cellsFrom (s.heap.objs.size + 1) (defScope st).names []).lookup y.1).isSome = true) := by
      rintro ⟨n, v⟩ hy
      rcases S.par n (List.of_mem_zip hy).1 with q | q
      · exact .inl q
      · exact .inr ⟨q, PySem.W.cellsFrom_some _ _ _ (.inl q)⟩
    refine codeAny_call_function room.depth (inK _ _ lk) rfl S.co S.gen rfl (PySem.W.codeRec_of inK hcd) (bnd _ _ _ _ (wpAny_newFunctionEnv_cells S.kind kinds ?_))
    rintro _ rfl s1 x
    refine ⟨(env.mod.nolimit.keeps inB).keeps x.toInCall.keep, codeAny_func ?_⟩
    obtain ⟨t, ht, hq⟩ := hbody cdv A outer s H vs Q E (room.deeper _) gd want
    have I := inv_start (CX := CX) (qual := qual) (f := f) (cd := cdv) (E := E) S room.hd env (len _ _ _ _ want) rel x
    refine wpAny_mono (ht.run [] s1 _ H _ I hq) ?_ fun e s' hs => hs
    rintro (_ | _ | _ | u) s' hs
    · obtain ⟨σ', H', J, q⟩ := hs
      exact ⟨V.non, H', J.os, J.bare, J.base, J.hok, rfl, q⟩
    · obtain ⟨_, _, _, q⟩ := hs
      exact q.elim
    · obtain ⟨_, _, _, q⟩ := hs
      exact q.elim
    · obtain ⟨v, σ', H', J, rv, q⟩ := hs
      exact ⟨v, H', J.os, J.bare, J.base, J.hok, rv, q⟩
end
section
variable {X : Cx} {CX : CXT} {k : Nat} {f : Addr} {fd : FuncData} {ps : List Str} {sp : Sp} {E : XK} {x : Str} {p pos : Pos} {e : Expr} {es : List Expr} {t : TA}
theorem pe_callG (F : FnG X.prog X.w X.K X.mg X.base CX k f fd ps sp) (hr : Room k X.A) (gd : X.A.guards = some []) (hg : Gl X x) (hm : X.mg x = some (.ref f)) (hk : PySem.W.keepIn X.K (.ref f) = true) (hb : Binds X.K fd ps []) (hx : Passes CX X E)
    (ha : PA X (e :: es) t) (hdb : (x == ("__debug__" : Str)) = false) (he : starEach (e :: es) X.env = (false, eval e X.env) :: starEach es X.env) (hpl : (backTo pos (starEach es X.env)).any (·.1) = false) :
    PE X (.Call (.Name x p) (e :: es) [] pos) (tCall sp [] E t) := by
  constructor
  intro pins s σ H Q I h
  refine wpAny_Call_Name_kw (ld_glob I hg hm (PySem.W.callWith_K (h₀ := X.base) I.ok.mod.kin hk (thn (ha.run pos pins s σ H _ I h) ?_) he hpl) hdb)
  rintro us s1 ⟨vs, H1, I1, r, q⟩
  have q : sp (vs ++ []) H1 Q E := q
  rw [List.append_nil] at q
  have hl : (us ++ ([] : List Value)).length = ps.length := by
    rw [List.append_nil, ← r.length]
    exact F.len _ _ _ _ q
  have bd := hb s1 us I1.kIn hl
  rw [List.append_nil] at bd
  refine ⟨I1.kIn, wpAny_call (codeAny_mono (F.run X.A X.stack s1 H1 ⟨us, []⟩ us vs Q E hr gd I1.env0 bd r q) ?_)⟩
  rintro (ex | (_ | _ | _ | u)) s' hq
  · exact hx pins σ H1 s1 ex s' I1 hq
  · exact False.elim hq
  · exact False.elim hq
  · exact False.elim hq
  · exact I1.after hq
end
/-! ### the end of a law's row -/
theorem end_law {P : Program} {w : World} {K : PySem.W.Frag} {mg mb : Str → Option Value} {k : Nat} {fa a : Addr} {fd : FuncData} {x : Str} {sp : Sp} {s : Shared} {vs : List Value} {ns : List Int}
    (KX : K.In s.heap) (hns : s.heap.Ns mainGlobals mg) (hb : s.heap.Ns builtinsNs mb) (hbb : ∀ y : Str, y ≠ "__name__" → mb y = bootBuiltins y) (hlim : s.heap.NoLimit) (hg : s.gens = #[])
    (ha : s.heap.get? a = some { cls := .type "list", data := .seq vs.toArray }) (hi : IntsAre vs ns) (hl : ns.length ≤ sizeLine) (hr : Room k callerA)
    (F : ∀ base : Heap, K.In base → base.Ns mainGlobals mg → FnG P w K mg base CX0 k fa fd [x] sp) (hbind : ∀ (s : Shared) (u : Value), BindsTo s fd ⟨[u], []⟩ [(x, u)])
    (hsp : ∀ H : Hp, L2.Only H → SqL K H a (ns.map V.int) → sp [.ref a] H (fun v _ => v = .bl true) fun _ _ _ => False) :
    codeAny (model P w) callerA (.call (.ref fa) ⟨[.ref a], []⟩) (fun r s' => r = .ok (.ret (.bool true)) ∧ OldK s.heap s'.heap ∧ s'.os = s.os ∧ AllBare s'.gens) s := by
  -- the script is tracked, locked, unless it is the module's own
  let H : Hp := fun b => if b = a ∧ K.lookup a = none then some (.frz { cls := .type "list", data := .seq vs.toArray } (.lst (ns.map V.int))) else none
  have at1 : K.lookup a = none → H a = some (.frz { cls := .type "list", data := .seq vs.toArray } (.lst (ns.map V.int))) := fun z => if_pos ⟨rfl, z⟩
  have known : ∀ b u, H b = some u → b = a ∧ K.lookup a = none ∧ u = .frz { cls := .type "list", data := .seq vs.toArray } (.lst (ns.map V.int)) := fun b u z => by
    by_cases c : b = a ∧ K.lookup a = none
    · have q := (if_pos c).symm.trans z
      exact ⟨c.1, c.2, (Option.some.inj q).symm⟩
    · have q := (if_neg c).symm.trans z
      cases q
  have rv := vals_ints hi
  have nl : (ns.map V.int).length ≤ sizeLine := by rw [List.length_map]; exact hl
  have only : L2.Only H := fun b => by
    cases q : H b with
    | none => exact .inl rfl
    | some u => exact .inr ⟨_, _, congrArg some (known b u q).2.2⟩
  have script : SqL K H a (ns.map V.int) := by
    cases hk : K.lookup a with
    | none => exact .inl (.inr ⟨_, at1 hk⟩)
    | some o =>
      have e := (KX a o hk).symm.trans ha
      cases e
      refine .inr ⟨_, vs.toArray, _, hk, rfl, rfl, rfl, ?_, by simpa using rv⟩
      rw [List.size_toArray, hi.length]
      exact hl
  have hok : HOk P w H s.heap := fun b u q => by
    obtain ⟨rfl, _, rfl⟩ := known b u q
    exact ⟨ha, nl, vs, _, rv, ha⟩
  have kp : ∀ {b : Addr} {o : Obj}, s.heap.get? b = some o → H b = none → (hidT s.heap H).get? b = some o := fun e n => hidT_get e n
  have kd : ∀ {b : Addr} {m : Str → Option Value}, s.heap.Ns b m → (hidT s.heap H).Ns b m := by
    rintro b m ⟨o, es, ep, e, d, r⟩
    refine ⟨o, es, ep, kp e ?_, d, r⟩
    cases q : H b with
    | none => rfl
    | some u =>
      obtain ⟨rfl, _⟩ := known b u q
      rw [ha] at e
      cases e
      cases d
  have kk : K.In (hidT s.heap H) := fun b o e => kp (KX b o e) (by
    cases q : H b with
    | none => rfl
    | some u =>
      obtain ⟨rfl, z, _⟩ := known b u q
      rw [z] at e
      cases e)
  obtain ⟨mc, c1, c2⟩ := hlim
  have env : Env0 P w K mg (hidT s.heap H) callerA [] s H := by
    refine ⟨rfl, ⟨kk, kd hns, ⟨mb, kd hb, hbb⟩, ⟨mc, kd c1, c2⟩⟩, fun b o e => of_hidT e, Nat.le_of_eq (hidT_size _ _), trivial, ?_, hok, .of_eq hg⟩
    intro b hb
    exact absurd (show b ∈ ([] : List Addr) from hb) List.not_mem_nil
  refine codeAny_mono ((F _ kk (kd hns)).run callerA [] s H ⟨[.ref a], []⟩ [.ref a] [.ref a] _ _ hr rfl env (hbind s (.ref a)) (.cons rfl .nil) (hsp H only script)) ?_
  rintro (ex | (_ | _ | _ | u)) s' h
  · exact False.elim h
  · exact False.elim h
  · exact False.elim h
  · exact False.elim h
  · obtain ⟨v, H', os, bare, un, hok', r', (q : v = .bl true)⟩ := h
    subst q
    obtain rfl : u = Value.bool true := r'
    refine ⟨rfl, OldK.of_keep fun b o e => ?_, os, bare⟩
    cases q : H b with
    | none => exact un.keep b o e q (fun z => absurd (show b ∈ ([] : List Addr) from z) List.not_mem_nil) List.not_mem_nil
    | some u =>
      obtain ⟨rfl, z, rfl⟩ := known b u q
      obtain ⟨e2, _⟩ := hok' _ _ (un.frzs _ _ _ q)
      rw [ha] at e
      cases e
      exact e2
theorem walk_law {l : PySem.W.OpenLaw} {n k : Nat} {q : Program} {loose : List Str} {XP : (Str → Option Value) → Heap → Prop} {YP : World → Heap → Prop} {d : DefRec} {K : Params → PySem.W.Frag} {sp : PySem.W.Frag → Sp} {x : Str}
    (hn : l.most = some n) (hn2 : n ≤ sizeLine) (hdf : d.params.defaults = []) (hr : Room k callerA) (hY : ∀ (w : World) (h : Heap), YP w h → (K w.params).In h)
    (F : ∀ (w : World) (mg : Str → Option Value) (fa : Addr) (h : Heap), (K w.params).In h → h.Ns mainGlobals mg → mg d.name = some (.ref fa) →
      ∃ fd : FuncData, (∀ (s : Shared) (u : Value), BindsTo s fd ⟨[u], []⟩ [(x, u)]) ∧ ∀ base : Heap, (K w.params).In base → base.Ns mainGlobals mg → FnG l.prog w (K w.params) mg base CX0 k fa fd [x] (sp (K w.params)))
    (hsp : ∀ (K : PySem.W.Frag) (H : Hp) (a : Addr) (ns : List Int), ns.length ≤ n → SqL K H a (ns.map V.int) → sp K [.ref a] H (fun v _ => v = .bl true) fun _ _ _ => False) :
    PySem.W.WalkO q loose XP YP l.row.toRowW d [] (fun f vs => PySem.call f vs) := by
  refine Att.attach_call hn hdf fun w s₀ s₁ mg mb fa o pm cd doc a vs ns G Y ho hd hcd hmg hobj hints hlen hg => ?_
  obtain ⟨fd, hb, hF⟩ := F w mg fa _ (hY w _ Y) G.T.g hmg
  exact end_law (hY w _ Y) G.T.g G.T.b G.T.builtins G.T.nolimit hg hobj hints (Nat.le_trans hlen hn2) hr hF hb fun H _ hS => hsp (K w.params) H a ns hlen hS
end DL

namespace DL
open PySem L2
/-! ### a def's promise, told by data -/
abbrev Wp := List D → (D → Prop) → Prop
def spD (K : PySem.W.Frag) (dr : Option Dr) (W : Wp) : Sp := fun vs H Q _ => ∃ G ds, Ex G H ∧ DrG dr G H ∧ IsL K G vs ds ∧ W ds fun d => ∀ v G' H', Is K G' v d → Ex G G' → Ex G' H' → DrG dr G' H' →
  (∀ a o, H a = some o → Off dr a → H' a = some o) → (∀ a, H a ≠ none → G a = none → G' a = none) → Q v H'
def startR (N : List Str) (ds : List D) : Rho := ds.map (fun d => some (.v d)) ++ List.replicate (N.length - ds.length) none
/-- a def is there and keeps W -/
structure Has (P : Program) (w : World) (K : PySem.W.Frag) (mg : Str → Option Value) (base : Heap) (dr : Option Dr) (k : Nat) (x : Str) (ps : List Str) (W : Wp) : Prop where
  ex : ∃ f fd, FnG P w K mg base CX0 k f fd ps (spD K dr W) ∧ mg x = some (.ref f) ∧ PySem.W.keepIn K (.ref f) = true ∧ Binds K fd ps []
  mono : ∀ ds Q Q', (∀ d, Q d → Q' d) → W ds Q → W ds Q'
section
variable {P : Program} {w : World} {K : PySem.W.Frag} {mg : Str → Option Value} {base : Heap} {dr : Option Dr} {N ps : List Str} {W : Wp} {k : Nat}
theorem env_start {G : Hp} {vs : List V} {ds : List D} (i : IsL K G vs ds) : EnvIs K G [] (L2.start N vs) (startR N ds) := fun j r e => by
  unfold startR at e
  unfold L2.start
  by_cases hj : j < ds.length
  · rw [List.getElem?_append_left (by simpa using hj), List.getElem?_map] at e
    rw [List.getElem?_append_left (by rw [List.length_map, i.length]; exact hj), List.getElem?_map]
    cases q : ds[j]? with
    | none => rw [q] at e; cases e
    | some d =>
      rw [q] at e
      cases e
      obtain ⟨v, h1, h2⟩ := i.get q
      exact ⟨v, by rw [h1]; rfl, .v h2⟩
  · rw [List.getElem?_append_right (by simpa using hj), List.getElem?_replicate] at e
    split at e <;> cases e
theorem fnD {x qual : Str} {st : Stmt} {f : Addr} {fd : FuncData} (F : Fun K x qual st f fd) (S : FnScope N ps (defScope st)) (hlen : ∀ ds Q, W ds Q → ds.length = ps.length)
    (hb : ∀ (cdv : Value) (A : Around) (outer : List Env) (s : Shared) (H : Hp) (E : XK) (an : An) (ds : List D) (post : D → Prop), Room k (A.deeper (PyProof.Rows.envOfC qual (defScope st) s.heap.objs.size f cdv)) → A.guards = some [] → W ds post →
      WSs (cxOf CX0 P w K mg base N qual (defScope st) f cdv A outer s H E).nox an dr (startR N ds) [] (defBody st) { nx := fun _ _ => post .non, rt := post }) : FnG P w K mg base CX0 (k + 1) f fd ps (spD K dr W) := by
  refine FnG.by F S (fun vs H Q E h => ?_) (fun cdv A outer s H vs Q E hr gd h => ?_)
  · obtain ⟨G, ds, _, _, i, h⟩ := h
    rw [i.length]
    exact hlen _ _ h
  · obtain ⟨G, ds, e, dg, i, h⟩ := h
    refine ⟨_, PSs.nox (hb cdv A outer s H E ⟨G, H⟩ ds _ hr gd h), [], G, ⟨e, rfl, List.nodup_nil, fun k p ds h => by simp at h, dg, Ex.refl G, fun _ _ h _ => h, fun _ _ h => h, fun k p h => by simp at h⟩, env_start i, ?_, fun σ' H' q => ?_, fun v H' q => ?_, fun σ' H' q => ?_, fun σ' H' q => ?_⟩
    · unfold L2.start startR
      rw [List.length_append, List.length_append, List.length_map, List.length_map, List.length_replicate, List.length_replicate, i.length]
    · obtain ⟨ρ', om', τ', G', p, g, _, gr, _⟩ := q
      exact p .non G' H' .non gr.ex g.ex g.drg g.a2 g.a3
    · obtain ⟨d, om', τ', G', p, i', g, gr⟩ := q
      exact p v G' H' i' gr.ex g.ex g.drg g.a2 g.a3
    · obtain ⟨_, _, _, _, p, _⟩ := q
      exact p
    · obtain ⟨_, _, _, _, p, _⟩ := q
      exact p
theorem fn_len {n : Nat} (h : ps.length = n) (hW : ∀ ds Q, W ds Q → ds.length = n) : ∀ ds Q, W ds Q → ds.length = ps.length := fun ds Q q => (hW ds Q q).trans h.symm
end
theorem Good.call {K : PySem.W.Frag} {an : An} {dr : Option Dr} {om : Om} {τ : List Addr} {G H G' H' : Hp} (g : Good K an dr om τ G H) (e1 : Ex G G') (e2 : Ex G' H') (dg : DrG dr G' H') (k : ∀ a o, H a = some o → Off dr a → H' a = some o) (f : ∀ a, H a ≠ none → G a = none → G' a = none) : Good K an dr om τ G' H' where
  ex := e2
  len := g.len
  nd := g.nd
  own := fun j p ds h1 h2 => by
    obtain ⟨f1, f2, f3, vs, f4, f5⟩ := g.own j p ds h1 h2
    exact ⟨f p (by rw [f4]; exact fun z => nomatch z) f1, f2, f3, vs, k p _ f4 f3, f5.mono e1⟩
  drg := dg
  a1 := g.a1.trans e1
  a2 := fun a o h1 h2 => k a o (g.a2 a o h1 h2) h2
  a3 := fun a h1 h2 => f a (fun z => by
    cases e : an.H0 a with
    | none => exact h1 e
    | some o =>
      by_cases hof : Off dr a
      · rw [g.a2 a o e hof] at z; cases z
      · apply hof
        intro y hy
        obtain ⟨⟨gr, ce, re, tu, q1, q2, q3⟩, _⟩ := g.drg y hy
        exact ⟨(ne_of_none q1 z).symm, (ne_of_none q2 z).symm, (ne_of_none q3 z).symm⟩) (g.a3 a h1 h2)
  a4 := fun j p h1 => by
    obtain ⟨h0, o, h2⟩ := g.a4 j p h1
    exact ⟨h0, o, k p o h2 h0⟩
section
variable {X : Cx} {an : An} {dr : Option Dr} {ρ : Rho} {om : Om} {e e2 : Expr} {es : List Expr} {pos p : Pos} {Q : R → Om → Prop} {x : Str} {ps : List Str} {W : Wp} {k j : Nat}
theorem we_call (h : Has X.prog X.w X.K X.mg X.base dr k x ps W) (hr : Room j X.A) (gd : X.A.guards = some []) (hw : WA X an dr ρ om (e :: es) fun rs om1 => allV rs fun ds => W ds fun d => Q (.v d) om1) (hkj : k ≤ j := by decide) (hg : Gl X x := by rfl) (hdb : (x == ("__debug__" : Str)) = false := by decide)
    (he : starEach (e :: es) X.env = (false, eval e X.env) :: starEach es X.env := by rfl) (hpl : (backTo pos (starEach es X.env)).any (·.1) = false := by rfl) : WE X an dr ρ om (.Call (.Name x p) (e :: es) [] pos) Q := by
  obtain ⟨f, fd, F, hm, hk, hb⟩ := h.ex
  refine peI (pe_callG F (hr.mono hkj) gd hg hm hk hb pass0 (pa_u (an := an) (dr := dr)) hdb he hpl) fun σ H K' ⟨τ, G, g, n, k⟩ => uA_of hw g n fun vs rs om1 τ1 G1 H1 h1 w g1 gr1 n1 => ?_
  obtain ⟨ds, i, w⟩ := allV_is h1 w
  show spD X.K dr W (vs ++ []) H1 K' E0
  rw [List.append_nil]
  refine ⟨G1, ds, g1.ex, g1.drg, i, h.mono _ _ _ (fun d q v G' H' i' e1 e2 dg kk ff => ?_) w⟩
  exact k v _ om1 τ1 G' H' (.v i') q (g1.call e1 e2 dg kk ff) (gr1.trans ⟨e1, fun _ _ h => h⟩)
/-! ### built-ins -/
def rB (X : Cx) (F : Wp) : List V → Hp → VK → Prop := fun xs H Q => ∃ an dr om τ G rs, Good X.K an dr om τ G H ∧ Paired (IsR X.K G τ) xs rs ∧ F (rs.map (vw om)) (Fin X.K an dr om τ G Q)
theorem we_blt {id : String} {F : Wp} (hc : CallR X (.builtin id) (rB X F)) (hm : X.mg x = none) (hv : bootBuiltins x = some (.builtin id)) (mono : ∀ ds Q Q', (∀ d, Q d → Q' d) → F ds Q → F ds Q') (h : WA X an dr ρ om (e :: es) fun rs om1 => F (rs.map (vw om1)) fun d => Q (.v d) om1)
    (hg : Gl X x := by rfl) (hn : x ≠ "__name__" := by decide) (hdb : (x == ("__debug__" : Str)) = false := by decide) (he : starEach (e :: es) X.env = (false, eval e X.env) :: starEach es X.env := by rfl) (hpl : (backTo pos (starEach es X.env)).any (·.1) = false := by rfl) :
    WE X an dr ρ om (.Call (.Name x p) (e :: es) [] pos) Q :=
  peI (pe_callB hc hg hm hv (pa_u (an := an) (dr := dr)) hn hdb he hpl) fun σ H K' ⟨τ, G, g, n, k⟩ => uA_of h g n fun vs rs om1 τ1 G1 H1 h1 w g1 gr1 n1 =>
    ⟨an, dr, om1, τ1, G1, rs, g1, h1, mono _ _ _ (fun d q v G' H' i' g' gr' => k v _ om1 τ1 G' H' (.v i') q g' (gr1.trans gr')) w⟩
theorem we_bty {id : String} {F : Wp} (hc : CallR X (.type id) (rB X F)) (hm : X.mg x = none) (hv : bootBuiltins x = some (.type id)) (mono : ∀ ds Q Q', (∀ d, Q d → Q' d) → F ds Q → F ds Q') (h : WA X an dr ρ om (e :: es) fun rs om1 => F (rs.map (vw om1)) fun d => Q (.v d) om1)
    (hg : Gl X x := by rfl) (hn : x ≠ "__name__" := by decide) (hdb : (x == ("__debug__" : Str)) = false := by decide) (he : starEach (e :: es) X.env = (false, eval e X.env) :: starEach es X.env := by rfl) (hpl : (backTo pos (starEach es X.env)).any (·.1) = false := by rfl) :
    WE X an dr ρ om (.Call (.Name x p) (e :: es) [] pos) Q :=
  peI (pe_callTy hc hg hm hv (pa_u (an := an) (dr := dr)) hn hdb he hpl) fun σ H K' ⟨τ, G, g, n, k⟩ => uA_of h g n fun vs rs om1 τ1 G1 H1 h1 w g1 gr1 n1 =>
    ⟨an, dr, om1, τ1, G1, rs, g1, h1, mono _ _ _ (fun d q v G' H' i' g' gr' => k v _ om1 τ1 G' H' (.v i') q g' (gr1.trans gr')) w⟩
def lenF : Wp := fun ds K => match ds with
  | [.lst xs] => K (.int (xs.length : Nat))
  | [.tup xs] => K (.int (xs.length : Nat))
  | [.str z] => z.length ≤ sizeLine ∧ K (.int (z.length : Nat))
  | _ => False
def absF : Wp := fun ds K => match ds with
  | [.int i] => K (.int (if i < 0 then -i else i))
  | _ => False
def intF : Wp := fun ds K => match ds with
  | [.int i] => K (.int i)
  | _ => False
def minF : Wp := fun ds K => match ds with
  | [.int i, .int j] => K (.int (if j < i then j else i))
  | _ => False
def maxF : Wp := fun ds K => match ds with
  | [.int i, .int j] => K (.int (if j > i then j else i))
  | _ => False
def listF : Wp := fun ds K => match ds with
  | [.lst xs] => K (.lst xs)
  | [.tup xs] => K (.lst xs)
  | _ => False
def tupF : Wp := fun ds K => match ds with
  | [.lst xs] => K (.tup xs)
  | [.tup xs] => K (.tup xs)
  | _ => False
def sumF : Wp := fun ds K => match ds with
  | [.lst xs] => ∃ ns : List Int, xs = ns.map D.int ∧ K (.int ns.sum)
  | _ => False
def allF : Wp := fun ds K => match ds with
  | [.lst xs] => ∃ ns : List Bool, xs = ns.map D.bl ∧ K (.bl (ns.all id))
  | _ => False
def anyF : Wp := fun ds K => match ds with
  | [.lst xs] => ∃ ns : List Bool, xs = ns.map D.bl ∧ K (.bl (ns.any id))
  | _ => False
theorem one_arg {K : PySem.W.Frag} {G : Hp} {τ : List Addr} {xs : List V} {rs : List R} {d : D} {om : Om} (h : Paired (IsR K G τ) xs rs) (e : rs.map (vw om) = [d]) : ∃ v r, xs = [v] ∧ rs = [r] ∧ IsR K G τ v r ∧ vw om r = d := by
  cases h with
  | nil => simp at e
  | cons a t =>
    cases t with
    | nil => exact ⟨_, _, rfl, rfl, a, by simpa using e⟩
    | cons _ _ => simp at e
theorem two_args {K : PySem.W.Frag} {G : Hp} {τ : List Addr} {xs : List V} {rs : List R} {d d' : D} {om : Om} (h : Paired (IsR K G τ) xs rs) (e : rs.map (vw om) = [d, d']) : ∃ v r v' r', xs = [v, v'] ∧ rs = [r, r'] ∧ IsR K G τ v r ∧ vw om r = d ∧ IsR K G τ v' r' ∧ vw om r' = d' := by
  cases h with
  | nil => simp at e
  | cons a t =>
    cases t with
    | nil => simp at e
    | cons b t =>
      cases t with
      | nil =>
        simp at e
        exact ⟨_, _, _, _, rfl, rfl, a, e.1, b, e.2⟩
      | cons _ _ => simp at e
theorem ints_inv {K : PySem.W.Frag} {G : Hp} : ∀ {vs : List V} (ns : List Int), IsL K G vs (ns.map D.int) → vs = ns.map V.int
  | _, [], .nil => rfl
  | _, _ :: ns, .cons a t => by rw [ints_inv ns t, a.int_inv]; rfl
theorem bls_inv {K : PySem.W.Frag} {G : Hp} : ∀ {vs : List V} (ns : List Bool), IsL K G vs (ns.map D.bl) → vs = ns.map V.bl
  | _, [], .nil => rfl
  | _, _ :: ns, .cons a t => by rw [bls_inv ns t, a.bl_inv]; rfl
theorem strs_inv {K : PySem.W.Frag} {G : Hp} : ∀ {vs : List V} (ns : List Str), IsL K G vs (ns.map D.str) → vs = ns.map V.str
  | _, [], .nil => rfl
  | _, _ :: ns, .cons a t => by rw [strs_inv ns t, a.str_inv]; rfl
theorem cb_len : CallR X (.builtin "len") (rB X lenF) := by
  intro pins s σ H xs us Q I r h
  obtain ⟨an, dr, om, τ, G, rs, g, hp, h⟩ := h
  unfold lenF at h
  split at h
  · rename_i ds e
    obtain ⟨v, r0, rfl, rfl, i, ev⟩ := one_arg hp e
    obtain ⟨p, vs, rfl, hp, il⟩ := vw_lst g i ev
    exact call_len_seq pins s σ H _ us Q I r ⟨p, vs, rfl, .inl (.inl (.inl hp)), by rw [il.length]; exact h.flat g (.int _)⟩
  · rename_i ds e
    obtain ⟨v, r0, rfl, rfl, i, ev⟩ := one_arg hp e
    obtain ⟨p, vs, rfl, hp, il⟩ := vw_tup g i ev
    exact call_len_seq pins s σ H _ us Q I r ⟨p, vs, rfl, .inr hp, by rw [il.length]; exact h.flat g (.int _)⟩
  · rename_i z e
    obtain ⟨v, r0, rfl, rfl, i, ev⟩ := one_arg hp e
    obtain rfl := vw_str g i ev
    exact call_len_str pins s σ H _ us Q I r ⟨_, rfl, h.1, h.2.flat g (.int _)⟩
  · exact h.elim
theorem cb_abs : CallR X (.builtin "abs") (rB X absF) := by
  intro pins s σ H xs us Q I r h
  obtain ⟨an, dr, om, τ, G, rs, g, hp, h⟩ := h
  unfold absF at h
  split at h
  · rename_i z e
    obtain ⟨v, r0, rfl, rfl, i, ev⟩ := one_arg hp e
    obtain rfl := vw_int g i ev
    exact call_abs pins s σ H _ us Q I r ⟨_, rfl, h.flat g (.int _)⟩
  · exact h.elim
theorem cb_int : CallR X (.type "int") (rB X intF) := by
  intro pins s σ H xs us Q I r h
  obtain ⟨an, dr, om, τ, G, rs, g, hp, h⟩ := h
  unfold intF at h
  split at h
  · rename_i z e
    obtain ⟨v, r0, rfl, rfl, i, ev⟩ := one_arg hp e
    obtain rfl := vw_int g i ev
    exact call_int1 pins s σ H _ us Q I r (.inl ⟨_, rfl, h.flat g (.int _)⟩)
  · exact h.elim
theorem cb_min (hc : X.calm = true) : CallR X (.builtin "min") (rB X minF) := by
  intro pins s σ H xs us Q I r h
  obtain ⟨an, dr, om, τ, G, rs, g, hp, h⟩ := h
  unfold minF at h
  split at h
  · rename_i z z' e
    obtain ⟨v, r0, v', r1, rfl, rfl, i, ev, i', ev'⟩ := two_args hp e
    obtain rfl := vw_int g i ev
    obtain rfl := vw_int g i' ev'
    exact call_min2 hc pins s σ H _ us Q I r ⟨_, _, rfl, h.flat g (.int _)⟩
  · exact h.elim
theorem cb_max (hc : X.calm = true) : CallR X (.builtin "max") (rB X maxF) := by
  intro pins s σ H xs us Q I r h
  obtain ⟨an, dr, om, τ, G, rs, g, hp, h⟩ := h
  unfold maxF at h
  split at h
  · rename_i z z' e
    obtain ⟨v, r0, v', r1, rfl, rfl, i, ev, i', ev'⟩ := two_args hp e
    obtain rfl := vw_int g i ev
    obtain rfl := vw_int g i' ev'
    exact call_max2 hc pins s σ H _ us Q I r ⟨_, _, rfl, h.flat g (.int _)⟩
  · exact h.elim
theorem cb_list : CallR X (.type "list") (rB X listF) := by
  intro pins s σ H xs us Q I r h
  obtain ⟨an, dr, om, τ, G, rs, g, hp, h⟩ := h
  unfold listF at h
  split at h
  · rename_i ds e
    obtain ⟨v, r0, rfl, rfl, i, ev⟩ := one_arg hp e
    obtain ⟨p, vs, rfl, hp, il⟩ := vw_lst g i ev
    exact call_list_of pins s σ H _ us Q I r ⟨p, vs, rfl, .inl (.inl (.inl hp)), fun l hl => h.lst g il l hl⟩
  · rename_i ds e
    obtain ⟨v, r0, rfl, rfl, i, ev⟩ := one_arg hp e
    obtain ⟨p, vs, rfl, hp, il⟩ := vw_tup g i ev
    exact call_list_of pins s σ H _ us Q I r ⟨p, vs, rfl, .inr hp, fun l hl => h.lst g il l hl⟩
  · exact h.elim
theorem cb_tup : CallR X (.type "tuple") (rB X tupF) := by
  intro pins s σ H xs us Q I r h
  obtain ⟨an, dr, om, τ, G, rs, g, hp, h⟩ := h
  unfold tupF at h
  split at h
  · rename_i ds e
    obtain ⟨v, r0, rfl, rfl, i, ev⟩ := one_arg hp e
    obtain ⟨p, vs, rfl, hp, il⟩ := vw_lst g i ev
    exact call_tuple_of pins s σ H _ us Q I r ⟨p, vs, rfl, .inl ⟨.inl (.inl hp), fun l hl => h.tup g il l hl⟩⟩
  · rename_i ds e
    obtain ⟨v, r0, rfl, rfl, i, ev⟩ := one_arg hp e
    have n1 := vw_not g i ev (fun _ z => nomatch z) (fun z => nomatch z)
    obtain ⟨p, vs, rfl, hp, il⟩ := vw_tup g i ev
    exact call_tuple_of pins s σ H _ us Q I r ⟨p, vs, rfl, .inr ⟨hp, h.flat g n1⟩⟩
  · exact h.elim
theorem cb_sum (hc : X.calm = true) : CallR X (.builtin "sum") (rB X sumF) := by
  intro pins s σ H xs us Q I r h
  obtain ⟨an, dr, om, τ, G, rs, g, hp, h⟩ := h
  unfold sumF at h
  split at h
  · rename_i ds e
    obtain ⟨v, r0, rfl, rfl, i, ev⟩ := one_arg hp e
    obtain ⟨p, vs, rfl, hp, il⟩ := vw_lst g i ev
    obtain ⟨ns, rfl, h⟩ := h
    obtain rfl := ints_inv ns il
    exact cr_sum hc pins s σ H _ us Q I r ⟨p, ns, rfl, .inl (.inl hp), h.flat g (.int _)⟩
  · exact h.elim
theorem cb_all (hc : X.calm = true) : CallR X (.builtin "all") (rB X allF) := by
  intro pins s σ H xs us Q I r h
  obtain ⟨an, dr, om, τ, G, rs, g, hp, h⟩ := h
  unfold allF at h
  split at h
  · rename_i ds e
    obtain ⟨v, r0, rfl, rfl, i, ev⟩ := one_arg hp e
    obtain ⟨p, vs, rfl, hp, il⟩ := vw_lst g i ev
    obtain ⟨ns, rfl, h⟩ := h
    obtain rfl := bls_inv ns il
    exact cr_all hc pins s σ H _ us Q I r ⟨p, ns, rfl, .inl (.inl hp), h.flat g (.bl _)⟩
  · exact h.elim
theorem cb_any (hc : X.calm = true) : CallR X (.builtin "any") (rB X anyF) := by
  intro pins s σ H xs us Q I r h
  obtain ⟨an, dr, om, τ, G, rs, g, hp, h⟩ := h
  unfold anyF at h
  split at h
  · rename_i ds e
    obtain ⟨v, r0, rfl, rfl, i, ev⟩ := one_arg hp e
    obtain ⟨p, vs, rfl, hp, il⟩ := vw_lst g i ev
    obtain ⟨ns, rfl, h⟩ := h
    obtain rfl := bls_inv ns il
    exact cr_any hc pins s σ H _ us Q I r ⟨p, ns, rfl, .inl (.inl hp), h.flat g (.bl _)⟩
  · exact h.elim
end
end DL

namespace DL
open PySem L2
/-! ### isinstance -/
def tyN : D → Option String
  | .non => some "NoneType" | .bl _ => some "bool" | .int _ => some "int" | .str _ => some "str" | .lst _ => some "list" | .tup _ => some "tuple" | .dic _ => some "dict" | _ => none
def isT (x : D) (T : String) : Bool := match x with
  | .non => false
  | .bl _ => T == "bool" || T == "int"
  | .int _ => T == "int"
  | .str _ => T == "str"
  | .lst _ => T == "list"
  | .tup _ => T == "tuple"
  | .dic _ => T == "dict"
  | _ => false
def Kn (T : String) : Prop := T = "int" ∨ T = "bool" ∨ T = "str" ∨ T = "list" ∨ T = "tuple" ∨ T = "dict"
theorem kit_known {x : D} {n T : String} (h : tyN x = some n) (k : Kn T) : kitB n T = some (isT x T) := by
  cases x <;> simp only [tyN, Option.some.injEq, reduceCtorEq] at h <;> subst h <;> rcases k with rfl | rfl | rfl | rfl | rfl | rfl <;> simp only [isT] <;> decide +kernel
def isAny (x : D) : List D → Bool
  | [] => false
  | .ty T :: r => isT x T || isAny x r
  | _ :: r => isAny x r
def KnAll : List D → Prop
  | [] => True
  | .ty T :: r => Kn T ∧ KnAll r
  | _ => False
def isiF : Wp := fun ds K => match ds with
  | [x, .ty T] => (tyN x).isSome = true ∧ Kn T ∧ K (.bl (isT x T))
  | [x, .tup ts] => (tyN x).isSome = true ∧ KnAll ts ∧ K (.bl (isAny x ts))
  | _ => False
section
variable {X : Cx} {an : An} {dr : Option Dr} {ρ : Rho} {om : Om} {e e2 o : Expr} {es : List Expr} {pos p : Pos} {Q : R → Om → Prop} {τ : List Addr} {G H : Hp}
theorem vw_ty {K : PySem.W.Frag} {v : V} {r : R} {d : D} {n : String} (g : Good K an dr om τ G H) (h : IsR K G τ v r) (e : vw om r = d) (t : tyN d = some n) : TyX K H v (.type n) := by
  cases d with
  | lst ds =>
    obtain ⟨p, vs, rfl, hp, _⟩ := vw_lst g h e
    cases t
    exact .base (.lst hp)
  | tup ds =>
    obtain ⟨p, vs, rfl, hp, _⟩ := vw_tupH g h e
    cases t
    exact .base (.tup hp)
  | dic ds =>
    have z := vw_not g h e (fun _ z => nomatch z) (fun z => nomatch z)
    cases t
    cases z with
    | dic hp _ =>
      rcases hp with hp | ⟨ob, hp⟩
      · exact .base (.dK (g.ex _ _ hp))
      · exact .fDict (g.ex _ _ hp)
  | non =>
    obtain rfl := (vw_not g h e (fun _ z => nomatch z) (fun z => nomatch z)).non_inv
    cases t
    exact .base .non
  | bl b =>
    obtain rfl := vw_bl g h e
    cases t
    exact .base (.bl _)
  | int b =>
    obtain rfl := vw_int g h e
    cases t
    exact .base (.int _)
  | str b =>
    obtain rfl := vw_str g h e
    cases t
    exact .base (.str _)
  | obj b => cases t
  | ty b => cases t
  | dead => cases t
theorem kn_all {K : PySem.W.Frag} {n : String} {x : D} (t : tyN x = some n) : ∀ {vs : List V} {ts : List D}, IsL K G vs ts → KnAll ts → ∃ us, Paired ClsV vs us ∧ PySem.W.kitAny K (.type n) us = some (isAny x ts)
  | _, _, .nil, _ => ⟨[], .nil, rfl⟩
  | _, _, .cons (.ty T) q, k => by
    obtain ⟨us, h1, h2⟩ := kn_all t q k.2
    refine ⟨_, .cons (.ty T) h1, kitAny_cons (kit_ty (kit_known t k.1)) (fun z => ?_) fun z => ?_⟩
    · rw [h2]; simp only [isAny]; rw [z]; rfl
    · simp only [isAny]; rw [z]; rfl
  | _, _, .cons .non _, k => k.elim
  | _, _, .cons (.bl _) _, k => k.elim
  | _, _, .cons (.int _) _, k => k.elim
  | _, _, .cons (.str _) _, k => k.elim
  | _, _, .cons (.lst _ _) _, k => k.elim
  | _, _, .cons (.tup _ _) _, k => k.elim
  | _, _, .cons (.dic _ _) _, k => k.elim
  | _, _, .cons (.obj _) _, k => k.elim
theorem cb_isi : CallR X (.builtin "isinstance") (rB X isiF) := by
  intro pins s σ H xs us Q I r h
  obtain ⟨an, dr, om, τ, G, rs, g, hp, h⟩ := h
  unfold isiF at h
  split at h
  · rename_i x T e
    obtain ⟨v, r0, v', r1, rfl, rfl, i, ev, i', ev'⟩ := two_args hp e
    obtain ⟨n, hn⟩ := Option.isSome_iff_exists.mp h.1
    have i2 := vw_not g i' ev' (fun _ z => nomatch z) (fun z => nomatch z)
    cases i2
    exact call_isi pins s σ H _ us Q I r ⟨v, .ty T, .type n, .type T, _, rfl, .ty T, vw_ty g i ev hn, kit_ty (kit_known hn h.2.1), h.2.2.flat g (.bl _)⟩
  · rename_i x ts e
    obtain ⟨v, r0, v', r1, rfl, rfl, i, ev, i', ev'⟩ := two_args hp e
    obtain ⟨n, hn⟩ := Option.isSome_iff_exists.mp h.1
    obtain ⟨p, vs, rfl, hp, il⟩ := vw_tupH g i' ev'
    obtain ⟨us', k1, k2⟩ := kn_all (K := X.K) hn il h.2.1
    exact call_isiT pins s σ H _ us Q I r ⟨v, p, vs, .type n, us', _, rfl, hp, k1, vw_ty g i ev hn, k2, h.2.2.flat g (.bl _)⟩
  · exact h.elim
end
end DL

namespace DL
open PySem L2
/-! ### repr -/
def shw (d : D) : Str := (toP d).shown
def rprF : Wp := fun ds K => match ds with
  | [.lst xs] => (toP (.lst xs)).showable = true ∧ shp (.lst xs) ∧ (shw (.lst xs)).length ≤ sizeLine ∧ K (.str (shw (.lst xs)))
  | [.tup xs] => (toP (.tup xs)).showable = true ∧ shp (.tup xs) ∧ (shw (.tup xs)).length ≤ sizeLine ∧ K (.str (shw (.tup xs)))
  | [.bl b] => K (.str (if b then "True" else "False"))
  | [.non] => K (.str "None")
  | [.int i] => i.natAbs.log2 < 1920 ∧ K (.str (toString i))
  | [.str x] => (reprText x).length ≤ sizeLine ∧ K (.str (reprText x))
  | _ => False
section
variable {X : Cx}
theorem repr_ref {pins : List (Addr × Obj)} {s : Shared} {σ : L2.St} {H : Hp} {Q : VK} {a : Addr} {d : D} (gd : X.A.guards = some []) (hu : X.A.units + 66 < cLine) (I : Inv X pins σ H s) (h1 : (toP d).showable = true) (h2 : shp d) (h3 : (shw d).length ≤ sizeLine) (dp : Dp X.K H (.ref a) (toP d)) (q : Q (.str (shw d)) H) :
    wpAny (model X.prog X.w) X.A (call (.builtin "repr") [.ref a]) (EP X pins σ Q) X.xe s := by
  obtain ⟨as, rd⟩ := Dp.reads I _ _ (.ref a) dp rfl
  have nd := PyData.hasDict_of_canLay _ (SeqAt.canLay_of_shaped h2)
  have dd := SeqAt.depth_of_shaped h2
  refine PySem.repr_of_reads' rd h1 (fun z => by rw [nd] at z; cases z) gd (by omega) (fun _ _ e => e) (fun h' u tk hk => ?_) h3
  exact ⟨.str _, H, I.kept (t' := tk) hk, ⟨u, rfl⟩, q⟩
theorem cb_repr (gd : X.A.guards = some []) (hu : X.A.units + 66 < cLine) : CallR X (.builtin "repr") (rB X rprF) := by
  intro pins s σ H xs us Q I r h
  obtain ⟨an, dr, om, τ, G, rs, g, hp, h⟩ := h
  unfold rprF at h
  split at h
  · rename_i ds e
    obtain ⟨v, r0, rfl, rfl, i, ev⟩ := one_arg hp e
    have dp := vw_dp g i ev h.2.1
    obtain ⟨p, vs, rfl, _, _⟩ := vw_lst g i ev
    cases r with
    | cons r rr =>
      cases rr
      cases r
      exact repr_ref gd hu I h.1 h.2.1 h.2.2.1 dp (h.2.2.2.flat g (.str _))
  · rename_i ds e
    obtain ⟨v, r0, rfl, rfl, i, ev⟩ := one_arg hp e
    have dp := vw_dp g i ev h.2.1
    obtain ⟨p, vs, rfl, _, _⟩ := vw_tup g i ev
    cases r with
    | cons r rr =>
      cases rr
      cases r
      exact repr_ref gd hu I h.1 h.2.1 h.2.2.1 dp (h.2.2.2.flat g (.str _))
  · rename_i ds e
    obtain ⟨v, r0, rfl, rfl, i, ev⟩ := one_arg hp e
    obtain rfl := vw_bl g i ev
    cases r with
    | cons r rr =>
      cases rr
      cases r
      exact PySem.P.repr_of_bool ⟨.str _, H, I.tok _, ⟨_, rfl⟩, h.flat g (.str _)⟩
  · rename_i e
    obtain ⟨v, r0, rfl, rfl, i, ev⟩ := one_arg hp e
    obtain rfl := (vw_not g i ev (fun _ z => nomatch z) (fun z => nomatch z)).non_inv
    cases r with
    | cons r rr =>
      cases rr
      cases r
      exact PySem.P.repr_of_none ⟨.str _, H, I.tok _, ⟨_, rfl⟩, h.flat g (.str _)⟩
  · rename_i ds e
    obtain ⟨v, r0, rfl, rfl, i, ev⟩ := one_arg hp e
    obtain rfl := vw_int g i ev
    cases r with
    | cons r rr =>
      cases rr
      obtain ⟨t, rfl⟩ := r
      exact PySem.P.repr_of_int h.1 ⟨.str _, H, I.tok _, ⟨_, rfl⟩, h.2.flat g (.str _)⟩
  · rename_i ds e
    obtain ⟨v, r0, rfl, rfl, i, ev⟩ := one_arg hp e
    obtain rfl := vw_str g i ev
    cases r with
    | cons r rr =>
      cases rr
      obtain ⟨t, rfl⟩ := r
      exact PySem.P.repr_of_str ⟨.str _, H, I.tok _, ⟨_, rfl⟩, h.2.flat g (.str _)⟩ h.1
  · exact h.elim
/-! ### subscripts -/
def ixD (x y : D) (K : D → Prop) : Prop := match x, y with
  | .lst xs, .int i => ∃ d, atI xs i = some d ∧ K d
  | .tup xs, .int i => ∃ d, atI xs i = some d ∧ K d
  | .str z, .int i => z.length ≤ sizeLine ∧ ∃ c, atI z.cps.toList i = some c ∧ K (.str ⟨#[c]⟩)
  | _, _ => False
theorem atI_is {K : PySem.W.Frag} {G : Hp} {vs : List V} {ds : List D} {i : Int} {d : D} (h : IsL K G vs ds) (e : atI ds i = some d) : ∃ v, atI vs i = some v ∧ Is K G v d := by
  unfold atI at e ⊢
  rw [h.length]
  cases q : ixN ds.length i with
  | none => rw [q] at e; cases e
  | some j =>
    rw [q] at e
    exact h.get e
def rIxD (X : Cx) : R2 := fun x y H Q => ∃ an dr om τ G ra rb, Good X.K an dr om τ G H ∧ IsR X.K G τ x ra ∧ IsR X.K G τ y rb ∧ ixD (vw om ra) (vw om rb) (Fin X.K an dr om τ G Q)
theorem ix_D : IxR X (rIxD X) := by
  intro ea eb pins s σ H x y v u Q I rx ry h hs
  refine ix_seq ea eb pins s σ H x y v u Q I rx ry ?_ hs
  obtain ⟨an, dr, om, τ, G, ra, rb, g, ha, hb, h⟩ := h
  unfold ixD at h
  split at h
  · rename_i xs i e1 e2
    obtain ⟨p, vs, rfl, hp, il⟩ := vw_lst g ha e1
    obtain rfl := vw_int g hb e2
    obtain ⟨d, ed, h⟩ := h
    obtain ⟨w, ew, iw⟩ := atI_is il ed
    exact .inl ⟨p, vs, i, w, rfl, rfl, .inl (.inl hp), ew, h.flat g iw⟩
  · rename_i xs i e1 e2
    obtain ⟨p, vs, rfl, hp, il⟩ := vw_tup g ha e1
    obtain rfl := vw_int g hb e2
    obtain ⟨d, ed, h⟩ := h
    obtain ⟨w, ew, iw⟩ := atI_is il ed
    exact .inr (.inl ⟨p, vs, i, w, rfl, rfl, hp, ew, h.flat g iw⟩)
  · rename_i z i e1 e2
    obtain rfl := vw_str g ha e1
    obtain rfl := vw_int g hb e2
    obtain ⟨hz, c, ec, h⟩ := h
    exact .inr (.inr ⟨z, i, c, rfl, rfl, hz, ec, h.flat g (.str _)⟩)
  · exact h.elim
theorem ixD_imp {x y : D} {P P' : D → Prop} (h : ixD x y P) (i : ∀ d, P d → P' d) : ixD x y P' := by
  unfold ixD at h ⊢
  split at h
  · obtain ⟨d, e, h⟩ := h; exact ⟨d, e, i _ h⟩
  · obtain ⟨d, e, h⟩ := h; exact ⟨d, e, i _ h⟩
  · obtain ⟨z, d, e, h⟩ := h; exact ⟨z, d, e, i _ h⟩
  · exact h.elim
variable {an : An} {dr : Option Dr} {ρ : Rho} {om : Om} {e a b o : Expr} {es : List Expr} {pos p : Pos} {Q : R → Om → Prop}
theorem we_ix (h : WE X an dr ρ om a fun ra om1 => WE X an dr ρ om1 b fun rb om2 => ixD (vw om2 ra) (vw om2 rb) fun d => Q (.v d) om2) (hs : PlainIx b := by exact fun _ _ => rfl) : WE X an dr ρ om (.Subscript a b pos) Q :=
  peI (pe_ix ix_D (pe_u (an := an) (dr := dr)) (pe_u (an := an) (dr := dr)) hs) fun σ H K' ⟨τ, G, g, n, k⟩ =>
    uE_of h g n fun v r om1 τ1 G1 H1 h1 w g1 gr1 n1 => uE_of w g1 n1 fun v2 r2 om2 τ2 G2 H2 h2 q g2 gr2 n2 =>
      ⟨an, dr, om2, τ2, G2, r, r2, g2, h1.mono gr2, h2, ixD_imp q fun d q v' G' H' i' g' gr' => k v' _ om2 τ2 G' H' (.v i') q g' ((gr1.trans gr2).trans gr')⟩
/-! ### slices -/
def cutD (xs : List D) (lo hi : Option Int) : List D := (xs.drop (HT.sIx xs.length 0 lo)).take (HT.sIx xs.length xs.length hi - HT.sIx xs.length 0 lo)
def slD (x : D) (lo hi : Option Int) (K : D → Prop) : Prop := match x with
  | .lst xs => K (.lst (cutD xs lo hi))
  | .tup xs => K (.tup (cutD xs lo hi))
  | .str z => z.length ≤ sizeLine ∧ K (.str (cutS z lo hi))
  | _ => False
theorem cut_is {K : PySem.W.Frag} {G : Hp} {vs : List V} {ds : List D} {lo hi : Option Int} (h : IsL K G vs ds) : IsL K G (cutV vs lo hi) (cutD ds lo hi) := by
  unfold cutV cutD
  rw [h.length]
  exact (h.drop _).take _
def rSlD (X : Cx) : V → Option Int → Option Int → Hp → VK → Prop := fun x lo hi H Q => ∃ an dr om τ G ra, Good X.K an dr om τ G H ∧ IsR X.K G τ x ra ∧ slD (vw om ra) lo hi (Fin X.K an dr om τ G Q)
theorem sl_D : SlR X (rSlD X) := by
  intro pins s σ H x v vl vu lo hi sl Q I rx hs pl pu q
  refine (SlR.or (SlR.or sl_list sl_tupA) sl_str) pins s σ H x v vl vu lo hi sl Q I rx hs pl pu ?_
  obtain ⟨an, dr, om, τ, G, ra, g, ha, h⟩ := q
  unfold slD at h
  split at h
  · rename_i xs e1
    obtain ⟨p, vs, rfl, hp, il⟩ := vw_lst g ha e1
    exact .inl (.inl ⟨p, vs, rfl, .inl (.inl hp), fun l hl => h.lst g (cut_is il) l hl⟩)
  · rename_i xs e1
    have n1 := vw_not g ha e1 (fun _ z => nomatch z) (fun z => nomatch z)
    obtain ⟨p, vs, rfl, hp, il⟩ := vw_tup g ha e1
    refine .inl (.inr ⟨p, vs, rfl, hp, fun z => ?_, fun _ l hl => h.tup g (cut_is il) l hl⟩)
    have e : cutD xs lo hi = xs := by
      unfold cutD
      rw [← il.length, z.1, z.2, il.length]
      simp
    rw [e] at h
    exact h.flat g n1
  · rename_i z e1
    obtain rfl := vw_str g ha e1
    exact .inr ⟨z, rfl, h.1, h.2.flat g (.str _)⟩
  · exact h.elim
theorem slD_imp {x : D} {lo hi : Option Int} {P P' : D → Prop} (h : slD x lo hi P) (i : ∀ d, P d → P' d) : slD x lo hi P' := by
  unfold slD at h ⊢
  split at h
  all_goals first | exact h.elim | exact i _ h | exact ⟨h.1, i _ h.2⟩
/-- a part of a slice -/
def WO (X : Cx) (an : An) (dr : Option Dr) (ρ : Rho) (om : Om) (e : Option Expr) (Q : Option Int → Om → Prop) : Prop := match e with
  | none => Q none om
  | some e => WE X an dr ρ om e fun r om1 => intR r fun i => Q (some i) om1
def uO (X : Cx) (an : An) (dr : Option Dr) (e : Option Expr) : TO := fun σ H K' => ∃ ρ om Q τ G, WO X an dr ρ om e Q ∧ Good X.K an dr om τ G H ∧ EnvIs X.K G τ σ ρ ∧ ∀ i om' τ' G' H', Q i om' → Good X.K an dr om' τ' G' H' → Grow G τ G' τ' → K' i H'
theorem po_u {e : Option Expr} : PO X e (uO X an dr e) := by
  cases e with
  | none => exact ⟨fun pins s σ H K' I ⟨ρ, om, Q, τ, G, w, g, n, k⟩ => po_none.run pins s σ H K' I (k none om τ G H w g (Grow.refl G τ))⟩
  | some e =>
    refine ⟨fun pins s σ H K' I ⟨ρ, om, Q, τ, G, w, g, n, k⟩ => (po_some (pe_u (an := an) (dr := dr))).run pins s σ H K' I ?_⟩
    exact uE_of w g n fun v r om1 τ1 G1 H1 h1 w1 g1 gr1 n1 => by
      obtain ⟨i, rfl, _, w1⟩ := intR_is h1 w1
      exact ⟨i, rfl, k _ om1 τ1 G1 H1 w1 g1 gr1⟩
theorem we_sl {lo hi : Option Expr} {p2 : Pos} (h : WE X an dr ρ om a fun ra om1 => WO X an dr ρ om1 lo fun l om2 => WO X an dr ρ om2 hi fun u om3 => slD (vw om3 ra) l u fun d => Q (.v d) om3) : WE X an dr ρ om (.Subscript a (.Slice lo hi none p2) pos) Q :=
  peI (pe_slice sl_D (pe_u (an := an) (dr := dr)) (po_u (an := an) (dr := dr)) (po_u (an := an) (dr := dr))) fun σ H K' ⟨τ, G, g, n, k⟩ =>
    uE_of h g n fun v r om1 τ1 G1 H1 h1 w g1 gr1 n1 => ⟨ρ, om1, _, τ1, G1, w, g1, n1, fun l om2 τ2 G2 H2 w2 g2 gr2 => ⟨ρ, om2, _, τ2, G2, w2, g2, n1.mono gr2, fun u om3 τ3 G3 H3 w3 g3 gr3 =>
      ⟨an, dr, om3, τ3, G3, r, g3, h1.mono (gr2.trans gr3), slD_imp w3 fun d q v' G' H' i' g' gr' => k v' _ om3 τ3 G' H' (.v i') q g' (((gr1.trans gr2).trans gr3).trans gr')⟩⟩⟩
/-! ### methods of lists of one's own -/
theorem tyV_l {K : PySem.W.Frag} {H : Hp} {q : Addr} {vs : List V} (h : H q = some (.lst vs)) : tyV K "list" (.ref q) H := .inl ⟨rfl, vs, .inl (.inl h)⟩
/-- xs.append(e) -/
theorem we_append {apos : Pos} (h : WE X an dr ρ om o fun ro om1 => ∃ k, ro = .o k ∧ (∃ ds, om1[k]? = some (some ds)) ∧ WE X an dr ρ om1 e fun r om2 => ∃ d ds, r = .v d ∧ om2[k]? = some (some ds) ∧ ds.length < sizeLine ∧ Q (.v .non) (om2.set k (some (ds ++ [d]))))
    (hbase : attributeBase o "append" X.env (eval o X.env) = eval o X.env := by rfl) (hfew : ((backTo pos (starEach [e] X.env)).all (fun x => !x.1) && (backToKw pos (keywordEach [] X.env)).all (fun x => x.1.isSome)
      && decide ([e].length + ([] : List Keyword).length + (if ([] : List Keyword).isEmpty then 0 else 1) < 30)) = true := by rfl)
    (hline : (apos.endLine == pos.line) = true := by rfl) (hs : starEach [e] X.env = (false, eval e X.env) :: starEach [] X.env := by rfl) (hpl : (backTo pos (starEach [] X.env)).any (·.1) = false := by rfl) :
    WE X an dr ρ om (.Call (.Attribute o "append" apos) [e] [] pos) Q :=
  peI (pe_bm PySem.F.plainAttrs_list PySem.F.slot_list_append PySem.F.type_list_append mt_append (pe_u (an := an) (dr := dr)) (pa_cons (pe_u (an := an) (dr := dr)) pa_nil hs) hbase hfew hline hs hpl) fun σ H K' ⟨τ, G, g, n, kk⟩ =>
    uE_of h g n fun v r om1 τ1 G1 H1 h1 w g1 gr1 n1 => by
      obtain ⟨k, rfl, ⟨ds1, ho1⟩, w⟩ := w
      cases h1 with
      | @o a _ h1 =>
        obtain ⟨_, _, _, vs1, e1, _⟩ := g1.own k a ds1 h1 ho1
        refine ⟨tyV_l e1, uE_of w g1 n1 fun v2 r2 om2 τ2 G2 H2 h2 w2 g2 gr2 n2 => ?_⟩
        obtain ⟨d, ds, rfl, ho, hz, q⟩ := w2
        have hk := gr2.pre _ _ h1
        obtain ⟨_, _, _, vs, e4, e5⟩ := g2.own k a ds hk ho
        cases h2 with
        | v h2 => exact ⟨a, vs, v2, rfl, rfl, e4, by rw [e5.length]; exact hz, kk _ _ _ τ2 G2 _ (.v .non) q (g2.write hk ho (e5.append (.cons h2 .nil))) (gr1.trans gr2)⟩
/-- xs.pop(e) -/
theorem we_popAt {apos : Pos} (h : WE X an dr ρ om o fun ro om1 => ∃ k, ro = .o k ∧ (∃ ds, om1[k]? = some (some ds)) ∧ WE X an dr ρ om1 e fun r om2 => ∃ (i : Nat) (d : D) (ds : List D), r = .v (.int i) ∧ om2[k]? = some (some ds) ∧ ds.length ≤ 1000000 ∧ ds[i]? = some d ∧ Q (.v d) (om2.set k (some (ds.eraseIdx i))))
    (hbase : attributeBase o "pop" X.env (eval o X.env) = eval o X.env := by rfl) (hfew : ((backTo pos (starEach [e] X.env)).all (fun x => !x.1) && (backToKw pos (keywordEach [] X.env)).all (fun x => x.1.isSome)
      && decide ([e].length + ([] : List Keyword).length + (if ([] : List Keyword).isEmpty then 0 else 1) < 30)) = true := by rfl)
    (hline : (apos.endLine == pos.line) = true := by rfl) (hs : starEach [e] X.env = (false, eval e X.env) :: starEach [] X.env := by rfl) (hpl : (backTo pos (starEach [] X.env)).any (·.1) = false := by rfl) :
    WE X an dr ρ om (.Call (.Attribute o "pop" apos) [e] [] pos) Q :=
  peI (pe_bm PySem.F.plainAttrs_list PySem.F.slot_list_pop PySem.F.type_list_pop mt_popAt (pe_u (an := an) (dr := dr)) (pa_cons (pe_u (an := an) (dr := dr)) pa_nil hs) hbase hfew hline hs hpl) fun σ H K' ⟨τ, G, g, n, kk⟩ =>
    uE_of h g n fun v r om1 τ1 G1 H1 h1 w g1 gr1 n1 => by
      obtain ⟨k, rfl, ⟨ds1, ho1⟩, w⟩ := w
      cases h1 with
      | @o a _ h1 =>
        obtain ⟨_, _, _, vs1, e1, _⟩ := g1.own k a ds1 h1 ho1
        refine ⟨tyV_l e1, uE_of w g1 n1 fun v2 r2 om2 τ2 G2 H2 h2 w2 g2 gr2 n2 => ?_⟩
        obtain ⟨i, d, ds, rfl, ho, hz, hd, q⟩ := w2
        have hk := gr2.pre _ _ h1
        obtain ⟨_, _, _, vs, e4, e5⟩ := g2.own k a ds hk ho
        obtain ⟨y, hy, iy⟩ := e5.get hd
        have hlt : i < ds.length := (List.getElem?_eq_some_iff.mp hd).1
        cases h2 with
        | v h2 =>
          obtain rfl := h2.int_inv
          refine ⟨a, vs, (i : Int), i, y, rfl, rfl, e4, by omega, by omega, ?_, hy, kk _ _ _ τ2 G2 _ (.v iy) q (g2.write hk ho (e5.erase i)) (gr1.trans gr2)⟩
          exact seqIndex_of (by omega) (by rw [e5.length]; omega)
end
end DL

namespace DL
open PySem L2
theorem ifE {t : Bool} {A B : Prop} (h1 : t = true → A) (h2 : t = false → B) : if t = true then A else B := by
  cases t
  · rw [if_neg Bool.false_ne_true]; exact h2 rfl
  · rw [if_pos rfl]; exact h1 rfl
theorem ifT {t : Bool} {A B : Prop} (e : t = true) (h : A) : if t = true then A else B := by rw [if_pos e]; exact h
theorem ifF {t : Bool} {A B : Prop} (e : t = false) (h : B) : if t = true then A else B := by rw [if_neg (by rw [e]; exact Bool.false_ne_true)]; exact h
theorem isiF_mono : ∀ ds Q Q', (∀ d, Q d → Q' d) → isiF ds Q → isiF ds Q' := fun ds Q Q' i h => by
  unfold isiF at h ⊢
  split at h
  · exact ⟨h.1, h.2.1, i _ h.2.2⟩
  · exact ⟨h.1, h.2.1, i _ h.2.2⟩
  · exact h.elim
theorem lenF_mono : ∀ ds Q Q', (∀ d, Q d → Q' d) → lenF ds Q → lenF ds Q' := fun ds Q Q' i h => by
  unfold lenF at h ⊢
  split at h
  all_goals first | exact h.elim | exact i _ h | exact ⟨h.1, i _ h.2⟩
theorem absF_mono : ∀ ds Q Q', (∀ d, Q d → Q' d) → absF ds Q → absF ds Q' := fun ds Q Q' i h => by
  unfold absF at h ⊢
  split at h
  all_goals first | exact h.elim | exact i _ h
theorem intF_mono : ∀ ds Q Q', (∀ d, Q d → Q' d) → intF ds Q → intF ds Q' := fun ds Q Q' i h => by
  unfold intF at h ⊢
  split at h
  all_goals first | exact h.elim | exact i _ h
theorem minF_mono : ∀ ds Q Q', (∀ d, Q d → Q' d) → minF ds Q → minF ds Q' := fun ds Q Q' i h => by
  unfold minF at h ⊢
  split at h
  all_goals first | exact h.elim | exact i _ h
theorem maxF_mono : ∀ ds Q Q', (∀ d, Q d → Q' d) → maxF ds Q → maxF ds Q' := fun ds Q Q' i h => by
  unfold maxF at h ⊢
  split at h
  all_goals first | exact h.elim | exact i _ h
theorem listF_mono : ∀ ds Q Q', (∀ d, Q d → Q' d) → listF ds Q → listF ds Q' := fun ds Q Q' i h => by
  unfold listF at h ⊢
  split at h
  all_goals first | exact h.elim | exact i _ h
theorem tupF_mono : ∀ ds Q Q', (∀ d, Q d → Q' d) → tupF ds Q → tupF ds Q' := fun ds Q Q' i h => by
  unfold tupF at h ⊢
  split at h
  all_goals first | exact h.elim | exact i _ h
theorem sumF_mono : ∀ ds Q Q', (∀ d, Q d → Q' d) → sumF ds Q → sumF ds Q' := fun ds Q Q' i h => by
  unfold sumF at h ⊢
  split at h
  · obtain ⟨n, e, h⟩ := h; exact ⟨n, e, i _ h⟩
  · exact h.elim
theorem allF_mono : ∀ ds Q Q', (∀ d, Q d → Q' d) → allF ds Q → allF ds Q' := fun ds Q Q' i h => by
  unfold allF at h ⊢
  split at h
  · obtain ⟨n, e, h⟩ := h; exact ⟨n, e, i _ h⟩
  · exact h.elim
theorem anyF_mono : ∀ ds Q Q', (∀ d, Q d → Q' d) → anyF ds Q → anyF ds Q' := fun ds Q Q' i h => by
  unfold anyF at h ⊢
  split at h
  · obtain ⟨n, e, h⟩ := h; exact ⟨n, e, i _ h⟩
  · exact h.elim
theorem rprF_mono : ∀ ds Q Q', (∀ d, Q d → Q' d) → rprF ds Q → rprF ds Q' := fun ds Q Q' i h => by
  unfold rprF at h ⊢
  split at h
  all_goals first | exact h.elim | exact i _ h | exact ⟨h.1, i _ h.2⟩ | exact ⟨h.1, h.2.1, h.2.2.1, i _ h.2.2.2⟩
section
variable {X : Cx} {an : An} {dr : Option Dr} {ρ : Rho} {om : Om} {e a b o : Expr} {es : List Expr} {pos p : Pos} {Q : R → Om → Prop}
theorem we_ty {x : Str} {T : String} (hm : X.mg x = none) (hv : bootBuiltins x = some (.type T)) (q : Q (.v (.ty T)) om) (hg : Gl X x := by rfl) (hn : x ≠ "__name__" := by decide) (hd : (x == ("__debug__" : Str)) = false := by decide) : WE X an dr ρ om (.Name x pos) Q :=
  we_bltn (v := .ty T) hm hv rfl (fun _ => .ty T) hg q hn hd
theorem boot_bool : bootBuiltins "bool" = some (.type "bool") := by decide +kernel
theorem boot_dict : bootBuiltins "dict" = some (.type "dict") := by decide +kernel
theorem boot_any : bootBuiltins "any" = some (.builtin "any") := by decide +kernel
theorem boot_max : bootBuiltins "max" = some (.builtin "max") := by decide +kernel
/-- a constant of the module: a text, an int -/
theorem we_gstr {x z : Str} (hm : ∃ t, X.mg x = some (.str z t)) (q : Q (.v (.str z)) om) (hg : Gl X x := by rfl) (hd : (x == ("__debug__" : Str)) = false := by decide) : WE X an dr ρ om (.Name x pos) Q := by
  obtain ⟨t, hm⟩ := hm
  exact we_glob (v := .str z) hm ⟨t, rfl⟩ (fun _ => .str z) hg q hd
theorem we_gint {x : Str} {i : Int} (hm : ∃ t, X.mg x = some (.int i t)) (q : Q (.v (.int i)) om) (hg : Gl X x := by rfl) (hd : (x == ("__debug__" : Str)) = false := by decide) : WE X an dr ρ om (.Name x pos) Q := by
  obtain ⟨t, hm⟩ := hm
  exact we_glob (v := .int i) hm ⟨t, rfl⟩ (fun _ => .int i) hg q hd
/-- sep.join(list of texts) -/
theorem we_join {apos : Pos} (h : WE X an dr ρ om o fun ro om1 => ∃ z : Str, ro = .v (.str z) ∧ WE X an dr ρ om1 e fun r om2 => ∃ ys : List Str, vw om2 r = .lst (ys.map D.str) ∧ (ys.map (·.length)).sum + ys.length * z.length ≤ 16777216 ∧ Q (.v (.str (Txt.join z ys))) om2)
    (hs : starEach [e] X.env = [(false, eval e X.env)] := by rfl) (hbase : attributeBase o "join" X.env (eval o X.env) = eval o X.env := by rfl) (hline : (apos.endLine == pos.line) = true := by rfl) : WE X an dr ρ om (.Call (.Attribute o "join" apos) [e] [] pos) Q :=
  peI (pe_join (pe_u (an := an) (dr := dr)) (pe_u (an := an) (dr := dr)) hs hbase hline) fun σ H K' ⟨τ, G, g, n, k⟩ => uE_of h g n fun v r om1 τ1 G1 H1 h1 w g1 gr1 n1 => by
    obtain ⟨z, rfl, w⟩ := w
    cases h1 with
    | v h1 =>
      obtain rfl := h1.str_inv
      refine ⟨⟨_, rfl⟩, uE_of w g1 n1 fun v2 r2 om2 τ2 G2 H2 h2 w2 g2 gr2 n2 => ?_⟩
      obtain ⟨ys, ev, hz, q⟩ := w2
      obtain ⟨p, vs, rfl, hp, il⟩ := vw_lst g2 h2 ev
      obtain rfl := strs_inv ys il
      exact ⟨z, p, ys, rfl, rfl, .inl (.inl (.inl hp)), hz, k _ _ om2 τ2 G2 H2 (.v (.str _)) q g2 (gr1.trans gr2)⟩
/-- a, b = x, y -/
theorem ws_par {i j : Nat} {x y : Str} {px py pt : Pos} {kt k2 pt2} {E : Ed} (hc : X.calm = true) (hN : X.N.Nodup) (hi : X.N[i]? = some x) (hj : X.N[j]? = some y) (hij : i ≠ j) (hx : X.env.scope.names.lookup x = some .local) (hy : X.env.scope.names.lookup y = some .local)
    (h : WA X an dr ρ om [a, b] fun rs om1 => ∃ r1 r2, rs = [r1, r2] ∧ E.nx ((ρ.set i (some r1)).set j (some r2)) om1)
    (hw : swappedStores [.Tuple [.Name x px, .Name y py] kt pt] (.Tuple [a, b] k2 pt2) X.env = pure (some [x, y]) := by rfl) (hs : swapsWithSole [.Tuple [.Name x px, .Name y py] kt pt] (.Tuple [a, b] k2 pt2) pos.line X.env = pure false := by rfl) :
    WS X an dr ρ om (.Assign [.Tuple [.Name x px, .Name y py] kt pt] (.Tuple [a, b] k2 pt2) pos) E :=
  psI (ps_par (i := i) (j := j) hc hN hi hj hij hx hy (pa_u (an := an) (dr := dr)) hw hs) fun Z σ H ⟨τ, G, g, n, hl, h1, _⟩ => uA_of h g n fun vs rs om1 τ1 G1 H1 i1 w g1 gr1 n1 => by
    obtain ⟨r1, r2, rfl, w⟩ := w
    cases i1 with
    | cons a1 i1 =>
      cases i1 with
      | cons a2 i1 =>
        cases i1
        exact ⟨_, _, rfl, h1 _ H1 ⟨_, om1, τ1, G1, w, g1, (n1.set hl a1).set (by rw [List.length_set, List.length_set]; exact hl) a2, gr1, by rw [List.length_set, List.length_set]; exact hl, by rw [List.length_set, List.length_set]⟩⟩
/-- list(x) as a list of one's own -/
theorem we_listO (hm : X.mg "list" = none) (h : WE X an dr ρ om e fun r om1 => ∃ ds, (vw om1 r = .lst ds ∨ vw om1 r = .tup ds) ∧ Q (.o om1.length) (om1 ++ [some ds])) (hg : Gl X "list" := by rfl)
    (he : starEach [e] X.env = (false, eval e X.env) :: starEach [] X.env := by rfl) (hpl : (backTo pos (starEach [] X.env)).any (·.1) = false := by rfl) : WE X an dr ρ om (.Call (.Name "list" p) [e] [] pos) Q :=
  peI (pe_callTy call_list_of hg hm PyProof.Rows.boot_list (pa_cons (pe_u (an := an) (dr := dr)) pa_nil he) (by decide) (by decide) he hpl) fun σ H K' ⟨τ, G, g, n, k⟩ => uE_of h g n fun v r om1 τ1 G1 H1 h1 w g1 gr1 n1 => by
    obtain ⟨ds, ev, q⟩ := w
    have fin : ∀ {q : Addr} {vs : List V}, IsL X.K G1 vs ds → H1 q = none → K' (.ref q) (upd H1 q (.lst vs)) := fun {q vs} il hq => by
      refine k _ _ _ (τ1 ++ [q]) _ _ (.o ?_) ‹_› (g1.fresh hq il) (gr1.trans Good.growF)
      rw [g1.len, List.getElem?_append_right (Nat.le_refl _), Nat.sub_self]
      rfl
    rcases ev with ev | ev
    · obtain ⟨p, vs, rfl, hp, il⟩ := vw_lst g1 h1 ev
      exact ⟨p, vs, rfl, .inl (.inl (.inl hp)), fun l hl => fin il hl⟩
    · obtain ⟨p, vs, rfl, hp, il⟩ := vw_tup g1 h1 ev
      exact ⟨p, vs, rfl, .inr hp, fun l hl => fin il hl⟩
end
end DL

namespace DL
open PySem L2
/-! ### the draws -/
def drK (x : Dr) (re tu : Int) : List (Key × V) := [(.inr "great", .ref x.g), (.inr "rest", .int re), (.inr "cells", .ref x.c), (.inr "turn", .int tu)]
theorem drK_great (x : Dr) (re tu : Int) : valV (drK x re tu) (.inr "great") = some (.ref x.g) := rfl
theorem drK_rest (x : Dr) (re tu : Int) : valV (drK x re tu) (.inr "rest") = some (.int re) := rfl
theorem drK_cells (x : Dr) (re tu : Int) : valV (drK x re tu) (.inr "cells") = some (.ref x.c) := rfl
theorem drK_turn (x : Dr) (re tu : Int) : valV (drK x re tu) (.inr "turn") = some (.int tu) := rfl
theorem drP_rest (x : Dr) (re tu n : Int) : putK (drK x re tu) (.inr "rest") (.int n) = drK x n tu := rfl
theorem drP_turn (x : Dr) (re tu n : Int) : putK (drK x re tu) (.inr "turn") (.int n) = drK x re n := rfl
section
variable {K : PySem.W.Frag} {an : An} {x : Dr} {om : Om} {τ : List Addr} {G H : Hp}
/-- the dict of the draws changes -/
theorem Good.draw {gr : List Int} {re tu re' tu' : Int} (g : Good K an (some x) om τ G H) (h1 : H x.d = some (.dK (drK x re tu))) (h2 : H x.g = some (.lst (gr.map V.int))) (h3 : H x.c = some (.lst (x.cs.map V.int))) : Good K an (some x) om τ G (upd H x.d (.dK (drK x re' tu'))) := by
  obtain ⟨_, f1, f2, f3⟩ := g.drg x rfl
  have ngd : x.g ≠ x.d := ne_of h2 h1 (by intro z; cases z)
  have ncd : x.c ≠ x.d := ne_of h3 h1 (by intro z; cases z)
  exact {
    ex := g.ex.mut f1
    len := g.len
    nd := g.nd
    own := fun k p ds e1 e2 => by
      obtain ⟨a1, a2, a3, vs, a4, a5⟩ := g.own k p ds e1 e2
      exact ⟨a1, a2, a3, vs, by rw [upd_ne (a3 x rfl).1]; exact a4, a5⟩
    drg := fun y hy => by
      cases hy
      exact ⟨⟨gr, (), re', tu', upd_same, by rw [upd_ne ngd]; exact h2, by rw [upd_ne ncd]; exact h3⟩, f1, f2, f3⟩
    a1 := g.a1
    a2 := fun a o e1 e2 => by rw [upd_ne (e2 x rfl).1]; exact g.a2 a o e1 e2
    a3 := g.a3
    a4 := fun k p e1 => by
      obtain ⟨o1, o, e2⟩ := g.a4 k p e1
      exact ⟨o1, o, by rw [upd_ne (o1 x rfl).1]; exact e2⟩ }
/-- the list of great numbers changes -/
theorem Good.drawG {gr gr' : List Int} {re tu : Int} (g : Good K an (some x) om τ G H) (h1 : H x.d = some (.dK (drK x re tu))) (h2 : H x.g = some (.lst (gr.map V.int))) (h3 : H x.c = some (.lst (x.cs.map V.int))) (hgc : x.c ≠ x.g) : Good K an (some x) om τ G (upd H x.g (.lst (gr'.map V.int))) := by
  obtain ⟨_, f1, f2, f3⟩ := g.drg x rfl
  have ngd : x.d ≠ x.g := ne_of h1 h2 (by intro z; cases z)
  exact {
    ex := g.ex.mut f2
    len := g.len
    nd := g.nd
    own := fun k p ds e1 e2 => by
      obtain ⟨a1, a2, a3, vs, a4, a5⟩ := g.own k p ds e1 e2
      exact ⟨a1, a2, a3, vs, by rw [upd_ne (a3 x rfl).2.1]; exact a4, a5⟩
    drg := fun y hy => by
      cases hy
      exact ⟨⟨gr', (), re, tu, by rw [upd_ne ngd]; exact h1, upd_same, by rw [upd_ne hgc]; exact h3⟩, f1, f2, f3⟩
    a1 := g.a1
    a2 := fun a o e1 e2 => by rw [upd_ne (e2 x rfl).2.1]; exact g.a2 a o e1 e2
    a3 := g.a3
    a4 := fun k p e1 => by
      obtain ⟨o1, o, e2⟩ := g.a4 k p e1
      exact ⟨o1, o, by rw [upd_ne (o1 x rfl).2.1]; exact e2⟩ }
end
section
variable {X : Cx} {an : An} {x : Dr} {ρ : Rho} {om : Om} {e o tg : Expr} {pos p2 pos' : Pos} {Q : R → Om → Prop} {j : Nat}
/-- draw["rest"], draw["turn"] -/
theorem we_drRest (hu : X.A.units + 1 < cLine) (h : WE X an (some x) ρ om o fun r om1 => r = .v (.obj x.d) ∧ ∀ n : Int, Q (.v (.int n)) om1) : WE X an (some x) ρ om (.Subscript o (.Constant (.str "rest") j p2) pos) Q :=
  peI (pe_dget hu (pe_u (an := an) (dr := some x)) pe_str (fun _ _ => rfl)) fun σ H K' ⟨τ, G, g, n, k⟩ => uE_of h g n fun v r om1 τ1 G1 H1 h1 w g1 gr1 n1 => by
    obtain ⟨rfl, w⟩ := w
    cases h1 with
    | v h1 =>
      cases h1
      obtain ⟨⟨gr, _, re, tu, q1, q2, q3⟩, _⟩ := g1.drg x rfl
      exact ⟨x.d, .int re, rfl, DGet.k (k := .inr "rest") q1, k _ _ om1 τ1 G1 H1 (.v (.int re)) (w re) g1 gr1⟩
theorem we_drTurn (hu : X.A.units + 1 < cLine) (h : WE X an (some x) ρ om o fun r om1 => r = .v (.obj x.d) ∧ ∀ n : Int, Q (.v (.int n)) om1) : WE X an (some x) ρ om (.Subscript o (.Constant (.str "turn") j p2) pos) Q :=
  peI (pe_dget hu (pe_u (an := an) (dr := some x)) pe_str (fun _ _ => rfl)) fun σ H K' ⟨τ, G, g, n, k⟩ => uE_of h g n fun v r om1 τ1 G1 H1 h1 w g1 gr1 n1 => by
    obtain ⟨rfl, w⟩ := w
    cases h1 with
    | v h1 =>
      cases h1
      obtain ⟨⟨gr, _, re, tu, q1, q2, q3⟩, _⟩ := g1.drg x rfl
      exact ⟨x.d, .int tu, rfl, DGet.k (k := .inr "turn") q1, k _ _ om1 τ1 G1 H1 (.v (.int tu)) (w tu) g1 gr1⟩
/-- draw["rest"] = e -/
theorem ws_drRest {E : Ed} (hu : X.A.units + 1 < cLine) (h : WE X an (some x) ρ om e fun r om1 => intR r fun _ => WE X an (some x) ρ om1 o fun r2 om2 => r2 = .v (.obj x.d) ∧ E.nx ρ om2) (hs : swapsWith e (some (.Subscript o (.Constant (.str "rest") j p2) pos')) pos.line X.env = pure false := by rfl) :
    WS X an (some x) ρ om (.Assign [.Subscript o (.Constant (.str "rest") j p2) pos'] e pos) E :=
  psI (ps_dput hu (pe_u (an := an) (dr := some x)) pe_str (pe_u (an := an) (dr := some x)) hs) fun Z σ H ⟨τ, G, g, n, hl, h1, _⟩ => uE_of h g n fun v r om1 τ1 G1 H1 i1 w g1 gr1 n1 => by
    obtain ⟨m, rfl, _, w⟩ := intR_is i1 w
    refine uE_of w g1 n1 fun v2 r2 om2 τ2 G2 H2 i2 w2 g2 gr2 n2 => ?_
    obtain ⟨rfl, w2⟩ := w2
    cases i2 with
    | v i2 =>
      cases i2
      obtain ⟨⟨gr, _, re, tu, q1, q2, q3⟩, _⟩ := g2.drg x rfl
      exact ⟨x.d, _, rfl, DPut.k (k := .inr "rest") q1 (by show 4 < sizeLine; decide), h1 σ _ ⟨ρ, om2, τ2, G2, w2, g2.draw (re' := m) (tu' := tu) q1 q2 q3, n2, gr1.trans gr2, hl, rfl⟩⟩
theorem ws_drTurn {E : Ed} (hu : X.A.units + 1 < cLine) (h : WE X an (some x) ρ om e fun r om1 => intR r fun _ => WE X an (some x) ρ om1 o fun r2 om2 => r2 = .v (.obj x.d) ∧ E.nx ρ om2) (hs : swapsWith e (some (.Subscript o (.Constant (.str "turn") j p2) pos')) pos.line X.env = pure false := by rfl) :
    WS X an (some x) ρ om (.Assign [.Subscript o (.Constant (.str "turn") j p2) pos'] e pos) E :=
  psI (ps_dput hu (pe_u (an := an) (dr := some x)) pe_str (pe_u (an := an) (dr := some x)) hs) fun Z σ H ⟨τ, G, g, n, hl, h1, _⟩ => uE_of h g n fun v r om1 τ1 G1 H1 i1 w g1 gr1 n1 => by
    obtain ⟨m, rfl, _, w⟩ := intR_is i1 w
    refine uE_of w g1 n1 fun v2 r2 om2 τ2 G2 H2 i2 w2 g2 gr2 n2 => ?_
    obtain ⟨rfl, w2⟩ := w2
    cases i2 with
    | v i2 =>
      cases i2
      obtain ⟨⟨gr, _, re, tu, q1, q2, q3⟩, _⟩ := g2.drg x rfl
      exact ⟨x.d, _, rfl, DPut.k (k := .inr "turn") q1 (by show 4 < sizeLine; decide), h1 σ _ ⟨ρ, om2, τ2, G2, w2, g2.draw (re' := re) (tu' := m) q1 q2 q3, n2, gr1.trans gr2, hl, rfl⟩⟩
theorem jok_cells {K : PySem.W.Frag} {G : Hp} {τ : List Addr} : JOk K an (some x) (Itl K x.c) (x.cs.map D.int) G τ := fun om2 τ2 G2 H2 g gr i => by
  obtain ⟨⟨_, _, re, tu, q1, q2, q3⟩, _⟩ := g.drg x rfl
  have hs : SqL K H2 x.c (x.cs.map V.int) := .inl (.inl q3)
  refine ⟨fun hj => ⟨_, hs, by simp at hj ⊢; omega⟩, fun d hd => ?_⟩
  obtain ⟨v, h1, h2⟩ := (IsL.ints (K := K) (G := G2) x.cs).get hd
  refine ⟨⟨_, v, hs, h1⟩, fun y H3 q => ?_⟩
  obtain ⟨rfl, q⟩ := q
  have e := (q _ hs).symm.trans h1
  cases e
  exact ⟨G2, g, Grow.refl _ _, h2⟩
/-- for .. in draw["cells"] -/
theorem wi_drCells {Q : List D → Om → Prop} (hu : X.A.units + 1 < cLine) (hz : x.cs.length ≤ sizeLine) (h : WE X an (some x) ρ om o fun r om1 => r = .v (.obj x.d) ∧ Q (x.cs.map D.int) om1) : WI X an (some x) ρ om tg (.Subscript o (.Constant (.str "cells") j p2) pos) Q :=
  piI (pi_list (pe_dget hu (pe_u (an := an) (dr := some x)) pe_str (fun _ _ => rfl))) fun σ H Z ⟨τ, G, g, n, k⟩ => uE_of h g n fun v r om1 τ1 G1 H1 h1 w g1 gr1 n1 => by
    obtain ⟨rfl, w⟩ := w
    cases h1 with
    | v h1 =>
      cases h1
      obtain ⟨⟨gr, _, re, tu, q1, q2, q3⟩, _⟩ := g1.drg x rfl
      exact ⟨x.d, .ref x.c, rfl, DGet.k (k := .inr "cells") q1, x.c, rfl, ⟨_, .inl (.inl q3)⟩, k _ _ om1 τ1 G1 H1 w (by simpa using hz) g1 gr1 (fun _ => jok_cells)⟩
end
/-! ### how a draw is promised -/
def W_take (x : Dr) : Wp := fun ds P => ∃ n : Int, ds = [.obj x.d, .int n] ∧ (0 < n ∧ n < 2 ^ 64) ∧ ∀ k : Int, 0 ≤ k → k < n → P (.int k)
def W_blend (x : Dr) : Wp := fun ds P => ds = [.obj x.d] ∧ ∀ k : Int, P (.int k)
end DL

namespace DL
open PySem L2
/-! ### enumerate of a tuple -/
theorem meets_enum1 {v : Value} {o : Obj} {Hh : Heap → Prop} (B : Begins v o Hh) :
    Meets (Builtin.«enumerate.__new__» ⟨[.type "enumerate", v], []⟩) (fun _ Rr s => Hh s.heap ∧
      Rr (.ok (.ret (.ref (s.heap.push o).objs.size))) { s with heap := (s.heap.push o).push { cls := .type "enumerate", data := .fields #[.none, .bool false, .ref s.heap.objs.size, rawInt 0, .none, .none] } }) :=
  .of_wp fun prog w A Rr s h => by
    obtain ⟨hp, g, d, tk, os⟩ := s
    obtain ⟨h1, h⟩ := h
    have sub := sub_enumerate
    have q1 : ∀ {A' : Around} {E : Value → Shared → Prop} {Q : Value → Shared → Prop}, Q (.ref hp.objs.size) ⟨hp.push o, g, d, tk, os⟩ → wpAny (model prog w) A' (pyIter v) Q E ⟨hp, g, d, tk, os⟩ :=
      fun q => B.iter prog w _ _ ⟨hp, g, d, tk, os⟩ _ h1 q
    wp_walk using q1
    refine wpAny_stack_any fun st => wpAny_pure ?_
    split
    · rename_i c _ _ _ _ _
      cases (c == Value.type "enumerate")
      all_goals
        wp_walk using q1
        exact ⟨_, rfl, h⟩
    · wp_walk using q1
      exact ⟨_, rfl, h⟩
theorem call_enumT {prog : Program} {w : World} {A : Around} {E : Value → Shared → Prop} {s : Shared} {t : Addr} {items : Array Value} {Q : Value → Shared → Prop} (hT : s.heap.IsTuple t items)
    (h : ∀ h', IsEnum h' (s.heap.objs.size + 1) s.heap.objs.size 0 .none → h'.IsTupleIter s.heap.objs.size t 0 → (∀ b o, s.heap.get? b = some o → h'.get? b = some o) → Q (.ref (s.heap.objs.size + 1)) { s with heap := h' }) :
    wpAny (model prog w) A (call (.type "enumerate") [.ref t]) Q E s := by
  refine callType_new F.called_enumerate (by decide) (F.typeCall_enumerate_1 _) (F.newCall_enumerate_1 _) (fun obj => F.args_object_init_2 obj _) F.entry_enumerate_new (meets_enum1 (begins_tuple t items)) ⟨hT, ?_⟩
  have z : (s.heap.push { cls := .type "tuple_iterator", data := .fields #[.ref t, .int 0 0] }).objs.size = s.heap.objs.size + 1 := Heap.size_push ..
  show _ ∧ _
  rw [z]
  have e := Heap.get?_push_size (s.heap.push { cls := .type "tuple_iterator", data := .fields #[.ref t, .int 0 0] }) (o := { cls := .type "enumerate", data := .fields #[.none, .bool false, .ref s.heap.objs.size, rawInt 0, .none, .none] }) rfl
  rw [z] at e
  exact ⟨⟨_, e, rfl⟩, h _ e ⟨_, Heap.get?_push_of_some _ (Heap.get?_push_size _ rfl), rfl, rfl⟩ fun b o q => Heap.get?_push_of_some _ (Heap.get?_push_of_some _ q)⟩
/-- (0, t[0]), (1, t[1]), .. of the tuple at a -/
def IteT (K : PySem.W.Frag) (a : Addr) : It where
  go := fun i H => ∃ (xs : List V) (x : V), SqT K H a xs ∧ xs[i]? = some x
  yld := fun i H v H' => ∃ T x, v = .ref T ∧ H T = none ∧ H' = upd H T (.tup [.int (i : Nat), x]) ∧ ∀ xs, SqT K H a xs → xs[i]? = some x
  stop := fun i H => ∃ xs : List V, SqT K H a xs ∧ xs.length = i
theorem turn_enumT {P : Program} {w : World} {K : PySem.W.Frag} {elts : List Expr} {kk : Nat} {tpos : Pos} (a e it : Addr) (hai : a ≠ it) (hei : e ≠ it) (hea : e ≠ a) :
    Turn P w K (.Tuple elts kk tpos) (IteT K a) [e, it] e (fun i h => (∃ old, IsEnum h e it ((i : Nat) : Int) old) ∧ h.IsTupleIter it a i) where
  mem := List.mem_cons_self
  obj := fun i h st b hb => by
    obtain ⟨⟨old, he⟩, o, ho, _, hd⟩ := st
    rcases List.mem_cons.mp hb with rfl | hb
    · exact ⟨_, he, fun v q => nomatch q⟩
    · obtain rfl := List.mem_singleton.mp hb
      exact ⟨o, ho, fun v q => by rw [hd] at q; cases q⟩
  keep := fun i h h' st k => by
    obtain ⟨⟨old, he⟩, hi⟩ := st
    exact ⟨⟨old, k e List.mem_cons_self _ he⟩, hi.at fun o q => k it (List.mem_cons_of_mem _ List.mem_cons_self) o q⟩
  item := by
    rintro X rfl rfl rfl hc i pins s σ H E I hf ⟨⟨old, he⟩, hit⟩ ⟨xs, x, hq, hx⟩
    obtain ⟨its, rv, p, _⟩ := I.tuple hq
    obtain ⟨u, hu, ru⟩ := rv.get hx
    have hlt : i < its.toArray.size := by
      have := (List.getElem?_eq_some_iff.mp hu).1
      simpa using this
    have hel : e < s.heap.objs.size := Heap.lt_size he
    have hil : it < s.heap.objs.size := by obtain ⟨_, q, _⟩ := hit; exact Heap.lt_size q
    refine wpAny_pyNext_enum_itemD (Draws.tuple (A := X.A.in1) (I.ok.hd hc) it a hai its.toArray) he ⟨hit, p⟩ hlt hei (by simp [hei, hea]) fun y h' tk hy ho hst hT hsz hk => ?_
    have ey : y = u := by
      have z : its.toArray[i]? = some y := hy
      have z2 : its.toArray[i]? = some u := by simpa using hu
      exact Option.some.inj (z.symm.trans z2)
    subst ey
    refine ⟨_, rfl, wpAny_letOwnedTupleGo_enum (s := { s with heap := h', toks := tk + 1 }) ho fun h'' he' sb => ?_⟩
    have hT2 : h''.get? s.heap.objs.size = some { cls := .type "tuple", data := .seq #[.int i tk, y] } := (sb.2 _ (Nat.ne_of_gt hel)).trans hT
    have new : ObjOk X.prog X.w (upd H s.heap.objs.size (.tup [.int (i : Nat), x])) h'' s.heap.objs.size (.tup [.int (i : Nat), x]) := by
      refine ⟨?_, [.int i tk, y], .cons ⟨_, rfl⟩ (.cons ru .nil), ⟨_, hT2, rfl, _, rfl⟩⟩
      show 2 ≤ sizeLine
      decide
    have keep : ∀ b ob, b ∉ [e, it] → s.heap.get? b = some ob → h''.get? b = some ob := fun b ob hb q => by
      have n1 : b ≠ e := fun z => hb (by rw [z]; exact List.mem_cons_self)
      have n2 : b ≠ it := fun z => hb (by rw [z]; exact List.mem_cons_of_mem _ List.mem_cons_self)
      exact (sb.2 b n1).trans (hk b ob n1 n2 q)
    refine ⟨.ref s.heap.objs.size, _, I.turnedNew (t' := tk + 1) (ch := [e, it]) keep hf (Nat.le_refl _) new, rfl, ⟨_, x, rfl, I.hok.fresh (Nat.le_refl _), rfl, fun ys hy => ?_⟩, ⟨⟨y, ?_⟩, ?_⟩, fun b hb => ?_⟩
    · rw [I.tuple_inj hy hq]
      exact hx
    · have c : ((i + 1 : Nat) : Int) = (i : Int) + 1 := by omega
      rw [c]
      exact he'
    · exact hst.1.at fun o q => (sb.2 it (Ne.symm hei)).trans q
    · have hlt : b < s.heap.objs.size := by
        rcases List.mem_cons.mp hb with rfl | hb
        · exact hel
        · obtain rfl := List.mem_singleton.mp hb
          exact hil
      rw [upd_ne (Nat.ne_of_lt hlt)]
      exact (hf b hb).1
  done := by
    rintro X rfl rfl rfl hc i pins s σ H E I hf ⟨⟨old, he⟩, hit⟩ ⟨xs, hq, rfl⟩
    obtain ⟨its, rv, p, _⟩ := I.tuple hq
    obtain ⟨f0, f1, f2, f3, f4, f5⟩ := hf it (List.mem_cons_of_mem _ List.mem_cons_self)
    have hl : its.toArray.size = xs.length := by rw [rv.length]; simp
    refine wpAny_pyNext_enum_endD (Draws.tuple (A := X.A.in1) (I.ok.hd hc) it a hai its.toArray) he ⟨by rw [hl]; exact hit, p⟩ fun h' eb => ⟨rfl, ?_⟩
    exact I.turned (t' := s.toks) (fun b o hb q => eb b o hb q) f0 f1 f3 f4 f5
  self := fun A i s Q E st h => by
    obtain ⟨⟨_, he⟩, _⟩ := st
    exact wpAny_pyIter_enum he h
section
variable {X : Cx} {an : An} {dr : Option Dr} {ρ : Rho} {om : Om} {e : Expr} {pos : Pos}
theorem jok_enumT {a : Addr} {vs : List V} {ds : List D} {G : Hp} {τ : List Addr} {K : PySem.W.Frag} (h : G a = some (.tup vs)) (i : IsL K G vs ds) : JOk K an dr (IteT K a) (enumD ds) G τ := fun om2 τ2 G2 H2 g gr j => by
  have hs : SqT K H2 a vs := .inl (.inl (g.ex _ _ (gr.ex _ _ h)))
  refine ⟨fun hj => ⟨vs, hs, by rw [i.length, hj]; simp [enumD]⟩, fun d hd => ?_⟩
  obtain ⟨d0, hd0, rfl⟩ := enumD_get hd
  obtain ⟨v, h1, h2⟩ := i.get hd0
  refine ⟨⟨vs, v, hs, h1⟩, fun x H3 y => ?_⟩
  obtain ⟨T, y0, rfl, hT, rfl, y⟩ := y
  have e := (y vs hs).symm.trans h1
  cases e
  exact ⟨_, g.alloc hT, g.grow hT, .tup upd_same (.cons (.int _) (.cons (h2.mono (gr.ex.trans (Ex.new (g.ex.free hT)))) .nil))⟩
/-- enumerate(e), e a list or a tuple -/
theorem wi_enum {Q : List D → Om → Prop} {p tpos : Pos} {elts : List Expr} {kk : Nat} (hm : X.mg "enumerate" = none) (h : WE X an dr ρ om e fun r om1 => retR om1 r fun d => ∃ ds, (d = .lst ds ∨ d = .tup ds) ∧ Q (enumD ds) (fzO om1 r)) (hg : Gl X "enumerate" := by rfl) (hs : starEach [e] X.env = [(false, eval e X.env)] := by rfl) :
    WI X an dr ρ om (.Tuple elts kk tpos) (.Call (.Name "enumerate" p) [e] [] pos) Q := by
  refine ⟨fun pins s σ H Z I q => ?_⟩
  obtain ⟨τ, G, g, n, k⟩ := q
  have ha : PA X [e] (tCons (uE X an dr e) tNil) := pa_cons pe_u pa_nil hs
  refine PyProof.Rows.Call_ (ld_blt I hg hm PyProof.Rows.boot_enumerate (PyProof.Rows.callWith_type1 (thn (ha.run pos pins s σ H (fun vs H1 => ∃ v d om1 τ1 G1 ds, vs = [v] ∧ Is X.K G1 v d ∧ Good X.K an dr om1 τ1 G1 H1 ∧ Grow G τ G1 τ1 ∧ (d = .lst ds ∨ d = .tup ds) ∧ Q (enumD ds) om1) I ?_) ?_) hs rfl))
  · exact uE_of h g n fun v r om1 τ1 G1 H1 h1 w g1 gr1 n1 => by
      obtain ⟨d, G2, ⟨ds, ed, w⟩, i, g2, gr2⟩ := retR_fz g1 h1 w
      exact ⟨v, d, _, τ1, G2, ds, rfl, i, g2, gr1.trans gr2, ed, w⟩
  · rintro us s1 ⟨vs, H1, I1, r1, v, d, om1, τ1, G1, ds, rfl, i1, g1, gr1, ed, q1⟩
    cases r1 with
    | cons r rr =>
      cases rr
      rcases ed with rfl | rfl
      · cases i1 with
        | lst hp il =>
          cases r
          obtain ⟨its, rv, p', hz⟩ := I1.list (.inl (.inl (g1.ex _ _ hp)))
          refine call_enumerate_list p'.isList fun h' he hit hsz hk => wpAny_pyIter_enum he ?_
          have I2 : Inv X pins σ H1 { s1 with heap := h' } := I1.kept (t' := s1.toks) hk
          refine ⟨s1.heap.objs.size + 1, [s1.heap.objs.size + 1, s1.heap.objs.size], _, _, H1, rfl, I2, turn_enum _ (s1.heap.objs.size + 1) s1.heap.objs.size, ⟨⟨.none, he⟩, hit, Nat.succ_ne_self _⟩, fun b hb => ?_, k _ _ _ _ _ _ q1 (by simp [enumD]; rw [← il.length]; exact hz) g1 gr1 (fun _ => jok_enum hp il)⟩
          rcases List.mem_cons.mp hb with rfl | hb
          · exact I1.fpOk (Nat.le_succ _) (I1.hok.fresh (Nat.le_succ _))
          · obtain rfl := List.mem_singleton.mp hb
            exact I1.fpOk (Nat.le_refl _) (I1.hok.fresh (Nat.le_refl _))
      · cases i1 with
        | tup hp il =>
          cases r
          obtain ⟨its, rv, p', hz⟩ := I1.tuple (.inl (.inl (g1.ex _ _ hp)))
          have hlt := I1.hok.lt (g1.ex _ _ hp)
          refine call_enumT p' fun h' he hit hk => wpAny_pyIter_enum he ?_
          have I2 : Inv X pins σ H1 { s1 with heap := h' } := I1.kept (t' := s1.toks) hk
          refine ⟨s1.heap.objs.size + 1, [s1.heap.objs.size + 1, s1.heap.objs.size], _, _, H1, rfl, I2, turn_enumT _ (s1.heap.objs.size + 1) s1.heap.objs.size (Nat.ne_of_lt hlt) (Nat.succ_ne_self _) (Nat.ne_of_gt (Nat.lt_succ_of_lt hlt)), ⟨⟨.none, he⟩, hit⟩, fun b hb => ?_, k _ _ _ _ _ _ q1 (by simp [enumD]; rw [← il.length]; exact hz) g1 gr1 (fun _ => jok_enumT hp il)⟩
          rcases List.mem_cons.mp hb with rfl | hb
          · exact I1.fpOk (Nat.le_succ _) (I1.hok.fresh (Nat.le_succ _))
          · obtain rfl := List.mem_singleton.mp hb
            exact I1.fpOk (Nat.le_refl _) (I1.hok.fresh (Nat.le_refl _))
end
end DL

namespace DL
open PySem L2 PyProof.Rows
/-! ### set comprehensions of ints and texts -/
def sK0 (P : Program) (w : World) (a : Addr) : HO := SetK P w a (fun _ => false) 0
def sKadd (P : Program) (w : World) (a : Addr) (S : Key → Bool) (n : Nat) (k : Key) : HO := SetK P w a (fun j => S j || decide (j = k)) (if S k = true then n else n + 1)
def tScK (P : Program) (w : World) (wi : TI) (g : TG) (tt : TT) (te : TE) (vs : List Nat) : TE := fun σ H Q => wi σ H fun J H1 => ∀ D0, H1 D0 = none → ∃ W : Nat → Nat → Hp → Prop, (∃ m, W 0 m (upd H1 D0 (sK0 P w D0))) ∧ ∀ i m H, W i m H →
  (J.stop i H ∧ Q (.ref D0) H) ∨ (J.go i H ∧ ∃ Nx : Hp → Prop, (∀ H', Nx H' → ∃ m', m' < m ∧ W (i + 1) m' H') ∧ ∀ x H', J.yld i H x H' → g x (L2.wipe σ vs) H' fun σ2 H2 => L2.wipe σ2 vs = L2.wipe σ vs ∧ tt σ2 H2 fun b H3 =>
    if b = true then te σ2 H3 fun y H4 => ∃ (c : Key) (S : Key → Bool) (n : Nat), y = kV c ∧ H4 D0 = some (SetK P w D0 S n) ∧ n + 1 < scanBound ∧ Nx (upd H4 D0 (sKadd P w D0 S n c)) else Nx H3)
section
variable {X : Cx}
theorem addK_ok {pins : List (Addr × Obj)} {σ : L2.St} {H : Hp} {s : Shared} {E : Value → Shared → Prop} {D0 : Addr} {S : Key → Bool} {n : Nat} {c : Key} {u : Value} {Q : Value → Shared → Prop} (I : Inv X pins σ H s) (hD : H D0 = some (SetK X.prog X.w D0 S n)) (room : n + 1 < scanBound) (r : RelV (kV c) u)
    (h : ∀ s', Inv X pins σ (upd H D0 (sKadd X.prog X.w D0 S n c)) s' → Q .none s') : wpAny (model X.prog X.w) X.A (call (.builtin "set.add") [.ref D0, u]) Q E s := by
  refine call_set_add (kV_is r) (key_scan r) (setK_get I hD) room fun h' sb new => ?_
  have old : ∃ o, h'.get? D0 = some o := by
    have ⟨o, _, _, _, ho, _⟩ := new
    exact ⟨o, ho⟩
  exact h _ (I.write (e := D0) (t' := s.toks + 1) (by rw [hD]; trivial) (.inl rfl) (fun b o hb ho => (sb.2 b hb).trans ho) old (setK_new new))
theorem pe_scK {elt tg iter : Expr} {ifs : List Expr} {scope : Scope} {own : List (PySem.Str × Nat)} {pos : Pos} {wi : TI} {g : TG} {tt : TT} {te : TE} (hc : X.calm = true) (hN : X.N.Nodup) (hi : PI X tg iter wi) (ok : BlkOk X.N X.env.scope scope own)
    (hg : ∀ s H C cl fp, PG (XB X scope s H C cl fp) tg g) (ht : ∀ s H C cl fp, PTs (XB X scope s H C cl fp) ifs tt) (he : ∀ s H C cl fp, PE (XB X scope s H C cl fp) elt te) (hs : ∀ x, foldedSetIterable iter X.env x = pure x := by intro _; rfl) :
    PE X (.SetComp elt [⟨tg, iter, ifs, 0⟩] scope pos) (tScK X.prog X.w wi g tt te (own.map (·.2))) := by
  constructor
  intro pins s σ H Q I h
  rw [PpSet.eval_SetComp]
  have caps : ∀ y ∈ scope.names, y.2 = .free → ∃ c, X.env.cells.lookup y.1 = some c := fun y hy e => I.ok.has _ (ok.free y hy e)
  refine wpAny_comprehension_free (use := none) rfl hs (closure_ok caps) ok.kind (fun y hy e => by rw [ok.uniq y hy, e]) (thn (hi.run pins s σ H _ I h) fun xv s1 hx => thn hx fun itv s2 h2 => ?_)
  obtain ⟨it, fp, tn, J, H2, rfl, I2, T, st2, f2, q⟩ := h2
  refine PpSet.newSet_ok (newEnv_comp ?_)
  -- the new set stands at D0
  generalize hD : s2.heap.objs.size = D0
  have free0 : H2 D0 = none := I2.hok.fresh (Nat.le_of_eq hD)
  obtain ⟨W, ⟨m0, w0⟩, turn⟩ := q D0 free0
  generalize hs3 : ({ s2 with heap := s2.heap.push { cls := .type "set", dict := none, data := .set #[] 0 (.fresh 0 0 (!X.w.params.followText "set-order")) } } : Shared) = s3
  have h3 : s3.heap = s2.heap.push { cls := .type "set", dict := none, data := .set #[] 0 (.fresh 0 0 (!X.w.params.followText "set-order")) } := by rw [← hs3]
  have new : ObjOk X.prog X.w (upd H2 D0 (sK0 X.prog X.w D0)) (s2.heap.push { cls := .type "set", dict := none, data := .set #[] 0 (.fresh 0 0 (!X.w.params.followText "set-order")) }) D0 (sK0 X.prog X.w D0) := by
    rw [← hD]
    exact setK_new ⟨_, #[], 0, _, Heap.get?_push_size _ rfl, ⟨rfl, rfl, rfl⟩, rfl, (fun e he => by simp at he), (fun k => by simp), (by decide), (by rfl), rfl⟩
  have I3 : Inv X pins σ (upd H2 D0 (sK0 X.prog X.w D0)) s3 := by
    rw [← hs3]
    exact I2.laid (t' := s2.toks) (fun b o e => Heap.get?_push_of_some _ e) (Nat.le_of_eq hD) new
  have below : ∀ b ∈ fp, b < s2.heap.objs.size := fun b hb => by
    obtain ⟨o, e, _⟩ := T.obj _ _ st2 b hb
    exact Heap.lt_size e
  have f3 : ∀ b ∈ fp, FpOk X pins (upd H2 D0 (sK0 X.prog X.w D0)) b ∧ b < s3.heap.objs.size := fun b hb => by
    have lt := below b hb
    constructor
    · refine ⟨?_, (f2 b hb).2⟩
      rw [upd_ne (by rw [← hD]; exact Nat.ne_of_lt lt)]
      exact (f2 b hb).1
    · rw [h3, Heap.size_push]
      exact Nat.lt_succ_of_lt lt
  have st3 : tn 0 s3.heap := T.keep _ _ _ st2 fun b _ o e => by rw [h3]; exact Heap.get?_push_of_some _ e
  have I4 := block_start I3 ok hN f3
  have pg := hg s3 (upd H2 D0 (sK0 X.prog X.w D0)) s3.heap.objs.size (cellsFrom (s3.heap.objs.size + 1) scope.names (cloFrom X.env.cells scope.names [])) fp
  have pt := ht s3 (upd H2 D0 (sK0 X.prog X.w D0)) s3.heap.objs.size (cellsFrom (s3.heap.objs.size + 1) scope.names (cloFrom X.env.cells scope.names [])) fp
  have pe := he s3 (upd H2 D0 (sK0 X.prog X.w D0)) s3.heap.objs.size (cellsFrom (s3.heap.objs.size + 1) scope.names (cloFrom X.env.cells scope.names [])) fp
  show codeAny _ _ (.compStart (.SetComp elt [⟨tg, iter, ifs, 0⟩] scope pos) 0 (.ref it) (.ref D0) (compEnvC scope (cellsFrom (s3.heap.objs.size + 1) scope.names (cloFrom X.env.cells scope.names [])) s3.heap.objs.size X.env)) _ { s3 with heap := pushCells (s3.heap.push { cls := .type "dict", data := .dict #[] }) scope.names }
  have nfp : ∀ b ∈ fp, (upd H2 D0 (sK0 X.prog X.w D0)) b = none := fun b hb => (f3 b hb).1.1
  simp only [XB] at pg pt pe
  generalize hce : compEnvC scope (cellsFrom (s3.heap.objs.size + 1) scope.names (cloFrom X.env.cells scope.names [])) s3.heap.objs.size X.env = ce at I4 pg pt pe ⊢
  have cL : ce.locals = s3.heap.objs.size := by subst hce; rfl
  generalize hH3 : upd H2 D0 (sK0 X.prog X.w D0) = H3 at I3 I4 pg pt pe w0 nfp f3
  generalize hs4 : ({ s3 with heap := pushCells (s3.heap.push { cls := .type "dict", data := .dict #[] }) scope.names } : Shared) = s4 at I4 ⊢
  have st4 : tn 0 s4.heap := T.keep _ _ _ st3 fun b _ o e => by rw [← hs4]; exact pushCells_keeps _ _ _ _ (Heap.get?_push_of_some _ e)
  have stat : ∀ {σ' : L2.St} {H' : Hp} {s' : Shared}, Inv (X.blk s3 H3 scope ce fp) [] σ' H' s' → (∀ b ∈ fp, H' b = none) → ∀ b ∈ fp, FpOk (X.blk s3 H3 scope ce fp) [] H' b := fun {σ' H' s'} I' hn b hb =>
    ⟨hn b hb, (I'.ok.exf b hb).1, I'.ok.exfs b hb, .inl hb, fun x c e => (I'.ok.exf b hb).2 x c e, fun p hp => absurd (show p ∈ ([] : List (Addr × Obj)) from hp) List.not_mem_nil⟩
  have loop : codeAny (model X.prog X.w) X.A (.compLoop (.SetComp elt [⟨tg, iter, ifs, 0⟩] scope pos) 0 (.ref it) (.ref D0) ce) (compPost (model X.prog X.w) X.A X.xe none (EP X pins σ Q) (.ref D0) s3.heap.objs.size) s4 := by
    refine PpSet.compLoopS_any (fun n s' => ∃ i H', Inv (X.blk s3 H3 scope ce fp) [] (L2.wipe σ (own.map (·.2))) H' s' ∧ tn i s'.heap ∧ (∀ b ∈ fp, H' b = none) ∧ W i n H') ?_ m0 ⟨0, H3, I4, st4, nfp, w0⟩
    rintro n s5 ⟨i, H5, I5, st5, n5, w5⟩
    rcases turn i n H5 w5 with ⟨stop, qq⟩ | ⟨go, Nx, hNx, step⟩
    · refine thnF (T.done (X.blk s3 H3 scope ce fp) rfl rfl rfl hc i [] s5 _ H5 (fun _ _ => False) I5 (stat I5 n5) st5 stop) ?_
      rintro _ s6 ⟨rfl, I6⟩
      have I7 : Inv X pins σ H5 s6 := I3.call' (ch := fp) I6.os I6.base I6.hok I6.bare fun b hb => by
        obtain ⟨⟨_, c1, _, c3, c4, c5⟩, _⟩ := f3 b hb
        exact ⟨c3, c1, c4, c5⟩
      have nC : H5 s3.heap.objs.size = none := cL ▸ (show H5 ce.locals = none from I6.free)
      obtain ⟨m, hn, _⟩ := I6.loc
      have hn : s6.heap.Ns s3.heap.objs.size m := cL ▸ (show s6.heap.Ns ce.locals m from hn)
      obtain ⟨c0, c1, c2, c3, c4, c5⟩ := I3.fpOk (Nat.le_refl _) nC
      exact ⟨m, hn, fun h'' sb => ⟨.ref D0, H5, I7.turned (t' := s6.toks) (fun b o hb e => (sb.2 b hb).trans e) c0 c1 c3 c4 c5, rfl, qq⟩⟩
    · refine thnF (T.item (X.blk s3 H3 scope ce fp) rfl rfl rfl hc i [] s5 _ H5 (fun _ _ => False) I5 (stat I5 n5) st5 go) ?_
      rintro _ s6 ⟨u, rfl, h6⟩
      refine thnF h6 ?_
      rintro _ s7 ⟨x, H7, I7, r7, y7, st7, n7⟩
      have I7' := I7.pinned (stat I7 n7) (T.obj _ _ st7)
      refine thnF (pg.run _ s7 _ H7 x u _ I7' r7 (step x H7 y7)) ?_
      rintro _ s8 ⟨σ8, H8, I8, hw8, q8⟩
      refine thnF (pt.run _ s8 σ8 H8 _ I8 q8) ?_
      rintro b s9 ⟨H9, I9, q9⟩
      have fin : ∀ {s' : Shared} {H' : Hp}, Inv (X.blk s3 H3 scope ce fp) ([] ++ pinsAt fp s7.heap) σ8 H' s' → Nx H' → ∃ m, m < n ∧ ∃ i H', Inv (X.blk s3 H3 scope ce fp) [] (L2.wipe σ (own.map (·.2))) H' s' ∧ tn i s'.heap ∧ (∀ b ∈ fp, H' b = none) ∧ W i m H' := fun {s' H'} I' nx => by
        obtain ⟨m', hm, w'⟩ := hNx H' nx
        have pin' : ∀ b ∈ fp, ∀ o, s7.heap.get? b = some o → s'.heap.get? b = some o ∧ H' b = none := fun b hb o e => by
          have z := I'.pin (b, o) (List.mem_append_right _ (List.mem_append_right _ (mem_pinsAt hb e)))
          exact ⟨z.1, z.2.1⟩
        have hl : (L2.wipe σ (own.map (·.2))).length = σ8.length := by rw [← hw8, wipe_length]
        refine ⟨m', hm, i + 1, H', (I'.unpinned (pins := [])).weak hl (fun j v e => ?_), T.keep _ _ _ st7 fun b hb o e => (pin' b hb o e).1, fun b hb => ?_, w'⟩
        · rw [← hw8] at e
          exact (wipe_some e).1
        · obtain ⟨o, e, _⟩ := T.obj _ _ st7 b hb
          exact (pin' b hb o e).2
      cases b with
      | false =>
        rw [if_neg Bool.false_ne_true] at q9 ⊢
        exact fin I9 q9
      | true =>
        rw [if_pos rfl] at q9 ⊢
        refine thnF (pe.run _ s9 σ8 H9 _ I9 q9) ?_
        rintro z s10 ⟨yv, H10, I10, r10, c, S0, n0, rfl, hD10, hz10, nx⟩
        exact addK_ok (X := X.blk s3 H3 scope ce fp) I10 hD10 hz10 r10 fun s11 I11 => fin I11 nx
  exact PpSet.codeAny_compStart_set loop (T.self X.A 0 _ _ _ st4 loop)
end
end DL
namespace DL
open PySem L2
def keyDat : Key → D
  | .inl i => .int i
  | .inr x => .str x
theorem keyDat_is {K : PySem.W.Frag} {G : Hp} {v : V} {k : Key} (h : Is K G v (keyDat k)) : v = kV k := by
  cases k with
  | inl i => exact h.int_inv
  | inr x => exact h.str_inv
instance decMemK (k : Key) (l : List Key) : Decidable (k ∈ l) := @List.instDecidableMemOfLawfulBEq Key instBEqOfDecidableEq inferInstance k l
def nub (l : List Key) : List Key := l.foldl (fun acc k => if k ∈ acc then acc else acc ++ [k]) []
theorem nub_snoc (l : List Key) (k : Key) : nub (l ++ [k]) = if k ∈ nub l then nub l else nub l ++ [k] := by
  unfold nub
  rw [List.foldl_append]
  rfl
theorem mem_nubR (l : List Key) (j : Key) : j ∈ nub l.reverse ↔ j ∈ l := by
  induction l with
  | nil => exact Iff.rfl
  | cons k l ih =>
    rw [List.reverse_cons, nub_snoc, List.mem_cons]
    split
    · rename_i h
      rw [ih]
      constructor
      · exact .inr
      · rintro (rfl | h2)
        · exact ih.mp h
        · exact h2
    · rw [List.mem_append, List.mem_singleton, ih]
      exact Or.comm
theorem mem_nub (l : List Key) (j : Key) : j ∈ nub l ↔ j ∈ l := by
  have h := mem_nubR l.reverse j
  rw [List.reverse_reverse, List.mem_reverse] at h
  exact h
theorem nub_leR (l : List Key) : (nub l.reverse).length ≤ l.length ∧ ((nub l.reverse).length = l.length ↔ l.Nodup) := by
  induction l with
  | nil => exact ⟨Nat.le_refl _, ⟨fun _ => List.nodup_nil, fun _ => rfl⟩⟩
  | cons k l ih =>
    rw [List.reverse_cons, nub_snoc, List.nodup_cons]
    split
    · rename_i h
      rw [mem_nubR] at h
      refine ⟨Nat.le_succ_of_le ih.1, ⟨fun z => ?_, fun z => absurd h z.1⟩⟩
      have := ih.1
      rw [List.length_cons] at z
      omega
    · rename_i h
      rw [mem_nubR] at h
      rw [List.length_append, List.length_cons]
      refine ⟨Nat.succ_le_succ ih.1, ⟨fun z => ⟨h, ih.2.mp (by simpa using z)⟩, fun z => ?_⟩⟩
      rw [ih.2.mpr z.2]
      rfl
theorem nub_le (l : List Key) : (nub l).length ≤ l.length := by
  have h := (nub_leR l.reverse).1
  rw [List.reverse_reverse, List.length_reverse] at h
  exact h
theorem nub_len (l : List Key) : (nub l).length = l.length ↔ l.Nodup := by
  have h := (nub_leR l.reverse).2
  rw [List.reverse_reverse, List.length_reverse, (List.reverse_perm l).nodup_iff] at h
  exact h
section
variable {X : Cx} {an : An} {dr : Option Dr} {ρ : Rho} {elt tg iter : Expr} {scope : Scope} {pos p pos' : Pos} {Q : R → Om → Prop} {js : List Nat} {f : TgF} {own : List (PySem.Str × Nat)}
theorem cb_lenK : CallR X (.builtin "len") (fun xs H Q => ∃ a S n, xs = [.ref a] ∧ H a = some (SetK X.prog X.w a S n) ∧ Q (.int (n : Nat)) H) := by
  intro pins s σ H xs us Q I r h
  obtain ⟨a, S, n, rfl, ha, q⟩ := h
  obtain ⟨u, rfl, rx⟩ := vals1 r
  cases rx
  obtain ⟨o, es, ep, t, ho, hex, hd, hel, hS, hb, hf, hn⟩ := setK_get I ha
  have hz : (es.size : Int) < 2 ^ 63 := by
    have : es.size < 2 ^ 62 := Nat.lt_trans hb (by decide)
    omega
  subst hn
  exact call_len_set ho hex hd hf hz ⟨.int _, H, I.tok _, ⟨_, rfl⟩, q⟩
/-- an object that nobody speaks of -/
theorem Good.junk {K : PySem.W.Frag} {om : Om} {τ : List Addr} {G H : Hp} {p : Addr} {o : HO} (g : Good K an dr om τ G H) (hp : H p = none) : Good K an dr om τ G (upd H p o) where
  ex := g.ex.mut (g.ex.free hp)
  len := g.len
  nd := g.nd
  own := fun k q ds h1 h2 => by
    obtain ⟨e1, e2, e3, vs, e4, e5⟩ := g.own k q ds h1 h2
    exact ⟨e1, e2, e3, vs, by rw [upd_ne (ne_of_none e4 hp)]; exact e4, e5⟩
  drg := fun y hy => by
    obtain ⟨⟨gr, ce, re, tu, h1, h2, h3⟩, h4⟩ := g.drg y hy
    exact ⟨⟨gr, ce, re, tu, by rw [upd_ne (ne_of_none h1 hp)]; exact h1, by rw [upd_ne (ne_of_none h2 hp)]; exact h2, by rw [upd_ne (ne_of_none h3 hp)]; exact h3⟩, h4⟩
  a1 := g.a1
  a2 := fun a o' h1 h2 => by
    have q := g.a2 a o' h1 h2
    rw [upd_ne (ne_of_none q hp)]; exact q
  a3 := g.a3
  a4 := fun k q h1 => by
    obtain ⟨h0, o', h2⟩ := g.a4 k q h1
    exact ⟨h0, o', by rw [upd_ne (ne_of_none h2 hp)]; exact h2⟩
theorem Good.junkW {K : PySem.W.Frag} {G H : Hp} {p : Addr} {o : HO} (g : Good K an dr [] [] G H) (hG : G p = none) (h0 : an.H0 p = none) (hof : Off dr p) : Good K an dr [] [] G (upd H p o) where
  ex := g.ex.mut hG
  len := rfl
  nd := g.nd
  own := fun k q ds h1 _ => by simp at h1
  drg := fun y hy => by
    obtain ⟨⟨gr, ce, re, tu, h1, h2, h3⟩, h4⟩ := g.drg y hy
    obtain ⟨n1, n2, n3⟩ := hof y hy
    exact ⟨⟨gr, ce, re, tu, by rw [upd_ne n1.symm]; exact h1, by rw [upd_ne n2.symm]; exact h2, by rw [upd_ne n3.symm]; exact h3⟩, h4⟩
  a1 := g.a1
  a2 := fun a o' h1 h2 => by
    rw [upd_ne (ne_of_none h1 h0)]; exact g.a2 a o' h1 h2
  a3 := g.a3
  a4 := fun k q h1 => by simp at h1
theorem Good.claim {K : PySem.W.Frag} {G H : Hp} {p : Addr} {o : HO} (g : Good K an dr [] [] G H) (hG : G p = none) (h0 : an.H0 p = none) (hof : Off dr p) : Good K an dr [] [] (upd G p o) (upd H p o) where
  ex := g.ex.both
  len := rfl
  nd := g.nd
  own := fun k q ds h1 _ => by simp at h1
  drg := fun y hy => by
    obtain ⟨⟨gr, ce, re, tu, h1, h2, h3⟩, h4, h5, h6⟩ := g.drg y hy
    obtain ⟨n1, n2, n3⟩ := hof y hy
    exact ⟨⟨gr, ce, re, tu, by rw [upd_ne n1.symm]; exact h1, by rw [upd_ne n2.symm]; exact h2, by rw [upd_ne n3.symm]; exact h3⟩, by rw [upd_ne n1.symm]; exact h4, by rw [upd_ne n2.symm]; exact h5, by rw [upd_ne n3.symm]; exact h6⟩
  a1 := g.a1.trans (Ex.new hG)
  a2 := fun a o' h1 h2 => by
    rw [upd_ne (ne_of_none h1 h0)]; exact g.a2 a o' h1 h2
  a3 := fun a h1 h2 => by
    have z : a ≠ p := fun z => h1 (z ▸ h0)
    rw [upd_ne z]; exact g.a3 a h1 h2
  a4 := fun k q h1 => by simp at h1
theorem Good.here {K : PySem.W.Frag} {G H : Hp} (g : Good K an dr [] [] G H) : Good K ⟨G, H⟩ dr [] [] G H where
  ex := g.ex
  len := rfl
  nd := g.nd
  own := fun k q ds h1 _ => by simp at h1
  drg := g.drg
  a1 := Ex.refl G
  a2 := fun _ _ h _ => h
  a3 := fun _ _ h => h
  a4 := fun k q h1 => by simp at h1
/-- what a turn adds -/
def EltK (X : Cx) (dr : Option Dr) (scope : Scope) (elt : Expr) (ρ2 : Rho) (N : Key → Prop) : Prop :=
  ∀ an s H C cl fp, WE (XB X scope s H C cl fp) an dr ρ2 [] elt fun r om3 => om3 = [] ∧ ∃ k, r = .v (keyDat k) ∧ N k
/-- len({elt for tg in iter}) -/
theorem we_lenSc (hm : X.mg "len" = none) (hc : X.calm = true) (hN : X.N.Nodup) (hl : X.N.length = ρ.length) (own : List (PySem.Str × Nat)) (ok : BlkOk X.N X.env.scope scope own) (hg : ∀ an s H C cl fp, WG (XB X scope s H C cl fp) an dr tg js f) (hj : ∀ i ∈ js, i ∈ own.map (·.2))
    (hi : WI X an dr ρ [] tg iter fun ds om1 => om1 = [] ∧ ds.length ≤ 1000 ∧ ∃ P : Nat → List Key → Prop, P 0 [] ∧ (∀ i d acc, ds[i]? = some d → acc.length = i → P i acc → f d (wipeR ρ (own.map (·.2))) fun ρ2 => EltK X dr scope elt ρ2 fun k => P (i + 1) (acc ++ [k])) ∧ ∀ acc, acc.length = ds.length → P ds.length acc → Q (.v (.int ((nub acc).length : Nat))) [])
    (hgl : Gl X "len" := by rfl) (hs : ∀ x, foldedSetIterable iter X.env x = pure x := by intro _; rfl) (hst : starEach [.SetComp elt [⟨tg, iter, [], 0⟩] scope pos] X.env = (false, eval (.SetComp elt [⟨tg, iter, [], 0⟩] scope pos) X.env) :: starEach [] X.env := by rfl) (hpl : (backTo pos' (starEach [] X.env)).any (·.1) = false := by rfl) :
    WE X an dr ρ [] (.Call (.Name "len" p) [.SetComp elt [⟨tg, iter, [], 0⟩] scope pos] [] pos') Q := by
  have te : ∀ s H C cl fp, PE (XB X scope s H C cl fp) elt (fun σ H K' => ∃ ρ Q an, (∀ s H C cl fp, WE (XB X scope s H C cl fp) an dr ρ [] elt Q) ∧ tD X.K an dr ρ [] Q σ H K') := fun s H C cl fp => ⟨fun pins s1 σ H1 K' I ⟨ρ, Q, an, w, h⟩ => PE.run (w s H C cl fp) pins s1 σ H1 K' I h⟩
  have tgU : ∀ s H C cl fp, PG (XB X scope s H C cl fp) tg (fun v σ H Q => ∃ an, tDG X.K an dr js f v σ H Q) := fun s H C cl fp => ⟨fun pins s1 σ H1 v u Q I r ⟨an, h⟩ => (hg an s H C cl fp).1.run pins s1 σ H1 v u Q I r h⟩
  refine ⟨fun pins s σ H K' I q => (pe_callB cb_lenK hgl hm PySem.boot_len (pa_cons (pe_scK hc hN hi ok tgU (fun _ _ _ _ _ => pts_nil) te hs) pa_nil hst) (by decide) (by decide) hst hpl).run pins s σ H K' I ?_⟩
  obtain ⟨τ, G, g, n, k⟩ := q
  have hls : σ.length = ρ.length := I.len.trans hl
  refine ⟨τ, G, g, n, fun J ds om1 τ1 G1 H1 ⟨ho, hz, P, p0, ps, pe⟩ _ g1 gr1 jk D0 hD => ?_⟩
  subst ho
  obtain rfl : τ1 = [] := by have := g1.len; simpa using this.symm
  have gD : G1 D0 = none := g1.ex.free hD
  have z0 : an.H0 D0 = none := g1.free0 hD
  have zo : Off dr D0 := g1.off hD
  refine ⟨fun i m H => m = ds.length - i ∧ i ≤ ds.length ∧ ∃ acc G2 S, acc.length = i ∧ P i acc ∧ (∀ j, S j = decide (j ∈ acc)) ∧ H D0 = some (SetK X.prog X.w D0 S (nub acc).length) ∧ G2 D0 = none ∧ Good X.K an dr [] [] G2 H ∧ Grow G1 [] G2 [], ⟨ds.length, by simp, Nat.zero_le _, [], G1, _, rfl, p0, fun j => by simp, upd_same, gD, g1.junk hD, Grow.refl _ _⟩, ?_⟩
  rintro i m H ⟨rfl, hil, acc, G2, S, ha, p, hS, hset, gD2, g2, gr2⟩
  -- as seen from here, everything that stands stays
  have gh : Good X.K ⟨G2, H⟩ dr [] [] G2 H := g2.here
  have J2 := jk ⟨G2, H⟩ [] [] G2 H gh gr2 i
  by_cases hlt : i < ds.length
  · have hd : ds[i]? = some ds[i] := List.getElem?_eq_getElem hlt
    obtain ⟨go, J3⟩ := J2.2 _ hd
    refine .inr ⟨go, fun H' => ∃ acc G2 S, acc.length = i + 1 ∧ P (i + 1) acc ∧ (∀ j, S j = decide (j ∈ acc)) ∧ H' D0 = some (SetK X.prog X.w D0 S (nub acc).length) ∧ G2 D0 = none ∧ Good X.K an dr [] [] G2 H' ∧ Grow G1 [] G2 [], fun H' q => ⟨ds.length - (i + 1), by omega, rfl, hlt, q⟩, fun x H3 y => ?_⟩
    obtain ⟨G3, g3, gr3, i3⟩ := J3 x H3 y
    have n3 : EnvIs X.K G3 [] σ ρ := EnvIs.mono ((gr1.trans gr2).trans gr3) n
    refine ⟨⟨G2, H⟩, [], [], G3, _, _, _, g3, n3.wipes _, by rw [wipe_length, wipeR_length]; exact hls, i3, ps i _ acc hd ha p, fun σ4 ρ4 w n4 l3 l4 o4 => ⟨?_, ?_⟩⟩
    · have z := o4 (own.map (·.2)) hj
      rw [z]
      apply List.ext_getElem?
      intro j
      rw [wipe_get, wipe_get, wipe_length]
      by_cases hj : j ∈ own.map (·.2)
      · rw [if_pos hj, if_pos hj]
      · rw [if_neg hj, if_neg hj]
    · refine ⟨ρ4, _, ⟨G2, H⟩, w ⟨G2, H⟩, [], G3, g3, n4, fun v r om5 τ5 G5 H5 h5 ⟨ho5, c, hr, N⟩ g5 gr5 => ?_⟩
      subst ho5 hr
      obtain rfl : τ5 = [] := by have := g5.len; simpa using this.symm
      have set5 : H5 D0 = some (SetK X.prog X.w D0 S (nub acc).length) := g5.a2 D0 _ hset zo
      have gD5 : G5 D0 = none := g5.a3 D0 (by show H D0 ≠ none; rw [hset]; exact fun z => nomatch z) gD2
      have ev : v = kV c := by cases h5 with | v h5 => exact keyDat_is h5
      have room : (nub acc).length + 1 < scanBound := Nat.lt_of_le_of_lt (Nat.succ_le_succ (nub_le acc)) (Nat.lt_of_le_of_lt (by omega : acc.length + 1 ≤ 1001) (by decide))
      refine ⟨c, S, _, ev, set5, room, acc ++ [c], G5, fun j => S j || decide (j = c), by rw [List.length_append]; show acc.length + 1 = i + 1; omega, N, fun j => ?_, ?_, gD5, ?_, gr2.trans (gr3.trans gr5)⟩
      · show (S j || decide (j = c)) = _
        rw [hS j, Bool.eq_iff_iff, Bool.or_eq_true, decide_eq_true_eq, decide_eq_true_eq, decide_eq_true_eq, List.mem_append, List.mem_singleton]
      · rw [upd_same]
        unfold sKadd
        have e : (if S c = true then (nub acc).length else (nub acc).length + 1) = (nub (acc ++ [c])).length := by
          rw [nub_snoc, hS c]
          by_cases q : c ∈ acc
          · rw [if_pos (decide_eq_true q), if_pos ((mem_nub acc c).mpr q)]
          · rw [if_neg (by simp [q]), if_neg (fun z => q ((mem_nub acc c).mp z)), List.length_append]
            rfl
        rw [e]
      · have g6 := g2.call (gr3.ex.trans gr5.ex) g5.ex g5.drg g5.a2 g5.a3
        exact g6.junkW gD5 z0 zo
  · have e : i = ds.length := by omega
    refine .inl ⟨J2.1 e, D0, S, _, rfl, hset, ?_⟩
    subst e
    exact k _ _ _ [] G2 H (.v (.int _)) (pe acc ha p) g2 (gr1.trans gr2)
end
end DL

namespace DL
open PySem L2
section
variable {X : Cx} {an : An} {dr : Option Dr} {ρ : Rho} {om : Om} {e a b o : Expr} {es : List Expr} {pos p : Pos} {Q : R → Om → Prop}
/-- -e -/
theorem we_neg (h : WE X an dr ρ om e fun r om1 => intR r fun i => Q (.v (.int (-i))) om1) : WE X an dr ρ om (.UnaryOp .USub e pos) Q :=
  peI (pe_un un_neg (pe_u (an := an) (dr := dr))) fun σ H K' ⟨τ, G, g, n, k⟩ => uE_of h g n fun v r om1 τ1 G1 H1 h1 w g1 gr1 n1 => by
    obtain ⟨i, rfl, _, w⟩ := intR_is h1 w
    exact ⟨i, rfl, k _ _ om1 τ1 G1 H1 (.v (.int _)) w g1 gr1⟩
/-- xs[::-1] -/
theorem we_rev {k0 : Nat} {p1 p2 p3 : Pos} (h : WE X an dr ρ om e fun r om1 => ∃ ds, vw om1 r = .lst ds ∧ Q (.v (.lst ds.reverse)) om1) : WE X an dr ρ om (.Subscript e (.Slice none none (some (.UnaryOp .USub (.Constant (.int 1) k0 p1) p2)) p3) pos) Q :=
  peI (pe_revL (pe_u (an := an) (dr := dr))) fun σ H K' ⟨τ, G, g, n, k⟩ => uE_of h g n fun v r om1 τ1 G1 H1 h1 w g1 gr1 n1 => by
    obtain ⟨ds, ev, q⟩ := w
    obtain ⟨q0, vs, rfl, hp, il⟩ := vw_lst g1 h1 ev
    exact ⟨q0, vs, rfl, .inl (.inl hp), fun l hl => k _ _ om1 τ1 _ _ (.v (.lst upd_same (il.reverse.mono (Ex.new (g1.ex.free hl))))) q (g1.alloc hl) (gr1.trans (g1.grow hl))⟩
/-- {} -/
theorem we_dic0 (q : Q (.v (.dic [])) om) : WE X an dr ρ om (.Dict [] [] pos) Q :=
  peI pe_dnewK fun σ H K' ⟨τ, G, g, n, k⟩ l hl => k _ _ om τ _ _ (.v (.dic (.inl upd_same) .nil)) q (g.alloc hl) (g.grow hl)
/-- {key: value} of a constant key -/
theorem we_dic1 {kc : Key} {ke ve : Expr} (hk : PE X ke (tC (kV kc))) (h : ∀ an, WE X an dr ρ [] ve fun r om1 => om1 = [] ∧ ∃ d, r = .v d ∧ Q (.v (.dic [(kc, d)])) []) : WE X an dr ρ [] (.Dict [some ke] [ve] pos) Q := by
  have te : PE X ve (fun σ H K' => ∃ ρ Q an, WE X an dr ρ [] ve Q ∧ tD X.K an dr ρ [] Q σ H K') := ⟨fun pins s1 σ H1 K' I ⟨ρ, Q, an, w, h⟩ => PE.run w pins s1 σ H1 K' I h⟩
  refine peI (pe_disp (pps_cons hk te pps_nil) rfl rfl (List.cons_ne_nil _ _) (by show 1 ≤ 15; decide)) fun σ H K' ⟨τ, G, g, n, k⟩ D0 hD => ?_
  obtain rfl : τ = [] := by have := g.len; simpa using this.symm
  have z0 : an.H0 D0 = none := g.free0 hD
  have zo : Off dr D0 := g.off hD
  have gD : G D0 = none := g.ex.free hD
  have gj : Good X.K an dr [] [] G (upd H D0 (.dK [])) := g.junk hD
  refine ⟨ρ, _, ⟨G, upd H D0 (.dK [])⟩, h _, [], G, gj.here, n, fun v r om5 τ5 G5 H5 h5 ⟨ho5, d, hr, q⟩ g5 gr5 => ?_⟩
  subst ho5 hr
  obtain rfl : τ5 = [] := by have := g5.len; simpa using this.symm
  have d5 : H5 D0 = some (.dK []) := g5.a2 D0 _ upd_same zo
  have gD5 : G5 D0 = none := g5.a3 D0 (by show upd H D0 (.dK []) D0 ≠ none; rw [upd_same]; exact fun z => nomatch z) gD
  refine ⟨d5, [(kc, v)], rfl, by show 1 ≤ 15; decide, ?_⟩
  have g6 := gj.call gr5.ex g5.ex g5.drg g5.a2 g5.a3
  have e7 : mergeK [] [(kc, v)] = [(kc, v)] := rfl
  rw [e7]
  cases h5 with
  | v h5 =>
    have ex7 : Ex G5 (upd G5 D0 (.dK [(kc, v)])) := Ex.new gD5
    refine k _ _ _ [] (upd G5 D0 (.dK [(kc, v)])) _ (.v (.dic (.inl upd_same) (.cons (h5.mono ex7) .nil))) q ?_ (gr5.trans ⟨ex7, fun _ _ h => h⟩)
    exact g6.claim gD5 z0 zo
/-- len(script) -/
theorem we_lenScr {ad : Addr} {ns : List Int} (hS : SqL X.K an.H0 ad (ns.map V.int)) (hof : an.H0 ad ≠ none → Off dr ad) (hm : X.mg "len" = none) (h : WE X an dr ρ om e fun r om1 => r = .v (.obj ad) ∧ Q (.v (.int (ns.length : Nat))) om1) (hg : Gl X "len" := by rfl)
    (he : starEach [e] X.env = (false, eval e X.env) :: starEach [] X.env := by rfl) (hpl : (backTo pos (starEach [] X.env)).any (·.1) = false := by rfl) : WE X an dr ρ om (.Call (.Name "len" p) [e] [] pos) Q :=
  peI (pe_callB call_len_seq hg hm PySem.boot_len (pa_cons (pe_u (an := an) (dr := dr)) pa_nil he) (by decide) (by decide) he hpl) fun σ H K' ⟨τ, G, g, n, k⟩ => uE_of h g n fun v r om1 τ1 G1 H1 h1 w g1 gr1 n1 => by
    obtain ⟨rfl, w⟩ := w
    cases h1 with
    | v h1 =>
      cases h1
      have s1 : SqL X.K H1 ad (ns.map V.int) := by
        rcases hS with (h | ⟨o, h⟩) | h
        · exact .inl (.inl (g1.a2 _ _ h (hof (by rw [h]; exact fun z => nomatch z))))
        · exact .inl (.inr ⟨o, g1.a2 _ _ h (hof (by rw [h]; exact fun z => nomatch z))⟩)
        · exact .inr h
      exact ⟨ad, _, rfl, .inl s1, k _ _ om1 τ1 G1 H1 (.v (by rw [List.length_map]; exact .int _)) w g1 gr1⟩
def uSd (X : Cx) (an : An) (sts : List Stmt) : TS := fun Z σ H => ∃ dr, uS X an dr sts Z σ H
theorem pss_ud {sts : List Stmt} : PSs X sts (uSd X an sts) := ⟨fun pins s σ H Z I ⟨dr, h⟩ => pss_u.run pins s σ H Z I h⟩
end
/-- the law's promise -/
def spLaw (K : PySem.W.Frag) : Sp := fun vs H Q _ => ∃ (a : Addr) (ns : List Int), vs = [.ref a] ∧ SqL K H a (ns.map V.int) ∧ ns.length ≤ 63 ∧ ∀ v H', v = .bl true → Q v H'
/-- what begin promises: the draws' three objects are new -/
def spBegin (K : PySem.W.Frag) : Sp := fun vs H Q _ => ∃ (a : Addr) (ns : List Int), vs = [.ref a] ∧ SqL K H a (ns.map V.int) ∧ ns.length ≤ 63 ∧
  ∀ (x : Dr) (H' : Hp), H x.d = none → H x.g = none → H x.c = none → x.c ≠ x.g → x.cs.length ≤ sizeLine → DrawIn H' x → (∀ b o, H b = some o → H' b = some o) → Q (.ref x.d) H'
structure HasB (P : Program) (w : World) (K : PySem.W.Frag) (mg : Str → Option Value) (base : Heap) (k : Nat) (x : Str) (ps : List Str) : Prop where
  ex : ∃ f fd, FnG P w K mg base CX0 k f fd ps (spBegin K) ∧ mg x = some (.ref f) ∧ PySem.W.keepIn K (.ref f) = true ∧ Binds K fd ps []
section
variable {P : Program} {w : World} {K : PySem.W.Frag} {mg : Str → Option Value} {base : Heap} {N : List Str} {k : Nat}
/-- a law that begins with draw = begin(script) -/
theorem law_by {qual : Str} {st : Stmt} {f : Addr} {fd : FuncData} {xs : Str} {pr : Str} {ps1 : List Str} {sts : List Stmt} {pd pn pa pc pb : Pos} {xd xb : Str} (F : Fun K "law" qual st f fd) (S : FnScope N [pr] (defScope st)) (hb : HasB P w K mg base k xb ps1) (hbd : defBody st = .Assign [.Name xd pd] (.Call (.Name xb pn) [.Name xs pa] [] pc) pb :: sts)
    (h0 : N[0]? = some xs) (h1 : N[1]? = some xd) (hv0 : Vis (defScope st) xs) (hl1 : Loc (defScope st) xd) (hgl : (defScope st).names.lookup xb = some .globalImplicit)
    (hd0 : (xs == ("__debug__" : Str)) = false) (hd1 : (xs == ("__classdict__" : Str)) = false) (hdb : (xb == ("__debug__" : Str)) = false)
    (hbody : ∀ (cdv : Value) (A : Around) (outer : List Env) (s : Shared) (H : Hp) (E : XK) (a : Addr) (ns : List Int) (x : Dr), Room k (A.deeper (PyProof.Rows.envOfC qual (defScope st) s.heap.objs.size f cdv)) → A.guards = some [] → SqL K H a (ns.map V.int) → ns.length ≤ 63 → (H a ≠ none → Off (some x) a) → x.c ≠ x.g → x.cs.length ≤ sizeLine →
      WSs (cxOf CX0 P w K mg base N qual (defScope st) f cdv A outer s H E).nox ⟨fun _ => none, H⟩ (some x) (some (.v (.obj a)) :: some (.v (.obj x.d)) :: List.replicate (N.length - 2) none) [] sts { nx := fun _ _ => False, rt := fun d => d = .bl true }) : FnG P w K mg base CX0 (k + 1) f fd [pr] (spLaw K) := by
  obtain ⟨fB, fdB, FB, hm, hk, hbi⟩ := hb.ex
  refine FnG.by F S (fun vs H Q E h => ?_) (fun cdv A outer s H vs Q E hr gd h => ?_)
  · obtain ⟨a, ns, rfl, _⟩ := h
    rfl
  · obtain ⟨a, ns, rfl, hS, hlen, kk⟩ := h
    rw [hbd]
    have hpe : PE (cxOf CX0 P w K mg base N qual (defScope st) f cdv A outer s H E).nox (.Call (.Name xb pn) [.Name xs pa] [] pc) (tCall (spBegin K) [] E0 (tCons (tVar 0) tNil)) := by
      refine pe_callG FB hr gd ?_ hm hk hbi pass0 (pa_cons (pe_var h0 hv0 hd0 hd1) pa_nil rfl) hdb rfl rfl
      exact hgl
    refine ⟨_, PSs.nox (pss_cons (ps_set (i := 1) S.nd h1 hl1 hpe rfl (.inl rfl)) (pss_ud (an := ⟨fun _ => none, H⟩))), ?_⟩
    have l2 : 2 ≤ N.length := by
      have := (List.getElem?_eq_some_iff.mp h1).1
      omega
    have est : L2.start N [.ref a] = some (.ref a) :: none :: List.replicate (N.length - 2) none := by
      obtain ⟨m, hm2⟩ : ∃ m, N.length = m + 2 := ⟨N.length - 2, by omega⟩
      unfold L2.start
      rw [hm2]
      show some (V.ref a) :: List.replicate (m + 2 - 1) none = _
      have e1 : m + 2 - 1 = m + 1 := by omega
      have e2 : m + 2 - 2 = m := by omega
      rw [e1, e2, List.replicate_succ]
    rw [est]
    refine ⟨_, rfl, a, ns, rfl, hS, hlen, fun x H' z1 z2 z3 hgc hz dI same => ?_⟩
    have hof : H a ≠ none → Off (some x) a := fun z y hy => by
      cases hy
      refine ⟨fun q => ?_, fun q => ?_, fun q => ?_⟩
      · rw [q, z1] at z; exact z rfl
      · rw [q, z2] at z; exact z rfl
      · rw [q, z3] at z; exact z rfl
    refine ⟨some x, _, _, _, hbody cdv A outer s H E a ns x hr gd hS hlen hof hgc hz, [], fun _ => none, ?_, fun i r e => ?_, ?_, fun σ' H' q => ?_, fun v H' q => ?_, fun σ' H' q => ?_, fun σ' H' q => ?_⟩
    · exact ⟨(fun _ _ q => by cases q), rfl, List.nodup_nil, fun k p ds q => by simp at q, fun y hy => by cases hy; exact ⟨dI, rfl, rfl, rfl⟩, (fun _ _ q => by cases q), fun b o q _ => same b o q, fun _ _ _ => rfl, fun k p q => by simp at q⟩
    · match i, e with
      | 0, e => cases e; exact ⟨_, rfl, .v (.obj a)⟩
      | 1, e => cases e; exact ⟨_, rfl, .v (.obj x.d)⟩
      | i + 2, e =>
        have e' : (List.replicate (N.length - 2) (none : Option R))[i]? = some (some r) := e
        rw [List.getElem?_replicate] at e'
        split at e' <;> cases e'
    · show (List.length _) = _
      simp
    · obtain ⟨_, _, _, _, z, _⟩ := q
      exact z.elim
    · obtain ⟨d, _, _, _, rfl, i, _⟩ := q
      cases i
      exact kk _ _ rfl
    · obtain ⟨_, _, _, _, z, _⟩ := q
      exact z.elim
    · obtain ⟨_, _, _, _, z, _⟩ := q
      exact z.elim
end
end DL

namespace DL
open PySem L2
section
variable {X : Cx} {an : An} {dr : Option Dr} {ρ : Rho} {om : Om} {a b : Expr} {pos : Pos}
/-- a, b = x, y by way of a tuple (a name that a comprehension reads) -/
theorem ws_parC {i j : Nat} {x y : Str} {px py pt : Pos} {kt k2 pt2} {E : Ed} (hc : X.calm = true) (hN : X.N.Nodup) (hi : X.N[i]? = some x) (hj : X.N[j]? = some y) (hx : Loc X.env.scope x) (hy : Loc X.env.scope y)
    (h : WA X an dr ρ om [a, b] fun rs om1 => ∃ r1 r2, rs = [r1, r2] ∧ E.nx ((ρ.set i (some r1)).set j (some r2)) om1)
    (hw : swappedStores [.Tuple [.Name x px, .Name y py] kt pt] (.Tuple [a, b] k2 pt2) X.env = pure none := by rfl) (hs : swapsWithSole [.Tuple [.Name x px, .Name y py] kt pt] (.Tuple [a, b] k2 pt2) pos.line X.env = pure false := by rfl)
    (h1 : (assignEach [.Tuple [.Name x px, .Name y py] kt pt] X.env).map (·.2) = [assign (.Tuple [.Name x px, .Name y py] kt pt) X.env] := by rfl) (hn : (assignEach [.Name x px, .Name y py] X.env).length = 2 := by rfl) (hst : (assignEach [.Name x px, .Name y py] X.env).findIdx? (·.1) = none := by rfl)
    (hs1 : (assignEach [.Name x px, .Name y py] X.env).map (·.2) = assign (.Name x px) X.env :: (assignEach [.Name y py] X.env).map (·.2) := by rfl) (hs2 : (assignEach [.Name y py] X.env).map (·.2) = assign (.Name y py) X.env :: (assignEach [] X.env).map (·.2) := by rfl)
    (hfx : X.fn x = true ∨ X.env.scope.names.lookup x = some .local := by first | exact .inl rfl | exact .inr rfl | assumption) (hfy : X.fn y = true ∨ X.env.scope.names.lookup y = some .local := by first | exact .inl rfl | exact .inr rfl | assumption) :
    WS X an dr ρ om (.Assign [.Tuple [.Name x px, .Name y py] kt pt] (.Tuple [a, b] k2 pt2) pos) E :=
  psI (ps_asg (pe_tup (pa_u (an := an) (dr := dr))) (pg_seq hc (pgs_cons (pg_name (i := i) hN hi hx hfx) (pgs_cons (pg_name (i := j) hN hj hy hfy) pgs_nil hs2) hs1) hn hst) hs hw h1) fun Z σ H ⟨τ, G, g, n, hl, h1, _⟩ => uA_of h g n fun vs rs om1 τ1 G1 H1 i1 w g1 gr1 n1 => by
    obtain ⟨r1, r2, rfl, w⟩ := w
    cases i1 with
    | @cons v1 _ _ _ a1 i1 =>
      cases i1 with
      | @cons v2 _ _ _ a2 i1 =>
        cases i1
        refine ⟨by show 2 ≤ sizeLine; decide, fun p hp => .inl ⟨_, _, rfl, .inl (.inl upd_same), rfl, _, _, rfl, _, _, rfl, rfl, ?_⟩⟩
        have gr2 := g1.grow (o := .tup [v1, v2]) hp
        exact h1 _ _ ⟨_, om1, τ1, _, w, g1.alloc hp, ((n1.mono gr2).set hl (a1.mono gr2)).set (by rw [List.length_set, List.length_set]; exact hl) (a2.mono gr2), gr1.trans gr2, by rw [List.length_set, List.length_set]; exact hl, by rw [List.length_set, List.length_set]⟩
end
end DL

namespace K16
open PySem L2 DL
def top (i : Nat) : Stmt := PySem.Challenge.pw_otherworths_k16_rings_judged.main.body.getD i (.Pass ⟨0, 0, 0, 0⟩)
abbrev t_is_number : Stmt := top 6
abbrev t_is_name : Stmt := top 7
abbrev t_is_bound : Stmt := top 10
abbrev t_need_bounds : Stmt := top 11
abbrev t_is_ring_of : Stmt := top 12
abbrev t_is_ring : Stmt := top 13
abbrev t_begin : Stmt := top 15
abbrev t_blend : Stmt := top 16
abbrev t_take : Stmt := top 17
/-! ### the draws: blend, take -/
theorem hu65 {k : Nat} {A : Around} (hr : Room k A) : A.units + 65 < cLine := by have := hr.un; omega
theorem hu64 {k : Nat} {A : Around} (hr : Room k A) : A.units + 64 < cLine := by have := hr.un; omega
theorem hu66 {k : Nat} {A : Around} (hr : Room k A) : A.units + 66 < cLine := by have := hr.un; omega
theorem hu1 {k : Nat} {A : Around} (hr : Room k A) : A.units + 1 < cLine := by have := hr.un; omega
section
variable {P : Program} {w : World} {K : PySem.W.Frag} {mg : Str → Option Value} {base : Heap} {x : Dr}
theorem sc_law_blend : FnScope ["_law_draw", "_law_turn", "_law_found", "_law_prime", "_law_blend_here", "_law_cell"] ["_law_draw"] (defScope t_blend) := ⟨rfl, rfl, rfl, by decide +kernel, rfl, by decide +kernel, by decide +kernel⟩
theorem ok_law_blend {f : Addr} {fd : FuncData} (F : Fun K "_law_blend" "_law_blend" t_blend f fd) (m_int : mg "int" = none) (hz : x.cs.length ≤ sizeLine) : FnG P w K mg base CX0 1 f fd ["_law_draw"] (spD K (some x) (W_blend x)) := by
  refine fnD F sc_law_blend (fun ds Q h => by obtain ⟨rfl, _⟩ := h; rfl) fun cdv A outer s H E an ds post hr gd hW => ?_
  obtain ⟨rfl, hW⟩ := hW
  have hu := hu65 hr
  refine wss_cons (ws_set (i := 1) sc_law_blend.nd rfl (.inl rfl) (we_bin (we_drTurn (hu1 hr) (we_name (i := 0) rfl (.inl rfl) rfl ⟨rfl, fun tu => we_int ?_⟩))))
  refine wss_cons (ws_drTurn (hu1 hr) (we_name (i := 1) rfl (.inl rfl) rfl (we_name (i := 0) rfl (.inl rfl) rfl ⟨rfl, ?_⟩)))
  refine (wss_cons (ws_set (i := 2) sc_law_blend.nd rfl (.inl rfl) (we_int (wss_cons (ws_for PassesOwn.never rfl (wg_name (i := 3) sc_law_blend.nd rfl (.inl rfl)) (wi_seq (we_lst (wa_cons (we_int (wa_cons (we_int (wa_cons (we_int (wa_cons (we_int (wa_nil ?_))))))))))))))))
  refine ⟨by show 4 ≤ sizeLine; decide, ?_⟩
  refine ⟨fun i ρ om => ∃ (fo : Int) (a b c : Option R), ρ = [some (.v (.obj x.d)), some (.v (.int (tu + 1))), some (.v (.int fo)), a, b, c] ∧ om = [], ⟨0, none, none, none, rfl, rfl⟩, fun i d ρ om hl hd hp => ?_, fun ρ om hl hp => ?_⟩
  · obtain ⟨fo, a, b, c, rfl, rfl⟩ := hp
    obtain ⟨p, rfl, p0, p1⟩ : ∃ p : Int, d = .int p ∧ 0 < p ∧ p < 2147483648 := by
      match i, hd with
      | 0, hd => cases hd; exact ⟨_, rfl, by decide, by decide⟩
      | 1, hd => cases hd; exact ⟨_, rfl, by decide, by decide⟩
      | 2, hd => cases hd; exact ⟨_, rfl, by decide, by decide⟩
      | 3, hd => cases hd; exact ⟨_, rfl, by decide, by decide⟩
      | i + 4, hd => cases hd
    refine (wss_cons (ws_set (i := 4) sc_law_blend.nd rfl (.inl rfl) (we_bin (we_bty cb_int m_int PyProof.Rows.boot_int intF_mono (wa_cons (we_bin (we_bin (we_name (i := 1) rfl (.inl rfl) rfl (we_int ?_)))))))))
    refine ⟨.inr ⟨by decide, by decide⟩, ?_⟩
    refine (we_bin (we_name (i := 3) rfl (.inl rfl) rfl (we_int ?_)))
    refine ⟨⟨by decide, by decide⟩, ?_⟩
    refine (wa_nil (we_name (i := 3) rfl (.inl rfl) rfl ?_))
    refine ⟨p0, ?_⟩
    refine (wss_cons (ws_for PassesOwn.never rfl (wg_name (i := 5) sc_law_blend.nd rfl (.inl rfl)) (wi_drCells (hu1 hr) hz (we_name (i := 0) rfl (.inl rfl) rfl ⟨rfl, ?_⟩))))
    refine ⟨fun i ρ om => ∃ (bh : Int) (c : Option R), ρ = [some (.v (.obj x.d)), some (.v (.int (tu + 1))), some (.v (.int fo)), some (.v (.int p)), some (.v (.int bh)), c] ∧ om = [] ∧ 0 ≤ bh ∧ bh < p, ⟨_, c, rfl, rfl, Int.emod_nonneg _ (by omega), Int.emod_lt_of_pos _ p0⟩, fun i d ρ om hl hd hp => ?_, fun ρ om hl hp => ?_⟩
    · obtain ⟨bh, c, rfl, rfl, b0, b1⟩ := hp
      obtain ⟨ce, rfl⟩ : ∃ ce : Int, d = .int ce := by
        rw [List.getElem?_map] at hd
        cases e : x.cs[i]? with
        | none => rw [e] at hd; cases hd
        | some ce => rw [e] at hd; cases hd; exact ⟨ce, rfl⟩
      refine (wss_one (ws_set (i := 4) sc_law_blend.nd rfl (.inl rfl) (we_bin (we_bty cb_int m_int PyProof.Rows.boot_int intF_mono (wa_cons (we_bin (we_bin (we_name (i := 4) rfl (.inl rfl) rfl (we_int ?_)))))))))
      refine ⟨.inr ⟨by decide, by decide⟩, ?_⟩
      refine (we_name (i := 5) rfl (.inl rfl) rfl (wa_nil (we_name (i := 3) rfl (.inl rfl) rfl ?_)))
      exact ⟨p0, _, _, rfl, rfl, Int.emod_nonneg _ (by omega), Int.emod_lt_of_pos _ p0⟩
    · obtain ⟨bh, c, rfl, rfl, b0, b1⟩ := hp
      refine (wss_one (ws_set (i := 2) sc_law_blend.nd rfl (.inl rfl) (we_bin (we_bin (we_name (i := 2) rfl (.inl rfl) rfl (we_int ?_))))))
      refine ⟨.inr ⟨by decide, by decide⟩, ?_⟩
      refine (we_bin (we_bty cb_int m_int PyProof.Rows.boot_int intF_mono (wa_cons (we_bin (we_name (i := 4) rfl (.inl rfl) rfl (we_int ?_))))))
      refine ⟨⟨by decide, by decide, ?_⟩, ?_⟩
      · have : bh.natAbs < 2147483648 := by omega
        exact Nat.lt_of_lt_of_le this (by decide)
      refine (wa_nil (we_name (i := 3) rfl (.inl rfl) rfl ?_))
      exact ⟨p0, _, _, _, _, rfl, rfl⟩
  · obtain ⟨fo, a, b, c, rfl, rfl⟩ := hp
    exact wss_one (ws_ret (we_name (i := 2) rfl (.inl rfl) rfl (hW fo)))
theorem sc_law_take : FnScope ["_law_draw", "_law_many", "_law_found"] ["_law_draw", "_law_many"] (defScope t_take) := ⟨rfl, rfl, rfl, by decide +kernel, rfl, by decide +kernel, by decide +kernel⟩
theorem ok_law_take {f : Addr} {fd : FuncData} (F : Fun K "_law_take" "_law_take" t_take f fd) (m_int : mg "int" = none) (hgc : x.c ≠ x.g) (h_law_blend : Has P w K mg base (some x) 1 "_law_blend" ["_law_draw"] (W_blend x)) : FnG P w K mg base CX0 2 f fd ["_law_draw", "_law_many"] (spD K (some x) (W_take x)) := by
  refine fnD F sc_law_take (fun ds Q h => by obtain ⟨_, rfl, _⟩ := h; rfl) fun cdv A outer s H E an ds post hr gd hW => ?_
  obtain ⟨n, rfl, ⟨n0, n1⟩, hW⟩ := hW
  have hu := hu65 hr
  have key : ∀ {E' : Ed}, E'.nx (startR ["_law_draw", "_law_many", "_law_found"] [.obj x.d, .int n]) [] → WS (cxOf CX0 P w K mg base ["_law_draw", "_law_many", "_law_found"] "_law_take" (defScope t_take) f cdv A outer s H E).nox an (some x) (startR ["_law_draw", "_law_many", "_law_found"] [.obj x.d, .int n]) [] ((defBody t_take).getD 0 (.Pass ⟨0, 0, 0, 0⟩)) E' := fun {E'} hE => by
    refine psI (ps_if (PW.pt (pw_and (pt_cmpR op_eq (pe_dget (hu1 hr) (pv 0) pe_str (fun _ _ => rfl)) pe_int (nomark _)) (pw_and1 (pt_cmpR (op_neD (hu64 hr)) (pe_dget (hu1 hr) (pv 0) pe_str (fun _ _ => rfl)) (pe_lst pa_nil) (nomark _)))))
      (pss_one (ps_dput (hu1 hr) (pv 0) pe_str (pe_bm PySem.F.plainAttrs_list PySem.F.slot_list_pop PySem.F.type_list_pop mt_popAt (pe_dget (hu1 hr) (pv 0) pe_str (fun _ _ => rfl)) (pa_cons pe_int pa_nil)) rfl)) pss_nil) fun Z σ H0 hh => ?_
    obtain ⟨τ, G, g, ne, hl, h1, _⟩ := hh
    obtain ⟨⟨gr, _, re, tu, q1, q2, q3⟩, _⟩ := g.drg x rfl
    obtain ⟨v0, hv0, iv0⟩ := ne 0 (.v (.obj x.d)) rfl
    cases iv0 with
    | v iv0 =>
      cases iv0
      have fin : ∀ {H' : Hp}, Good K an (some x) [] τ G H' → Z.nx σ H' := fun g' => h1 σ _ ⟨_, [], τ, G, hE, g', ne, Grow.refl _ _, hl, rfl⟩
      refine ⟨_, hv0, x.d, .int re, rfl, DGet.k (k := .inr "rest") q1, rfl, _, rfl, ?_⟩
      refine ifE (fun _ => ?_) (fun _ => ifF rfl (fin g))
      refine ⟨_, hv0, x.d, .ref x.g, rfl, DGet.k (k := .inr "great") q1, by show 0 ≤ sizeLine; decide, fun p hp => ?_⟩
      have np : ∀ {a : Addr} {o : HO}, H0 a = some o → upd H0 p (.lst []) a = some o := fun {a o} e => by rw [upd_ne (ne_of_none e hp)]; exact e
      have g2 := g.alloc (o := .lst []) hp
      have gp : Grow G τ (upd G p (.lst [])) τ := g.grow hp
      have dg : ∀ ns : List Int, DpAll K (upd H0 p (.lst [])) (ns.map V.int) (ns.map PyData.int) := fun ns => by
        induction ns with
        | nil => exact .nil
        | cons a t ih => exact .cons (.int a) ih
      have sg : ∀ ns : List Int, PyData.canLayAll0 (ns.map PyData.int) = true ∧ PyData.depthAll (ns.map PyData.int) ≤ 1 := fun ns => by
        induction ns with
        | nil => exact ⟨rfl, Nat.zero_le _⟩
        | cons a t ih => exact ⟨by simp [PyData.canLayAll0, PyData.canLay0, ih.1], by simp only [List.map_cons, PyData.depthAll, PyData.depth]; omega⟩
      have sh : SeqAt.shaped (.list (gr.map PyData.int)) = true := by
        have := sg gr
        simp [SeqAt.shaped, PyData.canLay0, PyData.depth, this.1]
        omega
      refine ⟨.list (gr.map PyData.int), .list [], .lst (.inl (.inl (np q2))) (dg gr), .lst (.inl (.inl upd_same)) .nil, sh, rfl, _, rfl, ?_⟩
      have fin2 : ∀ {H' : Hp}, Good K an (some x) [] τ (upd G p (.lst [])) H' → Z.nx σ H' := fun g' => h1 σ _ ⟨_, [], τ, _, hE, g', ne.mono gp, gp, hl, rfl⟩
      refine ifE (fun c => ?_) (fun _ => fin2 g2)
      cases gr with
      | nil => exact absurd c (by decide)
      | cons m gr =>
        have q1' : upd (upd H0 p (.lst [])) x.g (.lst (gr.map V.int)) x.d = some (.dK (drK x re tu)) := by rw [upd_ne (ne_of q1 q2 (by intro z; cases z))]; exact np q1
        have g3 := g2.drawG (gr' := gr) (np q1) (np q2) (np q3) hgc
        have g4 := g3.draw (gr := gr) (re' := m) (tu' := tu) q1' upd_same (by rw [upd_ne hgc]; exact np q3)
        exact ⟨_, hv0, x.d, .ref x.g, rfl, DGet.k (k := .inr "great") (np q1), tyV_l (np q2), x.g, _, 0, 0, .int m, rfl, rfl, np q2, by decide, by decide, seqIndex_of (by decide) (by rw [List.length_map, List.length_cons]; omega), rfl, _, hv0, x.d, _, rfl, DPut.k (k := .inr "rest") q1' (by show 4 < sizeLine; decide), fin2 g4⟩
  have tail : ∀ {E' : Ed}, E'.rt = post → WSs (cxOf CX0 P w K mg base ["_law_draw", "_law_many", "_law_found"] "_law_take" (defScope t_take) f cdv A outer s H E).nox an (some x) (startR ["_law_draw", "_law_many", "_law_found"] [.obj x.d, .int n]) [] ((defBody t_take).drop 2) E' := fun {E'} hE => by
    refine (wss_cons (ws_set (i := 2) sc_law_take.nd rfl (.inl rfl) (we_bin (we_bty cb_int m_int PyProof.Rows.boot_int intF_mono (wa_cons (we_drRest (hu1 hr) (we_name (i := 0) rfl (.inl rfl) rfl ⟨rfl, fun re => wa_nil (we_name (i := 1) rfl (.inl rfl) rfl ?_)⟩)))))))
    refine ⟨n0, ?_⟩
    refine wss_cons (ws_drRest (hu1 hr) (we_bin (we_drRest (hu1 hr) (we_name (i := 0) rfl (.inl rfl) rfl ⟨rfl, fun re' => we_name (i := 1) rfl (.inl rfl) rfl ?_⟩))))
    refine ⟨wide_div n0 (b := 64) (by omega) (by decide) (by decide), we_name (i := 0) rfl (.inl rfl) rfl ⟨rfl, ?_⟩⟩
    refine (wss_one (ws_ret (we_name (i := 2) rfl (.inl rfl) rfl ?_)))
    show E'.rt _
    rw [hE]
    exact hW _ (Int.emod_nonneg _ (by omega)) (Int.emod_lt_of_pos _ n0)
  refine wss_cons (key ?_)
  refine wss_cons (ws_if (wt_cmp hu (we_drRest (hu1 hr) (we_name (i := 0) rfl (.inl rfl) rfl ⟨rfl, fun re => we_int ?_⟩))))
  refine ifE (fun _ => ?_) (fun _ => ?_)
  · refine wss_one (ws_drRest (hu1 hr) (we_call h_law_blend hr gd (wa_cons (we_name (i := 0) rfl (.inl rfl) rfl (wa_nil ?_)))))
    exact ⟨rfl, fun k => we_name (i := 0) rfl (.inl rfl) rfl ⟨rfl, tail rfl⟩⟩
  · exact wss_nil (tail rfl)
end
/-! ### the draws begin -/
section
variable {P : Program} {w : World} {K : PySem.W.Frag} {mg : Str → Option Value} {base : Heap}
theorem sc_law_begin : FnScope ["_law_script", "_law_great", "_law_cell"] ["_law_script"] (defScope t_begin) := ⟨rfl, rfl, rfl, by decide +kernel, rfl, by decide +kernel, by decide +kernel⟩
theorem int_at {ns : List Int} {i : Nat} {y : V} (h : (ns.map V.int)[i]? = some y) : ∃ z, y = V.int z := by
  rw [List.getElem?_map] at h
  cases e : ns[i]? with
  | none => rw [e] at h; cases h
  | some z => rw [e] at h; exact ⟨z, (Option.some.inj h).symm⟩
theorem ok_law_begin {f : Addr} {fd : FuncData} (F : Fun K "_law_begin" "_law_begin" t_begin f fd) (m_abs : mg "abs" = none) : FnG P w K mg base CX0 1 f fd ["_law_script"] (spBegin K) := by
  refine FnG.of (F.ok sc_law_begin (fun vs H Q E h => ?_) (fun cdv A outer s H vs Q E hr h => ?_))
  · obtain ⟨a, ns, rfl, _⟩ := h
    rfl
  · obtain ⟨a, ns, rfl, hS, hlen, k⟩ := h
    refine ⟨_, pss_cons (ps_setLc (i := 1) (own := [("_law_cell", 2)]) (g := gName 2) rfl sc_law_begin.nd rfl rfl (sw_true rfl rfl rfl (by decide +kernel)) (pi_list (pv 0)) (blkOk_by (N := ["_law_script", "_law_great", "_law_cell"]) (sc := defScope t_begin) (by decide +kernel)) (fun _ _ _ _ _ => pg_name (i := 2) sc_law_begin.nd rfl (.inl rfl))
        (fun _ _ _ _ _ => pts_one (pt_cmpR op_ge (pe_callB call_abs rfl m_abs PyProof.Rows.boot_abs (pa_cons (pv 2) pa_nil)) (pe_op op_pow pe_int pe_int) (nomark _)))
        (fun _ _ _ _ _ => pe_op op_sub (pe_callB call_abs rfl m_abs PyProof.Rows.boot_abs (pa_cons (pv 2) pa_nil)) (pe_op op_pow pe_int pe_int)))
      (pss_one (ps_ret (pe_disp (pps_cons pe_str (pv 1) (pps_cons pe_str pe_int (pps_cons pe_str (pe_lc (own := [("_law_cell", 2)]) (g := gName 2) (tt := tYes) rfl sc_law_begin.nd (pi_list (pv 0)) (blkOk_by (N := ["_law_script", "_law_great", "_law_cell"]) (sc := defScope t_begin) (by decide +kernel)) (fun _ _ _ _ _ => pg_name (i := 2) sc_law_begin.nd rfl (.inl rfl)) (fun _ _ _ _ _ => pts_nil)
        (fun _ _ _ _ _ => pe_callB call_abs rfl m_abs PyProof.Rows.boot_abs (pa_cons (pv 2) pa_nil))) (pps_cons pe_str pe_int pps_nil)))) rfl rfl (by decide) (by decide)))), ?_⟩
    refine ⟨_, rfl, a, rfl, ⟨_, hS⟩, fun D hD => lc_list (K := K) (a := a) (xs := ns.map V.int) (fun i H' => (∃ acc : List Int, H' D = some (.lst (acc.map V.int)) ∧ acc.length ≤ i) ∧ ∀ b o, H b = some o → H' b = some o) ⟨⟨[], upd_same, Nat.le_refl _⟩, fun b o e => by rw [upd_ne (ne_of_none e hD)]; exact e⟩ (fun i H' _ q => Same.seq q.2 hS) ?_ ?_⟩
    · rintro i y H' hi ⟨⟨acc, hacc, hl⟩, same⟩
      obtain ⟨z, rfl⟩ := int_at hi
      have hil : i < 63 := by
        have := (List.getElem?_eq_some_iff.mp hi).1
        rw [List.length_map] at this
        omega
      refine ⟨rfl, _, rfl, z, rfl, 10, 18, rfl, rfl, ⟨by decide, by decide, by decide⟩, _, _, rfl, rfl, _, rfl, ?_⟩
      refine ite2 (fun _ => ?_) (fun _ => ⟨⟨acc, hacc, by omega⟩, same⟩)
      refine ⟨_, rfl, z, rfl, 10, 18, rfl, rfl, ⟨by decide, by decide, by decide⟩, _, _, rfl, rfl, acc.map V.int, hacc, ?_, ⟨acc ++ [(if z < 0 then -z else z) - 10 ^ 18], ?_, ?_⟩, fun b o e => ?_⟩
      · rw [List.length_map]
        exact small1000 (by omega)
      · rw [upd_same, List.map_append]
        rfl
      · rw [List.length_append]
        show acc.length + 1 ≤ i + 1
        omega
      · rw [upd_ne (ne_of_none e hD)]
        exact same b o e
    · rintro H1 ⟨⟨great, hgr, _⟩, same1⟩
      intro d hd
      have nD : D ≠ d := ne_of_none hgr hd
      have same2 : ∀ b o, H b = some o → upd H1 d (.dK []) b = some o := fun b o e => by
        rw [upd_ne (ne_of_none (same1 b o e) hd)]
        exact same1 b o e
      refine ⟨_, rfl, _, rfl, a, rfl, ⟨_, Same.seq same2 hS⟩, fun C hC => lc_list (K := K) (a := a) (xs := ns.map V.int) (fun i H' => (∃ acc : List Int, H' C = some (.lst (acc.map V.int)) ∧ acc.length ≤ i) ∧ ∀ b o, upd H1 d (.dK []) b = some o → H' b = some o) ⟨⟨[], upd_same, Nat.le_refl _⟩, fun b o e => by rw [upd_ne (ne_of_none e hC)]; exact e⟩ (fun i H' _ q => Same.seq q.2 (Same.seq same2 hS)) ?_ ?_⟩
      · rintro i y H' hi ⟨⟨acc, hacc, hl⟩, same⟩
        obtain ⟨z, rfl⟩ := int_at hi
        have hil : i < 63 := by
          have := (List.getElem?_eq_some_iff.mp hi).1
          rw [List.length_map] at this
          omega
        refine ⟨rfl, _, rfl, z, rfl, acc.map V.int, hacc, ?_, ⟨acc ++ [if z < 0 then -z else z], ?_, ?_⟩, fun b o e => ?_⟩
        · rw [List.length_map]
          exact small1000 (by omega)
        · rw [upd_same, List.map_append]
          rfl
        · rw [List.length_append]
          show acc.length + 1 ≤ i + 1
          omega
        · rw [upd_ne (ne_of_none e hC)]
          exact same b o e
      · rintro H3 ⟨⟨cells, hce, hcl⟩, same3⟩
        have hd3 : H3 d = some (.dK []) := same3 d _ upd_same
        have hD2 : upd H1 d (.dK []) D = some (.lst (great.map V.int)) := by rw [upd_ne nD]; exact hgr
        have nCd : C ≠ d := fun z => by rw [z, upd_same] at hC; cases hC
        have nCD : C ≠ D := (ne_of_none hD2 hC).symm
        refine ⟨hd3, [(.inr "great", .ref D), (.inr "rest", .int 0), (.inr "cells", .ref C), (.inr "turn", .int 0)], rfl, by show 4 ≤ 15; decide, ?_⟩
        rw [List.length_map] at hcl
        refine k ⟨d, D, C, cells⟩ _ ?_ hD ?_ nCD ?_ ⟨great, (), 0, 0, upd_same, ?_, ?_⟩ fun b o e => ?_
        · cases q : H d with
          | none => rfl
          | some o => rw [same1 d o q] at hd; cases hd
        · cases q : H C with
          | none => rfl
          | some o => rw [same2 C o q] at hC; cases hC
        · exact Nat.le_of_lt (small1000 (by show cells.length ≤ 1000; omega))
        · rw [upd_ne nD]
          exact same3 D _ hD2
        · rw [upd_ne nCd]
          exact hce
        · have z := same2 b o e
          rw [upd_ne (ne_of_none (same1 b o e) hd)]
          exact same3 b o z
end
/-! ### plain data of rings -/
abbrev letters : Str := "abcdefghijklmnopqrstuvwxyz"
def nameS (z : Str) : Prop := 1 ≤ z.length ∧ z.length ≤ 8 ∧ ∀ c ∈ z.cps.toList, c ∈ letters.cps.toList
def sideS (z : Str) : Prop := nameS z ∨ z = ""
abbrev Bnd := Str × Str × Int
def bD (b : Bnd) : D := .tup [.str b.1, .str b.2.1, .int b.2.2]
def goodB (b : Bnd) : Prop := sideS b.1 ∧ sideS b.2.1 ∧ b.1 ≠ b.2.1
/-- a list or a tuple -/
def sq (t : Bool) (xs : List D) : D := if t then .lst xs else .tup xs
theorem sq_len {t : Bool} {xs : List D} {K : D → Prop} (h : K (.int (xs.length : Nat))) : lenF [sq t xs] K := by cases t <;> exact h
theorem sq_ix {t : Bool} {xs : List D} {i : Nat} {d : D} {K : D → Prop} (hd : xs[i]? = some d) (h : K d) : ixD (sq t xs) (.int (i : Nat)) K := by cases t <;> exact ⟨d, atI_nat hd, h⟩
theorem sq_walk {t : Bool} {xs : List D} {K : List D → Prop} (h : K xs) : walkD (sq t xs) K := by cases t <;> exact h
theorem sq_any {t : Bool} {xs : List D} : isAny (sq t xs) [.ty "list", .ty "tuple"] = true := by cases t <;> rfl
theorem sq_ty {t : Bool} {xs : List D} : (tyN (sq t xs)).isSome = true := by cases t <;> rfl
theorem map_snoc {α β : Type} {ds : List α} {fn : α → β} {i : Nat} {d : α} {acc : List β} (hd : ds[i]? = some d) (hp : acc = (ds.take i).map fn) : acc ++ [fn d] = (ds.take (i + 1)).map fn := by
  rw [List.take_add_one, hd, List.map_append, hp]
  rfl
theorem map_all {α β : Type} {ds : List α} {fn : α → β} {acc : List β} (hp : acc = (ds.take ds.length).map fn) : acc = ds.map fn := by rw [hp, List.take_length]
def isNum : D → Bool
  | .int _ => true
  | _ => false
def isName : D → Bool
  | .str z => decide (1 ≤ z.length) && (decide (z.length ≤ 8) && z.cps.toList.all fun c => decide (c ∈ letters.cps.toList))
  | _ => false
theorem isName_of {z : Str} (h : nameS z) : isName (.str z) = true := by
  simp only [isName, Bool.and_eq_true, decide_eq_true_eq, List.all_eq_true]
  exact h
def W_is_number : Wp := fun ds P => ∃ d, ds = [d] ∧ (tyN d).isSome = true ∧ P (.bl (isNum d))
def W_is_name : Wp := fun ds P => ∃ d, ds = [d] ∧ (tyN d).isSome = true ∧ (∀ z, d = .str z → z.length ≤ 1000) ∧ P (.bl (isName d))
theorem mono1 {A : Type} {F : A → List D → (D → Prop) → Prop} (h : ∀ a ds Q Q', (∀ d, Q d → Q' d) → F a ds Q → F a ds Q') : ∀ ds Q Q', (∀ d, Q d → Q' d) → (∃ a, F a ds Q) → ∃ a, F a ds Q' := fun ds Q Q' i ⟨a, q⟩ => ⟨a, h a ds Q Q' i q⟩
section
variable {P : Program} {w : World} {K : PySem.W.Frag} {mg : Str → Option Value} {base : Heap} {dr : Option Dr}
theorem sc_is_number : FnScope ["thing"] ["thing"] (defScope t_is_number) := ⟨rfl, rfl, rfl, by decide +kernel, rfl, by decide +kernel, by decide +kernel⟩
theorem ok_is_number {f : Addr} {fd : FuncData} (F : Fun K "is_number" "is_number" t_is_number f fd) (m_isinstance : mg "isinstance" = none) (m_int : mg "int" = none) (m_bool : mg "bool" = none) : FnG P w K mg base CX0 1 f fd ["thing"] (spD K dr W_is_number) := by
  refine fnD F sc_is_number (fun ds Q h => by obtain ⟨_, rfl, _⟩ := h; rfl) fun cdv A outer s H E an ds post hr gd hW => ?_
  obtain ⟨d, rfl, ht, hW⟩ := hW
  refine (wss_one (ws_ret (we_and (we_blt cb_isi m_isinstance PyProof.Rows.boot_isinstance isiF_mono (wa_cons (we_name (i := 0) rfl (.inl rfl) rfl (wa_cons (we_ty m_int PyProof.Rows.boot_int (wa_nil ?_)))))))))
  refine ⟨ht, .inl rfl, ?_⟩
  refine ifE (fun h1 => ?_) (fun h1 => ?_)
  · refine (we_and1 (we_not (we_blt cb_isi m_isinstance PyProof.Rows.boot_isinstance isiF_mono (wa_cons (we_name (i := 0) rfl (.inl rfl) rfl (wa_cons (we_ty m_bool boot_bool (wa_nil ?_))))))))
    refine ⟨ht, .inr (.inl rfl), ?_⟩
    have e : isNum d = !isT d "bool" := by cases d <;> first | rfl | (simp [vw, isT] at h1)
    rw [e] at hW
    exact hW
  · have e : isNum d = false := by cases d <;> first | rfl | (simp [vw, isT] at h1)
    rw [e] at hW
    exact hW
abbrev N_is_name : List Str := ["thing", "sign"]
theorem sc_is_name : FnScope N_is_name ["thing"] (defScope t_is_name) := ⟨rfl, rfl, rfl, by decide +kernel, rfl, by decide +kernel, by decide +kernel⟩
theorem ok_is_name {f : Addr} {fd : FuncData} (F : Fun K "is_name" "is_name" t_is_name f fd) (m_isinstance : mg "isinstance" = none) (m_str : mg "str" = none) (m_len : mg "len" = none) (m_all : mg "all" = none) (m_LETTERS : ∃ t, mg "LETTERS" = some (.str letters t)) (m_MOST : ∃ t, mg "MOST_LETTERS" = some (.int 8 t)) :
    FnG P w K mg base CX0 1 f fd ["thing"] (spD K dr W_is_name) := by
  refine fnD F sc_is_name (fun ds Q h => by obtain ⟨_, rfl, _⟩ := h; rfl) fun cdv A outer s H E an ds post hr gd hW => ?_
  obtain ⟨d, rfl, ht, hz, hW⟩ := hW
  have hu := hu65 hr
  refine (wss_cons (ws_if (WW.wt (ww_or (wt_not (wt_val (we_blt cb_isi m_isinstance PyProof.Rows.boot_isinstance isiF_mono (wa_cons (we_name (i := 0) rfl (.inl rfl) rfl (wa_cons (we_ty m_str PyProof.Rows.boot_str (wa_nil ?_))))))))))))
  refine ⟨ht, .inr (.inr (.inl rfl)), ?_⟩
  refine ifE (fun h1 => ?_) (fun h1 => ?_)
  · refine ifT rfl ?_
    refine (wss_one (ws_ret (we_bl ?_)))
    have e : isName d = false := by cases d <;> first | rfl | (simp [vw, isT] at h1)
    rw [e] at hW
    exact hW
  · obtain ⟨z, rfl⟩ : ∃ z, d = .str z := by cases d <;> first | exact ⟨_, rfl⟩ | (simp [vw, isT] at h1)
    have hz := hz z rfl
    have hz2 : z.length ≤ sizeLine := Nat.le_trans hz (by decide)
    refine (ww_or1 (wt_not (wt_chain hu (we_int (we_blt cb_len m_len PySem.boot_len lenF_mono (wa_cons (we_name (i := 0) rfl (.inl rfl) rfl (wa_nil ⟨hz2, ?_⟩))))))))
    have tail : ∀ {E' : Ed}, E'.rt = post → decide (1 ≤ z.length) = true → decide (z.length ≤ 8) = true → WSs (cxOf CX0 P w K mg base N_is_name "is_name" (defScope t_is_name) f cdv A outer s H E).nox an dr (startR N_is_name [.str z]) [] ((defBody t_is_name).drop 1) E' := fun {E'} hE l1 l2 => by
      refine (wss_one (ws_ret (we_blt (cb_all rfl) m_all PyProof.Rows.boot_all allF_mono (wa_cons (we_lc rfl sc_is_name.nd rfl [("sign", 1)] (blkOk_by (N := N_is_name) (sc := defScope t_is_name) (by decide +kernel)) (fun _ _ _ _ _ => wg_name (i := 1) sc_is_name.nd rfl (.inl rfl)) (by decide) (wi_seq (we_name (i := 0) rfl (.inl rfl) rfl ⟨hz2, ?_⟩)))))))
      refine ⟨fun i acc => acc = (z.cps.toList.take i).map fun c => D.bl (decide (c ∈ letters.cps.toList)), rfl, fun i d acc hd ha hp => ?_, fun acc hp => ?_⟩
      · obtain ⟨c, hc, rfl⟩ : ∃ c, z.cps.toList[i]? = some c ∧ d = .str ⟨#[c]⟩ := by
          unfold signs at hd
          rw [List.getElem?_map] at hd
          cases e : z.cps.toList[i]? with
          | none => rw [e] at hd; cases hd
          | some c => rw [e] at hd; cases hd; exact ⟨c, rfl, rfl⟩
        refine fun s H C cl fp => ?_
        refine (we_cmp hu (we_name (i := 1) rfl (.inl rfl) rfl (we_gstr m_LETTERS ?_)))
        refine ⟨c, rfl, rfl, ⟨_, rfl⟩, ?_⟩
        exact map_snoc hc hp
      · refine (wa_nil ?_)
        have hp : acc = (z.cps.toList.take (signs z).length).map fun c => D.bl (decide (c ∈ letters.cps.toList)) := hp
        have e0 : (signs z).length = z.cps.toList.length := by simp [signs]
        rw [e0, List.take_length] at hp
        refine ⟨z.cps.toList.map fun c => decide (c ∈ letters.cps.toList), by show acc = _; rw [hp, List.map_map]; rfl, ?_⟩
        show E'.rt _
        rw [hE]
        have e : isName (.str z) = ((z.cps.toList.map fun c => decide (c ∈ letters.cps.toList)).all id) := by
          show (decide (1 ≤ z.length) && (decide (z.length ≤ 8) && _)) = _
          rw [l1, l2, List.all_map]
          rfl
        rw [e] at hW
        exact hW
    have no : ∀ {E' : Ed}, E'.rt = post → isName (.str z) = false → WSs (cxOf CX0 P w K mg base N_is_name "is_name" (defScope t_is_name) f cdv A outer s H E).nox an dr (startR N_is_name [.str z]) [] (match (defBody t_is_name).getD 0 (.Pass ⟨0, 0, 0, 0⟩) with | .If _ b _ _ => b | _ => []) E' := fun {E'} hE e => by
      refine (wss_one (ws_ret (we_bl ?_)))
      show E'.rt _
      rw [hE, ← e]
      exact hW
    refine ifE (fun h3 => ?_) (fun h3 => ?_)
    · have l1 : decide (1 ≤ z.length) = true := by
        have : decide ((1 : Int) ≤ (z.length : Nat)) = true := h3
        simp at this ⊢
        omega
      refine (we_gint m_MOST ?_)
      refine ifE (fun h4 => ?_) (fun h4 => ?_)
      · have l2 : decide (z.length ≤ 8) = false := by
          have : decide ((z.length : Int) ≤ 8) = false := by simpa using h4
          simp at this ⊢
          omega
        exact no rfl (by show (_ && (_ && _)) = _; rw [l2]; simp)
      · have l2 : decide (z.length ≤ 8) = true := by
          have : decide ((z.length : Int) ≤ 8) = true := by simpa using h4
          simp at this ⊢
          omega
        exact wss_nil (tail rfl l1 l2)
    · refine ifT rfl ?_
      have l1 : decide (1 ≤ z.length) = false := by
        have : decide ((1 : Int) ≤ (z.length : Nat)) = false := h3
        simp at this ⊢
        omega
      exact no rfl (by show (_ && (_ && _)) = _; rw [l1]; rfl)
end
/-! ### bounds that are right; rings -/
def W_is_bound : Wp := fun ds P => ∃ b : Bnd, ds = [bD b] ∧ goodB b ∧ P (.bl true)
def W_need_bounds : Wp := fun ds P => ∃ (t : Bool) (bs : List Bnd), ds = [sq t (bs.map bD)] ∧ (∀ b ∈ bs, goodB b) ∧ P .non
/-- the place that an index tells -/
def ixOf (n : Nat) : D → Option Nat
  | .int i => if 0 ≤ i ∧ i < n then some i.toNat else none
  | _ => none
def okIx (n : Nat) (d : D) : Bool := (ixOf n d).isSome
def sel (bs : List Bnd) (xs : List D) : List Bnd := xs.map fun d => bs.getD ((ixOf bs.length d).getD 0) ("", "", 0)
/-- each one leads to the next one, the last one to the first one -/
def cyc (ss : List Bnd) : Bool := (ss.zip (ss.drop 1 ++ ss.take 1)).all fun p => decide (p.1.2.1 = p.2.1)
def ringOf (bs : List Bnd) (xs : List D) : Bool := !xs.isEmpty && (xs.all (okIx bs.length) && (cyc (sel bs xs) && (decide ((sel bs xs).map (·.1)).Nodup && decide (((sel bs xs).map (·.2.2)).sum < 0))))
def ringD (bs : List Bnd) : D → Bool
  | .lst xs => ringOf bs xs
  | .tup xs => ringOf bs xs
  | _ => false
theorem ringD_sq {bs : List Bnd} {t : Bool} {xs : List D} : ringD bs (sq t xs) = ringOf bs xs := by cases t <;> rfl
/-- a value that may be told to be a ring -/
def anyD (d : D) : Prop := (tyN d).isSome = true ∧ ∀ t xs, d = sq t xs → xs.length ≤ 100 ∧ ∀ y ∈ xs, (tyN y).isSome = true
def W_is_ring : Wp := fun ds P => ∃ (t : Bool) (bs : List Bnd) (d : D), ds = [sq t (bs.map bD), d] ∧ (∀ b ∈ bs, goodB b) ∧ bs.length ≤ 100 ∧ anyD d ∧ P (.bl (ringD bs d))
theorem sideS_len {z : Str} (h : sideS z) : z.length ≤ 1000 := by
  rcases h with h | h
  · have := h.2.1; omega
  · rw [h]; decide
section
variable {P : Program} {w : World} {K : PySem.W.Frag} {mg : Str → Option Value} {base : Heap} {dr : Option Dr}
theorem mono_is_number : ∀ ds Q Q', (∀ d, Q d → Q' d) → W_is_number ds Q → W_is_number ds Q' := fun ds Q Q' i ⟨d, e, h, q⟩ => ⟨d, e, h, i _ q⟩
theorem mono_is_name : ∀ ds Q Q', (∀ d, Q d → Q' d) → W_is_name ds Q → W_is_name ds Q' := fun ds Q Q' i ⟨d, e, h, h2, q⟩ => ⟨d, e, h, h2, i _ q⟩
theorem mono_is_bound : ∀ ds Q Q', (∀ d, Q d → Q' d) → W_is_bound ds Q → W_is_bound ds Q' := fun ds Q Q' i ⟨d, e, h, q⟩ => ⟨d, e, h, i _ q⟩
theorem mono_need_bounds : ∀ ds Q Q', (∀ d, Q d → Q' d) → W_need_bounds ds Q → W_need_bounds ds Q' := fun ds Q Q' i ⟨t, d, e, h, q⟩ => ⟨t, d, e, h, i _ q⟩
theorem mono_is_ring : ∀ ds Q Q', (∀ d, Q d → Q' d) → W_is_ring ds Q → W_is_ring ds Q' := fun ds Q Q' i ⟨t, bs, d, e, h, h2, h3, q⟩ => ⟨t, bs, d, e, h, h2, h3, i _ q⟩
theorem sc_is_bound : FnScope ["thing", "name"] ["thing"] (defScope t_is_bound) := ⟨rfl, rfl, rfl, by decide +kernel, rfl, by decide +kernel, by decide +kernel⟩
theorem ok_is_bound {f : Addr} {fd : FuncData} (F : Fun K "is_bound" "is_bound" t_is_bound f fd) (m_isinstance : mg "isinstance" = none) (m_str : mg "str" = none) (m_tuple : mg "tuple" = none) (m_len : mg "len" = none) (m_ZERO : ∃ t, mg "ZERO" = some (.str "" t))
    (h_is_number : Has P w K mg base dr 1 "is_number" ["thing"] W_is_number) (h_is_name : Has P w K mg base dr 1 "is_name" ["thing"] W_is_name) : FnG P w K mg base CX0 2 f fd ["thing"] (spD K dr W_is_bound) := by
  refine fnD F sc_is_bound (fun ds Q h => by obtain ⟨_, rfl, _⟩ := h; rfl) fun cdv A outer s H E an ds post hr gd hW => ?_
  obtain ⟨⟨a, b, c⟩, rfl, ⟨sa, sb, ne⟩, hW⟩ := hW
  have hu := hu65 hr
  refine (wss_cons (ws_if (WW.wt (ww_or (wt_not (wt_val (we_blt cb_isi m_isinstance PyProof.Rows.boot_isinstance isiF_mono (wa_cons (we_name (i := 0) rfl (.inl rfl) rfl (wa_cons (we_ty m_tuple PyProof.Rows.boot_tuple (wa_nil ?_))))))))))))
  refine ⟨rfl, .inr (.inr (.inr (.inr (.inl rfl)))), ?_⟩
  refine (ww_or (wt_cmp hu (we_blt cb_len m_len PySem.boot_len lenF_mono (wa_cons (we_name (i := 0) rfl (.inl rfl) rfl (wa_nil (we_int ?_)))))))
  refine (ww_or1 (wt_not (wt_val (we_call h_is_number hr gd (wa_cons (we_ix (we_name (i := 0) rfl (.inl rfl) rfl (we_int ?_))))))))
  refine ⟨.int c, rfl, ?_⟩
  refine (wa_nil ?_)
  refine ⟨_, rfl, rfl, ?_⟩
  refine (wss_nil (wss_cons (ws_for PassesOwn.never rfl (wg_name (i := 1) sc_is_bound.nd rfl (.inl rfl)) (wi_seq (we_sl (we_name (i := 0) rfl (.inl rfl) rfl ?_))))))
  refine (we_int ?_)
  refine ⟨fun i ρ om => ∃ r, ρ = [some (.v (bD (a, b, c))), r] ∧ om = [], ⟨none, rfl, rfl⟩, fun i d ρ om hl hd hp => ?_, fun ρ om hl hp => ?_⟩
  · obtain ⟨r, rfl, rfl⟩ := hp
    obtain ⟨z, rfl, sz⟩ : ∃ z, d = .str z ∧ sideS z := by
      match i, hd with
      | 0, hd => cases hd; exact ⟨_, rfl, sa⟩
      | 1, hd => cases hd; exact ⟨_, rfl, sb⟩
      | i + 2, hd => cases hd
    refine (wss_one (ws_if (WW.wt (ww_and (wt_not (wt_val (we_call h_is_name hr gd (wa_cons (we_name (i := 1) rfl (.inl rfl) rfl (wa_nil ?_))))))))))
    refine ⟨_, rfl, rfl, fun y hy => by cases hy; exact sideS_len sz, ?_⟩
    rcases sz with sz | rfl
    · refine ifF (by rw [isName_of sz]; rfl) ?_
      exact wss_nil ⟨_, rfl, rfl⟩
    · refine (ww_and1 (wt_not (WW.wt (ww_and (wt_val (we_blt cb_isi m_isinstance PyProof.Rows.boot_isinstance isiF_mono (wa_cons (we_name (i := 1) rfl (.inl rfl) rfl (wa_cons (we_ty m_str PyProof.Rows.boot_str (wa_nil ?_)))))))))))
      refine ⟨rfl, .inr (.inr (.inl rfl)), ?_⟩
      refine (ww_and1 (wt_cmp hu (we_name (i := 1) rfl (.inl rfl) rfl (we_gstr m_ZERO ?_))))
      exact wss_nil ⟨_, rfl, rfl⟩
  · obtain ⟨r, rfl, rfl⟩ := hp
    refine (wss_one (ws_ret (we_cmp hu (we_ix (we_name (i := 0) rfl (.inl rfl) rfl (we_int ?_))))))
    refine ⟨.str a, rfl, ?_⟩
    refine (we_ix (we_name (i := 0) rfl (.inl rfl) rfl (we_int ?_)))
    refine ⟨.str b, rfl, ?_⟩
    have e : (!decide (a = b)) = true := by simpa using ne
    show post (.bl (!decide (a = b)))
    rw [e]
    exact hW
theorem sc_need_bounds : FnScope ["bounds", "at", "bound"] ["bounds"] (defScope t_need_bounds) := ⟨rfl, rfl, rfl, by decide +kernel, rfl, by decide +kernel, by decide +kernel⟩
theorem ok_need_bounds {f : Addr} {fd : FuncData} (F : Fun K "need_bounds" "need_bounds" t_need_bounds f fd) (m_isinstance : mg "isinstance" = none) (m_list : mg "list" = none) (m_tuple : mg "tuple" = none) (m_enumerate : mg "enumerate" = none)
    (h_is_bound : Has P w K mg base dr 2 "is_bound" ["thing"] W_is_bound) : FnG P w K mg base CX0 3 f fd ["bounds"] (spD K dr W_need_bounds) := by
  refine fnD F sc_need_bounds (fun ds Q h => by obtain ⟨_, _, rfl, _⟩ := h; rfl) fun cdv A outer s H E an ds post hr gd hW => ?_
  obtain ⟨t, bs, rfl, hg, hW⟩ := hW
  have hu := hu65 hr
  refine (wss_cons (ws_if (wt_not (wt_val (we_blt cb_isi m_isinstance PyProof.Rows.boot_isinstance isiF_mono (wa_cons (we_name (i := 0) rfl (.inl rfl) rfl (wa_cons (we_tup (wa_cons (we_ty m_list PyProof.Rows.boot_list (wa_cons (we_ty m_tuple PyProof.Rows.boot_tuple (wa_nil ?_))))))))))))))
  refine ⟨by show 2 ≤ sizeLine; decide, ?_⟩
  refine (wa_nil ?_)
  refine ⟨sq_ty, ⟨.inr (.inr (.inr (.inl rfl))), .inr (.inr (.inr (.inr (.inl rfl)))), trivial⟩, ?_⟩
  refine ifF (by show (!isAny (sq t _) _) = false; rw [sq_any]; rfl) ?_
  refine (wss_nil (wss_one (ws_for PassesOwn.never rfl (wg_tup rfl (wgs_cons (wg_name (i := 1) sc_need_bounds.nd rfl (.inl rfl)) (wgs_cons (wg_name (i := 2) sc_need_bounds.nd rfl (.inl rfl)) (wgs_nil)))) (wi_enum m_enumerate (we_name (i := 0) rfl (.inl rfl) rfl ?_)))))
  refine ⟨bs.map bD, by cases t; exact .inr rfl; exact .inl rfl, ?_⟩
  refine ⟨fun i ρ om => ∃ r1 r2, ρ = [some (.v (sq t (bs.map bD))), r1, r2] ∧ om = [], ⟨none, none, rfl, rfl⟩, fun i d ρ om hl hd hp => ?_, fun ρ om hl hp => hW⟩
  obtain ⟨r1, r2, rfl, rfl⟩ := hp
  obtain ⟨d0, hd0, rfl⟩ := enumD_get hd
  rw [List.getElem?_map] at hd0
  cases e : bs[i]? with
  | none => rw [e] at hd0; cases hd0
  | some b =>
    rw [e] at hd0
    cases hd0
    refine ⟨rfl, ?_⟩
    refine (wss_one (ws_if (wt_not (wt_val (we_call h_is_bound hr gd (wa_cons (we_name (i := 2) rfl (.inl rfl) rfl (wa_nil ?_))))))))
    refine ⟨b, rfl, hg b (List.mem_of_getElem? e), ?_⟩
    exact wss_nil ⟨_, _, rfl, rfl⟩
end
end K16

namespace K16
open PySem L2 DL
/-! ### is_ring_of, is_ring -/
def okAt (n : Nat) (d : D) : Bool := isNum d && match d with | .int i => decide (0 ≤ i) && decide (i < n) | _ => false
theorem okAt_ix (n : Nat) (d : D) : okAt n d = okIx n d := by
  cases d <;> try rfl
  rename_i i
  show (true && (decide (0 ≤ i) && decide (i < n))) = (if 0 ≤ i ∧ i < n then some i.toNat else none).isSome
  by_cases h : 0 ≤ i ∧ i < n
  · simp [h]
  · rw [if_neg h]
    have : ¬(0 ≤ i) ∨ ¬(i < n) := by omega
    rcases this with h | h <;> simp [h]
theorem okIx_is {n : Nat} {d : D} (h : okIx n d = true) : ∃ i : Nat, d = .int (i : Nat) ∧ i < n ∧ ixOf n d = some i := by
  cases d <;> try cases h
  rename_i i
  have h : (if 0 ≤ i ∧ i < n then some i.toNat else none).isSome = true := h
  by_cases q : 0 ≤ i ∧ i < n
  · refine ⟨i.toNat, by congr 1; omega, by omega, ?_⟩
    show (if 0 ≤ i ∧ i < n then some i.toNat else none) = _
    rw [if_pos q]
  · rw [if_neg q] at h; cases h
theorem sel_len (bs : List Bnd) (xs : List D) : (sel bs xs).length = xs.length := by simp [sel]
theorem all_map_bl {α : Type} (l : List α) (f : α → Bool) : (l.map f).all id = l.all f := by rw [List.all_map]; rfl
theorem cut_lo (xs : List D) (n : Nat) : cutD xs (some (n : Int)) none = xs.drop n := by
  unfold cutD
  rw [HT.sIx_nat, HT.sIx_none]
  by_cases h : n ≤ xs.length
  · rw [Nat.min_eq_left h, List.take_of_length_le (by rw [List.length_drop]; exact Nat.le_refl _)]
  · rw [Nat.min_eq_right (by omega), Nat.sub_self, List.take_zero, List.drop_eq_nil_of_le (by omega)]
theorem cut_hi (xs : List D) (n : Nat) : cutD xs none (some (n : Int)) = xs.take n := by
  unfold cutD
  rw [HT.sIx_nat, HT.sIx_none, Nat.sub_zero, List.drop_zero]
  by_cases h : n ≤ xs.length
  · rw [Nat.min_eq_left h]
  · rw [Nat.min_eq_right (by omega), List.take_length, List.take_of_length_le (by omega)]
section
variable {P : Program} {w : World} {K : PySem.W.Frag} {mg : Str → Option Value} {base : Heap} {dr : Option Dr}
abbrev N_is_ring_of : List Str := ["bounds", "thing", "some", "at", "one", "other", "bound"]
theorem sc_is_ring_of : FnScope N_is_ring_of ["bounds", "thing"] (defScope t_is_ring_of) := ⟨rfl, rfl, rfl, by decide +kernel, rfl, by decide +kernel, by decide +kernel⟩
set_option maxHeartbeats 4000000 in
theorem ok_is_ring_of {f : Addr} {fd : FuncData} (F : Fun K "is_ring_of" "is_ring_of" t_is_ring_of f fd) (m_isinstance : mg "isinstance" = none) (m_list : mg "list" = none) (m_tuple : mg "tuple" = none) (m_len : mg "len" = none) (m_all : mg "all" = none) (m_zip : mg "zip" = none) (m_sum : mg "sum" = none)
    (h_is_number : Has P w K mg base dr 1 "is_number" ["thing"] W_is_number) : FnG P w K mg base CX0 2 f fd ["bounds", "thing"] (spD K dr W_is_ring) := by
  refine fnD F sc_is_ring_of (fun ds Q h => by obtain ⟨_, _, _, rfl, _⟩ := h; rfl) fun cdv A outer s H E an ds post hr gd hW => ?_
  obtain ⟨t, bs, d, rfl, hg, hz, ⟨ht, had⟩, hW⟩ := hW
  have hu := hu65 hr
  refine (wss_cons (ws_if (WW.wt (ww_or (wt_not (wt_val (we_blt cb_isi m_isinstance PyProof.Rows.boot_isinstance isiF_mono (wa_cons (we_name (i := 1) rfl (.inl rfl) rfl (wa_cons (we_tup (wa_cons (we_ty m_list PyProof.Rows.boot_list (wa_cons (we_ty m_tuple PyProof.Rows.boot_tuple (wa_nil ?_))))))))))))))))
  refine ⟨by show 2 ≤ sizeLine; decide, ?_⟩
  refine (wa_nil ?_)
  refine ⟨ht, ⟨.inr (.inr (.inr (.inl rfl))), .inr (.inr (.inr (.inr (.inl rfl)))), trivial⟩, ?_⟩
  refine ifE (fun h1 => ?_) (fun h1 => ?_)
  · refine ifT rfl ?_
    refine (wss_one (ws_ret (we_bl ?_)))
    have e : ringD bs d = false := by cases d <;> first | rfl | (simp [vw, isAny, isT] at h1)
    rw [e] at hW
    exact hW
  obtain ⟨t2, xs, rfl⟩ : ∃ t2 xs, d = sq t2 xs := by
    cases d <;> first | exact ⟨true, _, rfl⟩ | exact ⟨false, _, rfl⟩ | (simp [vw, isAny, isT] at h1)
  obtain ⟨hxl, hxt⟩ := had t2 xs rfl
  rw [ringD_sq] at hW
  clear h1
  refine (ww_or1 (wt_cmp hu (we_blt cb_len m_len PySem.boot_len lenF_mono (wa_cons (we_name (i := 1) rfl (.inl rfl) rfl (wa_nil ?_))))))
  refine sq_len (we_int ?_)
  refine ifE (fun h2 => ?_) (fun h2 => ?_)
  · refine (wss_one (ws_ret (we_bl ?_)))
    have e : xs = [] := by
      have : decide ((xs.length : Int) = 0) = true := h2
      have : xs.length = 0 := by simpa using this
      exact List.eq_nil_of_length_eq_zero this
    subst e
    exact hW
  have ne : xs.isEmpty = false := by
    have : decide ((xs.length : Int) = 0) = false := h2
    cases xs
    · simp at this
    · rfl
  refine (wss_nil (wss_cons (ws_if (wt_not (wt_val (we_blt (cb_all rfl) m_all PyProof.Rows.boot_all allF_mono (wa_cons (we_lc rfl sc_is_ring_of.nd rfl [("at", 3)] (blkOk_by (N := N_is_ring_of) (sc := defScope t_is_ring_of) (by decide +kernel)) (fun _ _ _ _ _ => wg_name (i := 3) sc_is_ring_of.nd rfl (.inl rfl)) (by decide) (wi_seq (we_name (i := 1) rfl (.inl rfl) rfl ?_))))))))))
  refine sq_walk ?_
  refine ⟨fun i acc => acc = (xs.take i).map fun d => D.bl (okAt bs.length d), rfl, fun i d acc hd ha hp => ?_, fun acc hp => ?_⟩
  · have td : (tyN d).isSome = true := hxt d (List.mem_of_getElem? hd)
    refine fun s H C cl fp => ?_
    refine (we_and (we_call h_is_number hr gd (wa_cons (we_name (i := 3) rfl (.inl rfl) rfl (wa_nil ?_)))))
    refine ⟨d, rfl, td, ?_⟩
    refine ifE (fun h3 => ?_) (fun h3 => ?_)
    · obtain ⟨k, rfl⟩ : ∃ k, d = .int k := by cases d <;> first | exact ⟨_, rfl⟩ | (cases h3)
      refine (we_and1 (we_chain hu (we_int (we_name (i := 3) rfl (.inl rfl) rfl ?_))))
      refine ifE (fun h4 => ?_) (fun h4 => ?_)
      · refine (we_blt cb_len m_len PySem.boot_len lenF_mono (wa_cons (we_name (i := 0) rfl (.inr (.inl rfl)) rfl (wa_nil ?_))))
        refine sq_len ?_
        refine ⟨rfl, ⟨_, rfl⟩, ?_⟩
        have e : decide (k < ((bs.map bD).length : Nat)) = okAt bs.length (.int k) := by
          have h4 : decide (0 ≤ k) = true := h4
          show _ = (true && (decide (0 ≤ k) && decide (k < bs.length)))
          rw [h4, List.length_map]; rfl
        show acc ++ [D.bl (decide (k < ((bs.map bD).length : Nat)))] = _
        rw [e]
        exact map_snoc (fn := fun d => D.bl (okAt bs.length d)) hd hp
      · refine ⟨rfl, ⟨_, rfl⟩, ?_⟩
        have e : decide (0 ≤ k) = okAt bs.length (.int k) := by
          have h4 : decide (0 ≤ k) = false := h4
          show _ = (true && (decide (0 ≤ k) && decide (k < bs.length)))
          rw [h4]; rfl
        show acc ++ [D.bl false] = _
        have h4 : decide (0 ≤ k) = false := h4
        rw [← h4, e]
        exact map_snoc (fn := fun d => D.bl (okAt bs.length d)) hd hp
    · refine ⟨rfl, ⟨_, rfl⟩, ?_⟩
      have e : isNum d = okAt bs.length d := by
        have h3 : isNum d = false := h3
        unfold okAt
        rw [h3]; rfl
      have h3 : isNum d = false := h3
      show acc ++ [D.bl false] = _
      rw [← h3, e]
      exact map_snoc (fn := fun d => D.bl (okAt bs.length d)) hd hp
  refine (wa_nil ?_)
  have hp := map_all hp
  refine ⟨xs.map (okAt bs.length), by show acc = _; rw [hp, List.map_map]; rfl, ?_⟩
  have ea : ((xs.map (okAt bs.length)).all id) = xs.all (okIx bs.length) := by
    rw [all_map_bl]
    congr 1
    funext d
    exact okAt_ix _ _
  rw [ea]
  refine ifE (fun h5 => ?_) (fun h5 => ?_)
  · have h5 : xs.all (okIx bs.length) = false := by simpa using h5
    refine (wss_one (ws_ret (we_bl ?_)))
    unfold ringOf at hW
    rw [ne, h5] at hW
    exact hW
  have h5 : xs.all (okIx bs.length) = true := by simpa using h5
  have h5' := List.all_eq_true.mp h5
  refine (wss_nil (wss_cons (ws_setLc (i := 2) rfl sc_is_ring_of.nd rfl rfl rfl [("at", 3)] (blkOk_by (N := N_is_ring_of) (sc := defScope t_is_ring_of) (by decide +kernel)) (fun _ _ _ _ _ => wg_name (i := 3) sc_is_ring_of.nd rfl (.inl rfl)) (by decide) (sw_true rfl rfl rfl (by decide +kernel)) (wi_seq (we_name (i := 1) rfl (.inl rfl) rfl ?_)))))
  refine sq_walk ?_
  refine ⟨fun i acc => acc = (xs.take i).map fun d => bD (bs.getD ((ixOf bs.length d).getD 0) ("", "", 0)), rfl, fun i d acc hd ha hp => ?_, fun acc hp => ?_⟩
  · obtain ⟨j, rfl, jl, ej⟩ := okIx_is (h5' d (List.mem_of_getElem? hd))
    refine fun s H C cl fp => ?_
    refine (we_ix (we_name (i := 0) rfl (.inr (.inl rfl)) rfl (we_name (i := 3) rfl (.inl rfl) rfl ?_)))
    refine sq_ix (d := bD (bs.getD ((ixOf bs.length (D.int (j : Nat))).getD 0) ("", "", 0))) (by rw [ej, List.getElem?_map, List.getElem?_eq_getElem jl]; simp [jl]) ?_
    refine ⟨rfl, ⟨_, rfl⟩, ?_⟩
    exact map_snoc (fn := fun d => bD (bs.getD ((ixOf bs.length d).getD 0) ("", "", 0))) hd hp
  have hp : acc = (sel bs xs).map bD := by rw [map_all hp]; unfold sel; rw [List.map_map]; rfl
  subst hp
  have sl : (sel bs xs).length = xs.length := sel_len bs xs
  generalize hss : sel bs xs = ss at *
  have cut1 : cutD (ss.map bD) (some 1) none = (ss.drop 1).map bD := by rw [List.map_drop]; exact cut_lo _ 1
  have cut2 : cutD (ss.map bD) none (some 1) = (ss.take 1).map bD := by rw [List.map_take]; exact cut_hi _ 1
  refine (wss_cons (ws_if (wt_not (wt_val (we_blt (cb_all rfl) m_all PyProof.Rows.boot_all allF_mono (wa_cons (we_lc rfl sc_is_ring_of.nd rfl [("one", 4), ("other", 5)] (blkOk_by (N := N_is_ring_of) (sc := defScope t_is_ring_of) (by decide +kernel)) (fun _ _ _ _ _ => wg_tup (n := 2) rfl (wgs_cons (wg_name (i := 4) sc_is_ring_of.nd rfl (.inl rfl)) (wgs_cons (wg_name (i := 5) sc_is_ring_of.nd rfl (.inl rfl)) (wgs_nil)))) (by decide) (wi_zipL m_zip (wa_cons (we_name (i := 2) rfl (.inl rfl) rfl (wa_cons (we_bin (we_sl (we_name (i := 2) rfl (.inl rfl) rfl ?_))))))))))))))
  refine (we_int (we_sl (we_name (i := 2) rfl (.inl rfl) rfl ?_)))
  refine (we_int ?_)
  have big : (100 : Nat) ≤ sizeLine := by decide
  show (cutD (ss.map bD) (some 1) none).length + (cutD (ss.map bD) none (some 1)).length ≤ sizeLine ∧ _
  rw [cut1, cut2]
  refine ⟨by rw [List.length_map, List.length_map, List.length_drop, List.length_take]; omega, ?_⟩
  rw [← List.map_append]
  refine (wa_nil ?_)
  refine ⟨_, _, rfl, by rw [List.length_map]; omega, ?_⟩
  refine ⟨fun i acc => acc = ((ss.zip (ss.drop 1 ++ ss.take 1)).take i).map fun p => D.bl (decide (p.1.2.1 = p.2.1)), rfl, fun i d acc hd ha hp => ?_, fun acc hp => ?_⟩
  · obtain ⟨d1, d2, hd1, hd2, rfl⟩ := zipD_get hd
    rw [List.getElem?_map] at hd1 hd2
    cases e1 : ss[i]? with
    | none => rw [e1] at hd1; cases hd1
    | some b1 =>
      cases e2 : (ss.drop 1 ++ ss.take 1)[i]? with
      | none => rw [e2] at hd2; cases hd2
      | some b2 =>
        rw [e1] at hd1
        rw [e2] at hd2
        cases hd1
        cases hd2
        refine ⟨rfl, ?_⟩
        refine fun s H C cl fp => ?_
        refine (we_cmp hu (we_ix (we_name (i := 4) rfl (.inl rfl) rfl (we_int ?_))))
        refine ⟨.str b1.2.1, rfl, ?_⟩
        refine (we_ix (we_name (i := 5) rfl (.inl rfl) rfl (we_int ?_)))
        refine ⟨.str b2.1, rfl, ?_⟩
        refine ⟨rfl, ⟨_, rfl⟩, ?_⟩
        exact map_snoc (ds := ss.zip (ss.drop 1 ++ ss.take 1)) (d := (b1, b2)) (fn := fun p => D.bl (decide (p.1.2.1 = p.2.1))) (by rw [List.getElem?_zip_eq_some]; exact ⟨e1, e2⟩) hp
  have el : (zipD (ss.map bD) ((ss.drop 1 ++ ss.take 1).map bD)).length = (ss.zip (ss.drop 1 ++ ss.take 1)).length := by unfold zipD; simp only [List.length_map, List.length_zip]
  rw [el] at hp
  have hp := map_all hp
  refine (wa_nil ?_)
  refine ⟨(ss.zip (ss.drop 1 ++ ss.take 1)).map fun p => decide (p.1.2.1 = p.2.1), by show acc = _; rw [hp, List.map_map]; rfl, ?_⟩
  have ec : ((ss.zip (ss.drop 1 ++ ss.take 1)).map fun p => decide (p.1.2.1 = p.2.1)).all id = cyc ss := all_map_bl _ _
  rw [ec]
  refine ifE (fun h6 => ?_) (fun h6 => ?_)
  · have h6 : cyc ss = false := by simpa using h6
    refine (wss_one (ws_ret (we_bl ?_)))
    unfold ringOf at hW
    rw [ne, h5, hss, h6] at hW
    exact hW
  have h6 : cyc ss = true := by simpa using h6
  have hW : post (.bl (decide (ss.map (·.1)).Nodup && decide ((ss.map (·.2.2)).sum < 0))) := by
    unfold ringOf at hW
    rw [ne, h5, hss, h6] at hW
    exact hW
  refine (wss_nil (wss_one (ws_ret (we_and (we_cmp hu (we_lenSc m_len rfl sc_is_ring_of.nd rfl [("bound", 6)] (blkOk_by (N := N_is_ring_of) (sc := defScope t_is_ring_of) (by decide +kernel)) (fun _ _ _ _ _ _ => wg_name (i := 6) sc_is_ring_of.nd rfl (.inl rfl)) (by decide) (wi_seq (we_name (i := 2) rfl (.inl rfl) rfl ?_))))))))
  refine ⟨rfl, by rw [List.length_map]; omega, fun i acc => acc = (ss.take i).map fun b => (.inr b.1 : Key), rfl, fun i d acc hd ha hp => ?_, fun acc _ hp => ?_⟩
  · rw [List.getElem?_map] at hd
    cases e1 : ss[i]? with
    | none => rw [e1] at hd; cases hd
    | some b =>
      rw [e1] at hd
      cases hd
      refine fun an s H C cl fp => ?_
      refine (we_ix (we_name (i := 6) rfl (.inl rfl) rfl (we_int ?_)))
      refine ⟨.str b.1, rfl, ?_⟩
      refine ⟨rfl, .inr b.1, rfl, ?_⟩
      exact map_snoc (fn := fun b : Bnd => (.inr b.1 : Key)) e1 hp
  rw [List.length_map] at hp
  have hp := map_all hp
  refine (we_blt cb_len m_len PySem.boot_len lenF_mono (wa_cons (we_name (i := 2) rfl (.inl rfl) rfl (wa_nil ?_))))
  have en : decide (((nub acc).length : Int) = ((ss.map bD).length : Nat)) = decide (ss.map (·.1)).Nodup := by
    have h := nub_len acc
    have hn : (ss.map fun b => (.inr b.1 : Key)).Nodup ↔ (ss.map (·.1)).Nodup := by
      rw [show (ss.map fun b : Bnd => (.inr b.1 : Key)) = (ss.map (·.1)).map (Sum.inr : Str → Key) by rw [List.map_map]; rfl]
      constructor
      · exact fun z => List.Pairwise.of_map (Sum.inr : Str → Key) (fun a b q e => q (by rw [e])) z
      · exact fun z => List.Pairwise.map (Sum.inr : Str → Key) (fun a b q e => q (by cases e; rfl)) z
    rw [hp] at h ⊢
    rw [hn] at h
    rw [decide_eq_decide, ← h, List.length_map, List.length_map]
    omega
  show if decide (((nub acc).length : Int) = ((ss.map bD).length : Nat)) = true then _ else _
  rw [en]
  refine ifE (fun h7 => ?_) (fun h7 => ?_)
  · refine (we_and1 (we_cmp hu (we_blt (cb_sum rfl) m_sum PyProof.Rows.boot_sum sumF_mono (wa_cons (we_lc rfl sc_is_ring_of.nd rfl [("bound", 6)] (blkOk_by (N := N_is_ring_of) (sc := defScope t_is_ring_of) (by decide +kernel)) (fun _ _ _ _ _ => wg_name (i := 6) sc_is_ring_of.nd rfl (.inl rfl)) (by decide) (wi_seq (we_name (i := 2) rfl (.inl rfl) rfl ?_)))))))
    refine ⟨fun i acc => acc = (ss.take i).map fun b => D.int b.2.2, rfl, fun i d acc hd ha hp => ?_, fun acc hp => ?_⟩
    · rw [List.getElem?_map] at hd
      cases e1 : ss[i]? with
      | none => rw [e1] at hd; cases hd
      | some b =>
        rw [e1] at hd
        cases hd
        refine fun s H C cl fp => ?_
        refine (we_ix (we_name (i := 6) rfl (.inl rfl) rfl (we_int ?_)))
        refine ⟨.int b.2.2, rfl, ?_⟩
        refine ⟨rfl, ⟨_, rfl⟩, ?_⟩
        exact map_snoc (fn := fun b : Bnd => D.int b.2.2) e1 hp
    · rw [List.length_map] at hp
      have hp := map_all hp
      refine (wa_nil ?_)
      refine ⟨ss.map (·.2.2), by show acc = _; rw [hp, List.map_map]; rfl, ?_⟩
      refine (we_int ?_)
      rw [h7] at hW
      exact hW
  · rw [h7] at hW
    exact hW
theorem sc_is_ring : FnScope ["bounds", "thing"] ["bounds", "thing"] (defScope t_is_ring) := ⟨rfl, rfl, rfl, by decide +kernel, rfl, by decide +kernel, by decide +kernel⟩
theorem ok_is_ring {f : Addr} {fd : FuncData} (F : Fun K "is_ring" "is_ring" t_is_ring f fd) (h_need_bounds : Has P w K mg base dr 3 "need_bounds" ["bounds"] W_need_bounds) (h_is_ring_of : Has P w K mg base dr 2 "is_ring_of" ["bounds", "thing"] W_is_ring) : FnG P w K mg base CX0 4 f fd ["bounds", "thing"] (spD K dr W_is_ring) := by
  refine fnD F sc_is_ring (fun ds Q h => by obtain ⟨_, _, _, rfl, _⟩ := h; rfl) fun cdv A outer s H E an ds post hr gd hW => ?_
  obtain ⟨t, bs, d, rfl, hg, hz, ha, hW⟩ := hW
  refine (wss_cons (ws_expr (we_call h_need_bounds hr gd (wa_cons (we_name (i := 0) rfl (.inl rfl) rfl (wa_nil ?_))))))
  refine ⟨t, bs, rfl, hg, ?_⟩
  refine (wss_one (ws_ret (we_call h_is_ring_of hr gd (wa_cons (we_name (i := 0) rfl (.inl rfl) rfl (wa_cons (we_name (i := 1) rfl (.inl rfl) rfl (wa_nil ?_))))))))
  exact ⟨t, bs, d, rfl, hg, hz, ha, hW⟩
end
end K16

namespace K16
open PySem L2 DL
abbrev t_pick : Stmt := top 18
abbrev t_mixed : Stmt := top 19
abbrev t_words : Stmt := top 20
abbrev t_is_int : Stmt := top 21
abbrev t_limits : Stmt := top 22
abbrev t_law_is_ring : Stmt := top 23
abbrev t_round : Stmt := top 24
abbrev t_bent : Stmt := top 25
abbrev t_law : Stmt := top 26
/-! ### what may be compared -/
def shE (d : D) : Prop := (toP d).canLay0 = true ∧ (toP d).depth ≤ 63
theorem shE_can : ∀ {xs : List D}, (∀ d ∈ xs, shE d) → PyData.canLayAll0 (toPs xs) = true ∧ PyData.depthAll (toPs xs) ≤ 63
  | [], _ => ⟨rfl, by simp [toPs, PyData.depthAll]⟩
  | d :: xs, h => by
    have h1 := h d List.mem_cons_self
    have h2 := shE_can (xs := xs) fun e he => h e (List.mem_cons_of_mem _ he)
    refine ⟨?_, ?_⟩
    · simp only [toPs, PyData.canLayAll0, Bool.and_eq_true]; exact ⟨h1.1, h2.1⟩
    · simp only [toPs, PyData.depthAll]
      have h3 := h1.2
      have h4 := h2.2
      omega
theorem shp_lst {xs : List D} (h : ∀ d ∈ xs, shE d) : shp (.lst xs) := by
  have h1 := shE_can h
  unfold shp SeqAt.shaped
  simp only [toP, PyData.canLay0, PyData.depth, Bool.and_eq_true, decide_eq_true_eq]
  exact ⟨h1.1, by omega⟩
theorem shp_tup {xs : List D} (h : ∀ d ∈ xs, shE d) : shp (.tup xs) := by
  have h1 := shE_can h
  unfold shp SeqAt.shaped
  simp only [toP, PyData.canLay0, PyData.depth, Bool.and_eq_true, decide_eq_true_eq]
  exact ⟨h1.1, by omega⟩
theorem shE_int (i : Int) : shE (.int i) := ⟨rfl, by simp [toP, PyData.depth]⟩
theorem shp_nil : shp (.lst []) := shp_lst fun d h => by cases h
theorem eqD_nil (xs : List D) : eqD (.lst xs) (.lst []) = xs.isEmpty := by cases xs <;> simp [eqD, toP, toPs, PyData.eqv, PyData.eqvAll]
theorem eqD_str (a b : Str) : eqD (.str a) (.str b) = decide (a = b) := by
  simp only [eqD, toP, PyData.eqv]
  by_cases h : a = b
  · subst h; simp
  · rw [decide_eq_false h]
    cases e : a == b
    · rfl
    · exact absurd (eq_of_beq e) h
instance decName (z : Str) : Decidable (nameS z) := by unfold nameS; infer_instance
theorem let_small : ∀ c ∈ letters.cps.toList, c < 256 := by decide +kernel
theorem sideS_str {z : Str} (h : sideS z) : ∀ c ∈ z.cps.toList, c < 256 := by
  rcases h with h | rfl
  · exact fun c hc => let_small c (h.2.2 c hc)
  · decide +kernel
theorem shE_str {z : Str} (h : ∀ c ∈ z.cps.toList, c < 256) : shE (.str z) := by
  refine ⟨?_, by simp [toP, PyData.depth]⟩
  simp only [toP, PyData.canLay0, PyData.strOk]
  rw [← Array.all_toList, List.all_eq_true]
  intro c hc
  have := h c hc
  exact decide_eq_true (by omega)
theorem shE_side {z : Str} (h : sideS z) : shE (.str z) := shE_str (sideS_str h)
theorem shp_of {d : D} (h : shE d) : shp d := by
  unfold shp SeqAt.shaped
  rw [Bool.and_eq_true]
  exact ⟨h.1, decide_eq_true (by have := h.2; omega)⟩
/-! ### pick, mixed -/
def W_pick (x : Dr) : Wp := fun ds P => (∃ xs, ds = [.obj x.d, .lst xs] ∧ xs ≠ [] ∧ xs.length ≤ sizeLine ∧ ∀ y ∈ xs, P y) ∨ (∃ z : Str, ds = [.obj x.d, .str z] ∧ 0 < z.length ∧ z.length ≤ sizeLine ∧ ∀ c ∈ z.cps.toList, P (.str ⟨#[c]⟩))
theorem mono_pick {x : Dr} : ∀ ds Q Q', (∀ d, Q d → Q' d) → W_pick x ds Q → W_pick x ds Q' := fun ds Q Q' i h => by
  rcases h with ⟨xs, e, h1, h2, q⟩ | ⟨z, e, h1, h2, q⟩
  · exact .inl ⟨xs, e, h1, h2, fun y hy => i _ (q y hy)⟩
  · exact .inr ⟨z, e, h1, h2, fun y hy => i _ (q y hy)⟩
def W_mixed (x : Dr) : Wp := fun ds P => ∃ xs, ds = [.obj x.d, .lst xs] ∧ xs.length ≤ 1000 ∧ (∀ d ∈ xs, shE d) ∧ ∀ ys : List D, ys.Perm xs → P (.lst ys)
theorem mono_mixed {x : Dr} : ∀ ds Q Q', (∀ d, Q d → Q' d) → W_mixed x ds Q → W_mixed x ds Q' := fun ds Q Q' i ⟨xs, e, h1, h2, q⟩ => ⟨xs, e, h1, h2, fun y hy => i _ (q y hy)⟩
theorem perm_erase {α : Type} {l : List α} {i : Nat} {d : α} (h : l[i]? = some d) : (d :: l.eraseIdx i).Perm l := by
  induction l generalizing i with
  | nil => cases h
  | cons a l ih =>
    cases i with
    | zero => cases h; exact List.Perm.refl _
    | succ i =>
      have h : l[i]? = some d := h
      exact (List.Perm.swap a d _).trans ((ih h).cons a)
section
variable {P : Program} {w : World} {K : PySem.W.Frag} {mg : Str → Option Value} {base : Heap} {x : Dr}
theorem sc_law_pick : FnScope ["_law_draw", "_law_some"] ["_law_draw", "_law_some"] (defScope t_pick) := ⟨rfl, rfl, rfl, by decide +kernel, rfl, by decide +kernel, by decide +kernel⟩
theorem ok_law_pick {f : Addr} {fd : FuncData} (F : Fun K "_law_pick" "_law_pick" t_pick f fd) (m_len : mg "len" = none) (h_law_take : Has P w K mg base (some x) 2 "_law_take" ["_law_draw", "_law_many"] (W_take x)) : FnG P w K mg base CX0 3 f fd ["_law_draw", "_law_some"] (spD K (some x) (W_pick x)) := by
  refine fnD F sc_law_pick (fun ds Q h => by rcases h with ⟨_, rfl, _⟩ | ⟨_, rfl, _⟩ <;> rfl) fun cdv A outer s H E an ds post hr gd hW => ?_
  have big : sizeLine < 2 ^ 64 := by decide
  rcases hW with ⟨xs, rfl, ne, hz, hW⟩ | ⟨z, rfl, ne, hz, hW⟩
  · refine (wss_one (ws_ret (we_ix (we_name (i := 1) rfl (.inl rfl) rfl (we_call h_law_take hr gd (wa_cons (we_name (i := 0) rfl (.inl rfl) rfl (wa_cons (we_blt cb_len m_len PySem.boot_len lenF_mono (wa_cons (we_name (i := 1) rfl (.inl rfl) rfl (wa_nil (wa_nil ?_)))))))))))))
    have : 0 < xs.length := List.length_pos_iff.mpr ne
    refine ⟨_, rfl, ⟨by omega, by omega⟩, fun k k0 k1 => ?_⟩
    obtain ⟨k, rfl⟩ := Int.eq_ofNat_of_zero_le k0
    have kl : k < xs.length := by omega
    exact ⟨xs[k], atI_nat (List.getElem?_eq_getElem kl), hW _ (List.getElem_mem kl)⟩
  · refine (wss_one (ws_ret (we_ix (we_name (i := 1) rfl (.inl rfl) rfl (we_call h_law_take hr gd (wa_cons (we_name (i := 0) rfl (.inl rfl) rfl (wa_cons (we_blt cb_len m_len PySem.boot_len lenF_mono (wa_cons (we_name (i := 1) rfl (.inl rfl) rfl (wa_nil ⟨hz, wa_nil ?_⟩))))))))))))
    refine ⟨_, rfl, ⟨by omega, by omega⟩, fun k k0 k1 => ?_⟩
    obtain ⟨k, rfl⟩ := Int.eq_ofNat_of_zero_le k0
    have kl : k < z.cps.toList.length := by
      have : z.length = z.cps.toList.length := by simp [Str.length]
      omega
    exact ⟨hz, z.cps.toList[k], atI_nat (List.getElem?_eq_getElem kl), hW _ (List.getElem_mem kl)⟩
theorem sc_law_mixed : FnScope ["_law_draw", "_law_some", "_law_left", "_law_found"] ["_law_draw", "_law_some"] (defScope t_mixed) := ⟨rfl, rfl, rfl, by decide +kernel, rfl, by decide +kernel, by decide +kernel⟩
theorem ok_law_mixed {f : Addr} {fd : FuncData} (F : Fun K "_law_mixed" "_law_mixed" t_mixed f fd) (m_len : mg "len" = none) (m_list : mg "list" = none) (h_law_take : Has P w K mg base (some x) 2 "_law_take" ["_law_draw", "_law_many"] (W_take x)) : FnG P w K mg base CX0 3 f fd ["_law_draw", "_law_some"] (spD K (some x) (W_mixed x)) := by
  refine fnD F sc_law_mixed (fun ds Q h => by obtain ⟨_, rfl, _⟩ := h; rfl) fun cdv A outer s H E an ds post hr gd hW => ?_
  obtain ⟨xs, rfl, hz, hs, hW⟩ := hW
  have hu := hu65 hr
  have big : 2000 < sizeLine := by decide
  refine (wss_cons (ws_par (i := 2) (j := 3) rfl sc_law_mixed.nd rfl rfl (by decide) rfl rfl (wa_cons (we_listO m_list (we_name (i := 1) rfl (.inl rfl) rfl ⟨xs, .inl rfl, wa_cons (we_lstO (wa_nil ⟨by show 0 ≤ sizeLine; omega, wa_nil ⟨_, _, rfl, ?_⟩⟩))⟩)))))
  refine (wss_cons ?_)
  refine ws_while (fun m ρ om => ∃ left found : List D, ρ = [some (.v (.obj x.d)), some (.v (.lst xs)), some (.o 0), some (.o 1)] ∧ om = [some left, some found] ∧ (found ++ left).Perm xs ∧ m = left.length) xs.length ⟨xs, [], rfl, rfl, List.Perm.refl _, rfl⟩ (fun m ρ om hl hp => ?_) PassesOwn.never
  obtain ⟨left, found, rfl, rfl, pm, rfl⟩ := hp
  have hsl : ∀ d ∈ left, shE d := fun d hd => hs d (pm.mem_iff.mp (List.mem_append_right _ hd))
  have pl := pm.length_eq
  rw [List.length_append] at pl
  refine (wt_cmp hu (we_name (i := 2) rfl (.inl rfl) rfl (we_lst (wa_nil ⟨by show 0 ≤ sizeLine; omega, ?_⟩))))
  refine ⟨shp_lst hsl, shp_nil, ?_⟩
  show if (!eqD (.lst left) (.lst [])) = true then _ else _
  rw [eqD_nil]
  refine ifE (fun h1 => ?_) (fun h1 => ?_)
  · have lp : 0 < left.length := by cases left <;> simp at h1 ⊢
    refine (wss_one (ws_expr (we_append (we_name (i := 3) rfl (.inl rfl) rfl ⟨_, rfl, ⟨_, rfl⟩, ?_⟩))))
    refine (we_popAt (we_name (i := 2) rfl (.inl rfl) rfl ⟨_, rfl, ⟨_, rfl⟩, ?_⟩))
    refine (we_call h_law_take hr gd (wa_cons (we_name (i := 0) rfl (.inl rfl) rfl (wa_cons (we_blt cb_len m_len PySem.boot_len lenF_mono (wa_cons (we_name (i := 2) rfl (.inl rfl) rfl (wa_nil (wa_nil ?_)))))))))
    refine ⟨_, rfl, ⟨by omega, by omega⟩, fun k k0 k1 => ?_⟩
    obtain ⟨k, rfl⟩ := Int.eq_ofNat_of_zero_le k0
    have kl : k < left.length := by omega
    refine ⟨k, left[k], left, rfl, rfl, by omega, List.getElem?_eq_getElem kl, ?_⟩
    refine ⟨_, found, rfl, rfl, by omega, ?_⟩
    refine ⟨left.length - 1, by omega, left.eraseIdx k, found ++ [left[k]], rfl, rfl, ?_, by rw [List.length_eraseIdx, if_pos kl]⟩
    rw [List.append_assoc]
    exact ((perm_erase (List.getElem?_eq_getElem kl)).append_left found).trans pm
  · have e : left = [] := by cases left; rfl; simp at h1
    subst e
    rw [List.append_nil] at pm
    refine (wss_one (ws_ret (we_name (i := 3) rfl (.inl rfl) rfl ?_)))
    exact ⟨found, rfl, hW _ pm⟩
end
end K16

namespace K16
open PySem L2 DL
/-! ### words -/
def loopB : Stmt → List Stmt
  | .For _ _ b _ _ => b
  | _ => []
theorem pigeon {α : Type} [DecidableEq α] : ∀ {l m : List α}, l.Nodup → (∀ x ∈ l, x ∈ m) → l.length ≤ m.length
  | [], m, _, _ => Nat.zero_le _
  | a :: l, m, hn, hs => by
    have h1 := List.nodup_cons.mp hn
    have ha : a ∈ m := hs a List.mem_cons_self
    have ih := pigeon (l := l) (m := m.erase a) h1.2 fun y hy => (List.mem_erase_of_ne (fun (e : y = a) => h1.1 (e ▸ hy))).mpr (hs y (List.mem_cons_of_mem _ hy))
    rw [List.length_erase_of_mem ha] at ih
    have : 0 < m.length := List.length_pos_iff.mpr (fun e => by rw [e] at ha; cases ha)
    rw [List.length_cons]
    omega
def oneS (c : Nat) : Str := ⟨#[c]⟩
def nearS (w : Str) : List Str := [w] ++ (letters.cps.toList.map fun c => cutS w none (some 7) ++ oneS c)
theorem app_tl (a b : Str) : (a ++ b).cps.toList = a.cps.toList ++ b.cps.toList := TL.tl_append a b
theorem len_tl (a : Str) : a.length = a.cps.toList.length := by simp [Str.length]
theorem cut7_tl (w : Str) : (cutS w none (some 7)).cps.toList = w.cps.toList.take 7 := by
  show (List.take (HT.sIx w.length w.length (some ((7 : Nat) : Int)) - HT.sIx w.length 0 none) (List.drop (HT.sIx w.length 0 none) w.cps.toList)) = _
  rw [HT.sIx_nat, HT.sIx_none, Nat.sub_zero, List.drop_zero]
  by_cases h : 7 ≤ w.length
  · rw [Nat.min_eq_left h]
  · have := len_tl w
    rw [Nat.min_eq_right (by omega), List.take_of_length_le (by omega), List.take_of_length_le (by omega)]
theorem near_name {w : Str} (h : nameS w) : ∀ z ∈ nearS w, nameS z := by
  intro z hz
  unfold nearS at hz
  rcases List.mem_append.mp hz with hz | hz
  · rw [List.mem_singleton.mp hz]; exact h
  · obtain ⟨c, hc, rfl⟩ := List.mem_map.mp hz
    have e : (cutS w none (some 7) ++ oneS c).cps.toList = w.cps.toList.take 7 ++ [c] := by rw [app_tl, cut7_tl]; rfl
    have el : (cutS w none (some 7) ++ oneS c).length = (w.cps.toList.take 7).length + 1 := by rw [len_tl, e, List.length_append]; rfl
    refine ⟨by omega, by rw [el, List.length_take]; omega, ?_⟩
    rw [e]
    intro y hy
    rcases List.mem_append.mp hy with hy | hy
    · exact h.2.2 y (List.mem_of_mem_take hy)
    · rw [List.mem_singleton.mp hy]; exact hc
theorem let_nodup : letters.cps.toList.Nodup := by decide +kernel
theorem let_len : letters.cps.toList.length = 26 := by decide +kernel
def newS (fs : List Str) (z : Str) : Bool := !((fs.map D.str).any fun y => eqD y (.str z))
theorem newS_iff {fs : List Str} {z : Str} : newS fs z = true ↔ z ∉ fs := by
  unfold newS
  rw [Bool.not_eq_true', List.any_map, ← Bool.not_eq_true, List.any_eq_true]
  constructor
  · exact fun h hz => h ⟨z, hz, by show eqD (.str z) (.str z) = true; rw [eqD_str]; exact decide_eq_true rfl⟩
  · rintro h ⟨y, hy, e⟩
    have e : eqD (.str y) (.str z) = true := e
    rw [eqD_str] at e
    exact h (of_decide_eq_true e ▸ hy)
theorem near_free {w : Str} {fs : List Str} (hl : fs.length ≤ 25) : ∃ z r, (nearS w).filter (newS fs) = z :: r ∧ z ∉ fs ∧ z ∈ nearS w := by
  cases e : (nearS w).filter (newS fs) with
  | cons z r =>
    have : z ∈ (nearS w).filter (newS fs) := by rw [e]; exact List.mem_cons_self
    have := List.mem_filter.mp this
    exact ⟨z, r, rfl, newS_iff.mp this.2, this.1⟩
  | nil =>
    have hn : ∀ z ∈ nearS w, z ∈ fs := fun z hz => by
      rw [List.filter_eq_nil_iff] at e
      have := e z hz
      rw [newS_iff] at this
      exact Classical.not_not.mp this
    have hp := pigeon (l := letters.cps.toList.map fun c => cutS w none (some 7) ++ oneS c) (m := fs) ?_ fun z hz => hn z (List.mem_append_right _ hz)
    · rw [List.length_map, let_len] at hp; omega
    · refine List.Pairwise.map _ (fun a b q e => q ?_) let_nodup
      have e := congrArg (fun z : Str => z.cps.toList) e
      simp only [app_tl] at e
      have := List.append_cancel_left e
      exact (List.cons.inj this).1
theorem filt_snoc {α : Type} {ds : List α} {p : α → Bool} {i : Nat} {d : α} (hd : ds[i]? = some d) : (ds.take (i + 1)).filter p = if p d = true then (ds.take i).filter p ++ [d] else (ds.take i).filter p := by
  rw [List.take_add_one, hd, List.filter_append]
  show _ ++ [d].filter p = _
  cases e : p d
  · simp [e]
  · simp [e]
theorem join1 (cs : List Nat) : Txt.join "" (cs.map oneS) = SX.S cs := by
  have e2 : TL.joinL [] (cs.map fun c => [c]) = cs := by
    induction cs with
    | nil => rfl
    | cons c cs ih =>
      cases cs with
      | nil => rfl
      | cons d cs =>
        show [c] ++ ([] ++ TL.joinL [] ((d :: cs).map fun c => [c])) = _
        rw [ih]
        rfl
  have e := SX.join_S [] (cs.map fun c => [c])
  rw [List.map_map, e2] at e
  exact e
theorem sum_ones : ∀ cs : List Nat, (cs.map ((fun x : Str => x.length) ∘ oneS)).sum = cs.length
  | [] => rfl
  | c :: cs => by
    rw [List.map_cons, List.sum_cons, sum_ones cs, List.length_cons]
    show 1 + cs.length = _
    omega
def W_words (x : Dr) : Wp := fun ds P => ∃ n : Int, ds = [.obj x.d, .int n] ∧ (0 ≤ n ∧ n ≤ 25) ∧ ∀ ws : List Str, ws.length = n.toNat → ws.Nodup → (∀ z ∈ ws, nameS z) → P (.lst (ws.map D.str))
theorem mono_words {x : Dr} : ∀ ds Q Q', (∀ d, Q d → Q' d) → W_words x ds Q → W_words x ds Q' := fun ds Q Q' i ⟨xs, e, h1, q⟩ => ⟨xs, e, h1, fun y h1 h2 h3 => i _ (q y h1 h2 h3)⟩
def W_limits (x : Dr) : Wp := fun ds P => ∃ (ws : List Str) (n t : Int), ds = [.obj x.d, .lst (ws.map D.str), .int n, .int t] ∧ (0 ≤ n ∧ n ≤ 100) ∧ (0 < t ∧ t ≤ 10 ^ 9) ∧ (1 ≤ ws.length ∧ ws.length ≤ 25) ∧ ws.Nodup ∧ (∀ z ∈ ws, nameS z) ∧
  ∀ bs : List Bnd, (∀ b ∈ bs, goodB b) → bs.length = n.toNat → (∀ b ∈ bs, b.1 ∈ ("" : Str) :: ws ∧ b.2.1 ∈ ("" : Str) :: ws ∧ -t ≤ b.2.2 ∧ b.2.2 ≤ t) → P (.lst (bs.map bD))
theorem mono_limits {x : Dr} : ∀ ds Q Q', (∀ d, Q d → Q' d) → W_limits x ds Q → W_limits x ds Q' := fun ds Q Q' i ⟨ws, n, t, e, h1, h2, h3, h4, h5, q⟩ => ⟨ws, n, t, e, h1, h2, h3, h4, h5, fun bs a b c => i _ (q bs a b c)⟩
section
variable {P : Program} {w_ : World} {K : PySem.W.Frag} {mg : Str → Option Value} {base : Heap} {x : Dr}
abbrev N_law_words : List Str := ["_law_draw", "_law_count", "_law_letters", "_law_found", "_law_some", "_law_k", "_law_word", "_law_near", "_law_span", "_law_letter", "_law_j", "_law_one"]
theorem sc_law_words : FnScope N_law_words ["_law_draw", "_law_count"] (defScope t_words) := ⟨rfl, rfl, rfl, by decide +kernel, rfl, by decide +kernel, by decide +kernel⟩
abbrev someS : List Str := ["a", "b", "x", "xy", "not", "and", "or", "all", "any", "lacks", "most", "zzzzzzzz"]
theorem someS_name : ∀ z ∈ someS, nameS z := by decide +kernel
set_option maxHeartbeats 4000000 in
theorem ok_law_words {f : Addr} {fd : FuncData} (F : Fun K "_law_words" "_law_words" t_words f fd) (m_range : mg "range" = none) (h_law_take : Has P w_ K mg base (some x) 2 "_law_take" ["_law_draw", "_law_many"] (W_take x)) (h_law_pick : Has P w_ K mg base (some x) 3 "_law_pick" ["_law_draw", "_law_some"] (W_pick x)) :
    FnG P w_ K mg base CX0 4 f fd ["_law_draw", "_law_count"] (spD K (some x) (W_words x)) := by
  refine fnD F sc_law_words (fun ds Q h => by obtain ⟨_, rfl, _⟩ := h; rfl) fun cdv A outer s H E an ds post hr gd hW => ?_
  obtain ⟨n, rfl, ⟨n0, n1⟩, hW⟩ := hW
  have hu := hu65 hr
  have big : 20000 < sizeLine := by decide
  refine (wss_cons (ws_parC (i := 2) (j := 3) rfl sc_law_words.nd rfl rfl (.inr rfl) (.inr rfl) (wa_cons (we_str (wa_cons (we_lstO (wa_nil ⟨by show 0 ≤ sizeLine; omega, wa_nil ⟨_, _, rfl, ?_⟩⟩)))))))
  refine (wss_cons (ws_set (i := 4) sc_law_words.nd rfl (.inl rfl) (we_lst (wa_cons (we_str (wa_cons (we_str (wa_cons (we_str (wa_cons (we_str (wa_cons (we_str (wa_cons (we_str (wa_cons (we_str (wa_cons (we_str (wa_cons (we_str (wa_cons (we_str (wa_cons (we_str (wa_cons (we_str (wa_nil ?_))))))))))))))))))))))))))))
  refine ⟨by show 12 ≤ sizeLine; omega, ?_⟩
  refine (wss_cons (ws_for PassesOwn.never rfl (wg_name (i := 5) sc_law_words.nd rfl (.inl rfl)) (wi_range m_range (we_name (i := 1) rfl (.inl rfl) rfl ?_))))
  refine ⟨⟨by omega, by omega⟩, ?_⟩
  refine ⟨fun i ρ om => ∃ (fs : List Str) (r5 r6 r7 r8 r9 r10 r11 : Option R), ρ = [some (.v (.obj x.d)), some (.v (.int n)), some (.v (.str letters)), some (.o 0), some (.v (.lst (someS.map D.str))), r5, r6, r7, r8, r9, r10, r11] ∧ om = [some (fs.map D.str)] ∧ fs.length = i ∧ fs.Nodup ∧ ∀ z ∈ fs, nameS z, ⟨[], none, none, none, none, none, none, none, rfl, rfl, rfl, List.nodup_nil, fun z h => by cases h⟩, fun i d ρ om hl hd hp => ?_, fun ρ om hl hp => ?_⟩
  · obtain ⟨fs, r5, r6, r7, r8, r9, r10, r11, rfl, rfl, fl, fn, fnm⟩ := hp
    have il : i < n.toNat := by
      have := (List.getElem?_eq_some_iff.mp hd).1
      unfold rngD at this
      rw [List.length_map, List.length_range] at this
      exact this
    refine (wss_cons (ws_set (i := 6) sc_law_words.nd rfl (.inr rfl) (we_call h_law_pick hr gd (wa_cons (we_name (i := 0) rfl (.inr (.inl rfl)) rfl (wa_cons (we_name (i := 4) rfl (.inl rfl) rfl (wa_nil ?_))))))))
    refine .inl ⟨someS.map D.str, rfl, by simp, by show 12 ≤ sizeLine; omega, fun y hy => ?_⟩
    obtain ⟨z, hz, rfl⟩ := List.mem_map.mp hy
    have zn := someS_name z hz
    refine (wss_cons (ws_if (wt_cmp hu (we_call h_law_take hr gd (wa_cons (we_name (i := 0) rfl (.inr (.inl rfl)) rfl (wa_cons (we_int (wa_nil ?_)))))))))
    refine ⟨3, rfl, ⟨by decide, by decide⟩, fun k k0 k1 => ?_⟩
    refine (we_int ?_)
    have tail : ∀ {E' : Ed} (w : Str) (r5 r7 r8 r9 r10 r11 : Option R), nameS w → (∀ (gs : List Str) (r7 : Option R), gs.length = i + 1 → gs.Nodup → (∀ z ∈ gs, nameS z) → E'.nx [some (.v (.obj x.d)), some (.v (.int n)), some (.v (.str letters)), some (.o 0), some (.v (.lst (someS.map D.str))), r5, some (.v (.str w)), r7, r8, r9, r10, r11] [some (gs.map D.str)]) →
        WSs (cxOf CX0 P w_ K mg base N_law_words "_law_words" (defScope t_words) f cdv A outer s H E).nox an (some x) [some (.v (.obj x.d)), some (.v (.int n)), some (.v (.str letters)), some (.o 0), some (.v (.lst (someS.map D.str))), r5, some (.v (.str w)), r7, r8, r9, r10, r11] [some (fs.map D.str)] ((loopB ((defBody t_words).getD 2 (.Pass ⟨0, 0, 0, 0⟩))).drop 2) E' := fun {E'} w r5 r7 r8 r9 r10 r11 wn fin => by
      have wl : w.length ≤ sizeLine := by have := wn.2.1; omega
      refine (wss_cons (ws_set (i := 7) sc_law_words.nd rfl (.inl rfl) (we_bin (we_lst (wa_cons (we_name (i := 6) rfl (.inr (.inl rfl)) rfl (wa_nil ?_)))))))
      refine ⟨by show 1 ≤ sizeLine; omega, ?_⟩
      refine (we_lc rfl sc_law_words.nd rfl [("_law_letter", 9)] (blkOk_by (N := N_law_words) (sc := defScope t_words) (by decide +kernel)) (fun _ _ _ _ _ => wg_name (i := 9) sc_law_words.nd rfl (.inl rfl)) (by decide) (wi_seq (we_name (i := 2) rfl (.inr (.inl rfl)) rfl ?_)))
      refine ⟨by show 26 ≤ sizeLine; omega, ?_⟩
      refine ⟨fun i acc => acc = (letters.cps.toList.take i).map fun c => D.str (cutS w none (some 7) ++ oneS c), rfl, fun i d acc hd ha hp => ?_, fun acc hp => ?_⟩
      · obtain ⟨c, hc, rfl⟩ : ∃ c, letters.cps.toList[i]? = some c ∧ d = .str ⟨#[c]⟩ := by
          unfold signs at hd
          rw [List.getElem?_map] at hd
          cases e : letters.cps.toList[i]? with
          | none => rw [e] at hd; cases hd
          | some c => rw [e] at hd; cases hd; exact ⟨c, rfl, rfl⟩
        refine fun s H C cl fp => ?_
        refine (we_bin (we_sl (we_name (i := 6) rfl (.inr (.inl rfl)) rfl ?_)))
        refine (we_int ⟨wl, we_name (i := 9) rfl (.inl rfl) rfl ?_⟩)
        refine ⟨?_, ?_⟩
        · have := cutS_length w none (some 7)
          show (cutS w none (some 7)).length + 1 ≤ sizeLine
          have := wn.2.1
          omega
        refine ⟨rfl, ⟨_, rfl⟩, ?_⟩
        exact map_snoc (fn := fun c => D.str (cutS w none (some 7) ++ oneS c)) hc hp
      have hp : acc = letters.cps.toList.map fun c => D.str (cutS w none (some 7) ++ oneS c) := by
        have e0 : (signs letters).length = letters.cps.toList.length := by simp [signs]
        rw [e0] at hp
        exact map_all hp
      have hn : [D.str w] ++ acc = (nearS w).map D.str := by
        rw [hp]
        unfold nearS
        rw [List.map_append, List.map_map]
        rfl
      refine ⟨by show 1 + acc.length ≤ sizeLine; rw [hp, List.length_map, let_len]; omega, ?_⟩
      rw [hn]
      clear hn hp
      clear hp acc
      refine (wss_one (ws_expr (we_append (we_name (i := 3) rfl (.inr (.inl rfl)) rfl ?_))))
      refine ⟨_, rfl, ⟨_, rfl⟩, ?_⟩
      refine (we_ix (we_lcIf rfl sc_law_words.nd rfl [("_law_one", 11)] (blkOk_by (N := N_law_words) (sc := defScope t_words) (by decide +kernel)) (fun _ _ _ _ _ => wg_name (i := 11) sc_law_words.nd rfl (.inl rfl)) (by decide) (wi_seq (we_name (i := 7) rfl (.inl rfl) rfl ?_))))
      refine ⟨fun i acc => acc = (((nearS w).take i).filter (newS fs)).map D.str, rfl, fun i d acc hd ha hp => ?_, fun acc hp => ?_⟩
      · rw [List.getElem?_map] at hd
        cases e : (nearS w)[i]? with
        | none => rw [e] at hd; cases hd
        | some y =>
          rw [e] at hd
          cases hd
          have yn := near_name wn y (List.mem_of_getElem? e)
          refine fun s H C cl fp => ?_
          refine (wt_cmp hu (we_name (i := 11) rfl (.inl rfl) rfl (we_name (i := 3) rfl (.inr (.inl rfl)) rfl ?_)))
          refine ⟨shp_of (shE_side (.inl yn)), shp_lst (fun d hd => ?_), ?_⟩
          · obtain ⟨z, hz, rfl⟩ := List.mem_map.mp hd
            exact shE_side (.inl (fnm z hz))
          refine ⟨rfl, ?_⟩
          have fl2 := filt_snoc (p := newS fs) e
          refine ifE (fun h2 => ?_) (fun h2 => ?_)
          · refine fun s H C cl fp => ?_
            refine (we_name (i := 11) rfl (.inl rfl) rfl ?_)
            refine ⟨rfl, ⟨_, rfl⟩, ?_⟩
            have h2 : newS fs y = true := h2
            rw [if_pos h2] at fl2
            show acc ++ [D.str y] = _
            rw [fl2, List.map_append, hp]
            rfl
          · have h2 : newS fs y = false := h2
            rw [if_neg (by rw [h2]; exact Bool.false_ne_true)] at fl2
            show acc = _
            rw [fl2, hp]
      · rw [List.length_map, List.take_length] at hp
        obtain ⟨z, r, ez, zf, zn⟩ := near_free (w := w) (fs := fs) (by omega)
        rw [ez] at hp
        subst hp
        refine (we_int ?_)
        refine ⟨.str z, atI_nat (j := 0) rfl, ?_⟩
        refine ⟨_, _, rfl, rfl, by rw [List.length_map]; omega, ?_⟩
        have e : fs.map D.str ++ [D.str z] = (fs ++ [z]).map D.str := by rw [List.map_append]; rfl
        show E'.nx _ [some (fs.map D.str ++ [D.str z])]
        rw [e]
        refine fin (fs ++ [z]) _ (by rw [List.length_append]; show fs.length + 1 = i + 1; omega) ?_ ?_
        · rw [List.nodup_append]
          exact ⟨fn, by simp, fun a ha b hb => by rw [List.mem_singleton.mp hb]; rintro rfl; exact zf ha⟩
        · intro y hy
          rcases List.mem_append.mp hy with hy | hy
          · exact fnm y hy
          · rw [List.mem_singleton.mp hy]; exact near_name wn z zn
    refine ifE (fun h1 => ?_) (fun h1 => ?_)
    · refine (wss_cons (ws_set (i := 8) sc_law_words.nd rfl (.inl rfl) (we_bin (we_int (we_call h_law_take hr gd (wa_cons (we_name (i := 0) rfl (.inr (.inl rfl)) rfl (wa_cons (we_call h_law_pick hr gd (wa_cons (we_name (i := 0) rfl (.inr (.inl rfl)) rfl (wa_cons (we_lst (wa_cons (we_int (wa_cons (we_int (wa_cons (we_int (wa_nil ?_))))))))))))))))))))
      refine ⟨by show 3 ≤ sizeLine; omega, ?_⟩
      refine (wa_nil ?_)
      refine .inl ⟨_, rfl, List.cons_ne_nil _ _, by show 3 ≤ sizeLine; omega, fun y hy => ?_⟩
      obtain ⟨m, rfl, m0, m1⟩ : ∃ m : Int, y = .int m ∧ 0 < m ∧ m ≤ 8 := by
        simp only [List.mem_cons, List.not_mem_nil, or_false] at hy
        rcases hy with rfl | rfl | rfl
        · exact ⟨1, rfl, by decide, by decide⟩
        · exact ⟨2, rfl, by decide, by decide⟩
        · exact ⟨8, rfl, by decide, by decide⟩
      refine (wa_nil ?_)
      refine ⟨m, rfl, ⟨m0, by omega⟩, fun q q0 q1 => ?_⟩
      refine (wss_one (ws_set (i := 6) sc_law_words.nd rfl (.inr rfl) (we_join (we_str ?_))))
      refine ⟨_, rfl, ?_⟩
      refine (we_lc rfl sc_law_words.nd rfl [("_law_j", 10)] (blkOk_by (N := N_law_words) (sc := defScope t_words) (by decide +kernel)) (fun _ _ _ _ _ => wg_name (i := 10) sc_law_words.nd rfl (.inl rfl)) (by decide) (wi_range m_range (we_name (i := 8) rfl (.inl rfl) rfl ?_)))
      refine ⟨⟨by omega, by omega⟩, ?_⟩
      refine ⟨fun i acc => ∃ cs : List Nat, cs.length = i ∧ (∀ c ∈ cs, c ∈ letters.cps.toList) ∧ acc = (cs.map oneS).map D.str, ⟨[], rfl, (fun c h => by cases h), rfl⟩, fun i d acc hd ha hp => ?_, fun acc hp => ?_⟩
      · obtain ⟨cs, cl, cm, rfl⟩ := hp
        refine fun s H C cl fp => ?_
        refine (we_call h_law_pick hr gd (wa_cons (we_name (i := 0) rfl (.inr (.inl rfl)) rfl (wa_cons (we_name (i := 2) rfl (.inr (.inl rfl)) rfl (wa_nil ?_))))))
        refine .inr ⟨letters, rfl, by decide +kernel, by show 26 ≤ sizeLine; omega, fun c hc => ?_⟩
        refine ⟨rfl, ⟨_, rfl⟩, ?_⟩
        refine ⟨cs ++ [c], by rw [List.length_append]; show cs.length + 1 = i + 1; omega, fun y hy => ?_, by rw [List.map_append, List.map_append]; rfl⟩
        rcases List.mem_append.mp hy with hy | hy
        · exact cm y hy
        · rw [List.mem_singleton.mp hy]; exact hc
      · obtain ⟨cs, cl, cm, rfl⟩ := hp
        have cl : cs.length = (1 + q).toNat := by rw [cl]; unfold rngD; rw [List.length_map, List.length_range]
        have e1 : ((cs.map oneS).map (·.length)).sum = cs.length := by
          rw [List.map_map]
          exact sum_ones cs
        refine ⟨cs.map oneS, rfl, by rw [e1]; show cs.length + _ * 0 ≤ _; omega, ?_⟩
        rw [join1]
        refine tail (SX.S cs) _ _ _ _ _ _ ?_ fun gs r7 g1 g2 g3 => ⟨gs, _, _, _, _, _, _, _, rfl, rfl, g1, g2, g3⟩
        refine ⟨by rw [SX.S_len]; omega, by rw [SX.S_len]; omega, cm⟩
    · refine wss_nil ?_
      exact tail z _ _ _ _ _ _ zn fun gs r7 g1 g2 g3 => ⟨gs, _, _, _, _, _, _, _, rfl, rfl, g1, g2, g3⟩
  · obtain ⟨fs, r5, r6, r7, r8, r9, r10, r11, rfl, rfl, fl, fn, fnm⟩ := hp
    unfold rngD at fl
    rw [List.length_map, List.length_range] at fl
    refine (wss_one (ws_ret (we_name (i := 3) rfl (.inr (.inl rfl)) rfl ?_)))
    exact ⟨_, rfl, hW fs fl fn fnm⟩
end
end K16

namespace K16
open PySem L2 DL
/-! ### is_int, limits, the law's own judge of rings -/
def anyE (d : D) : Prop := (tyN d).isSome = true ∧ ∀ t xs, d = sq t xs → xs.length ≤ 100 ∧ ∀ y ∈ xs, (tyN y).isSome = true ∧ shE y
theorem anyE.any {d : D} (h : anyE d) : anyD d := ⟨h.1, fun t xs e => ⟨(h.2 t xs e).1, fun y hy => ((h.2 t xs e).2 y hy).1⟩⟩
def W_law_is_ring : Wp := fun ds P => ∃ (bs : List Bnd) (d : D), ds = [.lst (bs.map bD), d] ∧ (∀ b ∈ bs, goodB b) ∧ bs.length ≤ 100 ∧ anyE d ∧ P (.bl (ringD bs d))
theorem mono_law_is_ring : ∀ ds Q Q', (∀ d, Q d → Q' d) → W_law_is_ring ds Q → W_law_is_ring ds Q' := fun ds Q Q' i ⟨bs, d, e, h1, h2, h3, q⟩ => ⟨bs, d, e, h1, h2, h3, i _ q⟩
theorem sq_ixI {t : Bool} {xs : List D} {i : Int} {d : D} {K : D → Prop} (hd : atI xs i = some d) (h : K d) : ixD (sq t xs) (.int i) K := by cases t <;> exact ⟨d, hd, h⟩
def prs (rs : List Bnd) : List (Bnd × Bnd) := rs.zip (rs.drop 1 ++ rs.take 1)
def lawR (rs ss : List Bnd) : Bool := (rs.zip ss).all (fun p => decide (p.1.2.1 = p.2.1)) && (decide (rs.map (·.1)).Nodup && decide ((rs.map (·.2.2)).sum < 0))
theorem cyc_rot (z : Bnd) (l : List Bnd) : cyc (l ++ [z]) = ((z :: l).zip (l ++ [z])).all fun p => decide (p.1.2.1 = p.2.1) := by
  cases l with
  | nil => rfl
  | cons a t =>
    unfold cyc
    have e : ((a :: t) ++ [z]).drop 1 ++ ((a :: t) ++ [z]).take 1 = (t ++ [z]) ++ [a] := rfl
    rw [e, List.zip_append (by simp)]
    have e2 : (z :: a :: t).zip (a :: t ++ [z]) = (z, a) :: (a :: t).zip (t ++ [z]) := rfl
    rw [e2, List.all_append, List.all_cons, Bool.and_comm]
    simp
theorem sum_rot : ∀ (l : List Int) (z : Int), (l ++ [z]).sum = z + l.sum
  | [], z => by simp
  | a :: l, z => by rw [List.cons_append, List.sum_cons, List.sum_cons, sum_rot l z]; omega
theorem ring_rot {bs : List Bnd} {xi : List D} {xz : D} (h : (xi ++ [xz]).all (okIx bs.length) = true) : ringOf bs (xi ++ [xz]) = lawR (sel bs (xz :: xi)) (sel bs (xi ++ [xz])) := by
  unfold ringOf
  rw [h]
  have ne : (xi ++ [xz]).isEmpty = false := by cases xi <;> rfl
  rw [ne]
  have e1 : sel bs (xi ++ [xz]) = sel bs xi ++ sel bs [xz] := by unfold sel; rw [List.map_append]
  have e2 : sel bs (xz :: xi) = sel bs [xz] ++ sel bs xi := rfl
  obtain ⟨z, ez⟩ : ∃ z, sel bs [xz] = [z] := ⟨_, rfl⟩
  rw [e1, e2, ez]
  generalize sel bs xi = l
  unfold lawR
  show (true && (true && (cyc (l ++ [z]) && _))) = _
  rw [cyc_rot, Bool.true_and, Bool.true_and]
  congr 2
  · rw [decide_eq_decide]
    rw [List.map_append, List.map_append]
    exact List.perm_append_comm.nodup_iff
  · rw [decide_eq_decide, List.map_append, List.map_append]
    show (l.map (·.2.2) ++ [z.2.2]).sum < 0 ↔ ([z.2.2] ++ l.map (·.2.2)).sum < 0
    rw [sum_rot]
    show _ ↔ (z.2.2 :: l.map (·.2.2)).sum < 0
    rw [List.sum_cons]
theorem lawR_no1 {rs ss : List Bnd} {i : Nat} {a b : Bnd} (ha : rs[i]? = some a) (hb : ss[i]? = some b) (h : a.2.1 ≠ b.1) : lawR rs ss = false := by
  have : (rs.zip ss).all (fun p => decide (p.1.2.1 = p.2.1)) = false := by
    rw [List.all_eq_false]
    exact ⟨(a, b), List.mem_of_getElem? (i := i) (by rw [List.getElem?_zip_eq_some]; exact ⟨ha, hb⟩), by simpa using h⟩
  unfold lawR
  rw [this, Bool.false_and]
theorem nodup_take {α : Type} {l : List α} {i : Nat} {a : α} (ha : l[i]? = some a) (h : a ∈ l.take i) : ¬ l.Nodup := fun hn => by
  have e : l = l.take i ++ l.drop i := (List.take_append_drop i l).symm
  rw [e, List.nodup_append] at hn
  refine hn.2.2 a h a ?_ rfl
  exact List.mem_of_getElem? (i := 0) (by rw [List.getElem?_drop]; exact ha)
theorem lawR_no2 {rs ss : List Bnd} {i : Nat} {a : Bnd} (ha : rs[i]? = some a) (h : a.1 ∈ (rs.take i).map (·.1)) : lawR rs ss = false := by
  have : decide (rs.map (·.1)).Nodup = false := by
    rw [decide_eq_false_iff_not]
    exact nodup_take (i := i) (by rw [List.getElem?_map, ha]; rfl) (by rw [← List.map_take]; exact h)
  unfold lawR
  rw [this, Bool.false_and, Bool.and_false]
theorem rot_at {xi : List D} {xz : D} {i : Nat} (h : i < (xi ++ [xz]).length) : atI (xi ++ [xz]) ((i : Int) - 1) = (xz :: xi)[i]? := by
  rw [List.length_append, List.length_singleton] at h
  cases i with
  | zero =>
    unfold atI ixN
    rw [if_neg (by omega), if_pos (by rw [List.length_append, List.length_singleton]; omega)]
    show (xi ++ [xz])[_]? = some xz
    have : (((0 : Nat) : Int) - 1 + ((xi ++ [xz]).length : Int)).toNat = xi.length := by rw [List.length_append, List.length_singleton]; omega
    rw [this, List.getElem?_append_right (Nat.le_refl _), Nat.sub_self]
    rfl
  | succ i =>
    have hl : i < xi.length := by omega
    have e : (((i + 1 : Nat) : Int) - 1) = (i : Nat) := by omega
    rw [e]
    show atI (xi ++ [xz]) (i : Nat) = xi[i]?
    rw [List.getElem?_eq_getElem hl]
    exact atI_nat (by rw [List.getElem?_append_left hl, List.getElem?_eq_getElem hl])
section
variable {P : Program} {w : World} {K : PySem.W.Frag} {mg : Str → Option Value} {base : Heap} {dr : Option Dr}
theorem sc_law_is_int : FnScope ["_law_matter"] ["_law_matter"] (defScope t_is_int) := ⟨rfl, rfl, rfl, by decide +kernel, rfl, by decide +kernel, by decide +kernel⟩
theorem ok_law_is_int {f : Addr} {fd : FuncData} (F : Fun K "_law_is_int" "_law_is_int" t_is_int f fd) (m_isinstance : mg "isinstance" = none) (m_int : mg "int" = none) (m_bool : mg "bool" = none) : FnG P w K mg base CX0 1 f fd ["_law_matter"] (spD K dr W_is_number) := by
  refine fnD F sc_law_is_int (fun ds Q h => by obtain ⟨_, rfl, _⟩ := h; rfl) fun cdv A outer s H E an ds post hr gd hW => ?_
  obtain ⟨d, rfl, ht, hW⟩ := hW
  refine (wss_one (ws_ret (we_and (we_blt cb_isi m_isinstance PyProof.Rows.boot_isinstance isiF_mono (wa_cons (we_name (i := 0) rfl (.inl rfl) rfl (wa_cons (we_ty m_int PyProof.Rows.boot_int (wa_nil ?_)))))))))
  refine ⟨ht, .inl rfl, ?_⟩
  refine ifE (fun h1 => ?_) (fun h1 => ?_)
  · refine (we_and1 (we_not (we_blt cb_isi m_isinstance PyProof.Rows.boot_isinstance isiF_mono (wa_cons (we_name (i := 0) rfl (.inl rfl) rfl (wa_cons (we_ty m_bool boot_bool (wa_nil ?_))))))))
    refine ⟨ht, .inr (.inl rfl), ?_⟩
    have e : isNum d = !isT d "bool" := by cases d <;> first | rfl | (simp [vw, isT] at h1)
    rw [e] at hW
    exact hW
  · have e : isNum d = false := by cases d <;> first | rfl | (simp [vw, isT] at h1)
    rw [e] at hW
    exact hW
abbrev N_law_is_ring : List Str := ["_law_limits_here", "_law_matter", "_law_total", "_law_firsts", "_law_k", "_law_one", "_law_later"]
theorem sc_law_is_ring : FnScope N_law_is_ring ["_law_limits_here", "_law_matter"] (defScope t_law_is_ring) := ⟨rfl, rfl, rfl, by decide +kernel, rfl, by decide +kernel, by decide +kernel⟩
set_option maxHeartbeats 4000000 in
theorem ok_law_is_ring {f : Addr} {fd : FuncData} (F : Fun K "_law_is_ring" "_law_is_ring" t_law_is_ring f fd) (m_isinstance : mg "isinstance" = none) (m_list : mg "list" = none) (m_tuple : mg "tuple" = none) (m_len : mg "len" = none) (m_range : mg "range" = none)
    (h_law_is_int : Has P w K mg base dr 1 "_law_is_int" ["_law_matter"] W_is_number) : FnG P w K mg base CX0 2 f fd ["_law_limits_here", "_law_matter"] (spD K dr W_law_is_ring) := by
  refine fnD F sc_law_is_ring (fun ds Q h => by obtain ⟨_, _, rfl, _⟩ := h; rfl) fun cdv A outer s H E an ds post hr gd hW => ?_
  obtain ⟨bs, d, rfl, hg, hz, ⟨ht, had⟩, hW⟩ := hW
  have hu := hu65 hr
  have big : 20000 < sizeLine := by decide
  refine (wss_cons (ws_if (WW.wt (ww_or (wt_not (wt_val (we_blt cb_isi m_isinstance PyProof.Rows.boot_isinstance isiF_mono (wa_cons (we_name (i := 1) rfl (.inl rfl) rfl (wa_cons (we_tup (wa_cons (we_ty m_list PyProof.Rows.boot_list (wa_cons (we_ty m_tuple PyProof.Rows.boot_tuple (wa_nil ?_))))))))))))))))
  refine ⟨by show 2 ≤ sizeLine; decide, ?_⟩
  refine (wa_nil ?_)
  refine ⟨ht, ⟨.inr (.inr (.inr (.inl rfl))), .inr (.inr (.inr (.inr (.inl rfl)))), trivial⟩, ?_⟩
  refine ifE (fun h1 => ?_) (fun h1 => ?_)
  · refine ifT rfl ?_
    refine (wss_one (ws_ret (we_bl ?_)))
    have e : ringD bs d = false := by cases d <;> first | rfl | (simp [vw, isAny, isT] at h1)
    rw [e] at hW
    exact hW
  obtain ⟨t2, xs, rfl⟩ : ∃ t2 xs, d = sq t2 xs := by
    cases d <;> first | exact ⟨true, _, rfl⟩ | exact ⟨false, _, rfl⟩ | (simp [vw, isAny, isT] at h1)
  obtain ⟨hxl, hxt⟩ := had t2 xs rfl
  rw [ringD_sq] at hW
  clear h1
  refine (ww_or1 (wt_cmp hu (we_blt cb_len m_len PySem.boot_len lenF_mono (wa_cons (we_name (i := 1) rfl (.inl rfl) rfl (wa_nil ?_))))))
  refine sq_len (we_int ?_)
  refine ifE (fun h2 => ?_) (fun h2 => ?_)
  · refine (wss_one (ws_ret (we_bl ?_)))
    have e : xs = [] := by
      have : decide ((xs.length : Int) = 0) = true := h2
      have : xs.length = 0 := by simpa using this
      exact List.eq_nil_of_length_eq_zero this
    subst e
    exact hW
  have ne : xs ≠ [] := by
    have : decide ((xs.length : Int) = 0) = false := h2
    rintro rfl
    simp at this
  refine (wss_nil (wss_cons (ws_if (wt_cmp hu (we_lcIf rfl sc_law_is_ring.nd rfl [("_law_k", 4)] (blkOk_by (N := N_law_is_ring) (sc := defScope t_law_is_ring) (by decide +kernel)) (fun _ _ _ _ _ => wg_name (i := 4) sc_law_is_ring.nd rfl (.inl rfl)) (by decide) (wi_seq (we_name (i := 1) rfl (.inl rfl) rfl ?_)))))))
  refine sq_walk ?_
  refine ⟨fun i acc => acc = (xs.take i).filter fun d => !okAt bs.length d, rfl, fun i d acc hd ha hp => ?_, fun acc hp => ?_⟩
  · have fl := filt_snoc (p := fun d => !okAt bs.length d) hd
    have td : (tyN d).isSome = true := (hxt d (List.mem_of_getElem? hd)).1
    refine fun s H C cl fp => ?_
    refine (WW.wt (ww_or (wt_not (wt_val (we_call h_law_is_int hr gd (wa_cons (we_name (i := 4) rfl (.inl rfl) rfl (wa_nil ?_))))))))
    refine ⟨d, rfl, td, ?_⟩
    have yes : (!okAt bs.length d) = true → acc ++ [d] = (xs.take (i + 1)).filter fun d => !okAt bs.length d := fun e => by
      rw [fl, if_pos e, hp]
    refine ifE (fun h3 => ?_) (fun h3 => ?_)
    · refine ⟨rfl, ?_⟩
      refine ifT rfl ?_
      refine fun s H C cl fp => ?_
      refine (we_name (i := 4) rfl (.inl rfl) rfl ?_)
      refine ⟨rfl, ⟨_, rfl⟩, ?_⟩
      have h3 : isNum d = false := by simpa using h3
      exact yes (by unfold okAt; rw [h3]; rfl)
    · obtain ⟨k, rfl⟩ : ∃ k, d = .int k := by cases d <;> first | exact ⟨_, rfl⟩ | (cases h3)
      have ek : okAt bs.length (.int k) = (decide (0 ≤ k) && decide (k < bs.length)) := rfl
      refine (ww_or1 (wt_not (wt_chain hu (we_int (we_name (i := 4) rfl (.inl rfl) rfl ?_)))))
      refine ifE (fun h4 => ?_) (fun h4 => ?_)
      · refine (we_blt cb_len m_len PySem.boot_len lenF_mono (wa_cons (we_name (i := 0) rfl (.inr (.inl rfl)) rfl (wa_nil ?_))))
        refine ⟨rfl, ?_⟩
        have h4 : decide (0 ≤ k) = true := h4
        rw [h4, Bool.true_and] at ek
        refine ifE (fun h5 => ?_) (fun h5 => ?_)
        · refine fun s H C cl fp => ?_
          refine (we_name (i := 4) rfl (.inl rfl) rfl ?_)
          refine ⟨rfl, ⟨_, rfl⟩, ?_⟩
          have h5 : (!decide (k < ((bs.map bD).length : Nat))) = true := h5
          rw [List.length_map] at h5
          exact yes (by rw [ek]; exact h5)
        · have h5 : (!decide (k < ((bs.map bD).length : Nat))) = false := h5
          rw [List.length_map] at h5
          show acc = _
          rw [fl, if_neg (by rw [ek, h5]; exact Bool.false_ne_true), hp]
      · refine ⟨rfl, ?_⟩
        refine ifT rfl ?_
        refine fun s H C cl fp => ?_
        refine (we_name (i := 4) rfl (.inl rfl) rfl ?_)
        refine ⟨rfl, ⟨_, rfl⟩, ?_⟩
        have h4 : decide (0 ≤ k) = false := h4
        exact yes (by rw [ek, h4]; rfl)
  have hp : acc = (xs.take xs.length).filter fun d => !okAt bs.length d := hp
  rw [List.take_length] at hp
  refine (we_lst (wa_nil ⟨by show 0 ≤ sizeLine; omega, ?_⟩))
  refine ⟨shp_lst (fun y hy => ?_), shp_nil, ?_⟩
  · rw [hp] at hy
    exact (hxt y (List.mem_filter.mp hy).1).2
  show if (!eqD (.lst acc) (.lst [])) = true then _ else _
  rw [eqD_nil]
  have ea : acc.isEmpty = xs.all (okIx bs.length) := by
    rw [hp, Bool.eq_iff_iff, List.isEmpty_iff, List.filter_eq_nil_iff, List.all_eq_true]
    constructor
    · intro h y hy
      have := h y hy
      rw [← okAt_ix]
      simpa using this
    · intro h y hy
      have := h y hy
      rw [← okAt_ix] at this
      simpa using this
  rw [ea]
  refine ifE (fun h6 => ?_) (fun h6 => ?_)
  · have h6 : xs.all (okIx bs.length) = false := by simpa using h6
    refine (wss_one (ws_ret (we_bl ?_)))
    unfold ringOf at hW
    rw [h6, Bool.false_and, Bool.and_false] at hW
    exact hW
  have h6 : xs.all (okIx bs.length) = true := by simpa using h6
  obtain ⟨xi, xz, rfl⟩ : ∃ xi xz, xs = xi ++ [xz] := ⟨_, _, (List.dropLast_concat_getLast ne).symm⟩
  rw [ring_rot h6] at hW
  have h6' := List.all_eq_true.mp h6
  clear ea hp
  clear hp acc
  -- what stands at a place
  have look : ∀ {d : D}, d ∈ xi ++ [xz] → ∃ j : Nat, d = .int (j : Nat) ∧ j < bs.length ∧ (bs.map bD)[j]? = some (bD (bs.getD ((ixOf bs.length d).getD 0) ("", "", 0))) := fun {d} hd => by
    obtain ⟨j, rfl, jl, ej⟩ := okIx_is (h6' d hd)
    exact ⟨j, rfl, jl, by rw [ej, List.getElem?_map, List.getElem?_eq_getElem jl]; simp [jl]⟩
  refine (wss_nil (wss_cons (ws_par (i := 2) (j := 3) rfl sc_law_is_ring.nd rfl rfl (by decide) rfl rfl (wa_cons (we_int (wa_cons (we_lstO (wa_nil ⟨by show 0 ≤ sizeLine; omega, wa_nil ⟨_, _, rfl, ?_⟩⟩))))))))
  refine (wss_cons (ws_for PassesOwn.never rfl (wg_name (i := 4) sc_law_is_ring.nd rfl (.inl rfl)) (wi_range m_range (we_blt cb_len m_len PySem.boot_len lenF_mono (wa_cons (we_name (i := 1) rfl (.inl rfl) rfl (wa_nil ?_)))))))
  refine sq_len ?_
  refine ⟨⟨by omega, by omega⟩, ?_⟩
  generalize hrs : sel bs (xz :: xi) = rs at *
  generalize hss : sel bs (xi ++ [xz]) = ss at *
  have rl : rs.length = (xi ++ [xz]).length := by rw [← hrs, sel_len]; simp
  have sl : ss.length = (xi ++ [xz]).length := by rw [← hss, sel_len]
  have gr : ∀ b ∈ rs, goodB b := fun b hb => by
    rw [← hrs] at hb
    unfold sel at hb
    obtain ⟨d, hd, rfl⟩ := List.mem_map.mp hb
    have hd : d ∈ xi ++ [xz] := by
      rcases List.mem_cons.mp hd with rfl | hd
      · exact List.mem_append_right _ (List.mem_singleton.mpr rfl)
      · exact List.mem_append_left _ hd
    obtain ⟨j, rfl, jl, ej⟩ := okIx_is (h6' d hd)
    rw [ej]
    show goodB (bs.getD j _)
    rw [List.getD_eq_getElem?_getD, List.getElem?_eq_getElem jl]
    exact hg _ (List.getElem_mem jl)
  refine ⟨fun i ρ om => ∃ r4 r5 r6, ρ = [some (.v (.lst (bs.map bD))), some (.v (sq t2 (xi ++ [xz]))), some (.v (.int ((rs.take i).map (·.2.2)).sum)), some (.o 0), r4, r5, r6] ∧ om = [some ((rs.take i).map fun b => D.str b.1)] ∧ ((rs.take i).zip (ss.take i)).all (fun p => decide (p.1.2.1 = p.2.1)) = true ∧ ((rs.take i).map (·.1)).Nodup, ⟨none, none, none, rfl, rfl, rfl, List.nodup_nil⟩, fun i d ρ om hl hd hp => ?_, fun ρ om hl hp => ?_⟩
  · obtain ⟨r4, r5, r6, rfl, rfl, hc, hn⟩ := hp
    have il : i < (xi ++ [xz]).length := by
      have := (List.getElem?_eq_some_iff.mp hd).1
      unfold rngD at this
      rw [List.length_map, List.length_range] at this
      omega
    obtain rfl : d = .int (i : Nat) := by
      unfold rngD at hd
      rw [List.getElem?_map, List.getElem?_range (by omega)] at hd
      cases hd
      rfl
    obtain ⟨d1, e1⟩ : ∃ d1, (xz :: xi)[i]? = some d1 := ⟨_, List.getElem?_eq_getElem (by rw [List.length_cons]; rw [List.length_append, List.length_singleton] at il; exact il)⟩
    obtain ⟨d2, e2⟩ : ∃ d2, (xi ++ [xz])[i]? = some d2 := ⟨_, List.getElem?_eq_getElem il⟩
    have m1 : d1 ∈ xi ++ [xz] := by
      rcases List.mem_cons.mp (List.mem_of_getElem? e1) with rfl | h
      · exact List.mem_append_right _ (List.mem_singleton.mpr rfl)
      · exact List.mem_append_left _ h
    obtain ⟨j1, q1, l1, b1⟩ := look m1
    obtain ⟨j2, q2, l2, b2⟩ := look (List.mem_of_getElem? e2)
    obtain ⟨a, ea⟩ : ∃ a, a = bs.getD ((ixOf bs.length d1).getD 0) ("", "", 0) := ⟨_, rfl⟩
    obtain ⟨b, eb⟩ : ∃ b, b = bs.getD ((ixOf bs.length d2).getD 0) ("", "", 0) := ⟨_, rfl⟩
    rw [← ea] at b1
    rw [← eb] at b2
    have ha : rs[i]? = some a := by rw [← hrs, ea]; unfold sel; rw [List.getElem?_map, e1]; rfl
    have hb : ss[i]? = some b := by rw [← hss, eb]; unfold sel; rw [List.getElem?_map, e2]; rfl
    subst q1 q2
    refine (wss_cons (ws_par (i := 5) (j := 6) rfl sc_law_is_ring.nd rfl rfl (by decide) rfl rfl (wa_cons (we_ix (we_name (i := 0) rfl (.inr (.inl rfl)) rfl (we_ix (we_name (i := 1) rfl (.inl rfl) rfl (we_bin (we_name (i := 4) rfl (.inl rfl) rfl (we_int ?_))))))))))
    refine sq_ixI ((rot_at il).trans e1) ?_
    refine ⟨bD a, atI_nat b1, ?_⟩
    refine (wa_cons (we_ix (we_name (i := 0) rfl (.inr (.inl rfl)) rfl (we_ix (we_name (i := 1) rfl (.inl rfl) rfl (we_name (i := 4) rfl (.inl rfl) rfl ?_))))))
    refine sq_ix e2 ?_
    refine ⟨bD b, atI_nat b2, ?_⟩
    refine (wa_nil ?_)
    refine ⟨_, _, rfl, ?_⟩
    refine (wss_cons (ws_if (WW.wt (ww_or (wt_cmp hu (we_ix (we_name (i := 5) rfl (.inl rfl) rfl (we_int ?_))))))))
    refine ⟨.str a.2.1, rfl, ?_⟩
    refine (we_ix (we_name (i := 6) rfl (.inl rfl) rfl (we_int ?_)))
    refine ⟨.str b.1, rfl, ?_⟩
    refine ifE (fun h7 => ?_) (fun h7 => ?_)
    · refine ifT rfl ?_
      refine (wss_one (ws_ret (we_bl ?_)))
      have h7 : (!decide (a.2.1 = b.1)) = true := h7
      rw [lawR_no1 ha hb (by simpa using h7)] at hW
      exact hW
    have h7 : (!decide (a.2.1 = b.1)) = false := h7
    have h7 : a.2.1 = b.1 := by simpa using h7
    refine (ww_or1 (wt_cmp hu (we_ix (we_name (i := 5) rfl (.inl rfl) rfl (we_int ?_)))))
    refine ⟨.str a.1, rfl, ?_⟩
    refine (we_name (i := 3) rfl (.inl rfl) rfl ?_)
    refine ⟨shp_of (shE_side (gr a (List.mem_of_getElem? ha)).1), shp_lst (fun y hy => ?_), ?_⟩
    · obtain ⟨z, hz, rfl⟩ := List.mem_map.mp hy
      exact shE_side (gr z (List.mem_of_mem_take hz)).1
    have ei : (((rs.take i).map fun b => D.str b.1).any fun z => eqD z (.str a.1)) = decide (a.1 ∈ (rs.take i).map (·.1)) := by
      rw [Bool.eq_iff_iff, List.any_eq_true, decide_eq_true_eq, List.mem_map]
      constructor
      · rintro ⟨y, hy, e⟩
        obtain ⟨z, hz, rfl⟩ := List.mem_map.mp hy
        rw [eqD_str] at e
        exact ⟨z, hz, of_decide_eq_true e⟩
      · rintro ⟨z, hz, e⟩
        exact ⟨_, List.mem_map.mpr ⟨z, hz, rfl⟩, by rw [eqD_str]; exact decide_eq_true e⟩
    show if (((rs.take i).map fun b => D.str b.1).any fun z => eqD z (.str a.1)) = true then _ else _
    rw [ei]
    refine ifE (fun h8 => ?_) (fun h8 => ?_)
    · refine (wss_one (ws_ret (we_bl ?_)))
      rw [lawR_no2 ha (of_decide_eq_true h8)] at hW
      exact hW
    have h8 := of_decide_eq_false h8
    refine (wss_nil (wss_cons (ws_expr (we_append (we_name (i := 3) rfl (.inl rfl) rfl ?_)))))
    refine ⟨_, rfl, ⟨_, rfl⟩, ?_⟩
    refine (we_ix (we_name (i := 5) rfl (.inl rfl) rfl (we_int ?_)))
    refine ⟨.str a.1, rfl, ?_⟩
    refine ⟨_, _, rfl, rfl, ?_, ?_⟩
    · rw [List.length_map, List.length_take]; omega
    refine (wss_one (ws_set (i := 2) sc_law_is_ring.nd rfl (.inl rfl) (we_bin (we_name (i := 2) rfl (.inl rfl) rfl (we_ix (we_name (i := 5) rfl (.inl rfl) rfl (we_int ?_)))))))
    refine ⟨.int a.2.2, rfl, ?_⟩
    have et : rs.take (i + 1) = rs.take i ++ [a] := by rw [List.take_add_one, ha]; rfl
    have eu : ss.take (i + 1) = ss.take i ++ [b] := by rw [List.take_add_one, hb]; rfl
    have esum : ((rs.take (i + 1)).map (·.2.2)).sum = ((rs.take i).map (·.2.2)).sum + a.2.2 := by
      rw [et, List.map_append]
      show ((rs.take i).map (·.2.2) ++ [a.2.2]).sum = _
      rw [sum_rot, Int.add_comm]
    refine ⟨some (.v (.int (i : Nat))), some (.v (bD a)), some (.v (bD b)), ?_, ?_, ?_, ?_⟩
    · rw [esum]; rfl
    · rw [et, List.map_append]; rfl
    · rw [et, eu, List.zip_append (by rw [List.length_take, List.length_take, rl, sl]), List.all_append, hc]
      show (true && (decide (a.2.1 = b.1) && true)) = true
      rw [decide_eq_true h7]; rfl
    · rw [et, List.map_append, List.nodup_append]
      refine ⟨hn, by simp, fun y hy z hz => ?_⟩
      rw [List.mem_singleton.mp hz]
      rintro rfl
      exact h8 hy
  · obtain ⟨r4, r5, r6, rfl, rfl, hc, hn⟩ := hp
    have e0 : (rngD ((xi ++ [xz]).length : Int).toNat).length = (xi ++ [xz]).length := by unfold rngD; rw [List.length_map, List.length_range]; omega
    rw [e0] at hc hn ⊢
    have t1 : rs.take (xi ++ [xz]).length = rs := by rw [← rl, List.take_length]
    have t2 : ss.take (xi ++ [xz]).length = ss := by rw [← sl, List.take_length]
    rw [t1] at hc hn ⊢
    rw [t2] at hc
    refine (wss_one (ws_ret (we_cmp hu (we_name (i := 2) rfl (.inl rfl) rfl (we_int ?_)))))
    unfold lawR at hW
    rw [hc, decide_eq_true hn] at hW
    exact hW
end
end K16

namespace K16
open PySem L2 DL
/-! ### limits, round, bent -/
theorem shE_bD {b : Bnd} (h : goodB b) : shE (bD b) := by
  have h1 := (shE_side h.1).1
  have h2 := (shE_side h.2.1).1
  refine ⟨?_, ?_⟩
  · simp only [bD, toP, toPs, PyData.canLay0, PyData.canLayAll0] at h1 h2 ⊢
    rw [h1, h2]; rfl
  · simp only [bD, toP, toPs, PyData.depth, PyData.depthAll]; decide
theorem shE_tup {xs : List D} (h : ∀ d ∈ xs, shE d) (h2 : PyData.depthAll (toPs xs) ≤ 62) : shE (.tup xs) := by
  have h1 := shE_can h
  refine ⟨?_, ?_⟩
  · simp only [toP, PyData.canLay0]; exact h1.1
  · simp only [toP, PyData.depth]; omega
def intsD (ix : List Nat) : List D := ix.map fun (i : Nat) => D.int (i : Nat)
theorem shE_ints {ix : List Nat} : ∀ d ∈ intsD ix, shE d := fun d hd => by
  obtain ⟨i, _, rfl⟩ := List.mem_map.mp hd
  exact shE_int _
def W_round (x : Dr) : Wp := fun ds P => ∃ bs : List Bnd, ds = [.obj x.d, .lst (bs.map bD)] ∧ (∀ b ∈ bs, goodB b) ∧ bs.length ≤ 100 ∧ ∀ ix : List Nat, (∀ i ∈ ix, i < bs.length) → ix.length ≤ 7 → P (.lst (intsD ix))
theorem mono_round {x : Dr} : ∀ ds Q Q', (∀ d, Q d → Q' d) → W_round x ds Q → W_round x ds Q' := fun ds Q Q' i ⟨bs, e, h1, h2, q⟩ => ⟨bs, e, h1, h2, fun ix a b => i _ (q ix a b)⟩
def W_bent (x : Dr) : Wp := fun ds P => ∃ (ix : List Nat) (m : Int), ds = [.obj x.d, .lst (intsD ix), .int m] ∧ ix.length ≤ 7 ∧ ∀ d, anyE d → P d
theorem mono_bent {x : Dr} : ∀ ds Q Q', (∀ d, Q d → Q' d) → W_bent x ds Q → W_bent x ds Q' := fun ds Q Q' i ⟨ix, m, e, h1, q⟩ => ⟨ix, m, e, h1, fun d a => i _ (q d a)⟩
theorem sq_inj {t t' : Bool} {xs ys : List D} (h : sq t xs = sq t' ys) : xs = ys := by
  cases t <;> cases t' <;> first | (cases h; rfl) | cases h
theorem anyE_sq {t : Bool} {xs : List D} (hl : xs.length ≤ 100) (h : ∀ y ∈ xs, (tyN y).isSome = true ∧ shE y) : anyE (sq t xs) := ⟨sq_ty, fun t' ys e => by
  have := sq_inj e
  subst this
  exact ⟨hl, h⟩⟩
theorem ints_ty {ix : List Nat} : ∀ y ∈ intsD ix, (tyN y).isSome = true ∧ shE y := fun y hy => by
  obtain ⟨i, _, rfl⟩ := List.mem_map.mp hy
  exact ⟨rfl, shE_int _⟩
theorem last_at {xi : List D} {xz : D} : atI (xi ++ [xz]) (-1) = some xz := rot_at (i := 0) (by simp)
section
variable {P : Program} {w : World} {K : PySem.W.Frag} {mg : Str → Option Value} {base : Heap} {x : Dr}
abbrev N_law_limits : List Str := ["_law_draw", "_law_words_here", "_law_many", "_law_top", "_law_found", "_law_k", "_law_first", "_law_second"]
theorem sc_law_limits : FnScope N_law_limits ["_law_draw", "_law_words_here", "_law_many", "_law_top"] (defScope t_limits) := ⟨rfl, rfl, rfl, by decide +kernel, rfl, by decide +kernel, by decide +kernel⟩
theorem ok_law_limits {f : Addr} {fd : FuncData} (F : Fun K "_law_limits" "_law_limits" t_limits f fd) (m_range : mg "range" = none) (h_law_take : Has P w K mg base (some x) 2 "_law_take" ["_law_draw", "_law_many"] (W_take x)) (h_law_mixed : Has P w K mg base (some x) 3 "_law_mixed" ["_law_draw", "_law_some"] (W_mixed x)) :
    FnG P w K mg base CX0 4 f fd ["_law_draw", "_law_words_here", "_law_many", "_law_top"] (spD K (some x) (W_limits x)) := by
  refine fnD F sc_law_limits (fun ds Q h => by obtain ⟨_, _, _, rfl, _⟩ := h; rfl) fun cdv A outer s H E an ds post hr gd hW => ?_
  obtain ⟨ws, n, t, rfl, ⟨n0, n1⟩, ⟨t0, t1⟩, ⟨w0, w1⟩, wn, wa, hW⟩ := hW
  have big : 20000 < sizeLine := by decide
  refine (wss_cons (ws_set (i := 4) sc_law_limits.nd rfl (.inl rfl) (we_lstO (wa_nil ⟨by show 0 ≤ sizeLine; omega, ?_⟩))))
  refine (wss_cons (ws_for PassesOwn.never rfl (wg_name (i := 5) sc_law_limits.nd rfl (.inl rfl)) (wi_range m_range (we_name (i := 2) rfl (.inl rfl) rfl ?_))))
  refine ⟨⟨by omega, by omega⟩, ?_⟩
  refine ⟨fun i ρ om => ∃ (bs : List Bnd) (r5 r6 r7 : Option R), ρ = [some (.v (.obj x.d)), some (.v (.lst (ws.map D.str))), some (.v (.int n)), some (.v (.int t)), some (.o 0), r5, r6, r7] ∧ om = [some (bs.map bD)] ∧ bs.length = i ∧ (∀ b ∈ bs, goodB b) ∧ ∀ b ∈ bs, b.1 ∈ ("" : Str) :: ws ∧ b.2.1 ∈ ("" : Str) :: ws ∧ -t ≤ b.2.2 ∧ b.2.2 ≤ t, ⟨[], none, none, none, rfl, rfl, rfl, (fun b h => by cases h), (fun b h => by cases h)⟩, fun i d ρ om hl hd hp => ?_, fun ρ om hl hp => ?_⟩
  · obtain ⟨bs, r5, r6, r7, rfl, rfl, bl, bg, bw⟩ := hp
    have il : i < n.toNat := by
      have := (List.getElem?_eq_some_iff.mp hd).1
      unfold rngD at this
      rw [List.length_map, List.length_range] at this
      exact this
    refine (wss_cons (ws_asg (wg_tup (n := 2) rfl (wgs_cons (wg_name (i := 6) sc_law_limits.nd rfl (.inl rfl)) (wgs_cons (wg_name (i := 7) sc_law_limits.nd rfl (.inl rfl)) (wgs_nil)))) (we_sl (we_call h_law_mixed hr gd (wa_cons (we_name (i := 0) rfl (.inl rfl) rfl (wa_cons (we_bin (we_name (i := 1) rfl (.inl rfl) rfl (we_lst (wa_cons (we_str (wa_nil ?_)))))))))))))
    refine ⟨by show 1 ≤ sizeLine; omega, ?_⟩
    refine ⟨by show (ws.map D.str).length + 1 ≤ sizeLine; rw [List.length_map]; omega, ?_⟩
    refine (wa_nil ?_)
    have mem : ∀ y ∈ ws.map D.str ++ [D.str ""], ∃ z, y = .str z ∧ sideS z ∧ z ∈ ("" : Str) :: ws := fun y hy => by
      rcases List.mem_append.mp hy with hy | hy
      · obtain ⟨z, hz, rfl⟩ := List.mem_map.mp hy
        exact ⟨z, rfl, .inl (wa z hz), List.mem_cons_of_mem _ hz⟩
      · exact ⟨"", List.mem_singleton.mp hy, .inr rfl, List.mem_cons_self⟩
    have nd : (ws.map D.str ++ [D.str ""]).Nodup := by
      rw [List.nodup_append]
      refine ⟨List.Pairwise.map _ (fun a b q e => q (by cases e; rfl)) wn, by simp, fun a ha b hb => ?_⟩
      obtain ⟨z, hz, rfl⟩ := List.mem_map.mp ha
      rw [List.mem_singleton.mp hb]
      intro e
      cases e
      have := (wa _ hz).1
      exact absurd this (by decide)
    refine ⟨ws.map D.str ++ [D.str ""], rfl, by rw [List.length_append, List.length_map]; show ws.length + 1 ≤ 1000; omega, fun d hd => ?_, fun ys pm => ?_⟩
    · obtain ⟨z, rfl, hz, _⟩ := mem d hd
      exact shE_side hz
    have yl := pm.length_eq
    rw [List.length_append, List.length_map] at yl
    have yl : ys.length = ws.length + 1 := yl
    have ynd : ys.Nodup := pm.nodup_iff.mpr nd
    match ys, yl, ynd, pm with
    | [], yl, _, _ => simp at yl
    | [_], yl, _, _ => exact absurd (show 1 = ws.length + 1 from yl) (by omega)
    | y0 :: y1 :: yr, yl, ynd, pm =>
      obtain ⟨z0, rfl, s0, i0⟩ := mem y0 (pm.mem_iff.mp List.mem_cons_self)
      obtain ⟨z1, rfl, s1, i1⟩ := mem y1 (pm.mem_iff.mp (List.mem_cons_of_mem _ List.mem_cons_self))
      have hne : z0 ≠ z1 := by
        rintro rfl
        exact (List.nodup_cons.mp ynd).1 List.mem_cons_self
      have ec : cutD (D.str z0 :: D.str z1 :: yr) none (some 2) = [D.str z0, D.str z1] := cut_hi _ 2
      refine (we_int ?_)
      show fT 2 _ (.lst (cutD (D.str z0 :: D.str z1 :: yr) none (some 2))) _ _
      rw [ec]
      refine ⟨rfl, ?_⟩
      refine (wss_one (ws_expr (we_append (we_name (i := 4) rfl (.inl rfl) rfl ?_))))
      refine ⟨_, rfl, ⟨_, rfl⟩, ?_⟩
      refine (we_tup (wa_cons (we_name (i := 6) rfl (.inl rfl) rfl (wa_cons (we_name (i := 7) rfl (.inl rfl) rfl (wa_cons (we_bin (we_call h_law_take hr gd (wa_cons (we_name (i := 0) rfl (.inl rfl) rfl (wa_cons (we_bin (we_bin (we_int (we_name (i := 3) rfl (.inl rfl) rfl ?_)))))))))))))))
      refine ⟨.inl ⟨by decide, by decide⟩, ?_⟩
      refine (we_int (wa_nil ?_))
      refine ⟨2 * t + 1, rfl, ⟨by omega, by omega⟩, fun k k0 k1 => ?_⟩
      refine (we_name (i := 3) rfl (.inl rfl) rfl (wa_nil ?_))
      refine ⟨by show 3 ≤ sizeLine; omega, ?_⟩
      refine ⟨_, _, rfl, rfl, by rw [List.length_map]; omega, ?_⟩
      refine ⟨bs ++ [(z0, z1, k - t)], _, _, _, rfl, by rw [List.map_append]; rfl, by rw [List.length_append]; show bs.length + 1 = _; omega, fun b hb => ?_, fun b hb => ?_⟩
      · rcases List.mem_append.mp hb with hb | hb
        · exact bg b hb
        · rw [List.mem_singleton.mp hb]; exact ⟨s0, s1, hne⟩
      · rcases List.mem_append.mp hb with hb | hb
        · exact bw b hb
        · rw [List.mem_singleton.mp hb]; exact ⟨i0, i1, by show -t ≤ k - t; omega, by show k - t ≤ t; omega⟩
  · obtain ⟨bs, r5, r6, r7, rfl, rfl, bl, bg, bw⟩ := hp
    unfold rngD at bl
    rw [List.length_map, List.length_range] at bl
    refine (wss_one (ws_ret (we_name (i := 4) rfl (.inl rfl) rfl ?_)))
    exact ⟨_, rfl, hW bs bg bl bw⟩
abbrev N_law_round : List Str := ["_law_draw", "_law_limits_here", "_law_found", "_law_k", "_law_here", "_law_later", "_law_j"]
theorem sc_law_round : FnScope N_law_round ["_law_draw", "_law_limits_here"] (defScope t_round) := ⟨rfl, rfl, rfl, by decide +kernel, rfl, by decide +kernel, by decide +kernel⟩
set_option maxHeartbeats 4000000 in
theorem ok_law_round {f : Addr} {fd : FuncData} (F : Fun K "_law_round" "_law_round" t_round f fd) (m_range : mg "range" = none) (m_len : mg "len" = none) (h_law_take : Has P w K mg base (some x) 2 "_law_take" ["_law_draw", "_law_many"] (W_take x)) (h_law_pick : Has P w K mg base (some x) 3 "_law_pick" ["_law_draw", "_law_some"] (W_pick x)) :
    FnG P w K mg base CX0 4 f fd ["_law_draw", "_law_limits_here"] (spD K (some x) (W_round x)) := by
  refine fnD F sc_law_round (fun ds Q h => by obtain ⟨_, rfl, _⟩ := h; rfl) fun cdv A outer s H E an ds post hr gd hW => ?_
  obtain ⟨bs, rfl, hg, hz, hW⟩ := hW
  have hu := hu65 hr
  have big : 20000 < sizeLine := by decide
  refine (wss_cons (ws_if (wt_cmp hu (we_name (i := 1) rfl (.inr (.inl rfl)) rfl (we_lst (wa_nil ⟨by show 0 ≤ sizeLine; omega, ?_⟩))))))
  refine ⟨shp_lst (fun d hd => ?_), shp_nil, ?_⟩
  · obtain ⟨b, hb, rfl⟩ := List.mem_map.mp hd
    exact shE_bD (hg b hb)
  show if eqD (.lst (bs.map bD)) (.lst []) = true then _ else _
  rw [eqD_nil]
  refine ifE (fun h1 => ?_) (fun h1 => ?_)
  · refine (wss_one (ws_ret (we_lst (wa_nil ⟨by show 0 ≤ sizeLine; omega, ?_⟩))))
    exact hW [] (fun i h => by cases h) (by simp)
  have bp : 0 < bs.length := by cases bs with | nil => simp at h1 | cons _ _ => simp
  refine (wss_nil (wss_cons (ws_set (i := 2) sc_law_round.nd rfl (.inl rfl) (we_lstO (wa_cons (we_call h_law_take hr gd (wa_cons (we_name (i := 0) rfl (.inl rfl) rfl (wa_cons (we_blt cb_len m_len PySem.boot_len lenF_mono (wa_cons (we_name (i := 1) rfl (.inr (.inl rfl)) rfl (wa_nil (wa_nil ?_))))))))))))))
  have bml : (bs.map bD).length = bs.length := List.length_map _
  refine ⟨_, rfl, ⟨by omega, by omega⟩, fun k k0 k1 => ?_⟩
  obtain ⟨k, rfl⟩ := Int.eq_ofNat_of_zero_le k0
  have kl : k < bs.length := by omega
  refine (wa_nil ⟨by show 1 ≤ sizeLine; omega, ?_⟩)
  refine (wss_cons (ws_for PassesOwn.never rfl (wg_name (i := 3) sc_law_round.nd rfl (.inl rfl)) (wi_range m_range (we_int ?_))))
  refine ⟨⟨by decide, by decide⟩, ?_⟩
  refine ⟨fun i ρ om => ∃ (ix : List Nat) (r3 r4 r5 r6 : Option R), ρ = [some (.v (.obj x.d)), some (.v (.lst (bs.map bD))), some (.o 0), r3, r4, r5, r6] ∧ om = [some (intsD ix)] ∧ ix.length = i + 1 ∧ ∀ j ∈ ix, j < bs.length, ⟨[k], none, none, none, none, rfl, rfl, rfl, fun j hj => by rw [List.mem_singleton.mp hj]; exact kl⟩, fun i d ρ om hl hd hp => ?_, fun ρ om hl hp => ?_⟩
  · obtain ⟨ix, r3, r4, r5, r6, rfl, rfl, xl, xb⟩ := hp
    have il : i < 6 := by
      have := (List.getElem?_eq_some_iff.mp hd).1
      unfold rngD at this
      rw [List.length_map, List.length_range] at this
      exact this
    have at_ : ∀ j, j < bs.length → ∃ b, (bs.map bD)[j]? = some (bD b) ∧ goodB b := fun j hj => ⟨bs[j], by rw [List.getElem?_map, List.getElem?_eq_getElem hj]; rfl, hg _ (List.getElem_mem hj)⟩
    obtain ⟨xi, xz, ex⟩ : ∃ xi xz, ix = xi ++ [xz] := ⟨_, _, (List.dropLast_concat_getLast (by rintro rfl; simp at xl)).symm⟩
    have zl : xz < bs.length := xb xz (by rw [ex]; exact List.mem_append_right _ (List.mem_singleton.mpr rfl))
    obtain ⟨bz, ebz, gbz⟩ := at_ xz zl
    have elast : atI (intsD ix) (-1) = some (.int (xz : Nat)) := by
      rw [ex]
      unfold intsD
      rw [List.map_append]
      exact last_at
    obtain ⟨x0, e0⟩ : ∃ x0, ix[0]? = some x0 := ⟨_, List.getElem?_eq_getElem (by omega)⟩
    obtain ⟨b0, eb0, gb0⟩ := at_ x0 (xb x0 (List.mem_of_getElem? e0))
    have efirst : atI (intsD ix) 0 = some (.int (x0 : Nat)) := atI_nat (j := 0) (by unfold intsD; rw [List.getElem?_map, e0]; rfl)
    refine (wss_cons (ws_set (i := 4) sc_law_round.nd rfl (.inr rfl) (we_ix (we_ix (we_name (i := 1) rfl (.inr (.inl rfl)) rfl (we_ix (we_name (i := 2) rfl (.inl rfl) rfl (we_neg (we_int ?_)))))))))
    refine ⟨_, elast, ?_⟩
    refine ⟨_, atI_nat ebz, ?_⟩
    refine (we_int ?_)
    refine ⟨.str bz.2.1, rfl, ?_⟩
    refine (wss_cons (ws_setLcIf (i := 5) rfl sc_law_round.nd rfl rfl rfl [("_law_j", 6)] (blkOk_by (N := N_law_round) (sc := defScope t_round) (by decide +kernel)) (fun _ _ _ _ _ => wg_name (i := 6) sc_law_round.nd rfl (.inl rfl)) (by decide) (sw_true rfl rfl rfl (by decide +kernel)) (wi_range m_range (we_blt cb_len m_len PySem.boot_len lenF_mono (wa_cons (we_name (i := 1) rfl (.inr (.inl rfl)) rfl (wa_nil ?_)))))))
    refine ⟨⟨by omega, by omega⟩, ?_⟩
    refine ⟨fun i acc => ∃ js : List Nat, acc = intsD js ∧ (∀ j ∈ js, j < bs.length) ∧ js.length ≤ i, ⟨[], rfl, (fun j h => by cases h), Nat.zero_le _⟩, fun i d acc hd ha hp => ?_, fun acc hp => ?_⟩
    · obtain ⟨js, rfl, jb, jl⟩ := hp
      have il2 : i < bs.length := by
        have := (List.getElem?_eq_some_iff.mp hd).1
        unfold rngD at this
        rw [List.length_map, List.length_range] at this
        omega
      obtain rfl : d = .int (i : Nat) := by
        unfold rngD at hd
        rw [List.getElem?_map, List.getElem?_range (by omega)] at hd
        cases hd
        rfl
      obtain ⟨bi, ebi, gbi⟩ := at_ i il2
      refine fun s H C cl fp => ?_
      refine (wt_cmp hu (we_ix (we_ix (we_name (i := 1) rfl (.inr (.inl rfl)) rfl (we_name (i := 6) rfl (.inl rfl) rfl ?_)))))
      refine ⟨_, atI_nat ebi, ?_⟩
      refine (we_int ?_)
      refine ⟨.str bi.1, rfl, ?_⟩
      refine (we_name (i := 4) rfl (.inr (.inl rfl)) rfl ?_)
      refine ⟨rfl, ?_⟩
      refine ifE (fun h2 => ?_) (fun h2 => ?_)
      · refine fun s H C cl fp => ?_
        refine (we_name (i := 6) rfl (.inl rfl) rfl ?_)
        refine ⟨rfl, ⟨_, rfl⟩, ?_⟩
        refine ⟨js ++ [i], by unfold intsD; rw [List.map_append]; rfl, fun j hj => ?_, by rw [List.length_append]; show js.length + 1 ≤ _; omega⟩
        rcases List.mem_append.mp hj with hj | hj
        · exact jb j hj
        · rw [List.mem_singleton.mp hj]; exact il2
      · exact ⟨js, rfl, jb, by omega⟩
    · obtain ⟨js, rfl, jb, jl⟩ := hp
      have jl : js.length ≤ 100 := by
        unfold rngD at jl
        rw [List.length_map, List.length_range] at jl
        omega
      have stop : post (.lst (intsD ix)) := hW ix xb (by omega)
      refine (wss_cons (ws_if (WW.wt (ww_or (wt_cmp hu (we_name (i := 4) rfl (.inr (.inl rfl)) rfl (we_ix (we_ix (we_name (i := 1) rfl (.inr (.inl rfl)) rfl (we_ix (we_name (i := 2) rfl (.inl rfl) rfl (we_int ?_))))))))))))
      refine ⟨_, efirst, ?_⟩
      refine ⟨_, atI_nat eb0, ?_⟩
      refine (we_int ?_)
      refine ⟨.str b0.1, rfl, ?_⟩
      refine ifE (fun h3 => ?_) (fun h3 => ?_)
      · refine ifT rfl ?_
        refine (wss_one (ws_ret (we_name (i := 2) rfl (.inl rfl) rfl ?_)))
        exact ⟨_, rfl, stop⟩
      refine (ww_or1 (wt_cmp hu (we_name (i := 5) rfl (.inl rfl) rfl (we_lst (wa_nil ⟨by show 0 ≤ sizeLine; omega, ?_⟩)))))
      refine ⟨shp_lst shE_ints, shp_nil, ?_⟩
      show if eqD (.lst (intsD js)) (.lst []) = true then _ else _
      rw [eqD_nil]
      refine ifE (fun h4 => ?_) (fun h4 => ?_)
      · refine (wss_one (ws_ret (we_name (i := 2) rfl (.inl rfl) rfl ?_)))
        exact ⟨_, rfl, stop⟩
      refine (wss_nil (wss_one (ws_expr (we_append (we_name (i := 2) rfl (.inl rfl) rfl ?_)))))
      refine ⟨_, rfl, ⟨_, rfl⟩, ?_⟩
      refine (we_call h_law_pick hr gd (wa_cons (we_name (i := 0) rfl (.inl rfl) rfl (wa_cons (we_name (i := 5) rfl (.inl rfl) rfl (wa_nil ?_))))))
      refine .inl ⟨_, rfl, fun e => by rw [e] at h4; simp at h4, by unfold intsD; rw [List.length_map]; omega, fun y hy => ?_⟩
      obtain ⟨j, hj, rfl⟩ := List.mem_map.mp hy
      refine ⟨_, _, rfl, rfl, by unfold intsD; rw [List.length_map]; omega, ?_⟩
      refine ⟨ix ++ [j], _, _, _, _, rfl, by unfold intsD; rw [List.map_append]; rfl, by rw [List.length_append]; show ix.length + 1 = _; omega, fun q hq => ?_⟩
      rcases List.mem_append.mp hq with hq | hq
      · exact xb q hq
      · rw [List.mem_singleton.mp hq]; exact jb j hj
  · obtain ⟨ix, r3, r4, r5, r6, rfl, rfl, xl, xb⟩ := hp
    refine (wss_one (ws_ret (we_name (i := 2) rfl (.inl rfl) rfl ?_)))
    exact ⟨_, rfl, hW ix xb (by rw [xl]; decide)⟩
abbrev N_law_bent : List Str := ["_law_draw", "_law_matter", "_law_many", "_law_way", "_law_spot", "_law_odd"]
theorem sc_law_bent : FnScope N_law_bent ["_law_draw", "_law_matter", "_law_many"] (defScope t_bent) := ⟨rfl, rfl, rfl, by decide +kernel, rfl, by decide +kernel, by decide +kernel⟩
set_option maxHeartbeats 4000000 in
theorem ok_law_bent {f : Addr} {fd : FuncData} (F : Fun K "_law_bent" "_law_bent" t_bent f fd) (m_len : mg "len" = none) (m_tuple : mg "tuple" = none) (h_law_take : Has P w K mg base (some x) 2 "_law_take" ["_law_draw", "_law_many"] (W_take x)) (h_law_pick : Has P w K mg base (some x) 3 "_law_pick" ["_law_draw", "_law_some"] (W_pick x)) :
    FnG P w K mg base CX0 4 f fd ["_law_draw", "_law_matter", "_law_many"] (spD K (some x) (W_bent x)) := by
  refine fnD F sc_law_bent (fun ds Q h => by obtain ⟨_, _, rfl, _⟩ := h; rfl) fun cdv A outer s H E an ds post hr gd hW => ?_
  obtain ⟨ix, m, rfl, xl, hW⟩ := hW
  have hu := hu65 hr
  have big : 20000 < sizeLine := by decide
  have il : (intsD ix).length = ix.length := by unfold intsD; exact List.length_map _
  refine (wss_cons (ws_par (i := 3) (j := 4) rfl sc_law_bent.nd rfl rfl (by decide) rfl rfl (wa_cons (we_call h_law_take hr gd (wa_cons (we_name (i := 0) rfl (.inl rfl) rfl (wa_cons (we_int (wa_nil ?_)))))))))
  refine ⟨8, rfl, ⟨by decide, by decide⟩, fun k k0 k1 => ?_⟩
  refine (wa_cons (we_call h_law_take hr gd (wa_cons (we_name (i := 0) rfl (.inl rfl) rfl (wa_cons (we_bin (we_blt cb_len m_len PySem.boot_len lenF_mono (wa_cons (we_name (i := 1) rfl (.inl rfl) rfl (wa_nil (we_int (wa_nil ?_))))))))))))
  refine ⟨_, rfl, ⟨by omega, by omega⟩, fun q q0 q1 => ?_⟩
  obtain ⟨q, rfl⟩ := Int.eq_ofNat_of_zero_le q0
  refine (wa_nil ?_)
  refine ⟨_, _, rfl, ?_⟩
  have clo : cutD (intsD ix) (some (q : Nat)) none = intsD (ix.drop q) := by rw [cut_lo]; unfold intsD; rw [List.map_drop]
  have chi : cutD (intsD ix) none (some (q : Nat)) = intsD (ix.take q) := by rw [cut_hi]; unfold intsD; rw [List.map_take]
  have clo1 : cutD (intsD ix) (some ((q : Int) + 1)) none = intsD (ix.drop (q + 1)) := by
    have := cut_lo (intsD ix) (q + 1)
    rw [show (((q + 1 : Nat) : Int)) = (q : Int) + 1 by omega] at this
    rw [this]; unfold intsD; rw [List.map_drop]
  have ld : (ix.drop q).length ≤ 7 := by rw [List.length_drop]; omega
  have lt : (ix.take q).length ≤ 7 := by rw [List.length_take]; omega
  have ld1 : (ix.drop (q + 1)).length ≤ 7 := by rw [List.length_drop]; omega
  have lenI : ∀ l : List Nat, (intsD l).length = l.length := fun l => by unfold intsD; exact List.length_map _
  have two : ∀ a b : List Nat, a.length ≤ 7 → b.length ≤ 7 → anyE (.lst (intsD a ++ intsD b)) := fun a b ha hb => anyE_sq (t := true) (by rw [List.length_append, lenI, lenI]; omega) fun y hy => (List.mem_append.mp hy).elim (ints_ty y) (ints_ty y)
  refine (wss_cons (ws_if (wt_cmp hu (we_name (i := 3) rfl (.inl rfl) rfl (we_int ?_)))))
  refine ifE (fun h1 => ?_) (fun h1 => ?_)
  · refine (wss_one (ws_ret (we_bin (we_sl (we_name (i := 1) rfl (.inl rfl) rfl ?_)))))
    refine (we_name (i := 4) rfl (.inl rfl) rfl (we_sl (we_name (i := 1) rfl (.inl rfl) rfl ?_)))
    refine (we_name (i := 4) rfl (.inl rfl) rfl ?_)
    show (cutD (intsD ix) (some (q : Nat)) none).length + (cutD (intsD ix) none (some (q : Nat))).length ≤ sizeLine ∧ post (.lst (cutD (intsD ix) (some (q : Nat)) none ++ cutD (intsD ix) none (some (q : Nat))))
    rw [clo, chi]
    exact ⟨by rw [lenI, lenI]; omega, hW _ (two _ _ ld lt)⟩
  refine (wss_nil (wss_cons (ws_if (wt_cmp hu (we_name (i := 3) rfl (.inl rfl) rfl (we_int ?_))))))
  refine ifE (fun h2 => ?_) (fun h2 => ?_)
  · refine (wss_one (ws_ret (we_rev (we_name (i := 1) rfl (.inl rfl) rfl ⟨_, rfl, ?_⟩))))
    exact hW _ (anyE_sq (t := true) (by rw [List.length_reverse]; omega) fun y hy => ints_ty y (List.mem_reverse.mp hy))
  refine (wss_nil (wss_cons (ws_if (wt_cmp hu (we_name (i := 3) rfl (.inl rfl) rfl (we_int ?_))))))
  refine ifE (fun h3 => ?_) (fun h3 => ?_)
  · refine (wss_one (ws_ret (we_bin (we_name (i := 1) rfl (.inl rfl) rfl (we_sl (we_name (i := 1) rfl (.inl rfl) rfl ?_))))))
    refine (we_name (i := 4) rfl (.inl rfl) rfl ?_)
    show (intsD ix).length + (cutD (intsD ix) (some (q : Nat)) none).length ≤ sizeLine ∧ post (.lst (intsD ix ++ cutD (intsD ix) (some (q : Nat)) none))
    rw [clo]
    exact ⟨by rw [lenI, lenI]; omega, hW _ (two _ _ xl ld)⟩
  refine (wss_nil (wss_cons (ws_if (wt_cmp hu (we_name (i := 3) rfl (.inl rfl) rfl (we_int ?_))))))
  refine ifE (fun h4 => ?_) (fun h4 => ?_)
  · refine (wss_one (ws_ret (we_bin (we_sl (we_name (i := 1) rfl (.inl rfl) rfl ?_)))))
    refine (we_name (i := 4) rfl (.inl rfl) rfl (we_sl (we_name (i := 1) rfl (.inl rfl) rfl ?_)))
    refine (we_bin (we_name (i := 4) rfl (.inl rfl) rfl (we_int ?_)))
    show (cutD (intsD ix) none (some (q : Nat))).length + (cutD (intsD ix) (some ((q : Int) + 1)) none).length ≤ sizeLine ∧ post (.lst (cutD (intsD ix) none (some (q : Nat)) ++ cutD (intsD ix) (some ((q : Int) + 1)) none))
    rw [clo1, chi]
    exact ⟨by rw [lenI, lenI]; omega, hW _ (two _ _ lt ld1)⟩
  refine (wss_nil (wss_cons (ws_if (wt_cmp hu (we_name (i := 3) rfl (.inl rfl) rfl (we_int ?_))))))
  refine ifE (fun h5 => ?_) (fun h5 => ?_)
  · refine (wss_cons (ws_set (i := 5) sc_law_bent.nd rfl (.inl rfl) (we_lst (wa_cons (we_name (i := 2) rfl (.inl rfl) rfl (wa_cons (we_neg (we_int ?_))))))))
    refine (wa_cons (we_bl (wa_cons (we_bl (wa_cons (we_non (wa_cons (we_str (wa_cons (we_tup (wa_cons (we_int (wa_nil ?_)))))))))))))
    refine ⟨by show 1 ≤ sizeLine; omega, ?_⟩
    refine (wa_cons (we_int (wa_cons (we_bin (we_name (i := 2) rfl (.inl rfl) rfl (we_int (wa_cons (we_bin (we_int (we_int ?_))))))))))
    refine ⟨⟨by decide, by decide, by decide⟩, ?_⟩
    refine (wa_nil ?_)
    refine ⟨by show 10 ≤ sizeLine; omega, ?_⟩
    refine (wss_one (ws_ret (we_bin (we_bin (we_sl (we_name (i := 1) rfl (.inl rfl) rfl ?_))))))
    refine (we_name (i := 4) rfl (.inl rfl) rfl (we_lst (wa_cons (we_call h_law_pick hr gd (wa_cons (we_name (i := 0) rfl (.inl rfl) rfl (wa_cons (we_name (i := 5) rfl (.inl rfl) rfl (wa_nil ?_)))))))))
    refine .inl ⟨_, rfl, List.cons_ne_nil _ _, by show 10 ≤ sizeLine; omega, fun y hy => ?_⟩
    have yt : (tyN y).isSome = true ∧ shE y := by
      simp only [List.mem_cons, List.not_mem_nil, or_false] at hy
      rcases hy with rfl | rfl | rfl | rfl | rfl | rfl | rfl | rfl | rfl | rfl
      · exact ⟨rfl, shE_int _⟩
      · exact ⟨rfl, shE_int _⟩
      · exact ⟨rfl, rfl, by simp [toP, PyData.depth]⟩
      · exact ⟨rfl, rfl, by simp [toP, PyData.depth]⟩
      · exact ⟨rfl, rfl, by simp [toP, PyData.depth]⟩
      · exact ⟨rfl, shE_str (by decide +kernel)⟩
      · exact ⟨rfl, shE_tup (fun d hd => by rw [List.mem_singleton.mp hd]; exact shE_int _) (by simp [toP, toPs, PyData.depth, PyData.depthAll])⟩
      · exact ⟨rfl, shE_int _⟩
      · exact ⟨rfl, shE_int _⟩
      · exact ⟨rfl, shE_int _⟩
    refine (wa_nil ⟨by show 1 ≤ sizeLine; omega, ?_⟩)
    show (cutD (intsD ix) none (some (q : Nat))).length + 1 ≤ sizeLine ∧ _
    refine ⟨by rw [chi, lenI]; omega, ?_⟩
    refine (we_sl (we_name (i := 1) rfl (.inl rfl) rfl ?_))
    refine (we_bin (we_name (i := 4) rfl (.inl rfl) rfl (we_int ?_)))
    show (cutD (intsD ix) none (some (q : Nat)) ++ [y]).length + (cutD (intsD ix) (some ((q : Int) + 1)) none).length ≤ sizeLine ∧ post (.lst ((cutD (intsD ix) none (some (q : Nat)) ++ [y]) ++ cutD (intsD ix) (some ((q : Int) + 1)) none))
    rw [clo1, chi]
    refine ⟨by rw [List.length_append, lenI, lenI]; show (ix.take q).length + 1 + _ ≤ _; omega, hW _ (anyE_sq (t := true) (by rw [List.length_append, List.length_append, lenI, lenI]; show (ix.take q).length + 1 + _ ≤ _; omega) fun z hz => ?_)⟩
    rcases List.mem_append.mp hz with hz | hz
    · rcases List.mem_append.mp hz with hz | hz
      · exact ints_ty z hz
      · rw [List.mem_singleton.mp hz]; exact yt
    · exact ints_ty z hz
  refine (wss_nil (wss_cons (ws_if (wt_cmp hu (we_name (i := 3) rfl (.inl rfl) rfl (we_int ?_))))))
  refine ifE (fun h6 => ?_) (fun h6 => ?_)
  · refine (wss_one (ws_ret (we_call h_law_pick hr gd (wa_cons (we_name (i := 0) rfl (.inl rfl) rfl (wa_cons (we_lst (wa_cons (we_non (wa_cons (we_int (wa_cons (we_bl (wa_cons (we_str (wa_cons (we_str (wa_cons (we_dic0 ?_)))))))))))))))))))
    refine (wa_cons (we_dic1 (kc := .inl 0) pe_int fun an => we_int ⟨rfl, _, rfl, ?_⟩))
    refine (wa_cons (we_lst (wa_nil ⟨by show 0 ≤ sizeLine; omega, ?_⟩)))
    refine (wa_cons (we_tup (wa_nil ⟨by show 0 ≤ sizeLine; omega, ?_⟩)))
    refine (wa_cons (we_lst (wa_cons (we_lst (wa_cons (we_int (wa_nil ⟨by show 1 ≤ sizeLine; omega, wa_nil ⟨by show 1 ≤ sizeLine; omega, ?_⟩⟩)))))))
    refine (wa_cons (we_lst (wa_cons (we_non (wa_nil ⟨by show 1 ≤ sizeLine; omega, wa_nil ⟨by show 11 ≤ sizeLine; omega, wa_nil ?_⟩⟩)))))
    refine .inl ⟨_, rfl, List.cons_ne_nil _ _, by show 11 ≤ sizeLine; omega, fun y hy => hW y ?_⟩
    have no : ∀ {d : D}, (tyN d).isSome = true → (∀ t xs, d ≠ sq t xs) → anyE d := fun h h2 => ⟨h, fun t xs e => absurd e (h2 t xs)⟩
    simp only [List.mem_cons, List.not_mem_nil, or_false] at hy
    rcases hy with rfl | rfl | rfl | rfl | rfl | rfl | rfl | rfl | rfl | rfl | rfl
    · exact no rfl fun t xs e => by cases t <;> cases e
    · exact no rfl fun t xs e => by cases t <;> cases e
    · exact no rfl fun t xs e => by cases t <;> cases e
    · exact no rfl fun t xs e => by cases t <;> cases e
    · exact no rfl fun t xs e => by cases t <;> cases e
    · exact no rfl fun t xs e => by cases t <;> cases e
    · exact no rfl fun t xs e => by cases t <;> cases e
    · exact anyE_sq (t := true) (by simp) fun y hy => by cases hy
    · exact anyE_sq (t := false) (by simp) fun y hy => by cases hy
    · refine anyE_sq (t := true) (by simp) fun y hy => ?_
      rw [List.mem_singleton.mp hy]
      refine ⟨rfl, ?_, by simp [toP, toPs, PyData.depth, PyData.depthAll]⟩
      simp [toP, toPs, PyData.canLay0, PyData.canLayAll0]
    · refine anyE_sq (t := true) (by simp) fun y hy => ?_
      rw [List.mem_singleton.mp hy]
      exact ⟨rfl, rfl, by simp [toP, PyData.depth]⟩
  refine (wss_nil (wss_one (ws_ret (we_ifexp (wt_cmp hu (we_name (i := 3) rfl (.inl rfl) rfl (we_int ?_)))))))
  refine ifE (fun h7 => ?_) (fun h7 => ?_)
  · refine (we_bty cb_tup m_tuple PyProof.Rows.boot_tuple tupF_mono (wa_cons (we_name (i := 1) rfl (.inl rfl) rfl (wa_nil ?_))))
    exact hW _ (anyE_sq (t := false) (by omega) ints_ty)
  · refine (we_name (i := 1) rfl (.inl rfl) rfl ?_)
    exact hW _ (anyE_sq (t := true) (by omega) ints_ty)
end
end K16

namespace K16
open PySem L2 DL
/-! ### the law -/
structure LawH (P : Program) (w : World) (K : PySem.W.Frag) (mg : Str → Option Value) (base : Heap) (x : Dr) : Prop where
  take : Has P w K mg base (some x) 2 "_law_take" ["_law_draw", "_law_many"] (W_take x)
  pick : Has P w K mg base (some x) 3 "_law_pick" ["_law_draw", "_law_some"] (W_pick x)
  words : Has P w K mg base (some x) 4 "_law_words" ["_law_draw", "_law_count"] (W_words x)
  limits : Has P w K mg base (some x) 4 "_law_limits" ["_law_draw", "_law_words_here", "_law_many", "_law_top"] (W_limits x)
  round : Has P w K mg base (some x) 4 "_law_round" ["_law_draw", "_law_limits_here"] (W_round x)
  bent : Has P w K mg base (some x) 4 "_law_bent" ["_law_draw", "_law_matter", "_law_many"] (W_bent x)
  ring : Has P w K mg base (some x) 2 "_law_is_ring" ["_law_limits_here", "_law_matter"] W_law_is_ring
  is_ring : Has P w K mg base (some x) 4 "is_ring" ["bounds", "thing"] W_is_ring
theorem ring_of_ints {bs : List Bnd} {ix : List Nat} (hl : ix.length ≤ 7) : anyE (.lst (intsD ix)) := anyE_sq (t := true) (by unfold intsD; rw [List.length_map]; omega) ints_ty
section
variable {P : Program} {w : World} {K : PySem.W.Frag} {mg : Str → Option Value} {base : Heap}
abbrev N_law : List Str := ["_law_script", "_law_draw", "_law_turn", "_law_tight", "_law_words_here", "_law_limits_here", "_law_again", "_law_matter", "_law_odd", "_law_one", "_law_due"]
theorem sc_law : FnScope N_law ["_law_script"] (defScope t_law) := ⟨rfl, rfl, rfl, by decide +kernel, rfl, by decide +kernel, by decide +kernel⟩
theorem good3 : ∀ b ∈ ([("a", "b", 1), ("b", "", -1), ("", "a", 0)] : List Bnd), goodB b := by
  intro b hb
  simp only [List.mem_cons, List.not_mem_nil, or_false] at hb
  rcases hb with rfl | rfl | rfl
  · exact ⟨.inl (by decide +kernel), .inl (by decide +kernel), by decide +kernel⟩
  · exact ⟨.inl (by decide +kernel), .inr rfl, by decide +kernel⟩
  · exact ⟨.inr rfl, .inl (by decide +kernel), by decide +kernel⟩
theorem good4 : ∀ b ∈ ([("a", "b", 1), ("b", "", -1), ("", "a", 0), ("", "a", -1)] : List Bnd), goodB b := by
  intro b hb
  simp only [List.mem_cons, List.not_mem_nil, or_false] at hb
  rcases hb with rfl | rfl | rfl | rfl
  · exact ⟨.inl (by decide +kernel), .inl (by decide +kernel), by decide +kernel⟩
  · exact ⟨.inl (by decide +kernel), .inr rfl, by decide +kernel⟩
  · exact ⟨.inr rfl, .inl (by decide +kernel), by decide +kernel⟩
  · exact ⟨.inr rfl, .inl (by decide +kernel), by decide +kernel⟩
set_option maxHeartbeats 4000000 in
theorem ok_law {f : Addr} {fd : FuncData} (F : Fun K "law" "law" t_law f fd) (m_range : mg "range" = none) (m_len : mg "len" = none) (m_max : mg "max" = none) (m_min : mg "min" = none) (m_repr : mg "repr" = none) (m_tuple : mg "tuple" = none) (hB : HasB P w K mg base 4 "_law_begin" ["_law_script"])
    (hx : ∀ x : Dr, x.c ≠ x.g → x.cs.length ≤ sizeLine → LawH P w K mg base x) : FnG P w K mg base CX0 5 f fd ["_law_script"] (spLaw K) := by
  refine law_by F sc_law hB rfl rfl rfl (.inl rfl) (.inl rfl) rfl (by decide) (by decide) (by decide) fun cdv A outer s H E a ns x hr gd hS hlen hof hgc hz => ?_
  have hu := hu65 hr
  have hu2 := hu66 hr
  obtain ⟨h_law_take, h_law_pick, h_law_words, h_law_limits, h_law_round, h_law_bent, h_law_is_ring, h_is_ring⟩ := hx x hgc hz
  have big : 20000 < sizeLine := by decide
  refine (wss_cons (ws_for PassesOwn.never rfl (wg_name (i := 2) sc_law.nd rfl (.inl rfl)) (wi_range m_range (we_blt (cb_max rfl) m_max boot_max maxF_mono (wa_cons (we_int (wa_cons (we_blt (cb_min rfl) m_min PyProof.Rows.boot_min minF_mono (wa_cons (we_int (wa_cons (we_lenScr hS hof m_len (we_name (i := 0) rfl (.inl rfl) rfl ⟨rfl, wa_nil ?_⟩)))))))))))))
  refine wa_nil ?_
  have rg : ∀ v : Int, v = (if (ns.length : Int) < 20 then (ns.length : Int) else 20) → -1000000 ≤ (if 6 < v then v else 6) ∧ (if 6 < v then v else 6) ≤ 1000000 := fun v hv => by
    split at hv <;> subst hv <;> split <;> omega
  refine ⟨rg _ rfl, ?_⟩
  refine ⟨fun i ρ om => ∃ r2 r3 r4 r5 r6 r7 r8 r9 r10 : Option R, ρ = [some (.v (.obj a)), some (.v (.obj x.d)), r2, r3, r4, r5, r6, r7, r8, r9, r10] ∧ om = [], ⟨none, none, none, none, none, none, none, none, none, rfl, rfl⟩, fun i d ρ om hl hd hp => ?_, fun ρ om hl hp => ?_⟩
  · obtain ⟨r2, r3, r4, r5, r6, r7, r8, r9, r10, rfl, rfl⟩ := hp
    refine (wss_cons (ws_set (i := 4) sc_law.nd rfl (.inl rfl) (we_call h_law_words hr gd (wa_cons (we_name (i := 1) rfl (.inl rfl) rfl (wa_cons (we_bin (we_int (we_call h_law_take hr gd (wa_cons (we_name (i := 1) rfl (.inl rfl) rfl (wa_cons (we_int (wa_nil ?_))))))))))))))
    refine ⟨5, rfl, ⟨by decide, by decide⟩, fun k k0 k1 => ?_⟩
    refine (wa_nil ?_)
    refine ⟨1 + k, rfl, ⟨by omega, by omega⟩, fun ws wl wn wa => ?_⟩
    refine (wss_cons (ws_set (i := 5) sc_law.nd rfl (.inl rfl) (we_call h_law_limits hr gd (wa_cons (we_name (i := 1) rfl (.inl rfl) rfl (wa_cons (we_name (i := 4) rfl (.inl rfl) rfl (wa_cons (we_call h_law_pick hr gd (wa_cons (we_name (i := 1) rfl (.inl rfl) rfl (wa_cons (we_lst (wa_cons (we_int (wa_cons (we_int (wa_cons (we_int (wa_cons (we_int (wa_cons (we_int (wa_cons (we_int (wa_cons (we_int (wa_nil ?_))))))))))))))))))))))))))))
    refine ⟨by show 7 ≤ sizeLine; omega, ?_⟩
    refine (wa_nil ?_)
    refine .inl ⟨_, rfl, List.cons_ne_nil _ _, by show 7 ≤ sizeLine; omega, fun y hy => ?_⟩
    obtain ⟨n, rfl, n0, n1⟩ : ∃ n : Int, y = .int n ∧ 0 ≤ n ∧ n ≤ 12 := by
      simp only [List.mem_cons, List.not_mem_nil, or_false] at hy
      rcases hy with rfl | rfl | rfl | rfl | rfl | rfl | rfl <;> exact ⟨_, rfl, by decide, by decide⟩
    refine (wa_cons (we_call h_law_pick hr gd (wa_cons (we_name (i := 1) rfl (.inl rfl) rfl (wa_cons (we_lst (wa_cons (we_int (wa_cons (we_int (wa_cons (we_int (wa_cons (we_bin (we_int (we_int ?_))))))))))))))))
    refine ⟨⟨by decide, by decide, by decide⟩, ?_⟩
    refine (wa_nil ?_)
    refine ⟨by show 4 ≤ sizeLine; omega, ?_⟩
    refine (wa_nil ?_)
    refine .inl ⟨_, rfl, List.cons_ne_nil _ _, by show 4 ≤ sizeLine; omega, fun y hy => ?_⟩
    obtain ⟨t, rfl, t0, t1⟩ : ∃ n : Int, y = .int n ∧ 0 < n ∧ n ≤ 10 ^ 9 := by
      simp only [List.mem_cons, List.not_mem_nil, or_false] at hy
      rcases hy with rfl | rfl | rfl | rfl <;> exact ⟨_, rfl, by decide, by decide⟩
    refine (wa_nil ?_)
    refine ⟨ws, n, t, rfl, ⟨n0, by omega⟩, ⟨t0, t1⟩, ⟨by omega, by omega⟩, wn, wa, fun bs bg bl _ => ?_⟩
    have bl : bs.length ≤ 100 := by omega
    refine (wss_one (ws_for PassesOwn.never rfl (wg_name (i := 6) sc_law.nd rfl (.inl rfl)) (wi_range m_range (we_int ?_))))
    refine ⟨⟨by decide, by decide⟩, ?_⟩
    refine ⟨fun i ρ om => ∃ r2 r3 r6 r7 r8 r9 r10 : Option R, ρ = [some (.v (.obj a)), some (.v (.obj x.d)), r2, r3, some (.v (.lst (ws.map D.str))), some (.v (.lst (bs.map bD))), r6, r7, r8, r9, r10] ∧ om = [], ⟨_, _, _, _, _, _, _, rfl, rfl⟩, fun i d ρ om hl hd hp => ?_, fun ρ om hl hp => ?_⟩
    · obtain ⟨r2, r3, r6, r7, r8, r9, r10, rfl, rfl⟩ := hp
      refine (wss_cons (ws_set (i := 7) sc_law.nd rfl (.inl rfl) (we_call h_law_round hr gd (wa_cons (we_name (i := 1) rfl (.inl rfl) rfl (wa_cons (we_name (i := 5) rfl (.inl rfl) rfl (wa_nil ?_))))))))
      refine ⟨bs, rfl, bg, bl, fun ix xb xl => ?_⟩
      refine (wss_cons (ws_set (i := 8) sc_law.nd rfl (.inl rfl) (we_call h_law_bent hr gd (wa_cons (we_name (i := 1) rfl (.inl rfl) rfl (wa_cons (we_name (i := 7) rfl (.inl rfl) rfl (wa_cons (we_blt cb_len m_len PySem.boot_len lenF_mono (wa_cons (we_name (i := 5) rfl (.inl rfl) rfl (wa_nil (wa_nil ?_)))))))))))))
      refine ⟨ix, _, rfl, xl, fun od ho => ?_⟩
      refine (wss_one (ws_for PassesOwn.never rfl (wg_name (i := 9) sc_law.nd rfl (.inl rfl)) (wi_seq (we_lst (wa_cons (we_name (i := 7) rfl (.inl rfl) rfl (wa_cons (we_name (i := 8) rfl (.inl rfl) rfl (wa_nil ?_)))))))))
      refine ⟨by show 2 ≤ sizeLine; omega, ?_⟩
      refine ⟨fun i ρ om => ∃ r2 r3 r6 r7 r8 r9 r10 : Option R, ρ = [some (.v (.obj a)), some (.v (.obj x.d)), r2, r3, some (.v (.lst (ws.map D.str))), some (.v (.lst (bs.map bD))), r6, r7, r8, r9, r10] ∧ om = [], ⟨_, _, _, _, _, _, _, rfl, rfl⟩, fun i d ρ om hl hd hp => ?_, fun ρ om hl hp => ?_⟩
      · obtain ⟨r2, r3, r6, r7, r8, r9, r10, rfl, rfl⟩ := hp
        have hd : anyE d := by
          match i, hd with
          | 0, hd => cases hd; exact ring_of_ints (bs := bs) xl
          | 1, hd => cases hd; exact ho
          | i + 2, hd => cases hd
        refine (wss_cons (ws_set (i := 10) sc_law.nd rfl (.inl rfl) (we_call h_law_is_ring hr gd (wa_cons (we_name (i := 5) rfl (.inl rfl) rfl (wa_cons (we_name (i := 9) rfl (.inl rfl) rfl (wa_nil ?_))))))))
        refine ⟨bs, d, rfl, bg, bl, hd, ?_⟩
        refine (wss_one (ws_if (wt_cmp hu (we_blt (cb_repr gd hu2) m_repr PyProof.Rows.boot_repr rprF_mono (wa_cons (we_lst (wa_cons (we_call h_is_ring hr gd (wa_cons (we_name (i := 5) rfl (.inl rfl) rfl (wa_cons (we_name (i := 9) rfl (.inl rfl) rfl (wa_nil ?_)))))))))))))
        refine ⟨true, bs, d, rfl, bg, bl, hd.any, ?_⟩
        refine (wa_cons (we_call h_is_ring hr gd (wa_cons (we_bty cb_tup m_tuple PyProof.Rows.boot_tuple tupF_mono (wa_cons (we_name (i := 5) rfl (.inl rfl) rfl (wa_nil (wa_cons (we_name (i := 9) rfl (.inl rfl) rfl (wa_nil ?_))))))))))
        refine ⟨false, bs, d, rfl, bg, bl, hd.any, ?_⟩
        refine (wa_nil ?_)
        refine ⟨by show 2 ≤ sizeLine; omega, ?_⟩
        refine (wa_nil ?_)
        generalize ringD bs d = b
        cases b
        · refine ⟨by decide +kernel, by unfold shp; decide +kernel, by decide +kernel, ?_⟩
          refine (we_blt (cb_repr gd hu2) m_repr PyProof.Rows.boot_repr rprF_mono (wa_cons (we_lst (wa_cons (we_name (i := 10) rfl (.inl rfl) rfl (wa_cons (we_name (i := 10) rfl (.inl rfl) rfl (wa_nil ?_))))))))
          refine ⟨by show 2 ≤ sizeLine; omega, ?_⟩
          refine (wa_nil ?_)
          refine ⟨by decide +kernel, by unfold shp; decide +kernel, by decide +kernel, ?_⟩
          refine wss_nil ?_
          exact ⟨_, _, _, _, _, _, _, rfl, rfl⟩
        · refine ⟨by decide +kernel, by unfold shp; decide +kernel, by decide +kernel, ?_⟩
          refine (we_blt (cb_repr gd hu2) m_repr PyProof.Rows.boot_repr rprF_mono (wa_cons (we_lst (wa_cons (we_name (i := 10) rfl (.inl rfl) rfl (wa_cons (we_name (i := 10) rfl (.inl rfl) rfl (wa_nil ?_))))))))
          refine ⟨by show 2 ≤ sizeLine; omega, ?_⟩
          refine (wa_nil ?_)
          refine ⟨by decide +kernel, by unfold shp; decide +kernel, by decide +kernel, ?_⟩
          refine wss_nil ?_
          exact ⟨_, _, _, _, _, _, _, rfl, rfl⟩
      · obtain ⟨r2, r3, r6, r7, r8, r9, r10, rfl, rfl⟩ := hp
        exact ⟨_, _, _, _, _, _, _, rfl, rfl⟩
    · obtain ⟨r2, r3, r6, r7, r8, r9, r10, rfl, rfl⟩ := hp
      exact ⟨_, _, _, _, _, _, _, _, _, rfl, rfl⟩
  · obtain ⟨r2, r3, r4, r5, r6, r7, r8, r9, r10, rfl, rfl⟩ := hp
    refine (wss_cons (ws_set (i := 3) sc_law.nd rfl (.inl rfl) (we_lst (wa_cons (we_tup (wa_cons (we_str (wa_cons (we_str (wa_cons (we_int (wa_nil ?_))))))))))))
    refine ⟨by show 3 ≤ sizeLine; omega, ?_⟩
    refine (wa_cons (we_tup (wa_cons (we_str (wa_cons (we_str (wa_cons (we_neg (we_int (wa_nil ?_))))))))))
    refine ⟨by show 3 ≤ sizeLine; omega, ?_⟩
    refine (wa_cons (we_tup (wa_cons (we_str (wa_cons (we_str (wa_cons (we_int (wa_nil ?_)))))))))
    refine ⟨by show 3 ≤ sizeLine; omega, ?_⟩
    refine (wa_nil ?_)
    refine ⟨by show 3 ≤ sizeLine; omega, ?_⟩
    refine (wss_cons (ws_if (WW.wt (ww_or (wt_cmp hu (we_call h_is_ring hr gd (wa_cons (we_name (i := 3) rfl (.inl rfl) rfl (wa_cons (we_lst (wa_cons (we_int (wa_cons (we_int (wa_cons (we_int (wa_nil ?_)))))))))))))))))
    refine ⟨by show 3 ≤ sizeLine; omega, ?_⟩
    refine (wa_nil ?_)
    refine ⟨true, [("a", "b", 1), ("b", "", -1), ("", "a", 0)], .lst (intsD [0, 1, 2]), rfl, good3, by decide, (ring_of_ints (bs := []) (by decide)).any, ?_⟩
    have e1 : ringD [("a", "b", 1), ("b", "", -1), ("", "a", 0)] (.lst (intsD [0, 1, 2])) = false := by decide +kernel
    rw [e1]
    refine (we_bl ?_)
    refine (ww_or1 (wt_cmp hu (we_call h_is_ring hr gd (wa_cons (we_bin (we_name (i := 3) rfl (.inl rfl) rfl (we_lst (wa_cons (we_tup (wa_cons (we_str (wa_cons (we_str (wa_cons (we_neg (we_int (wa_nil ?_)))))))))))))))))
    refine ⟨by show 3 ≤ sizeLine; omega, ?_⟩
    refine (wa_nil ?_)
    refine ⟨by show 1 ≤ sizeLine; omega, ?_⟩
    refine ⟨by show 4 ≤ sizeLine; omega, ?_⟩
    refine (wa_cons (we_lst (wa_cons (we_int (wa_cons (we_int (wa_cons (we_int (wa_nil ?_)))))))))
    refine ⟨by show 3 ≤ sizeLine; omega, ?_⟩
    refine (wa_nil ?_)
    refine ⟨true, [("a", "b", 1), ("b", "", -1), ("", "a", 0), ("", "a", -1)], .lst (intsD [3, 0, 1]), rfl, good4, by decide, (ring_of_ints (bs := []) (by decide)).any, ?_⟩
    have e2 : ringD [("a", "b", 1), ("b", "", -1), ("", "a", 0), ("", "a", -1)] (.lst (intsD [3, 0, 1])) = true := by decide +kernel
    rw [e2]
    refine (we_bl ?_)
    refine (wss_nil (wss_one (ws_ret (we_and (we_cmp hu (we_call h_is_ring hr gd (wa_cons (we_lst (wa_nil ⟨by show 0 ≤ sizeLine; omega, ?_⟩)))))))))
    refine (wa_cons (we_lst (wa_nil ⟨by show 0 ≤ sizeLine; omega, ?_⟩)))
    refine (wa_nil ?_)
    refine ⟨true, [], .lst (intsD []), rfl, (fun b h => by cases h), by decide, (ring_of_ints (bs := []) (by decide)).any, ?_⟩
    refine (we_bl ?_)
    refine (we_and1 (we_cmp hu (we_call h_is_ring hr gd (wa_cons (we_lst (wa_nil ⟨by show 0 ≤ sizeLine; omega, ?_⟩))))))
    refine (wa_cons (we_lst (wa_cons (we_int (wa_nil ⟨by show 1 ≤ sizeLine; omega, ?_⟩)))))
    refine (wa_nil ?_)
    refine ⟨true, [], .lst (intsD [0]), rfl, (fun b h => by cases h), by decide, (ring_of_ints (bs := []) (by decide)).any, ?_⟩
    refine (we_bl ?_)
    exact rfl
end
end K16

namespace K16
open PySem L2 DL
/-! ### the end of the row (printed by endgen.py) -/
theorem FnG.lift {P : Program} {w : World} {K : PySem.W.Frag} {mg : Str → Option Value} {base : Heap} {CX : CXT} {j k : Nat} {f : Addr} {fd : FuncData} {ps : List Str} {sp : Sp} (F : FnG P w K mg base CX j f fd ps sp) (h : j ≤ k) : FnG P w K mg base CX k f fd ps sp := ⟨F.len, fun A outer s H args us vs Q E hr => F.run A outer s H args us vs Q E (hr.mono h)⟩
theorem mono_take {x : Dr} : ∀ ds Q Q', (∀ d, Q d → Q' d) → W_take x ds Q → W_take x ds Q' := fun ds Q Q' i ⟨n, e, h, q⟩ => ⟨n, e, h, fun k a b => i _ (q k a b)⟩
theorem mono_blend {x : Dr} : ∀ ds Q Q', (∀ d, Q d → Q' d) → W_blend x ds Q → W_blend x ds Q' := fun ds Q Q' i ⟨e, q⟩ => ⟨e, fun k => i _ (q k)⟩
theorem all_mk {l : PySem.W.OpenLaw} {w : World} {K : PySem.W.Frag} {h : Heap} {mg : Str → Option Value} {fa : Addr} (X : K.In h) (G : h.Ns mainGlobals mg) (hfa : mg "law" = some (.ref fa))
    {f1 f2 f3 f4 f5 f6 f7 f8 f9 f10 f11 f12 f13 f14 f15 f16 f17 f18 : Addr} {od1 an1 od2 an2 od3 an3 od4 an4 od5 an5 od6 an6 od7 an7 od8 an8 od9 an9 od10 an10 od11 an11 od12 an12 od13 an13 od14 an14 od15 an15 od16 an16 od17 an17 od18 an18 : Option Addr} {sl1 sl2 sl3 sl4 sl5 sl6 sl7 sl8 sl9 sl10 sl11 sl12 sl13 sl14 sl15 sl16 sl17 sl18 : Array (Option Value)}
    {oc1 kV1 dc1 pm1 cd1 ct1 oc2 kV2 dc2 pm2 cd2 ct2 oc3 kV3 dc3 pm3 cd3 ct3 oc4 kV4 dc4 pm4 cd4 ct4 oc5 kV5 dc5 pm5 cd5 ct5 oc6 kV6 dc6 pm6 cd6 ct6 oc7 kV7 dc7 pm7 cd7 ct7 oc8 kV8 dc8 pm8 cd8 ct8 oc9 kV9 dc9 pm9 cd9 ct9 oc10 kV10 dc10 pm10 cd10 ct10 oc11 kV11 dc11 pm11 cd11 ct11 oc12 kV12 dc12 pm12 cd12 ct12 oc13 kV13 dc13 pm13 cd13 ct13 oc14 kV14 dc14 pm14 cd14 ct14 oc15 kV15 dc15 pm15 cd15 ct15 oc16 kV16 dc16 pm16 cd16 ct16 oc17 kV17 dc17 pm17 cd17 ct17 oc18 kV18 dc18 pm18 cd18 ct18 : Value} {v1 v2 v3 : Value}
    (a1 : PySem.W.nsIn K mainGlobals "_law_blend" = some (some (.ref f1))) (l1 : K.lookup f1 = some ⟨oc1, od1, .func (PySem.W.fnOf "_law_blend" "_law_blend" (defArgs t_blend) (defBody t_blend) (defScope t_blend) .none kV1 dc1 pm1 an1 cd1 ct1), sl1⟩) (c1 : PySem.W.codeIn K cd1 "_law_blend" = true) (k1 : PySem.W.keepIn K (.ref f1) = true)
    (a2 : PySem.W.nsIn K mainGlobals "_law_take" = some (some (.ref f2))) (l2 : K.lookup f2 = some ⟨oc2, od2, .func (PySem.W.fnOf "_law_take" "_law_take" (defArgs t_take) (defBody t_take) (defScope t_take) .none kV2 dc2 pm2 an2 cd2 ct2), sl2⟩) (c2 : PySem.W.codeIn K cd2 "_law_take" = true) (k2 : PySem.W.keepIn K (.ref f2) = true)
    (a3 : PySem.W.nsIn K mainGlobals "_law_begin" = some (some (.ref f3))) (l3 : K.lookup f3 = some ⟨oc3, od3, .func (PySem.W.fnOf "_law_begin" "_law_begin" (defArgs t_begin) (defBody t_begin) (defScope t_begin) .none kV3 dc3 pm3 an3 cd3 ct3), sl3⟩) (c3 : PySem.W.codeIn K cd3 "_law_begin" = true) (k3 : PySem.W.keepIn K (.ref f3) = true)
    (a4 : PySem.W.nsIn K mainGlobals "is_number" = some (some (.ref f4))) (l4 : K.lookup f4 = some ⟨oc4, od4, .func (PySem.W.fnOf "is_number" "is_number" (defArgs t_is_number) (defBody t_is_number) (defScope t_is_number) .none kV4 dc4 pm4 an4 cd4 ct4), sl4⟩) (c4 : PySem.W.codeIn K cd4 "is_number" = true) (k4 : PySem.W.keepIn K (.ref f4) = true)
    (a5 : PySem.W.nsIn K mainGlobals "is_name" = some (some (.ref f5))) (l5 : K.lookup f5 = some ⟨oc5, od5, .func (PySem.W.fnOf "is_name" "is_name" (defArgs t_is_name) (defBody t_is_name) (defScope t_is_name) .none kV5 dc5 pm5 an5 cd5 ct5), sl5⟩) (c5 : PySem.W.codeIn K cd5 "is_name" = true) (k5 : PySem.W.keepIn K (.ref f5) = true)
    (a6 : PySem.W.nsIn K mainGlobals "is_bound" = some (some (.ref f6))) (l6 : K.lookup f6 = some ⟨oc6, od6, .func (PySem.W.fnOf "is_bound" "is_bound" (defArgs t_is_bound) (defBody t_is_bound) (defScope t_is_bound) .none kV6 dc6 pm6 an6 cd6 ct6), sl6⟩) (c6 : PySem.W.codeIn K cd6 "is_bound" = true) (k6 : PySem.W.keepIn K (.ref f6) = true)
    (a7 : PySem.W.nsIn K mainGlobals "need_bounds" = some (some (.ref f7))) (l7 : K.lookup f7 = some ⟨oc7, od7, .func (PySem.W.fnOf "need_bounds" "need_bounds" (defArgs t_need_bounds) (defBody t_need_bounds) (defScope t_need_bounds) .none kV7 dc7 pm7 an7 cd7 ct7), sl7⟩) (c7 : PySem.W.codeIn K cd7 "need_bounds" = true) (k7 : PySem.W.keepIn K (.ref f7) = true)
    (a8 : PySem.W.nsIn K mainGlobals "is_ring_of" = some (some (.ref f8))) (l8 : K.lookup f8 = some ⟨oc8, od8, .func (PySem.W.fnOf "is_ring_of" "is_ring_of" (defArgs t_is_ring_of) (defBody t_is_ring_of) (defScope t_is_ring_of) .none kV8 dc8 pm8 an8 cd8 ct8), sl8⟩) (c8 : PySem.W.codeIn K cd8 "is_ring_of" = true) (k8 : PySem.W.keepIn K (.ref f8) = true)
    (a9 : PySem.W.nsIn K mainGlobals "is_ring" = some (some (.ref f9))) (l9 : K.lookup f9 = some ⟨oc9, od9, .func (PySem.W.fnOf "is_ring" "is_ring" (defArgs t_is_ring) (defBody t_is_ring) (defScope t_is_ring) .none kV9 dc9 pm9 an9 cd9 ct9), sl9⟩) (c9 : PySem.W.codeIn K cd9 "is_ring" = true) (k9 : PySem.W.keepIn K (.ref f9) = true)
    (a10 : PySem.W.nsIn K mainGlobals "_law_pick" = some (some (.ref f10))) (l10 : K.lookup f10 = some ⟨oc10, od10, .func (PySem.W.fnOf "_law_pick" "_law_pick" (defArgs t_pick) (defBody t_pick) (defScope t_pick) .none kV10 dc10 pm10 an10 cd10 ct10), sl10⟩) (c10 : PySem.W.codeIn K cd10 "_law_pick" = true) (k10 : PySem.W.keepIn K (.ref f10) = true)
    (a11 : PySem.W.nsIn K mainGlobals "_law_mixed" = some (some (.ref f11))) (l11 : K.lookup f11 = some ⟨oc11, od11, .func (PySem.W.fnOf "_law_mixed" "_law_mixed" (defArgs t_mixed) (defBody t_mixed) (defScope t_mixed) .none kV11 dc11 pm11 an11 cd11 ct11), sl11⟩) (c11 : PySem.W.codeIn K cd11 "_law_mixed" = true) (k11 : PySem.W.keepIn K (.ref f11) = true)
    (a12 : PySem.W.nsIn K mainGlobals "_law_words" = some (some (.ref f12))) (l12 : K.lookup f12 = some ⟨oc12, od12, .func (PySem.W.fnOf "_law_words" "_law_words" (defArgs t_words) (defBody t_words) (defScope t_words) .none kV12 dc12 pm12 an12 cd12 ct12), sl12⟩) (c12 : PySem.W.codeIn K cd12 "_law_words" = true) (k12 : PySem.W.keepIn K (.ref f12) = true)
    (a13 : PySem.W.nsIn K mainGlobals "_law_is_int" = some (some (.ref f13))) (l13 : K.lookup f13 = some ⟨oc13, od13, .func (PySem.W.fnOf "_law_is_int" "_law_is_int" (defArgs t_is_int) (defBody t_is_int) (defScope t_is_int) .none kV13 dc13 pm13 an13 cd13 ct13), sl13⟩) (c13 : PySem.W.codeIn K cd13 "_law_is_int" = true) (k13 : PySem.W.keepIn K (.ref f13) = true)
    (a14 : PySem.W.nsIn K mainGlobals "_law_is_ring" = some (some (.ref f14))) (l14 : K.lookup f14 = some ⟨oc14, od14, .func (PySem.W.fnOf "_law_is_ring" "_law_is_ring" (defArgs t_law_is_ring) (defBody t_law_is_ring) (defScope t_law_is_ring) .none kV14 dc14 pm14 an14 cd14 ct14), sl14⟩) (c14 : PySem.W.codeIn K cd14 "_law_is_ring" = true) (k14 : PySem.W.keepIn K (.ref f14) = true)
    (a15 : PySem.W.nsIn K mainGlobals "_law_limits" = some (some (.ref f15))) (l15 : K.lookup f15 = some ⟨oc15, od15, .func (PySem.W.fnOf "_law_limits" "_law_limits" (defArgs t_limits) (defBody t_limits) (defScope t_limits) .none kV15 dc15 pm15 an15 cd15 ct15), sl15⟩) (c15 : PySem.W.codeIn K cd15 "_law_limits" = true) (k15 : PySem.W.keepIn K (.ref f15) = true)
    (a16 : PySem.W.nsIn K mainGlobals "_law_round" = some (some (.ref f16))) (l16 : K.lookup f16 = some ⟨oc16, od16, .func (PySem.W.fnOf "_law_round" "_law_round" (defArgs t_round) (defBody t_round) (defScope t_round) .none kV16 dc16 pm16 an16 cd16 ct16), sl16⟩) (c16 : PySem.W.codeIn K cd16 "_law_round" = true) (k16 : PySem.W.keepIn K (.ref f16) = true)
    (a17 : PySem.W.nsIn K mainGlobals "_law_bent" = some (some (.ref f17))) (l17 : K.lookup f17 = some ⟨oc17, od17, .func (PySem.W.fnOf "_law_bent" "_law_bent" (defArgs t_bent) (defBody t_bent) (defScope t_bent) .none kV17 dc17 pm17 an17 cd17 ct17), sl17⟩) (c17 : PySem.W.codeIn K cd17 "_law_bent" = true) (k17 : PySem.W.keepIn K (.ref f17) = true)
    (a18 : PySem.W.nsIn K mainGlobals "law" = some (some (.ref f18))) (l18 : K.lookup f18 = some ⟨oc18, od18, .func (PySem.W.fnOf "law" "law" (defArgs t_law) (defBody t_law) (defScope t_law) .none kV18 dc18 pm18 an18 cd18 ct18), sl18⟩) (c18 : PySem.W.codeIn K cd18 "law" = true) (k18 : PySem.W.keepIn K (.ref f18) = true)
    (g1 : PySem.W.nsIn K mainGlobals "LETTERS" = some (some v1)) (e1 : ∃ t, v1 = .str letters t)
    (g2 : PySem.W.nsIn K mainGlobals "MOST_LETTERS" = some (some v2)) (e2 : ∃ t, v2 = .int 8 t)
    (g3 : PySem.W.nsIn K mainGlobals "ZERO" = some (some v3)) (e3 : ∃ t, v3 = .str "" t)
    (z1 : PySem.W.nsIn K mainGlobals "int" = some none)
    (z2 : PySem.W.nsIn K mainGlobals "abs" = some none)
    (z3 : PySem.W.nsIn K mainGlobals "isinstance" = some none)
    (z4 : PySem.W.nsIn K mainGlobals "bool" = some none)
    (z5 : PySem.W.nsIn K mainGlobals "str" = some none)
    (z6 : PySem.W.nsIn K mainGlobals "len" = some none)
    (z7 : PySem.W.nsIn K mainGlobals "all" = some none)
    (z8 : PySem.W.nsIn K mainGlobals "tuple" = some none)
    (z9 : PySem.W.nsIn K mainGlobals "list" = some none)
    (z10 : PySem.W.nsIn K mainGlobals "enumerate" = some none)
    (z11 : PySem.W.nsIn K mainGlobals "zip" = some none)
    (z12 : PySem.W.nsIn K mainGlobals "sum" = some none)
    (z13 : PySem.W.nsIn K mainGlobals "range" = some none)
    (z14 : PySem.W.nsIn K mainGlobals "max" = some none)
    (z15 : PySem.W.nsIn K mainGlobals "min" = some none)
    (z16 : PySem.W.nsIn K mainGlobals "repr" = some none)
    : ∃ fd : FuncData, (∀ (s : Shared) (v : Value), BindsTo s fd ⟨[v], []⟩ [("_law_script", v)]) ∧ ∀ base : Heap, K.In base → base.Ns mainGlobals mg → FnG l.prog w K mg base CX0 5 fa fd ["_law_script"] (spLaw K) := by
  have e := hfa.symm.trans (PySem.W.mg_of X G a18)
  cases e
  have m_LETTERS : ∃ t, mg "LETTERS" = some (.str letters t) := e1.elim fun t e => ⟨t, (PySem.W.mg_of X G g1).trans (congrArg some e)⟩
  have m_MOST : ∃ t, mg "MOST_LETTERS" = some (.int 8 t) := e2.elim fun t e => ⟨t, (PySem.W.mg_of X G g2).trans (congrArg some e)⟩
  have m_ZERO : ∃ t, mg "ZERO" = some (.str "" t) := e3.elim fun t e => ⟨t, (PySem.W.mg_of X G g3).trans (congrArg some e)⟩
  have m_int : mg "int" = none := PySem.W.mg_none_of X G z1
  have m_abs : mg "abs" = none := PySem.W.mg_none_of X G z2
  have m_isinstance : mg "isinstance" = none := PySem.W.mg_none_of X G z3
  have m_bool : mg "bool" = none := PySem.W.mg_none_of X G z4
  have m_str : mg "str" = none := PySem.W.mg_none_of X G z5
  have m_len : mg "len" = none := PySem.W.mg_none_of X G z6
  have m_all : mg "all" = none := PySem.W.mg_none_of X G z7
  have m_tuple : mg "tuple" = none := PySem.W.mg_none_of X G z8
  have m_list : mg "list" = none := PySem.W.mg_none_of X G z9
  have m_enumerate : mg "enumerate" = none := PySem.W.mg_none_of X G z10
  have m_zip : mg "zip" = none := PySem.W.mg_none_of X G z11
  have m_sum : mg "sum" = none := PySem.W.mg_none_of X G z12
  have m_range : mg "range" = none := PySem.W.mg_none_of X G z13
  have m_max : mg "max" = none := PySem.W.mg_none_of X G z14
  have m_min : mg "min" = none := PySem.W.mg_none_of X G z15
  have m_repr : mg "repr" = none := PySem.W.mg_none_of X G z16
  have F1 := fun_mk (st := t_blend) l1 c1 k1
  have b1 := F1.binds (ps := ["_law_draw"]) fun _ _ _ _ _ _ us hl => match us, hl with | [_], _ => rfl
  have F2 := fun_mk (st := t_take) l2 c2 k2
  have b2 := F2.binds (ps := ["_law_draw", "_law_many"]) fun _ _ _ _ _ _ us hl => match us, hl with | [_, _], _ => rfl
  have F3 := fun_mk (st := t_begin) l3 c3 k3
  have b3 := F3.binds (ps := ["_law_script"]) fun _ _ _ _ _ _ us hl => match us, hl with | [_], _ => rfl
  have F4 := fun_mk (st := t_is_number) l4 c4 k4
  have b4 := F4.binds (ps := ["thing"]) fun _ _ _ _ _ _ us hl => match us, hl with | [_], _ => rfl
  have F5 := fun_mk (st := t_is_name) l5 c5 k5
  have b5 := F5.binds (ps := ["thing"]) fun _ _ _ _ _ _ us hl => match us, hl with | [_], _ => rfl
  have F6 := fun_mk (st := t_is_bound) l6 c6 k6
  have b6 := F6.binds (ps := ["thing"]) fun _ _ _ _ _ _ us hl => match us, hl with | [_], _ => rfl
  have F7 := fun_mk (st := t_need_bounds) l7 c7 k7
  have b7 := F7.binds (ps := ["bounds"]) fun _ _ _ _ _ _ us hl => match us, hl with | [_], _ => rfl
  have F8 := fun_mk (st := t_is_ring_of) l8 c8 k8
  have b8 := F8.binds (ps := ["bounds", "thing"]) fun _ _ _ _ _ _ us hl => match us, hl with | [_, _], _ => rfl
  have F9 := fun_mk (st := t_is_ring) l9 c9 k9
  have b9 := F9.binds (ps := ["bounds", "thing"]) fun _ _ _ _ _ _ us hl => match us, hl with | [_, _], _ => rfl
  have F10 := fun_mk (st := t_pick) l10 c10 k10
  have b10 := F10.binds (ps := ["_law_draw", "_law_some"]) fun _ _ _ _ _ _ us hl => match us, hl with | [_, _], _ => rfl
  have F11 := fun_mk (st := t_mixed) l11 c11 k11
  have b11 := F11.binds (ps := ["_law_draw", "_law_some"]) fun _ _ _ _ _ _ us hl => match us, hl with | [_, _], _ => rfl
  have F12 := fun_mk (st := t_words) l12 c12 k12
  have b12 := F12.binds (ps := ["_law_draw", "_law_count"]) fun _ _ _ _ _ _ us hl => match us, hl with | [_, _], _ => rfl
  have F13 := fun_mk (st := t_is_int) l13 c13 k13
  have b13 := F13.binds (ps := ["_law_matter"]) fun _ _ _ _ _ _ us hl => match us, hl with | [_], _ => rfl
  have F14 := fun_mk (st := t_law_is_ring) l14 c14 k14
  have b14 := F14.binds (ps := ["_law_limits_here", "_law_matter"]) fun _ _ _ _ _ _ us hl => match us, hl with | [_, _], _ => rfl
  have F15 := fun_mk (st := t_limits) l15 c15 k15
  have b15 := F15.binds (ps := ["_law_draw", "_law_words_here", "_law_many", "_law_top"]) fun _ _ _ _ _ _ us hl => match us, hl with | [_, _, _, _], _ => rfl
  have F16 := fun_mk (st := t_round) l16 c16 k16
  have b16 := F16.binds (ps := ["_law_draw", "_law_limits_here"]) fun _ _ _ _ _ _ us hl => match us, hl with | [_, _], _ => rfl
  have F17 := fun_mk (st := t_bent) l17 c17 k17
  have b17 := F17.binds (ps := ["_law_draw", "_law_matter", "_law_many"]) fun _ _ _ _ _ _ us hl => match us, hl with | [_, _, _], _ => rfl
  have F18 := fun_mk (st := t_law) l18 c18 k18
  refine ⟨PySem.W.fnOf "law" "law" (defArgs t_law) (defBody t_law) (defScope t_law) .none kV18 dc18 pm18 an18 cd18 ct18, fun s v => .of_eq rfl, fun base _ _ => ?_⟩
  have hB : HasB l.prog w K mg base 4 "_law_begin" ["_law_script"] := ⟨⟨_, _, FnG.lift (ok_law_begin F3 m_abs) (by decide), PySem.W.mg_of X G a3, k3, b3⟩⟩
  refine ok_law F18 m_range m_len m_max m_min m_repr m_tuple hB fun x hgc hz => ?_
  have h_law_blend : Has l.prog w K mg base (some x) 1 "_law_blend" ["_law_draw"] (W_blend x) := ⟨⟨_, _, ok_law_blend F1 m_int hz, PySem.W.mg_of X G a1, k1, b1⟩, mono_blend⟩
  have h_law_take : Has l.prog w K mg base (some x) 2 "_law_take" ["_law_draw", "_law_many"] (W_take x) := ⟨⟨_, _, ok_law_take F2 m_int hgc h_law_blend, PySem.W.mg_of X G a2, k2, b2⟩, mono_take⟩
  have h_is_number : Has l.prog w K mg base (some x) 1 "is_number" ["thing"] W_is_number := ⟨⟨_, _, ok_is_number F4 m_isinstance m_int m_bool, PySem.W.mg_of X G a4, k4, b4⟩, mono_is_number⟩
  have h_is_name : Has l.prog w K mg base (some x) 1 "is_name" ["thing"] W_is_name := ⟨⟨_, _, ok_is_name F5 m_isinstance m_str m_len m_all m_LETTERS m_MOST, PySem.W.mg_of X G a5, k5, b5⟩, mono_is_name⟩
  have h_is_bound : Has l.prog w K mg base (some x) 2 "is_bound" ["thing"] W_is_bound := ⟨⟨_, _, ok_is_bound F6 m_isinstance m_str m_tuple m_len m_ZERO h_is_number h_is_name, PySem.W.mg_of X G a6, k6, b6⟩, mono_is_bound⟩
  have h_need_bounds : Has l.prog w K mg base (some x) 3 "need_bounds" ["bounds"] W_need_bounds := ⟨⟨_, _, ok_need_bounds F7 m_isinstance m_list m_tuple m_enumerate h_is_bound, PySem.W.mg_of X G a7, k7, b7⟩, mono_need_bounds⟩
  have h_is_ring_of : Has l.prog w K mg base (some x) 2 "is_ring_of" ["bounds", "thing"] W_is_ring := ⟨⟨_, _, ok_is_ring_of F8 m_isinstance m_list m_tuple m_len m_all m_zip m_sum h_is_number, PySem.W.mg_of X G a8, k8, b8⟩, mono_is_ring⟩
  have h_is_ring : Has l.prog w K mg base (some x) 4 "is_ring" ["bounds", "thing"] W_is_ring := ⟨⟨_, _, ok_is_ring F9 h_need_bounds h_is_ring_of, PySem.W.mg_of X G a9, k9, b9⟩, mono_is_ring⟩
  have h_law_pick : Has l.prog w K mg base (some x) 3 "_law_pick" ["_law_draw", "_law_some"] (W_pick x) := ⟨⟨_, _, ok_law_pick F10 m_len h_law_take, PySem.W.mg_of X G a10, k10, b10⟩, mono_pick⟩
  have h_law_mixed : Has l.prog w K mg base (some x) 3 "_law_mixed" ["_law_draw", "_law_some"] (W_mixed x) := ⟨⟨_, _, ok_law_mixed F11 m_len m_list h_law_take, PySem.W.mg_of X G a11, k11, b11⟩, mono_mixed⟩
  have h_law_words : Has l.prog w K mg base (some x) 4 "_law_words" ["_law_draw", "_law_count"] (W_words x) := ⟨⟨_, _, ok_law_words F12 m_range h_law_take h_law_pick, PySem.W.mg_of X G a12, k12, b12⟩, mono_words⟩
  have h_law_is_int : Has l.prog w K mg base (some x) 1 "_law_is_int" ["_law_matter"] W_is_number := ⟨⟨_, _, ok_law_is_int F13 m_isinstance m_int m_bool, PySem.W.mg_of X G a13, k13, b13⟩, mono_is_number⟩
  have h_law_is_ring : Has l.prog w K mg base (some x) 2 "_law_is_ring" ["_law_limits_here", "_law_matter"] W_law_is_ring := ⟨⟨_, _, ok_law_is_ring F14 m_isinstance m_list m_tuple m_len m_range h_law_is_int, PySem.W.mg_of X G a14, k14, b14⟩, mono_law_is_ring⟩
  have h_law_limits : Has l.prog w K mg base (some x) 4 "_law_limits" ["_law_draw", "_law_words_here", "_law_many", "_law_top"] (W_limits x) := ⟨⟨_, _, ok_law_limits F15 m_range h_law_take h_law_mixed, PySem.W.mg_of X G a15, k15, b15⟩, mono_limits⟩
  have h_law_round : Has l.prog w K mg base (some x) 4 "_law_round" ["_law_draw", "_law_limits_here"] (W_round x) := ⟨⟨_, _, ok_law_round F16 m_range m_len h_law_take h_law_pick, PySem.W.mg_of X G a16, k16, b16⟩, mono_round⟩
  have h_law_bent : Has l.prog w K mg base (some x) 4 "_law_bent" ["_law_draw", "_law_matter", "_law_many"] (W_bent x) := ⟨⟨_, _, ok_law_bent F17 m_len m_tuple h_law_take h_law_pick, PySem.W.mg_of X G a17, k17, b17⟩, mono_bent⟩
  exact ⟨h_law_take, h_law_pick, h_law_words, h_law_limits, h_law_round, h_law_bent, h_law_is_ring, h_is_ring⟩
end K16

open PySem PySem.W PyProof.Rows
set_option maxRecDepth 100000 in
set_option maxHeartbeats 0 in
theorem PySem.Challenge.cw_otherworths_k16_rings_judged_holds : PySem.Challenge.rw_otherworths_k16_rings_judged.Holds := by
  w_on; o_law; k_head; (case hw => w_witness2)
  k_fill
  refine DL.walk_law (l := PySem.Challenge.rw_otherworths_k16_rings_judged) (n := 63) (k := 5) (x := "_law_script") (sp := DL.spLaw) rfl (by decide) rfl ⟨rfl, by decide, by decide⟩ (fun w h Y => PySem.W.kIn_of Y) ?F (fun K H a ns hl hS => ⟨a, ns, rfl, hS, hl, fun _ _ e => e⟩)
  case F =>
    intro w mg fa h KX G hmg
    refine' K16.all_mk KX G hmg ?a1 ?l1 ?c1 ?k1 ?a2 ?l2 ?c2 ?k2 ?a3 ?l3 ?c3 ?k3 ?a4 ?l4 ?c4 ?k4 ?a5 ?l5 ?c5 ?k5 ?a6 ?l6 ?c6 ?k6 ?a7 ?l7 ?c7 ?k7 ?a8 ?l8 ?c8 ?k8 ?a9 ?l9 ?c9 ?k9 ?a10 ?l10 ?c10 ?k10 ?a11 ?l11 ?c11 ?k11 ?a12 ?l12 ?c12 ?k12 ?a13 ?l13 ?c13 ?k13 ?a14 ?l14 ?c14 ?k14 ?a15 ?l15 ?c15 ?k15 ?a16 ?l16 ?c16 ?k16 ?a17 ?l17 ?c17 ?k17 ?a18 ?l18 ?c18 ?k18 ?g1 ?e1 ?g2 ?e2 ?g3 ?e3 ?z1 ?z2 ?z3 ?z4 ?z5 ?z6 ?z7 ?z8 ?z9 ?z10 ?z11 ?z12 ?z13 ?z14 ?z15 ?z16
    (case a1 => k_is)
    (case l1 => k_is)
    (case c1 => k_is)
    (case k1 => k_is)
    (case a2 => k_is)
    (case l2 => k_is)
    (case c2 => k_is)
    (case k2 => k_is)
    (case a3 => k_is)
    (case l3 => k_is)
    (case c3 => k_is)
    (case k3 => k_is)
    (case a4 => k_is)
    (case l4 => k_is)
    (case c4 => k_is)
    (case k4 => k_is)
    (case a5 => k_is)
    (case l5 => k_is)
    (case c5 => k_is)
    (case k5 => k_is)
    (case a6 => k_is)
    (case l6 => k_is)
    (case c6 => k_is)
    (case k6 => k_is)
    (case a7 => k_is)
    (case l7 => k_is)
    (case c7 => k_is)
    (case k7 => k_is)
    (case a8 => k_is)
    (case l8 => k_is)
    (case c8 => k_is)
    (case k8 => k_is)
    (case a9 => k_is)
    (case l9 => k_is)
    (case c9 => k_is)
    (case k9 => k_is)
    (case a10 => k_is)
    (case l10 => k_is)
    (case c10 => k_is)
    (case k10 => k_is)
    (case a11 => k_is)
    (case l11 => k_is)
    (case c11 => k_is)
    (case k11 => k_is)
    (case a12 => k_is)
    (case l12 => k_is)
    (case c12 => k_is)
    (case k12 => k_is)
    (case a13 => k_is)
    (case l13 => k_is)
    (case c13 => k_is)
    (case k13 => k_is)
    (case a14 => k_is)
    (case l14 => k_is)
    (case c14 => k_is)
    (case k14 => k_is)
    (case a15 => k_is)
    (case l15 => k_is)
    (case c15 => k_is)
    (case k15 => k_is)
    (case a16 => k_is)
    (case l16 => k_is)
    (case c16 => k_is)
    (case k16 => k_is)
    (case a17 => k_is)
    (case l17 => k_is)
    (case c17 => k_is)
    (case k17 => k_is)
    (case a18 => k_is)
    (case l18 => k_is)
    (case c18 => k_is)
    (case k18 => k_is)
    (case g1 => k_is)
    (case e1 => exact ⟨_, rfl⟩)
    (case g2 => k_is)
    (case e2 => exact ⟨_, rfl⟩)
    (case g3 => k_is)
    (case e3 => exact ⟨_, rfl⟩)
    (case z1 => k_is)
    (case z2 => k_is)
    (case z3 => k_is)
    (case z4 => k_is)
    (case z5 => k_is)
    (case z6 => k_is)
    (case z7 => k_is)
    (case z8 => k_is)
    (case z9 => k_is)
    (case z10 => k_is)
    (case z11 => k_is)
    (case z12 => k_is)
    (case z13 => k_is)
    (case z14 => k_is)
    (case z15 => k_is)
    (case z16 => k_is)
#print axioms PySem.Challenge.cw_otherworths_k16_rings_judged_holds

